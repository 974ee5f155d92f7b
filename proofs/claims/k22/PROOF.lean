import PyProof.Rows.All
import Wide.All
import OpenK.AllK
import Wide.FinOn
import HandS.ForMost
import HandS.Walk
import HandS.Deep
import HandS.TupAny
import HandS.WideBits
import HandS.Wide
import HandS.Style
import HandS.Flow
import HandS.More
import HandS.Conv
import HandS.NoneIn
import HandS.TupMul
import HandS.Records
import HandS.Iter
import HandS.Zip
import HandS.Comp
import HandS.ListItems
import HandS.Words
import HandS.Small
import HandS.SortInts
import HandS.Head0
import HandS.Head1
import HandS.Head2
import HandS.HeadEnd
import HandS.HeadHook1
import HandS.HeadHook2
import PySem.Challenge.RW_paperark_k22_whole_droplets_gathered
section
set_option Elab.async false
set_option linter.all false
set_option maxRecDepth 100000
set_option maxHeartbeats 4000000
/-! DL: a layer of data over the hand layer: immutable data trees, owned lists, dicts and objects. -/
namespace DL
open PySem L2

theorem gl {α : Type} {l m : List α} {k : Nat} (h : k < l.length) : (l ++ m)[k]? = l[k]? := List.getElem?_append_left h
theorem gr {α : Type} {l m : List α} {k : Nat} (h : l.length ≤ k) : (l ++ m)[k]? = m[k - l.length]? := List.getElem?_append_right h
/-! ### data -/
inductive D where
  | non | bl (b : Bool) | int (i : Int) | str (x : Str)
  | lst (xs : List D) | tup (xs : List D)
  | dK (kvs : List (Key × D)) | dT (kvs : List (List Key × D))
  | obj (C : Addr) (fs : List (Str × D))
  | ref (a : Addr)
  | wl (xs : List D) | wt (xs : List D)

theorem Same.seqT {K : PySem.W.Frag} {H H' : Hp} {a : Addr} {xs : List V} (e : Same H H') (h : SqT K H a xs) : SqT K H' a xs := by
  rcases h with (h | ⟨o, h⟩) | h
  · exact .inl (.inl (e _ _ h))
  · exact .inl (.inr ⟨o, e _ _ h⟩)
  · exact .inr h
theorem Same.rd {H H' : Hp} {a : Addr} {u : HO} (e : Same H H') (h : Rd H a u) : Rd H' a u := by
  rcases h with h | ⟨o, h⟩
  · exact .inl (e _ _ h)
  · exact .inr ⟨o, e _ _ h⟩

mutual
inductive Rep (K : PySem.W.Frag) (I : Hp) : V → D → Prop
  | non : Rep K I .non .non
  | bl (b : Bool) : Rep K I (.bl b) (.bl b)
  | int (i : Int) : Rep K I (.int i) (.int i)
  | str (x : Str) : Rep K I (.str x) (.str x)
  | ref (a : Addr) : Rep K I (.ref a) (.ref a)
  | wl {a : Addr} {vs : List V} {ds : List D} : SqL K I a vs → Reps K I vs ds → Rep K I (.ref a) (.wl ds)
  | lst {a : Addr} {vs : List V} {ds : List D} : I a = some (.lst vs) → Reps K I vs ds → Rep K I (.ref a) (.lst ds)
  | wt {a : Addr} {vs : List V} {ds : List D} : SqT K I a vs → Reps K I vs ds → Rep K I (.ref a) (.wt ds)
  | tup {a : Addr} {vs : List V} {ds : List D} : I a = some (.tup vs) → Reps K I vs ds → Rep K I (.ref a) (.tup ds)
  | dK {a : Addr} {vs : List (Key × V)} {ds : List (Key × D)} : Rd I a (.dK vs) → RepP K I vs ds → Rep K I (.ref a) (.dK ds)
  | dT {a : Addr} {vs : List (List Key × V)} {ds : List (List Key × D)} : Rd I a (.dT vs) → RepP K I vs ds → Rep K I (.ref a) (.dT ds)
  | obj {a C dx : Addr} {vs : List (Str × V)} {ds : List (Str × D)} : I a = some (.ins C dx vs) → RepP K I vs ds → Rep K I (.ref a) (.obj C ds)
inductive Reps (K : PySem.W.Frag) (I : Hp) : List V → List D → Prop
  | nil : Reps K I [] []
  | cons {v : V} {d : D} {vs : List V} {ds : List D} : Rep K I v d → Reps K I vs ds → Reps K I (v :: vs) (d :: ds)
inductive RepP (K : PySem.W.Frag) (I : Hp) : {κ : Type} → List (κ × V) → List (κ × D) → Prop
  | nil {κ : Type} : RepP K I (κ := κ) [] []
  | cons {κ : Type} {k : κ} {v : V} {d : D} {vs : List (κ × V)} {ds : List (κ × D)} : Rep K I v d → RepP K I vs ds → RepP K I ((k, v) :: vs) ((k, d) :: ds)
end

section
variable {K : PySem.W.Frag} {I I' H : Hp}
mutual
theorem Rep.mono (m : Same I I') : ∀ {v : V} {d : D}, Rep K I v d → Rep K I' v d
  | _, _, .non => .non
  | _, _, .bl b => .bl b
  | _, _, .int b => .int b
  | _, _, .str b => .str b
  | _, _, .ref b => .ref b
  | _, _, .wl h r => .wl (L2.Same.seq m h) (Reps.mono m r)
  | _, _, .lst h r => .lst (m _ _ h) (Reps.mono m r)
  | _, _, .wt h r => .wt (Same.seqT m h) (Reps.mono m r)
  | _, _, .tup h r => .tup (m _ _ h) (Reps.mono m r)
  | _, _, .dK h r => .dK (Same.rd m h) (RepP.mono m r)
  | _, _, .dT h r => .dT (Same.rd m h) (RepP.mono m r)
  | _, _, .obj h r => .obj (m _ _ h) (RepP.mono m r)
theorem Reps.mono (m : Same I I') : ∀ {v : List V} {d : List D}, Reps K I v d → Reps K I' v d
  | _, _, .nil => .nil
  | _, _, .cons h r => .cons (Rep.mono m h) (Reps.mono m r)
theorem RepP.mono (m : Same I I') : ∀ {κ : Type} {v : List (κ × V)} {d : List (κ × D)}, RepP K I v d → RepP K I' v d
  | _, _, _, .nil => .nil
  | _, _, _, .cons h r => .cons (Rep.mono m h) (RepP.mono m r)
end

theorem Reps.length : ∀ {v : List V} {d : List D}, Reps K I v d → v.length = d.length
  | _, _, .nil => rfl
  | _, _, .cons _ r => by rw [List.length_cons, List.length_cons, Reps.length r]
theorem RepP.length {κ : Type} : ∀ {v : List (κ × V)} {d : List (κ × D)}, RepP K I v d → v.length = d.length
  | _, _, .nil => rfl
  | _, _, .cons _ r => by rw [List.length_cons, List.length_cons, RepP.length r]
theorem Reps.append : ∀ {v w : List V} {d e : List D}, Reps K I v d → Reps K I w e → Reps K I (v ++ w) (d ++ e)
  | _, _, _, _, .nil, s => s
  | _, _, _, _, .cons h r, s => .cons h (Reps.append r s)
theorem RepP.append {κ : Type} : ∀ {v w : List (κ × V)} {d e : List (κ × D)}, RepP K I v d → RepP K I w e → RepP K I (v ++ w) (d ++ e)
  | _, _, _, _, .nil, s => s
  | _, _, _, _, .cons h r, s => .cons h (RepP.append r s)
theorem Reps.get : ∀ {v : List V} {d : List D} {i : Nat} {x : D}, Reps K I v d → d[i]? = some x → ∃ u, v[i]? = some u ∧ Rep K I u x
  | _, _, _, _, .nil, e => by simp at e
  | _, _, 0, _, .cons h _, e => by simp at e; subst e; exact ⟨_, rfl, h⟩
  | _, _, i + 1, _, .cons _ r, e => by
    obtain ⟨u, h1, h2⟩ := Reps.get (i := i) r (by simpa using e)
    exact ⟨u, by simpa using h1, h2⟩
theorem Reps.getV : ∀ {v : List V} {d : List D} {i : Nat} {u : V}, Reps K I v d → v[i]? = some u → ∃ x, d[i]? = some x ∧ Rep K I u x
  | _, _, _, _, .nil, e => by simp at e
  | _, _, 0, _, .cons h _, e => by simp at e; subst e; exact ⟨_, rfl, h⟩
  | _, _, i + 1, _, .cons _ r, e => by
    obtain ⟨u, h1, h2⟩ := Reps.getV (i := i) r (by simpa using e)
    exact ⟨u, by simpa using h1, h2⟩
theorem Reps.set : ∀ {v : List V} {d : List D} (i : Nat) {u : V} {x : D}, Reps K I v d → Rep K I u x → Reps K I (v.set i u) (d.set i x)
  | _, _, _, _, _, .nil, _ => .nil
  | _, _, 0, _, _, .cons _ r, s => .cons s r
  | _, _, i + 1, _, _, .cons h r, s => .cons h (Reps.set i r s)
theorem Reps.take : ∀ {v : List V} {d : List D} (n : Nat), Reps K I v d → Reps K I (v.take n) (d.take n)
  | _, _, 0, _ => .nil
  | _, _, _ + 1, .nil => .nil
  | _, _, n + 1, .cons h r => .cons h (Reps.take n r)
theorem Reps.drop : ∀ {v : List V} {d : List D} (n : Nat), Reps K I v d → Reps K I (v.drop n) (d.drop n)
  | _, _, 0, r => r
  | _, _, _ + 1, .nil => .nil
  | _, _, n + 1, .cons _ r => Reps.drop n r
theorem Reps.reverse {v : List V} {d : List D} (h : Reps K I v d) : Reps K I v.reverse d.reverse := by
  induction v generalizing d with
  | nil => cases h; exact .nil
  | cons x xs ih => cases h with
    | cons h r => rw [List.reverse_cons, List.reverse_cons]; exact (ih r).append (.cons h .nil)
theorem Reps.dropLast {v : List V} {d : List D} (h : Reps K I v d) : Reps K I v.dropLast d.dropLast := by
  rw [List.dropLast_eq_take, List.dropLast_eq_take, h.length]; exact h.take _
theorem Reps.eraseIdx : ∀ {v : List V} {d : List D} (i : Nat), Reps K I v d → Reps K I (v.eraseIdx i) (d.eraseIdx i)
  | _, _, _, .nil => .nil
  | _, _, 0, .cons _ r => r
  | _, _, i + 1, .cons h r => .cons h (Reps.eraseIdx i r)
theorem Reps.ints : ∀ (ns : List Int), Reps K I (ns.map V.int) (ns.map D.int)
  | [] => .nil
  | n :: ns => .cons (.int n) (Reps.ints ns)
theorem Reps.ints_of : ∀ {ns : List Int} {vs : List V}, Reps K I vs (ns.map D.int) → vs = ns.map V.int
  | [], _, h => by cases h; rfl
  | n :: ns, _, h => by cases h with | cons h r => cases h; rw [Reps.ints_of r, List.map_cons]
theorem Reps.bls_of : ∀ {ns : List Bool} {vs : List V}, Reps K I vs (ns.map D.bl) → vs = ns.map V.bl
  | [], _, h => by cases h; rfl
  | n :: ns, _, h => by cases h with | cons h r => cases h; rw [Reps.bls_of r, List.map_cons]
theorem Reps.strs_of : ∀ {ns : List Str} {vs : List V}, Reps K I vs (ns.map D.str) → vs = ns.map V.str
  | [], _, h => by cases h; rfl
  | n :: ns, _, h => by cases h with | cons h r => cases h; rw [Reps.strs_of r, List.map_cons]
theorem Reps.strs : ∀ (ns : List Str), Reps K I (ns.map V.str) (ns.map D.str)
  | [] => .nil
  | n :: ns => .cons (.str n) (Reps.strs ns)
theorem RepP.lookup {κ : Type} [BEq κ] : ∀ {v : List (κ × V)} {d : List (κ × D)} {k : κ} {x : D}, RepP K I v d → d.lookup k = some x → ∃ u, v.lookup k = some u ∧ Rep K I u x
  | _, _, _, _, .nil, e => by simp at e
  | _, _, k, x, .cons (k := j) h r, e => by
    rw [List.lookup_cons] at e ⊢
    cases hb : k == j with
    | true => rw [hb] at e; cases e; exact ⟨_, rfl, h⟩
    | false => rw [hb] at e; exact RepP.lookup r e
end

/-! ### owned things -/
inductive Ob where
  | lst (xs : List D) | dK (kvs : List (Key × D)) | dT (kvs : List (List Key × D))
inductive Fv where
  | im (d : D) | ob (o : Ob)
inductive Ow where
  | ob (o : Ob) | ins (C : Addr) (fs : List (Str × Fv))
/-- made since the entry, or the entry's k-th argument -/
inductive Pin where
  | fresh | arg (k : Nat)
inductive Slot where
  | un | im (d : D) | ow (p : Pin) (o : Ow) | vl (v : V)
abbrev Env := List Slot

def Ob.toD : Ob → D
  | .lst xs => .lst xs
  | .dK kvs => .dK kvs
  | .dT kvs => .dT kvs
def Fv.toD : Fv → D
  | .im d => d
  | .ob o => o.toD
def fsD (fs : List (Str × Fv)) : List (Str × D) := fs.map fun p => (p.1, p.2.toD)
def Ow.toD : Ow → D
  | .ob o => o.toD
  | .ins C fs => .obj C (fsD fs)

section
variable (K : PySem.W.Frag) (H I : Hp)
inductive RepO : HO → Ob → Prop
  | lst {vs : List V} {ds : List D} : Reps K I vs ds → RepO (.lst vs) (.lst ds)
  | dK {vs : List (Key × V)} {ds : List (Key × D)} : RepP K I vs ds → RepO (.dK vs) (.dK ds)
  | dT {vs : List (List Key × V)} {ds : List (List Key × D)} : RepP K I vs ds → RepO (.dT vs) (.dT ds)
inductive OwnB : V → Ob → List Addr → Prop
  | mk {a : Addr} {h : HO} {o : Ob} : H a = some h → RepO K I h o → OwnB (.ref a) o [a]
inductive OwnF : V → Fv → List Addr → Prop
  | im {v : V} {d : D} : Rep K I v d → OwnF v (.im d) []
  | ob {v : V} {o : Ob} {L : List Addr} : OwnB K H I v o L → OwnF v (.ob o) L
inductive OwnFs : List (Str × V) → List (Str × Fv) → List Addr → Prop
  | nil : OwnFs [] [] []
  | cons {k : Str} {v : V} {f : Fv} {L M : List Addr} {vs : List (Str × V)} {fs : List (Str × Fv)} : OwnF K H I v f L → OwnFs vs fs M → OwnFs ((k, v) :: vs) ((k, f) :: fs) (L ++ M)
inductive Own : V → Ow → List Addr → Prop
  | ob {v : V} {o : Ob} {L : List Addr} : OwnB K H I v o L → Own v (.ob o) L
  | ins {a C dx : Addr} {vs : List (Str × V)} {fs : List (Str × Fv)} {L : List Addr} : H a = some (.ins C dx vs) → OwnFs K H I vs fs L → Own (.ref a) (.ins C fs) (a :: L)
end

section
variable {K : PySem.W.Frag} {H H' I I' : Hp}
theorem RepO.mono (m : Same I I') {h : HO} {o : Ob} : RepO K I h o → RepO K I' h o
  | .lst r => .lst (r.mono m)
  | .dK r => .dK (r.mono m)
  | .dT r => .dT (r.mono m)
theorem OwnB.keep (m : Same I I') {v : V} {o : Ob} {L : List Addr} (h : OwnB K H I v o L) (k : ∀ a ∈ L, H' a = H a) : OwnB K H' I' v o L := by
  cases h with
  | mk h r => exact .mk (by rw [k _ (by simp)]; exact h) (r.mono m)
theorem OwnF.keep (m : Same I I') {v : V} {o : Fv} {L : List Addr} (h : OwnF K H I v o L) (k : ∀ a ∈ L, H' a = H a) : OwnF K H' I' v o L := by
  cases h with
  | im r => exact .im (r.mono m)
  | ob r => exact .ob (r.keep m k)
theorem OwnFs.keep (m : Same I I') : ∀ {v : List (Str × V)} {o : List (Str × Fv)} {L : List Addr}, OwnFs K H I v o L → (∀ a ∈ L, H' a = H a) → OwnFs K H' I' v o L
  | _, _, _, .nil, _ => .nil
  | _, _, _, .cons h r, k => .cons (h.keep m fun a q => k a (List.mem_append_left _ q)) (OwnFs.keep m r fun a q => k a (List.mem_append_right _ q))
theorem Own.keep (m : Same I I') {v : V} {o : Ow} {L : List Addr} (h : Own K H I v o L) (k : ∀ a ∈ L, H' a = H a) : Own K H' I' v o L := by
  cases h with
  | ob h => exact .ob (h.keep m k)
  | ins h r => exact .ins (by rw [k _ (by simp)]; exact h) (r.keep m fun a q => k a (List.mem_cons_of_mem _ q))
theorem OwnB.has {v : V} {o : Ob} {L : List Addr} (h : OwnB K H I v o L) : ∀ a ∈ L, H a ≠ none := by
  cases h with
  | mk h r => intro a q; rw [List.mem_singleton.mp q, h]; simp
theorem OwnF.has {v : V} {o : Fv} {L : List Addr} (h : OwnF K H I v o L) : ∀ a ∈ L, H a ≠ none := by
  cases h with
  | im r => intro a q; simp at q
  | ob r => exact r.has
theorem OwnFs.has : ∀ {v : List (Str × V)} {o : List (Str × Fv)} {L : List Addr}, OwnFs K H I v o L → ∀ a ∈ L, H a ≠ none
  | _, _, _, .nil => fun a q => by simp at q
  | _, _, _, .cons h r => fun a q => (List.mem_append.mp q).elim (h.has a) (OwnFs.has r a)
theorem Own.has {v : V} {o : Ow} {L : List Addr} (h : Own K H I v o L) : ∀ a ∈ L, H a ≠ none := by
  cases h with
  | ob h => exact h.has
  | ins h r => intro a q; rcases List.mem_cons.mp q with rfl | q; rw [h]; simp; exact r.has a q
/-- as seen in the whole heap -/
theorem RepO.rep (m : Same I H) {a : Addr} {h : HO} {o : Ob} (e : H a = some h) : RepO K I h o → Rep K H (.ref a) o.toD
  | .lst r => .lst e (r.mono m)
  | .dK r => .dK (.inl e) (r.mono m)
  | .dT r => .dT (.inl e) (r.mono m)
theorem OwnB.rep (m : Same I H) {v : V} {o : Ob} {L : List Addr} (h : OwnB K H I v o L) : Rep K H v o.toD := by
  cases h with
  | mk h r => exact r.rep m h
theorem OwnF.rep (m : Same I H) {v : V} {o : Fv} {L : List Addr} (h : OwnF K H I v o L) : Rep K H v o.toD := by
  cases h with
  | im r => exact r.mono m
  | ob r => exact r.rep m
theorem OwnFs.rep (m : Same I H) : ∀ {v : List (Str × V)} {o : List (Str × Fv)} {L : List Addr}, OwnFs K H I v o L → RepP K H v (fsD o)
  | _, _, _, .nil => .nil
  | _, _, _, .cons h r => .cons (h.rep m) (OwnFs.rep m r)
theorem Own.rep (m : Same I H) {v : V} {o : Ow} {L : List Addr} (h : Own K H I v o L) : Rep K H v o.toD := by
  cases h with
  | ob h => exact h.rep m
  | ins h r => exact .obj h (r.rep m)
theorem OwnFs.lookup : ∀ {v : List (Str × V)} {o : List (Str × Fv)} {L : List Addr} {k : Str} {x : Fv}, OwnFs K H I v o L → o.lookup k = some x → ∃ u M, v.lookup k = some u ∧ OwnF K H I u x M ∧ (∀ a ∈ M, a ∈ L)
  | _, _, _, _, _, .nil, e => by simp at e
  | _, _, _, k, x, .cons (k := j) h r, e => by
    rw [List.lookup_cons] at e ⊢
    cases hb : k == j with
    | true => rw [hb] at e; cases e; exact ⟨_, _, rfl, h, fun a q => List.mem_append_left _ q⟩
    | false =>
      rw [hb] at e
      obtain ⟨u, M, h1, h2, h3⟩ := OwnFs.lookup r e
      exact ⟨u, M, h1, h2, fun a q => List.mem_append_right _ (h3 a q)⟩
end

/-! ### the state -/
structure Ent where
  I0 : Hp
  H0 : Hp
  L0 : Nat → List Addr
  vs : List V

def PinOk (E : Ent) (v : V) (L : List Addr) : Pin → Prop
  | .fresh => ∀ a ∈ L, E.H0 a = none
  | .arg k => E.vs[k]? = some v ∧ ∀ a ∈ L, E.H0 a = none ∨ a ∈ E.L0 k
def SlotOk (K : PySem.W.Frag) (E : Ent) (H I : Hp) (sv : Option (Option V)) : Option Slot → List Addr → Prop
  | none, L => L = []
  | some .un, L => L = []
  | some (.vl v), L => L = [] ∧ sv = some (some v)
  | some (.im d), L => L = [] ∧ ∃ v, sv = some (some v) ∧ Rep K I v d
  | some (.ow p o), L => ∃ v, sv = some (some v) ∧ Own K H I v o L ∧ PinOk E v L p

structure Sta (K : PySem.W.Frag) (E : Ent) (I : Hp) (δ : Env) (σ : St) (H : Hp) : Prop where
  le : Same I H
  i0 : Same E.I0 I
  ix : ∀ a, E.H0 a ≠ none → I a = E.I0 a
  th : ∀ a, E.H0 a ≠ none → H a ≠ none
  fr : ∀ a o, E.H0 a = some o → (∀ k, a ∉ E.L0 k) → H a = some o
  len : σ.length = δ.length
  own : ∃ L : Nat → List Addr, (∀ i, SlotOk K E H I σ[i]? δ[i]? (L i)) ∧ (∀ i, (L i).Nodup) ∧ (∀ i j a, a ∈ L i → a ∈ L j → i = j) ∧ (∀ i a, a ∈ L i → I a = none)

section
variable {K : PySem.W.Frag} {E : Ent} {I I' H H' : Hp} {δ : Env} {σ : St} {i : Nat} {d : D} {v : V} {o : Ow} {p : Pin}

theorem SlotOk.has {sv : Option (Option V)} {s : Option Slot} {L : List Addr} (h : SlotOk K E H I sv s L) : ∀ a ∈ L, H a ≠ none := by
  intro a q
  match s, h with
  | none, h => rw [show L = [] from h] at q; simp at q
  | some .un, h => rw [show L = [] from h] at q; simp at q
  | some (.vl v), h => rw [h.1] at q; simp at q
  | some (.im d), h => rw [h.1] at q; simp at q
  | some (.ow p o), h => obtain ⟨v, _, h, _⟩ := h; exact h.has a q
theorem SlotOk.keep (m : Same I I') {sv : Option (Option V)} {s : Option Slot} {L : List Addr} (h : SlotOk K E H I sv s L) (k : ∀ a ∈ L, H' a = H a) : SlotOk K E H' I' sv s L := by
  match s, h with
  | none, h => exact h
  | some .un, h => exact h
  | some (.vl v), h => exact h
  | some (.im d), h => obtain ⟨h1, v, h2, h3⟩ := h; exact ⟨h1, v, h2, h3.mono m⟩
  | some (.ow p o), h => obtain ⟨v, h1, h2, h3⟩ := h; exact ⟨v, h1, h2.keep m k, h3⟩

theorem Sta.im_get (S : Sta K E I δ σ H) (h : δ[i]? = some (.im d)) : ∃ v, σ[i]? = some (some v) ∧ Rep K I v d := by
  obtain ⟨L, h1, _⟩ := S.own
  have := h1 i
  rw [h] at this
  exact this.2
theorem Sta.ow_get (S : Sta K E I δ σ H) (h : δ[i]? = some (.ow p o)) : ∃ v L, σ[i]? = some (some v) ∧ Own K H I v o L := by
  obtain ⟨L, h1, _⟩ := S.own
  have := h1 i
  rw [h] at this
  obtain ⟨v, h1, h2, _⟩ := this
  exact ⟨v, L i, h1, h2⟩
theorem Sta.ext (S : Sta K E I δ σ H) (hH : Same H H') (hI : Same I I') (le : Same I' H') (hf : ∀ a, H a ≠ none → I' a = I a) : Sta K E I' δ σ H' := by
  obtain ⟨le0, i0, ix, th, fr, len, L, h1, h2, h3, h4⟩ := S
  have kp : ∀ a, H a ≠ none → H' a = H a := fun a q => by
    cases e : H a with
    | none => exact absurd e q
    | some o => exact hH a o e
  refine ⟨le, i0.trans hI, fun a q => (hf a (th a q)).trans (ix a q), fun a q => by rw [kp a (th a q)]; exact th a q, fun a o q n => hH a o (fr a o q n), len, L, fun i => (h1 i).keep hI fun a q => kp a ((h1 i).has a q), h2, h3, fun i a q => ?_⟩
  rw [hf a ((h1 i).has a q)]; exact h4 i a q
theorem same_upd {a : Addr} {h : HO} (n : H a = none) : Same H (upd H a h) := fun b o e => by
  rw [upd_ne (ne_of_none e n)]; exact e
theorem Sta.free (S : Sta K E I δ σ H) {a : Addr} (n : H a = none) : I a = none := by
  cases e : I a with
  | none => rfl
  | some o => rw [S.le a o e] at n; cases n
/-- a new object that is immutable from now on -/
theorem Sta.alloc (S : Sta K E I δ σ H) {a : Addr} {h : HO} (n : H a = none) : Sta K E (upd I a h) δ σ (upd H a h) := by
  refine S.ext (same_upd n) (same_upd (S.free n)) (fun b o e => ?_) fun b q => ?_
  · by_cases hb : b = a
    · subst hb; rw [upd_same] at e ⊢; exact e
    · rw [upd_ne hb] at e ⊢; exact S.le b o e
  · rw [upd_ne (fun z => q (by rw [z]; exact n))]
/-- a name gets immutable data -/
theorem Sta.set_im (S : Sta K E I δ σ H) (r : Rep K I v d) : Sta K E I (δ.set i (.im d)) (σ.set i (some v)) H := by
  obtain ⟨le, i0, ix, th, fr, len, L, h1, h2, h3, h4⟩ := S
  refine ⟨le, i0, ix, th, fr, by simp [len], fun k => if k = i then [] else L k, fun k => ?_, fun k => ?_, fun j k a q1 q2 => ?_, fun k a q => ?_⟩
  · by_cases hk : k = i
    · subst hk
      dsimp only; rw [if_pos rfl]
      by_cases hl : k < δ.length
      · rw [List.getElem?_set_self hl, List.getElem?_set_self (by omega)]; exact ⟨rfl, v, rfl, r⟩
      · rw [List.getElem?_eq_none (by simp; omega), List.getElem?_eq_none (by simp; omega)]; rfl
    · dsimp only; rw [if_neg hk]
      rw [List.getElem?_set_ne (Ne.symm hk), List.getElem?_set_ne (Ne.symm hk)]; exact h1 k
  · by_cases hk : k = i
    · simp [hk]
    · simp only [if_neg hk]; exact h2 k
  · by_cases hj : j = i
    · simp [hj] at q1
    · by_cases hk : k = i
      · simp [hk] at q2
      · simp only [if_neg hj] at q1; simp only [if_neg hk] at q2; exact h3 j k a q1 q2
  · by_cases hk : k = i
    · simp [hk] at q
    · simp only [if_neg hk] at q; exact h4 k a q
/-- the last place is dropped -/
theorem Sta.pop {s : Slot} {x : Option V} (S : Sta K E I (δ ++ [s]) (σ ++ [x]) H) : Sta K E I δ σ H := by
  obtain ⟨le, i0, ix, th, fr, len, L, h1, h2, h3, h4⟩ := S
  have hl : σ.length = δ.length := by simpa using len
  refine ⟨le, i0, ix, th, fr, hl, fun k => if k < δ.length then L k else [], fun k => ?_, fun k => ?_, fun j k a q1 q2 => ?_, fun k a q => ?_⟩
  · by_cases hk : k < δ.length
    · dsimp only; rw [if_pos hk]
      have := h1 k
      rwa [List.getElem?_append_left hk, List.getElem?_append_left (by omega)] at this
    · dsimp only; rw [if_neg hk]
      rw [List.getElem?_eq_none (l := δ) (by omega)]; rfl
  · dsimp only
    split
    · exact h2 k
    · simp
  · dsimp only at q1 q2
    split at q1
    · split at q2
      · exact h3 j k a q1 q2
      · simp at q2
    · simp at q1
  · dsimp only at q
    split at q
    · exact h4 k a q
    · simp at q
/-- a new owned thing on top -/
theorem Sta.push (S : Sta K E I δ σ H) (hH : Same H H') {L' : List Addr} (hn : ∀ a ∈ L', H a = none) (nd : L'.Nodup) (ow : Own K H' I v o L') : Sta K E I (δ ++ [.ow .fresh o]) (σ ++ [some v]) H' := by
  obtain ⟨le, i0, ix, th, fr, len, L, h1, h2, h3, h4⟩ := S
  have kp : ∀ a, H a ≠ none → H' a = H a := fun a q => by
    cases e : H a with
    | none => exact absurd e q
    | some o => exact hH a o e
  have E0 : ∀ a ∈ L', E.H0 a = none := fun a q => by
    cases e : E.H0 a with
    | none => rfl
    | some z => exact absurd (hn a q) (th a (by rw [e]; simp))
  have In : ∀ a ∈ L', I a = none := fun a q => by
    cases e : I a with
    | none => rfl
    | some z => have := le a z e; rw [hn a q] at this; cases this
  have nodis : ∀ k a, a ∈ L k → a ∈ L' → False := fun k a q1 q2 => (h1 k).has a q1 (hn a q2)
  have big : ∀ k, δ.length ≤ k → L k = [] := fun k hk => by
    have := h1 k
    rw [List.getElem?_eq_none hk] at this
    exact this
  refine ⟨fun a z e => hH a z (le a z e), i0, ix, fun a q => by rw [kp a (th a q)]; exact th a q, fun a z q n => hH a z (fr a z q n), by simp [len], fun k => if k = δ.length then L' else L k, fun k => ?_, fun k => ?_, fun j k a q1 q2 => ?_, fun k a q => ?_⟩
  · by_cases hk : k = δ.length
    · subst hk
      dsimp only; rw [if_pos rfl]
      rw [List.getElem?_append_right (Nat.le_refl _), List.getElem?_append_right (by omega)]
      simp only [Nat.sub_self, len, List.getElem?_cons_zero]
      exact ⟨v, rfl, ow, E0⟩
    · dsimp only; rw [if_neg hk]
      by_cases hl : k < δ.length
      · rw [List.getElem?_append_left hl, List.getElem?_append_left (by omega)]
        exact (h1 k).keep (L2.Same.refl _) fun a q => kp a ((h1 k).has a q)
      · rw [List.getElem?_eq_none (by simp; omega), List.getElem?_eq_none (by simp; omega), big k (by omega)]; rfl
  · dsimp only
    split
    · exact nd
    · exact h2 k
  · dsimp only at q1 q2
    split at q1
    · rename_i hj
      split at q2
      · rename_i hk; rw [hj, hk]
      · exact (nodis k a q2 q1).elim
    · split at q2
      · exact (nodis j a q1 q2).elim
      · exact h3 j k a q1 q2
  · dsimp only at q
    split at q
    · exact In a q
    · exact h4 k a q
/-- the top goes to a name -/
theorem Sta.move (S : Sta K E I (δ ++ [.ow .fresh o]) (σ ++ [some v]) H) (hi : i < δ.length) : Sta K E I (δ.set i (.ow .fresh o)) (σ.set i (some v)) H := by
  obtain ⟨le, i0, ix, th, fr, len, L, h1, h2, h3, h4⟩ := S
  have hl : σ.length = δ.length := by simpa using len
  have top := h1 δ.length
  rw [List.getElem?_append_right (Nat.le_refl _), List.getElem?_append_right (by omega)] at top
  simp only [Nat.sub_self, hl, List.getElem?_cons_zero] at top
  obtain ⟨v', e1, ow, fre⟩ := top
  cases e1
  refine ⟨le, i0, ix, th, fr, by simp [hl], fun k => if k = i then L δ.length else if k < δ.length then L k else [], fun k => ?_, fun k => ?_, fun j k a q1 q2 => ?_, fun k a q => ?_⟩
  · by_cases hk : k = i
    · subst hk
      dsimp only; rw [if_pos rfl]
      rw [List.getElem?_set_self hi, List.getElem?_set_self (by omega)]
      exact ⟨v, rfl, ow, fre⟩
    · dsimp only; rw [if_neg hk]
      rw [List.getElem?_set_ne (Ne.symm hk), List.getElem?_set_ne (Ne.symm hk)]
      by_cases hk2 : k < δ.length
      · rw [if_pos hk2]
        have := h1 k
        rwa [List.getElem?_append_left hk2, List.getElem?_append_left (by omega)] at this
      · rw [if_neg hk2]
        rw [List.getElem?_eq_none (l := δ) (by omega)]; rfl
  · dsimp only
    split
    · exact h2 _
    · split
      · exact h2 _
      · simp
  · dsimp only at q1 q2
    split at q1
    · rename_i hj
      split at q2
      · rename_i hk; rw [hj, hk]
      · split at q2
        · rename_i hk; have := h3 _ _ a q1 q2; omega
        · simp at q2
    · split at q1
      · rename_i hj
        split at q2
        · have := h3 _ _ a q1 q2; omega
        · split at q2
          · exact h3 _ _ a q1 q2
          · simp at q2
      · simp at q1
  · dsimp only at q
    split at q
    · exact h4 _ a q
    · split at q
      · exact h4 _ a q
      · simp at q
/-- an owned thing changes -/
theorem Sta.mut (S : Sta K E I δ σ H) (hi : δ[i]? = some (.ow p o)) : ∃ v L, σ[i]? = some (some v) ∧ Own K H I v o L ∧ L.Nodup ∧ (∀ a ∈ L, I a = none) ∧
    ∀ (H' : Hp) (o' : Ow) (L' : List Addr), Own K H' I v o' L' → L'.Nodup → (∀ a ∈ L', a ∈ L ∨ H a = none) → (∀ a, a ∉ L → H a ≠ none → H' a = H a) → (∀ a, H a ≠ none → H' a ≠ none) →
      Sta K E I (δ.set i (.ow p o')) σ H' := by
  obtain ⟨le, i0, ix, th, fr, len, L, h1, h2, h3, h4⟩ := S
  have me := h1 i
  rw [hi] at me
  obtain ⟨v, e1, ow, pin⟩ := me
  have hil : i < δ.length := by
    rcases Nat.lt_or_ge i δ.length with z | z
    · exact z
    · rw [List.getElem?_eq_none z] at hi; cases hi
  refine ⟨v, L i, e1, ow, h2 i, fun a q => h4 i a q, fun H' o' L' ow' nd' sub out the => ?_⟩
  have fresh : ∀ a, H a = none → E.H0 a = none := fun a q => by
    cases e : E.H0 a with
    | none => rfl
    | some z => exact absurd q (th a (by rw [e]; simp))
  have Inn : ∀ a, H a = none → I a = none := fun a q => by
    cases e : I a with
    | none => rfl
    | some z => have := le a z e; rw [q] at this; cases this
  refine ⟨fun a z e => ?_, i0, ix, fun a q => the a (th a q), fun a z q n => ?_, by simp [len], fun k => if k = i then L' else L k, fun k => ?_, fun k => ?_, fun j k a q1 q2 => ?_, fun k a q => ?_⟩
  · have h := le a z e
    rw [out a (fun q => by rw [h4 i a q] at e; cases e) (by rw [h]; simp)]; exact h
  · have h := fr a z q n
    rw [out a (fun w => ?_) (by rw [h]; simp)]
    · exact h
    · cases p with
      | fresh => have := pin a w; rw [q] at this; cases this
      | arg k => rcases pin.2 a w with w | w
                 · rw [q] at w; cases w
                 · exact n k w
  · by_cases hk : k = i
    · subst hk
      dsimp only; rw [if_pos rfl]
      rw [List.getElem?_set_self hil]
      refine ⟨v, e1, ow', ?_⟩
      cases p with
      | fresh => exact fun a q => (sub a q).elim (pin a) (fresh a)
      | arg k => exact ⟨pin.1, fun a q => (sub a q).elim (pin.2 a) fun z => .inl (fresh a z)⟩
    · dsimp only; rw [if_neg hk]
      rw [List.getElem?_set_ne (Ne.symm hk)]
      exact (h1 k).keep (L2.Same.refl _) fun a q => out a (fun z => hk (h3 k i a q z)) ((h1 k).has a q)
  · dsimp only
    split
    · exact nd'
    · exact h2 k
  · dsimp only at q1 q2
    split at q1
    · rename_i hj
      split at q2
      · rename_i hk; rw [hj, hk]
      · rename_i hk
        rcases sub a q1 with z | z
        · exact (hk (h3 k i a q2 z)).elim
        · exact ((h1 k).has a q2 z).elim
    · rename_i hj
      split at q2
      · rcases sub a q2 with z | z
        · exact (hj (h3 j i a q1 z)).elim
        · exact ((h1 j).has a q1 z).elim
      · exact h3 j k a q1 q2
  · dsimp only at q
    split at q
    · rcases sub a q with z | z
      · exact h4 i a z
      · exact Inn a z
    · exact h4 k a q

/-- an owned thing made since the entry becomes immutable -/
theorem Sta.freeze (S : Sta K E I δ σ H) (hi : δ[i]? = some (.ow .fresh o)) : ∃ v I', σ[i]? = some (some v) ∧ Same I I' ∧ Rep K I' v o.toD ∧ Sta K E I' (δ.set i (.im o.toD)) σ H := by
  obtain ⟨le, i0, ix, th, fr, len, L, h1, h2, h3, h4⟩ := S
  have me := h1 i
  rw [hi] at me
  obtain ⟨v, e1, ow, pin⟩ := me
  have hil : i < δ.length := by
    rcases Nat.lt_or_ge i δ.length with z | z
    · exact z
    · rw [List.getElem?_eq_none z] at hi; cases hi
  have sI : Same I (fun a => if a ∈ L i then H a else I a) := fun a z e => by
    by_cases q : a ∈ L i
    · rw [h4 i a q] at e; cases e
    · dsimp only; rw [if_neg q]; exact e
  have rp : Rep K (fun a => if a ∈ L i then H a else I a) v o.toD :=
    (ow.keep (H' := fun a => if a ∈ L i then H a else I a) sI fun a q => if_pos q).rep (L2.Same.refl _)
  refine ⟨v, fun a => if a ∈ L i then H a else I a, e1, sI, rp, fun a z e => ?_, i0.trans sI, fun a q => ?_, th, fr, by simp [len], fun k => if k = i then [] else L k, fun k => ?_, fun k => ?_, fun j k a q1 q2 => ?_, fun k a q => ?_⟩
  · by_cases w : a ∈ L i
    · exact (if_pos w).symm.trans e
    · exact le a z ((if_neg w).symm.trans e)
  · by_cases w : a ∈ L i
    · exact absurd (pin a w) q
    · exact (if_neg w).trans (ix a q)
  · by_cases hk : k = i
    · subst hk
      dsimp only; rw [if_pos rfl, List.getElem?_set_self hil]
      exact ⟨rfl, v, e1, rp⟩
    · dsimp only; rw [if_neg hk, List.getElem?_set_ne (Ne.symm hk)]
      exact (h1 k).keep sI fun a q => rfl
  · dsimp only
    split
    · simp
    · exact h2 k
  · dsimp only at q1 q2
    split at q1
    · simp at q1
    · split at q2
      · simp at q2
      · exact h3 j k a q1 q2
  · dsimp only at q
    split at q
    · simp at q
    · rename_i hk
      exact (if_neg fun w => hk (h3 k i a q w)).trans (h4 k a q)
/-- immutable data on top -/
theorem Sta.push_im (S : Sta K E I δ σ H) (r : Rep K I v d) : Sta K E I (δ ++ [.im d]) (σ ++ [some v]) H := by
  obtain ⟨le, i0, ix, th, fr, len, L, h1, h2, h3, h4⟩ := S
  refine ⟨le, i0, ix, th, fr, by simp [len], L, fun k => ?_, h2, h3, h4⟩
  have := h1 k
  by_cases hk : k < δ.length
  · rw [List.getElem?_append_left hk, List.getElem?_append_left (by omega)]; exact this
  · rw [List.getElem?_eq_none (l := δ) (by omega)] at this
    have hL : L k = [] := this
    by_cases hk2 : k = δ.length
    · subst hk2
      rw [List.getElem?_append_right (Nat.le_refl _), List.getElem?_append_right (by omega)]
      simp only [Nat.sub_self, len, List.getElem?_cons_zero]
      exact ⟨hL, v, rfl, r⟩
    · rw [List.getElem?_eq_none (l := δ ++ _) (by simp; omega)]; exact hL
/-- an owned thing is lent: it goes on top, its name is empty meanwhile -/
theorem Sta.lend (S : Sta K E I δ σ H) (hi : δ[i]? = some (.ow p o)) (hv : σ[i]? = some (some v)) : Sta K E I (δ.set i .un ++ [.ow p o]) (σ ++ [some v]) H := by
  obtain ⟨le, i0, ix, th, fr, len, L, h1, h2, h3, h4⟩ := S
  have me := h1 i
  rw [hi] at me
  obtain ⟨v', e1, ow, pin⟩ := me
  rw [hv] at e1; cases e1
  have hil : i < δ.length := by
    rcases Nat.lt_or_ge i δ.length with z | z
    · exact z
    · rw [List.getElem?_eq_none z] at hi; cases hi
  have big : ∀ k, δ.length ≤ k → L k = [] := fun k hk => by
    have := h1 k
    rw [List.getElem?_eq_none hk] at this
    exact this
  refine ⟨le, i0, ix, th, fr, by simp [len], fun k => if k = i then [] else if k = δ.length then L i else L k, fun k => ?_, fun k => ?_, fun j k a q1 q2 => ?_, fun k a q => ?_⟩
  · by_cases hk : k = i
    · subst hk
      dsimp only; rw [if_pos rfl, gl (l := δ.set k .un) (by simpa using hil), List.getElem?_set_self hil]; rfl
    · dsimp only; rw [if_neg hk]
      by_cases hl : k < δ.length
      · rw [if_neg (by omega), gl (l := δ.set i .un) (by simpa using hl), List.getElem?_set_ne (Ne.symm hk), gl (l := σ) (by omega)]; exact h1 k
      · by_cases hk2 : k = δ.length
        · subst hk2
          rw [if_pos rfl, gr (l := δ.set i .un) (by simp), gr (l := σ) (by omega)]
          simp only [List.length_set, Nat.sub_self, len, List.getElem?_cons_zero]
          exact ⟨v, rfl, ow, pin⟩
        · rw [if_neg hk2, List.getElem?_eq_none (l := List.set _ _ _ ++ _) (by simp; omega)]; exact big k (by omega)
  · dsimp only
    split
    · simp
    · split
      · exact h2 _
      · exact h2 _
  · dsimp only at q1 q2
    split at q1
    · simp at q1
    · split at q2
      · simp at q2
      · split at q1
        · split at q2
          · omega
          · rename_i a1 a2 a3 a4; exact (a2 (h3 _ _ a q2 q1)).elim
        · split at q2
          · rename_i a1 a2 a3 a4; exact (a1 (h3 _ _ a q1 q2)).elim
          · exact h3 _ _ a q1 q2
  · dsimp only at q
    split at q
    · simp at q
    · split at q
      · exact h4 _ a q
      · exact h4 _ a q
/-- a place in the midst is dropped -/
theorem Sta.cut {s : Slot} {x : Option V} {ε : Env} {τ : St} (S : Sta K E I (δ ++ s :: ε) (σ ++ x :: τ) H) (hl : σ.length = δ.length) : Sta K E I (δ ++ ε) (σ ++ τ) H := by
  obtain ⟨le, i0, ix, th, fr, len, L, h1, h2, h3, h4⟩ := S
  have hl2 : τ.length = ε.length := by simp at len; omega
  refine ⟨le, i0, ix, th, fr, by simp [hl, hl2], fun k => if k < δ.length then L k else L (k + 1), fun k => ?_, fun k => ?_, fun j k a q1 q2 => ?_, fun k a q => ?_⟩
  · by_cases hk : k < δ.length
    · dsimp only; rw [if_pos hk]
      have := h1 k
      rwa [List.getElem?_append_left hk, List.getElem?_append_left (by omega)] at this ⊢
    · dsimp only; rw [if_neg hk]
      have := h1 (k + 1)
      rw [List.getElem?_append_right (by omega), List.getElem?_append_right (by omega), show k + 1 - δ.length = (k - δ.length) + 1 by omega, show k + 1 - σ.length = (k - σ.length) + 1 by omega, List.getElem?_cons_succ, List.getElem?_cons_succ] at this
      rw [List.getElem?_append_right (by omega), List.getElem?_append_right (by omega)]; exact this
  · dsimp only
    split
    · exact h2 _
    · exact h2 _
  · dsimp only at q1 q2
    split at q1
    · split at q2
      · exact h3 _ _ a q1 q2
      · have := h3 _ _ a q1 q2; omega
    · split at q2
      · have := h3 _ _ a q1 q2; omega
      · have := h3 _ _ a q1 q2; omega
  · dsimp only at q
    split at q
    · exact h4 _ a q
    · exact h4 _ a q
/-- a lent thing goes back to its name -/
theorem Sta.back {ε : Env} {τ : St} (S : Sta K E I (δ ++ .ow p o :: ε) (σ ++ some v :: τ) H) (hl : σ.length = δ.length) (hi : i < δ.length) (hv : σ[i]? = some (some v)) : Sta K E I (δ.set i (.ow p o) ++ ε) (σ ++ τ) H := by
  obtain ⟨le, i0, ix, th, fr, len, L, h1, h2, h3, h4⟩ := S
  have hl2 : τ.length = ε.length := by simp at len; omega
  have top := h1 δ.length
  rw [List.getElem?_append_right (Nat.le_refl _), List.getElem?_append_right (by omega)] at top
  simp only [Nat.sub_self, hl, List.getElem?_cons_zero] at top
  refine ⟨le, i0, ix, th, fr, by simp [hl, hl2], fun k => if k = i then L δ.length else if k < δ.length then L k else L (k + 1), fun k => ?_, fun k => ?_, fun j k a q1 q2 => ?_, fun k a q => ?_⟩
  · by_cases hk : k = i
    · subst hk
      dsimp only; rw [if_pos rfl, gl (l := δ.set k (.ow p o)) (by simpa using hi), List.getElem?_set_self hi, gl (l := σ) (by omega), hv]
      exact top
    · dsimp only; rw [if_neg hk]
      by_cases hk2 : k < δ.length
      · rw [if_pos hk2, gl (l := δ.set i (.ow p o)) (by simpa using hk2), List.getElem?_set_ne (Ne.symm hk), gl (l := σ) (by omega)]
        have := h1 k
        rwa [gl (l := δ) hk2, gl (l := σ) (by omega)] at this
        
      · rw [if_neg hk2]
        have := h1 (k + 1)
        rw [List.getElem?_append_right (by omega), List.getElem?_append_right (by omega), show k + 1 - δ.length = (k - δ.length) + 1 by omega, show k + 1 - σ.length = (k - σ.length) + 1 by omega, List.getElem?_cons_succ, List.getElem?_cons_succ] at this
        rw [gr (l := δ.set i (.ow p o)) (by simp; omega), gr (l := σ) (by omega), List.length_set]; exact this
  · dsimp only
    split
    · exact h2 _
    · split
      · exact h2 _
      · exact h2 _
  · dsimp only at q1 q2
    split at q1
    · split at q2
      · omega
      · split at q2
        · have := h3 _ _ a q1 q2; omega
        · have := h3 _ _ a q1 q2; omega
    · split at q2
      · split at q1
        · have := h3 _ _ a q1 q2; omega
        · have := h3 _ _ a q1 q2; omega
      · split at q1
        · split at q2
          · exact h3 _ _ a q1 q2
          · have := h3 _ _ a q1 q2; omega
        · split at q2
          · have := h3 _ _ a q1 q2; omega
          · have := h3 _ _ a q1 q2; omega
  · dsimp only at q
    split at q
    · exact h4 _ a q
    · split at q
      · exact h4 _ a q
      · exact h4 _ a q

/-- the same state told otherwise: places may be forgotten or told anew -/
theorem Sta.remap {δ2 : Env} {σ2 : St} (S : Sta K E I δ σ H) (hl : σ2.length = δ2.length)
    (h : ∀ k : Nat, (δ2[k]? = δ[k]? ∧ σ2[k]? = σ[k]?) ∨ δ2[k]? = none ∨ δ2[k]? = some .un ∨ (∃ d v, δ2[k]? = some (.im d) ∧ σ2[k]? = some (some v) ∧ Rep K I v d) ∨ ∃ v, δ2[k]? = some (.vl v) ∧ σ2[k]? = some (some v)) : Sta K E I δ2 σ2 H := by
  obtain ⟨le, i0, ix, th, fr, len, L, h1, h2, h3, h4⟩ := S
  have ch : ∃ L2 : Nat → List Addr, ∀ k, SlotOk K E H I σ2[k]? δ2[k]? (L2 k) ∧ (L2 k = [] ∨ L2 k = L k) := by
    have each : ∀ k, ∃ M, SlotOk K E H I σ2[k]? δ2[k]? M ∧ (M = [] ∨ M = L k) := fun k => by
      rcases h k with ⟨e1, e2⟩ | e | e | ⟨d, v, e1, e2, r⟩ | ⟨v, e1, e2⟩
      · exact ⟨L k, by rw [e1, e2]; exact h1 k, .inr rfl⟩
      · exact ⟨[], by rw [e]; rfl, .inl rfl⟩
      · exact ⟨[], by rw [e]; rfl, .inl rfl⟩
      · exact ⟨[], by rw [e1]; exact ⟨rfl, v, e2, r⟩, .inl rfl⟩
      · exact ⟨[], by rw [e1]; exact ⟨rfl, e2⟩, .inl rfl⟩
    exact ⟨fun k => (each k).choose, fun k => (each k).choose_spec⟩
  obtain ⟨L2, hL⟩ := ch
  have sub : ∀ k a, a ∈ L2 k → a ∈ L k := fun k a q => by
    rcases (hL k).2 with z | z
    · rw [z] at q; simp at q
    · rw [z] at q; exact q
  refine ⟨le, i0, ix, th, fr, hl, L2, fun k => (hL k).1, fun k => ?_, fun i j a q1 q2 => h3 i j a (sub i a q1) (sub j a q2), fun k a q => h4 k a (sub k a q)⟩
  rcases (hL k).2 with z | z
  · rw [z]; simp
  · rw [z]; exact h2 k
theorem Sta.vl_get (S : Sta K E I δ σ H) (h : δ[i]? = some (.vl v)) : σ[i]? = some (some v) := by
  obtain ⟨L, h1, _⟩ := S.own
  have := h1 i
  rw [h] at this
  exact this.2
end
end DL
end
section
set_option Elab.async false
set_option linter.all false
set_option maxRecDepth 100000
set_option maxHeartbeats 4000000
namespace DL
open PySem L2

/-! ### what an expression gives -/
inductive Rd where
  | im (d : D) | vr (j : Nat) | at (j : Nat) (f : Str) | tm (o : Ow)

section
variable (K : PySem.W.Frag) (H I : Hp)
/-- seen from the outside: the object in the heap, its parts immutable -/
inductive Shl : V → D → Prop
  | non : Shl .non .non
  | bl (b : Bool) : Shl (.bl b) (.bl b)
  | int (i : Int) : Shl (.int i) (.int i)
  | str (x : Str) : Shl (.str x) (.str x)
  | ref (a : Addr) : Shl (.ref a) (.ref a)
  | wl {a : Addr} {vs : List V} {ds : List D} : SqL K H a vs → Reps K I vs ds → Shl (.ref a) (.wl ds)
  | lst {a : Addr} {vs : List V} {ds : List D} : H a = some (.lst vs) → Reps K I vs ds → Shl (.ref a) (.lst ds)
  | wt {a : Addr} {vs : List V} {ds : List D} : SqT K I a vs → Reps K I vs ds → Shl (.ref a) (.wt ds)
  | tup {a : Addr} {vs : List V} {ds : List D} : I a = some (.tup vs) → Reps K I vs ds → Shl (.ref a) (.tup ds)
  | dK {a : Addr} {vs : List (Key × V)} {ds : List (Key × D)} : L2.Rd H a (.dK vs) → RepP K I vs ds → Shl (.ref a) (.dK ds)
  | dT {a : Addr} {vs : List (List Key × V)} {ds : List (List Key × D)} : L2.Rd H a (.dT vs) → RepP K I vs ds → Shl (.ref a) (.dT ds)
  | obj {a C dx : Addr} {vs : List (Str × V)} {ds : List (Str × D)} : H a = some (.ins C dx vs) → RepP K H vs ds → Shl (.ref a) (.obj C ds)
end

section
variable {K : PySem.W.Frag} {E : Ent} {I I' H H' : Hp} {δ δ' : Env} {σ τ : St} {i j : Nat} {d : D} {v : V} {o : Ow}
theorem Shl.of_rep (m : Same I H) : Rep K I v d → Shl K H I v d
  | .non => .non
  | .bl b => .bl b
  | .int b => .int b
  | .str b => .str b
  | .ref b => .ref b
  | .wl h r => .wl (L2.Same.seq m h) r
  | .lst h r => .lst (m _ _ h) r
  | .wt h r => .wt h r
  | .tup h r => .tup h r
  | .dK h r => .dK (Same.rd m h) r
  | .dT h r => .dT (Same.rd m h) r
  | .obj h r => .obj (m _ _ h) (r.mono m)
theorem Shl.rep (m : Same I H) : Shl K H I v d → Rep K H v d
  | .non => .non
  | .bl b => .bl b
  | .int b => .int b
  | .str b => .str b
  | .ref b => .ref b
  | .wl h r => .wl h (r.mono m)
  | .lst h r => .lst h (r.mono m)
  | .wt h r => .wt (Same.seqT m h) (r.mono m)
  | .tup h r => .tup (m _ _ h) (r.mono m)
  | .dK h r => .dK h (r.mono m)
  | .dT h r => .dT h (r.mono m)
  | .obj h r => .obj h r
theorem OwnB.shl {o : Ob} {L : List Addr} (h : OwnB K H I v o L) : Shl K H I v o.toD := by
  cases h with
  | mk h r => cases r with
    | lst r => exact .lst h r
    | dK r => exact .dK (.inl h) r
    | dT r => exact .dT (.inl h) r
theorem OwnF.shl {o : Fv} {L : List Addr} (m : Same I H) (h : OwnF K H I v o L) : Shl K H I v o.toD := by
  cases h with
  | im r => exact .of_rep m r
  | ob r => exact r.shl
theorem Own.shl {L : List Addr} (m : Same I H) (h : Own K H I v o L) : Shl K H I v o.toD := by
  cases h with
  | ob h => exact h.shl
  | ins h r => exact .obj h (r.rep m)

def RdSt (K : PySem.W.Frag) (E : Ent) (I : Hp) (δ : Env) (σ : St) (H : Hp) (v : V) : Rd → Prop
  | .im d => Sta K E I δ σ H ∧ Rep K I v d
  | .vr j => Sta K E I δ σ H ∧ σ[j]? = some (some v)
  | .at j f => Sta K E I δ σ H ∧ ∃ a C dx vs, σ[j]? = some (some (.ref a)) ∧ H a = some (.ins C dx vs) ∧ vs.lookup f = some v
  | .tm o => Sta K E I (δ ++ [.ow .fresh o]) (σ ++ [some v]) H
/-- what stands there -/
def vwS : Option Slot → Option D
  | some (.im d) => some d
  | some (.ow _ o) => some o.toD
  | _ => none
def vwF : Option Fv → Option D
  | some x => some x.toD
  | none => none
def vwAt (f : Str) : Option Slot → Option D
  | some (.ow _ (.ins _ fs)) => vwF (fs.lookup f)
  | _ => none
def vw (δ : Env) : Rd → Option D
  | .im d => some d
  | .vr j => vwS δ[j]?
  | .at j f => vwAt f δ[j]?
  | .tm o => some o.toD
theorem RdSt.sta {x : Rd} (h : RdSt K E I δ σ H v x) : Sta K E I δ σ H := by
  cases x with
  | im d => exact h.1
  | vr j => exact h.1
  | «at» j f => exact h.1
  | tm o => exact Sta.pop h
theorem RdSt.shl {x : Rd} (h : RdSt K E I δ σ H v x) (e : vw δ x = some d) : Shl K H I v d := by
  cases x with
  | im d => cases e; exact .of_rep h.1.le h.2
  | vr j =>
    obtain ⟨S, hv⟩ := h
    have e : vwS δ[j]? = some d := e
    cases q : δ[j]? with
    | none => rw [q] at e; cases e
    | some s => cases s with
      | un => rw [q] at e; cases e
      | vl w => rw [q] at e; cases e
      | im d => rw [q] at e; cases e; obtain ⟨u, h1, h2⟩ := S.im_get q; rw [hv] at h1; cases h1; exact .of_rep S.le h2
      | ow p o => rw [q] at e; cases e; obtain ⟨u, L, h1, h2⟩ := S.ow_get q; rw [hv] at h1; cases h1; exact h2.shl S.le
  | «at» j f =>
    obtain ⟨S, a, C, dx, vs, h1, h2, h3⟩ := h
    have e : vwAt f δ[j]? = some d := e
    cases q : δ[j]? with
    | none => rw [q] at e; cases e
    | some s => cases s with
      | un => rw [q] at e; cases e
      | vl w => rw [q] at e; cases e
      | im d => rw [q] at e; cases e
      | ow p o => cases o with
        | ob o => rw [q] at e; cases e
        | ins C' fs =>
          rw [q] at e
          obtain ⟨u, L, g1, g2⟩ := S.ow_get q
          rw [h1] at g1; cases g1
          cases g2 with
          | ins g r =>
            rw [h2] at g; cases g
            have e : vwF (fs.lookup f) = some d := e
            cases w : fs.lookup f with
            | none => rw [w] at e; cases e
            | some x =>
              rw [w] at e; cases e
              obtain ⟨u, M, k1, k2, _⟩ := r.lookup w
              rw [h3] at k1; cases k1
              exact k2.shl S.le
  | tm o =>
    cases e
    have S : Sta K E I (δ ++ [.ow .fresh o]) (σ ++ [some v]) H := h
    have hl : σ.length = δ.length := by have := S.len; simpa using this
    obtain ⟨u, L, g1, g2⟩ := S.ow_get (i := δ.length) (o := o) (p := .fresh) (by rw [gr (Nat.le_refl _)]; simp)
    rw [gr (by omega), hl, Nat.sub_self] at g1
    cases g1
    exact g2.shl S.le

/-- of lists and objects without dicts -/
def Fv.frz : Fv → Bool
  | .im _ => true
  | .ob (.lst _) => true
  | .ob _ => false
/-- the same as immutable data -/
def imS (δ : Env) (j : Nat) (k : D → Env → Prop) : Option Slot → Prop
  | some (.im d) => k d δ
  | some (.ow .fresh (.ob (.lst xs))) => k (.lst xs) (δ.set j (.im (.lst xs)))
  | some (.ow .fresh (.ins C fs)) => fs.all (fun p => p.2.frz) = true ∧ k (.obj C (fsD fs)) (δ.set j (.im (.obj C (fsD fs))))
  | _ => False
def imO (δ : Env) (k : D → Env → Prop) : Ow → Prop
  | .ob (.lst xs) => k (.lst xs) δ
  | .ins C fs => fs.all (fun p => p.2.frz) = true ∧ k (.obj C (fsD fs)) δ
  | _ => False
def asIm (x : Rd) (δ : Env) (k : D → Env → Prop) : Prop :=
  match x with
  | .im d => k d δ
  | .tm o => imO δ k o
  | .vr j => imS δ j k δ[j]?
  | .at _ _ => False
theorem imS_mono {δ : Env} {j : Nat} {k k' : D → Env → Prop} (h : ∀ d δ, k d δ → k' d δ) : ∀ {s : Option Slot}, imS δ j k s → imS δ j k' s
  | some (.im _), q => h _ _ q
  | some (.ow .fresh (.ob (.lst _))), q => h _ _ q
  | some (.ow .fresh (.ins _ _)), q => ⟨q.1, h _ _ q.2⟩
theorem imO_mono {δ : Env} {k k' : D → Env → Prop} (h : ∀ d δ, k d δ → k' d δ) : ∀ {o : Ow}, imO δ k o → imO δ k' o
  | .ob (.lst _), q => h _ _ q
  | .ins _ _, q => ⟨q.1, h _ _ q.2⟩
theorem asIm_mono {x : Rd} {δ : Env} {k k' : D → Env → Prop} (h : ∀ d δ, k d δ → k' d δ) : asIm x δ k → asIm x δ k' := by
  cases x with
  | im d => exact h _ _
  | tm o => exact imO_mono h
  | vr j => exact imS_mono h
  | «at» j f => exact id
theorem set_len {α : Type} {l : List α} {x y : α} : (l ++ [x]).set l.length y = l ++ [y] := by simp
theorem Sta.freezeTop (S : Sta K E I (δ ++ [.ow .fresh o]) (σ ++ [some v]) H) : ∃ I', Same I I' ∧ Rep K I' v o.toD ∧ Sta K E I' δ σ H := by
  have hl : σ.length = δ.length := by have := S.len; simpa using this
  obtain ⟨u, I', h1, h2, h3, h4⟩ := S.freeze (i := δ.length) (o := o) (by rw [gr (Nat.le_refl _)]; simp)
  rw [gr (by omega), hl, Nat.sub_self] at h1
  cases h1
  rw [set_len] at h4
  exact ⟨I', h2, h3, h4.pop⟩
theorem imO_ok {k : D → Env → Prop} (st : Sta K E I (δ ++ [.ow .fresh o]) (σ ++ [some v]) H) (q : imO δ k o) : ∃ I' d, Same I I' ∧ Sta K E I' δ σ H ∧ Rep K I' v d ∧ k d δ := by
  obtain ⟨I', h1, h2, h3⟩ := Sta.freezeTop st
  cases o with
  | ob o => cases o with
    | lst xs => exact ⟨I', _, h1, h3, h2, q⟩
    | dK xs => exact False.elim q
    | dT xs => exact False.elim q
  | ins C fs => exact ⟨I', _, h1, h3, h2, q.2⟩
theorem imS_ok {k : D → Env → Prop} (S : Sta K E I δ σ H) (hv : σ[j]? = some (some v)) (q : imS δ j k δ[j]?) : ∃ I' d δ', Same I I' ∧ Sta K E I' δ' σ H ∧ Rep K I' v d ∧ k d δ' := by
  cases e : δ[j]? with
  | none => rw [e] at q; exact False.elim q
  | some s =>
    rw [e] at q
    cases s with
    | un => exact False.elim q
    | vl w => exact False.elim q
    | im d =>
      obtain ⟨u, h1, h2⟩ := S.im_get e
      rw [hv] at h1; cases h1
      exact ⟨I, _, δ, L2.Same.refl _, S, h2, q⟩
    | ow p o => cases p with
      | arg k => exact False.elim q
      | fresh =>
        obtain ⟨u, I', h1, h2, h3, h4⟩ := S.freeze e
        rw [hv] at h1; cases h1
        cases o with
        | ob o => cases o with
          | lst xs => exact ⟨I', _, _, h2, h4, h3, q⟩
          | dK xs => exact False.elim q
          | dT xs => exact False.elim q
        | ins C fs => exact ⟨I', _, _, h2, h4, h3, q.2⟩
theorem asIm_ok {x : Rd} {k : D → Env → Prop} (st : RdSt K E I δ σ H v x) (q : asIm x δ k) : ∃ I' d δ', Same I I' ∧ Sta K E I' δ' σ H ∧ Rep K I' v d ∧ k d δ' := by
  cases x with
  | im d => exact ⟨I, _, δ, L2.Same.refl _, st.1, st.2, q⟩
  | tm o =>
    obtain ⟨I', d, h1, h2, h3, h4⟩ := imO_ok st q
    exact ⟨I', d, δ, h1, h2, h3, h4⟩
  | vr j => exact imS_ok st.1 st.2 q
  | «at» j f => exact False.elim q
end

/-! ### the judgements -/
abbrev RE := Env → (Rd → Env → Prop) → Prop
abbrev RT := Env → (Bool → Env → Prop) → Prop
abbrev RA := Env → (List D → Env → Prop) → Prop
abbrev preE (X : Cx) (q : Bool) (r : RE) : TE := fun σ H Q => ∃ E I δ τ, Sta X.K E I δ (σ ++ τ) H ∧ r δ fun x δ' => ∀ v I' H', Same I I' → (q = true → Same H H') → RdSt X.K E I' δ' (σ ++ τ) H' v x → Q v H'
abbrev preT (X : Cx) (q : Bool) (r : RT) : TT := fun σ H Q => ∃ E I δ τ, Sta X.K E I δ (σ ++ τ) H ∧ r δ fun b δ' => ∀ I' H', Same I I' → (q = true → Same H H') → Sta X.K E I' δ' (σ ++ τ) H' → Q b H'
abbrev preA (X : Cx) (q : Bool) (r : RA) : TA := fun σ H Q => ∃ E I δ τ, Sta X.K E I δ (σ ++ τ) H ∧ r δ fun ds δ' => ∀ vs I' H', Same I I' → (q = true → Same H H') → Sta X.K E I' δ' (σ ++ τ) H' → Reps X.K I' vs ds → Q vs H'
structure TrE (X : Cx) (e : Expr) (q : Bool) (r : RE) : Prop where
  pe : PE X e (preE X q r)
  mono : ∀ {δ : Env} {Q Q' : Rd → Env → Prop}, (∀ x δ', Q x δ' → Q' x δ') → r δ Q → r δ Q'
structure TrT (X : Cx) (e : Expr) (q : Bool) (r : RT) : Prop where
  pt : PT X e (preT X q r)
  mono : ∀ {δ : Env} {Q Q' : Bool → Env → Prop}, (∀ x δ', Q x δ' → Q' x δ') → r δ Q → r δ Q'
/-- arguments as immutable data -/
structure TrA (X : Cx) (es : List Expr) (q : Bool) (r : RA) : Prop where
  pa : PA X es (preA X q r)
  mono : ∀ {δ : Env} {Q Q' : List D → Env → Prop}, (∀ x δ', Q x δ' → Q' x δ') → r δ Q → r δ Q'

theorem weakE {X : Cx} {e : Expr} {t u : TE} (h : PE X e t) (w : ∀ σ H Q, σ.length = X.N.length → u σ H Q → t σ H Q) : PE X e u := ⟨fun pins s σ H Q I q => h.run pins s σ H Q I (w _ _ _ I.len q)⟩
theorem weakT {X : Cx} {e : Expr} {t u : TT} (h : PT X e t) (w : ∀ σ H Q, σ.length = X.N.length → u σ H Q → t σ H Q) : PT X e u := ⟨fun pins s σ H Q I q => h.run pins s σ H Q I (w _ _ _ I.len q)⟩
theorem weakA {X : Cx} {e : List Expr} {t u : TA} (h : PA X e t) (w : ∀ σ H Q, σ.length = X.N.length → u σ H Q → t σ H Q) : PA X e u := ⟨fun pos pins s σ H Q I q => h.run pos pins s σ H Q I (w _ _ _ I.len q)⟩
theorem weakS {X : Cx} {e : Stmt} {t u : TS} (h : PS X e t) (w : ∀ D σ H, σ.length = X.N.length → u D σ H → t D σ H) : PS X e u := ⟨fun pins s σ H D I q => h.run pins s σ H D I (w _ _ _ I.len q)⟩
theorem weakSs {X : Cx} {e : List Stmt} {t u : TS} (h : PSs X e t) (w : ∀ D σ H, σ.length = X.N.length → u D σ H → t D σ H) : PSs X e u := ⟨fun pins s σ H D I q => h.run pins s σ H D I (w _ _ _ I.len q)⟩

/-! ### names, constants -/
section
variable {X : Cx} {a b c : Expr} {q q1 q2 q3 : Bool} {ra rb rc : RE} {pos : Pos}
def rK (d : D) : RE := fun δ Q => Q (.im d) δ
def varS (δ : Env) (j : Nat) (Q : Rd → Env → Prop) : Option Slot → Prop
  | some (.im d) => Q (.im d) δ
  | some (.ow _ _) => Q (.vr j) δ
  | _ => False
def rVar (j : Nat) : RE := fun δ Q => varS δ j Q δ[j]?
theorem varS_mono {δ : Env} {j : Nat} {k k' : Rd → Env → Prop} (h : ∀ d δ, k d δ → k' d δ) : ∀ {s : Option Slot}, varS δ j k s → varS δ j k' s
  | some (.im _), q => h _ _ q
  | some (.ow _ _), q => h _ _ q
theorem tr_k {e : Expr} {d : D} {v : V} (h : PE X e (tC v)) (r : ∀ I, Rep X.K I v d) : TrE X e true (rK d) := by
  refine ⟨weakE h fun σ H Q _ ⟨E, I, δ, τ, S, q⟩ => ?_, fun h => h _ _⟩
  exact q v I H (L2.Same.refl _) (fun _ => L2.Same.refl _) ⟨S, r I⟩
theorem tr_int {i j pos} : TrE X (.Constant (.int i) j pos) true (rK (.int i)) := tr_k pe_int fun _ => .int i
theorem tr_bl {i j pos} : TrE X (.Constant (.bool i) j pos) true (rK (.bl i)) := tr_k pe_bl fun _ => .bl i
theorem tr_non {j pos} : TrE X (.Constant .none j pos) true (rK .non) := tr_k pe_non fun _ => .non
theorem tr_str {x j pos} : TrE X (.Constant (.str x) j pos) true (rK (.str x)) := tr_k pe_str fun _ => .str x
/-- a module's int -/
theorem tr_gint {x : Str} {i : Int} {u : Value} (hg : Gl X x) (hm : X.mg x = some u) (r : RelV (.int i) u) (hd : (x == ("__debug__" : Str)) = false := by decide) : TrE X (.Name x pos) true (rK (.int i)) := tr_k (pe_glob hg hm r hd) fun _ => .int i
theorem lt_of_get {α : Type} {l : List α} {i : Nat} {x : α} (h : l[i]? = some x) : i < l.length := by
  rcases Nat.lt_or_ge i l.length with z | z
  · exact z
  · rw [List.getElem?_eq_none z] at h; cases h
theorem tr_var (j : Nat) {x : Str} (hN : X.N[j]? = some x := by rfl) (hv : Vis X.env.scope x := by first | exact Or.inl rfl | exact Or.inr (Or.inl rfl) | exact Or.inr (Or.inr rfl)) (hd : (x == ("__debug__" : Str)) = false := by decide)
    (hcd : (x == ("__classdict__" : Str)) = false := by decide) : TrE X (.Name x pos) true (rVar j) := by
  refine ⟨weakE (pe_var (i := j) hN hv hd hcd) fun σ H Q hl ⟨E, I, δ, τ, S, q⟩ => ?_, fun h => varS_mono h⟩
  have hj : j < σ.length := by rw [hl]; exact lt_of_get hN
  have q : varS δ j _ δ[j]? := q
  cases e : δ[j]? with
  | none => rw [e] at q; exact False.elim q
  | some s =>
    rw [e] at q
    cases s with
    | un => exact False.elim q
    | vl w => exact False.elim q
    | im d =>
      obtain ⟨v, h1, h2⟩ := S.im_get e
      rw [gl hj] at h1
      exact ⟨v, h1, q v I H (L2.Same.refl _) (fun _ => L2.Same.refl _) ⟨S, h2⟩⟩
    | ow p o =>
      obtain ⟨v, L, h1, h2⟩ := S.ow_get e
      refine ⟨v, by rwa [gl hj] at h1, q v I H (L2.Same.refl _) (fun _ => L2.Same.refl _) ⟨S, h1⟩⟩
end
end DL
end
section
set_option Elab.async false
set_option linter.all false
set_option maxRecDepth 100000
set_option maxHeartbeats 4000000
namespace DL
open PySem L2
section
variable {X : Cx} {a b c e : Expr} {q q1 q2 q3 : Bool} {ra rb rc : RE} {pos : Pos} {E : Ent} {I : Hp} {δ : Env} {σ τ : St} {H : Hp}

theorem and_q {q1 q2 : Bool} (h : (q1 && q2) = true) : q1 = true ∧ q2 = true := by simpa using h
/-- one operand, as immutable data -/
def r1 (ra : RE) (P : D → Env → Prop) : Env → Prop := fun δ => ra δ fun x δ1 => asIm x δ1 P
/-- two operands, as immutable data -/
def r2 (ra rb : RE) (P : D → D → Env → Prop) : Env → Prop := fun δ => ra δ fun x δ1 => asIm x δ1 fun d δ2 => rb δ2 fun y δ3 => asIm y δ3 fun e δ4 => P d e δ4
/-- the first as data, the second as it is -/
def r2v (ra rb : RE) (P : D → Rd → Env → Prop) : Env → Prop := fun δ => ra δ fun x δ1 => asIm x δ1 fun d δ2 => rb δ2 fun y δ3 => P d y δ3
theorem one (ha : TrE X a q ra) {R : V → Hp → Prop} {P : D → Env → Prop} (S : Sta X.K E I δ (σ ++ τ) H) (h : r1 ra P δ)
    (fin : ∀ v d δ' I' H', Same I I' → (q = true → Same H H') → Sta X.K E I' δ' (σ ++ τ) H' → Rep X.K I' v d → P d δ' → R v H') : preE X q ra σ H R := by
  refine ⟨E, I, δ, τ, S, ha.mono (fun x δ1 h1 => ?_) h⟩
  intro v I1 H1 s1 k1 st
  obtain ⟨I2, d, δ2, s2, S2, rp, h2⟩ := asIm_ok st h1
  exact fin v d δ2 I2 H1 (s1.trans s2) k1 S2 rp h2
theorem two (ha : TrE X a q1 ra) (hb : TrE X b q2 rb) {R : V → V → Hp → Prop} {P : D → D → Env → Prop} (S : Sta X.K E I δ (σ ++ τ) H) (h : r2 ra rb P δ)
    (fin : ∀ v u d e δ' I' H', Same I I' → ((q1 && q2) = true → Same H H') → Sta X.K E I' δ' (σ ++ τ) H' → Rep X.K I' v d → Rep X.K I' u e → P d e δ' → R v u H') :
    preE X q1 ra σ H fun v H1 => preE X q2 rb σ H1 fun u H2 => R v u H2 := by
  refine one ha S h fun v d δ1 I1 H1 s1 k1 S1 rp h1 => ?_
  refine one hb S1 h1 fun u e δ2 I2 H2 s2 k2 S2 rp2 h2 => ?_
  exact fin v u d e δ2 I2 H2 (s1.trans s2) (fun z => (k1 (and_q z).1).trans (k2 (and_q z).2)) S2 (rp.mono s2) rp2 h2
theorem twoV (ha : TrE X a q1 ra) (hb : TrE X b q2 rb) {R : V → V → Hp → Prop} {P : D → Rd → Env → Prop} (S : Sta X.K E I δ (σ ++ τ) H) (h : r2v ra rb P δ)
    (fin : ∀ v u d e δ' I' H', Same I I' → ((q1 && q2) = true → Same H H') → RdSt X.K E I' δ' (σ ++ τ) H' u e → Rep X.K I' v d → P d e δ' → R v u H') :
    preE X q1 ra σ H fun v H1 => preE X q2 rb σ H1 fun u H2 => R v u H2 := by
  refine one ha S h fun v d δ1 I1 H1 s1 k1 S1 rp h1 => ?_
  refine ⟨E, I1, δ1, τ, S1, hb.mono (fun x δ2 h2 => ?_) h1⟩
  intro u I2 H2 s2 k2 st
  exact fin v u d x δ2 I2 H2 (s1.trans s2) (fun z => (k1 (and_q z).1).trans (k2 (and_q z).2)) st (rp.mono s2) h2
theorem r1_mono (ha : TrE X a q ra) {P P' : D → Env → Prop} (h : ∀ d δ, P d δ → P' d δ) : r1 ra P δ → r1 ra P' δ := ha.mono fun _ _ => asIm_mono h
theorem r2_mono (ha : TrE X a q1 ra) (hb : TrE X b q2 rb) {P P' : D → D → Env → Prop} (h : ∀ d e δ, P d e δ → P' d e δ) : r2 ra rb P δ → r2 ra rb P' δ :=
  ha.mono fun _ _ => asIm_mono fun _ _ => hb.mono fun _ _ => asIm_mono fun _ _ => h _ _ _
theorem r2v_mono (ha : TrE X a q1 ra) (hb : TrE X b q2 rb) {P P' : D → Rd → Env → Prop} (h : ∀ d e δ, P d e δ → P' d e δ) : r2v ra rb P δ → r2v ra rb P' δ :=
  ha.mono fun _ _ => asIm_mono fun _ _ => hb.mono fun _ _ => h _ _ _

/-! ### operations that give scalars -/
abbrev Op2 := D → D → (D → Prop) → Prop
structure OpIm (X : Cx) (r : R2) (f : Op2) : Prop where
  ok : ∀ {I H : Hp} {x y : V} {d e : D} {k : D → Prop} {Q : VK}, Same I H → Rep X.K I x d → Rep X.K I y e → f d e k → (∀ v z, k z → Rep X.K I v z → Q v H) → r x y H Q
  mono : ∀ {d e : D} {k k' : D → Prop}, (∀ z, k z → k' z) → f d e k → f d e k'
def rOp (f : Op2) (ra rb : RE) : RE := fun δ Q => r2 ra rb (fun d e δ' => f d e fun z => Q (.im z) δ') δ
theorem tr_op {op : Operator} {r : R2} {f : Op2} (ho : OpR X (binaryOp op) r) (hf : OpIm X r f) (ha : TrE X a q1 ra) (hb : TrE X b q2 rb) : TrE X (.BinOp a op b pos) (q1 && q2) (rOp f ra rb) := by
  refine ⟨weakE (pe_op ho ha.pe hb.pe) fun σ H Q _ ⟨E, I, δ, τ, S, h⟩ => ?_, fun h => r2_mono ha hb fun d e δ => hf.mono fun z => h _ _⟩
  refine two ha hb S h fun v u d e δ' I' H' s1 k1 S1 rp1 rp2 h1 => hf.ok S1.le rp1 rp2 h1 fun w z q rp => ?_
  exact q w I' H' s1 k1 ⟨S1, rp⟩
theorem tr_cmp {op : CmpOp} {r : R2} {f : Op2} (ho : OpR X (compareOp op) r) (hf : OpIm X r f) (ha : TrE X a q1 ra) (hb : TrE X b q2 rb) (hm : behindInMarks op b = false := by first | exact nomark _ (by decide) (by decide) | rfl) : TrE X (.Compare a [op] [b] pos) (q1 && q2) (rOp f ra rb) := by
  refine ⟨weakE (pe_cmpR ho ha.pe hb.pe hm) fun σ H Q _ ⟨E, I, δ, τ, S, h⟩ => ?_, fun h => r2_mono ha hb fun d e δ => hf.mono fun z => h _ _⟩
  refine two ha hb S h fun v u d e δ' I' H' s1 k1 S1 rp1 rp2 h1 => hf.ok S1.le rp1 rp2 h1 fun w z q rp => ?_
  exact q w I' H' s1 k1 ⟨S1, rp⟩
def onInts (k : Int → Int → Prop) : D → D → Prop
  | .int i, .int j => k i j
  | _, _ => False
theorem onInts_mono {k k' : Int → Int → Prop} (h : ∀ i j, k i j → k' i j) : ∀ {d e : D}, onInts k d e → onInts k' d e
  | .int _, .int _, q => h _ _ q
theorem onInts_ok {K : PySem.W.Frag} {k : Int → Int → Prop} {x y : V} : ∀ {d e : D}, Rep K I x d → Rep K I y e → onInts k d e → ∃ i j, x = .int i ∧ y = .int j ∧ k i j
  | .int i, .int j, r, s, q => by cases r; cases s; exact ⟨i, j, rfl, rfl, q⟩
def fI (C : Int → Int → Prop) (g : Int → Int → Int) : Op2 := fun d e k => onInts (fun i j => C i j ∧ k (.int (g i j))) d e
def fI0 (g : Int → Int → Int) : Op2 := fun d e k => onInts (fun i j => k (.int (g i j))) d e
def fB0 (g : Int → Int → Bool) : Op2 := fun d e k => onInts (fun i j => k (.bl (g i j))) d e
theorem im_fI {C : Int → Int → Prop} {g : Int → Int → Int} : OpIm X (rI C fun i j => .int (g i j)) (fI C g) where
  ok := fun _ r s h w => by
    obtain ⟨i, j, e1, e2, hc, hk⟩ := onInts_ok r s h
    exact ⟨i, j, e1, e2, hc, w _ _ hk (.int _)⟩
  mono := fun h => onInts_mono fun i j q => ⟨q.1, h _ q.2⟩
theorem im_fI0 {g : Int → Int → Int} : OpIm X (rI0 fun i j => .int (g i j)) (fI0 g) where
  ok := fun _ r s h w => by
    obtain ⟨i, j, e1, e2, hk⟩ := onInts_ok r s h
    exact ⟨i, j, e1, e2, w _ _ hk (.int _)⟩
  mono := fun h => onInts_mono fun i j q => h _ q
theorem im_fB0 {g : Int → Int → Bool} : OpIm X (rI0 fun i j => .bl (g i j)) (fB0 g) where
  ok := fun _ r s h w => by
    obtain ⟨i, j, e1, e2, hk⟩ := onInts_ok r s h
    exact ⟨i, j, e1, e2, w _ _ hk (.bl _)⟩
  mono := fun h => onInts_mono fun i j q => h _ q

abbrev rAddI := rOp (fI0 fun i j => i + j)
abbrev rSubI := rOp (fI0 fun i j => i - j)
def CMulW (i j : Int) : Prop := ∃ n m : Nat, i.natAbs < 2 ^ n ∧ j.natAbs < 2 ^ m ∧ n + m ≤ 134217728
abbrev rMulI := rOp (fI CMulX fun i j => i * j)
abbrev rDivI := rOp (fI CDivN fun i j => i.fdiv j)
abbrev rModI := rOp (fI (fun _ j => j ≠ 0) fun i j => i.fmod j)
abbrev rShlI := rOp (fI CPow fun i j => i * 2 ^ j.toNat)
abbrev rShrI := rOp (fI (fun _ j => 0 ≤ j) fun i j => i / 2 ^ j.toNat)
abbrev rPowI := rOp (fI CPow fun i j => i ^ j.toNat)
abbrev rAndI := rOp (fI0 Builtin.bitAnd)
abbrev rXorI := rOp (fI0 Builtin.bitXor)
abbrev rOrI := rOp (fI0 Builtin.bitOr)
theorem tr_add (ha : TrE X a q1 ra) (hb : TrE X b q2 rb) : TrE X (.BinOp a .Add b pos) (q1 && q2) (rAddI ra rb) := tr_op op_add im_fI0 ha hb
theorem tr_sub (ha : TrE X a q1 ra) (hb : TrE X b q2 rb) : TrE X (.BinOp a .Sub b pos) (q1 && q2) (rSubI ra rb) := tr_op op_sub im_fI0 ha hb
theorem tr_mul (ha : TrE X a q1 ra) (hb : TrE X b q2 rb) : TrE X (.BinOp a .Mult b pos) (q1 && q2) (rMulI ra rb) := tr_op op_mulX im_fI ha hb
theorem tr_fdiv (ha : TrE X a q1 ra) (hb : TrE X b q2 rb) : TrE X (.BinOp a .FloorDiv b pos) (q1 && q2) (rDivI ra rb) := tr_op op_fdivN im_fI ha hb
theorem tr_mod (ha : TrE X a q1 ra) (hb : TrE X b q2 rb) : TrE X (.BinOp a .Mod b pos) (q1 && q2) (rModI ra rb) := tr_op op_modN im_fI ha hb
theorem tr_shl (ha : TrE X a q1 ra) (hb : TrE X b q2 rb) : TrE X (.BinOp a .LShift b pos) (q1 && q2) (rShlI ra rb) := tr_op op_shl im_fI ha hb
theorem tr_shr (ha : TrE X a q1 ra) (hb : TrE X b q2 rb) : TrE X (.BinOp a .RShift b pos) (q1 && q2) (rShrI ra rb) := tr_op op_shr im_fI ha hb
theorem tr_pow (ha : TrE X a q1 ra) (hb : TrE X b q2 rb) : TrE X (.BinOp a .Pow b pos) (q1 && q2) (rPowI ra rb) := tr_op op_pow im_fI ha hb
theorem tr_band (ha : TrE X a q1 ra) (hb : TrE X b q2 rb) : TrE X (.BinOp a .BitAnd b pos) (q1 && q2) (rAndI ra rb) := tr_op op_and im_fI0 ha hb
theorem tr_xor (ha : TrE X a q1 ra) (hb : TrE X b q2 rb) : TrE X (.BinOp a .BitXor b pos) (q1 && q2) (rXorI ra rb) := tr_op op_xor im_fI0 ha hb
abbrev rLt := rOp (fB0 fun i j => decide (i < j))
abbrev rLe := rOp (fB0 fun i j => decide (i ≤ j))
abbrev rGt := rOp (fB0 fun i j => decide (j < i))
abbrev rGe := rOp (fB0 fun i j => decide (j ≤ i))
theorem tr_lt (ha : TrE X a q1 ra) (hb : TrE X b q2 rb) : TrE X (.Compare a [.Lt] [b] pos) (q1 && q2) (rLt ra rb) := tr_cmp op_lt im_fB0 ha hb
theorem tr_le (ha : TrE X a q1 ra) (hb : TrE X b q2 rb) : TrE X (.Compare a [.LtE] [b] pos) (q1 && q2) (rLe ra rb) := tr_cmp op_le im_fB0 ha hb
theorem tr_gt (ha : TrE X a q1 ra) (hb : TrE X b q2 rb) : TrE X (.Compare a [.Gt] [b] pos) (q1 && q2) (rGt ra rb) := tr_cmp op_gt im_fB0 ha hb
theorem tr_ge (ha : TrE X a q1 ra) (hb : TrE X b q2 rb) : TrE X (.Compare a [.GtE] [b] pos) (q1 && q2) (rGe ra rb) := tr_cmp op_ge im_fB0 ha hb

/-! ### == of data -/
mutual
/-- as plain data; objects and dicts are none -/
def D.py : D → PyData
  | .non => .none
  | .bl b => .bool b
  | .int i => .int i
  | .str x => .str x
  | .lst xs => .list (D.pys xs)
  | .wl xs => .list (D.pys xs)
  | .tup xs => .tuple (D.pys xs)
  | .wt xs => .tuple (D.pys xs)
  | .dK _ => .dict []
  | .dT _ => .dict []
  | .obj _ _ => .dict []
  | .ref _ => .dict []
def D.pys : List D → List PyData
  | [] => []
  | x :: xs => x.py :: D.pys xs
end
mutual
theorem Rep.dp {K : PySem.W.Frag} {H : Hp} : ∀ {v : V} {d : D}, Rep K H v d → d.py.canLay0 = true → Dp K H v d.py
  | _, _, .non, _ => .non
  | _, _, .bl b, _ => .bl b
  | _, _, .int b, _ => .int b
  | _, _, .str b, _ => .str b
  | _, _, .ref b, h => by simp [D.py, PyData.canLay0] at h
  | _, _, .wl h r, c => .lst h (Reps.dp r (by simpa [D.py, PyData.canLay0] using c))
  | _, _, .lst h r, c => .lst (SqL.of h) (Reps.dp r (by simpa [D.py, PyData.canLay0] using c))
  | _, _, .wt h r, c => .tup h (Reps.dp r (by simpa [D.py, PyData.canLay0] using c))
  | _, _, .tup h r, c => .tup (SqT.of h) (Reps.dp r (by simpa [D.py, PyData.canLay0] using c))
  | _, _, .dK _ _, h => by simp [D.py, PyData.canLay0] at h
  | _, _, .dT _ _, h => by simp [D.py, PyData.canLay0] at h
  | _, _, .obj _ _, h => by simp [D.py, PyData.canLay0] at h
theorem Reps.dp {K : PySem.W.Frag} {H : Hp} : ∀ {v : List V} {d : List D}, Reps K H v d → PyData.canLayAll0 (D.pys d) = true → DpAll K H v (D.pys d)
  | _, _, .nil, _ => .nil
  | _, _, .cons h r, c => by
    have c' : (_ && _) = true := c
    rw [Bool.and_eq_true] at c'
    exact .cons (Rep.dp h c'.1) (Reps.dp r c'.2)
end
def D.ok (d : D) : Prop := SeqAt.shaped d.py = true
theorem D.ok.lay {d : D} (h : d.ok) : d.py.canLay0 = true := by
  have h' : (_ && _) = true := h
  rw [Bool.and_eq_true] at h'; exact h'.1
def D.eqv (d e : D) : Bool := PyData.eqv d.py e.py
def fEq : Op2 := fun d e k => d.ok ∧ e.ok ∧ k (.bl (d.eqv e))
def fNe : Op2 := fun d e k => d.ok ∧ e.ok ∧ k (.bl (!d.eqv e))
theorem im_fEq : OpIm X (rEqD X.K) fEq where
  ok := fun m r s h w => ⟨_, _, (r.mono m).dp h.1.lay, (s.mono m).dp h.2.1.lay, h.1, h.2.1, w _ _ h.2.2 (.bl _)⟩
  mono := fun h q => ⟨q.1, q.2.1, h _ q.2.2⟩
theorem im_fNe : OpIm X (rNeD X.K) fNe where
  ok := fun m r s h w => ⟨_, _, (r.mono m).dp h.1.lay, (s.mono m).dp h.2.1.lay, h.1, h.2.1, w _ _ h.2.2 (.bl _)⟩
  mono := fun h q => ⟨q.1, q.2.1, h _ q.2.2⟩
end
end DL
end
section
set_option Elab.async false
set_option linter.all false
set_option maxRecDepth 100000
set_option maxHeartbeats 4000000
namespace DL
open PySem L2
section
variable {X : Cx} {a b c e : Expr} {es : List Expr} {q q1 q2 q3 : Bool} {ra rb rc : RE} {rt rt1 rt2 : RT} {r_ : RA} {pos p : Pos} {E : Ent} {I : Hp} {δ : Env} {σ τ : St} {H : Hp}

/-! ### == and != -/
abbrev rEq := rOp fEq
abbrev rNe := rOp fNe
theorem tr_eq (hu : X.A.units + 64 < cLine) (ha : TrE X a q1 ra) (hb : TrE X b q2 rb) : TrE X (.Compare a [.Eq] [b] pos) (q1 && q2) (rEq ra rb) := tr_cmp (op_eqD hu) im_fEq ha hb
theorem tr_ne (hu : X.A.units + 64 < cLine) (ha : TrE X a q1 ra) (hb : TrE X b q2 rb) : TrE X (.Compare a [.NotEq] [b] pos) (q1 && q2) (rNe ra rb) := tr_cmp (op_neD hu) im_fNe ha hb

/-! ### one operand, as it is -/
def rV (f : Option D → (D → Prop) → Prop) (ra : RE) : RE := fun δ Q => ra δ fun x δ1 => f (vw δ1 x) fun z => Q (.im z) δ1
structure VwOk (X : Cx) (f : Option D → (D → Prop) → Prop) (g : V → Hp → VK → Prop) : Prop where
  ok : ∀ {I H : Hp} {v : V} {d : D} {k : D → Prop} {Q : VK}, Same I H → Shl X.K H I v d → f (some d) k → (∀ w z, k z → Rep X.K I w z → Q w H) → g v H Q
  no : ∀ {k : D → Prop}, ¬ f none k
  mono : ∀ {d : Option D} {k k' : D → Prop}, (∀ z, k z → k' z) → f d k → f d k'
theorem rV_mono {f : Option D → (D → Prop) → Prop} {g : V → Hp → VK → Prop} (hf : VwOk X f g) (ha : TrE X a q ra) {δ : Env} {Q Q' : Rd → Env → Prop} (h : ∀ x δ, Q x δ → Q' x δ) : rV f ra δ Q → rV f ra δ Q' := ha.mono fun _ _ => hf.mono fun _ => h _ _
theorem rV_run {f : Option D → (D → Prop) → Prop} {g : V → Hp → VK → Prop} (hf : VwOk X f g) (ha : TrE X a q ra) {Q : VK} (S : Sta X.K E I δ (σ ++ τ) H)
    (h : rV f ra δ fun x δ' => ∀ v I' H', Same I I' → (q = true → Same H H') → RdSt X.K E I' δ' (σ ++ τ) H' v x → Q v H') : preE X q ra σ H fun v H1 => g v H1 Q := by
  refine ⟨E, I, δ, τ, S, ha.mono (fun x δ1 h1 => ?_) h⟩
  intro v I1 H1 s1 k1 st
  cases e : vw δ1 x with
  | none => rw [e] at h1; exact (hf.no h1).elim
  | some d =>
    rw [e] at h1
    exact hf.ok st.sta.le (st.shl e) h1 fun w z q rp => q w I1 H1 s1 k1 ⟨st.sta, rp⟩
theorem tr_b1 {f : Option D → (D → Prop) → Prop} {r : List V → Hp → VK → Prop} {id : String} {x : Str} (hc : CallR X (.builtin id) r) (hg : Gl X x) (hm : X.mg x = none) (hv : bootBuiltins x = some (.builtin id)) (hf : VwOk X f fun v H Q => r [v] H Q)
    (ha : TrE X a q ra) (hn : x ≠ "__name__" := by decide) (hdb : (x == ("__debug__" : Str)) = false := by decide) (he : starEach [a] X.env = (false, eval a X.env) :: starEach [] X.env := by rfl) : TrE X (.Call (.Name x p) [a] [] pos) q (rV f ra) :=
  ⟨weakE (pe_callB hc hg hm hv (pa_cons ha.pe pa_nil he) hn hdb he) fun σ H Q _ ⟨E, I, δ, τ, S, h⟩ => rV_run hf ha S h, rV_mono hf ha⟩
theorem tr_t1 {f : Option D → (D → Prop) → Prop} {r : List V → Hp → VK → Prop} {T : String} {x : Str} (hc : CallR X (.type T) r) (hg : Gl X x) (hm : X.mg x = none) (hv : bootBuiltins x = some (.type T)) (hf : VwOk X f fun v H Q => r [v] H Q)
    (ha : TrE X a q ra) (hn : x ≠ "__name__" := by decide) (hdb : (x == ("__debug__" : Str)) = false := by decide) (he : starEach [a] X.env = (false, eval a X.env) :: starEach [] X.env := by rfl) : TrE X (.Call (.Name x p) [a] [] pos) q (rV f ra) :=
  ⟨weakE (pe_callTy hc hg hm hv (pa_cons ha.pe pa_nil he) hn hdb he) fun σ H Q _ ⟨E, I, δ, τ, S, h⟩ => rV_run hf ha S h, rV_mono hf ha⟩
/-- len -/
def fLen : Option D → (D → Prop) → Prop
  | some (.lst xs), k => k (.int xs.length)
  | some (.wl xs), k => k (.int xs.length)
  | some (.tup xs), k => k (.int xs.length)
  | some (.wt xs), k => k (.int xs.length)
  | some (.str x), k => x.length ≤ sizeLine ∧ k (.int x.length)
  | some (.dK xs), k => k (.int xs.length)
  | _, _ => False
theorem call_lenA : CallR X (.builtin "len") (fun xs H Q => (∃ x n, xs = [x] ∧ LenV X.K x H n ∧ Q (.int n) H) ∨ ∃ a kvs, xs = [V.ref a] ∧ L2.Rd H a (.dK kvs) ∧ Q (.int kvs.length) H) := by
  refine call_len.or ?_
  intro pins s σ H xs us Q I r h
  obtain ⟨a, kvs, rfl, e, q⟩ := h
  rw [Vals.ref1 r]
  exact d_len I e fun t s' I' => ⟨.int _, _, I', ⟨_, rfl⟩, q⟩
theorem vw_len : VwOk X fLen (fun v H Q => (∃ x n, [v] = [x] ∧ LenV X.K x H n ∧ Q (.int n) H) ∨ ∃ a kvs, [v] = [V.ref a] ∧ L2.Rd H a (.dK kvs) ∧ Q (.int kvs.length) H) where
  ok := fun {I H v d k Q} m s h w => by
    cases s with
    | non => exact h.elim
    | bl => exact h.elim
    | int => exact h.elim
    | str x => exact .inl ⟨_, _, rfl, ⟨h.1, rfl⟩, w _ _ h.2 (.int _)⟩
    | ref => exact h.elim
    | wl e r => exact .inl ⟨_, _, rfl, .inl ⟨_, e, rfl⟩, by rw [r.length]; exact w _ _ h (.int _)⟩
    | lst e r => exact .inl ⟨_, _, rfl, .inl ⟨_, SqL.of e, rfl⟩, by rw [r.length]; exact w _ _ h (.int _)⟩
    | tup e r => exact .inl ⟨_, _, rfl, .inr ⟨_, SqT.of (m _ _ e), rfl⟩, by rw [r.length]; exact w _ _ h (.int _)⟩
    | wt e r => exact .inl ⟨_, _, rfl, .inr ⟨_, Same.seqT m e, rfl⟩, by rw [r.length]; exact w _ _ h (.int _)⟩
    | dK e r => exact .inr ⟨_, _, rfl, e, by rw [r.length]; exact w _ _ h (.int _)⟩
    | dT e r => exact h.elim
    | obj => exact h.elim
  no := fun h => h
  mono := fun {d k k'} hk h => by
    match d, h with
    | some (.lst _), h => exact hk _ h
    | some (.wl _), h => exact hk _ h
    | some (.tup _), h => exact hk _ h
    | some (.wt _), h => exact hk _ h
    | some (.str _), h => exact ⟨h.1, hk _ h.2⟩
    | some (.dK _), h => exact hk _ h
abbrev rLen := rV fLen
theorem tr_len (hg : Gl X "len") (hm : X.mg "len" = none) (ha : TrE X a q ra) (he : starEach [a] X.env = (false, eval a X.env) :: starEach [] X.env := by rfl) : TrE X (.Call (.Name "len" p) [a] [] pos) q (rLen ra) :=
  tr_b1 call_lenA hg hm PySem.boot_len vw_len ha (by decide) (by decide) he
/-- lists of one kind -/
def D.ints? : List D → Option (List Int)
  | [] => some []
  | .int i :: r => (D.ints? r).map (i :: ·)
  | _ :: _ => none
def D.bls? : List D → Option (List Bool)
  | [] => some []
  | .bl i :: r => (D.bls? r).map (i :: ·)
  | _ :: _ => none
theorem ints_eq : ∀ {ds : List D} {ns : List Int}, D.ints? ds = some ns → ds = ns.map D.int
  | [], _, h => by cases h; rfl
  | .int i :: r, ns, h => by
    simp only [D.ints?, Option.map_eq_some_iff] at h
    obtain ⟨m, h1, rfl⟩ := h
    rw [ints_eq h1, List.map_cons]
theorem bls_eq : ∀ {ds : List D} {ns : List Bool}, D.bls? ds = some ns → ds = ns.map D.bl
  | [], _, h => by cases h; rfl
  | .bl i :: r, ns, h => by
    simp only [D.bls?, Option.map_eq_some_iff] at h
    obtain ⟨m, h1, rfl⟩ := h
    rw [bls_eq h1, List.map_cons]
@[simp] theorem ints_map (ns : List Int) : D.ints? (ns.map D.int) = some ns := by
  induction ns with
  | nil => rfl
  | cons n r ih => simp [D.ints?, ih]
@[simp] theorem bls_map (ns : List Bool) : D.bls? (ns.map D.bl) = some ns := by
  induction ns with
  | nil => rfl
  | cons n r ih => simp [D.bls?, ih]
/-- sum of ints; any, all of truth values -/
def fSum : Option D → (D → Prop) → Prop
  | some (.lst xs), k => ∃ ns : List Int, xs = ns.map D.int ∧ k (.int ns.sum)
  | _, _ => False
def fBs (g : List Bool → Bool) : Option D → (D → Prop) → Prop
  | some (.lst xs), k => ∃ bs : List Bool, xs = bs.map D.bl ∧ k (.bl (g bs))
  | _, _ => False
theorem vw_sum : VwOk X fSum (fun v H Q => rSum X.K [v] H Q) where
  ok := fun {I H v d k Q} m s h w => by
    cases s with
    | lst e r => obtain ⟨ns, rfl, h⟩ := h; exact ⟨_, ns, rfl, by rw [← r.ints_of]; exact SqL.of e, w _ _ h (.int _)⟩
    | _ => exact h.elim
  no := fun h => h
  mono := fun {d k k'} hk h => by
    match d, h with
    | some (.lst _), ⟨ns, e, h⟩ => exact ⟨ns, e, hk _ h⟩
theorem vw_any : VwOk X (fBs fun bs => bs.any id) (fun v H Q => rAny X.K [v] H Q) where
  ok := fun {I H v d k Q} m s h w => by
    cases s with
    | lst e r => obtain ⟨ns, rfl, h⟩ := h; exact ⟨_, ns, rfl, by rw [← r.bls_of]; exact SqL.of e, w _ _ h (.bl _)⟩
    | _ => exact h.elim
  no := fun h => h
  mono := fun {d k k'} hk h => by
    match d, h with
    | some (.lst _), ⟨ns, e, h⟩ => exact ⟨ns, e, hk _ h⟩
theorem vw_all : VwOk X (fBs fun bs => bs.all id) (fun v H Q => rAll X.K [v] H Q) where
  ok := fun {I H v d k Q} m s h w => by
    cases s with
    | lst e r => obtain ⟨ns, rfl, h⟩ := h; exact ⟨_, ns, rfl, by rw [← r.bls_of]; exact SqL.of e, w _ _ h (.bl _)⟩
    | _ => exact h.elim
  no := fun h => h
  mono := fun {d k k'} hk h => by
    match d, h with
    | some (.lst _), ⟨ns, e, h⟩ => exact ⟨ns, e, hk _ h⟩
abbrev rSumL := rV fSum
abbrev rAnyL := rV (fBs fun bs => bs.any id)
abbrev rAllL := rV (fBs fun bs => bs.all id)
theorem tr_sum (hc : X.calm = true) (hg : Gl X "sum") (hm : X.mg "sum" = none) (ha : TrE X a q ra) (he : starEach [a] X.env = (false, eval a X.env) :: starEach [] X.env := by rfl) : TrE X (.Call (.Name "sum" p) [a] [] pos) q (rSumL ra) :=
  tr_b1 (cr_sum hc) hg hm (by decide +kernel) vw_sum ha (by decide) (by decide) he
theorem tr_any (hc : X.calm = true) (hg : Gl X "any") (hm : X.mg "any" = none) (ha : TrE X a q ra) (he : starEach [a] X.env = (false, eval a X.env) :: starEach [] X.env := by rfl) : TrE X (.Call (.Name "any" p) [a] [] pos) q (rAnyL ra) :=
  tr_b1 (cr_any hc) hg hm (by decide +kernel) vw_any ha (by decide) (by decide) he
theorem tr_all (hc : X.calm = true) (hg : Gl X "all") (hm : X.mg "all" = none) (ha : TrE X a q ra) (he : starEach [a] X.env = (false, eval a X.env) :: starEach [] X.env := by rfl) : TrE X (.Call (.Name "all" p) [a] [] pos) q (rAllL ra) :=
  tr_b1 (cr_all hc) hg hm (by decide +kernel) vw_all ha (by decide) (by decide) he
/-- int(..) of an int, a truth value -/
def fInt : Option D → (D → Prop) → Prop
  | some (.int i), k => k (.int i)
  | some (.bl b), k => k (.int (if b then 1 else 0))
  | _, _ => False
theorem vw_int : VwOk X fInt (fun v H Q => (∃ i, [v] = [.int i] ∧ Q (.int i) H) ∨ ∃ k, [v] = [.bl k] ∧ Q (.int (if k then 1 else 0)) H) where
  ok := fun {I H v d k Q} m s h w => by
    cases s with
    | int i => exact .inl ⟨i, rfl, w _ _ h (.int _)⟩
    | bl i => exact .inr ⟨i, rfl, w _ _ h (.int _)⟩
    | _ => exact h.elim
  no := fun h => h
  mono := fun {d k k'} hk h => by
    match d, h with
    | some (.int _), h => exact hk _ h
    | some (.bl _), h => exact hk _ h
abbrev rInt := rV fInt
theorem tr_int1 (hg : Gl X "int") (hm : X.mg "int" = none) (ha : TrE X a q ra) (he : starEach [a] X.env = (false, eval a X.env) :: starEach [] X.env := by rfl) : TrE X (.Call (.Name "int" p) [a] [] pos) q (rInt ra) :=
  tr_t1 call_int1 hg hm (by decide +kernel) vw_int ha (by decide) (by decide) he

/-! ### results that are new lists, and tuples -/
theorem push_lst {K : PySem.W.Frag} {E : Ent} {I H : Hp} {δ : Env} {σ : St} {p : Addr} {vs : List V} {ds : List D} (S : Sta K E I δ σ H) (n : H p = none) (r : Reps K I vs ds) : RdSt K E I δ σ (upd H p (.lst vs)) (.ref p) (.tm (.ob (.lst ds))) :=
  S.push (same_upd n) (L' := [p]) (by intro a q; rw [List.mem_singleton.mp q]; exact n) (by simp) (.ob (.mk upd_same (.lst r)))
theorem alloc_tup {K : PySem.W.Frag} {E : Ent} {I H : Hp} {δ : Env} {σ : St} {p : Addr} {vs : List V} {ds : List D} (S : Sta K E I δ σ H) (n : H p = none) (r : Reps K I vs ds) :
    RdSt K E (upd I p (.tup vs)) δ σ (upd H p (.tup vs)) (.ref p) (.im (.tup ds)) := ⟨S.alloc n, .tup upd_same (r.mono (same_upd (S.free n)))⟩
def rVL (f : Option D → (List D → Prop) → Prop) (ra : RE) : RE := fun δ Q => ra δ fun x δ1 => f (vw δ1 x) fun z => Q (.tm (.ob (.lst z))) δ1
structure VlOk (X : Cx) (f : Option D → (List D → Prop) → Prop) (g : V → Hp → VK → Prop) : Prop where
  ok : ∀ {I H : Hp} {v : V} {d : D} {k : List D → Prop} {Q : VK}, Same I H → Shl X.K H I v d → f (some d) k → (∀ p vs z, k z → Reps X.K I vs z → H p = none → Q (.ref p) (upd H p (.lst vs))) → g v H Q
  no : ∀ {k : List D → Prop}, ¬ f none k
  mono : ∀ {d : Option D} {k k' : List D → Prop}, (∀ z, k z → k' z) → f d k → f d k'
theorem rVL_run {f : Option D → (List D → Prop) → Prop} {g : V → Hp → VK → Prop} (hf : VlOk X f g) (ha : TrE X a q ra) {Q : VK} (S : Sta X.K E I δ (σ ++ τ) H)
    (h : rVL f ra δ fun x δ' => ∀ v I' H', Same I I' → (q = true → Same H H') → RdSt X.K E I' δ' (σ ++ τ) H' v x → Q v H') : preE X q ra σ H fun v H1 => g v H1 Q := by
  refine ⟨E, I, δ, τ, S, ha.mono (fun x δ1 h1 => ?_) h⟩
  intro v I1 H1 s1 k1 st
  cases e : vw δ1 x with
  | none => rw [e] at h1; exact (hf.no h1).elim
  | some d =>
    rw [e] at h1
    exact hf.ok st.sta.le (st.shl e) h1 fun p vs z q rp n => q (.ref p) I1 _ s1 (fun w => (k1 w).trans (same_upd n)) (push_lst st.sta n rp)
theorem rVL_mono {f : Option D → (List D → Prop) → Prop} {g : V → Hp → VK → Prop} (hf : VlOk X f g) (ha : TrE X a q ra) {δ : Env} {Q Q' : Rd → Env → Prop} (h : ∀ x δ, Q x δ → Q' x δ) : rVL f ra δ Q → rVL f ra δ Q' := ha.mono fun _ _ => hf.mono fun _ => h _ _
theorem tr_tL {f : Option D → (List D → Prop) → Prop} {r : List V → Hp → VK → Prop} {T : String} {x : Str} (hc : CallR X (.type T) r) (hg : Gl X x) (hm : X.mg x = none) (hv : bootBuiltins x = some (.type T)) (hf : VlOk X f fun v H Q => r [v] H Q)
    (ha : TrE X a q ra) (hn : x ≠ "__name__" := by decide) (hdb : (x == ("__debug__" : Str)) = false := by decide) (he : starEach [a] X.env = (false, eval a X.env) :: starEach [] X.env := by rfl) : TrE X (.Call (.Name x p) [a] [] pos) q (rVL f ra) :=
  ⟨weakE (pe_callTy hc hg hm hv (pa_cons ha.pe pa_nil he) hn hdb he) fun σ H Q _ ⟨E, I, δ, τ, S, h⟩ => rVL_run hf ha S h, rVL_mono hf ha⟩
theorem tr_bL {f : Option D → (List D → Prop) → Prop} {r : List V → Hp → VK → Prop} {id : String} {x : Str} (hc : CallR X (.builtin id) r) (hg : Gl X x) (hm : X.mg x = none) (hv : bootBuiltins x = some (.builtin id)) (hf : VlOk X f fun v H Q => r [v] H Q)
    (ha : TrE X a q ra) (hn : x ≠ "__name__" := by decide) (hdb : (x == ("__debug__" : Str)) = false := by decide) (he : starEach [a] X.env = (false, eval a X.env) :: starEach [] X.env := by rfl) : TrE X (.Call (.Name x p) [a] [] pos) q (rVL f ra) :=
  ⟨weakE (pe_callB hc hg hm hv (pa_cons ha.pe pa_nil he) hn hdb he) fun σ H Q _ ⟨E, I, δ, τ, S, h⟩ => rVL_run hf ha S h, rVL_mono hf ha⟩
/-- list(..) of a list, a tuple -/
def fList : Option D → (List D → Prop) → Prop
  | some (.lst xs), k => k xs
  | some (.wl xs), k => k xs
  | some (.tup xs), k => k xs
  | some (.wt xs), k => k xs
  | _, _ => False
theorem vl_list : VlOk X fList (fun v H Q => ∃ p ys, [v] = [.ref p] ∧ (SqL X.K H p ys ∨ SqT X.K H p ys) ∧ ∀ l, H l = none → Q (.ref l) (upd H l (.lst ys))) where
  ok := fun {I H v d k Q} m s h w => by
    cases s with
    | lst e r => exact ⟨_, _, rfl, .inl (SqL.of e), fun l n => w l _ _ h r n⟩
    | wl e r => exact ⟨_, _, rfl, .inl e, fun l n => w l _ _ h r n⟩
    | tup e r => exact ⟨_, _, rfl, .inr (SqT.of (m _ _ e)), fun l n => w l _ _ h r n⟩
    | wt e r => exact ⟨_, _, rfl, .inr (Same.seqT m e), fun l n => w l _ _ h r n⟩
    | _ => exact h.elim
  no := fun h => h
  mono := fun {d k k'} hk h => by
    match d, h with
    | some (.lst _), h => exact hk _ h
    | some (.wl _), h => exact hk _ h
    | some (.tup _), h => exact hk _ h
    | some (.wt _), h => exact hk _ h
abbrev rListOf := rVL fList
theorem tr_list (hg : Gl X "list") (hm : X.mg "list" = none) (ha : TrE X a q ra) (he : starEach [a] X.env = (false, eval a X.env) :: starEach [] X.env := by rfl) : TrE X (.Call (.Name "list" p) [a] [] pos) q (rListOf ra) :=
  tr_tL call_list_of hg hm (by decide +kernel) vl_list ha (by decide) (by decide) he
/-- tuple(..) of a list, a tuple -/
def fTupl : Option D → (D → Prop) → Prop
  | some (.lst xs), k => k (.tup xs)
  | some (.wl xs), k => k (.tup xs)
  | some (.tup xs), k => k (.tup xs)
  | some (.wt xs), k => k (.wt xs)
  | _, _ => False
theorem fTupl_mono : ∀ {d : Option D} {k k' : D → Prop}, (∀ z, k z → k' z) → fTupl d k → fTupl d k'
  | some (.lst _), _, _, hk, h => hk _ h
  | some (.wl _), _, _, hk, h => hk _ h
  | some (.tup _), _, _, hk, h => hk _ h
  | some (.wt _), _, _, hk, h => hk _ h
def rTupOf (ra : RE) : RE := fun δ Q => ra δ fun x δ1 => fTupl (vw δ1 x) fun z => Q (.im z) δ1
theorem fList_mono : ∀ {d : Option D} {k k' : List D → Prop}, (∀ z, k z → k' z) → fList d k → fList d k'
  | some (.lst _), _, _, hk, h => hk _ h
  | some (.wl _), _, _, hk, h => hk _ h
  | some (.tup _), _, _, hk, h => hk _ h
  | some (.wt _), _, _, hk, h => hk _ h
theorem tr_tuple (hg : Gl X "tuple") (hm : X.mg "tuple" = none) (ha : TrE X a q ra) (he : starEach [a] X.env = (false, eval a X.env) :: starEach [] X.env := by rfl) : TrE X (.Call (.Name "tuple" p) [a] [] pos) q (rTupOf ra) := by
  refine ⟨weakE (pe_callTy call_tuple_of hg hm (by decide +kernel) (pa_cons ha.pe pa_nil he) (by decide) (by decide) he) fun σ H Q _ ⟨E, I, δ, τ, S, h⟩ => ⟨E, I, δ, τ, S, ha.mono (fun x δ1 h1 => ?_) h⟩, fun h => ha.mono fun _ _ => fTupl_mono fun _ => h _ _⟩
  intro v I1 H1 s1 k1 st
  cases e : vw δ1 x with
  | none => rw [e] at h1; exact h1.elim
  | some d =>
    rw [e] at h1
    have sh := st.shl e
    clear e
    cases sh with
    | lst e r => exact ⟨_, _, rfl, .inl ⟨SqL.of e, fun l n => h1 _ _ _ (s1.trans (same_upd (st.sta.free n))) (fun w => (k1 w).trans (same_upd n)) (alloc_tup st.sta n r)⟩⟩
    | wl e r => exact ⟨_, _, rfl, .inl ⟨e, fun l n => h1 _ _ _ (s1.trans (same_upd (st.sta.free n))) (fun w => (k1 w).trans (same_upd n)) (alloc_tup st.sta n r)⟩⟩
    | tup e r => exact ⟨_, _, rfl, .inr ⟨SqT.of (st.sta.le _ _ e), h1 _ _ _ s1 k1 ⟨st.sta, .tup e r⟩⟩⟩
    | wt e r => exact ⟨_, _, rfl, .inr ⟨Same.seqT st.sta.le e, h1 _ _ _ s1 k1 ⟨st.sta, .wt e r⟩⟩⟩
    | _ => exact h1.elim
end
end DL
end
section
set_option Elab.async false
set_option linter.all false
set_option maxRecDepth 100000
set_option maxHeartbeats 4000000
namespace DL
open PySem L2
section
variable {X : Cx} {a b c e : Expr} {es rest : List Expr} {q q1 q2 q3 : Bool} {ra rb rc : RE} {rt rt1 rt2 : RT} {r_ : RA} {pos p : Pos} {E : Ent} {I : Hp} {δ : Env} {σ τ : St} {H : Hp}

/-! ### tests -/
def fTru : Option D → (Bool → Prop) → Prop
  | some .non, k => k false
  | some (.bl b), k => k b
  | some (.int i), k => k (i != 0)
  | some (.str x), k => x.length ≤ sizeLine ∧ k ((x.length : Int) != 0)
  | some (.lst xs), k => k (!xs.isEmpty)
  | some (.wl xs), k => k (!xs.isEmpty)
  | some (.tup xs), k => k (!xs.isEmpty)
  | some (.wt xs), k => k (!xs.isEmpty)
  | some (.dK xs), k => k (!xs.isEmpty)
  | _, _ => False
theorem fTru_mono : ∀ {d : Option D} {k k' : Bool → Prop}, (∀ z, k z → k' z) → fTru d k → fTru d k'
  | some .non, _, _, hk, h => hk _ h
  | some (.bl _), _, _, hk, h => hk _ h
  | some (.int _), _, _, hk, h => hk _ h
  | some (.str _), _, _, hk, h => ⟨h.1, hk _ h.2⟩
  | some (.lst _), _, _, hk, h => hk _ h
  | some (.wl _), _, _, hk, h => hk _ h
  | some (.tup _), _, _, hk, h => hk _ h
  | some (.wt _), _, _, hk, h => hk _ h
  | some (.dK _), _, _, hk, h => hk _ h
theorem empty_eq {K : PySem.W.Frag} {vs : List V} {ds : List D} (r : Reps K I vs ds) : vs.isEmpty = ds.isEmpty := by cases r <;> rfl
theorem truA : TruR X (fun x H Q => (∃ k, TruV X.K x H k ∧ Q k H) ∨ ∃ a kvs, x = .ref a ∧ L2.Rd H a (.dK kvs) ∧ Q (!kvs.isEmpty) H) := by
  intro pins s σ H x v Q I r h
  rcases h with h | ⟨a, kvs, rfl, e, q⟩
  · exact tru_ok pins s σ H x v Q I r h
  · cases r
    exact d_truth I e fun s' I' => ⟨_, I', q⟩
/-- a test by the value's truth -/
def rTru (ra : RE) : RT := fun δ Q => ra δ fun x δ1 => fTru (vw δ1 x) fun b => Q b δ1
theorem tt_val (ha : TrE X a q ra) (he : ∀ whole, isTrue a X.env whole = (do let v ← whole; standAt a.pos; holding [v] (truthy v)) := by intro _; rfl) : TrT X a q (rTru ra) := by
  refine ⟨weakT (pt_truthR ha.pe truA he) fun σ H Q _ ⟨E, I, δ, τ, S, h⟩ => ⟨E, I, δ, τ, S, ha.mono (fun x δ1 h1 => ?_) h⟩, fun h => ha.mono fun _ _ => fTru_mono fun _ => h _ _⟩
  intro v I1 H1 s1 k1 st
  have S1 := st.sta
  cases e : vw δ1 x with
  | none => rw [e] at h1; exact h1.elim
  | some d =>
    rw [e] at h1
    have sh := st.shl e
    clear e
    cases sh with
    | non => exact .inl ⟨false, rfl, h1 _ _ s1 k1 S1⟩
    | bl b => exact .inl ⟨b, rfl, h1 _ _ s1 k1 S1⟩
    | int i => exact .inl ⟨_, rfl, h1 _ _ s1 k1 S1⟩
    | str i => exact .inl ⟨_, ⟨h1.1, rfl⟩, h1.2 _ _ s1 k1 S1⟩
    | wl e r => exact .inl ⟨_, .inl ⟨_, e, by rw [empty_eq r]⟩, h1 _ _ s1 k1 S1⟩
    | lst e r => exact .inl ⟨_, .inl ⟨_, SqL.of e, by rw [empty_eq r]⟩, h1 _ _ s1 k1 S1⟩
    | tup e r => exact .inl ⟨_, .inr (.inl ⟨_, SqT.of (S1.le _ _ e), by rw [empty_eq r]⟩), h1 _ _ s1 k1 S1⟩
    | wt e r => exact .inl ⟨_, .inr (.inl ⟨_, Same.seqT S1.le e, by rw [empty_eq r]⟩), h1 _ _ s1 k1 S1⟩
    | @dK a vs ds e r =>
      refine .inr ⟨_, _, rfl, e, ?_⟩
      have z : vs.isEmpty = ds.isEmpty := by cases r <;> rfl
      rw [z]; exact h1 _ _ s1 k1 S1
    | _ => exact h1.elim
structure TrW (X : Cx) (e : Expr) (q : Bool) (r : RT) : Prop where
  pw : PW X e (preT X q r)
  mono : ∀ {δ : Env} {Q Q' : Bool → Env → Prop}, (∀ x δ', Q x δ' → Q' x δ') → r δ Q → r δ Q'
theorem TrW.tt (h : TrW X a q rt) : TrT X a q rt := ⟨h.pw.pt, h.mono⟩
theorem weakW {t u : TT} (h : PW X e t) (w : ∀ σ H Q, u σ H Q → t σ H Q) : PW X e u := ⟨fun wh pins s σ H Q I q => h.run wh pins s σ H Q I (w _ _ _ q)⟩
def rAnd (r1 r2 : RT) : RT := fun δ Q => r1 δ fun b δ1 => if b = true then r2 δ1 Q else Q false δ1
def rOr (r1 r2 : RT) : RT := fun δ Q => r1 δ fun b δ1 => if b = true then Q true δ1 else r2 δ1 Q
def rNot (r1 : RT) : RT := fun δ Q => r1 δ fun b δ1 => Q (!b) δ1
theorem ite_mono {P : Bool} {A A' B B' : Prop} (h1 : A → A') (h2 : B → B') : (if P = true then A else B) → if P = true then A' else B' := by
  cases P with
  | true => exact h1
  | false => exact h2
theorem tt_and1 (ha : TrT X a q rt) : TrW X (.BoolOp .And [a] pos) q rt := ⟨pw_and1 ha.pt, ha.mono⟩
theorem tt_or1 (ha : TrT X a q rt) : TrW X (.BoolOp .Or [a] pos) q rt := ⟨pw_or1 ha.pt, ha.mono⟩
theorem tt_and (ha : TrT X a q1 rt1) (hb : TrW X (.BoolOp .And (b :: rest) pos) q2 rt2) : TrW X (.BoolOp .And (a :: b :: rest) pos) (q1 && q2) (rAnd rt1 rt2) := by
  refine ⟨weakW (pw_and ha.pt hb.pw) fun σ H Q ⟨E, I, δ, τ, S, h⟩ => ⟨E, I, δ, τ, S, ha.mono (fun x δ1 h1 => ?_) h⟩, fun h => ha.mono fun _ _ => ite_mono (hb.mono h) (h _ _)⟩
  intro I1 H1 s1 k1 S1
  cases x with
  | true => exact ⟨E, I1, δ1, τ, S1, hb.mono (fun y δ2 h2 I2 H2 s2 k2 S2 => h2 I2 H2 (s1.trans s2) (fun z => (k1 (and_q z).1).trans (k2 (and_q z).2)) S2) h1⟩
  | false => exact h1 I1 H1 s1 (fun z => k1 (and_q z).1) S1
theorem tt_or (ha : TrT X a q1 rt1) (hb : TrW X (.BoolOp .Or (b :: rest) pos) q2 rt2) : TrW X (.BoolOp .Or (a :: b :: rest) pos) (q1 && q2) (rOr rt1 rt2) := by
  refine ⟨weakW (pw_or ha.pt hb.pw) fun σ H Q ⟨E, I, δ, τ, S, h⟩ => ⟨E, I, δ, τ, S, ha.mono (fun x δ1 h1 => ?_) h⟩, fun h => ha.mono fun _ _ => ite_mono (h _ _) (hb.mono h)⟩
  intro I1 H1 s1 k1 S1
  cases x with
  | false => exact ⟨E, I1, δ1, τ, S1, hb.mono (fun y δ2 h2 I2 H2 s2 k2 S2 => h2 I2 H2 (s1.trans s2) (fun z => (k1 (and_q z).1).trans (k2 (and_q z).2)) S2) h1⟩
  | true => exact h1 I1 H1 s1 (fun z => k1 (and_q z).1) S1
theorem tt_not (ha : TrT X a q rt) : TrT X (.UnaryOp .Not a pos) q (rNot rt) :=
  ⟨weakT (pt_not ha.pt) fun σ H Q _ ⟨E, I, δ, τ, S, h⟩ => ⟨E, I, δ, τ, S, ha.mono (fun x δ1 h1 => h1) h⟩, fun h => ha.mono fun _ _ => h _ _⟩
/-- a if t else b -/
def rIf (t : RT) (ra rb : RE) : RE := fun δ Q => t δ fun c δ1 => if c = true then ra δ1 Q else rb δ1 Q
theorem tr_if (hc : TrT X c q1 rt) (ha : TrE X a q2 ra) (hb : TrE X b q3 rb) : TrE X (.IfExp c a b pos) (q1 && (q2 && q3)) (rIf rt ra rb) := by
  refine ⟨weakE (pe_ifExp hc.pt ha.pe hb.pe) fun σ H Q _ ⟨E, I, δ, τ, S, h⟩ => ⟨E, I, δ, τ, S, hc.mono (fun x δ1 h1 => ?_) h⟩, fun h => hc.mono fun _ _ => ite_mono (ha.mono h) (hb.mono h)⟩
  intro I1 H1 s1 k1 S1
  cases x with
  | true => exact ⟨E, I1, δ1, τ, S1, ha.mono (fun y δ2 h2 v I2 H2 s2 k2 S2 => h2 v I2 H2 (s1.trans s2) (fun z => (k1 (and_q z).1).trans (k2 (and_q (and_q z).2).1)) S2) h1⟩
  | false => exact ⟨E, I1, δ1, τ, S1, hb.mono (fun y δ2 h2 v I2 H2 s2 k2 S2 => h2 v I2 H2 (s1.trans s2) (fun z => (k1 (and_q z).1).trans (k2 (and_q (and_q z).2).2)) S2) h1⟩
/-- and, or, not as values (of truth values) -/
def onBl : D → (Bool → Prop) → Prop
  | .bl b, k => k b
  | _, _ => False
theorem onBl_mono {k k' : Bool → Prop} (h : ∀ b, k b → k' b) : ∀ {d : D}, onBl d k → onBl d k'
  | .bl _, q => h _ q
theorem onBl_ok {K : PySem.W.Frag} {k : Bool → Prop} {v : V} : ∀ {d : D}, Rep K I v d → onBl d k → ∃ b, v = .bl b ∧ k b
  | .bl b, r, q => by cases r; exact ⟨b, rfl, q⟩
def rAndV (ra rb : RE) : RE := fun δ Q => r1 ra (fun d δ1 => onBl d fun c => if c = true then rb δ1 Q else Q (.im (.bl false)) δ1) δ
def rOrV (ra rb : RE) : RE := fun δ Q => r1 ra (fun d δ1 => onBl d fun c => if c = true then Q (.im (.bl true)) δ1 else rb δ1 Q) δ
def rNotV (ra : RE) : RE := fun δ Q => r1 ra (fun d δ1 => onBl d fun c => Q (.im (.bl (!c))) δ1) δ
theorem tr_one {op} (ha : TrE X a q ra) : TrE X (.BoolOp op [a] pos) q ra := ⟨pe_one ha.pe, ha.mono⟩
theorem tr_and (ha : TrE X a q1 ra) (hb : TrE X (.BoolOp .And (b :: rest) pos) q2 rb) : TrE X (.BoolOp .And (a :: b :: rest) pos) (q1 && q2) (rAndV ra rb) := by
  refine ⟨weakE (pe_and ha.pe hb.pe) fun σ H Q _ ⟨E, I, δ, τ, S, h⟩ => one ha S h fun v d δ1 I1 H1 s1 k1 S1 rp h1 => ?_, fun h => r1_mono ha fun _ _ => onBl_mono fun _ => ite_mono (hb.mono h) (h _ _)⟩
  obtain ⟨c, rfl, h1⟩ := onBl_ok rp h1
  refine ⟨c, rfl, ?_⟩
  cases c with
  | true => exact ⟨E, I1, δ1, τ, S1, hb.mono (fun y δ2 h2 v I2 H2 s2 k2 S2 => h2 v I2 H2 (s1.trans s2) (fun z => (k1 (and_q z).1).trans (k2 (and_q z).2)) S2) h1⟩
  | false => exact h1 _ I1 H1 s1 (fun z => k1 (and_q z).1) ⟨S1, .bl _⟩
theorem tr_or (ha : TrE X a q1 ra) (hb : TrE X (.BoolOp .Or (b :: rest) pos) q2 rb) : TrE X (.BoolOp .Or (a :: b :: rest) pos) (q1 && q2) (rOrV ra rb) := by
  refine ⟨weakE (pe_or ha.pe hb.pe) fun σ H Q _ ⟨E, I, δ, τ, S, h⟩ => one ha S h fun v d δ1 I1 H1 s1 k1 S1 rp h1 => ?_, fun h => r1_mono ha fun _ _ => onBl_mono fun _ => ite_mono (h _ _) (hb.mono h)⟩
  obtain ⟨c, rfl, h1⟩ := onBl_ok rp h1
  refine ⟨c, rfl, ?_⟩
  cases c with
  | false => exact ⟨E, I1, δ1, τ, S1, hb.mono (fun y δ2 h2 v I2 H2 s2 k2 S2 => h2 v I2 H2 (s1.trans s2) (fun z => (k1 (and_q z).1).trans (k2 (and_q z).2)) S2) h1⟩
  | true => exact h1 _ I1 H1 s1 (fun z => k1 (and_q z).1) ⟨S1, .bl _⟩
theorem tr_not (ha : TrE X a q ra) : TrE X (.UnaryOp .Not a pos) q (rNotV ra) := by
  refine ⟨weakE (pe_not ha.pe) fun σ H Q _ ⟨E, I, δ, τ, S, h⟩ => one ha S h fun v d δ1 I1 H1 s1 k1 S1 rp h1 => ?_, fun h => r1_mono ha fun _ _ => onBl_mono fun _ => h _ _⟩
  obtain ⟨c, rfl, h1⟩ := onBl_ok rp h1
  exact ⟨c, rfl, h1 _ I1 H1 s1 k1 ⟨S1, .bl _⟩⟩
/-- x op y op' z -/
def rChain (f g : Op2) (ra rb rc : RE) : RE := fun δ Q => r2 ra rb (fun d e δ1 => f d e fun z => onBl z fun k => if k = true then r1 rc (fun h δ2 => g e h fun w => Q (.im w) δ2) δ1 else Q (.im (.bl false)) δ1) δ
theorem tr_chain {op op' : CmpOp} {r r' : R2} {f g : Op2} (ho : OpR X (compareOp op) r) (ho' : OpR X (compareOp op') r') (hf : OpIm X r f) (hg : OpIm X r' g) (ha : TrE X a q1 ra) (hb : TrE X b q2 rb) (hc : TrE X c q3 rc)
    (hm : lastMarks [op, op'] [b, c] = false := by rfl) : TrE X (.Compare a [op, op'] [b, c] pos) (q1 && q2 && q3) (rChain f g ra rb rc) := by
  refine ⟨weakE (pe_chain ho ho' ha.pe hb.pe hc.pe hm) fun σ H Q _ ⟨E, I, δ, τ, S, h⟩ => two ha hb S h fun v u d e δ1 I1 H1 s1 k1 S1 rp1 rp2 h1 => hf.ok S1.le rp1 rp2 h1 fun w z h2 rp => ?_,
    fun h => r2_mono ha hb fun _ _ _ => hf.mono fun _ => onBl_mono fun _ => ite_mono (r1_mono hc fun _ _ => hg.mono fun _ => h _ _) (h _ _)⟩
  obtain ⟨k, rfl, h2⟩ := onBl_ok rp h2
  refine ⟨k, rfl, ?_⟩
  cases k with
  | true => exact one hc S1 h2 fun v3 d3 δ2 I2 H2 s2 k2 S2 rp3 h3 => hg.ok S2.le (rp2.mono s2) rp3 h3 fun w2 z2 h4 rp4 => h4 w2 I2 H2 (s1.trans s2) (fun z => (k1 (and_q z).1).trans (k2 (and_q z).2)) ⟨S2, rp4⟩
  | false => exact h2 _ I1 H1 s1 (fun z => k1 (and_q z).1) ⟨S1, .bl _⟩
abbrev fLe : Op2 := fB0 fun i j => decide (i ≤ j)
abbrev fLt : Op2 := fB0 fun i j => decide (i < j)
abbrev fGt : Op2 := fB0 fun i j => decide (j < i)
abbrev fGe : Op2 := fB0 fun i j => decide (j ≤ i)
theorem tr_lele (ha : TrE X a q1 ra) (hb : TrE X b q2 rb) (hc : TrE X c q3 rc) (hm : lastMarks [.LtE, .LtE] [b, c] = false := by rfl) : TrE X (.Compare a [.LtE, .LtE] [b, c] pos) (q1 && q2 && q3) (rChain fLe fLe ra rb rc) := tr_chain op_le op_le im_fB0 im_fB0 ha hb hc hm
theorem tr_lelt (ha : TrE X a q1 ra) (hb : TrE X b q2 rb) (hc : TrE X c q3 rc) (hm : lastMarks [.LtE, .Lt] [b, c] = false := by rfl) : TrE X (.Compare a [.LtE, .Lt] [b, c] pos) (q1 && q2 && q3) (rChain fLe fLt ra rb rc) := tr_chain op_le op_lt im_fB0 im_fB0 ha hb hc hm
theorem tr_ltle (ha : TrE X a q1 ra) (hb : TrE X b q2 rb) (hc : TrE X c q3 rc) (hm : lastMarks [.Lt, .LtE] [b, c] = false := by rfl) : TrE X (.Compare a [.Lt, .LtE] [b, c] pos) (q1 && q2 && q3) (rChain fLt fLe ra rb rc) := tr_chain op_lt op_le im_fB0 im_fB0 ha hb hc hm
/-- is None -/
def fIsN (g : Bool → Bool) : Option D → (D → Prop) → Prop
  | some .non, k => k (.bl (g true))
  | some _, k => k (.bl (g false))
  | none, _ => False
theorem vw_isN (g : Bool → Bool) : VwOk X (fIsN g) (fun v H Q => V.non = V.non ∧ Q (.bl (g (decide (v = .non)))) H) where
  ok := fun {I H v d k Q} m s h w => by
    refine ⟨rfl, ?_⟩
    cases s with
    | non => exact w _ _ h (.bl _)
    | _ => exact w _ _ h (.bl _)
  no := fun h => h
  mono := fun {d k k'} hk h => by
    match d, h with
    | some .non, h => exact hk _ h
    | some (.bl _), h => exact hk _ h
    | some (.int _), h => exact hk _ h
    | some (.str _), h => exact hk _ h
    | some (.lst _), h => exact hk _ h
    | some (.tup _), h => exact hk _ h
    | some (.wt _), h => exact hk _ h
    | some (.dK _), h => exact hk _ h
    | some (.dT _), h => exact hk _ h
    | some (.obj _ _), h => exact hk _ h
    | some (.ref _), h => exact hk _ h
    | some (.wl _), h => exact hk _ h
abbrev rIsN := rV (fIsN id)
abbrev rNotN := rV (fIsN Bool.not)
theorem tr_isN {j pos'} (ha : TrE X a q ra) : TrE X (.Compare a [.Is] [.Constant .none j pos'] pos) q (rIsN ra) :=
  ⟨weakE (pe_cmpR op_isN ha.pe pe_non (nomark _ (by decide) (by decide))) fun σ H Q _ ⟨E, I, δ, τ, S, h⟩ => rV_run (vw_isN id) ha S h, rV_mono (vw_isN id) ha⟩
theorem tr_notN {j pos'} (ha : TrE X a q ra) : TrE X (.Compare a [.IsNot] [.Constant .none j pos'] pos) q (rNotN ra) :=
  ⟨weakE (pe_cmpR op_notN ha.pe pe_non (nomark _ (by decide) (by decide))) fun σ H Q _ ⟨E, I, δ, τ, S, h⟩ => rV_run (vw_isN Bool.not) ha S h, rV_mono (vw_isN Bool.not) ha⟩
end
end DL
end
section
set_option Elab.async false
set_option linter.all false
set_option maxRecDepth 100000
set_option maxHeartbeats 4000000
namespace DL
open PySem L2
section
variable {X : Cx} {a b c e : Expr} {es rest : List Expr} {q q1 q2 q3 : Bool} {ra rb rc : RE} {rt rt1 rt2 : RT} {r_ : RA} {pos p : Pos} {E : Ent} {I I' : Hp} {δ δ' : Env} {σ τ : St} {H H' : Hp}

/-! ### keys -/
def D.key : D → Option Key
  | .int i => some (.inl i)
  | .str x => some (.inr x)
  | _ => none
def D.keys : List D → Option (List Key)
  | [] => some []
  | d :: r => match d.key, D.keys r with
    | some k, some ks => some (k :: ks)
    | _, _ => none
def kval {κ α : Type} [DecidableEq κ] (kvs : List (κ × α)) (k : κ) : Option α := (kvs.find? fun kv => decide (kv.1 = k)).map (·.2)
def kput {κ α : Type} [DecidableEq κ] (kvs : List (κ × α)) (k : κ) (v : α) : List (κ × α) :=
  if (kvs.any fun kv => decide (kv.1 = k)) = true then kvs.map (fun kv => if kv.1 = k then (kv.1, v) else kv) else kvs ++ [(k, v)]
theorem key_rep {K : PySem.W.Frag} {v : V} {k : Key} : ∀ {d : D}, Rep K I v d → d.key = some k → v = kV k
  | .int _, r, e => by cases r; cases e; rfl
  | .str _, r, e => by cases r; cases e; rfl
theorem keys_reps {K : PySem.W.Frag} : ∀ {ds : List D} {vs : List V} {ks : List Key}, Reps K I vs ds → D.keys ds = some ks → vs = ks.map kV
  | [], _, _, r, e => by cases r; cases e; rfl
  | d :: ds, _, ks, r, e => by
    cases r with
    | cons h r =>
      unfold D.keys at e
      cases h1 : d.key with
      | none => simp [h1] at e
      | some k =>
        cases h2 : D.keys ds with
        | none => simp [h1, h2] at e
        | some js =>
          simp [h1, h2] at e
          subst e
          rw [key_rep h h1, keys_reps r h2, List.map_cons]
theorem find_pos {κ α : Type} [DecidableEq κ] {p : κ × α} {r : List (κ × α)} {k : κ} (e : p.1 = k) : kval (p :: r) k = some p.2 := by simp [kval, List.find?_cons, e]
theorem find_neg {κ α : Type} [DecidableEq κ] {p : κ × α} {r : List (κ × α)} {k : κ} (e : ¬ p.1 = k) : kval (p :: r) k = kval r k := by simp [kval, List.find?_cons, e]
theorem RepP.val {K : PySem.W.Frag} {κ : Type} [DecidableEq κ] (k : κ) : ∀ {vs : List (κ × V)} {ds : List (κ × D)}, RepP K I vs ds → match kval ds k with
    | some z => ∃ w, valV vs k = some w ∧ Rep K I w z
    | none => valV vs k = none
  | _, _, .nil => rfl
  | _, _, .cons (k := j) (v := v) (d := d) (vs := vs) (ds := ds) h r => by
    by_cases e : j = k
    · subst e
      rw [find_pos (p := (j, d)) rfl]
      exact ⟨v, valV_pos (p := (j, v)) rfl, h⟩
    · rw [find_neg (p := (j, d)) e, valV_neg (p := (j, v)) e]
      exact RepP.val k r
theorem RepP.any {K : PySem.W.Frag} {κ : Type} [DecidableEq κ] (k : κ) : ∀ {vs : List (κ × V)} {ds : List (κ × D)}, RepP K I vs ds → (vs.any fun kv => decide (kv.1 = k)) = (ds.any fun kv => decide (kv.1 = k))
  | _, _, .nil => rfl
  | _, _, .cons h r => by rw [List.any_cons, List.any_cons, RepP.any k r]
theorem RepP.repl {K : PySem.W.Frag} {κ : Type} [DecidableEq κ] (k : κ) {w : V} {z : D} (hw : Rep K I w z) : ∀ {vs : List (κ × V)} {ds : List (κ × D)}, RepP K I vs ds → RepP K I (vs.map fun kv => if kv.1 = k then (kv.1, w) else kv) (ds.map fun kv => if kv.1 = k then (kv.1, z) else kv)
  | _, _, .nil => .nil
  | _, _, .cons (k := j) h r => by
    rw [List.map_cons, List.map_cons]
    by_cases e : j = k
    · rw [if_pos e, if_pos e]; exact .cons hw (RepP.repl k hw r)
    · rw [if_neg e, if_neg e]; exact .cons h (RepP.repl k hw r)
theorem RepP.put {K : PySem.W.Frag} {κ : Type} [DecidableEq κ] {vs : List (κ × V)} {ds : List (κ × D)} (r : RepP K I vs ds) (k : κ) {w : V} {z : D} (hw : Rep K I w z) : RepP K I (putK vs k w) (kput ds k z) := by
  unfold putK kput
  rw [r.any k]
  split
  · exact r.repl k hw
  · exact r.append (.cons hw .nil)
theorem RepP.drop {K : PySem.W.Frag} {κ : Type} [DecidableEq κ] (k : κ) : ∀ {vs : List (κ × V)} {ds : List (κ × D)}, RepP K I vs ds → RepP K I (dropK vs k) (ds.filter fun kv => decide (kv.1 ≠ k))
  | _, _, .nil => .nil
  | _, _, .cons (k := j) h r => by
    have ih := RepP.drop k r
    unfold dropK at ih ⊢
    rw [List.filter_cons, List.filter_cons]
    dsimp only
    split
    · exact .cons h ih
    · exact ih

/-! ### a[b] -/
theorem atI_rep {K : PySem.W.Frag} {vs : List V} {ds : List D} (r : Reps K I vs ds) {i : Int} {z : D} (e : atI ds i = some z) : ∃ w, atI vs i = some w ∧ Rep K I w z := by
  unfold atI at e ⊢
  rw [r.length]
  cases h : ixN ds.length i with
  | none => rw [h] at e; cases e
  | some j => rw [h] at e; exact r.get e
def onSome {α : Type} (k : α → Prop) : Option α → Prop
  | some z => k z
  | none => False
theorem onSome_mono {α : Type} {k k' : α → Prop} (h : ∀ z, k z → k' z) : ∀ {o : Option α}, onSome k o → onSome k' o
  | some _, q => h _ q
theorem onSome_ok {α : Type} {k : α → Prop} : ∀ {o : Option α}, onSome k o → ∃ z, o = some z ∧ k z
  | some z, q => ⟨z, rfl, q⟩
def fIx : Option D → D → (D → Prop) → Prop
  | some (.lst xs), .int i, k => onSome k (atI xs i)
  | some (.wl xs), .int i, k => onSome k (atI xs i)
  | some (.tup xs), .int i, k => onSome k (atI xs i)
  | some (.wt xs), .int i, k => onSome k (atI xs i)
  | some (.str x), .int i, k => x.length ≤ sizeLine ∧ onSome (fun c => k (.str ⟨#[c]⟩)) (atI x.cps.toList i)
  | some (.dK kvs), d, k => onSome (fun j => onSome k (kval kvs j)) d.key
  | some (.dT kvs), .tup ds, k => onSome (fun j => onSome k (kval kvs j)) (D.keys ds)
  | _, _, _ => False
theorem fIx_mono : ∀ {d : Option D} {i : D} {k k' : D → Prop}, (∀ z, k z → k' z) → fIx d i k → fIx d i k'
  | some (.lst _), .int _, _, _, h, q => onSome_mono h q
  | some (.wl _), .int _, _, _, h, q => onSome_mono h q
  | some (.tup _), .int _, _, _, h, q => onSome_mono h q
  | some (.wt _), .int _, _, _, h, q => onSome_mono h q
  | some (.str _), .int _, _, _, h, q => ⟨q.1, onSome_mono (fun _ => h _) q.2⟩
  | some (.dK _), d, _, _, h, q => by unfold fIx at q ⊢; exact onSome_mono (fun _ => onSome_mono h) q
  | some (.dT _), .tup ds, _, _, h, q => by unfold fIx at q ⊢; exact onSome_mono (fun _ => onSome_mono h) q
def rIxA (K : PySem.W.Frag) : R2 := fun x y H Q => rIx K x y H Q ∨ ∃ a v, x = .ref a ∧ DGet H a y (some v) ∧ Q v H
theorem ix_dict (hu : X.A.units + 1 < cLine) : IxR X (fun x y H Q => ∃ a v, x = .ref a ∧ DGet H a y (some v) ∧ Q v H) := by
  intro value slice pins s σ H x y v u Q I rx ry h hs
  obtain ⟨a, z, rfl, g, q⟩ := h
  cases rx
  exact PyProof.Rows.tail_any (dict_typeIs I g) PySem.F.slot_dict_getitem.lookup (d_getItem hu I g ry fun w' s3 I3 rw' => ⟨z, H, I3, rw', q⟩) hs
theorem ix_all (hu : X.A.units + 1 < cLine) : IxR X (rIxA X.K) := ix_seq.or (ix_dict hu)
theorem dget_k {K : PySem.W.Frag} {a : Addr} {y : V} {d : D} {vs : List (Key × V)} {ds : List (Key × D)} {k : Key} (e : L2.Rd H a (.dK vs)) (r : RepP K I vs ds) (ry : Rep K I y d) (hk : d.key = some k) :
    match kval ds k with
    | some z => ∃ w, DGet H a y (some w) ∧ Rep K I w z
    | none => DGet H a y none := by
  have h := r.val k
  cases q : kval ds k with
  | some z =>
    rw [q] at h
    obtain ⟨w, h1, h2⟩ := h
    exact ⟨w, .inl ⟨vs, k, e, key_rep ry hk, h1.symm⟩, h2⟩
  | none =>
    rw [q] at h
    exact .inl ⟨vs, k, e, key_rep ry hk, Eq.symm h⟩
theorem dget_t {K : PySem.W.Frag} (m : Same I H) {a : Addr} {y : V} {d : List D} {vs : List (List Key × V)} {ds : List (List Key × D)} {k : List Key} (e : L2.Rd H a (.dT vs)) (r : RepP K I vs ds) (ry : Rep K I y (.tup d)) (hk : D.keys d = some k) :
    match kval ds k with
    | some z => ∃ w, DGet H a y (some w) ∧ Rep K I w z
    | none => DGet H a y none := by
  have h := r.val k
  cases ry with
  | tup hb rb =>
    have e2 := keys_reps rb hk
    subst e2
    cases q : kval ds k with
    | some z =>
      rw [q] at h
      obtain ⟨w, h1, h2⟩ := h
      exact ⟨w, .inr ⟨vs, k, _, e, rfl, m _ _ hb, h1.symm⟩, h2⟩
    | none =>
      rw [q] at h
      exact .inr ⟨vs, k, _, e, rfl, m _ _ hb, Eq.symm h⟩
theorem fIx_ok {K : PySem.W.Frag} {v y : V} {d i : D} {k : D → Prop} {Q : VK} (m : Same I H) (s : Shl K H I v d) (ry : Rep K I y i) (h : fIx (some d) i k) (w : ∀ u z, k z → Rep K I u z → Q u H) : rIxA K v y H Q := by
  cases s with
  | lst e r => cases i <;> first | exact h.elim | skip
               cases ry
               obtain ⟨z, h1, h2⟩ := onSome_ok h
               obtain ⟨u, h3, h4⟩ := atI_rep r h1
               exact .inl (.inl ⟨_, _, _, _, rfl, rfl, SqL.of e, h3, w _ _ h2 h4⟩)
  | wl e r => cases i <;> first | exact h.elim | skip
              cases ry
              obtain ⟨z, h1, h2⟩ := onSome_ok h
              obtain ⟨u, h3, h4⟩ := atI_rep r h1
              exact .inl (.inl ⟨_, _, _, _, rfl, rfl, e, h3, w _ _ h2 h4⟩)
  | tup e r => cases i <;> first | exact h.elim | skip
               cases ry
               obtain ⟨z, h1, h2⟩ := onSome_ok h
               obtain ⟨u, h3, h4⟩ := atI_rep r h1
               exact .inl (.inr (.inl ⟨_, _, _, _, rfl, rfl, SqT.of (m _ _ e), h3, w _ _ h2 h4⟩))
  | wt e r => cases i <;> first | exact h.elim | skip
              cases ry
              obtain ⟨z, h1, h2⟩ := onSome_ok h
              obtain ⟨u, h3, h4⟩ := atI_rep r h1
              exact .inl (.inr (.inl ⟨_, _, _, _, rfl, rfl, Same.seqT m e, h3, w _ _ h2 h4⟩))
  | str x => cases i <;> first | exact h.elim | skip
             cases ry
             obtain ⟨z, h1, h2⟩ := onSome_ok h.2
             exact .inl (.inr (.inr ⟨_, _, _, rfl, rfl, h.1, h1, w _ _ h2 (.str _)⟩))
  | dK e r =>
    unfold fIx at h
    obtain ⟨j, h1, h2⟩ := onSome_ok h
    obtain ⟨z, h3, h4⟩ := onSome_ok h2
    have g := dget_k e r ry h1
    rw [h3] at g
    obtain ⟨u, g1, g2⟩ := g
    exact .inr ⟨_, _, rfl, g1, w _ _ h4 g2⟩
  | dT e r =>
    cases i <;> first | exact h.elim | skip
    unfold fIx at h
    obtain ⟨j, h1, h2⟩ := onSome_ok h
    obtain ⟨z, h3, h4⟩ := onSome_ok h2
    have g := dget_t m e r ry h1
    rw [h3] at g
    obtain ⟨u, g1, g2⟩ := g
    exact .inr ⟨_, _, rfl, g1, w _ _ h4 g2⟩
  | _ => cases i <;> exact h.elim

/-- what stays while something else is asked -/
def keepR (q : Bool) (x : Rd) (δ : Env) (k : Rd → Env → Prop) : Prop :=
  match x with
  | .im d => k (.im d) δ
  | .vr j => k (.vr j) δ
  | .at j f => q = true ∧ k (.at j f) δ
  | .tm o => imO δ (fun d δ' => k (.im d) δ') o
theorem keepR_mono {x : Rd} {k k' : Rd → Env → Prop} (h : ∀ d δ, k d δ → k' d δ) : keepR q x δ k → keepR q x δ k' := by
  cases x with
  | im d => exact h _ _
  | vr j => exact h _ _
  | «at» j f => exact fun w => ⟨w.1, h _ _ w.2⟩
  | tm o => exact imO_mono (k := fun d δ' => k (.im d) δ') (k' := fun d δ' => k' (.im d) δ') (fun _ _ => h _ _)
theorem keepR_ok {K : PySem.W.Frag} {v : V} {x : Rd} {k : Rd → Env → Prop} (st : RdSt K E I δ σ H v x) (w : keepR q x δ k) : ∃ I' x' δ', Same I I' ∧ RdSt K E I' δ' σ H v x' ∧ k x' δ' ∧
    ∀ I2 δ2 H2, Sta K E I2 δ2 σ H2 → Same I' I2 → (q = true → Same H H2) → RdSt K E I2 δ2 σ H2 v x' := by
  cases x with
  | im d => exact ⟨I, _, δ, L2.Same.refl _, st, w, fun I2 δ2 H2 S s _ => ⟨S, st.2.mono s⟩⟩
  | vr j => exact ⟨I, _, δ, L2.Same.refl _, st, w, fun I2 δ2 H2 S s _ => ⟨S, st.2⟩⟩
  | «at» j f =>
    obtain ⟨hq, w⟩ := w
    refine ⟨I, _, δ, L2.Same.refl _, st, w, fun I2 δ2 H2 S s hs => ⟨S, ?_⟩⟩
    obtain ⟨_, a, C, dx, vs, h1, h2, h3⟩ := st
    exact ⟨a, C, dx, vs, h1, hs hq _ _ h2, h3⟩
  | tm o =>
    obtain ⟨I', d, h1, h2, h3, h4⟩ := imO_ok (k := fun d δ' => k (.im d) δ') st w
    exact ⟨I', .im d, δ, h1, ⟨h2, h3⟩, h4, fun I2 δ2 H2 S s _ => ⟨S, h3.mono s⟩⟩
def rIxE (q2 : Bool) (ra rb : RE) : RE := fun δ Q => ra δ fun x δ1 => keepR q2 x δ1 fun x' δ2 => r1 rb (fun i δ3 => fIx (vw δ3 x') i fun z => Q (.im z) δ3) δ2
theorem tr_ix (hu : X.A.units + 1 < cLine) (ha : TrE X a q1 ra) (hb : TrE X b q2 rb) (hs : PlainIx b := by exact fun _ _ => rfl) : TrE X (.Subscript a b pos) (q1 && q2) (rIxE q2 ra rb) := by
  refine ⟨weakE (pe_ix (ix_all hu) ha.pe hb.pe hs) fun σ H Q _ ⟨E, I, δ, τ, S, h⟩ => ⟨E, I, δ, τ, S, ha.mono (fun x δ1 h1 => ?_) h⟩,
    fun h => ha.mono fun _ _ => keepR_mono fun _ _ => r1_mono hb fun _ _ => fIx_mono fun _ => h _ _⟩
  intro v I1 H1 s1 k1 st
  obtain ⟨I2, x', δ2, s2, st2, h2, later⟩ := keepR_ok st h1
  refine one hb st2.sta h2 fun y i δ3 I3 H3 s3 k3 S3 rp h3 => ?_
  have st3 := later I3 δ3 H3 S3 s3 k3
  cases e : vw δ3 x' with
  | none => rw [e] at h3; exact h3.elim
  | some d =>
    rw [e] at h3
    exact fIx_ok S3.le (st3.shl e) rp h3 fun u z hz rz => hz u I3 H3 (s1.trans (s2.trans s3)) (fun w => (k1 (and_q w).1).trans (k3 (and_q w).2)) ⟨S3, rz⟩
end
end DL
end
section
set_option Elab.async false
set_option linter.all false
set_option maxRecDepth 100000
set_option maxHeartbeats 4000000
namespace DL
open PySem L2
section
variable {X : Cx} {a b c e : Expr} {es rest : List Expr} {q q1 q2 q3 : Bool} {ra rb rc : RE} {rt rt1 rt2 : RT} {rs : RA} {pos p : Pos} {E : Ent} {I I' : Hp} {δ δ' : Env} {σ τ : St} {H H' : Hp}

/-! ### in -/
def D.flat : D → Bool
  | .non => true | .bl _ => true | .int _ => true | .str _ => true
  | _ => false
theorem flat_rep {K : PySem.W.Frag} {v : V} : ∀ {d : D}, Rep K I v d → d.flat = true → flatV v = true
  | .non, r, _ => by cases r; rfl
  | .bl _, r, _ => by cases r; rfl
  | .int _, r, _ => by cases r; rfl
  | .str _, r, _ => by cases r; rfl
theorem eqv_flat {K : PySem.W.Frag} {v w : V} : ∀ {d e : D}, Rep K I v d → Rep K I w e → d.flat = true → e.flat = true → eqV v w = d.eqv e
  | .non, e, r, s, _, f => by cases e <;> simp [D.flat] at f <;> cases r <;> cases s <;> simp [eqV, D.eqv, D.py, PyData.eqv]
  | .bl _, e, r, s, _, f => by cases e <;> simp [D.flat] at f <;> cases r <;> cases s <;> simp [eqV, D.eqv, D.py, PyData.eqv]
  | .int _, e, r, s, _, f => by cases e <;> simp [D.flat] at f <;> cases r <;> cases s <;> simp [eqV, D.eqv, D.py, PyData.eqv]
  | .str _, e, r, s, _, f => by cases e <;> simp [D.flat] at f <;> cases r <;> cases s <;> simp [eqV, D.eqv, D.py, PyData.eqv]
theorem flats {K : PySem.W.Frag} : ∀ {vs : List V} {ds : List D}, Reps K I vs ds → ds.all D.flat = true → vs.all flatV = true
  | _, _, .nil, _ => rfl
  | _, _, .cons h r, f => by
    rw [List.all_cons, Bool.and_eq_true] at f ⊢
    exact ⟨flat_rep h f.1, flats r f.2⟩
theorem inV_eq {K : PySem.W.Frag} {x : V} {d : D} (rx : Rep K I x d) (fx : d.flat = true) : ∀ {vs : List V} {ds : List D}, Reps K I vs ds → ds.all D.flat = true → inV x vs = ds.any fun z => z.eqv d
  | _, _, .nil, _ => rfl
  | _, _, .cons h r, f => by
    rw [List.all_cons, Bool.and_eq_true] at f
    rw [List.any_cons, ← eqv_flat h rx f.1 fx, ← inV_eq rx fx r f.2]
    rfl
theorem any_pys (d : PyData) : ∀ ds : List D, ((D.pys ds).any fun z => PyData.eqv z d) = ds.any fun z => PyData.eqv z.py d
  | [] => rfl
  | x :: r => by
    show ((x.py :: D.pys r).any _) = _
    rw [List.any_cons, List.any_cons, any_pys d r]
theorem op_inDict (hu : X.A.units + 1 < cLine) : OpR X (compareOp .In) (fun x y H Q => ∃ a o, y = .ref a ∧ DGet H a x o ∧ Q (.bl o.isSome) H) := by
  intro pins s σ H x y v u Q I rx ry h
  obtain ⟨a, o, rfl, g, q⟩ := h
  cases ry
  exact d_in hu I g rx fun s' I' => ⟨.bl _, H, I', rfl, q⟩
theorem op_notInDict (hu : X.A.units + 1 < cLine) : OpR X (compareOp .NotIn) (fun x y H Q => ∃ a o, y = .ref a ∧ DGet H a x o ∧ Q (.bl (!o.isSome)) H) := by
  intro pins s σ H x y v u Q I rx ry h
  obtain ⟨a, o, rfl, g, q⟩ := h
  cases ry
  exact d_notIn hu I g rx fun s' I' => ⟨.bl _, H, I', rfl, q⟩
theorem op_inNone : OpR X (compareOp .In) (fun x y H Q => ∃ a kvs, x = .non ∧ y = .ref a ∧ L2.Rd H a (.dK kvs) ∧ Q (.bl false) H) := by
  intro pins s σ H x y v u Q I rx ry h
  obtain ⟨a, kvs, rfl, rfl, g, q⟩ := h
  cases rx; cases ry
  exact d_inNone I g fun s' I' => ⟨.bl _, H, I', rfl, q⟩
/-- d in w: lists of any data, tuples of flat ones, dicts -/
def fIn (n : Bool → Bool) : Option D → D → (D → Prop) → Prop
  | some (.lst xs), d, k => d.ok ∧ (D.lst xs).ok ∧ k (.bl (n (xs.any fun z => z.eqv d)))
  | some (.tup xs), d, k => d.flat = true ∧ xs.all D.flat = true ∧ k (.bl (n (xs.any fun z => z.eqv d)))
  | some (.wt xs), d, k => d.flat = true ∧ xs.all D.flat = true ∧ k (.bl (n (xs.any fun z => z.eqv d)))
  | some (.dK kvs), d, k => onSome (fun j => k (.bl (n (kval kvs j).isSome))) d.key
  | some (.dT kvs), .tup ds, k => onSome (fun j => k (.bl (n (kval kvs j).isSome))) (D.keys ds)
  | _, _, _ => False
theorem fIn_mono {n : Bool → Bool} : ∀ {d : Option D} {i : D} {k k' : D → Prop}, (∀ z, k z → k' z) → fIn n d i k → fIn n d i k'
  | some (.lst _), _, _, _, h, q => ⟨q.1, q.2.1, h _ q.2.2⟩
  | some (.tup _), _, _, _, h, q => ⟨q.1, q.2.1, h _ q.2.2⟩
  | some (.wt _), _, _, _, h, q => ⟨q.1, q.2.1, h _ q.2.2⟩
  | some (.dK _), d, _, _, h, q => by unfold fIn at q ⊢; exact onSome_mono (fun _ => h _) q
  | some (.dT _), .tup ds, _, _, h, q => by unfold fIn at q ⊢; exact onSome_mono (fun _ => h _) q
def rInG (n : Bool → Bool) (K : PySem.W.Frag) : R2 := fun x y H Q =>
  (∃ d ds, Dp K H x d ∧ Dp K H y (.list ds) ∧ SeqAt.shaped d = true ∧ SeqAt.shaped (.list ds) = true ∧ Q (.bl (n (ds.any fun z => PyData.eqv z d))) H) ∨
  (∃ p xs, y = .ref p ∧ (SqL K H p xs ∨ SqT K H p xs) ∧ flatV x = true ∧ xs.all flatV = true ∧ Q (.bl (n (inV x xs))) H) ∨
  ∃ a o, y = .ref a ∧ DGet H a x o ∧ Q (.bl (n o.isSome)) H
theorem op_inG (hu : X.A.units + 65 < cLine) : OpR X (compareOp .In) (rInG id X.K) := by
  refine (op_inD hu).or (OpR.or ?_ (op_inDict (Nat.lt_of_le_of_lt (by omega) hu)))
  have h := op_in_seq (X := X)
  exact h
theorem op_notInG (hu : X.A.units + 65 < cLine) : OpR X (compareOp .NotIn) (rInG Bool.not X.K) := by
  refine (op_notInD hu).or (OpR.or ?_ (op_notInDict (Nat.lt_of_le_of_lt (by omega) hu)))
  have h := op_notIn_seq (X := X)
  exact h
theorem fIn_ok {K : PySem.W.Frag} {n : Bool → Bool} {v y : V} {d i : D} {k : D → Prop} {Q : VK} (m : Same I H) (s : Shl K H I y i) (rx : Rep K I v d) (h : fIn n (some i) d k) (w : ∀ u z, k z → Rep K I u z → Q u H) : rInG n K v y H Q := by
  cases s with
  | @lst a vs ds e r =>
    have ry : Rep K H (.ref a) (.lst ds) := .lst e (r.mono m)
    refine .inl ⟨_, _, (rx.mono m).dp h.1.lay, ry.dp h.2.1.lay, h.1, h.2.1, ?_⟩
    rw [any_pys]
    exact w _ _ h.2.2 (.bl _)
  | tup e r =>
    refine .inr (.inl ⟨_, _, rfl, .inr (SqT.of (m _ _ e)), flat_rep rx h.1, flats r h.2.1, ?_⟩)
    rw [inV_eq rx h.1 r h.2.1]
    exact w _ _ h.2.2 (.bl _)
  | wt e r =>
    refine .inr (.inl ⟨_, _, rfl, .inr (Same.seqT m e), flat_rep rx h.1, flats r h.2.1, ?_⟩)
    rw [inV_eq rx h.1 r h.2.1]
    exact w _ _ h.2.2 (.bl _)
  | dK e r =>
    unfold fIn at h
    obtain ⟨j, h1, h2⟩ := onSome_ok h
    have g := dget_k e r rx h1
    cases z : kval _ j with
    | some z =>
      rw [z] at g h2
      obtain ⟨u, g1, g2⟩ := g
      exact .inr (.inr ⟨_, _, rfl, g1, w _ _ h2 (.bl _)⟩)
    | none =>
      rw [z] at g h2
      exact .inr (.inr ⟨_, _, rfl, g, w _ _ h2 (.bl _)⟩)
  | dT e r =>
    cases d <;> first | exact h.elim | skip
    unfold fIn at h
    obtain ⟨j, h1, h2⟩ := onSome_ok h
    have g := dget_t m e r rx h1
    cases z : kval _ j with
    | some z =>
      rw [z] at g h2
      obtain ⟨u, g1, g2⟩ := g
      exact .inr (.inr ⟨_, _, rfl, g1, w _ _ h2 (.bl _)⟩)
    | none =>
      rw [z] at g h2
      exact .inr (.inr ⟨_, _, rfl, g, w _ _ h2 (.bl _)⟩)
  | _ => exact h.elim
def rIn (n : Bool → Bool) (ra rb : RE) : RE := fun δ Q => r2v ra rb (fun d y δ' => fIn n (vw δ' y) d fun z => Q (.im z) δ') δ
theorem in_run {n : Bool → Bool} {op : CmpOp} (ho : OpR X (compareOp op) (rInG n X.K)) (ha : TrE X a q1 ra) (hb : TrE X b q2 rb) (hm : behindInMarks op b = false) : TrE X (.Compare a [op] [b] pos) (q1 && q2) (rIn n ra rb) := by
  refine ⟨weakE (pe_cmpR ho ha.pe hb.pe hm) fun σ H Q _ ⟨E, I, δ, τ, S, h⟩ => twoV ha hb S h fun v u d y δ' I' H' s1 k1 st rp h1 => ?_, fun h => r2v_mono ha hb fun _ _ _ => fIn_mono fun _ => h _ _⟩
  cases e : vw δ' y with
  | none => rw [e] at h1; exact h1.elim
  | some i =>
    rw [e] at h1
    exact fIn_ok st.sta.le (st.shl e) rp h1 fun w z hz rz => hz w I' H' s1 k1 ⟨st.sta, rz⟩
theorem tr_in (hu : X.A.units + 65 < cLine) (ha : TrE X a q1 ra) (hb : TrE X b q2 rb) (hm : behindInMarks .In b = false := by with_unfolding_all rfl) : TrE X (.Compare a [.In] [b] pos) (q1 && q2) (rIn id ra rb) := in_run (op_inG hu) ha hb hm
theorem tr_notIn (hu : X.A.units + 65 < cLine) (ha : TrE X a q1 ra) (hb : TrE X b q2 rb) (hm : behindInMarks .NotIn b = false := by with_unfolding_all rfl) : TrE X (.Compare a [.NotIn] [b] pos) (q1 && q2) (rIn Bool.not ra rb) := in_run (op_notInG hu) ha hb hm

/-! ### + of any kind, * of lists and ints -/
def fPlus (δ : Env) (Q : Rd → Env → Prop) : D → Option D → Prop
  | .int i, some (.int j) => Q (.im (.int (i + j))) δ
  | .str x, some (.str y) => x.length + y.length ≤ sizeLine ∧ Q (.im (.str (x ++ y))) δ
  | .lst xs, some (.lst ys) => xs.length + ys.length ≤ sizeLine ∧ Q (.tm (.ob (.lst (xs ++ ys)))) δ
  | .tup xs, some (.tup ys) => xs.length + ys.length ≤ sizeLine ∧ Q (.im (.tup (xs ++ ys))) δ
  | _, _ => False
theorem fPlus_mono {δ : Env} {Q Q' : Rd → Env → Prop} (h : ∀ x δ, Q x δ → Q' x δ) : ∀ {d : D} {o : Option D}, fPlus δ Q d o → fPlus δ Q' d o
  | .int _, some (.int _), q => h _ _ q
  | .str _, some (.str _), q => ⟨q.1, h _ _ q.2⟩
  | .lst _, some (.lst _), q => ⟨q.1, h _ _ q.2⟩
  | .tup _, some (.tup _), q => ⟨q.1, h _ _ q.2⟩
def rPlus (ra rb : RE) : RE := fun δ Q => r2v ra rb (fun d y δ' => fPlus δ' Q d (vw δ' y)) δ
def rPlusV (K : PySem.W.Frag) : R2 := fun x y H Q => rI0 (fun i j => .int (i + j)) x y H Q ∨ (∃ i j, x = .str i ∧ y = .str j ∧ i.length + j.length ≤ sizeLine ∧ Q (.str (i ++ j)) H) ∨ rCat x y H Q ∨ rCatA K x y H Q
theorem op_plus : OpR X (binaryOp .Add) (rPlusV X.K) := op_add.or (op_add_str.or (op_cat.or op_catA))
theorem tr_plus (ha : TrE X a q1 ra) (hb : TrE X b q2 rb) : TrE X (.BinOp a .Add b pos) (q1 && q2) (rPlus ra rb) := by
  refine ⟨weakE (pe_op op_plus ha.pe hb.pe) fun σ H Q _ ⟨E, I, δ, τ, S, h⟩ => twoV ha hb S h fun v u d y δ' I' H' s1 k1 st rp h1 => ?_, fun h => r2v_mono ha hb fun _ _ _ => fPlus_mono h⟩
  cases e : vw δ' y with
  | none => rw [e] at h1; cases d <;> exact h1.elim
  | some i =>
    rw [e] at h1
    have sh := st.shl e
    have S1 := st.sta
    clear e st
    cases sh with
    | int j =>
      cases d <;> first | exact h1.elim | skip
      cases rp
      exact .inl ⟨_, _, rfl, rfl, h1 _ I' H' s1 k1 ⟨S1, .int _⟩⟩
    | str j =>
      cases d <;> first | exact h1.elim | skip
      cases rp
      exact .inr (.inl ⟨_, _, rfl, rfl, h1.1, h1.2 _ I' H' s1 k1 ⟨S1, .str _⟩⟩)
    | lst e r =>
      cases d <;> first | exact h1.elim | skip
      cases rp with
      | lst e2 r2 => exact .inr (.inr (.inl ⟨_, _, _, _, rfl, rfl, S1.le _ _ e2, e, by rw [r2.length, r.length]; exact h1.1, fun p n => h1.2 _ I' _ s1 (fun w => (k1 w).trans (same_upd n)) (push_lst S1 n (r2.append r))⟩))
    | tup e r =>
      cases d <;> first | exact h1.elim | skip
      cases rp with
      | tup e2 r2 =>
        refine .inr (.inr (.inr ⟨_, _, _, _, rfl, rfl, SqT.of (S1.le _ _ e2), SqT.of (S1.le _ _ e), by rw [r2.length, r.length]; exact h1.1, fun z => ?_, fun _ z => ?_, fun _ _ p n => ?_⟩))
        · subst z; cases r2; exact h1.2 _ I' H' s1 k1 ⟨S1, .tup e r⟩
        · subst z; cases r; exact h1.2 _ I' H' s1 k1 ⟨S1, by rw [List.append_nil]; exact .tup e2 r2⟩
        · exact h1.2 _ _ _ (s1.trans (same_upd (S1.free n))) (fun w => (k1 w).trans (same_upd n)) (alloc_tup S1 n (r2.append r))
    | _ => cases d <;> exact h1.elim
def fTimes (δ : Env) (Q : Rd → Env → Prop) : D → D → Prop
  | .int i, .int j => CMulX i j ∧ Q (.im (.int (i * j))) δ
  | .lst xs, .int k => -(2 ^ 63) ≤ k ∧ k < 2 ^ 63 ∧ xs.length * k.toNat ≤ sizeLine ∧ Q (.tm (.ob (.lst (List.replicate k.toNat xs).flatten))) δ
  | _, _ => False
theorem fTimes_mono {δ : Env} {Q Q' : Rd → Env → Prop} (h : ∀ x δ, Q x δ → Q' x δ) : ∀ {d o : D}, fTimes δ Q d o → fTimes δ Q' d o
  | .int _, .int _, q => ⟨q.1, h _ _ q.2⟩
  | .lst _, .int _, q => ⟨q.1, q.2.1, q.2.2.1, h _ _ q.2.2.2⟩
def rTimes (ra rb : RE) : RE := fun δ Q => r2 ra rb (fun d e δ' => fTimes δ' Q d e) δ
theorem Reps.rep {K : PySem.W.Frag} {vs : List V} {ds : List D} (r : Reps K I vs ds) : ∀ k : Nat, Reps K I (List.replicate k vs).flatten (List.replicate k ds).flatten
  | 0 => .nil
  | k + 1 => by rw [List.replicate_succ, List.replicate_succ, List.flatten_cons, List.flatten_cons]; exact r.append (Reps.rep r k)
theorem tr_times (ha : TrE X a q1 ra) (hb : TrE X b q2 rb) : TrE X (.BinOp a .Mult b pos) (q1 && q2) (rTimes ra rb) := by
  refine ⟨weakE (pe_op (op_mulX.or op_rep) ha.pe hb.pe) fun σ H Q _ ⟨E, I, δ, τ, S, h⟩ => two ha hb S h fun v u d y δ' I' H' s1 k1 S1 rp rp2 h1 => ?_, fun h => r2_mono ha hb fun _ _ _ => fTimes_mono h⟩
  cases rp <;> first | exact h1.elim | skip
  · cases rp2 <;> first | exact h1.elim | skip
    exact .inl ⟨_, _, rfl, rfl, h1.1, h1.2 _ I' H' s1 k1 ⟨S1, .int _⟩⟩
  · rename_i e r
    cases rp2 <;> first | exact h1.elim | skip
    exact .inr ⟨_, _, _, rfl, rfl, S1.le _ _ e, h1.1, h1.2.1, by rw [r.length]; exact h1.2.2.1, fun p n => h1.2.2.2 _ I' _ s1 (fun w => (k1 w).trans (same_upd n)) (push_lst S1 n (r.rep _))⟩

/-! ### argument lists, displays -/
def aNil : RA := fun δ Q => Q [] δ
def aCons (ra : RE) (rs : RA) : RA := fun δ Q => r1 ra (fun d δ1 => rs δ1 fun ds δ2 => Q (d :: ds) δ2) δ
theorem ta_nil : TrA X [] true aNil := ⟨weakA pa_nil fun σ H Q _ ⟨E, I, δ, τ, S, h⟩ => h [] I H (L2.Same.refl _) (fun _ => L2.Same.refl _) S .nil, fun h => h _ _⟩
theorem ta_cons (ha : TrE X e q1 ra) (hr : TrA X es q2 rs) (hs : starEach (e :: es) X.env = (false, eval e X.env) :: starEach es X.env := by rfl) : TrA X (e :: es) (q1 && q2) (aCons ra rs) := by
  refine ⟨weakA (pa_cons ha.pe hr.pa hs) fun σ H Q _ ⟨E, I, δ, τ, S, h⟩ => one ha S h fun v d δ1 I1 H1 s1 k1 S1 rp h1 => ⟨E, I1, δ1, τ, S1, hr.mono (fun ds δ2 h2 => ?_) h1⟩, fun h => r1_mono ha fun _ _ => hr.mono fun _ => h _⟩
  intro vs I2 H2 s2 k2 S2 rps
  exact h2 _ I2 H2 (s1.trans s2) (fun w => (k1 (and_q w).1).trans (k2 (and_q w).2)) S2 (.cons (rp.mono s2) rps)
def rTup (rs : RA) : RE := fun δ Q => rs δ fun ds δ1 => ds.length ≤ sizeLine ∧ Q (.im (.tup ds)) δ1
def rLst (rs : RA) : RE := fun δ Q => rs δ fun ds δ1 => ds.length ≤ sizeLine ∧ Q (.tm (.ob (.lst ds))) δ1
theorem tr_tup {x1} (h : TrA X es q rs) : TrE X (.Tuple es x1 pos) q (rTup rs) := by
  refine ⟨weakE (pe_tup h.pa) fun σ H Q _ ⟨E, I, δ, τ, S, w⟩ => ⟨E, I, δ, τ, S, h.mono (fun ds δ1 h1 vs I1 H1 s1 k1 S1 rps => ⟨by rw [rps.length]; exact h1.1, fun p n => ?_⟩) w⟩, fun k => h.mono fun _ _ z => ⟨z.1, k _ _ z.2⟩⟩
  exact h1.2 _ _ _ (s1.trans (same_upd (S1.free n))) (fun w => (k1 w).trans (same_upd n)) (alloc_tup S1 n rps)
theorem tr_lst (h : TrA X es q rs) : TrE X (.List es pos) q (rLst rs) := by
  refine ⟨weakE (pe_lst h.pa) fun σ H Q _ ⟨E, I, δ, τ, S, w⟩ => ⟨E, I, δ, τ, S, h.mono (fun ds δ1 h1 vs I1 H1 s1 k1 S1 rps => ⟨by rw [rps.length]; exact h1.1, fun p n => ?_⟩) w⟩, fun k => h.mono fun _ _ z => ⟨z.1, k _ _ z.2⟩⟩
  exact h1.2 _ I1 _ s1 (fun w => (k1 w).trans (same_upd n)) (push_lst S1 n rps)
def rNewK : RE := fun δ Q => Q (.tm (.ob (.dK []))) δ
def rNewT : RE := fun δ Q => Q (.tm (.ob (.dT []))) δ
theorem tr_newK : TrE X (.Dict [] [] pos) true rNewK := ⟨weakE pe_dnewK fun σ H Q _ ⟨E, I, δ, τ, S, h⟩ p n => h _ I _ (L2.Same.refl _) (fun _ => same_upd n)
  (S.push (same_upd n) (L' := [p]) (by intro a q; rw [List.mem_singleton.mp q]; exact n) (by simp) (.ob (.mk upd_same (.dK .nil)))), fun h => h _ _⟩
theorem tr_newT : TrE X (.Dict [] [] pos) true rNewT := ⟨weakE pe_dnewT fun σ H Q _ ⟨E, I, δ, τ, S, h⟩ p n => h _ I _ (L2.Same.refl _) (fun _ => same_upd n)
  (S.push (same_upd n) (L' := [p]) (by intro a q; rw [List.mem_singleton.mp q]; exact n) (by simp) (.ob (.mk upd_same (.dT .nil)))), fun h => h _ _⟩
end
end DL
end
section
set_option Elab.async false
set_option linter.all false
set_option maxRecDepth 100000
set_option maxHeartbeats 4000000
namespace DL
open PySem L2

/-! ### statements -/
structure DEnds where
  nx : Env → Prop
  rt : Slot → Env → Prop
  bk : Env → Prop := fun _ => False
  ct : Env → Prop := fun _ => False
abbrev RS := DEnds → Env → Prop
structure DEnds.le (D D' : DEnds) : Prop where
  nx : ∀ δ, D.nx δ → D'.nx δ
  rt : ∀ s δ, D.rt s δ → D'.rt s δ
  bk : ∀ δ, D.bk δ → D'.bk δ
  ct : ∀ δ, D.ct δ → D'.ct δ
/-- what is told of data leads to what is wanted of values -/
structure Lk (K : PySem.W.Frag) (E : Ent) (n : Nat) (τ : St) (D : Ends) (De : DEnds) : Prop where
  nx : ∀ σ I H δ, σ.length = n → Sta K E I δ (σ ++ τ) H → De.nx δ → D.nx σ H
  bk : ∀ σ I H δ, σ.length = n → Sta K E I δ (σ ++ τ) H → De.bk δ → D.bk σ H
  ct : ∀ σ I H δ, σ.length = n → Sta K E I δ (σ ++ τ) H → De.ct δ → D.ct σ H
  rt : ∀ v ρ I H δ s, Sta K E I (δ ++ [s]) (ρ ++ [some v]) H → De.rt s δ → D.rt v H
abbrev preS (X : Cx) (r : RS) : TS := fun D σ H => ∃ E I δ τ De, Sta X.K E I δ (σ ++ τ) H ∧ r De δ ∧ Lk X.K E X.N.length τ D De
structure TrS (X : Cx) (st : Stmt) (r : RS) : Prop where
  ps : PS X st (preS X r)
  mono : ∀ {De De' : DEnds} {δ : Env}, De.le De' → r De δ → r De' δ
structure TrSs (X : Cx) (st : List Stmt) (r : RS) : Prop where
  ps : PSs X st (preS X r)
  mono : ∀ {De De' : DEnds} {δ : Env}, De.le De' → r De δ → r De' δ

section
variable {X : Cx} {a b c e tg : Expr} {es rest : List Expr} {st : Stmt} {sts stt : List Stmt} {q q1 q2 q3 : Bool} {ra rb rc : RE} {rt rt1 rt2 : RT} {rs : RA} {r s : RS} {pos pos' p : Pos} {E : Ent} {I I' : Hp} {δ δ' : Env} {σ τ : St} {H H' : Hp} {v : V} {o : Ow} {d : D}

def rNext : RS := fun De δ => De.nx δ
def rSeq (r s : RS) : RS := fun De δ => r { De with nx := s De } δ
theorem ts_nil : TrSs X [] rNext := ⟨weakSs pss_nil fun D σ H hl ⟨E, I, δ, τ, De, S, h, k⟩ => k.nx _ _ _ _ hl S h, fun k => k.nx _⟩
theorem ts_cons (h1 : TrS X st r) (h2 : TrSs X sts s) : TrSs X (st :: sts) (rSeq r s) := by
  refine ⟨weakSs (pss_cons h1.ps h2.ps) fun D σ H _ ⟨E, I, δ, τ, De, S, h, k⟩ => ⟨E, I, δ, τ, { De with nx := s De }, S, h, ⟨?_, k.bk, k.ct, k.rt⟩⟩, fun k => h1.mono ⟨fun _ => h2.mono k, k.rt, k.bk, k.ct⟩⟩
  exact fun σ' I' H' δ' _ S' h' => ⟨E, I', δ', τ, De, S', h', k⟩
theorem ts_one (h1 : TrS X st r) : TrSs X [st] r := ⟨pss_one h1.ps, h1.mono⟩
def rBreak : RS := fun De δ => De.bk δ
def rCont : RS := fun De δ => De.ct δ
theorem ts_pass : TrS X (.Pass pos) rNext := ⟨weakS ps_pass fun D σ H hl ⟨E, I, δ, τ, De, S, h, k⟩ => k.nx _ _ _ _ hl S h, fun k => k.nx _⟩
theorem ts_break : TrS X (.Break pos) rBreak := ⟨weakS ps_break fun D σ H hl ⟨E, I, δ, τ, De, S, h, k⟩ => k.bk _ _ _ _ hl S h, fun k => k.bk _⟩
theorem ts_continue : TrS X (.Continue pos) rCont := ⟨weakS ps_continue fun D σ H hl ⟨E, I, δ, τ, De, S, h, k⟩ => k.ct _ _ _ _ hl S h, fun k => k.ct _⟩
def rNever : RS := fun _ _ => False
theorem ts_never : TrS X st rNever := ⟨weakS ps_never fun D σ H _ ⟨E, I, δ, τ, De, S, h, k⟩ => h, fun _ h => h⟩
def rDrop (ra : RE) : RS := fun De δ => ra δ fun _ δ1 => De.nx δ1
theorem ts_expr (ha : TrE X a q ra) (hs : swapsWith a none pos.line X.env = pure false := by rfl) : TrS X (.Expr a pos) (rDrop ra) := by
  refine ⟨weakS (ps_expr ha.pe hs) fun D σ H hl ⟨E, I, δ, τ, De, S, h, k⟩ => ⟨E, I, δ, τ, S, ha.mono (fun x δ1 h1 => ?_) h⟩, fun k => ha.mono fun _ _ => k.nx _⟩
  exact fun v I1 H1 s1 k1 st => k.nx _ _ _ _ hl st.sta h1
def rIfS (t : RT) (r s : RS) : RS := fun De δ => t δ fun b δ1 => if b = true then r De δ1 else s De δ1
theorem ts_if (hc : TrT X c q rt) (ha : TrSs X sts r) (hb : TrSs X stt s) : TrS X (.If c sts stt pos) (rIfS rt r s) := by
  refine ⟨weakS (ps_if hc.pt ha.ps hb.ps) fun D σ H _ ⟨E, I, δ, τ, De, S, h, k⟩ => ⟨E, I, δ, τ, S, hc.mono (fun x δ1 h1 => ?_) h⟩, fun k => hc.mono fun _ _ => ite_mono (ha.mono k) (hb.mono k)⟩
  intro I1 H1 s1 k1 S1
  cases x with
  | true => exact ⟨E, I1, δ1, τ, De, S1, h1, k⟩
  | false => exact ⟨E, I1, δ1, τ, De, S1, h1, k⟩
/-- return -/
def retS (k : Slot → Env → Prop) (δ : Env) (j : Nat) : Option Slot → Prop
  | some (.im d) => k (.im d) δ
  | some (.ow .fresh o) => k (.ow .fresh o) (δ.set j .un)
  | _ => False
def retR (k : Slot → Env → Prop) (x : Rd) (δ : Env) : Prop := match x with
  | .im d => k (.im d) δ
  | .tm o => k (.ow .fresh o) δ
  | .vr j => retS k δ j δ[j]?
  | .at _ _ => False
theorem retS_mono {k k' : Slot → Env → Prop} (h : ∀ s δ, k s δ → k' s δ) {δ : Env} {j : Nat} : ∀ {s : Option Slot}, retS k δ j s → retS k' δ j s
  | some (.im _), q => h _ _ q
  | some (.ow .fresh _), q => h _ _ q
theorem retR_mono {k k' : Slot → Env → Prop} (h : ∀ s δ, k s δ → k' s δ) {δ : Env} {x : Rd} (w : retR k x δ) : retR k' x δ := by
  cases x with
  | im d => exact h _ _ w
  | tm o => exact h _ _ w
  | vr j => exact retS_mono h w
  | «at» j f => exact w
theorem retR_ok {K : PySem.W.Frag} {k : Slot → Env → Prop} {x : Rd} (st : RdSt K E I δ σ H v x) (w : retR k x δ) : ∃ s δ', Sta K E I (δ' ++ [s]) (σ ++ [some v]) H ∧ k s δ' := by
  cases x with
  | im d => exact ⟨_, _, st.1.push_im st.2, w⟩
  | tm o => exact ⟨_, _, st, w⟩
  | vr j =>
    have w : retS k δ j δ[j]? := w
    cases e : δ[j]? with
    | none => rw [e] at w; exact w.elim
    | some z =>
      rw [e] at w
      cases z with
      | un => exact w.elim
      | vl x => exact w.elim
      | im d =>
        obtain ⟨u, h1, h2⟩ := st.1.im_get e
        rw [st.2] at h1; cases h1
        exact ⟨_, _, st.1.push_im h2, w⟩
      | ow p o => cases p with
        | arg n => exact w.elim
        | fresh => exact ⟨_, _, st.1.lend e st.2, w⟩
  | «at» j f => exact w.elim
def rRet (ra : RE) : RS := fun De δ => ra δ fun x δ1 => retR De.rt x δ1
theorem ts_ret (ha : TrE X a q ra) : TrS X (.Return (some a) pos) (rRet ra) := by
  refine ⟨weakS (ps_ret ha.pe) fun D σ H _ ⟨E, I, δ, τ, De, S, h, k⟩ => ⟨E, I, δ, τ, S, ha.mono (fun x δ1 h1 => ?_) h⟩, fun k => ha.mono fun _ _ => retR_mono k.rt⟩
  intro v I1 H1 s1 k1 st
  obtain ⟨z, δ2, S2, h2⟩ := retR_ok st h1
  exact k.rt v _ I1 H1 δ2 z S2 h2
def rRetN : RS := fun De δ => De.rt (.im .non) δ
theorem ts_retN : TrS X (.Return none pos) rRetN := ⟨weakS ps_retN fun D σ H _ ⟨E, I, δ, τ, De, S, h, k⟩ => k.rt .non _ I H δ (.im .non) (S.push_im .non) h, fun k => k.rt _ _⟩
/-- x = e -/
def setR (i : Nat) (k : Env → Prop) (x : Rd) (δ : Env) : Prop := match x with
  | .tm o => k (δ.set i (.ow .fresh o))
  | .im d => k (δ.set i (.im d))
  | .vr j => imS δ j (fun d δ' => k (δ'.set i (.im d))) δ[j]?
  | .at _ _ => False
theorem setR_mono {i : Nat} {k k' : Env → Prop} (h : ∀ δ, k δ → k' δ) {x : Rd} (w : setR i k x δ) : setR i k' x δ := by
  cases x with
  | im d => exact h _ w
  | tm o => exact h _ w
  | vr j => exact imS_mono (k := fun d δ' => k (δ'.set i (.im d))) (k' := fun d δ' => k' (δ'.set i (.im d))) (fun _ _ => h _) w
  | «at» j f => exact w
theorem setR_ok {K : PySem.W.Frag} {i : Nat} {k : Env → Prop} {x : Rd} (hi : i < σ.length) (st : RdSt K E I δ (σ ++ τ) H v x) (w : setR i k x δ) : ∃ I' δ', Same I I' ∧ Sta K E I' δ' (σ.set i (some v) ++ τ) H ∧ k δ' := by
  have hset : (σ ++ τ).set i (some v) = σ.set i (some v) ++ τ := List.set_append_left _ _ hi
  cases x with
  | im d => exact ⟨I, _, L2.Same.refl _, by rw [← hset]; exact st.1.set_im st.2, w⟩
  | tm o =>
    have S : Sta K E I (δ ++ [.ow .fresh o]) ((σ ++ τ) ++ [some v]) H := st
    have hl := S.len
    exact ⟨I, _, L2.Same.refl _, by rw [← hset]; exact S.move (by simp at hl; omega), w⟩
  | vr j =>
    obtain ⟨I', d, δ', h1, h2, h3, h4⟩ := imS_ok (k := fun d δ' => k (δ'.set i (.im d))) st.1 st.2 w
    exact ⟨I', _, h1, by rw [← hset]; exact h2.set_im h3, h4⟩
  | «at» j f => exact w.elim
def rSet (i : Nat) (ra : RE) : RS := fun De δ => ra δ fun x δ1 => setR i De.nx x δ1
theorem ts_set {i : Nat} {x : Str} (hN : X.N.Nodup) (hi : X.N[i]? = some x) (hx : Loc X.env.scope x) (ha : TrE X a q ra) (hs : swapsWith a (some (.Name x pos')) pos.line X.env = pure false := by rfl)
    (hf : X.fn x = true ∨ X.env.scope.names.lookup x = some .local := by first | exact .inl rfl | exact .inr rfl | assumption) : TrS X (.Assign [.Name x pos'] a pos) (rSet i ra) := by
  refine ⟨weakS (ps_set hN hi hx ha.pe hs hf) fun D σ H hl ⟨E, I, δ, τ, De, S, h, k⟩ => ⟨E, I, δ, τ, S, ha.mono (fun x δ1 h1 => ?_) h⟩, fun k => ha.mono fun _ _ => setR_mono k.nx⟩
  intro v I1 H1 s1 k1 st
  obtain ⟨I2, δ2, s2, S2, h2⟩ := setR_ok (by rw [hl]; exact lt_of_get hi) st h1
  exact k.nx _ _ _ _ (by rw [List.length_set]; exact hl) S2 h2

/-! ### targets -/
abbrev RG := D → Env → (Env → Prop) → Prop
abbrev RGs := List D → Env → (Env → Prop) → Prop
/-- the same but at some places -/
def But (ts : List Nat) (σ σ' : St) : Prop := σ'.length = σ.length ∧ ∀ i, i ∉ ts → σ'[i]? = σ[i]?
abbrev preG (X : Cx) (ts : List Nat) (g : RG) : TG := fun v σ H Q => ∃ E I δ τ d, Sta X.K E I δ (σ ++ τ) H ∧ Rep X.K I v d ∧ g d δ fun δ' => ∀ σ', But ts σ σ' → Sta X.K E I δ' (σ' ++ τ) H → Q σ' H
abbrev preGs (X : Cx) (ts : List Nat) (g : RGs) : TGs := fun vs σ H Q => ∃ E I δ τ ds, Sta X.K E I δ (σ ++ τ) H ∧ Reps X.K I vs ds ∧ g ds δ fun δ' => ∀ σ', But ts σ σ' → Sta X.K E I δ' (σ' ++ τ) H → Q σ' H
structure TrG (X : Cx) (tg : Expr) (ts : List Nat) (g : RG) : Prop where
  pg : PG X tg (preG X ts g)
  mono : ∀ {d : D} {δ : Env} {Q Q' : Env → Prop}, (∀ δ', Q δ' → Q' δ') → g d δ Q → g d δ Q'
structure TrGs (X : Cx) (tg : List Expr) (ts : List Nat) (g : RGs) : Prop where
  pg : PGs X tg (preGs X ts g)
  mono : ∀ {d : List D} {δ : Env} {Q Q' : Env → Prop}, (∀ δ', Q δ' → Q' δ') → g d δ Q → g d δ Q'
theorem weakG {t u : TG} (h : PG X tg t) (w : ∀ v σ H Q, σ.length = X.N.length → u v σ H Q → t v σ H Q) : PG X tg u := ⟨fun pins s σ H v x Q I r q => h.run pins s σ H v x Q I r (w _ _ _ _ I.len q)⟩
theorem weakGs {t u : TGs} (h : PGs X es t) (w : ∀ v σ H Q, σ.length = X.N.length → u v σ H Q → t v σ H Q) : PGs X es u := ⟨fun pins s σ H v x Q I r q => h.run pins s σ H v x Q I r (w _ _ _ _ I.len q)⟩
def dName (i : Nat) : RG := fun d δ Q => Q (δ.set i (.im d))
theorem tg_name {i : Nat} {x : Str} (hN : X.N.Nodup) (hi : X.N[i]? = some x) (hx : Loc X.env.scope x) (hf : X.fn x = true ∨ X.env.scope.names.lookup x = some .local := by first | exact .inl rfl | exact .inr rfl | assumption) : TrG X (.Name x pos) [i] (dName i) := by
  refine ⟨weakG (pg_name hN hi hx hf) fun v σ H Q hl ⟨E, I, δ, τ, d, S, rp, h⟩ => ?_, fun h => h _⟩
  have hj : i < σ.length := by rw [hl]; exact lt_of_get hi
  refine h _ ⟨by simp, fun k hk => ?_⟩ ?_
  · rw [List.getElem?_set_ne (fun z => hk (by simp [z]))]
  · rw [← List.set_append_left _ _ hj]
    exact S.set_im rp
def dNil : RGs := fun ds δ Q => match ds with
  | [] => Q δ
  | _ => False
def dCons (g : RG) (gs : RGs) : RGs := fun ds δ Q => match ds with
  | d :: r => g d δ fun δ1 => gs r δ1 Q
  | [] => False
theorem tgs_nil : TrGs X [] [] dNil := by
  refine ⟨weakGs pgs_nil fun v σ H Q hl ⟨E, I, δ, τ, ds, S, rp, h⟩ => ?_, fun {d δ Q Q'} h w => ?_⟩
  · cases rp with
    | nil => exact ⟨rfl, h _ ⟨rfl, fun _ _ => rfl⟩ S⟩
    | cons _ _ => exact h.elim
  · cases d with
    | nil => exact h _ w
    | cons _ _ => exact w
theorem tgs_cons {t1 t2 : List Nat} {g : RG} {gs : RGs} (h1 : TrG X e t1 g) (h2 : TrGs X es t2 gs) (hs : (assignEach (e :: es) X.env).map (·.2) = assign e X.env :: (assignEach es X.env).map (·.2) := by rfl) : TrGs X (e :: es) (t1 ++ t2) (dCons g gs) := by
  refine ⟨weakGs (pgs_cons h1.pg h2.pg hs) fun v σ H Q hl ⟨E, I, δ, τ, ds, S, rp, h⟩ => ?_, fun {d δ Q Q'} h w => ?_⟩
  · cases rp with
    | nil => exact h.elim
    | cons r1 r2 => exact ⟨_, _, rfl, E, I, δ, τ, _, S, r1, h1.mono (fun δ1 h σ1 b1 S1 => ⟨E, I, δ1, τ, _, S1, r2, h2.mono (fun δ2 h σ2 b2 S2 => h σ2 ⟨b2.1.trans b1.1, fun i hi => (b2.2 i fun z => hi (List.mem_append_right _ z)).trans (b1.2 i fun z => hi (List.mem_append_left _ z))⟩ S2) h⟩) h⟩
  · cases d with
    | nil => exact w
    | cons _ _ => exact h1.mono (fun _ => h2.mono h) w
def dTup (n : Nat) (gs : RGs) : RG := fun d δ Q => match d with
  | .tup ds => ds.length = n ∧ gs ds δ Q
  | .wt ds => ds.length = n ∧ gs ds δ Q
  | _ => False
theorem tg_tup {k n : Nat} {ts : List Nat} {gs : RGs} (hc : X.calm = true) (h : TrGs X es ts gs) (hn : (assignEach es X.env).length = n := by rfl) (hst : (assignEach es X.env).findIdx? (·.1) = none := by rfl) : TrG X (.Tuple es k pos) ts (dTup n gs) := by
  refine ⟨weakG (pg_tup hc h.pg hn hst) fun v σ H Q hl ⟨E, I, δ, τ, d, S, rp, w⟩ => ?_, fun {d δ Q Q'} h' w => ?_⟩
  · cases rp with
    | wt e r => exact ⟨_, _, rfl, Same.seqT S.le e, by rw [r.length]; exact w.1, E, I, δ, τ, _, S, r, w.2⟩
    | tup e r => exact ⟨_, _, rfl, SqT.of (S.le _ _ e), by rw [r.length]; exact w.1, E, I, δ, τ, _, S, r, w.2⟩
    | _ => exact w.elim
  · cases d <;> first | exact w.elim | exact ⟨w.1, h.mono h' w.2⟩
/-- target = e -/
def rAsg (ra : RE) (g : RG) : RS := fun De δ => r1 ra (fun d δ1 => g d δ1 De.nx) δ
theorem ts_asg {ts : List Nat} {g : RG} (ha : TrE X a q ra) (hg : TrG X tg ts g) (hs : swapsWithSole [tg] a pos.line X.env = pure false := by rfl) (hw : swappedStores [tg] a X.env = pure none := by rfl)
    (h1 : (assignEach [tg] X.env).map (·.2) = [assign tg X.env] := by rfl) : TrS X (.Assign [tg] a pos) (rAsg ra g) := by
  refine ⟨weakS (ps_asg ha.pe hg.pg hs hw h1) fun D σ H hl ⟨E, I, δ, τ, De, S, h, k⟩ => one ha S h fun v d δ1 I1 H1 s1 k1 S1 rp h1 => ?_, fun k => r1_mono ha fun _ _ => hg.mono k.nx⟩
  exact ⟨E, I1, δ1, τ, d, S1, rp, hg.mono (fun δ2 h2 σ2 b2 S2 => k.nx _ _ _ _ (b2.1.trans hl) S2 h2) h1⟩
/-- a, b = x, y with plain local names -/
def rPar (i j : Nat) (rs : RA) : RS := fun De δ => rs δ fun ds δ1 => match ds with
  | [d, e] => De.nx ((δ1.set i (.im d)).set j (.im e))
  | _ => False
theorem ts_par {i j : Nat} {x y : Str} {px py pt : Pos} {kt k2 pt2} (hc : X.calm = true) (hN : X.N.Nodup) (hi : X.N[i]? = some x) (hj : X.N[j]? = some y) (hij : i ≠ j)
    (hx : X.env.scope.names.lookup x = some .local) (hy : X.env.scope.names.lookup y = some .local) (ha : TrA X [a, b] q rs)
    (hw : swappedStores [.Tuple [.Name x px, .Name y py] kt pt] (.Tuple [a, b] k2 pt2) X.env = pure (some [x, y]) := by rfl)
    (hs : swapsWithSole [.Tuple [.Name x px, .Name y py] kt pt] (.Tuple [a, b] k2 pt2) pos.line X.env = pure false := by rfl) :
    TrS X (.Assign [.Tuple [.Name x px, .Name y py] kt pt] (.Tuple [a, b] k2 pt2) pos) (rPar i j rs) := by
  refine ⟨weakS (ps_par hc hN hi hj hij hx hy ha.pa hw hs) fun D σ H hl ⟨E, I, δ, τ, De, S, h, k⟩ => ⟨E, I, δ, τ, S, ha.mono (fun ds δ1 h1 => ?_) h⟩, fun k => ha.mono fun ds _ h => ?_⟩
  · intro vs I1 H1 s1 k1 S1 rps
    cases rps with
    | nil => exact h1.elim
    | cons r1 r2 =>
      cases r2 with
      | nil => exact h1.elim
      | cons r2 r3 =>
        cases r3 with
        | cons _ _ => exact h1.elim
        | nil =>
          refine ⟨_, _, rfl, k.nx _ I1 _ _ (by rw [List.length_set, List.length_set]; exact hl) ?_ h1⟩
          have li : i < σ.length := by rw [hl]; exact lt_of_get hi
          have lj : j < σ.length := by rw [hl]; exact lt_of_get hj
          rw [← List.set_append_left _ _ (by simpa using lj), ← List.set_append_left _ _ li]
          exact (S1.set_im r1).set_im r2
  · match ds, h with
    | [_, _], h => exact k.nx _ h
/-- x += e of ints -/
def augS (i : Nat) (k : Env → Prop) (δ : Env) (f : Int → Int → Int) : Option Slot → D → Prop
  | some (.im (.int x)), .int y => k (δ.set i (.im (.int (f x y))))
  | _, _ => False
/-! ### while -/
def rWhile (t : RT) (r : RS) : RS := fun De δ => ∃ W : Nat → Env → Prop, (∃ m, W m δ) ∧ ∀ m δ, W m δ →
  t δ fun b δ1 => if b = true then r { De with nx := fun δ' => ∃ m', m' < m ∧ W m' δ', ct := fun δ' => ∃ m', m' < m ∧ W m' δ', bk := De.nx } δ1 else De.nx δ1
theorem ts_while (hp : PassesOwn (model X.prog X.w) X.A X.env X.xe) (hc : TrT X c q rt) (hb : TrSs X sts r) : TrS X (.While c sts [] pos) (rWhile rt r) := by
  refine ⟨weakS (ps_while hp hc.pt hb.ps) fun D σ H hl ⟨E, I, δ, τ, De, S, ⟨W, ⟨m0, w0⟩, step⟩, k⟩ => ?_, fun k ⟨W, w0, step⟩ => ⟨W, w0, fun m δ w => hc.mono (fun b δ1 h => ?_) (step m δ w)⟩⟩
  rotate_left
  · cases b with
    | false => exact k.nx _ h
    | true => refine hb.mono ?_ h; exact ⟨fun _ h => h, k.rt, k.nx, fun _ h => h⟩
  refine ⟨fun m σ' H' => σ'.length = X.N.length ∧ ∃ I' δ', Sta X.K E I' δ' (σ' ++ τ) H' ∧ W m δ', ⟨m0, hl, I, δ, S, w0⟩, ?_⟩
  rintro m σ1 H1 ⟨hl1, I1, δ1, S1, w1⟩
  refine ⟨E, I1, δ1, τ, S1, hc.mono (fun b δ2 h2 I2 H2 s2 k2 S2 => ?_) (step m δ1 w1)⟩
  cases b with
  | false => exact k.nx _ _ _ _ hl1 S2 h2
  | true =>
    refine ⟨fun σ' H' => ∃ m', m' < m ∧ σ'.length = X.N.length ∧ ∃ I' δ', Sta X.K E I' δ' (σ' ++ τ) H' ∧ W m' δ', fun σ' H' z => z, E, I2, δ2, τ, _, S2, h2, ⟨?_, k.nx, ?_, k.rt⟩⟩
    · rintro σ3 I3 H3 δ3 hl3 S3 ⟨m', hm, w3⟩; exact ⟨m', hm, hl3, I3, δ3, S3, w3⟩
    · rintro σ3 I3 H3 δ3 hl3 S3 ⟨m', hm, w3⟩; exact ⟨m', hm, hl3, I3, δ3, S3, w3⟩
end
end DL
end
section
set_option Elab.async false
set_option linter.all false
set_option maxRecDepth 100000
set_option maxHeartbeats 4000000
namespace DL
open PySem L2
section
variable {K : PySem.W.Frag} {E : Ent} {I I' : Hp} {δ δ' ε : Env} {σ τ τ1 τ2 : St} {H H' : Hp} {v : V} {o : Ow} {d : D}

/-- from here on nothing immutable is lost -/
def Ent.at (E : Ent) (I : Hp) : Ent := { E with I0 := I }
theorem Sta.up (S : Sta K E I δ σ H) : Sta K (E.at I) I δ σ H := ⟨S.le, L2.Same.refl _, fun _ _ => rfl, S.th, S.fr, S.len, S.own⟩
theorem Sta.down {δ2 : Env} {σ2 : St} {H2 : Hp} (S : Sta K E I δ σ H) (S2 : Sta K (E.at I) I' δ2 σ2 H2) : Sta K E I' δ2 σ2 H2 :=
  ⟨S2.le, S.i0.trans S2.i0, fun a q => (S2.ix a q).trans (S.ix a q), S2.th, S2.fr, S2.len, S2.own⟩

/-! ### what is walked -/
/-- what is done with what a loop walks when it is over -/
inductive Bk where
  | id | drop | give (j : Nat) (s : Slot) (v : V)
def bkE : Bk → (Env → Prop) → Env → Prop
  | .id, k, δ => k δ
  | .drop, k, δ => k δ.dropLast
  | .give j s v, k, δ => δ[j]? = some (.vl v) ∧ k (δ.dropLast.set j s)
theorem bkE_mono {k k' : Env → Prop} (h : ∀ δ, k δ → k' δ) : ∀ {b : Bk} {δ : Env}, bkE b k δ → bkE b k' δ
  | .id, _, q => h _ q
  | .drop, _, q => h _ q
  | .give _ _ _, _, q => ⟨q.1, h _ q.2⟩
def BkOk (τ τ1 : St) (δ1 : Env) : Bk → Prop
  | .id => τ1 = τ
  | .drop => ∃ v, τ1 = τ ++ [some v]
  | .give j s v => τ1 = τ ++ [some v] ∧ (∃ p o, s = .ow p o) ∧ ∃ δ0, δ1 = δ0 ++ [s]
/-- what stands above the names is as it was -/
def Tail (n : Nat) (δ1 δ' : Env) : Prop := δ'.drop n = δ1.drop n
theorem bk_ok {b : Bk} {δ1 : Env} {k : Env → Prop} {n n' : Nat} (B : BkOk τ τ1 δ1 b) (T : Tail n' δ1 δ') (hn' : n' ≤ n + τ.length) (hn : σ.length = n) (l1 : δ1.length = n + τ1.length) (S : Sta K E I (δ' ++ ε) (σ ++ τ1 ++ τ2) H) (hl : δ'.length = n + τ1.length) (q : bkE b k δ') :
    ∃ δ'', k δ'' ∧ Sta K E I (δ'' ++ ε) (σ ++ τ ++ τ2) H ∧ δ''.length = n + τ.length := by
  have split : ∀ x : Option V, τ1 = τ ++ [x] → ∃ s, δ' = δ'.dropLast ++ [s] ∧ δ'.dropLast.length = n + τ.length := fun x e => by
    have hne : δ' ≠ [] := by intro z; rw [z, e] at hl; simp at hl
    exact ⟨δ'.getLast hne, (List.dropLast_concat_getLast hne).symm, by rw [List.length_dropLast, hl, e]; simp⟩
  cases b with
  | id =>
    have B' : τ1 = τ := B
    subst B'
    exact ⟨δ', q, S, hl⟩
  | drop =>
    obtain ⟨v, e⟩ := B
    obtain ⟨s, e1, e3⟩ := split _ e
    refine ⟨δ'.dropLast, q, ?_, e3⟩
    rw [e1, e, List.append_assoc, List.append_assoc, ← List.append_assoc] at S
    have S' : Sta K E I (δ'.dropLast ++ s :: ε) ((σ ++ τ) ++ some v :: τ2) H := by simpa using S
    exact S'.cut (by rw [List.length_append, hn]; exact e3.symm)
  | give j s v =>
    obtain ⟨e, ⟨p, o, hs⟩, δ0, hlast⟩ := B
    obtain ⟨s', e1, e3⟩ := split _ e
    have hss : s' = s := by
      have T' : δ'.drop n' = δ1.drop n' := T
      have l0 : δ0.length = n + τ.length := by have := l1; rw [hlast, e] at this; simp at this; omega
      rw [e1, hlast, List.drop_append_of_le_length (by omega), List.drop_append_of_le_length (by omega)] at T'
      have := (List.append_inj' T' rfl).2
      exact (List.cons.inj this).1
    subst hss hs
    obtain ⟨hj, q⟩ := q
    refine ⟨δ'.dropLast.set j (.ow p o), q, ?_, by rw [List.length_set]; exact e3⟩
    have hjd : j < δ'.dropLast.length := by
      rcases Nat.lt_or_ge j δ'.dropLast.length with z | z
      · exact z
      · rw [e1, gr z] at hj
        cases w : j - δ'.dropLast.length with
        | zero => rw [w] at hj; simp at hj
        | succ m => rw [w] at hj; simp at hj
    have S' : Sta K E I (δ'.dropLast ++ .ow p o :: ε) ((σ ++ τ) ++ some v :: τ2) H := by
      rw [e1, e] at S
      simpa using S
    have hlen : (σ ++ τ).length = δ'.dropLast.length := by rw [List.length_append, hn]; exact e3.symm
    refine S'.back hlen hjd ?_
    have g := S'.vl_get (i := j) (v := v) (by rw [gl hjd]; rw [e1, gl hjd] at hj; exact hj)
    rwa [gl (by omega)] at g

abbrev RI := Env → (List D → Env → Bk → Prop) → Prop
/-- where the thing that is walked stands, n the number of the names -/
def Above (n : Nat) (δ1 δ' : Env) (σ1 σ' : St) : Prop := ∀ k : Nat, n ≤ k → k < σ1.length → δ'[k]? = δ1[k]? ∧ σ'[k]? = σ1[k]?
structure TrI (X : Cx) (tg iter : Expr) (q : Bool) (rI : RI) : Prop where
  ex : ∃ wi, PI X tg iter wi ∧ ∀ (σ : St) (H : Hp) (R : It → Hp → Prop) (E : Ent) (I : Hp) (δ : Env) (τ : St) (Qd : List D → Env → Bk → Prop), σ.length = X.N.length → Sta X.K E I δ (σ ++ τ) H → rI δ Qd →
    (∀ xs δ1 b τ1 I1 H1 J G Y, Qd xs δ1 b → Same I I1 → (q = true → Same H H1) → Sta X.K E I1 δ1 (σ ++ τ1) H1 → BkOk τ τ1 δ1 b → Walk J xs.length G Y →
      (∀ I' δ' σ' H', Sta X.K E I' δ' σ' H' → Same I1 I' → Above (X.N.length + τ.length) δ1 δ' (σ ++ τ1) σ' → G H') →
      (∀ i H' v H'' I' δ' σ', Sta X.K E I' δ' σ' H' → Same I1 I' → Above (X.N.length + τ.length) δ1 δ' (σ ++ τ1) σ' → i < xs.length → Y i H' v H'' → ∃ I'' d, xs[i]? = some d ∧ Same I' I'' ∧ Same H' H'' ∧ Sta X.K E I'' δ' σ' H'' ∧ Rep X.K I'' v d) → R J H1) → wi σ H R
  mono : ∀ {δ : Env} {Q Q' : List D → Env → Bk → Prop}, (∀ xs δ' b, Q xs δ' b → Q' xs δ' b) → rI δ Q → rI δ Q'

/-- the turns of a for -/
def goFor (T : Env → Prop) (g : RG) (r : RS) (rtn : Slot → Env → Prop) (fin : Env → Prop) : List D → Env → Prop
  | [], δ => fin δ
  | x :: xs, δ => g x δ fun δ' => r { nx := fun δ2 => T δ2 ∧ goFor T g r rtn fin xs δ2, rt := rtn, bk := fun δ2 => T δ2 ∧ fin δ2, ct := fun δ2 => T δ2 ∧ goFor T g r rtn fin xs δ2 } δ'
def rFor (n : Nat) (rI : RI) (g : RG) (r : RS) : RS := fun De δ => rI δ fun xs δ1 b => goFor (Tail n δ1) g r De.rt (bkE b De.nx) xs δ1
end

section
variable {X : Cx} {a b c e tg iter : Expr} {es rest : List Expr} {st : Stmt} {sts stt : List Stmt} {q q1 q2 q3 : Bool} {ra rb rc : RE} {rt rt1 rt2 : RT} {rs : RA} {r s : RS} {rI : RI} {g : RG} {ts : List Nat} {pos pos' p : Pos}
theorem goFor_mono (hg : TrG X tg ts g) (hb : TrSs X sts r) {T : Env → Prop} {rtn rtn' : Slot → Env → Prop} {fin fin' : Env → Prop} (h1 : ∀ s δ, rtn s δ → rtn' s δ) (h2 : ∀ δ, fin δ → fin' δ) : ∀ {xs : List D} {δ : Env}, goFor T g r rtn fin xs δ → goFor T g r rtn' fin' xs δ
  | [], _, q => h2 _ q
  | x :: xs, δ, q => by
    unfold goFor at q ⊢
    refine hg.mono (fun δ' h => ?_) q
    refine hb.mono ?_ h
    exact ⟨fun δ h => ⟨h.1, goFor_mono hg hb h1 h2 h.2⟩, h1, fun δ h => ⟨h.1, h2 _ h.2⟩, fun δ h => ⟨h.1, goFor_mono hg hb h1 h2 h.2⟩⟩
theorem ts_for {n : Nat} (hp : PassesOwn (model X.prog X.w) X.A X.env X.xe) (hc : X.calm = true) (hi : TrI X tg iter q rI) (hg : TrG X tg ts g) (hb : TrSs X sts r) (hn : X.N.length = n := by rfl)
    (hs : ∀ x, foldedSetIterable iter X.env x = pure x := by intro _; rfl) : TrS X (.For tg iter sts [] pos) (rFor n rI g r) := by
  subst hn
  obtain ⟨wi, hPI, hrun⟩ := hi.ex
  refine ⟨weakS (ps_for hp hc hPI hg.pg hb.ps hs) fun D σ H hl ⟨E, I, δ, τ, De, S, h, k⟩ => ?_, fun k => hi.mono fun _ _ _ => goFor_mono hg hb k.rt fun _ => bkE_mono k.nx⟩
  refine hrun σ H _ E I δ τ _ hl S h fun xs δ1 b τ1 I1 H1 J G Y hq s1 k1 S1 B w stay item => ?_
  have up := S1.up
  have l1 : δ1.length = X.N.length + τ1.length := by have := S1.len; rw [← this, List.length_append, hl]
  have above : ∀ {σ' : St} {δ' : Env}, σ'.length = X.N.length → Tail X.N.length δ1 δ' → Above (X.N.length + τ.length) δ1 δ' (σ ++ τ1) (σ' ++ τ1) := fun {σ' δ'} hl' T k hk _ => by
    have hk : X.N.length ≤ k := by omega
    refine ⟨?_, ?_⟩
    · have e1 : (δ'.drop X.N.length)[k - X.N.length]? = δ'[k]? := by rw [List.getElem?_drop]; congr 1; omega
      have e2 : (δ1.drop X.N.length)[k - X.N.length]? = δ1[k]? := by rw [List.getElem?_drop]; congr 1; omega
      have T' : δ'.drop X.N.length = δ1.drop X.N.length := T
      rw [← e1, ← e2, T']
    · rw [gr (by omega), gr (by omega), hl, hl']
  have out : ∀ σ' I' H' δ', σ'.length = X.N.length → Sta X.K (E.at I1) I' δ' (σ' ++ τ1) H' → Tail X.N.length δ1 δ' → bkE b De.nx δ' → D.nx σ' H' := fun σ' I' H' δ' hl' S' T' hq' => by
    obtain ⟨δ'', h1, h2, _⟩ := bk_ok (ε := []) (τ2 := []) B T' (Nat.le_add_right _ _) hl' l1 (by simpa using S1.down S') (by have := S'.len; rw [← this, List.length_append, hl']) hq'
    exact k.nx σ' I' H' δ'' hl' (by simpa using h2) h1
  refine for_it w (fun i σ' H' => σ'.length = X.N.length ∧ ∃ I' δ', Sta X.K (E.at I1) I' δ' (σ' ++ τ1) H' ∧ Tail X.N.length δ1 δ' ∧ goFor (Tail X.N.length δ1) g r De.rt (bkE b De.nx) (xs.drop i) δ') ⟨hl, I1, δ1, up, rfl, by simpa using hq⟩ ?_ ?_ ?_
  · rintro i σ' H' hi' ⟨hl', I', δ', S', T', _⟩
    exact stay I' δ' _ H' (S1.down S') S'.i0 (above hl' T')
  · rintro i x σ' H' H'' hi' ⟨hl', I', δ', S', T', q'⟩ y
    obtain ⟨I'', d, e, s2, s3, S'', rp⟩ := item i H' x H'' I' δ' _ (S1.down S') S'.i0 (above hl' T') hi' y
    have S2 : Sta X.K (E.at I1) I'' δ' (σ' ++ τ1) H'' := by
      have u := S''
      exact ⟨u.le, S'.i0.trans s2, fun a q => (u.ix a q).trans (S1.ix a q).symm, u.th, u.fr, u.len, u.own⟩
    have ed : xs.drop i = d :: xs.drop (i + 1) := by
      rw [List.drop_eq_getElem_cons hi']
      congr 1
      rw [List.getElem?_eq_getElem hi'] at e
      exact Option.some.inj e
    rw [ed] at q'
    refine ⟨E.at I1, I'', δ', τ1, d, S2, rp, hg.mono (fun δ2 h2 σ2 b2 S3 => ?_) q'⟩
    have hl2 : σ2.length = X.N.length := b2.1.trans hl'
    refine ⟨E.at I1, I'', δ2, τ1, _, S3, h2, ⟨?_, ?_, ?_, fun v ρ I4 H4 δ4 s S4 => k.rt v ρ I4 H4 δ4 s (S1.down S4)⟩⟩
    · rintro σ4 I4 H4 δ4 hl4 S4 ⟨T4, q4⟩
      exact ⟨hl4, I4, δ4, S4, T4, q4⟩
    · rintro σ4 I4 H4 δ4 hl4 S4 ⟨T4, q4⟩
      exact out σ4 I4 H4 δ4 hl4 S4 T4 q4
    · rintro σ4 I4 H4 δ4 hl4 S4 ⟨T4, q4⟩
      exact ⟨hl4, I4, δ4, S4, T4, q4⟩
  · rintro σ' H' ⟨hl', I', δ', S', T', q'⟩
    rw [List.drop_length] at q'
    exact out σ' I' H' δ' hl' S' T' q'
end
end DL
end
section
set_option Elab.async false
set_option linter.all false
set_option maxRecDepth 100000
set_option maxHeartbeats 4000000
namespace DL
open PySem L2 RZ
section
variable {K : PySem.W.Frag} {E : Ent} {I I' : Hp} {δ δ' ε : Env} {σ τ τ1 τ2 : St} {H H' : Hp} {v : V} {o : Ow} {d : D} {i : Nat} {pn : Pin}
theorem Sta.lendV (S : Sta K E I δ σ H) (hi : δ[i]? = some (.ow pn o)) (hv : σ[i]? = some (some v)) : Sta K E I (δ.set i (.vl v) ++ [.ow pn o]) (σ ++ [some v]) H := by
  have S1 := S.lend hi hv
  have hil := lt_of_get hi
  have hlen := S.len
  refine S1.remap (by simp [hlen]) fun k => ?_
  by_cases hk : k = i
  · subst hk
    refine .inr (.inr (.inr (.inr ⟨v, ?_, ?_⟩)))
    · rw [gl (by simpa using hil), List.getElem?_set_self hil]
    · rw [gl (by omega)]; exact hv
  · refine .inl ⟨?_, rfl⟩
    by_cases hl : k < δ.length
    · rw [gl (by simpa using hl), gl (by simpa using hl), List.getElem?_set_ne (Ne.symm hk), List.getElem?_set_ne (Ne.symm hk)]
    · rw [gr (by simp; omega), gr (by simp; omega)]; simp
theorem walkL {a : Addr} {n : Nat} : Walk (Itl K a) n (fun H => ∃ vs, SqL K H a vs ∧ vs.length = n) (fun i H x H' => H' = H ∧ ∀ vs, SqL K H a vs → vs[i]? = some x) :=
  ⟨fun i _ hi ⟨vs, q, l⟩ => ⟨vs, vs[i]'(by omega), q, by simp [l, hi]⟩, fun _ ⟨vs, q, l⟩ => ⟨vs, q, by omega⟩, fun _ _ _ _ _ _ y => y⟩
theorem walkT {a : Addr} {n : Nat} : Walk (Itt K a) n (fun H => ∃ vs, SqT K H a vs ∧ vs.length = n) (fun i H x H' => H' = H ∧ ∀ vs, SqT K H a vs → vs[i]? = some x) :=
  ⟨fun i _ hi ⟨vs, q, l⟩ => ⟨vs, vs[i]'(by omega), q, by simp [l, hi]⟩, fun _ ⟨vs, q, l⟩ => ⟨vs, q, by omega⟩, fun _ _ _ _ _ _ y => y⟩
end
section
variable {X : Cx} {a b c e tg iter : Expr} {es rest : List Expr} {q q1 q2 q3 : Bool} {ra rb rc : RE} {rs : RA} {pos p tpos : Pos}
def iSeq (K : PySem.W.Frag) (tl : TE) : TI := fun σ H R => tl σ H fun x H1 => ∃ a, x = .ref a ∧ (((∃ xs, SqL K H1 a xs) ∧ R (Itl K a) H1) ∨ ((∃ xs, SqT K H1 a xs) ∧ R (Itt K a) H1))
theorem pi_seq {l : Expr} {tl : TE} (hl : PE X l tl) : PI X tg l (iSeq X.K tl) := by
  refine ⟨fun pins s σ H R I h => ?_⟩
  refine thn (hl.run pins s σ H _ I h) fun v s1 ⟨x, H1, I1, r1, q1⟩ => ?_
  obtain ⟨a, e, q⟩ := q1
  subst e
  cases r1
  rcases q with ⟨⟨xs, hq⟩, q⟩ | ⟨⟨xs, hq⟩, q⟩
  · obtain ⟨its, rv, p, hz⟩ := I1.list hq
    refine wpAny_pyIter_list p.isList ?_
    refine ⟨s1.heap.objs.size, [s1.heap.objs.size], _, _, H1, rfl, I1.kept (t' := s1.toks) fun b o e => Heap.get?_push_of_some _ e, turn_list a _, ⟨_, Heap.get?_push_size _ rfl, rfl, rfl⟩, fun b hb => ?_, q⟩
    have e : b = s1.heap.objs.size := by simpa using hb
    subst e
    exact I1.fpOk (Nat.le_refl _) (I1.hok.fresh (Nat.le_refl _))
  · obtain ⟨its, rv, p, hz⟩ := I1.tuple hq
    refine wpAny_pyIter_tuple (show s1.heap.IsTuple a its.toArray from p) ?_
    refine ⟨s1.heap.objs.size, [s1.heap.objs.size], _, _, H1, rfl, I1.kept (t' := s1.toks) fun b o e => Heap.get?_push_of_some _ e, turn_tuple a _, ⟨_, Heap.get?_push_size _ rfl, rfl, rfl⟩, fun b hb => ?_, q⟩
    have e : b = s1.heap.objs.size := by simpa using hb
    subst e
    exact I1.fpOk (Nat.le_refl _) (I1.hok.fresh (Nat.le_refl _))
def seqXs : D → Option (List D)
  | .lst xs => some xs
  | .wl xs => some xs
  | .tup xs => some xs
  | .wt xs => some xs
  | _ => none
def seqOw (δ : Env) (Q : List D → Env → Bk → Prop) : Ow → Prop
  | .ob (.lst xs) => Q xs (δ ++ [.ow .fresh (.ob (.lst xs))]) .drop
  | _ => False
def seqSl (δ : Env) (j : Nat) (Q : List D → Env → Bk → Prop) : Option Slot → Prop
  | some (.im d) => onSome (fun xs => Q xs δ .id) (seqXs d)
  | some (.ow p (.ob (.lst xs))) => ∀ v, Q xs (δ.set j (.vl v) ++ [.ow p (.ob (.lst xs))]) (.give j (.ow p (.ob (.lst xs))) v)
  | _ => False
def seqSrc (x : Rd) (δ : Env) (Q : List D → Env → Bk → Prop) : Prop := match x with
  | .im d => onSome (fun xs => Q xs δ .id) (seqXs d)
  | .tm o => seqOw δ Q o
  | .vr j => seqSl δ j Q δ[j]?
  | .at _ _ => False
theorem seqSrc_mono {Q Q' : List D → Env → Bk → Prop} (h : ∀ xs δ b, Q xs δ b → Q' xs δ b) {x : Rd} {δ : Env} (w : seqSrc x δ Q) : seqSrc x δ Q' := by
  cases x with
  | im d => exact onSome_mono (k := fun xs => Q xs δ .id) (k' := fun xs => Q' xs δ .id) (fun _ => h _ _ _) w
  | tm o =>
    have w : seqOw δ Q o := w
    match o, w with
    | .ob (.lst _), w => exact h _ _ _ w
  | vr j =>
    have w : seqSl δ j Q δ[j]? := w
    show seqSl δ j Q' δ[j]?
    match δ[j]?, w with
    | some (.im d), w => exact onSome_mono (k := fun xs => Q xs δ .id) (k' := fun xs => Q' xs δ .id) (fun _ => h _ _ _) w
    | some (.ow p (.ob (.lst xs))), w => exact fun v => h _ _ _ (w v)
  | «at» j f => exact w
def rSeqI (ra : RE) : RI := fun δ Q => ra δ fun x δ1 => seqSrc x δ1 Q
/-- what a walk needs of immutable data -/
theorem imSrc {K : PySem.W.Frag} {I1 : Hp} {v : V} {d : D} {xs : List D} (r : Rep K I1 v d) (h : seqXs d = some xs) : ∃ a vs, v = .ref a ∧ Reps K I1 vs xs ∧ ((∀ H, Same I1 H → SqL K H a vs) ∨ (∀ H, Same I1 H → SqT K H a vs)) := by
  cases r <;> first | (cases h; done) | skip
  · rename_i e r; cases h; exact ⟨_, _, rfl, r, .inl fun H m => L2.Same.seq m e⟩
  · rename_i e r; cases h; exact ⟨_, _, rfl, r, .inl fun H m => SqL.of (m _ _ e)⟩
  · rename_i e r; cases h; exact ⟨_, _, rfl, r, .inr fun H m => Same.seqT m e⟩
  · rename_i e r; cases h; exact ⟨_, _, rfl, r, .inr fun H m => SqT.of (m _ _ e)⟩
theorem ti_seq (ha : TrE X iter q ra) : TrI X tg iter q (rSeqI ra) := by
  refine ⟨⟨_, pi_seq ha.pe, fun σ H R E I δ τ Qd hl S h fin => ⟨E, I, δ, τ, S, ha.mono (fun x δ1 h1 => ?_) h⟩⟩, fun h => ha.mono fun _ _ => seqSrc_mono h⟩
  intro v I1 H1 s1 k1 st
  have imCase : ∀ d, Sta X.K E I1 δ1 (σ ++ τ) H1 → Rep X.K I1 v d → onSome (fun xs => Qd xs δ1 .id) (seqXs d) → ∃ a, v = .ref a ∧ (((∃ xs, SqL X.K H1 a xs) ∧ R (Itl X.K a) H1) ∨ ((∃ xs, SqT X.K H1 a xs) ∧ R (Itt X.K a) H1)) := fun d S1 rp h1 => by
    obtain ⟨xs, e, hq⟩ := onSome_ok h1
    obtain ⟨a, vs, rfl, rv, sq⟩ := imSrc rp e
    refine ⟨a, rfl, ?_⟩
    rcases sq with sq | sq
    · refine .inl ⟨⟨vs, sq H1 S1.le⟩, fin xs δ1 .id τ I1 H1 _ _ _ hq s1 k1 S1 rfl walkL ?_ ?_⟩
      · intro I' δ' σ' H' S' m _; exact ⟨vs, sq H' (m.trans S'.le), rv.length⟩
      · rintro i H' u H'' I' δ' σ' S' m _ hi ⟨rfl, y⟩
        obtain ⟨z, e1, e2⟩ := rv.getV (y vs (sq _ (m.trans S'.le)))
        exact ⟨I', z, e1, L2.Same.refl _, L2.Same.refl _, S', e2.mono m⟩
    · refine .inr ⟨⟨vs, sq H1 S1.le⟩, fin xs δ1 .id τ I1 H1 _ _ _ hq s1 k1 S1 rfl walkT ?_ ?_⟩
      · intro I' δ' σ' H' S' m _; exact ⟨vs, sq H' (m.trans S'.le), rv.length⟩
      · rintro i H' u H'' I' δ' σ' S' m _ hi ⟨rfl, y⟩
        obtain ⟨z, e1, e2⟩ := rv.getV (y vs (sq _ (m.trans S'.le)))
        exact ⟨I', z, e1, L2.Same.refl _, L2.Same.refl _, S', e2.mono m⟩
  have owCase : ∀ (δ2 : Env) (τ1 : St) (b : Bk) (pn : Pin) (xs : List D) (k : Nat), Sta X.K E I1 δ2 (σ ++ τ1) H1 → X.N.length + τ.length ≤ k → k < (σ ++ τ1).length → δ2[k]? = some (.ow pn (.ob (.lst xs))) → (σ ++ τ1)[k]? = some (some v) → BkOk τ τ1 δ2 b → Qd xs δ2 b →
      ∃ a, v = .ref a ∧ (((∃ xs, SqL X.K H1 a xs) ∧ R (Itl X.K a) H1) ∨ ((∃ xs, SqT X.K H1 a xs) ∧ R (Itt X.K a) H1)) := fun δ2 τ1 b pn xs k S2 hk hk2 e1 e2 B hq => by
    have get : ∀ {I' : Hp} {δ' : Env} {σ' : St} {H' : Hp}, Sta X.K E I' δ' σ' H' → Above (X.N.length + τ.length) δ2 δ' (σ ++ τ1) σ' → ∃ a vs, v = .ref a ∧ H' a = some (.lst vs) ∧ Reps X.K I' vs xs := fun {I' δ' σ' H'} S' ab => by
      obtain ⟨g1, g2⟩ := ab k hk hk2
      obtain ⟨u, L, w1, w2⟩ := S'.ow_get (g1.trans e1)
      rw [g2, e2] at w1; cases w1
      cases w2 with
      | ob w2 => cases w2 with
        | mk hh r => cases r with
          | lst r => exact ⟨_, _, rfl, hh, r⟩
    obtain ⟨a, vs, rfl, ha1, rv⟩ := get S2 (fun k _ _ => ⟨rfl, rfl⟩)
    refine ⟨a, rfl, .inl ⟨⟨vs, SqL.of ha1⟩, fin xs δ2 b τ1 I1 H1 _ _ _ hq s1 k1 S2 B walkL ?_ ?_⟩⟩
    · intro I' δ' σ' H' S' m ab
      obtain ⟨a', vs', e, h', rv'⟩ := get S' ab
      cases e
      exact ⟨vs', SqL.of h', rv'.length⟩
    · rintro i H' u H'' I' δ' σ' S' m ab hi ⟨rfl, y⟩
      obtain ⟨a', vs', e, h', rv'⟩ := get S' ab
      cases e
      obtain ⟨z, w1, w2⟩ := rv'.getV (y vs' (SqL.of h'))
      exact ⟨I', z, w1, L2.Same.refl _, L2.Same.refl _, S', w2⟩
  cases x with
  | im d => exact imCase d st.1 st.2 h1
  | tm o =>
    have h1 : seqOw δ1 Qd o := h1
    match o, h1, st with
    | .ob (.lst xs), h1, st =>
      have S1 : Sta X.K E I1 (δ1 ++ [.ow .fresh (.ob (.lst xs))]) (σ ++ τ ++ [some v]) H1 := st
      have hlen : (σ ++ τ).length = δ1.length := by have := S1.len; simp at this; simp; omega
      refine owCase _ (τ ++ [some v]) .drop .fresh xs δ1.length (by simpa using S1) ?_ (by simp at hlen ⊢; omega) (by rw [gr (Nat.le_refl _)]; simp) ?_ ⟨v, rfl⟩ h1
      · rw [← hlen, List.length_append, hl]; omega
      · rw [← List.append_assoc, gr (by omega), hlen]; simp
  | vr j =>
    have h1 : seqSl δ1 j Qd δ1[j]? := h1
    obtain ⟨S1, hv⟩ := st
    cases e : δ1[j]? with
    | none => rw [e] at h1; exact h1.elim
    | some sl =>
      rw [e] at h1
      match sl, h1, e with
      | .im d, h1, e =>
        obtain ⟨u, g1, g2⟩ := S1.im_get e
        rw [hv] at g1; cases g1
        exact imCase d S1 g2 h1
      | .ow pn (.ob (.lst xs)), h1, e =>
        have S2 := S1.lendV e hv
        have hlen := S1.len
        refine owCase _ (τ ++ [some v]) (.give j _ v) pn xs δ1.length (by simpa using S2) ?_ (by simp at hlen ⊢; omega) (by rw [gr (by simp)]; simp) ?_ ⟨rfl, ⟨pn, _, rfl⟩, _, rfl⟩ (h1 v)
        · rw [← hlen, List.length_append, hl]; omega
        · rw [← List.append_assoc, gr (by omega), hlen]; simp
  | «at» j f => exact h1.elim
/-- range(n), range(a, b) -/
def rgD (lo : Int) (n : Nat) : List D := (List.range n).map fun i => D.int (lo + (i : Nat))
theorem rgD_length (lo : Int) (n : Nat) : (rgD lo n).length = n := by simp [rgD]
def rRg1 (rs : RA) : RI := fun δ Q => rs δ fun ds δ1 => match ds with
  | [.int j] => -(2 ^ 62) ≤ j ∧ j < 2 ^ 62 ∧ Q (rgD 0 j.toNat) δ1 .id
  | _ => False
def rRg2 (rs : RA) : RI := fun δ Q => rs δ fun ds δ1 => match ds with
  | [.int i, .int j] => (-(2 ^ 62) ≤ i ∧ i < 2 ^ 62 ∧ -(2 ^ 62) ≤ j ∧ j < 2 ^ 62) ∧ Q (rgD i (j - i).toNat) δ1 .id
  | _ => False
theorem rg_fin {K : PySem.W.Frag} {E : Ent} {I' : Hp} {δ' : Env} {σ' : St} {H' H'' : Hp} {lo : Int} {n i : Nat} {v : V} (S : Sta K E I' δ' σ' H') (hi : i < (rgD lo n).length) (y : YFn (fun i => V.int (lo + (i : Nat))) i H' v H'') :
    ∃ I'' d, (rgD lo n)[i]? = some d ∧ Same I' I'' ∧ Same H' H'' ∧ Sta K E I'' δ' σ' H'' ∧ Rep K I'' v d := by
  obtain ⟨rfl, rfl⟩ := y
  rw [rgD_length] at hi
  exact ⟨I', _, by simp [rgD, hi], L2.Same.refl _, L2.Same.refl _, S, .int _⟩
theorem ti_range1 (hg : Gl X "range") (hm : X.mg "range" = none) (ha : TrA X [a] q rs) (hs : starEach [a] X.env = [(false, eval a X.env)] := by rfl) : TrI X tg (.Call (.Name "range" p) [a] [] pos) q (rRg1 rs) := by
  refine ⟨⟨_, pi_range1 hg hm ha.pa hs, fun σ H R E I δ τ Qd hl S h fin => ⟨E, I, δ, τ, S, ha.mono (fun ds δ1 h1 => ?_) h⟩⟩, fun h => ha.mono fun ds _ w => ?_⟩
  · intro vs I1 H1 s1 k1 S1 rps
    match ds, h1, rps with
    | [.int j], h1, .cons (.int _) .nil =>
      refine ⟨j, rfl, h1.1, h1.2.1, fin _ δ1 .id τ I1 H1 _ _ _ h1.2.2 s1 k1 S1 rfl (by rw [rgD_length]; exact walk_range) (fun _ _ _ _ _ _ _ => trivial) ?_⟩
      intro i H' v H'' I' δ' σ' S' m _ hi y
      exact rg_fin S' hi y
  · match ds, w with
    | [.int j], w => exact ⟨w.1, w.2.1, h _ _ _ w.2.2⟩
theorem ti_range2 (hg : Gl X "range") (hm : X.mg "range" = none) (ha : TrA X [a, b] q rs) (hs : starEach [a, b] X.env = [(false, eval a X.env), (false, eval b X.env)] := by rfl) (hs2 : starEach [b] X.env = [(false, eval b X.env)] := by rfl) :
    TrI X tg (.Call (.Name "range" p) [a, b] [] pos) q (rRg2 rs) := by
  refine ⟨⟨_, pi_range2 hg hm ha.pa hs hs2, fun σ H R E I δ τ Qd hl S h fin => ⟨E, I, δ, τ, S, ha.mono (fun ds δ1 h1 => ?_) h⟩⟩, fun h => ha.mono fun ds _ w => ?_⟩
  · intro vs I1 H1 s1 k1 S1 rps
    match ds, h1, rps with
    | [.int i, .int j], h1, .cons (.int _) (.cons (.int _) .nil) =>
      refine ⟨i, j, rfl, h1.1, fin _ δ1 .id τ I1 H1 _ _ _ h1.2 s1 k1 S1 rfl (by rw [rgD_length]; exact walk_range) (fun _ _ _ _ _ _ _ => trivial) ?_⟩
      intro i H' v H'' I' δ' σ' S' m _ hi y
      exact rg_fin S' hi y
  · match ds, w with
    | [.int i, .int j], w => exact ⟨w.1, h _ _ _ w.2⟩

/-! ### enumerate, zip: pairs, new ones at each turn -/
def enumD : Nat → List D → List D
  | _, [] => []
  | n, x :: r => .tup [.int (n : Int), x] :: enumD (n + 1) r
theorem enumD_get : ∀ (xs : List D) (n i : Nat), (enumD n xs)[i]? = (xs[i]?).map fun x => D.tup [.int ((n + i : Nat) : Int), x]
  | [], n, i => by simp [enumD]
  | x :: r, n, 0 => by simp [enumD]
  | x :: r, n, i + 1 => by simp only [enumD, List.getElem?_cons_succ]; rw [enumD_get r (n + 1) i]; congr; funext x; congr 3; omega
theorem enumD_length : ∀ (xs : List D) (n : Nat), (enumD n xs).length = xs.length
  | [], _ => rfl
  | x :: r, n => by simp [enumD, enumD_length r]
def zipD : List D → List D → List D
  | x :: r, y :: s => .tup [x, y] :: zipD r s
  | _, _ => []
theorem zipD_get : ∀ (xs ys : List D) (i : Nat) (x y : D), xs[i]? = some x → ys[i]? = some y → (zipD xs ys)[i]? = some (.tup [x, y])
  | x :: r, y :: s, 0, _, _, h1, h2 => by simp at h1 h2; subst h1 h2; rfl
  | x :: r, y :: s, i + 1, _, _, h1, h2 => by simp only [zipD, List.getElem?_cons_succ] at h1 h2 ⊢; exact zipD_get r s i _ _ h1 h2
theorem zipD_length : ∀ (xs ys : List D), (zipD xs ys).length = min xs.length ys.length
  | [], _ => by simp [zipD]
  | _ :: _, [] => by simp [zipD]
  | x :: r, y :: s => by simp [zipD, zipD_length r s]
theorem pairNew {K : PySem.W.Frag} {E : Ent} {I : Hp} {δ : Env} {σ : St} {H : Hp} {T : Addr} {x y : V} {d e : D} (S : Sta K E I δ σ H) (n : H T = none) (rx : Rep K I x d) (ry : Rep K I y e) :
    Same I (upd I T (.tup [x, y])) ∧ Same H (upd H T (.tup [x, y])) ∧ Sta K E (upd I T (.tup [x, y])) δ σ (upd H T (.tup [x, y])) ∧ Rep K (upd I T (.tup [x, y])) (.ref T) (.tup [d, e]) := by
  have m := same_upd (h := .tup [x, y]) (S.free n)
  exact ⟨m, same_upd n, S.alloc n, .tup upd_same (.cons (rx.mono m) (.cons (ry.mono m) .nil))⟩
theorem walkE {K : PySem.W.Frag} {a : Addr} {n : Nat} : Walk (Ite K a) n (fun H => ∃ vs, SqL K H a vs ∧ vs.length = n) (fun i H v H' => ∃ T x, v = .ref T ∧ H T = none ∧ H' = upd H T (.tup [.int (i : Nat), x]) ∧ ∀ xs, SqL K H a xs → xs[i]? = some x) :=
  ⟨fun i _ hi ⟨vs, q, l⟩ => ⟨vs, vs[i]'(by omega), q, by simp [l, hi]⟩, fun _ ⟨vs, q, l⟩ => ⟨vs, q, by omega⟩, fun _ _ _ _ _ _ y => y⟩
theorem walkZ {K : PySem.W.Frag} {a b : Addr} {n : Nat} : Walk (Itz K a b) n (fun H => ∃ vs us, SqL K H a vs ∧ SqL K H b us ∧ min vs.length us.length = n)
    (fun i H v H' => ∃ T x y, v = .ref T ∧ H T = none ∧ H' = upd H T (.tup [x, y]) ∧ (∀ xs, SqL K H a xs → xs[i]? = some x) ∧ ∀ ys, SqL K H b ys → ys[i]? = some y) :=
  ⟨fun i _ hi ⟨vs, us, q, q2, l⟩ => ⟨vs, us, vs[i]'(by omega), us[i]'(by omega), q, q2, by simp, by simp⟩, fun _ ⟨vs, us, q, q2, l⟩ => ⟨vs, us, q, q2, by omega⟩, fun _ _ _ _ _ _ y => y⟩
theorem walkZT {K : PySem.W.Frag} {a b : Addr} {n : Nat} : Walk (ItzT K a b) n (fun H => ∃ vs us, SqT K H a vs ∧ SqT K H b us ∧ min vs.length us.length = n)
    (fun i H v H' => ∃ T x y, v = .ref T ∧ H T = none ∧ H' = upd H T (.tup [x, y]) ∧ (∀ xs, SqT K H a xs → xs[i]? = some x) ∧ ∀ ys, SqT K H b ys → ys[i]? = some y) :=
  ⟨fun i _ hi ⟨vs, us, q, q2, l⟩ => ⟨vs, us, vs[i]'(by omega), us[i]'(by omega), q, q2, by simp, by simp⟩, fun _ ⟨vs, us, q, q2, l⟩ => ⟨vs, us, q, q2, by omega⟩, fun _ _ _ _ _ _ y => y⟩
def rEnumI (rs : RA) : RI := fun δ Q => rs δ fun ds δ1 => match ds with
  | [.lst xs] => Q (enumD 0 xs) δ1 .id
  | [.wl xs] => Q (enumD 0 xs) δ1 .id
  | _ => False
theorem ti_enum {elts : List Expr} {kk : Nat} (hg : Gl X "enumerate") (hm : X.mg "enumerate" = none) (ha : TrA X [a] q rs) (hs : starEach [a] X.env = [(false, eval a X.env)] := by rfl) : TrI X (.Tuple elts kk tpos) (.Call (.Name "enumerate" p) [a] [] pos) q (rEnumI rs) := by
  refine ⟨⟨_, pi_enum hg hm ha.pa hs, fun σ H R E I δ τ Qd hl S h fin => ⟨E, I, δ, τ, S, ha.mono (fun ds δ1 h1 => ?_) h⟩⟩, fun h => ha.mono fun ds _ w => ?_⟩
  · intro vs I1 H1 s1 k1 S1 rps
    have go : ∀ (a : Addr) (us : List V) (xs : List D), (∀ H, Same I1 H → SqL X.K H a us) → Reps X.K I1 us xs → Qd (enumD 0 xs) δ1 .id → ∃ a' xs', [V.ref a] = [V.ref a'] ∧ SqL X.K H1 a' xs' ∧ R (Ite X.K a') H1 := fun a us xs sq rv hq => by
      refine ⟨a, us, rfl, sq H1 S1.le, fin _ δ1 .id τ I1 H1 _ _ _ hq s1 k1 S1 rfl (by rw [enumD_length]; exact walkE) ?_ ?_⟩
      · intro I' δ' σ' H' S' m _; exact ⟨us, sq H' (m.trans S'.le), rv.length⟩
      · rintro i H' u H'' I' δ' σ' S' m _ hi ⟨T, x, rfl, hn, rfl, y⟩
        obtain ⟨z, e1, e2⟩ := rv.getV (y us (sq _ (m.trans S'.le)))
        obtain ⟨m1, m2, m3, m4⟩ := pairNew S' hn (.int (i : Nat)) (e2.mono m)
        exact ⟨_, _, by rw [enumD_get, e1]; simp, m1, m2, m3, m4⟩
    match ds, h1, rps with
    | [.lst xs], h1, .cons (.lst e r) .nil => exact go _ _ xs (fun H m => SqL.of (m _ _ e)) r h1
    | [.wl xs], h1, .cons (.wl e r) .nil => exact go _ _ xs (fun H m => L2.Same.seq m e) r h1
  · match ds, w with
    | [.lst xs], w => exact h _ _ _ w
    | [.wl xs], w => exact h _ _ _ w
def zipXs : D → D → Option (List D)
  | .lst xs, .lst ys => some (zipD xs ys)
  | .tup xs, .tup ys => some (zipD xs ys)
  | .wt xs, .tup ys => some (zipD xs ys)
  | .tup xs, .wt ys => some (zipD xs ys)
  | .wt xs, .wt ys => some (zipD xs ys)
  | _, _ => none
def rZipI (rs : RA) : RI := fun δ Q => rs δ fun ds δ1 => match ds with
  | [x, y] => onSome (fun xs => Q xs δ1 .id) (zipXs x y)
  | _ => False
theorem ti_zip {elts : List Expr} {kk : Nat} (hg : Gl X "zip") (hm : X.mg "zip" = none) (ha : TrA X [a, b] q rs) (hs : starEach [a, b] X.env = (false, eval a X.env) :: starEach [b] X.env := by rfl)
    (hpl : (backTo pos (starEach [b] X.env)).any (·.1) = false := by rfl) : TrI X (.Tuple elts kk tpos) (.Call (.Name "zip" p) [a, b] [] pos) q (rZipI rs) := by
  refine ⟨⟨_, pi_zipA hg hm ha.pa hs hpl, fun σ H R E I δ τ Qd hl S h fin => ⟨E, I, δ, τ, S, ha.mono (fun ds δ1 h1 => ?_) h⟩⟩, fun {δ Q Q'} h => ha.mono fun ds _ w => ?_⟩
  · intro vs I1 H1 s1 k1 S1 rps
    have goL : ∀ (a b : Addr) (us ws : List V) (xs ys : List D), I1 a = some (.lst us) → I1 b = some (.lst ws) → Reps X.K I1 us xs → Reps X.K I1 ws ys → Qd (zipD xs ys) δ1 .id → R (Itz X.K a b) H1 := fun a b us ws xs ys ea eb rx ry hq => by
      refine fin _ δ1 .id τ I1 H1 _ _ _ hq s1 k1 S1 rfl (by rw [zipD_length]; exact walkZ) ?_ ?_
      · intro I' δ' σ' H' S' m _; exact ⟨us, ws, SqL.of (S'.le _ _ (m _ _ ea)), SqL.of (S'.le _ _ (m _ _ eb)), by rw [rx.length, ry.length]⟩
      · rintro i H' u H'' I' δ' σ' S' m _ hi ⟨T, x, y, rfl, hn, rfl, y1, y2⟩
        obtain ⟨z1, e1, e2⟩ := rx.getV (y1 us (SqL.of (S'.le _ _ (m _ _ ea))))
        obtain ⟨z2, e3, e4⟩ := ry.getV (y2 ws (SqL.of (S'.le _ _ (m _ _ eb))))
        obtain ⟨m1, m2, m3, m4⟩ := pairNew S' hn (e2.mono m) (e4.mono m)
        exact ⟨_, _, zipD_get _ _ _ _ _ e1 e3, m1, m2, m3, m4⟩
    have goT : ∀ (a b : Addr) (us ws : List V) (xs ys : List D), (∀ H, Same I1 H → SqT X.K H a us) → (∀ H, Same I1 H → SqT X.K H b ws) → Reps X.K I1 us xs → Reps X.K I1 ws ys → Qd (zipD xs ys) δ1 .id → R (ItzT X.K a b) H1 := fun a b us ws xs ys ea eb rx ry hq => by
      refine fin _ δ1 .id τ I1 H1 _ _ _ hq s1 k1 S1 rfl (by rw [zipD_length]; exact walkZT) ?_ ?_
      · intro I' δ' σ' H' S' m _; exact ⟨us, ws, ea _ (m.trans S'.le), eb _ (m.trans S'.le), by rw [rx.length, ry.length]⟩
      · rintro i H' u H'' I' δ' σ' S' m _ hi ⟨T, x, y, rfl, hn, rfl, y1, y2⟩
        obtain ⟨z1, e1, e2⟩ := rx.getV (y1 us (ea _ (m.trans S'.le)))
        obtain ⟨z2, e3, e4⟩ := ry.getV (y2 ws (eb _ (m.trans S'.le)))
        obtain ⟨m1, m2, m3, m4⟩ := pairNew S' hn (e2.mono m) (e4.mono m)
        exact ⟨_, _, zipD_get _ _ _ _ _ e1 e3, m1, m2, m3, m4⟩
    match ds, h1, rps with
    | [x, y], h1, .cons r1 (.cons r2 .nil) =>
      obtain ⟨zs, e, hq⟩ := onSome_ok (k := fun xs => Qd xs δ1 .id) h1
      cases r1 <;> first | (cases y <;> cases e; done) | skip
      all_goals cases r2 <;> first | (cases e; done) | skip
      all_goals cases e
      · rename_i a vs ds e1 q1 b vs2 ds2 e2 q2
        exact ⟨_, _, _, _, rfl, .inl ⟨SqL.of (S1.le _ _ e1), SqL.of (S1.le _ _ e2), goL _ _ _ _ _ _ e1 e2 q1 q2 hq⟩⟩
      · rename_i a vs ds e1 q1 b vs2 ds2 e2 q2
        exact ⟨_, _, _, _, rfl, .inr ⟨Same.seqT S1.le e1, Same.seqT S1.le e2, goT _ _ _ _ _ _ (fun H m => Same.seqT m e1) (fun H m => Same.seqT m e2) q1 q2 hq⟩⟩
      · rename_i a vs ds e1 q1 b vs2 ds2 e2 q2
        exact ⟨_, _, _, _, rfl, .inr ⟨Same.seqT S1.le e1, SqT.of (S1.le _ _ e2), goT _ _ _ _ _ _ (fun H m => Same.seqT m e1) (fun H m => SqT.of (m _ _ e2)) q1 q2 hq⟩⟩
      · rename_i a vs ds e1 q1 b vs2 ds2 e2 q2
        exact ⟨_, _, _, _, rfl, .inr ⟨SqT.of (S1.le _ _ e1), Same.seqT S1.le e2, goT _ _ _ _ _ _ (fun H m => SqT.of (m _ _ e1)) (fun H m => Same.seqT m e2) q1 q2 hq⟩⟩
      · rename_i a vs ds e1 q1 b vs2 ds2 e2 q2
        exact ⟨_, _, _, _, rfl, .inr ⟨SqT.of (S1.le _ _ e1), SqT.of (S1.le _ _ e2), goT _ _ _ _ _ _ (fun H m => SqT.of (m _ _ e1)) (fun H m => SqT.of (m _ _ e2)) q1 q2 hq⟩⟩
  · match ds, w with
    | [x, y], w => exact onSome_mono (k := fun xs => Q xs _ .id) (k' := fun xs => Q' xs _ .id) (fun _ => h _ _ _) w
end
end DL
end
section
set_option Elab.async false
set_option linter.all false
set_option maxRecDepth 100000
set_option maxHeartbeats 4000000
namespace DL
open PySem L2
section
variable {K : PySem.W.Frag} {E : Ent} {I I' : Hp} {δ δ' ε : Env} {σ τ τ1 τ2 : St} {H H' : Hp} {v : V} {o : Ow} {d : D} {i : Nat} {pn : Pin}
/-! ### list comprehensions -/
def wipeE : List Nat → Env → Env
  | [], δ => δ
  | v :: vs, δ => (wipeE vs δ).set v .un
def restE : List Nat → Env → Env → Env
  | [], _, δ => δ
  | v :: vs, δ1, δ => (restE vs δ1 δ).set v ((δ1[v]?).getD .un)
def noOwS : Option Slot → Bool
  | some (.ow _ _) => false
  | _ => true
def noOw (vs : List Nat) (δ : Env) : Bool := vs.all fun v => noOwS δ[v]?
theorem wipeE_length : ∀ (vs : List Nat) (δ : Env), (wipeE vs δ).length = δ.length
  | [], _ => rfl
  | v :: vs, δ => by unfold wipeE; rw [List.length_set, wipeE_length]
theorem restE_length : ∀ (vs : List Nat) (δ1 δ : Env), (restE vs δ1 δ).length = δ.length
  | [], _, _ => rfl
  | v :: vs, δ1, δ => by unfold restE; rw [List.length_set, restE_length]
theorem wipeE_out {k : Nat} : ∀ {vs : List Nat} {δ : Env}, k ∉ vs → (wipeE vs δ)[k]? = δ[k]?
  | [], _, _ => rfl
  | v :: vs, δ, h => by
    unfold wipeE
    rw [List.getElem?_set_ne (fun z => h (by simp [z])), wipeE_out fun z => h (List.mem_cons_of_mem _ z)]
theorem wipeE_in {k : Nat} : ∀ {vs : List Nat} {δ : Env}, k ∈ vs → k < δ.length → (wipeE vs δ)[k]? = some .un
  | v :: vs, δ, h, hl => by
    unfold wipeE
    by_cases e : v = k
    · subst e; rw [List.getElem?_set_self (by rw [wipeE_length]; exact hl)]
    · rw [List.getElem?_set_ne e]
      exact wipeE_in ((List.mem_cons.mp h).resolve_left (Ne.symm e)) hl
theorem restE_out {k : Nat} {δ1 : Env} : ∀ {vs : List Nat} {δ : Env}, k ∉ vs → (restE vs δ1 δ)[k]? = δ[k]?
  | [], _, _ => rfl
  | v :: vs, δ, h => by
    unfold restE
    rw [List.getElem?_set_ne (fun z => h (by simp [z])), restE_out fun z => h (List.mem_cons_of_mem _ z)]
theorem restE_in {k : Nat} {δ1 : Env} : ∀ {vs : List Nat} {δ : Env}, k ∈ vs → k < δ.length → (restE vs δ1 δ)[k]? = some ((δ1[k]?).getD .un)
  | v :: vs, δ, h, hl => by
    unfold restE
    by_cases e : v = k
    · subst e; rw [List.getElem?_set_self (by rw [restE_length]; exact hl)]
    · rw [List.getElem?_set_ne e]
      exact restE_in ((List.mem_cons.mp h).resolve_left (Ne.symm e)) hl
theorem wipe_eq {vs : List Nat} {σ σ2 : St} (h1 : σ2.length = σ.length) (h2 : ∀ i, i ∉ vs → σ2[i]? = (wipe σ vs)[i]?) : wipe σ2 vs = wipe σ vs := by
  apply List.ext_getElem?
  intro k
  by_cases hk : k ∈ vs
  · have inn : ∀ (vs : List Nat) (σ : St), k ∈ vs → (wipe σ vs)[k]? = if k < σ.length then some none else none := fun vs => by
      induction vs with
      | nil => intro σ h; cases h
      | cons v r ih =>
        intro σ h
        unfold wipe
        by_cases e : v = k
        · subst e
          by_cases hl : v < σ.length
          · rw [List.getElem?_set_self (by rw [wipe_length]; exact hl), if_pos hl]
          · rw [List.getElem?_eq_none (by simp [wipe_length]; omega), if_neg hl]
        · rw [List.getElem?_set_ne e]
          exact ih σ ((List.mem_cons.mp h).resolve_left (Ne.symm e))
    rw [inn vs σ2 hk, inn vs σ hk, h1]
  · rw [wipe_out hk, h2 k hk]
end

section
variable {X : Cx} {a b c e tg iter elt : Expr} {es rest ifs : List Expr} {q q1 q2 q3 : Bool} {ra rb rc re : RE} {rt : RT} {rs : RA} {rI : RI} {g : RG} {ts : List Nat} {pos p tpos : Pos}
structure TrTs (X : Cx) (es : List Expr) (q : Bool) (r : RT) : Prop where
  pt : PTs X es (preT X q r)
  mono : ∀ {δ : Env} {Q Q' : Bool → Env → Prop}, (∀ x δ', Q x δ' → Q' x δ') → r δ Q → r δ Q'
def rYes : RT := fun δ Q => Q true δ
theorem tts_nil : TrTs X [] true rYes := ⟨⟨fun pins s σ H Q I ⟨E, I1, δ, τ, S, h⟩ => pts_nil.run pins s σ H Q I (h I1 H (L2.Same.refl _) (fun _ => L2.Same.refl _) S)⟩, fun h => h _ _⟩
theorem tts_one {rt : RT} (h : TrT X c q rt) : TrTs X [c] q rt := ⟨pts_one h.pt, h.mono⟩
/-- the turns: the list that grows stands in the last place -/
def goLc (n m : Nat) (vs : List Nat) (g : RG) (rt : RT) (re : RE) (fin : List D → Env → Prop) : List D → List D → Env → Prop
  | [], acc, δ => fin acc δ
  | x :: xs, acc, δ => g x δ fun δ1 => rt δ1 fun b δ2 =>
    if b = true then re δ2 fun y δ3 => asIm y δ3 fun d δ4 => Tail n δ δ4 ∧ goLc n m vs g rt re fin xs (acc ++ [d]) (wipeE vs (δ4.set m (.ow .fresh (.ob (.lst (acc ++ [d]))))))
    else Tail n δ δ2 ∧ goLc n m vs g rt re fin xs acc (wipeE vs δ2)
def rLc (n : Nat) (vs : List Nat) (rI : RI) (g : RG) (rt : RT) (re : RE) : RE := fun δ Q => rI δ fun xs δ1 b => noOw vs δ1 = true ∧ xs.length ≤ sizeLine ∧
  goLc n δ1.length vs g rt re (fun acc δ' => bkE b (fun δ2 => Q (.tm (.ob (.lst acc))) δ2) (restE vs δ1 δ'.dropLast)) xs [] (wipeE vs (δ1 ++ [.ow .fresh (.ob (.lst []))]))
theorem goLc_mono {n m : Nat} {vs : List Nat} (hg : ∀ (d : D) (δ : Env) (Q Q' : Env → Prop), (∀ δ', Q δ' → Q' δ') → g d δ Q → g d δ Q') (ht : ∀ (δ : Env) (Q Q' : Bool → Env → Prop), (∀ x δ', Q x δ' → Q' x δ') → rt δ Q → rt δ Q')
    (he : ∀ (δ : Env) (Q Q' : Rd → Env → Prop), (∀ x δ', Q x δ' → Q' x δ') → re δ Q → re δ Q') {fin fin' : List D → Env → Prop} (h : ∀ a δ, fin a δ → fin' a δ) : ∀ {xs acc : List D} {δ : Env}, goLc n m vs g rt re fin xs acc δ → goLc n m vs g rt re fin' xs acc δ
  | [], _, _, w => h _ _ w
  | x :: xs, acc, δ, w => by
    unfold goLc at w ⊢
    refine hg _ _ _ _ (fun δ1 w => ht _ _ _ (fun b δ2 w => ?_) w) w
    cases b with
    | true => exact he _ _ _ (fun y δ3 w => asIm_mono (fun d δ4 w => ⟨w.1, goLc_mono hg ht he h w.2⟩) w) w
    | false => exact ⟨w.1, goLc_mono hg ht he h w.2⟩
theorem tail_get {n k : Nat} {δ1 δ' : Env} (T : Tail n δ1 δ') (h : n ≤ k) : δ'[k]? = δ1[k]? := by
  have e1 : (δ'.drop n)[k - n]? = δ'[k]? := by rw [List.getElem?_drop]; congr 1; omega
  have e2 : (δ1.drop n)[k - n]? = δ1[k]? := by rw [List.getElem?_drop]; congr 1; omega
  have T' : δ'.drop n = δ1.drop n := T
  rw [← e1, ← e2, T']
theorem lc_ok {n : Nat} {scope : Scope} {own : List (Str × Nat)} {vs : List Nat} (hc : X.calm = true) (hN : X.N.Nodup) (hi : TrI X tg iter q1 rI) (ok : BlkOk X.N X.env.scope scope own)
    (hg : ∀ (s : Shared) (H : Hp) (C : Addr) (cl : List (Str × Addr)) (fp : List Addr), TrG (X.blk s H scope (compEnvC scope cl C X.env) fp) tg ts g)
    (ht : ∀ (s : Shared) (H : Hp) (C : Addr) (cl : List (Str × Addr)) (fp : List Addr), TrTs (X.blk s H scope (compEnvC scope cl C X.env) fp) ifs q2 rt)
    (he : ∀ (s : Shared) (H : Hp) (C : Addr) (cl : List (Str × Addr)) (fp : List Addr), TrE (X.blk s H scope (compEnvC scope cl C X.env) fp) elt q3 re)
    (hn : X.N.length = n := by rfl) (hvs : own.map (·.2) = vs := by rfl) (hts : ∀ i ∈ ts, i ∈ vs := by decide) (hlt : ∀ i ∈ vs, i < n := by decide) (hs : ∀ x, foldedSetIterable iter X.env x = pure x := by intro _; rfl) :
    ∃ wi, PI X tg iter wi ∧ (∀ (σ : St) (H : Hp) (Q : VK), σ.length = X.N.length → preE X (q1 && (q2 && q3)) (rLc n vs rI g rt re) σ H Q → tLc wi (preG X ts g) (preT X q2 rt) (preE X q3 re) (own.map (·.2)) σ H Q) ∧
      ∀ {δ : Env} {Q Q' : Rd → Env → Prop}, (∀ x δ', Q x δ' → Q' x δ') → rLc n vs rI g rt re δ Q → rLc n vs rI g rt re δ Q' := by
  subst hn hvs
  obtain ⟨wi, hPI, hrun⟩ := hi.ex
  have g0 := hg X.s_0 (fun _ => none) 0 [] []
  have t0 := ht X.s_0 (fun _ => none) 0 [] []
  have e0 := he X.s_0 (fun _ => none) 0 [] []
  refine ⟨wi, hPI, fun σ H Q hl ⟨E, I, δ, τ, S, h⟩ => ?_,
    fun {δ Q Q'} h => hi.mono fun _ _ _ w => ⟨w.1, w.2.1, goLc_mono (g := g) (rt := rt) (re := re) (fun _ _ _ _ => g0.mono) (fun _ _ _ => t0.mono) (fun _ _ _ => e0.mono) (fun _ _ w => bkE_mono (fun _ => h _ _) w) w.2.2⟩⟩
  refine hrun σ H _ E I δ τ _ hl S h fun xs δ1 b τ1 I1 H1 J G Y hq s1 k1 S1 B w stay item => ?_
  obtain ⟨hno, hsz, hgo⟩ := hq
  intro D hD
  have l1 : δ1.length = X.N.length + τ1.length := by have := S1.len; rw [← this, List.length_append, hl]
  have lw : (wipe σ (own.map (·.2))).length = X.N.length := by rw [wipe_length]; exact hl
  -- the state with the new list on top
  have P0 : Sta X.K (E.at I1) I1 (δ1 ++ [.ow .fresh (.ob (.lst []))]) (σ ++ τ1 ++ [some (.ref D)]) (upd H1 D (.lst [])) :=
    S1.up.push (same_upd hD) (L' := [D]) (by intro a q; rw [List.mem_singleton.mp q]; exact hD) (by simp) (.ob (.mk upd_same (.lst .nil)))
  -- the names of the comprehension forgotten
  have wiped : ∀ {I' : Hp} {δ' : Env} {σ2 : St} {H' : Hp}, σ2.length = X.N.length → (∀ i, i ∉ own.map (·.2) → σ2[i]? = (wipe σ (own.map (·.2)))[i]?) → Sta X.K (E.at I1) I' δ' (σ2 ++ (τ1 ++ [some (.ref D)])) H' →
      Sta X.K (E.at I1) I' (wipeE (own.map (·.2)) δ') (wipe σ (own.map (·.2)) ++ (τ1 ++ [some (.ref D)])) H' := fun {I' δ' σ2 H'} hl2 hb S' => by
    have hlen := S'.len
    refine S'.remap (by have := hlen; simp only [List.length_append] at this ⊢; rw [wipeE_length]; omega) fun k => ?_
    by_cases hk : k ∈ own.map (·.2)
    · exact .inr (.inr (.inl (wipeE_in hk (by have := hlt k hk; rw [← hlen, List.length_append, hl2]; omega))))
    · refine .inl ⟨wipeE_out hk, ?_⟩
      by_cases hk2 : k < X.N.length
      · rw [gl (l := wipe σ (own.map (·.2))) (by rw [lw]; exact hk2), gl (l := σ2) (by rw [hl2]; exact hk2), hb k hk]
      · rw [gr (l := wipe σ (own.map (·.2))) (by rw [lw]; omega), gr (l := σ2) (by rw [hl2]; omega), hl2, lw]
  have above : ∀ {I' : Hp} {δ' : Env} {H' : Hp}, (∀ k : Nat, X.N.length ≤ k → k < δ1.length → δ'[k]? = δ1[k]?) → Above (X.N.length + τ.length) δ1 δ' (σ ++ τ1) (wipe σ (own.map (·.2)) ++ (τ1 ++ [some (.ref D)])) := fun {I' δ' H'} ht k hk hk2 => by
    have hk : X.N.length ≤ k := by omega
    have hk3 : k < δ1.length := by rw [l1]; rw [List.length_append, hl] at hk2; exact hk2
    refine ⟨ht k hk hk3, ?_⟩
    rw [gr (l := wipe σ (own.map (·.2))) (by rw [lw]; omega), gr (l := σ) (by rw [hl]; omega), hl, lw, gl (l := τ1) (by omega)]
  refine lc_it w (fun i Hh => ∃ I' δ' acc, Sta X.K (E.at I1) I' δ' (wipe σ (own.map (·.2)) ++ (τ1 ++ [some (.ref D)])) Hh ∧ ((q1 && (q2 && q3)) = true → Same H1 Hh) ∧ δ'.length = δ1.length + 1 ∧ δ'[δ1.length]? = some (.ow .fresh (.ob (.lst acc))) ∧
    (∀ k : Nat, X.N.length ≤ k → k < δ1.length → δ'[k]? = δ1[k]?) ∧ acc.length ≤ i ∧
    goLc X.N.length δ1.length (own.map (·.2)) g rt re (fun acc δ' => bkE b (fun δ2 => ∀ v I' H', Same I I' → ((q1 && (q2 && q3)) = true → Same H H') → RdSt X.K E I' δ2 (σ ++ τ) H' v (.tm (.ob (.lst acc))) → Q v H') (restE (own.map (·.2)) δ1 δ'.dropLast)) (xs.drop i) acc δ') ?_ ?_ ?_ ?_
  · refine ⟨I1, wipeE (own.map (·.2)) (δ1 ++ [.ow .fresh (.ob (.lst []))]), [], ?_, fun _ => same_upd hD, by rw [wipeE_length]; simp, ?_, fun k hk hk2 => ?_, Nat.le_refl _, by simpa using hgo⟩
    · refine wiped hl (fun i hi => (wipe_out hi).symm) ?_
      rw [← List.append_assoc]; exact P0
    · rw [wipeE_out (fun z => by have := hlt _ z; omega), gr (Nat.le_refl _)]; simp
    · rw [wipeE_out (fun z => by have := hlt _ z; omega), gl hk2]
  · rintro i Hh hi ⟨I', δ', acc, S', _, _, _, ht, _⟩
    exact stay I' δ' _ Hh (S1.down S') S'.i0 (above (I' := I') (H' := Hh) ht)
  · rintro i x Hh H' hi ⟨I', δ', acc, S', kS, hlen, hacc, htl, hal, hgo'⟩ y
    obtain ⟨I2, d, e, s2, s3, S2, rp⟩ := item i Hh x H' I' δ' _ (S1.down S') S'.i0 (above (I' := I') (H' := Hh) htl) hi y
    have S2' : Sta X.K (E.at I1) I2 δ' (wipe σ (own.map (·.2)) ++ (τ1 ++ [some (.ref D)])) H' := ⟨S2.le, S'.i0.trans s2, fun a q => (S2.ix a q).trans (S1.ix a q).symm, S2.th, S2.fr, S2.len, S2.own⟩
    have ed : xs.drop i = d :: xs.drop (i + 1) := by
      rw [List.drop_eq_getElem_cons hi]
      congr 1
      rw [List.getElem?_eq_getElem hi] at e
      exact Option.some.inj e
    rw [ed] at hgo'
    unfold goLc at hgo'
    refine ⟨E.at I1, I2, δ', τ1 ++ [some (.ref D)], d, S2', rp, g0.mono (fun δ2 h2 σ2 b2 S3 => ?_) hgo'⟩
    have hl2 : σ2.length = X.N.length := b2.1.trans lw
    have hb2 : ∀ i, i ∉ own.map (·.2) → σ2[i]? = (wipe σ (own.map (·.2)))[i]? := fun i hi => b2.2 i fun z => hi (hts i z)
    refine ⟨?_, E.at I1, I2, δ2, τ1 ++ [some (.ref D)], S3, t0.mono (fun bb δ3 h3 I3 H3 s4 k4 S4 => ?_) h2⟩
    · have w1 := wipe_eq (σ := wipe σ (own.map (·.2))) (vs := own.map (·.2)) b2.1 fun i hi => by rw [wipe_out hi]; exact hb2 i hi
      rw [w1]
      exact wipe_eq (by rw [wipe_length]) fun i hi => rfl
    · have hk0 : (q1 && (q2 && q3)) = true → Same H1 H3 := fun z => ((kS z).trans s3).trans (k4 (and_q (and_q z).2).1)
      cases bb with
      | false =>
        obtain ⟨T3, g3⟩ := h3
        refine ⟨I3, wipeE (own.map (·.2)) δ3, acc, wiped hl2 hb2 S4, hk0, ?_, ?_, fun k hk hk2 => ?_, by omega, g3⟩
        · have := S4.len; rw [wipeE_length, ← this, l1]; simp [hl2]; omega
        · rw [wipeE_out (fun z => by have := hlt _ z; omega), tail_get T3 (by omega)]; exact hacc
        · rw [wipeE_out (fun z => by have := hlt _ z; omega), tail_get T3 hk]; exact htl k hk hk2
      | true =>
        refine ⟨E.at I1, I3, δ3, τ1 ++ [some (.ref D)], S4, e0.mono (fun z δ4 h4 v I4 H4 s5 k5 st => ?_) h3⟩
        obtain ⟨I5, dd, δ5, s6, S5, rp5, T5, g5⟩ := asIm_ok st h4
        have h5 : δ5[δ1.length]? = some (.ow .fresh (.ob (.lst acc))) := by rw [tail_get T5 (by omega)]; exact hacc
        obtain ⟨u, L, w1, w2, nd, LI, upd'⟩ := S5.mut h5
        have pos : (σ2 ++ (τ1 ++ [some (V.ref D)]))[δ1.length]? = some (some (.ref D)) := by
          rw [gr (by omega), gr (by omega)]
          have : δ1.length - σ2.length - τ1.length = 0 := by omega
          rw [this]; rfl
        rw [pos] at w1; cases w1
        cases w2 with
        | ob w2 => cases w2 with
          | mk hh r => cases r with
            | lst r =>
              rename_i vs2
              have hlv := r.length
              refine ⟨vs2, hh, by omega, ?_⟩
              have S6 := upd' (upd H4 D (.lst (vs2 ++ [v]))) (.ob (.lst (acc ++ [dd]))) [D] (.ob (.mk upd_same (.lst (r.append (.cons rp5 .nil))))) (by simp) (fun a q => .inl q)
                (fun a q _ => upd_ne (by simpa using q)) (fun a q => by by_cases z : a = D; rw [z, upd_same]; simp; rw [upd_ne z]; exact q)
              refine ⟨I5, wipeE (own.map (·.2)) (δ5.set δ1.length (.ow .fresh (.ob (.lst (acc ++ [dd]))))), acc ++ [dd], wiped hl2 hb2 S6, fun z => ?_, ?_, ?_, fun k hk hk2 => ?_, by simp; omega, g5⟩
              · intro bb oo eb
                have hne : bb ≠ D := by intro zz; subst zz; rw [hD] at eb; cases eb
                rw [upd_ne hne]
                exact k5 (and_q (and_q z).2).2 _ _ (hk0 z _ _ eb)
              · have := S5.len; rw [wipeE_length, List.length_set, ← this, l1]; simp [hl2]; omega
              · rw [wipeE_out (fun z => by have := hlt _ z; omega), List.getElem?_set_self (lt_of_get h5)]
              · rw [wipeE_out (fun z => by have := hlt _ z; omega), List.getElem?_set_ne (by omega), tail_get T5 hk]; exact htl k hk hk2
  · rintro Hh ⟨I', δ', acc, S', kS, hlen, hacc, htl, hal, hgo'⟩
    rw [List.drop_length] at hgo'
    have hd : δ' = δ'.dropLast ++ [.ow .fresh (.ob (.lst acc))] := by
      have hne : δ' ≠ [] := by intro z; rw [z] at hlen; simp at hlen
      have e1 := List.dropLast_concat_getLast hne
      have e2 : δ'.getLast hne = .ow .fresh (.ob (.lst acc)) := by
        have : δ'[δ'.length - 1]? = some (.ow .fresh (.ob (.lst acc))) := by rw [hlen]; exact hacc
        rw [List.getLast_eq_getElem]
        rw [List.getElem?_eq_getElem (by omega)] at this
        exact Option.some.inj this
      rw [e2] at e1
      exact e1.symm
    have hdl : δ'.dropLast.length = δ1.length := by rw [List.length_dropLast, hlen]; rfl
    -- the names again as they were
    have SR : Sta X.K (E.at I1) I' (restE (own.map (·.2)) δ1 δ'.dropLast ++ [.ow .fresh (.ob (.lst acc))]) (σ ++ τ1 ++ [some (.ref D)]) Hh := by
      have hlS := S'.len
      refine S'.remap (by simp [restE_length, hdl, l1, hl]; omega) fun k => ?_
      by_cases hk : k ∈ own.map (·.2)
      · have hkn := hlt k hk
        have e1 : (restE (own.map (·.2)) δ1 δ'.dropLast ++ [Slot.ow .fresh (.ob (.lst acc))])[k]? = some ((δ1[k]?).getD .un) := by
          rw [gl (by rw [restE_length]; omega), restE_in hk (by omega)]
        rw [e1]
        have e2 : (σ ++ τ1 ++ [some (V.ref D)])[k]? = (σ ++ τ1)[k]? := by rw [gl (by simp; omega)]
        cases z : δ1[k]? with
        | none => exact .inr (.inr (.inl rfl))
        | some sl =>
          have hno' : noOwS δ1[k]? = true := List.all_eq_true.mp hno k hk
          rw [z] at hno'
          cases sl with
          | un => exact .inr (.inr (.inl rfl))
          | im dd =>
            obtain ⟨u, g1, g2⟩ := S1.im_get z
            exact .inr (.inr (.inr (.inl ⟨dd, u, rfl, by rw [e2]; exact g1, g2.mono S'.i0⟩)))
          | ow pp oo => cases hno'
          | vl u => exact .inr (.inr (.inr (.inr ⟨u, rfl, by rw [e2]; exact S1.vl_get z⟩)))
      · refine .inl ⟨?_, ?_⟩
        · by_cases hk2 : k < δ1.length
          · rw [gl (by rw [restE_length]; omega), restE_out hk]
            conv => rhs; rw [hd]
            rw [gl (by omega)]
          · conv => rhs; rw [hd]
            rw [gr (by rw [restE_length]; omega), gr (by omega), restE_length]
        · by_cases hk2 : k < X.N.length
          · rw [List.append_assoc, gl (l := wipe σ (own.map (·.2))) (by rw [lw]; exact hk2), gl (l := σ) (by rw [hl]; exact hk2), wipe_out hk]
          · rw [List.append_assoc, gr (l := wipe σ (own.map (·.2))) (by rw [lw]; omega), gr (l := σ) (by rw [hl]; omega), hl, lw]
    have T : Tail X.N.length δ1 (restE (own.map (·.2)) δ1 δ'.dropLast) := by
      apply List.ext_getElem?
      intro k
      rw [List.getElem?_drop, List.getElem?_drop]
      by_cases hk2 : X.N.length + k < δ1.length
      · rw [restE_out (fun z => by have := hlt _ z; omega), ← htl _ (by omega) hk2]
        conv => rhs; rw [hd]
        rw [gl (by omega)]
      · rw [List.getElem?_eq_none (by rw [restE_length]; omega), List.getElem?_eq_none (by omega)]
    obtain ⟨δ4, hq4, S4, _⟩ := bk_ok (ε := [.ow .fresh (.ob (.lst acc))]) (τ2 := [some (.ref D)]) B T (Nat.le_add_right _ _) hl l1 (S1.down SR) (by rw [restE_length, hdl, l1]) hgo'
    exact hq4 (.ref D) I' Hh (s1.trans S'.i0) (fun z => (k1 (and_q z).1).trans (kS z)) S4
theorem tr_lc {n : Nat} {scope : Scope} {own : List (Str × Nat)} {vs : List Nat} (hc : X.calm = true) (hN : X.N.Nodup) (hi : TrI X tg iter q1 rI) (ok : BlkOk X.N X.env.scope scope own)
    (hg : ∀ (s : Shared) (H : Hp) (C : Addr) (cl : List (Str × Addr)) (fp : List Addr), TrG (X.blk s H scope (compEnvC scope cl C X.env) fp) tg ts g)
    (ht : ∀ (s : Shared) (H : Hp) (C : Addr) (cl : List (Str × Addr)) (fp : List Addr), TrTs (X.blk s H scope (compEnvC scope cl C X.env) fp) ifs q2 rt)
    (he : ∀ (s : Shared) (H : Hp) (C : Addr) (cl : List (Str × Addr)) (fp : List Addr), TrE (X.blk s H scope (compEnvC scope cl C X.env) fp) elt q3 re)
    (hn : X.N.length = n := by rfl) (hvs : own.map (·.2) = vs := by rfl) (hts : ∀ i ∈ ts, i ∈ vs := by decide) (hlt : ∀ i ∈ vs, i < n := by decide) (hs : ∀ x, foldedSetIterable iter X.env x = pure x := by intro _; rfl) :
    TrE X (.ListComp elt [⟨tg, iter, ifs, 0⟩] scope pos) (q1 && (q2 && q3)) (rLc n vs rI g rt re) := by
  obtain ⟨wi, hPI, run, mono⟩ := lc_ok hc hN hi ok hg ht he hn hvs hts hlt hs
  exact ⟨weakE (pe_lc (g := preG X ts g) (tt := preT X q2 rt) (te := preE X q3 re) hc hN hPI ok (fun s H C cl fp => (hg s H C cl fp).pg) (fun s H C cl fp => (ht s H C cl fp).pt) (fun s H C cl fp => (he s H C cl fp).pe) hs) run, mono⟩
/-- y = [..] -/
theorem ts_setLc {i : Nat} {y : Str} {py spos : Pos} (hy : X.N[i]? = some y) (hyl : X.env.scope.names.lookup y = some .local) {n : Nat} {scope : Scope} {own : List (Str × Nat)} {vs : List Nat} (hc : X.calm = true) (hN : X.N.Nodup) (hi : TrI X tg iter q1 rI) (ok : BlkOk X.N X.env.scope scope own)
    (hg : ∀ (s : Shared) (H : Hp) (C : Addr) (cl : List (Str × Addr)) (fp : List Addr), TrG (X.blk s H scope (compEnvC scope cl C X.env) fp) tg ts g)
    (ht : ∀ (s : Shared) (H : Hp) (C : Addr) (cl : List (Str × Addr)) (fp : List Addr), TrTs (X.blk s H scope (compEnvC scope cl C X.env) fp) ifs q2 rt)
    (he : ∀ (s : Shared) (H : Hp) (C : Addr) (cl : List (Str × Addr)) (fp : List Addr), TrE (X.blk s H scope (compEnvC scope cl C X.env) fp) elt q3 re)
    (hn : X.N.length = n := by rfl) (hvs : own.map (·.2) = vs := by rfl) (hts : ∀ i ∈ ts, i ∈ vs := by decide) (hlt : ∀ i ∈ vs, i < n := by decide) (hs : ∀ x, foldedSetIterable iter X.env x = pure x := by intro _; rfl)
    (hsw : swapsWith (.ListComp elt [⟨tg, iter, ifs, 0⟩] scope pos) (some (.Name y py)) spos.line X.env = pure true := by exact sw_true rfl rfl rfl rfl) :
    TrS X (.Assign [.Name y py] (.ListComp elt [⟨tg, iter, ifs, 0⟩] scope pos) spos) (rSet i (rLc n vs rI g rt re)) := by
  obtain ⟨wi, hPI, run, mono⟩ := lc_ok hc hN hi ok hg ht he hn hvs hts hlt hs
  refine ⟨weakS (ps_setLc (g := preG X ts g) (tt := preT X q2 rt) (te := preE X q3 re) hc hN hy hyl hsw hPI ok (fun s H C cl fp => (hg s H C cl fp).pg) (fun s H C cl fp => (ht s H C cl fp).pt) (fun s H C cl fp => (he s H C cl fp).pe) hs) fun D σ H hl ⟨E, I, δ, τ, De, S, h, k⟩ => ?_, fun k => mono fun _ _ => setR_mono k.nx⟩
  refine run σ H _ hl ⟨E, I, δ, τ, S, mono (fun x δ1 h1 v I1 H1 s1 k1 st => ?_) h⟩
  obtain ⟨I2, δ2, s2, S2, h2⟩ := setR_ok (by rw [hl]; exact lt_of_get hy) st h1
  exact k.nx _ _ _ _ (by rw [List.length_set]; exact hl) S2 h2
end
end DL
end
section
set_option Elab.async false
set_option linter.all false
set_option maxRecDepth 100000
set_option maxHeartbeats 4000000
namespace DL
open PySem L2

section
variable {K : PySem.W.Frag} {E : Ent} {I I' : Hp} {δ δ' ε : Env} {σ τ τ1 τ2 : St} {H H' : Hp} {v : V} {o : Ow} {d : D} {i : Nat} {pn : Pin}
/-- places may be taken from elsewhere -/
theorem Sta.pick {δ2 : Env} {σ2 : St} (S : Sta K E I δ σ H) (f : Nat → Nat) (inj : ∀ j k, f j = f k → j = k) (hl : σ2.length = δ2.length)
    (h : ∀ k : Nat, (δ2[k]? = δ[f k]? ∧ σ2[k]? = σ[f k]?) ∨ δ2[k]? = none ∨ δ2[k]? = some .un ∨ (∃ d v, δ2[k]? = some (.im d) ∧ σ2[k]? = some (some v) ∧ Rep K I v d) ∨ ∃ v, δ2[k]? = some (.vl v) ∧ σ2[k]? = some (some v)) : Sta K E I δ2 σ2 H := by
  obtain ⟨le, i0, ix, th, fr, len, L, h1, h2, h3, h4⟩ := S
  have ch : ∃ L2 : Nat → List Addr, ∀ k, SlotOk K E H I σ2[k]? δ2[k]? (L2 k) ∧ (L2 k = [] ∨ L2 k = L (f k)) := by
    have each : ∀ k, ∃ M, SlotOk K E H I σ2[k]? δ2[k]? M ∧ (M = [] ∨ M = L (f k)) := fun k => by
      rcases h k with ⟨e1, e2⟩ | e | e | ⟨d, v, e1, e2, r⟩ | ⟨v, e1, e2⟩
      · exact ⟨L (f k), by rw [e1, e2]; exact h1 (f k), .inr rfl⟩
      · exact ⟨[], by rw [e]; rfl, .inl rfl⟩
      · exact ⟨[], by rw [e]; rfl, .inl rfl⟩
      · exact ⟨[], by rw [e1]; exact ⟨rfl, v, e2, r⟩, .inl rfl⟩
      · exact ⟨[], by rw [e1]; exact ⟨rfl, e2⟩, .inl rfl⟩
    exact ⟨fun k => (each k).choose, fun k => (each k).choose_spec⟩
  obtain ⟨L2, hL⟩ := ch
  have sub : ∀ k a, a ∈ L2 k → a ∈ L (f k) := fun k a q => by
    rcases (hL k).2 with z | z
    · rw [z] at q; simp at q
    · rw [z] at q; exact q
  refine ⟨le, i0, ix, th, fr, hl, L2, fun k => (hL k).1, fun k => ?_, fun i j a q1 q2 => inj _ _ (h3 (f i) (f j) a (sub i a q1) (sub j a q2)), fun k a q => h4 (f k) a (sub k a q)⟩
  rcases (hL k).2 with z | z
  · rw [z]; simp
  · rw [z]; exact h2 (f k)

/-! ### arguments seen from the callee -/
def argS : Nat → List Slot → List Slot
  | _, [] => []
  | k, .ow _ o :: as => .ow (.arg k) o :: argS (k + 1) as
  | k, .im d :: as => .im d :: argS (k + 1) as
  | k, _ :: as => .un :: argS (k + 1) as
theorem argS_length : ∀ (k : Nat) (as : List Slot), (argS k as).length = as.length
  | _, [] => rfl
  | k, .ow _ o :: as => congrArg (· + 1) (argS_length _ as)
  | k, .im d :: as => congrArg (· + 1) (argS_length _ as)
  | k, .un :: as => congrArg (· + 1) (argS_length _ as)
  | k, .vl _ :: as => congrArg (· + 1) (argS_length _ as)
def toArg (k : Nat) : Slot → Slot
  | .ow _ o => .ow (.arg k) o
  | .im d => .im d
  | _ => .un
theorem argS_get : ∀ {n : Nat} {as : List Slot} {k : Nat}, (argS n as)[k]? = (as[k]?).map (toArg (n + k))
  | n, [], k => by simp [argS]
  | n, s :: as, 0 => by cases s <;> simp [argS, toArg]
  | n, s :: as, k + 1 => by
    have : (argS n (s :: as))[k + 1]? = (argS (n + 1) as)[k]? := by cases s <;> simp [argS]
    rw [this, argS_get]
    simp [Nat.add_assoc, Nat.add_comm 1 k]
/-- behind the call: the caller's pins again -/
inductive Join : List Slot → List Slot → List Slot → Prop
  | nil : Join [] [] []
  | im {d : D} {as bs cs : List Slot} {s : Slot} : Join as bs cs → Join (.im d :: as) (s :: bs) (.im d :: cs)
  | ow {p : Pin} {o o' : Ow} {k : Nat} {as bs cs : List Slot} : Join as bs cs → Join (.ow p o :: as) (.ow (.arg k) o' :: bs) (.ow p o' :: cs)
theorem Join.get {as bs cs : List Slot} (J : Join as bs cs) : ∀ (k : Nat), (∃ d, as[k]? = some (.im d) ∧ cs[k]? = some (.im d)) ∨ (∃ p o o' j, as[k]? = some (.ow p o) ∧ bs[k]? = some (.ow (.arg j) o') ∧ cs[k]? = some (.ow p o')) ∨ (as[k]? = none ∧ cs[k]? = none) := by
  induction J with
  | nil => intro k; exact .inr (.inr ⟨by simp, by simp⟩)
  | im J ih => intro k; cases k with
    | zero => exact .inl ⟨_, rfl, rfl⟩
    | succ k => simpa using ih k
  | ow J ih => intro k; cases k with
    | zero => exact .inr (.inl ⟨_, _, _, _, rfl, rfl, rfl⟩)
    | succ k => simpa using ih k
theorem Join.len {as bs cs : List Slot} (J : Join as bs cs) : cs.length = as.length ∧ bs.length = as.length := by
  induction J with
  | nil => exact ⟨rfl, rfl⟩
  | im J ih => simpa using ih
  | ow J ih => simpa using ih
/-- what a def gives back -/
def ResOk : Slot → Prop
  | .im _ => True
  | .ow .fresh _ => True
  | _ => False
theorem big_nil {L : Nat → List Addr} (h1 : ∀ i, SlotOk K E H I σ[i]? δ[i]? (L i)) {k : Nat} (hk : δ.length ≤ k) : L k = [] := by
  have := h1 k
  rw [List.getElem?_eq_none hk] at this
  exact this
/-- a call: what the callee sees, and what is behind it -/
theorem Sta.callee {as : List Slot} {vs : List V} (S : Sta K E I (δ ++ as) (σ ++ vs.map some) H) (hl : σ.length = δ.length) (hno : ∀ s ∈ as, ∃ d p o, s = .im d ∨ s = .ow p o) : ∃ L0, Sta K ⟨I, H, L0, vs⟩ I (argS 0 as) (vs.map some) H ∧
    ((∀ s ∈ as, ∃ d, s = .im d) → ∀ k, L0 k = []) ∧
    ∀ (bs cs : List Slot) (s : Slot) (v : V) (I' H' : Hp), Join as bs cs → ResOk s → Sta K ⟨I, H, L0, vs⟩ I' (bs ++ [s]) (vs.map some ++ [some v]) H' → Sta K E I' (δ ++ (cs ++ [s])) (σ ++ (vs.map some ++ [some v])) H' := by
  obtain ⟨le, i0, ix, th, fr, len, L, h1, h2, h3, h4⟩ := S
  have hvl : vs.length = as.length := by simp at len; omega
  have ga : ∀ k, (δ ++ as)[δ.length + k]? = as[k]? := fun k => by rw [gr (by omega)]; congr 1; omega
  have gs : ∀ k, (σ ++ vs.map some)[δ.length + k]? = (vs.map some)[k]? := fun k => by rw [gr (by omega)]; congr 1; omega
  have Hh : ∀ i a, a ∈ L i → H a ≠ none := fun i a q => (h1 i).has a q
  refine ⟨fun k => L (δ.length + k), ⟨le, L2.Same.refl _, fun _ _ => rfl, fun _ h => h, fun _ _ h _ => h, by rw [argS_length, List.length_map, hvl], fun k => L (δ.length + k), fun k => ?_, fun k => h2 _, fun j k a q1 q2 => by have := h3 _ _ a q1 q2; omega, fun k a q => h4 _ a q⟩, fun him k => ?_, ?_⟩
  · have h := h1 (δ.length + k)
    rw [ga, gs] at h
    rw [argS_get, Nat.zero_add]
    cases e : as[k]? with
    | none => rw [e] at h; exact h
    | some s =>
      rw [e] at h
      obtain ⟨d, p, o, hs⟩ := hno s (List.mem_of_getElem? e)
      rcases hs with rfl | rfl
      · exact h
      · obtain ⟨v, e1, e2, e3⟩ := h
        refine ⟨v, e1, e2, ?_, fun a q => .inr q⟩
        simpa [List.getElem?_map] using e1
  · have h := h1 (δ.length + k)
    rw [ga, gs] at h
    cases e : as[k]? with
    | none => rw [e] at h; exact h
    | some s =>
      rw [e] at h
      obtain ⟨d, rfl⟩ := him s (List.mem_of_getElem? e)
      exact h.1
  · intro bs cs s v I' H' J hs Sc
    classical
    obtain ⟨le', i0', ix', th', fr', len', M, m1, m2, m3, m4⟩ := Sc
    obtain ⟨jl1, jl2⟩ := J.len
    have mb : ∀ k, k < as.length → (bs ++ [s])[k]? = bs[k]? := fun k hk => gl (by omega)
    have mv : ∀ k, k < as.length → (vs.map some ++ [some v])[k]? = (vs.map some)[k]? := fun k hk => gl (by simp; omega)
    have gt2 : (vs.map some ++ [some v])[as.length]? = some (some v) := by
      have e : (vs.map some).length = as.length := by simp [hvl]
      rw [gr (Nat.le_of_eq e), e, Nat.sub_self]; rfl
    have gt3 : (bs ++ [s])[as.length]? = some s := by rw [gr (Nat.le_of_eq jl2), jl2, Nat.sub_self]; rfl
    -- what the callee holds of its arguments
    have hM : ∀ k a, a ∈ M k → k ≤ as.length := fun k a q => by
      rcases Nat.lt_or_ge as.length k with z | z
      · have := m1 k
        rw [List.getElem?_eq_none (l := bs ++ [s]) (by simp; omega)] at this
        rw [show M k = [] from this] at q; cases q
      · exact z
    -- our lists
    let N : Nat → List Addr := fun i => if i < δ.length then L i else if ∃ p o, (as ++ [s])[i - δ.length]? = some (.ow p o) then M (i - δ.length) else []
    have Nlo : ∀ i, i < δ.length → N i = L i := fun i h => if_pos h
    have Nhi : ∀ i a, ¬ i < δ.length → a ∈ N i → a ∈ M (i - δ.length) := fun i a h q => by
      have e : N i = if ∃ p o, (as ++ [s])[i - δ.length]? = some (.ow p o) then M (i - δ.length) else [] := if_neg h
      rw [e] at q
      split at q
      · exact q
      · cases q
    -- the low ones are untouched
    have low : ∀ i a, i < δ.length → a ∈ L i → H' a = H a ∧ I' a = none := fun i a hi q => by
      have hh := Hh i a q
      refine ⟨?_, by rw [ix' a hh]; exact h4 i a q⟩
      cases e : H a with
      | none => exact absurd e hh
      | some o => exact fr' a o e fun k z => by have := h3 _ _ a q z; omega
    -- the high ones are the callee's
    have high : ∀ k a, k ≤ as.length → (∃ p o, (as ++ [s])[k]? = some (.ow p o)) → a ∈ M k → H a = none ∨ ∃ j, a ∈ L (δ.length + j) := fun k a hk ⟨p, o, e⟩ q => by
      rcases Nat.lt_or_ge k as.length with z | z
      · rw [gl z] at e
        rcases J.get k with ⟨d, g1, g2⟩ | ⟨p', o1, o', j, g1, g2, g3⟩ | ⟨g1, g2⟩
        · rw [g1] at e; cases e
        · have := m1 k
          rw [mb k z, g2] at this
          obtain ⟨w, w1, w2, w3, w4⟩ := this
          rcases w4 a q with c | c
          · exact .inl c
          · exact .inr ⟨j, c⟩
        · rw [g1] at e; cases e
      · have hk' : k = as.length := by omega
        subst hk'
        rw [gr (Nat.le_refl _)] at e
        simp at e
        subst e
        have := m1 as.length
        rw [gt2, gt3] at this
        obtain ⟨w, w1, w2, w3⟩ := this
        cases p with
        | arg n => exact hs.elim
        | fresh => exact .inl (w3 a q)
    have okow : ∀ i a, ¬ i < δ.length → a ∈ N i → H a = none ∨ ∃ j, a ∈ L (δ.length + j) := fun i a h q => by
      have q' := Nhi i a h q
      have e : N i = if ∃ p o, (as ++ [s])[i - δ.length]? = some (.ow p o) then M (i - δ.length) else [] := if_neg h
      rw [e] at q
      split at q
      · rename_i w; exact high _ a (hM _ a q') w q'
      · cases q
    refine ⟨le', i0.trans i0', fun a q => (ix' a (th a q)).trans (ix a q), fun a q => th' a (th a q), fun a o q n => ?_, by simp [hl, hvl, jl1], N, fun i => ?_, fun i => ?_, fun i j a q1 q2 => ?_, fun i a q => ?_⟩
    · refine fr' a o (fr a o q n) fun k z => ?_
      -- a of the entry, not lent: is it in our own list?
      have z : a ∈ L (δ.length + k) := z
      have hk := h1 (δ.length + k)
      rw [ga, gs] at hk
      cases e : as[k]? with
      | none => rw [e] at hk; rw [show L (δ.length + k) = [] from hk] at z; cases z
      | some t =>
        rw [e] at hk
        obtain ⟨d, p, o, ht⟩ := hno t (List.mem_of_getElem? e)
        rcases ht with rfl | rfl
        · rw [hk.1] at z; cases z
        · obtain ⟨w, w1, w2, w3⟩ := hk
          cases p with
          | fresh => have := w3 a z; rw [q] at this; cases this
          | arg m => rcases w3.2 a z with c | c
                     · rw [q] at c; cases c
                     · exact n m c
    · by_cases hi : i < δ.length
      · rw [Nlo i hi, gl hi, gl (by omega)]
        have := h1 i
        rw [gl hi, gl (by omega)] at this
        exact this.keep i0' fun a q => (low i a hi q).1
      · obtain ⟨k, rfl⟩ : ∃ k, i = δ.length + k := ⟨i - δ.length, by omega⟩
        have ga2 : (δ ++ (cs ++ [s]))[δ.length + k]? = (cs ++ [s])[k]? := by rw [gr (Nat.le_add_right _ _), Nat.add_sub_cancel_left]
        have gs2 : (σ ++ (vs.map some ++ [some v]))[δ.length + k]? = (vs.map some ++ [some v])[k]? := by rw [gr (by rw [hl]; exact Nat.le_add_right _ _), hl, Nat.add_sub_cancel_left]
        rw [ga2, gs2]
        have eN : N (δ.length + k) = if ∃ p o, (as ++ [s])[k]? = some (.ow p o) then M k else [] := by
          have : N (δ.length + k) = if ∃ p o, (as ++ [s])[δ.length + k - δ.length]? = some (.ow p o) then M (δ.length + k - δ.length) else [] := if_neg hi
          rw [Nat.add_sub_cancel_left] at this; exact this
        rcases Nat.lt_trichotomy k as.length with z | z | z
        · rw [mv k z, gl (l := cs) (by rw [jl1]; exact z)]
          rw [gl z] at eN
          rcases J.get k with ⟨d, g1, g2⟩ | ⟨p', o1, o', j, g1, g2, g3⟩ | ⟨g1, g2⟩
          · rw [g2, eN, g1]
            rw [if_neg (by rintro ⟨p, o, e⟩; cases e)]
            have := h1 (δ.length + k)
            rw [ga, gs, g1] at this
            obtain ⟨_, w, w1, w2⟩ := this
            exact ⟨rfl, w, w1, w2.mono i0'⟩
          · rw [g3, eN, g1, if_pos ⟨p', o1, rfl⟩]
            have := m1 k
            rw [mv k z, mb k z, g2] at this
            obtain ⟨w, w1, w2, w3, w4⟩ := this
            refine ⟨w, w1, w2, ?_⟩
            have hk := h1 (δ.length + k)
            rw [ga, gs, g1] at hk
            obtain ⟨x, x1, x2, x3⟩ := hk
            have ex : x = w := by rw [w1] at x1; cases x1; rfl
            subst ex
            -- what was lent to j is ours
            have own : ∀ a ∈ M k, H a = none ∨ a ∈ L (δ.length + k) := fun a q => by
              rcases w4 a q with c | c
              · exact .inl c
              · right
                -- the lent thing stays in its place: j = k by the value
                by_cases hjk : j = k
                · subst hjk; exact c
                · exfalso
                  have c : a ∈ L (δ.length + j) := c
                  have hj := h1 (δ.length + j)
                  rw [ga, gs] at hj
                  cases e : as[j]? with
                  | none => rw [e] at hj; rw [show L (δ.length + j) = [] from hj] at c; cases c
                  | some t =>
                    rw [e] at hj
                    obtain ⟨d2, p2, o2, ht⟩ := hno t (List.mem_of_getElem? e)
                    rcases ht with rfl | rfl
                    · rw [hj.1] at c; cases c
                    · obtain ⟨y, y1, y2, y3⟩ := hj
                      have y1' : vs[j]? = some y := by simpa [List.getElem?_map] using y1
                      rw [y1'] at w3
                      cases w3
                      -- two owned things with one address
                      have hd : ∀ {u : V} {o : Ow} {L : List Addr}, Own K H I u o L → ∃ b, u = .ref b ∧ b ∈ L := fun h => by
                        cases h with
                        | ob h => cases h with
                          | mk h r => exact ⟨_, rfl, by simp⟩
                        | ins h r => exact ⟨_, rfl, by simp⟩
                      obtain ⟨b, b1, b2⟩ := hd x2
                      obtain ⟨c1, c2, c3⟩ := hd y2
                      rw [b1] at c2; cases c2
                      have := h3 _ _ _ b2 c3
                      omega
            cases p' with
            | fresh => exact fun a q => (own a q).elim (fun z => by cases e : E.H0 a with | none => rfl | some y => exact absurd z (th a (by rw [e]; simp))) (x3 a)
            | arg n => exact ⟨x3.1, fun a q => (own a q).elim (fun z => .inl (by cases e : E.H0 a with | none => rfl | some y => exact absurd z (th a (by rw [e]; simp)))) (x3.2 a)⟩
          · rw [List.getElem?_eq_none_iff] at g1; omega
        · subst z
          have g1 : (cs ++ [s])[as.length]? = some s := by rw [gr (by omega), jl1, Nat.sub_self]; rfl
          have g2 := gt2
          have g3 := gt3
          have g4 : (as ++ [s])[as.length]? = some s := by rw [gr (by omega), Nat.sub_self]; rfl
          rw [g1, g2]
          rw [g4] at eN
          have := m1 as.length
          rw [g2, g3] at this
          cases s with
          | un => exact hs.elim
          | vl w => exact hs.elim
          | im d => rw [eN, if_neg (by rintro ⟨p, o, e⟩; cases e)]; exact ⟨rfl, this.2⟩
          | ow p o =>
            cases p with
            | arg n => exact hs.elim
            | fresh =>
              rw [eN, if_pos ⟨_, _, rfl⟩]
              obtain ⟨w, w1, w2, w3⟩ := this
              refine ⟨w, w1, w2, fun a q => ?_⟩
              cases e : E.H0 a with
              | none => rfl
              | some y => exact absurd (w3 a q) (th a (by rw [e]; simp))
        · rw [List.getElem?_eq_none (l := cs ++ [s]) (by simp; omega)]
          show N (δ.length + k) = []
          rw [eN, List.getElem?_eq_none (by simp; omega), if_neg (by rintro ⟨p, o, e⟩; cases e)]
    · by_cases hi : i < δ.length
      · rw [Nlo i hi]; exact h2 i
      · have e : N i = if ∃ p o, (as ++ [s])[i - δ.length]? = some (.ow p o) then M (i - δ.length) else [] := if_neg hi
        rw [e]
        split
        · exact m2 _
        · simp
    · by_cases hi : i < δ.length
      · rw [Nlo i hi] at q1
        by_cases hj : j < δ.length
        · rw [Nlo j hj] at q2; exact h3 i j a q1 q2
        · exfalso
          rcases okow j a hj q2 with c | ⟨k, c⟩
          · exact Hh i a q1 c
          · have := h3 _ _ a q1 c; omega
      · by_cases hj : j < δ.length
        · exfalso
          rw [Nlo j hj] at q2
          rcases okow i a hi q1 with c | ⟨k, c⟩
          · exact Hh j a q2 c
          · have := h3 _ _ a q2 c; omega
        · have := m3 _ _ a (Nhi i a hi q1) (Nhi j a hj q2)
          omega
    · by_cases hi : i < δ.length
      · rw [Nlo i hi] at q; exact (low i a hi q).2
      · exact m4 _ a (Nhi i a hi q)
end
end DL
end
section
set_option Elab.async false
set_option linter.all false
set_option maxRecDepth 100000
set_option maxHeartbeats 4000000
namespace DL
open PySem L2

/-- what a def does, told of data: the arguments, then the result and the arguments behind -/
structure SpD where
  n : Nat
  r : List Slot → (Slot → List Slot → Prop) → Prop
  mono : ∀ {as : List Slot} {Q Q' : Slot → List Slot → Prop}, (∀ s bs, Q s bs → Q' s bs) → r as Q → r as Q'
  len : ∀ {as : List Slot} {Q : Slot → List Slot → Prop}, r as Q → as.length = n
def spV (K : PySem.W.Frag) (S : SpD) : Sp := fun vs H Q _ => ∃ I L0 as, Sta K ⟨I, H, L0, vs⟩ I as (vs.map some) H ∧
  S.r as fun s bs => ∀ v I' H', Sta K ⟨I, H, L0, vs⟩ I' (bs ++ [s]) (vs.map some ++ [some v]) H' → Q v H'
/-- the parameters behind -/
def finR : Nat → List Slot → Env → (List Slot → Prop) → Prop
  | _, [], _, k => k []
  | n, .im d :: as, _ :: δ, k => finR (n + 1) as δ fun bs => k (.im d :: bs)
  | n, .ow (.arg _) _ :: as, .ow (.arg j) o :: δ, k => j = n ∧ finR (n + 1) as δ fun bs => k (.ow (.arg j) o :: bs)
  | _, _, _, _ => False
theorem finR_mono {k k' : List Slot → Prop} (h : ∀ bs, k bs → k' bs) : ∀ {n : Nat} {as : List Slot} {δ : Env}, finR n as δ k → finR n as δ k'
  | _, [], _, w => h _ w
  | _, .im d :: as, s :: δ, w => finR_mono (as := as) (fun _ => h _) w
  | _, .ow (.arg _) _ :: as, .ow (.arg j) o :: δ, w => ⟨w.1, finR_mono (as := as) (fun _ => h _) w.2⟩
theorem finR_get {k : List Slot → Prop} : ∀ {n : Nat} {as : List Slot} {δ : Env}, finR n as δ k → ∃ bs, k bs ∧ bs.length = as.length ∧ as.length ≤ δ.length ∧
    ∀ m : Nat, (∃ d, as[m]? = some (Slot.im d) ∧ bs[m]? = some (Slot.im d)) ∨ (∃ o, δ[m]? = some (Slot.ow (.arg (n + m)) o) ∧ bs[m]? = some (Slot.ow (.arg (n + m)) o)) ∨ (as[m]? = none ∧ bs[m]? = none)
  | n, [], δ, w => ⟨[], w, rfl, Nat.zero_le _, fun m => .inr (.inr ⟨rfl, rfl⟩)⟩
  | n, .im d :: as, s :: δ, w => by
    obtain ⟨bs, h1, h2, h2', h3⟩ := finR_get (n := n + 1) (as := as) (k := fun bs => k (.im d :: bs)) w
    refine ⟨_, h1, by simp [h2], by simp [h2'], fun m => ?_⟩
    cases m with
    | zero => exact .inl ⟨d, rfl, rfl⟩
    | succ m => rw [show n + (m + 1) = n + 1 + m by omega]; simpa using h3 m
  | n, .ow (.arg i) o0 :: as, .ow (.arg j) o :: δ, w => by
    obtain ⟨e, w⟩ := w
    subst e
    obtain ⟨bs, h1, h2, h2', h3⟩ := finR_get (n := j + 1) (as := as) (k := fun bs => k (.ow (.arg j) o :: bs)) w
    refine ⟨_, h1, by simp [h2], by simp [h2'], fun m => ?_⟩
    cases m with
    | zero => exact .inr (.inl ⟨o, rfl, rfl⟩)
    | succ m => rw [show j + (m + 1) = j + 1 + m by omega]; simpa using h3 m

section
variable {P : Program} {w : World} {K : PySem.W.Frag} {mg : Str → Option Value} {base : Heap}
/-- THE RULE for a def -/
theorem fn_mk {x qual : Str} {st : Stmt} {f : Addr} {fd : FuncData} {N ps : List Str} {k : Nat} {S : SpD} {r : RS} (F : Fun K x qual st f fd) (sc : FnScope N ps (defScope st)) (hn : S.n = ps.length)
    (hb : ∀ (cdv : Value) (A : Around) (outer : List PySem.Env) (s : Shared) (H : Hp) (E : XK), Room k (A.deeper (PyProof.Rows.envOfC qual (defScope st) s.heap.objs.size f cdv)) → TrSs (cxOf CX0 P w K mg base N qual (defScope st) f cdv A outer s H E).nox (defBody st) r)
    (hr : ∀ as Q, S.r as Q → r ⟨fun δ => finR 0 as δ fun bs => Q (.im .non) bs, fun s δ => finR 0 as δ fun bs => Q s bs, fun _ => False, fun _ => False⟩ (as ++ List.replicate (N.length - ps.length) .un)) :
    FnOk P w K mg base CX0 (k + 1) f fd ps (spV K S) := by
  have hlen : ∀ vs H Q E, spV K S vs H Q E → vs.length = ps.length := fun vs H Q E ⟨I, L0, as, Sa, h⟩ => by
    have := S.len h; have := Sa.len; simp at this; omega
  have hpl : ps.length ≤ N.length := by have := congrArg List.length sc.pre; rw [List.length_take] at this; omega
  refine F.ok sc hlen fun cdv A outer s H vs Q E hroom h => ⟨_, (hb cdv A outer s H E hroom).ps, ?_⟩
  have hl := hlen vs H Q E h
  obtain ⟨I, L0, as, Sa, h⟩ := h
  have hla : as.length = vs.length := by have := Sa.len; simp at this; omega
  have hst : Sta K ⟨I, H, L0, vs⟩ I (as ++ List.replicate (N.length - ps.length) .un) (L2.start N vs ++ []) H := by
    refine Sa.remap ?_ fun j => ?_
    · unfold L2.start; simp; omega
    · unfold L2.start
      rw [List.append_nil, hl]
      by_cases hj : j < vs.length
      · left
        rw [gl (by omega), gl (by simpa using hj)]; exact ⟨rfl, rfl⟩
      · right
        rw [gr (l := as) (by omega), List.getElem?_replicate]
        split
        · exact .inr (.inl rfl)
        · exact .inl rfl
  have fin : ∀ (s : Slot) (v : V) (δ : Env) (ρ : St) (I' : Hp) (H' : Hp) (Q0 : Slot → List Slot → Prop), Sta K ⟨I, H, L0, vs⟩ I' (δ ++ [s]) (ρ ++ [some v]) H' → (finR 0 as δ fun bs => Q0 s bs) → ∃ bs, Q0 s bs ∧ Sta K ⟨I, H, L0, vs⟩ I' (bs ++ [s]) (vs.map some ++ [some v]) H' := by
    intro s v δ ρ I' H' Q0 S2 q
    obtain ⟨bs, h1, h2, h2', h3⟩ := finR_get q
    have l2 : ρ.length = δ.length := by have := S2.len; simpa using this
    refine ⟨bs, h1, S2.pick (fun k => if k < as.length then k else if k = as.length then δ.length else k + δ.length) (fun j k e => ?_) (by simp; omega) fun m => ?_⟩
    · have e : (if j < as.length then j else if j = as.length then δ.length else j + δ.length) = if k < as.length then k else if k = as.length then δ.length else k + δ.length := e
      split at e <;> split at e <;> (try split at e) <;> (try split at e) <;> omega
    · show (_ = (δ ++ [s])[if m < as.length then m else if m = as.length then δ.length else m + δ.length]? ∧ _) ∨ _
      rcases Nat.lt_trichotomy m as.length with z | z | z
      · rw [if_pos z, gl (l := bs) (by omega), gl (l := vs.map some) (by simp; omega), gl (l := δ) (by omega), gl (l := ρ) (by omega)]
        rcases h3 m with ⟨d, g1, g2⟩ | ⟨o, g1, g2⟩ | ⟨g1, g2⟩
        · obtain ⟨u, u1, u2⟩ := Sa.im_get g1
          exact .inr (.inr (.inr (.inl ⟨d, u, g2, u1, u2.mono S2.i0⟩)))
        · left
          rw [g1, g2]
          refine ⟨rfl, ?_⟩
          obtain ⟨L, m1, _⟩ := S2.own
          have := m1 m
          rw [gl (l := δ) (by omega), gl (l := ρ) (by omega), g1] at this
          obtain ⟨u, u1, _, u2, _⟩ := this
          rw [u1, List.getElem?_map]
          rw [Nat.zero_add] at u2
          rw [show vs[m]? = some u from u2]; rfl
        · rw [List.getElem?_eq_none_iff] at g1; omega
      · subst z
        left
        rw [if_neg (by omega), if_pos rfl, gr (l := bs) (by omega), gr (l := vs.map some) (by simp; omega), gr (l := δ) (Nat.le_refl _), gr (l := ρ) (by omega)]
        simp [h2, hla, l2]
      · right; left
        rw [List.getElem?_eq_none (by simp; omega)]
  refine ⟨⟨I, H, L0, vs⟩, I, _, [], _, hst, hr as _ h, ⟨?_, fun _ _ _ _ _ _ h => h.elim, fun _ _ _ _ _ _ h => h.elim, ?_⟩⟩
  · intro σ I' H' δ _ S2 q
    obtain ⟨bs, h1, h2⟩ := fin (.im .non) .non δ (σ ++ []) I' H' (fun s bs => ∀ v I' H', Sta K ⟨I, H, L0, vs⟩ I' (bs ++ [s]) (vs.map some ++ [some v]) H' → Q v H') (S2.push_im .non) q
    exact h1 _ _ _ h2
  · intro v ρ I' H' δ s S2 q
    obtain ⟨bs, h1, h2⟩ := fin s v δ ρ I' H' (fun s bs => ∀ v I' H', Sta K ⟨I, H, L0, vs⟩ I' (bs ++ [s]) (vs.map some ++ [some v]) H' → Q v H') S2 q
    exact h1 _ _ _ h2
end

/-! ### arguments -/
inductive Ag where
  | im (d : D) | vr (j : Nat)
def AgOk (K : PySem.W.Frag) (I : Hp) (σ : St) (v : V) : Ag → Prop
  | .im d => Rep K I v d
  | .vr j => σ[j]? = some (some v)
inductive AgsOk (K : PySem.W.Frag) (I : Hp) (σ : St) : List V → List Ag → Prop
  | nil : AgsOk K I σ [] []
  | cons {v : V} {a : Ag} {vs : List V} {as : List Ag} : AgOk K I σ v a → AgsOk K I σ vs as → AgsOk K I σ (v :: vs) (a :: as)
section
variable {K : PySem.W.Frag} {E : Ent} {I I' : Hp} {δ δ' ε : Env} {σ τ : St} {H H' : Hp} {v : V} {vs : List V} {o : Ow} {d : D} {ags : List Ag}
theorem AgOk.mono (m : Same I I') {a : Ag} (h : AgOk K I σ v a) : AgOk K I' σ v a := by
  cases a with
  | im d => exact Rep.mono m h
  | vr j => exact h
theorem AgsOk.mono (m : Same I I') (h : AgsOk K I σ vs ags) : AgsOk K I' σ vs ags := by
  induction h with
  | nil => exact .nil
  | cons h _ ih => exact .cons (h.mono m) ih
theorem AgsOk.append {vs' : List V} {ags' : List Ag} (h : AgsOk K I σ vs ags) (h' : AgsOk K I σ vs' ags') : AgsOk K I σ (vs ++ vs') (ags ++ ags') := by
  induction h with
  | nil => exact h'
  | cons h _ ih => exact .cons h ih
theorem AgsOk.of_reps : ∀ {vs : List V} {ds : List D}, Reps K I vs ds → AgsOk K I σ vs (ds.map .im)
  | _, _, .nil => .nil
  | _, _, .cons h r => .cons h (AgsOk.of_reps r)
def lendS (δ : Env) (j : Nat) (k : Slot → Env → Prop) : Option Slot → Prop
  | some (.ow p o) => k (.ow p o) (δ.set j .un)
  | some (.im d) => k (.im d) δ
  | _ => False
def lendR : List Ag → Env → List Slot → (Env → List Slot → Prop) → Prop
  | [], δ, acc, k => k δ acc
  | .im d :: as, δ, acc, k => lendR as δ (acc ++ [.im d]) k
  | .vr j :: as, δ, acc, k => lendS δ j (fun s δ' => lendR as δ' (acc ++ [s]) k) δ[j]?
theorem lendS_mono {δ : Env} {j : Nat} {k k' : Slot → Env → Prop} (h : ∀ s δ, k s δ → k' s δ) : ∀ {s : Option Slot}, lendS δ j k s → lendS δ j k' s
  | some (.ow _ _), w => h _ _ w
  | some (.im _), w => h _ _ w
theorem lendR_mono {k k' : Env → List Slot → Prop} (h : ∀ δ as, k δ as → k' δ as) : ∀ {ags : List Ag} {δ : Env} {acc : List Slot}, lendR ags δ acc k → lendR ags δ acc k'
  | [], _, _, w => h _ _ w
  | .im d :: as, δ, acc, w => lendR_mono (ags := as) h w
  | .vr j :: as, δ, acc, w => lendS_mono (fun _ _ => lendR_mono (ags := as) h) w
theorem lendR_ok {k : Env → List Slot → Prop} : ∀ {ags : List Ag} {δ : Env} {acc : List Slot} {vs : List V} {ws : List V}, Sta K E I (δ ++ acc) (σ ++ ws.map some) H → σ.length = δ.length → AgsOk K I σ vs ags → lendR ags δ acc k → (∀ s ∈ acc, ∃ d p o, s = .im d ∨ s = .ow p o) →
    ∃ δ2 as, k δ2 as ∧ Sta K E I (δ2 ++ as) (σ ++ (ws ++ vs).map some) H ∧ δ2.length = δ.length ∧ (∀ s ∈ as, ∃ d p o, s = .im d ∨ s = .ow p o) ∧ ((∀ s ∈ acc, ∃ d, s = .im d) → (∀ a ∈ ags, ∃ d, a = .im d) → (∀ s ∈ as, ∃ d, s = .im d) ∧ δ2 = δ)
  | [], δ, acc, _, ws, S, hl, .nil, w, ha => ⟨δ, acc, w, by simpa using S, rfl, ha, fun h _ => ⟨h, rfl⟩⟩
  | .im d :: as, δ, acc, _, ws, S, hl, .cons (v := v) (vs := vs) h r, w, ha => by
    have S' : Sta K E I (δ ++ (acc ++ [.im d])) (σ ++ (ws ++ [v]).map some) H := by
      have := S.push_im h
      simpa using this
    have w : lendR as δ (acc ++ [.im d]) k := w
    obtain ⟨δ2, bs, h1, h2, h3, h4, h5⟩ := lendR_ok (k := k) (ags := as) (δ := δ) (acc := acc ++ [.im d]) (vs := vs) (ws := ws ++ [v]) S' hl r w (fun s q => by
      rcases List.mem_append.mp q with q | q
      · exact ha s q
      · rw [List.mem_singleton.mp q]; exact ⟨d, .fresh, .ob (.lst []), .inl rfl⟩)
    refine ⟨δ2, bs, h1, by simpa using h2, h3, h4, fun q1 q2 => h5 (fun s q => ?_) fun a q => q2 a (List.mem_cons_of_mem _ q)⟩
    rcases List.mem_append.mp q with q | q
    · exact q1 s q
    · rw [List.mem_singleton.mp q]; exact ⟨d, rfl⟩
  | .vr j :: as, δ, acc, _, ws, S, hl, .cons (v := v) (vs := vs) h r, w, ha => by
    have w : lendS δ j _ δ[j]? := w
    have h : σ[j]? = some (some v) := h
    cases e : δ[j]? with
    | none => rw [e] at w; exact w.elim
    | some s =>
      rw [e] at w
      have hj : j < δ.length := lt_of_get e
      cases s with
      | un => exact w.elim
      | vl x => exact w.elim
      | im d =>
        obtain ⟨u, u1, u2⟩ := S.im_get (i := j) (d := d) (by rw [gl hj]; exact e)
        rw [gl (by omega), h] at u1; cases u1
        have S' : Sta K E I (δ ++ (acc ++ [.im d])) (σ ++ (ws ++ [v]).map some) H := by
          have := S.push_im u2
          simpa using this
        have w : lendR as δ (acc ++ [.im d]) k := w
        obtain ⟨δ2, bs, h1, h2, h3, h4, h5⟩ := lendR_ok (k := k) (ags := as) (δ := δ) (acc := acc ++ [.im d]) (vs := vs) (ws := ws ++ [v]) S' hl r w (fun s q => by
          rcases List.mem_append.mp q with q | q
          · exact ha s q
          · rw [List.mem_singleton.mp q]; exact ⟨d, .fresh, .ob (.lst []), .inl rfl⟩)
        exact ⟨δ2, bs, h1, by simpa using h2, h3, h4, fun _ q2 => by obtain ⟨d, e⟩ := q2 (.vr j) (by simp); cases e⟩
      | ow p o =>
        have S' : Sta K E I (δ.set j .un ++ (acc ++ [.ow p o])) (σ ++ (ws ++ [v]).map some) H := by
          have := S.lend (i := j) (p := p) (o := o) (v := v) (by rw [gl hj]; exact e) (by rw [gl (by omega)]; exact h)
          rw [List.set_append_left _ _ hj] at this
          simpa using this
        have w : lendR as (δ.set j .un) (acc ++ [.ow p o]) k := w
        obtain ⟨δ2, bs, h1, h2, h3, h4, h5⟩ := lendR_ok (k := k) (ags := as) (δ := δ.set j .un) (acc := acc ++ [.ow p o]) (vs := vs) (ws := ws ++ [v]) S' (by simpa using hl) r w (fun s q => by
          rcases List.mem_append.mp q with q | q
          · exact ha s q
          · rw [List.mem_singleton.mp q]; exact ⟨.non, p, o, .inr rfl⟩)
        exact ⟨δ2, bs, h1, by simpa using h2, by simpa using h3, h4, fun _ q2 => by obtain ⟨d, e⟩ := q2 (.vr j) (by simp); cases e⟩
/-- the caller's pins again -/
def joinR : List Slot → List Slot → (List Slot → Prop) → Prop
  | [], [], k => k []
  | .im d :: as, _ :: bs, k => joinR as bs fun cs => k (.im d :: cs)
  | .ow p _ :: as, .ow (.arg _) o :: bs, k => joinR as bs fun cs => k (.ow p o :: cs)
  | _, _, _ => False
theorem joinR_mono {k k' : List Slot → Prop} (h : ∀ c, k c → k' c) : ∀ {as bs : List Slot}, joinR as bs k → joinR as bs k'
  | [], [], w => h _ w
  | .im d :: as, _ :: bs, w => joinR_mono (as := as) (bs := bs) (fun _ => h _) w
  | .ow p _ :: as, .ow (.arg _) o :: bs, w => joinR_mono (as := as) (bs := bs) (fun _ => h _) w
theorem joinR_ok {k : List Slot → Prop} : ∀ {as bs : List Slot}, joinR as bs k → ∃ cs, Join as bs cs ∧ k cs
  | [], [], w => ⟨[], .nil, w⟩
  | .im d :: as, _ :: bs, w => by obtain ⟨cs, h1, h2⟩ := joinR_ok (k := fun cs => k (.im d :: cs)) w; exact ⟨_, .im h1, h2⟩
  | .ow p _ :: as, .ow (.arg _) o :: bs, w => by obtain ⟨cs, h1, h2⟩ := joinR_ok (k := fun cs => k (.ow p o :: cs)) w; exact ⟨_, .ow h1, h2⟩
def backR : List Ag → List Slot → Env → (Env → Prop) → Prop
  | [], [], δ, k => k δ
  | .im _ :: as, _ :: cs, δ, k => backR as cs δ k
  | .vr _ :: as, .im _ :: cs, δ, k => backR as cs δ k
  | .vr j :: as, .ow p o :: cs, δ, k => backR as cs (δ.set j (.ow p o)) k
  | _, _, _, _ => False
theorem backR_mono {k k' : Env → Prop} (h : ∀ c, k c → k' c) : ∀ {ags : List Ag} {cs : List Slot} {δ : Env}, backR ags cs δ k → backR ags cs δ k'
  | [], [], _, w => h _ w
  | .im _ :: as, _ :: cs, _, w => backR_mono (ags := as) (cs := cs) h w
  | .vr _ :: as, .im _ :: cs, _, w => backR_mono (ags := as) (cs := cs) h w
  | .vr j :: as, .ow p o :: cs, _, w => backR_mono (ags := as) (cs := cs) h w
theorem backR_ok {k : Env → Prop} {J : Hp} {kp : Env} {kv : St} {tl : Env} {tv : St} (hkp : kv.length = kp.length) : ∀ {ags : List Ag} {cs : List Slot} {δ : Env} {vs : List V}, Sta K E I (δ ++ (kp ++ (cs ++ tl))) (σ ++ (kv ++ (vs.map some ++ tv))) H → σ.length = δ.length → AgsOk K J σ vs ags → backR ags cs δ k →
    ∃ δ3, k δ3 ∧ Sta K E I (δ3 ++ (kp ++ tl)) (σ ++ (kv ++ tv)) H ∧ δ3.length = δ.length
  | [], [], δ, _, S, hl, .nil, w => ⟨δ, w, by simpa using S, rfl⟩
  | .im d :: as, s :: cs, δ, v :: vs, S, hl, .cons h r, w => by
    have S' : Sta K E I ((δ ++ kp) ++ (cs ++ tl)) ((σ ++ kv) ++ (vs.map some ++ tv)) H := by
      refine Sta.cut (s := s) (x := some v) ?_ (by simp [hl, hkp])
      simpa using S
    exact backR_ok hkp (ags := as) (cs := cs) (δ := δ) (vs := vs) (by simpa using S') hl r w
  | .vr j :: as, .im d :: cs, δ, v :: vs, S, hl, .cons h r, w => by
    have S' : Sta K E I ((δ ++ kp) ++ (cs ++ tl)) ((σ ++ kv) ++ (vs.map some ++ tv)) H := by
      refine Sta.cut (s := .im d) (x := some v) ?_ (by simp [hl, hkp])
      simpa using S
    exact backR_ok hkp (ags := as) (cs := cs) (δ := δ) (vs := vs) (by simpa using S') hl r w
  | .vr j :: as, .ow p o :: cs, δ, v :: vs, S, hl, .cons h r, w => by
    have h : σ[j]? = some (some v) := h
    have hj : j < δ.length := by rw [← hl]; exact lt_of_get h
    have S' : Sta K E I ((δ ++ kp).set j (.ow p o) ++ (cs ++ tl)) ((σ ++ kv) ++ (vs.map some ++ tv)) H := by
      refine Sta.back (p := p) (o := o) (v := v) (i := j) ?_ (by simp [hl, hkp]) (by simp; omega) (by rw [gl (by omega)]; exact h)
      simpa using S
    rw [List.set_append_left _ _ hj] at S'
    obtain ⟨δ3, g1, g2, g3⟩ := backR_ok hkp (ags := as) (cs := cs) (δ := δ.set j (.ow p o)) (vs := vs) (by simpa using S') (by simpa using hl) r w
    exact ⟨δ3, g1, g2, by simpa using g3⟩
end

/-! ### calls -/
abbrev RV := Env → (List Ag → Env → Prop) → Prop
abbrev preV (X : Cx) (q : Bool) (r : RV) : TA := fun σ H Q => ∃ E I δ τ, Sta X.K E I δ (σ ++ τ) H ∧ r δ fun as δ' => ∀ vs I' H', Same I I' → (q = true → Same H H') → Sta X.K E I' δ' (σ ++ τ) H' → AgsOk X.K I' (σ ++ τ) vs as → Q vs H'
structure TrV (X : Cx) (es : List Expr) (q : Bool) (r : RV) : Prop where
  pa : PA X es (preV X q r)
  mono : ∀ {δ : Env} {Q Q' : List Ag → Env → Prop}, (∀ x δ', Q x δ' → Q' x δ') → r δ Q → r δ Q'
section
variable {X : Cx} {a b c e o : Expr} {es : List Expr} {q q1 q2 q3 : Bool} {ra rb rc : RE} {rs : RA} {rv : RV} {pos p apos : Pos} {E : Ent} {I I' : Hp} {δ δ' : Env} {σ τ : St} {H H' : Hp} {v : V} {d : D} {j k : Nat} {x m : Str} {f C : Addr} {fd : FuncData} {ps : List Str} {S : SpD} {dvs : List V} {ds : List Value} {dds : List D}
def vNil : RV := fun δ Q => Q [] δ
theorem tv_nil : TrV X [] true vNil := ⟨weakA pa_nil fun σ H Q _ ⟨E, I, δ, τ, S, h⟩ => h [] I H (L2.Same.refl _) (fun _ => L2.Same.refl _) S .nil, fun h w => h _ _ w⟩
/-- as immutable data -/
def vIm (ra : RE) (rv : RV) : RV := fun δ Q => r1 ra (fun d δ1 => rv δ1 fun as δ2 => Q (.im d :: as) δ2) δ
theorem tv_im (ha : TrE X a q1 ra) (hs : TrV X es q2 rv) (hst : starEach (a :: es) X.env = (false, eval a X.env) :: starEach es X.env := by rfl) : TrV X (a :: es) (q1 && q2) (vIm ra rv) := by
  refine ⟨weakA (pa_cons ha.pe hs.pa hst) fun σ H Q _ ⟨E, I, δ, τ, S, h⟩ => one ha S h fun v d δ1 I1 H1 s1 k1 S1 rp h1 => ?_, fun h => r1_mono ha fun _ _ => hs.mono fun _ _ => h _ _⟩
  refine ⟨E, I1, δ1, τ, S1, hs.mono (fun as δ2 h2 vs I2 H2 s2 k2 S2 r2 => ?_) h1⟩
  exact h2 (v :: vs) I2 H2 (s1.trans s2) (fun w => by simp at w; exact (k1 w.1).trans (k2 w.2)) S2 (.cons (Rep.mono s2 rp) r2)
/-- a variable that is lent -/
def agX (x : Rd) (k : Ag → Prop) : Prop := match x with
  | .im d => k (.im d)
  | .vr j => k (.vr j)
  | _ => False
def vLn (ra : RE) (rv : RV) : RV := fun δ Q => ra δ fun x δ1 => agX x fun a => rv δ1 fun as δ2 => Q (a :: as) δ2
theorem agX_mono {x : Rd} {k k' : Ag → Prop} (h : ∀ a, k a → k' a) (w : agX x k) : agX x k' := by
  cases x <;> first | exact h _ w | exact w
theorem tv_ln (ha : TrE X a q1 ra) (hs : TrV X es q2 rv) (hst : starEach (a :: es) X.env = (false, eval a X.env) :: starEach es X.env := by rfl) : TrV X (a :: es) (q1 && q2) (vLn ra rv) := by
  refine ⟨weakA (pa_cons ha.pe hs.pa hst) fun σ H Q _ ⟨E, I, δ, τ, S, h⟩ => ⟨E, I, δ, τ, S, ha.mono (fun x δ1 h1 v I1 H1 s1 k1 st => ?_) h⟩, fun h => ha.mono fun _ _ => agX_mono fun _ => hs.mono fun _ _ => h _ _⟩
  have go : ∀ (a : Ag), Sta X.K E I1 δ1 (σ ++ τ) H1 → AgOk X.K I1 (σ ++ τ) v a → (rv δ1 fun as δ2 => ∀ vs I' H', Same I I' → ((q1 && q2) = true → Same H H') → Sta X.K E I' δ2 (σ ++ τ) H' → AgsOk X.K I' (σ ++ τ) vs (a :: as) → Q vs H') → preV X q2 rv σ H1 (fun vs H2 => Q (v :: vs) H2) := by
    intro a S1 ok h1
    refine ⟨E, I1, δ1, τ, S1, hs.mono (fun as δ2 h2 vs I2 H2 s2 k2 S2 r2 => ?_) h1⟩
    exact h2 (v :: vs) I2 H2 (s1.trans s2) (fun w => by simp at w; exact (k1 w.1).trans (k2 w.2)) S2 (.cons (ok.mono s2) r2)
  cases x with
  | im d => exact go (.im d) st.1 st.2 h1
  | vr j => exact go (.vr j) st.1 st.2 h1
  | «at» j f => exact h1.elim
  | tm o => exact h1.elim

def resR (Q : Rd → Env → Prop) (δ : Env) : Slot → Prop
  | .im d => Q (.im d) δ
  | .ow .fresh o => Q (.tm o) δ
  | _ => False
theorem resR_mono {Q Q' : Rd → Env → Prop} (h : ∀ x δ, Q x δ → Q' x δ) {δ : Env} {s : Slot} (w : resR Q δ s) : resR Q' δ s := by
  match s, w with
  | .im d, w => exact h _ _ w
  | .ow .fresh o, w => exact h _ _ w
theorem resR_ok {Q : Rd → Env → Prop} {s : Slot} (w : resR Q δ s) : ResOk s := by
  match s, w with
  | .im d, w => trivial
  | .ow .fresh o, w => trivial
theorem resR_st {K : PySem.W.Frag} {Q : Rd → Env → Prop} {s : Slot} (w : resR Q δ s) (S : Sta K E I (δ ++ [s]) (σ ++ [some v]) H) : ∃ x, RdSt K E I δ σ H v x ∧ Q x δ := by
  match s, w with
  | .ow .fresh o, w => exact ⟨.tm o, S, w⟩
  | .im d, w =>
    have hl : σ.length = δ.length := by have := S.len; simpa using this
    obtain ⟨u, u1, u2⟩ := S.im_get (i := δ.length) (d := d) (by rw [gr (Nat.le_refl _), Nat.sub_self]; rfl)
    rw [gr (by omega), hl, Nat.sub_self] at u1
    cases u1
    exact ⟨.im d, ⟨S.pop, u2⟩, w⟩
/-- the call of what keeps S, its arguments given -/
def callR (S : SpD) (ags : List Ag) (δ : Env) (Q : Rd → Env → Prop) : Prop :=
  lendR ags δ [] fun δ2 as => S.r (argS 0 as) fun s bs => joinR as bs fun cs => backR ags cs δ2 fun δ3 => resR Q δ3 s
theorem callR_mono {ags : List Ag} {Q Q' : Rd → Env → Prop} (h : ∀ x δ, Q x δ → Q' x δ) (w : callR S ags δ Q) : callR S ags δ Q' :=
  lendR_mono (fun _ _ => S.mono fun _ _ => joinR_mono fun _ => backR_mono fun _ => resR_mono h) w
theorem callR_ok {K : PySem.W.Frag} {ags : List Ag} {vs : List V} {Q : Rd → Env → Prop} {R : VK} {xk : XK} (Sa : Sta K E I δ σ H) (ok : AgsOk K I σ vs ags) (w : callR S ags δ Q)
    (k : ∀ x δ3 v I' H', Same I I' → RdSt K E I' δ3 σ H' v x → Q x δ3 → R v H') : spV K S vs H R xk := by
  obtain ⟨δ2, as, h1, h2, h3, h4, _⟩ := lendR_ok (acc := []) (ws := []) (by simpa using Sa) Sa.len ok w (by simp)
  rw [List.nil_append] at h2
  obtain ⟨L0, g1, _, g2⟩ := h2.callee (by rw [h3]; exact Sa.len) h4
  refine ⟨I, L0, _, g1, S.mono (fun s bs h v I' H' S' => ?_) h1⟩
  obtain ⟨cs, J, h⟩ := joinR_ok h
  have hs : ResOk s := by
    have : ∃ δ3, resR Q δ3 s := by
      clear g1 g2 S' J
      suffices this : ∀ (ags : List Ag) (cs : List Slot) (δ : Env), backR ags cs δ (fun δ3 => resR Q δ3 s) → ∃ δ3, resR Q δ3 s from this _ _ _ h
      intro ags cs δ h
      induction ags generalizing cs δ with
      | nil => cases cs with
        | nil => exact ⟨_, h⟩
        | cons _ _ => exact h.elim
      | cons a as ih =>
        cases a with
        | im d => cases cs with
          | nil => exact h.elim
          | cons _ cs => exact ih cs _ h
        | vr j => cases cs with
          | nil => exact h.elim
          | cons c cs => cases c with
            | un => exact h.elim
            | vl _ => exact h.elim
            | im _ => exact ih cs _ h
            | ow _ _ => exact ih cs _ h
    obtain ⟨δ3, h⟩ := this
    exact resR_ok h
  have S2 := g2 bs cs s v I' H' J hs S'
  obtain ⟨δ3, e1, e2, _⟩ := backR_ok (kp := []) (kv := []) rfl (J := I) (by simpa using S2) (by rw [h3]; exact Sa.len) ok h
  obtain ⟨x, x1, x2⟩ := resR_st e1 (by simpa using e2)
  exact k x δ3 v I' H' S'.i0 x1 x2
def rCallL (S : SpD) (rv : RV) (dds : List D) : RE := fun δ Q => rv δ fun ags δ1 => callR S (ags ++ dds.map .im) δ1 Q
theorem tr_callL (F : FnOk X.prog X.w X.K X.mg X.base CX0 k f fd ps (spV X.K S)) (hr : Room k X.A) (hm : X.mg x = some (.ref f)) (hk : PySem.W.keepIn X.K (.ref f) = true) (hb : Binds X.K fd ps ds) (hd : Vals dvs ds) (hdd : ∀ I, Reps X.K I dvs dds)
    (hg : Gl X x) (ha : TrV X (e :: es) q rv) (hdb : (x == ("__debug__" : Str)) = false := by decide) (he : starEach (e :: es) X.env = (false, eval e X.env) :: starEach es X.env := by rfl) (hpl : (backTo pos (starEach es X.env)).any (·.1) = false := by rfl) :
    TrE X (.Call (.Name x p) (e :: es) [] pos) false (rCallL S rv dds) := by
  refine ⟨weakE (pe_call F hr hg hm hk hb hd pass0 ha.pa hdb he hpl) fun σ H Q _ ⟨E, I, δ, τ, Sa, h⟩ => ⟨E, I, δ, τ, Sa, ha.mono (fun as δ1 h1 vs I1 H1 s1 k1 S1 r1 => ?_) h⟩, fun h => ha.mono fun _ _ => callR_mono h⟩
  exact callR_ok S1 (r1.append (.of_reps (hdd I1))) h1 fun x δ3 v I' H' s2 st w => w v I' H' (s1.trans s2) (fun z => by cases z) st
theorem tr_callL0 (F : FnOk X.prog X.w X.K X.mg X.base CX0 k f fd ps (spV X.K S)) (hr : Room k X.A) (hm : X.mg x = some (.ref f)) (hk : PySem.W.keepIn X.K (.ref f) = true) (hb : Binds X.K fd ps ds) (hd : Vals dvs ds) (hdd : ∀ I, Reps X.K I dvs dds)
    (hg : Gl X x) (hdb : (x == ("__debug__" : Str)) = false := by decide) :
    TrE X (.Call (.Name x p) [] [] pos) false (rCallL S vNil dds) := by
  refine ⟨weakE (pe_call0 F hr hg hm hk hb hd pass0 hdb) fun σ H Q _ ⟨E, I, δ, τ, Sa, h⟩ => ?_, fun h => callR_mono h⟩
  exact callR_ok (xk := E0) (vs := [] ++ dvs) Sa (AgsOk.append (.nil) (.of_reps (hdd I))) h fun x δ3 v I' H' s2 st w => w v I' H' s2 (fun z => by cases z) st
/-- all arguments immutable: nothing that stood is touched -/
def rCall (S : SpD) (rs : RA) (dds : List D) : RE := fun δ Q => rs δ fun ds δ1 => S.r ((ds ++ dds).map .im) fun s _ => resR Q δ1 s
theorem imgs (ds : List D) : argS 0 (ds.map Slot.im) = ds.map Slot.im := by
  suffices h : ∀ n, argS n (ds.map Slot.im) = ds.map Slot.im from h 0
  induction ds with
  | nil => intro n; rfl
  | cons d ds ih => intro n; show Slot.im d :: argS (n + 1) (ds.map Slot.im) = _; rw [ih]; rfl
theorem callQ_ok {K : PySem.W.Frag} {as : List D} {vs : List V} {Q : Rd → Env → Prop} {R : VK} {xk : XK} (Sa : Sta K E I δ σ H) (ok : Reps K I vs as) (w : S.r (as.map .im) fun s _ => resR Q δ s)
    (k : ∀ x v I' H', Same I I' → Same H H' → RdSt K E I' δ σ H' v x → Q x δ → R v H') : spV K S vs H R xk := by
  have Sp : ∀ {vs : List V} {as : List D} {δ0 : Env} {σ0 : St}, Sta K E I δ0 σ0 H → Reps K I vs as → Sta K E I (δ0 ++ as.map .im) (σ0 ++ vs.map some) H := by
    intro vs as δ0 σ0 Sa r
    induction vs generalizing as δ0 σ0 with
    | nil => cases r; simpa using Sa
    | cons v vs ih => cases r with
      | cons h r =>
        have := ih (Sa.push_im h) r
        simpa using this
  have hno : ∀ s ∈ as.map Slot.im, ∃ d, s = .im d := fun s q => by
    obtain ⟨d, _, e⟩ := List.mem_map.mp q
    exact ⟨d, e.symm⟩
  obtain ⟨L0, g1, g0, g2⟩ := (Sp Sa ok).callee Sa.len (fun s q => by obtain ⟨d, e⟩ := hno s q; exact ⟨d, .fresh, .ob (.lst []), .inl e⟩)
  rw [imgs] at g1
  refine ⟨I, L0, _, g1, S.mono (fun s bs h v I' H' S' => ?_) w⟩
  have hbs : bs.length = as.length := by have := S'.len; simp at this; have := ok.length; omega
  have J : ∀ (as : List D) (bs : List Slot), bs.length = as.length → Join (as.map .im) bs (as.map .im) := fun as => by
    induction as with
    | nil => intro bs h; cases bs with
      | nil => exact .nil
      | cons _ _ => simp at h
    | cons d ds ih => intro bs h; cases bs with
      | nil => simp at h
      | cons b bs => exact .im (ih bs (by simpa using h))
  have S2 := g2 bs _ s v I' H' (J as bs hbs) (resR_ok h) S'
  have cutAll : ∀ (as : List D) (vs : List V), vs.length = as.length → Sta K E I' (δ ++ (as.map .im ++ [s])) (σ ++ (vs.map some ++ [some v])) H' → Sta K E I' (δ ++ [s]) (σ ++ [some v]) H' := fun as => by
    induction as with
    | nil => intro vs h S; cases vs with
      | nil => simpa using S
      | cons _ _ => simp at h
    | cons d ds ih => intro vs h S; cases vs with
      | nil => simp at h
      | cons u us => exact ih us (by simpa using h) (Sta.cut (by simpa using S) Sa.len)
  obtain ⟨x, x1, x2⟩ := resR_st h (cutAll as vs ok.length S2)
  refine k x v I' H' S'.i0 (fun a o e => S'.fr a o e fun k z => ?_) x1 x2
  have z : a ∈ L0 k := z
  rw [g0 hno k] at z
  cases z
theorem tr_call (F : FnOk X.prog X.w X.K X.mg X.base CX0 k f fd ps (spV X.K S)) (hr : Room k X.A) (hm : X.mg x = some (.ref f)) (hk : PySem.W.keepIn X.K (.ref f) = true) (hb : Binds X.K fd ps ds) (hd : Vals dvs ds) (hdd : ∀ I, Reps X.K I dvs dds)
    (hg : Gl X x) (ha : TrA X (e :: es) q rs) (hdb : (x == ("__debug__" : Str)) = false := by decide) (he : starEach (e :: es) X.env = (false, eval e X.env) :: starEach es X.env := by rfl) (hpl : (backTo pos (starEach es X.env)).any (·.1) = false := by rfl) :
    TrE X (.Call (.Name x p) (e :: es) [] pos) q (rCall S rs dds) := by
  refine ⟨weakE (pe_call F hr hg hm hk hb hd pass0 ha.pa hdb he hpl) fun σ H Q _ ⟨E, I, δ, τ, Sa, h⟩ => ⟨E, I, δ, τ, Sa, ha.mono (fun as δ1 h1 vs I1 H1 s1 k1 S1 r1 => ?_) h⟩, fun h => ha.mono fun _ _ => S.mono fun _ _ => resR_mono h⟩
  exact callQ_ok S1 (r1.append (hdd I1)) h1 fun x v I' H' s2 k2 st w => w v I' H' (s1.trans s2) (fun z => (k1 z).trans k2) st
theorem tr_call0 (F : FnOk X.prog X.w X.K X.mg X.base CX0 k f fd ps (spV X.K S)) (hr : Room k X.A) (hm : X.mg x = some (.ref f)) (hk : PySem.W.keepIn X.K (.ref f) = true) (hb : Binds X.K fd ps ds) (hd : Vals dvs ds) (hdd : ∀ I, Reps X.K I dvs dds)
    (hg : Gl X x) (hdb : (x == ("__debug__" : Str)) = false := by decide) :
    TrE X (.Call (.Name x p) [] [] pos) true (rCall S (fun δ Q => Q [] δ) dds) := by
  refine ⟨weakE (pe_call0 F hr hg hm hk hb hd pass0 hdb) fun σ H Q _ ⟨E, I, δ, τ, Sa, h⟩ => ?_, fun h => S.mono fun _ _ => resR_mono h⟩
  exact callQ_ok (xk := E0) (as := [] ++ dds) (vs := [] ++ dvs) Sa (by simpa using hdd I) h fun x v I' H' s2 k2 st w => w v I' H' s2 (fun _ => k2) st
end
end DL
end
section
set_option Elab.async false
set_option linter.all false
set_option maxRecDepth 100000
set_option maxHeartbeats 4000000
namespace DL
open PySem L2

/-- a def that may be called by its name -/
structure Cal (P : Program) (w : World) (K : PySem.W.Frag) (mg : Str → Option Value) (base : Heap) (k : Nat) (x : Str) (S : SpD) (dds : List D) : Prop where
  ex : ∃ (f : Addr) (fd : FuncData) (ps : List Str) (ds : List Value) (dvs : List V), FnOk P w K mg base CX0 k f fd ps (spV K S) ∧ mg x = some (.ref f) ∧ PySem.W.keepIn K (.ref f) = true ∧ Binds K fd ps ds ∧ Vals dvs ds ∧ ∀ I, Reps K I dvs dds
/-- a method of the class at C -/
structure Met (P : Program) (w : World) (K : PySem.W.Frag) (mg : Str → Option Value) (base : Heap) (k : Nat) (C : Addr) (m : Str) (S : SpD) (dds : List D) : Prop where
  ex : ∃ (f : Addr) (fd : FuncData) (ps : List Str) (ds : List Value) (dvs : List V), Cls K C ∧ Meth K C m f ∧ FnOk P w K mg base CX0 k f fd ps (spV K S) ∧ Binds K fd ps ds ∧ Vals dvs ds ∧ ∀ I, Reps K I dvs dds
/-- a class that may be made by its name; S: its __init__ -/
structure Mak (P : Program) (w : World) (K : PySem.W.Frag) (mg : Str → Option Value) (base : Heap) (k : Nat) (x : Str) (C : Addr) (S : SpD) (dds : List D) : Prop where
  ex : ∃ (f : Addr) (fd : FuncData) (ps : List Str) (ds : List Value) (dvs : List V), Mk K C f ∧ FnOk P w K mg base CX0 k f fd ps (spV K S) ∧ mg x = some (.ref C) ∧ Binds K fd ps ds ∧ Vals dvs ds ∧ ∀ I, Reps K I dvs dds
section
variable {X : Cx} {a b c e o : Expr} {es : List Expr} {q q1 q2 q3 : Bool} {ra rb rc : RE} {rs : RA} {rv : RV} {pos p apos : Pos} {E : Ent} {I I' : Hp} {δ δ' : Env} {σ τ : St} {H H' : Hp} {v : V} {d : D} {i j k : Nat} {x m : Str} {f C : Addr} {fd : FuncData} {ps : List Str} {S : SpD} {dvs : List V} {ds : List Value} {dds : List D}
theorem tr_c (c : Cal X.prog X.w X.K X.mg X.base k x S dds) (hr : Room j X.A) (hk : k ≤ j) (ha : TrA X (e :: es) q rs) (hg : Gl X x := by rfl) (hdb : (x == ("__debug__" : Str)) = false := by decide) (he : starEach (e :: es) X.env = (false, eval e X.env) :: starEach es X.env := by rfl) (hpl : (backTo pos (starEach es X.env)).any (·.1) = false := by rfl) :
    TrE X (.Call (.Name x p) (e :: es) [] pos) q (rCall S rs dds) := by
  obtain ⟨f, fd, ps, ds, dvs, F, hm, kp, b, d, dd⟩ := c.ex
  exact tr_call F (hr.mono hk) hm kp b d dd hg ha hdb he hpl
theorem tr_c0 (c : Cal X.prog X.w X.K X.mg X.base k x S dds) (hr : Room j X.A) (hk : k ≤ j) (hg : Gl X x := by rfl) (hdb : (x == ("__debug__" : Str)) = false := by decide) : TrE X (.Call (.Name x p) [] [] pos) true (rCall S (fun δ Q => Q [] δ) dds) := by
  obtain ⟨f, fd, ps, ds, dvs, F, hm, kp, b, d, dd⟩ := c.ex
  exact tr_call0 F (hr.mono hk) hm kp b d dd hg hdb
theorem tr_cL (c : Cal X.prog X.w X.K X.mg X.base k x S dds) (hr : Room j X.A) (hk : k ≤ j) (ha : TrV X (e :: es) q rv) (hg : Gl X x := by rfl) (hdb : (x == ("__debug__" : Str)) = false := by decide) (he : starEach (e :: es) X.env = (false, eval e X.env) :: starEach es X.env := by rfl) (hpl : (backTo pos (starEach es X.env)).any (·.1) = false := by rfl) :
    TrE X (.Call (.Name x p) (e :: es) [] pos) false (rCallL S rv dds) := by
  obtain ⟨f, fd, ps, ds, dvs, F, hm, kp, b, d, dd⟩ := c.ex
  exact tr_callL F (hr.mono hk) hm kp b d dd hg ha hdb he hpl

/-! ### objects -/
theorem OwnFs.lookup_none {K : PySem.W.Frag} {k : Str} : ∀ {v : List (Str × V)} {o : List (Str × Fv)} {L : List Addr}, OwnFs K H I v o L → o.lookup k = none → v.lookup k = none
  | _, _, _, .nil, _ => rfl
  | _, _, _, .cons (k := j) h r, e => by
    rw [List.lookup_cons] at e ⊢
    cases hb : k == j with
    | true => rw [hb] at e; cases e
    | false => rw [hb] at e; exact OwnFs.lookup_none r e
theorem RepP.lookup_none {K : PySem.W.Frag} {κ : Type} [BEq κ] {k : κ} : ∀ {v : List (κ × V)} {o : List (κ × D)}, RepP K I v o → o.lookup k = none → v.lookup k = none
  | _, _, .nil, _ => rfl
  | _, _, .cons (k := j) h r, e => by
    rw [List.lookup_cons] at e ⊢
    cases hb : k == j with
    | true => rw [hb] at e; cases e
    | false => rw [hb] at e; exact RepP.lookup_none r e
/-- o.m(..): the object, then the arguments -/
def mS (C : Addr) (m : Str) (j : Nat) (k : Ag → Prop) : Option Slot → Prop
  | some (.ow _ (.ins C' fs)) => C' = C ∧ fs.lookup m = none ∧ k (.vr j)
  | _ => False
def mO (C : Addr) (m : Str) (k : Ag → Prop) : D → Prop
  | .obj C' fs => C' = C ∧ fs.lookup m = none ∧ k (.im (.obj C' fs))
  | _ => False
def mX (C : Addr) (m : Str) (x : Rd) (δ : Env) (k : Ag → Prop) : Prop := match x with
  | .vr j => mS C m j k δ[j]?
  | .im d => mO C m k d
  | _ => False
theorem mX_mono {C : Addr} {m : Str} {x : Rd} {k k' : Ag → Prop} (h : ∀ a, k a → k' a) (w : mX C m x δ k) : mX C m x δ k' := by
  cases x with
  | vr j =>
    have w : mS C m j k δ[j]? := w
    show mS C m j k' δ[j]?
    match δ[j]?, w with
    | some (.ow _ (.ins C' fs)), w => exact ⟨w.1, w.2.1, h _ w.2.2⟩
  | im d =>
    have w : mO C m k d := w
    show mO C m k' d
    match d, w with
    | .obj C' fs, w => exact ⟨w.1, w.2.1, h _ w.2.2⟩
  | «at» _ _ => exact w
  | tm _ => exact w
theorem mX_ok {K : PySem.W.Frag} {C : Addr} {m : Str} {y : Rd} {k : Ag → Prop} (st : RdSt K E I δ σ H v y) (w : mX C m y δ k) : ∃ ag, AgOk K I σ v ag ∧ k ag ∧ ∃ a dx fs, v = .ref a ∧ H a = some (.ins C dx fs) ∧ fs.lookup m = none := by
  cases y with
  | vr j =>
    have w : mS C m j k δ[j]? := w
    cases e : δ[j]? with
    | none => rw [e] at w; exact w.elim
    | some s =>
      rw [e] at w
      match s, e, w with
      | .ow p (.ins C' fs), e, w =>
        obtain ⟨rfl, w2, w3⟩ := w
        obtain ⟨u, L, g1, g2⟩ := st.1.ow_get e
        rw [st.2] at g1; cases g1
        cases g2 with
        | ins g r => exact ⟨.vr j, st.2, w3, _, _, _, rfl, g, r.lookup_none w2⟩
  | im d =>
    have w : mO C m k d := w
    match d, w with
    | .obj C' fs, w =>
      obtain ⟨rfl, w2, w3⟩ := w
      obtain ⟨S, r⟩ := st
      have r' := r
      cases r with
      | obj g r => exact ⟨.im (.obj C' fs), r', w3, _, _, _, rfl, S.le _ _ g, r.lookup_none w2⟩
  | «at» _ _ => exact w.elim
  | tm _ => exact w.elim
def rMeth (C : Addr) (m : Str) (S : SpD) (ra : RE) (rv : RV) (dds : List D) : RE := fun δ Q => ra δ fun x δ1 => mX C m x δ1 fun a => rv δ1 fun ags δ2 => callR S (a :: (ags ++ dds.map .im)) δ2 Q
theorem tr_m {pl : Sem Bool} (c : Met X.prog X.w X.K X.mg X.base k C m S dds) (hr : Room j X.A) (hk : k ≤ j) (ho : TrE X o q1 ra) (ha : TrV X (e :: es) q rv)
    (hst : starEach (e :: es) X.env = (false, eval e X.env) :: starEach es X.env := by rfl) (hpl : (backTo pos (starEach es X.env)).any (·.1) = false := by rfl)
    (ht : eval (.Call (.Attribute o m apos) (e :: es) [] pos) X.env = (do
      let ov ← eval o X.env
      standAt apos.atName
      let (f, first) ← holding [ov] (getMethod ov m pl)
      callWith pos f first (backTo pos (starEach (e :: es) X.env)) (backToKw pos (keywordEach [] X.env))) := by rfl) :
    TrE X (.Call (.Attribute o m apos) (e :: es) [] pos) false (rMeth C m S ra rv dds) := by
  obtain ⟨f, fd, ps, ds, dvs, cc, hm, F, b, d, dd⟩ := c.ex
  refine ⟨weakE (pe_meth (pl := pl) ho.pe cc hm F (hr.mono hk) b d pass0 ha.pa hst hpl ht) fun σ H Q _ ⟨E, I, δ, τ, Sa, h⟩ => ⟨E, I, δ, τ, Sa, ho.mono (fun y δ1 h1 v I1 H1 s1 k1 st => ?_) h⟩, fun h => ho.mono fun _ _ => mX_mono fun _ => ha.mono fun _ _ => callR_mono h⟩
  obtain ⟨ag, g1, g2, a, dx, fs, rfl, g3, g4⟩ := mX_ok st h1
  refine ⟨a, dx, fs, rfl, g3, g4, E, I1, δ1, τ, st.sta, ha.mono (fun as δ2 h2 vs I2 H2 s2 k2 S2 r2 => ?_) g2⟩
  exact callR_ok S2 (.cons (g1.mono s2) (r2.append (.of_reps (dd I2)))) h2 fun x δ3 v I' H' s3 st w => w v I' H' (s1.trans (s2.trans s3)) (fun z => by cases z) st
theorem tr_m0 {pl : Sem Bool} (c : Met X.prog X.w X.K X.mg X.base k C m S dds) (hr : Room j X.A) (hk : k ≤ j) (ho : TrE X o q1 ra)
    (ht : eval (.Call (.Attribute o m apos) [] [] pos) X.env = (do
      let ov ← eval o X.env
      standAt apos.atName
      let (f, first) ← holding [ov] (getMethod ov m pl)
      callWith pos f first (backTo pos (starEach [] X.env)) (backToKw pos (keywordEach [] X.env))) := by rfl) :
    TrE X (.Call (.Attribute o m apos) [] [] pos) false (rMeth C m S ra vNil dds) := by
  obtain ⟨f, fd, ps, ds, dvs, cc, hm, F, b, d, dd⟩ := c.ex
  refine ⟨weakE (pe_meth0 (pl := pl) ho.pe cc hm F (hr.mono hk) b d pass0 ht) fun σ H Q _ ⟨E, I, δ, τ, Sa, h⟩ => ⟨E, I, δ, τ, Sa, ho.mono (fun y δ1 h1 v I1 H1 s1 k1 st => ?_) h⟩, fun h => ho.mono fun _ _ => mX_mono fun _ => callR_mono h⟩
  obtain ⟨ag, g1, g2, a, dx, fs, rfl, g3, g4⟩ := mX_ok st h1
  refine ⟨a, dx, fs, rfl, g3, g4, ?_⟩
  exact callR_ok (xk := E0) (vs := .ref a :: ([] ++ dvs)) st.sta (.cons g1 (AgsOk.append .nil (.of_reps (dd I1)))) g2 fun x δ3 v I' H' s3 st w => w v I' H' (s1.trans s3) (fun z => by cases z) st
/-- C(..): the new object as a temporary -/
def mkX (ags : List Ag) (δ : Env) (Q : Rd → Env → Prop) (s : Slot) : List Slot → Prop
  | .ow .fresh o :: cs => s = .im .non ∧ backR ags cs δ fun δ3 => Q (.tm o) δ3
  | _ => False
def mkR (C : Addr) (S : SpD) (ags : List Ag) (δ : Env) (Q : Rd → Env → Prop) : Prop :=
  lendR ags δ [.ow .fresh (.ins C [])] fun δ2 as => S.r (argS 0 as) fun s bs => joinR as bs fun cs => mkX ags δ2 Q s cs
theorem mkX_mono {ags : List Ag} {Q Q' : Rd → Env → Prop} (h : ∀ x δ, Q x δ → Q' x δ) {s : Slot} {cs : List Slot} (w : mkX ags δ Q s cs) : mkX ags δ Q' s cs := by
  match cs, w with
  | .ow .fresh o :: cs, w => exact ⟨w.1, backR_mono (fun _ => h _ _) w.2⟩
theorem mkR_mono {ags : List Ag} {Q Q' : Rd → Env → Prop} (h : ∀ x δ, Q x δ → Q' x δ) (w : mkR C S ags δ Q) : mkR C S ags δ Q' :=
  lendR_mono (fun _ _ => S.mono fun _ _ => joinR_mono fun _ => mkX_mono h) w
theorem mkR_ok {K : PySem.W.Frag} {ags : List Ag} {vs : List V} {Q : Rd → Env → Prop} {R : VK} {xk : XK} {x dx : Addr} (Sa : Sta K E I δ σ H) (ok : AgsOk K I σ vs ags) (w : mkR C S ags δ Q) (hx : H x = none) (hdx : H dx = none) (ne : dx ≠ x)
    (k : ∀ y δ3 I' H', Same I I' → RdSt K E I' δ3 σ H' (.ref x) y → Q y δ3 → R (.ref x) H') : spV K S (.ref x :: vs) (upd (upd H dx (.own x)) x (.ins C dx [])) (fun v H2 => v = .non ∧ R (.ref x) H2) xk := by
  have S0 : Sta K E I (δ ++ [.ow .fresh (.ins C [])]) (σ ++ [some (.ref x)]) (upd (upd H dx (.own x)) x (.ins C dx [])) := by
    refine Sa.push (L' := [x]) (fun b o e => ?_) (fun a q => by rw [List.mem_singleton.mp q]; exact hx) (by simp) (.ins (L := []) upd_same .nil)
    rw [upd_ne (ne_of_none e hx), upd_ne (ne_of_none e hdx)]; exact e
  obtain ⟨δ2, as, h1, h2, h3, h4, _⟩ := lendR_ok (acc := [.ow .fresh (.ins C [])]) (ws := [.ref x]) (by simpa using S0) Sa.len ok w (fun s q => ⟨.non, _, _, .inr (List.mem_singleton.mp q)⟩)
  obtain ⟨L0, g1, _, g2⟩ := h2.callee (by rw [h3]; exact Sa.len) h4
  refine ⟨I, L0, _, g1, S.mono (fun s bs h v I' H' S' => ?_) h1⟩
  obtain ⟨cs, J, h⟩ := joinR_ok h
  match cs, J, h with
  | .ow .fresh o :: cs, J, h =>
    obtain ⟨rfl, h5⟩ := (show s = .im .non ∧ backR ags cs δ2 (fun δ3 => Q (.tm o) δ3) from h)
    have S2 := g2 bs _ (.im .non) v I' H' J trivial S'
    have hbl : bs.length = vs.length + 1 := by have := S'.len; simp at this; omega
    obtain ⟨u, u1, u2⟩ := S'.im_get (i := bs.length) (d := .non) (by rw [gr (Nat.le_refl _), Nat.sub_self]; rfl)
    rw [gr (by simp; omega)] at u1
    simp [hbl] at u1
    subst u1
    cases u2
    refine ⟨rfl, ?_⟩
    have S3 : Sta K E I' (δ2 ++ ([.ow .fresh o] ++ (cs ++ [.im .non]))) (σ ++ ([some (.ref x)] ++ (vs.map some ++ [some .non]))) H' := by simpa using S2
    obtain ⟨δ3, e1, e2, e3⟩ := backR_ok (kp := [.ow .fresh o]) (kv := [some (.ref x)]) rfl (J := I) S3 (by rw [h3]; exact Sa.len) ok h5
    have S4 : Sta K E I' (δ3 ++ [.ow .fresh o]) (σ ++ [some (.ref x)]) H' := Sta.pop (s := .im .non) (x := some .non) (by simpa using e2)
    exact k (.tm o) δ3 I' H' S'.i0 S4 e1
def rMake (C : Addr) (S : SpD) (rv : RV) (dds : List D) : RE := fun δ Q => rv δ fun ags δ1 => mkR C S (ags ++ dds.map .im) δ1 Q
theorem tr_mk (c : Mak X.prog X.w X.K X.mg X.base k x C S dds) (hr : Room j X.A) (hk : k + 1 ≤ j) (ha : TrV X (e :: es) q rv) (hg : Gl X x := by rfl) (hdb : (x == ("__debug__" : Str)) = false := by decide) (he : starEach (e :: es) X.env = (false, eval e X.env) :: starEach es X.env := by rfl) (hpl : (backTo pos (starEach es X.env)).any (·.1) = false := by rfl) :
    TrE X (.Call (.Name x p) (e :: es) [] pos) false (rMake C S rv dds) := by
  obtain ⟨f, fd, ps, ds, dvs, M, F, hm, b, d, dd⟩ := c.ex
  refine ⟨weakE (pe_make M F (hr.mono hk) hg hm b d pass0 ha.pa hdb he hpl) fun σ H Q _ ⟨E, I, δ, τ, Sa, h⟩ => ⟨E, I, δ, τ, Sa, ha.mono (fun as δ1 h1 vs I1 H1 s1 k1 S1 r1 => ?_) h⟩, fun h => ha.mono fun _ _ => mkR_mono h⟩
  intro y dy hy hdy ne
  exact mkR_ok (xk := E0) S1 (r1.append (.of_reps (dd I1))) h1 hy hdy ne fun x δ3 I' H' s2 st w => w _ I' H' (s1.trans s2) (fun z => by cases z) st
theorem tr_mk0 (c : Mak X.prog X.w X.K X.mg X.base k x C S dds) (hr : Room j X.A) (hk : k + 1 ≤ j) (hg : Gl X x := by rfl) (hdb : (x == ("__debug__" : Str)) = false := by decide) :
    TrE X (.Call (.Name x p) [] [] pos) false (rMake C S vNil dds) := by
  obtain ⟨f, fd, ps, ds, dvs, M, F, hm, b, d, dd⟩ := c.ex
  refine ⟨weakE (pe_make0 M F (hr.mono hk) hg hm b d pass0 hdb) fun σ H Q _ ⟨E, I, δ, τ, Sa, h⟩ => ?_, fun h => mkR_mono h⟩
  intro y dy hy hdy ne
  exact mkR_ok (xk := E0) (vs := [] ++ dvs) Sa (AgsOk.append .nil (.of_reps (dd I))) h hy hdy ne fun x δ3 I' H' s2 st w => w _ I' H' s2 (fun z => by cases z) st

/-! ### fields -/
def fS (C : Addr) (f : Str) (j : Nat) (k : Rd → Prop) : Option Slot → Prop
  | some (.ow _ (.ins C' fs)) => C' = C ∧ (match fs.lookup f with
    | some (.im d) => k (.im d)
    | some (.ob _) => k (.at j f)
    | none => False)
  | _ => False
def fO (C : Addr) (f : Str) (k : Rd → Prop) : D → Prop
  | .obj C' fs => C' = C ∧ (match fs.lookup f with
    | some d => k (.im d)
    | none => False)
  | _ => False
def fT (C : Addr) (f : Str) (k : Rd → Prop) : Ow → Prop
  | .ins C' fs => C' = C ∧ (match fs.lookup f with
    | some (.im d) => k (.im d)
    | _ => False)
  | _ => False
def fX (C : Addr) (f : Str) (x : Rd) (δ : Env) (k : Rd → Prop) : Prop := match x with
  | .vr j => fS C f j k δ[j]?
  | .im d => fO C f k d
  | .tm o => fT C f k o
  | _ => False
theorem fX_mono {C : Addr} {f : Str} {x : Rd} {k k' : Rd → Prop} (h : ∀ a, k a → k' a) (w : fX C f x δ k) : fX C f x δ k' := by
  cases x with
  | vr j =>
    have w : fS C f j k δ[j]? := w
    show fS C f j k' δ[j]?
    match δ[j]?, w with
    | some (.ow _ (.ins C' fs)), w =>
      refine ⟨w.1, ?_⟩
      have w2 := w.2
      match fs.lookup f, w2 with
      | some (.im d), w2 => exact h _ w2
      | some (.ob _), w2 => exact h _ w2
  | im d =>
    have w : fO C f k d := w
    show fO C f k' d
    match d, w with
    | .obj C' fs, w =>
      refine ⟨w.1, ?_⟩
      have w2 := w.2
      match fs.lookup f, w2 with
      | some d, w2 => exact h _ w2
  | «at» _ _ => exact w
  | tm o =>
    have w : fT C f k o := w
    show fT C f k' o
    match o, w with
    | .ins C' fs, w =>
      refine ⟨w.1, ?_⟩
      have w2 := w.2
      match fs.lookup f, w2 with
      | some (.im d), w2 => exact h _ w2
theorem OwnF.im_rep {K : PySem.W.Frag} {L : List Addr} (h : OwnF K H I v (.im d) L) : Rep K I v d := by cases h; assumption
theorem fX_ok {K : PySem.W.Frag} {C : Addr} {f : Str} {y : Rd} {k : Rd → Prop} (st : RdSt K E I δ σ H v y) (w : fX C f y δ k) : ∃ a dx fs u z, v = .ref a ∧ H a = some (.ins C dx fs) ∧ fs.lookup f = some u ∧ k z ∧ RdSt K E I δ σ H u z := by
  cases y with
  | vr j =>
    have w : fS C f j k δ[j]? := w
    cases e : δ[j]? with
    | none => rw [e] at w; exact w.elim
    | some s =>
      rw [e] at w
      match s, e, w with
      | .ow p (.ins C' fs), e, w =>
        obtain ⟨rfl, w2⟩ := w
        obtain ⟨u, L, g1, g2⟩ := st.1.ow_get e
        rw [st.2] at g1; cases g1
        cases g2 with
        | ins g r =>
          cases q : fs.lookup f with
          | none => rw [q] at w2; exact w2.elim
          | some x =>
            rw [q] at w2
            obtain ⟨u, M, k1, k2, _⟩ := r.lookup q
            cases x with
            | im d => exact ⟨_, _, _, u, .im d, rfl, g, k1, w2, st.1, k2.im_rep⟩
            | ob o => exact ⟨_, _, _, u, .at j f, rfl, g, k1, w2, st.1, _, _, _, _, st.2, g, k1⟩
  | im d =>
    have w : fO C f k d := w
    match d, w with
    | .obj C' fs, w =>
      obtain ⟨rfl, w2⟩ := w
      obtain ⟨S, r⟩ := st
      cases r with
      | obj g r =>
        cases q : fs.lookup f with
        | none => rw [q] at w2; exact w2.elim
        | some x =>
          rw [q] at w2
          obtain ⟨u, k1, k2⟩ := r.lookup q
          exact ⟨_, _, _, u, .im x, rfl, S.le _ _ g, k1, w2, S, k2⟩
  | «at» _ _ => exact w.elim
  | tm o =>
    have w : fT C f k o := w
    match o, w with
    | .ins C' fs, w =>
      obtain ⟨rfl, w2⟩ := w
      have S : Sta K E I (δ ++ [.ow .fresh (.ins C' fs)]) (σ ++ [some v]) H := st
      have hl : σ.length = δ.length := by have := S.len; simpa using this
      obtain ⟨u, L, g1, g2⟩ := S.ow_get (i := δ.length) (o := .ins C' fs) (p := .fresh) (by rw [gr (Nat.le_refl _)]; simp)
      rw [gr (by omega), hl, Nat.sub_self] at g1
      cases g1
      cases g2 with
      | ins g r =>
        cases q : fs.lookup f with
        | none => rw [q] at w2; exact w2.elim
        | some x =>
          rw [q] at w2
          obtain ⟨u, M, k1, k2, _⟩ := r.lookup q
          cases x with
          | im d => exact ⟨_, _, _, u, .im d, rfl, g, k1, w2, S.pop, k2.im_rep⟩
          | ob o => exact w2.elim
def rFld (C : Addr) (f : Str) (ra : RE) : RE := fun δ Q => ra δ fun x δ1 => fX C f x δ1 fun y => Q y δ1
theorem tr_fld {f : Str} (c : Cls X.K C) (n : NoAttr X.K C f) (ha : TrE X e q ra) (hb : attributeBase e f X.env (eval e X.env) = eval e X.env := by rfl) : TrE X (.Attribute e f pos) q (rFld C f ra) := by
  refine ⟨weakE (pe_fld ha.pe hb) fun σ H Q _ ⟨E, I, δ, τ, Sa, h⟩ => ⟨E, I, δ, τ, Sa, ha.mono (fun x δ1 h1 v I1 H1 s1 k1 st => ?_) h⟩, fun h => ha.mono fun _ _ => fX_mono fun _ => h _ _⟩
  obtain ⟨a, dx, fs, u, z, rfl, g1, g2, g3, g4⟩ := fX_ok st h1
  exact ⟨a, C, dx, fs, u, rfl, g1, c, n, g2, g3 u I1 H1 s1 k1 g4⟩
end
end DL
end
section
set_option Elab.async false
set_option linter.all false
set_option maxRecDepth 100000
set_option maxHeartbeats 4000000
namespace DL
open PySem L2

/-! ### owned places: a name, or a field of an owned object -/
def obV : Option Slot → Option Ob
  | some (.ow _ (.ob o)) => some o
  | _ => none
def obF : Option Fv → Option Ob
  | some (.ob o) => some o
  | _ => none
def obI (f : Str) : Option Slot → Option Ob
  | some (.ow _ (.ins _ fs)) => obF (fs.lookup f)
  | _ => none
def obAt (δ : Env) (x : Rd) : Option Ob := match x with
  | .vr j => obV δ[j]?
  | .at j f => obI f δ[j]?
  | _ => none
def setFv (f : Str) (x : Fv) : List (Str × Fv) → List (Str × Fv)
  | [] => []
  | (g, y) :: r => if f == g then (g, x) :: r else (g, y) :: setFv f x r
def setV (δ : Env) (j : Nat) (o : Ob) : Option Slot → Env
  | some (.ow p _) => δ.set j (.ow p (.ob o))
  | _ => δ
def setI (δ : Env) (j : Nat) (f : Str) (o : Ob) : Option Slot → Env
  | some (.ow p (.ins C fs)) => δ.set j (.ow p (.ins C (setFv f (.ob o) fs)))
  | _ => δ
def setOb (δ : Env) (x : Rd) (o : Ob) : Env := match x with
  | .vr j => setV δ j o δ[j]?
  | .at j f => setI δ j f o δ[j]?
  | _ => δ
def RdV (σ : St) (H : Hp) (v : V) : Rd → Prop
  | .vr j => σ[j]? = some (some v)
  | .at j f => ∃ a C dx vs, σ[j]? = some (some (.ref a)) ∧ H a = some (.ins C dx vs) ∧ vs.lookup f = some v
  | _ => False
section
variable {K : PySem.W.Frag} {E : Ent} {I I' : Hp} {δ δ' ε : Env} {σ τ : St} {H H' : Hp} {v : V} {o : Ow} {d : D} {i : Nat} {x : Rd} {ob : Ob}
theorem RdSt.rdV (h : RdSt K E I δ σ H v x) (q : x = .im d → False) (q2 : ∀ o, x = .tm o → False) (q1 : ∀ d, x = .im d → False) : RdV σ H v x := by
  cases x with
  | im d => exact (q1 d rfl).elim
  | vr j => exact h.2
  | «at» j f => exact h.2
  | tm o => exact (q2 o rfl).elim
theorem OwnFs.updOb {f : Str} {a : Addr} {hn : HO} {o o' : Ob} (r : RepO K I hn o') : ∀ {vs : List (Str × V)} {fs : List (Str × Fv)} {L : List Addr}, OwnFs K H I vs fs L → vs.lookup f = some (.ref a) → fs.lookup f = some (.ob o) → L.Nodup → OwnFs K (upd H a hn) I vs (setFv f (.ob o') fs) L
  | _, _, _, .nil, e, _, _ => by cases e
  | _, _, _, .cons (k := g) (L := L) (M := M) h rr, e, e2, nd => by
    rw [List.lookup_cons] at e e2
    unfold setFv
    obtain ⟨n1, n2, n3⟩ := List.nodup_append.mp nd
    cases hb : f == g with
    | true =>
      rw [hb] at e e2
      cases e; cases e2
      rw [if_pos rfl]
      cases h with
      | ob h => cases h with
        | mk h0 r0 =>
          refine .cons (.ob (.mk upd_same r)) (rr.keep (L2.Same.refl _) fun b q => ?_)
          rw [upd_ne]
          intro z
          exact n3 a (by simp) b q z.symm
    | false =>
      rw [hb] at e e2
      rw [if_neg Bool.false_ne_true]
      obtain ⟨u, M', k1, k2, k3⟩ := rr.lookup e2
      have e : List.lookup f _ = some (V.ref a) := e
      rw [e] at k1; cases k1
      have ha : a ∈ M := by
        cases k2 with
        | ob h => cases h with
          | mk h0 r0 => exact k3 a (by simp)
      refine .cons (h.keep (L2.Same.refl _) fun b q => ?_) (OwnFs.updOb r rr e e2 n2)
      rw [upd_ne]
      intro z
      exact n3 b q a ha z
/-- an owned place is written -/
theorem Sta.mutOb (S : Sta K E I δ σ H) (hv : RdV σ H v x) (e : obAt δ x = some ob) : ∃ a h, v = .ref a ∧ H a = some h ∧ RepO K I h ob ∧
    ∀ (h' : HO) (ob' : Ob), RepO K I h' ob' → Sta K E I (setOb δ x ob') σ (upd H a h') := by
  cases x with
  | im d => exact hv.elim
  | tm o => exact hv.elim
  | vr j =>
    have e : obV δ[j]? = some ob := e
    cases q : δ[j]? with
    | none => rw [q] at e; cases e
    | some s =>
      rw [q] at e
      match s, q, e with
      | .ow p (.ob o), q, e =>
        cases e
        obtain ⟨w, L, w1, ow, nd, nI, step⟩ := S.mut q
        rw [show σ[j]? = some (some v) from hv] at w1; cases w1
        cases ow with
        | ob ow => cases ow with
          | mk g r =>
            rename_i a h
            refine ⟨a, h, rfl, g, r, fun h' ob' r' => ?_⟩
            have := step (upd H a h') (.ob ob') [a] (.ob (.mk upd_same r')) nd (fun b z => .inl z) (fun b z _ => upd_ne (fun y => z (by simp [y]))) (fun b z => by
              by_cases y : b = a
              · subst y; rw [upd_same]; simp
              · rw [upd_ne y]; exact z)
            show Sta K E I (setV δ j ob' δ[j]?) σ _
            rw [q]; exact this
  | «at» j f =>
    have e : obI f δ[j]? = some ob := e
    cases q : δ[j]? with
    | none => rw [q] at e; cases e
    | some s =>
      rw [q] at e
      match s, q, e with
      | .ow p (.ins C fs), q, e =>
        have e : obF (fs.lookup f) = some ob := e
        cases l : fs.lookup f with
        | none => rw [l] at e; cases e
        | some y =>
          rw [l] at e
          cases y with
          | im d => cases e
          | ob o =>
            cases e
            obtain ⟨a0, C', dx, vs, g1, g2, g3⟩ := hv
            obtain ⟨w, L, w1, ow, nd, nI, step⟩ := S.mut q
            rw [g1] at w1; cases w1
            cases ow with
            | ins g r =>
              rename_i dx' vs' L
              rw [g2] at g
              cases g
              obtain ⟨u, M, k1, k2, k3⟩ := r.lookup l
              rw [g3] at k1; cases k1
              cases k2 with
              | ob k2 => cases k2 with
                | mk k4 k5 =>
                  rename_i a h
                  have hLa : a ∈ L := k3 a (by simp)
                  obtain ⟨nd1, nd2⟩ := List.nodup_cons.mp nd
                  have ne : a0 ≠ a := fun z => nd1 (by rw [z]; exact hLa)
                  refine ⟨a, h, rfl, k4, k5, fun h' ob' r' => ?_⟩
                  have := step (upd H a h') (.ins C (setFv f (.ob ob') fs)) (a0 :: L) (.ins (by rw [upd_ne ne]; exact g2) (r.updOb r' g3 l nd2)) nd (fun b z => .inl z) (fun b z _ => upd_ne (fun y => z (by rw [y]; exact List.mem_cons_of_mem _ hLa))) (fun b z => by
                    by_cases y : b = a
                    · subst y; rw [upd_same]; simp
                    · rw [upd_ne y]; exact z)
                  show Sta K E I (setI δ j f ob' δ[j]?) σ _
                  rw [q]; exact this
end

/-! ### methods of owned lists -/
section
variable {X : Cx} {a b c e o value : Expr} {es : List Expr} {q q1 q2 q3 : Bool} {ra rb rc rv : RE} {rs : RA} {pos pos' p apos cpos : Pos} {E : Ent} {I I' : Hp} {δ δ' : Env} {σ τ : St} {H H' : Hp} {v : V} {d : D}
/-- the place's reading is still good behind quiet steps, a name's behind any -/
def stays (q : Bool) : Rd → Prop
  | .vr _ => True
  | .at _ _ => q = true
  | _ => False
theorem stays_ok {K : PySem.W.Frag} {x : Rd} {q : Bool} (s : stays q x) (st : RdSt K E I δ σ H v x) (k : q = true → Same H H') : RdV σ H' v x := by
  cases x with
  | im d => exact s.elim
  | tm o => exact s.elim
  | vr j => exact st.2
  | «at» j f =>
    obtain ⟨_, a, C, dx, vs, h1, h2, h3⟩ := st
    exact ⟨a, C, dx, vs, h1, k s _ _ h2, h3⟩
/-- what a method does: the thing, the arguments, then the thing and the result -/
abbrev MtD := Ob → List D → (Ob → D → Prop) → Prop
inductive OK where
  | lst | dct
def OK.T : OK → String
  | .lst => "list"
  | .dct => "dict"
def OK.of : OK → Option Ob → Prop
  | .lst, some (.lst _) => True
  | .dct, some (.dK _) => True
  | .dct, some (.dT _) => True
  | _, _ => False
theorem OK.ty {K : PySem.W.Frag} {t : OK} {x : Rd} (h : t.of (obAt δ x)) (S : Sta K E I δ σ H) (hv : RdV σ H v x) : tyV K t.T v H := by
  cases q : obAt δ x with
  | none => rw [q] at h; cases t <;> exact h.elim
  | some ob =>
    rw [q] at h
    obtain ⟨a, u, rfl, e, r, _⟩ := S.mutOb hv q
    match t, ob, h, r with
    | .lst, .lst _, _, .lst r => exact .inl ⟨rfl, _, .inl (.inl e)⟩
    | .dct, .dK _, _, .dK r => exact .inr (.inr (.inl ⟨rfl, .inl ⟨_, e⟩⟩))
    | .dct, .dT _, _, .dT r => exact .inr (.inr (.inl ⟨rfl, .inr ⟨_, e⟩⟩))
structure MtIm (X : Cx) (r : V → List V → Hp → VK → Prop) (f : MtD) : Prop where
  run : ∀ {ob : Ob} {ds : List D} {k : Ob → D → Prop} {a : Addr} {h : HO} {H I : Hp} {vs : List V} {Q : VK}, f ob ds k → H a = some h → RepO X.K I h ob → Reps X.K I vs ds → Same I H →
    (∀ (h' : HO) (ob' : Ob) (v : V) (d : D), RepO X.K I h' ob' → Rep X.K I v d → k ob' d → Q v (upd H a h')) → r (.ref a) vs H Q
  mono : ∀ {ob : Ob} {ds : List D} {k k' : Ob → D → Prop}, (∀ o d, k o d → k' o d) → f ob ds k → f ob ds k'
def rMt (t : OK) (f : MtD) (q : Bool) (ra : RE) (rs : RA) : RE := fun δ Q => ra δ fun x δ1 => stays q x ∧ t.of (obAt δ1 x) ∧ rs δ1 fun ds δ2 => onSome (fun ob => f ob ds fun ob' d => Q (.im d) (setOb δ2 x ob')) (obAt δ2 x)
theorem rdV_of {K : PySem.W.Frag} {x : Rd} {q : Bool} (s : stays q x) (st : RdSt K E I δ σ H v x) : RdV σ H v x := stays_ok s st fun _ => L2.Same.refl _
theorem tr_mt {name : Str} {id : String} {r : V → List V → Hp → VK → Prop} {f : MtD} (t : OK) (pa : PySem.PlainAttrs t.T) (slot : PySem.Slot t.T name id) (hty : typeOf (.builtin id) = pure (.type "method_descriptor")) (hm : MtR X id r) (hf : MtIm X r f) (ho : TrE X o q1 ra) (ha : TrA X (e :: es) q2 rs)
    (hbase : attributeBase o name X.env (eval o X.env) = eval o X.env := by rfl)
    (hfew : ((backTo cpos (starEach (e :: es) X.env)).all (fun x => !x.1) && (backToKw cpos (keywordEach [] X.env)).all (fun x => x.1.isSome)
      && decide ((e :: es).length + ([] : List Keyword).length + (if ([] : List Keyword).isEmpty then 0 else 1) < 30)) = true := by rfl)
    (hline : (apos.endLine == cpos.line) = true := by rfl) (hs : starEach (e :: es) X.env = (false, eval e X.env) :: starEach es X.env := by rfl) (hplain : (backTo cpos (starEach es X.env)).any (·.1) = false := by rfl) :
    TrE X (.Call (.Attribute o name apos) (e :: es) [] cpos) false (rMt t f q2 ra rs) := by
  refine ⟨weakE (pe_bm pa slot hty hm ho.pe ha.pa hbase hfew hline hs hplain) fun σ H Q _ ⟨E, I, δ, τ, Sa, h⟩ => ⟨E, I, δ, τ, Sa, ho.mono (fun x δ1 h1 v I1 H1 s1 k1 st => ?_) h⟩, fun h => ho.mono fun _ _ w => ⟨w.1, w.2.1, ha.mono (fun _ _ => onSome_mono fun _ => hf.mono fun _ _ => h _ _) w.2.2⟩⟩
  obtain ⟨hst, hk, h1⟩ := h1
  refine ⟨OK.ty hk st.sta (rdV_of hst st), E, I1, δ1, τ, st.sta, ha.mono (fun ds δ2 h2 vs I2 H2 s2 k2 S2 r2 => ?_) h1⟩
  obtain ⟨ob, e1, h2⟩ := onSome_ok h2
  obtain ⟨a, u, rfl, g1, g2, g3⟩ := S2.mutOb (stays_ok hst st k2) e1
  refine hf.run h2 g1 g2 r2 S2.le fun h' ob' v d r3 r4 h3 => ?_
  exact h3 v I2 _ (s1.trans s2) (fun z => by cases z) ⟨g3 h' ob' r3, r4⟩
theorem tr_mt0 {name : Str} {id : String} {r : V → List V → Hp → VK → Prop} {f : MtD} (t : OK) (pa : PySem.PlainAttrs t.T) (slot : PySem.Slot t.T name id) (hty : typeOf (.builtin id) = pure (.type "method_descriptor")) (hm : MtR X id r) (hf : MtIm X r f) (ho : TrE X o q1 ra)
    (hbase : attributeBase o name X.env (eval o X.env) = eval o X.env := by rfl) (hline : (apos.endLine == cpos.line) = true := by rfl) : TrE X (.Call (.Attribute o name apos) [] [] cpos) false (rMt t f true ra aNil) := by
  refine ⟨weakE (pe_bm0 pa slot hty hm ho.pe hbase hline) fun σ H Q _ ⟨E, I, δ, τ, Sa, h⟩ => ⟨E, I, δ, τ, Sa, ho.mono (fun x δ1 h1 v I1 H1 s1 k1 st => ?_) h⟩, fun h => ho.mono fun _ _ w => ⟨w.1, w.2.1, onSome_mono (fun _ => hf.mono fun _ _ => h _ _) w.2.2⟩⟩
  obtain ⟨hst, hk, h1⟩ := h1
  refine ⟨OK.ty hk st.sta (rdV_of hst st), ?_⟩
  have h2 : onSome _ (obAt δ1 x) := h1
  obtain ⟨ob, e1, h2⟩ := onSome_ok h2
  obtain ⟨a, u, rfl, g1, g2, g3⟩ := st.sta.mutOb (rdV_of hst st) e1
  refine hf.run h2 g1 g2 .nil st.sta.le fun h' ob' v d r3 r4 h3 => ?_
  exact h3 v I1 _ s1 (fun z => by cases z) ⟨g3 h' ob' r3, r4⟩

/-! lists -/
def mAppend : MtD
  | .lst xs, [d], k => xs.length < sizeLine ∧ k (.lst (xs ++ [d])) .non
  | _, _, _ => False
theorem im_append : MtIm X rAppend mAppend where
  run {ob ds k a h H I vs Q} hf e r rs m w := by
    match ob, ds, hf, r, rs with
    | .lst xs, [d], hf, .lst r, .cons r1 .nil => exact ⟨a, _, _, rfl, rfl, e, by rw [r.length]; exact hf.1, w _ _ _ _ (.lst (r.append (.cons r1 .nil))) .non hf.2⟩
  mono {ob ds k k'} h w := by
    match ob, ds, w with
    | .lst xs, [d], w => exact ⟨w.1, h _ _ w.2⟩
def mPop : MtD
  | .lst xs, [], k => onSome (fun y => k (.lst xs.dropLast) y) xs[xs.length - 1]?
  | _, _, _ => False
theorem im_pop : MtIm X rPop mPop where
  run {ob ds k a h H I vs Q} hf e r rs m w := by
    match ob, ds, hf, r, rs with
    | .lst xs, [], hf, .lst r, .nil =>
      obtain ⟨y, e1, hf⟩ := onSome_ok hf
      obtain ⟨u, u1, u2⟩ := r.get e1
      exact ⟨a, _, u, rfl, rfl, e, by rw [r.length]; exact u1, w _ _ _ _ (.lst r.dropLast) u2 hf⟩
  mono {ob ds k k'} h w := by
    match ob, ds, w with
    | .lst xs, [], w => exact onSome_mono (fun _ => h _ _) w
def mPopAt : MtD
  | .lst xs, [.int i], k => -(2 ^ 63) ≤ i ∧ i < 2 ^ 63 ∧ onSome (fun j => onSome (fun y => k (.lst (xs.eraseIdx j)) y) xs[j]?) (seqIndex? i xs.length)
  | _, _, _ => False
theorem im_popAt : MtIm X rPopAt mPopAt where
  run {ob ds k a h H I vs Q} hf e r rs m w := by
    match ob, ds, hf, r, rs with
    | .lst xs, [.int i], hf, .lst r, .cons (.int _) .nil =>
      obtain ⟨z1, z2, hf⟩ := hf
      obtain ⟨j, e0, hf⟩ := onSome_ok hf
      obtain ⟨y, e1, hf⟩ := onSome_ok hf
      obtain ⟨u, u1, u2⟩ := r.get e1
      exact ⟨a, _, i, j, u, rfl, rfl, e, z1, z2, by rw [r.length]; exact e0, u1, w _ _ _ _ (.lst (r.eraseIdx j)) u2 hf⟩
  mono {ob ds k k'} h w := by
    match ob, ds, w with
    | .lst xs, [.int i], w => exact ⟨w.1, w.2.1, onSome_mono (fun _ => onSome_mono fun _ => h _ _) w.2.2⟩
def mReverse : MtD
  | .lst xs, [], k => k (.lst xs.reverse) .non
  | _, _, _ => False
theorem im_reverse : MtIm X rReverse mReverse where
  run {ob ds k a h H I vs Q} hf e r rs m w := by
    match ob, ds, hf, r, rs with
    | .lst xs, [], hf, .lst r, .nil => exact ⟨a, _, rfl, rfl, e, w _ _ _ _ (.lst r.reverse) .non hf⟩
  mono {ob ds k k'} h w := by
    match ob, ds, w with
    | .lst xs, [], w => exact h _ _ w
def mExtend : MtD
  | .lst xs, [.lst ys], k => xs.length + ys.length ≤ sizeLine ∧ k (.lst (xs ++ ys)) .non
  | _, _, _ => False
theorem im_extend : MtIm X rExtend mExtend where
  run {ob ds k a h H I vs Q} hf e r rs m w := by
    match ob, ds, hf, r, rs with
    | .lst xs, [.lst ys], hf, .lst r, .cons (.lst e2 r2) .nil => exact ⟨a, _, _, _, rfl, rfl, e, m _ _ e2, by rw [r.length, r2.length]; exact hf.1, w _ _ _ _ (.lst (r.append r2)) .non hf.2⟩
  mono {ob ds k k'} h w := by
    match ob, ds, w with
    | .lst xs, [.lst ys], w => exact ⟨w.1, h _ _ w.2⟩
abbrev rAppendD := rMt .lst mAppend
abbrev rPopD := rMt .lst mPop
abbrev rPopAtD := rMt .lst mPopAt
abbrev rReverseD := rMt .lst mReverse
abbrev rExtendD := rMt .lst mExtend
theorem tr_append (ho : TrE X o q1 ra) (ha : TrA X [e] q2 rs) (hbase : attributeBase o "append" X.env (eval o X.env) = eval o X.env := by rfl)
    (hfew : ((backTo cpos (starEach [e] X.env)).all (fun x => !x.1) && (backToKw cpos (keywordEach [] X.env)).all (fun x => x.1.isSome)
      && decide ([e].length + ([] : List Keyword).length + (if ([] : List Keyword).isEmpty then 0 else 1) < 30)) = true := by rfl)
    (hline : (apos.endLine == cpos.line) = true := by rfl) (hs : starEach [e] X.env = (false, eval e X.env) :: starEach [] X.env := by rfl) (hplain : (backTo cpos (starEach [] X.env)).any (·.1) = false := by rfl) :
    TrE X (.Call (.Attribute o "append" apos) [e] [] cpos) false (rAppendD q2 ra rs) := tr_mt .lst PySem.F.plainAttrs_list PySem.F.slot_list_append PySem.F.type_list_append mt_append im_append ho ha hbase hfew hline hs hplain
theorem tr_extend (ho : TrE X o q1 ra) (ha : TrA X [e] q2 rs) (hbase : attributeBase o "extend" X.env (eval o X.env) = eval o X.env := by rfl)
    (hfew : ((backTo cpos (starEach [e] X.env)).all (fun x => !x.1) && (backToKw cpos (keywordEach [] X.env)).all (fun x => x.1.isSome)
      && decide ([e].length + ([] : List Keyword).length + (if ([] : List Keyword).isEmpty then 0 else 1) < 30)) = true := by rfl)
    (hline : (apos.endLine == cpos.line) = true := by rfl) (hs : starEach [e] X.env = (false, eval e X.env) :: starEach [] X.env := by rfl) (hplain : (backTo cpos (starEach [] X.env)).any (·.1) = false := by rfl) :
    TrE X (.Call (.Attribute o "extend" apos) [e] [] cpos) false (rExtendD q2 ra rs) := tr_mt .lst PySem.F.plainAttrs_list PySem.F.slot_list_extend PySem.F.type_list_extend mt_extend im_extend ho ha hbase hfew hline hs hplain
theorem tr_popAt (ho : TrE X o q1 ra) (ha : TrA X [e] q2 rs) (hbase : attributeBase o "pop" X.env (eval o X.env) = eval o X.env := by rfl)
    (hfew : ((backTo cpos (starEach [e] X.env)).all (fun x => !x.1) && (backToKw cpos (keywordEach [] X.env)).all (fun x => x.1.isSome)
      && decide ([e].length + ([] : List Keyword).length + (if ([] : List Keyword).isEmpty then 0 else 1) < 30)) = true := by rfl)
    (hline : (apos.endLine == cpos.line) = true := by rfl) (hs : starEach [e] X.env = (false, eval e X.env) :: starEach [] X.env := by rfl) (hplain : (backTo cpos (starEach [] X.env)).any (·.1) = false := by rfl) :
    TrE X (.Call (.Attribute o "pop" apos) [e] [] cpos) false (rPopAtD q2 ra rs) := tr_mt .lst PySem.F.plainAttrs_list PySem.F.slot_list_pop PySem.F.type_list_pop mt_popAt im_popAt ho ha hbase hfew hline hs hplain
theorem tr_pop (ho : TrE X o q1 ra) (hbase : attributeBase o "pop" X.env (eval o X.env) = eval o X.env := by rfl) (hline : (apos.endLine == cpos.line) = true := by rfl) : TrE X (.Call (.Attribute o "pop" apos) [] [] cpos) false (rPopD true ra aNil) :=
  tr_mt0 .lst PySem.F.plainAttrs_list PySem.F.slot_list_pop PySem.F.type_list_pop mt_pop im_pop ho hbase hline
theorem tr_reverse (ho : TrE X o q1 ra) (hbase : attributeBase o "reverse" X.env (eval o X.env) = eval o X.env := by rfl) (hline : (apos.endLine == cpos.line) = true := by rfl) : TrE X (.Call (.Attribute o "reverse" apos) [] [] cpos) false (rReverseD true ra aNil) :=
  tr_mt0 .lst PySem.F.plainAttrs_list PySem.F.slot_list_reverse PySem.F.type_list_reverse mt_reverse im_reverse ho hbase hline

/-! ### stores -/
/-- o[i] = value, of an owned list or dict -/
def putD : Ob → D → D → (Ob → Prop) → Prop
  | .lst xs, .int i, v, k => onSome (fun j => k (.lst (xs.set j v))) (ixN xs.length i)
  | .dK kvs, i, v, k => onSome (fun j => kvs.length < sizeLine ∧ k (.dK (kput kvs j v))) i.key
  | .dT kvs, .tup is, v, k => onSome (fun j => kvs.length < sizeLine ∧ k (.dT (kput kvs j v))) (D.keys is)
  | _, _, _, _ => False
theorem putD_mono : ∀ {ob : Ob} {i v : D} {k k' : Ob → Prop}, (∀ o, k o → k' o) → putD ob i v k → putD ob i v k'
  | .lst xs, .int i, v, _, _, h, w => onSome_mono (fun _ => h _) w
  | .dK kvs, i, v, _, _, h, w => by unfold putD at w ⊢; exact onSome_mono (fun _ w => ⟨w.1, h _ w.2⟩) w
  | .dT kvs, .tup is, v, _, _, h, w => by unfold putD at w ⊢; exact onSome_mono (fun _ w => ⟨w.1, h _ w.2⟩) w
def rSub (ra rb rv : RE) (q : Bool) : RS := fun De δ => r1 rv (fun v δ1 => ra δ1 fun x δ2 => stays q x ∧ r1 rb (fun i δ3 => onSome (fun ob => putD ob i v fun ob' => De.nx (setOb δ3 x ob')) (obAt δ3 x)) δ2) δ
def rSetA : TSet := fun o i v H Q => rSetL o i v H Q ∨ rSetD o i v H Q
theorem set_all (hu : X.A.units + 1 < cLine) : PSet X rSetA := by
  intro pins s σ H o i v ov iv u Q I ro ri rv h
  rcases h with h | h
  · exact set_list pins s σ H o i v ov iv u Q I ro ri rv h
  · exact set_dict hu pins s σ H o i v ov iv u Q I ro ri rv h
theorem ts_sub (hu : X.A.units + 1 < cLine) (hv : TrE X value q1 rv) (ho : TrE X o q2 ra) (hi : TrE X e q3 rb)
    (ha : ∀ v, assign (.Subscript o e pos') X.env v = (do
      let ov ← holding [v] (eval o X.env)
      let iv ← holding [v, ov] (eval e X.env)
      standAt pos'
      holding [v, ov, iv] (setItem ov iv v)
      release [v, ov, iv] []) := by intro _; rfl)
    (hs : swapsWithSole [.Subscript o e pos'] value pos.line X.env = pure false := by rfl) (hw : swappedStores [.Subscript o e pos'] value X.env = pure none := by rfl)
    (h1 : (assignEach [.Subscript o e pos'] X.env).map (·.2) = [assign (.Subscript o e pos') X.env] := by rfl) : TrS X (.Assign [.Subscript o e pos'] value pos) (rSub ra rb rv q3) := by
  refine ⟨weakS (ps_asg hv.pe (pg_sub ho.pe hi.pe (set_all hu) ha) hs hw h1) fun D σ H hl ⟨E, I, δ, τ, De, S, h, k⟩ => one hv S h fun v d δ1 I1 H1 s1 k1 S1 rp h1 => ?_,
    fun k => r1_mono hv fun _ _ => ho.mono fun _ _ w => ⟨w.1, r1_mono hi (fun _ _ => onSome_mono fun _ => putD_mono fun _ => k.nx _) w.2⟩⟩
  refine ⟨E, I1, δ1, τ, S1, ho.mono (fun x δ2 h2 w I2 H2 s2 k2 st => ?_) h1⟩
  obtain ⟨hst, h2⟩ := h2
  refine one hi st.sta h2 fun u z δ3 I3 H3 s3 k3 S3 rz h3 => ?_
  obtain ⟨ob, e1, h3⟩ := onSome_ok h3
  obtain ⟨a, h, rfl, g1, g2, g3⟩ := S3.mutOb (stays_ok hst st k3) e1
  have rd := (Rep.mono (s2.trans s3) rp)
  match ob, z, h3, g2, rz with
  | .lst xs, .int i, h3, .lst r, .int _ =>
    obtain ⟨j, e2, h3⟩ := onSome_ok h3
    exact .inl ⟨a, _, i, j, rfl, rfl, g1, by rw [r.length]; exact e2, k.nx _ _ _ _ hl (g3 _ _ (.lst (r.set j rd))) h3⟩
  | .dK kvs, z, h3, .dK r, rz =>
    unfold putD at h3
    obtain ⟨j, e2, h3⟩ := onSome_ok h3
    refine .inr ⟨a, _, rfl, .inl ⟨_, j, g1, key_rep rz e2, by rw [r.length]; exact h3.1, rfl⟩, k.nx _ _ _ _ hl (g3 _ _ (.dK (r.put j rd))) h3.2⟩
  | .dT kvs, .tup is, h3, .dT r, .tup e3 rs =>
    unfold putD at h3
    obtain ⟨j, e2, h3⟩ := onSome_ok h3
    refine .inr ⟨a, _, rfl, .inr ⟨_, j, _, g1, rfl, by rw [S3.le _ _ e3, keys_reps rs e2], by rw [r.length]; exact h3.1, rfl⟩, k.nx _ _ _ _ hl (g3 _ _ (.dT (r.put j rd))) h3.2⟩
end
end DL
end
section
set_option Elab.async false
set_option linter.all false
set_option maxRecDepth 100000
set_option maxHeartbeats 4000000
namespace DL
open PySem L2
/-- the turns from any heap -/
theorem it_any {J : It} {n : Nat} {G : Hp → Prop} {Y : Nat → Hp → V → Hp → Prop} (w : Walk J n G Y) {S : (Hp → Prop) → V → Hp → Prop} (H0 : Hp) {Qd : Hp → Prop} (Pv : Nat → Hp → Prop) (h0 : Pv 0 H0) (hG : ∀ i H, i ≤ n → Pv i H → G H)
    (hs : ∀ i x H H', i < n → Pv i H → Y i H x H' → S (Pv (i + 1)) x H') (hd : ∀ H, Pv n H → Qd H) :
    ∃ W : Nat → Nat → Hp → Prop, (∃ m, W 0 m H0) ∧ ∀ i m H, W i m H → (J.stop i H ∧ Qd H) ∨ (J.go i H ∧ ∃ Nx : Hp → Prop, (∀ H', Nx H' → ∃ m', m' < m ∧ W (i + 1) m' H') ∧ ∀ x H', J.yld i H x H' → S Nx x H') := by
  refine ⟨fun i m H => m = n - i ∧ i ≤ n ∧ Pv i H, ⟨n, by simp, Nat.zero_le _, h0⟩, ?_⟩
  rintro i m H ⟨rfl, hi, p⟩
  have q := hG i H hi p
  by_cases hlt : i < n
  · exact .inr ⟨w.goes i H hlt q, Pv (i + 1), fun H' p' => ⟨n - (i + 1), by omega, rfl, hlt, p'⟩, fun x H' y => hs i x H H' hlt p (w.yields i H x H' hlt q y)⟩
  · have e : i = n := by omega
    subst e
    exact .inl ⟨w.stops H q, hd H p⟩

section
variable {X : Cx} {a b c e tg iter elt tg1 iter1 : Expr} {es rest ifs ifs1 : List Expr} {q q1 q2 q3 q4 q5 : Bool} {ra rb rc re : RE} {rt rt1 : RT} {rs : RA} {rI rI1 : RI} {g g1 : RG} {ts ts1 vs vs1 : List Nat} {pos p tpos : Pos}
abbrev acS (acc : List D) : Slot := .ow .fresh (.ob (.lst acc))
/-- the turns of the inner loop -/
theorem goLc_run {K : PySem.W.Frag} {E : Ent} {I1 : Hp} {δ1 : Env} {σ1 σ0 ρ : St} {xs : List D} {J : It} {G : Hp → Prop} {Y : Nat → Hp → V → Hp → Prop} {n m base : Nat} {D0 : Addr} (hK : X.K = K) (hX : X.N.length = n) (w : Walk J xs.length G Y)
    (g0 : TrG X tg ts g) (t0 : TrTs X ifs q2 rt) (e0 : TrE X elt q3 re) (hl0 : σ0.length = n) (hts : ∀ i ∈ ts, i ∈ vs) (hlt : ∀ i ∈ vs, i < n) (hnm : n ≤ m) (hmb : m < base) (hbn : n ≤ base) (hσ1 : ∀ k : Nat, base ≤ k → k < σ1.length → (wipe σ0 vs ++ ρ)[k]? = σ1[k]?) (hpos : (wipe σ0 vs ++ ρ)[m]? = some (some (.ref D0)))
    (stay : ∀ I' δ' σ' H', Sta K E I' δ' σ' H' → Same I1 I' → Above base δ1 δ' σ1 σ' → G H')
    (item : ∀ i H' v H'' I' δ' σ', Sta K E I' δ' σ' H' → Same I1 I' → Above base δ1 δ' σ1 σ' → i < xs.length → Y i H' v H'' → ∃ I'' d, xs[i]? = some d ∧ Same I' I'' ∧ Same H' H'' ∧ Sta K E I'' δ' σ' H'' ∧ Rep K I'' v d)
    {acc0 : List D} {δ0 : Env} {Hs : Hp} {fin : List D → Env → Prop} {Qd : Hp → Prop} (I0 : Hp) (s0 : Same I1 I0) (S0 : Sta K E I0 δ0 (wipe σ0 vs ++ ρ) Hs) (ha0 : δ0[m]? = some (acS acc0)) (hb0 : ∀ k : Nat, base ≤ k → k < σ1.length → δ0[k]? = δ1[k]?) (hsz : acc0.length + xs.length ≤ sizeLine)
    (hgo : goLc n m vs g rt re fin xs acc0 δ0) (hfin : ∀ I' δ' acc' H', Sta K E I' δ' (wipe σ0 vs ++ ρ) H' → Same I1 I' → (∀ k : Nat, base ≤ k → k < σ1.length → δ'[k]? = δ1[k]?) → fin acc' δ' → Qd H') :
    ∃ W1 : Nat → Nat → Hp → Prop, (∃ m, W1 0 m Hs) ∧ ∀ j k H, W1 j k H →
      (J.stop j H ∧ Qd H) ∨ (J.go j H ∧ ∃ Nx1 : Hp → Prop, (∀ H', Nx1 H' → ∃ k', k' < k ∧ W1 (j + 1) k' H') ∧ ∀ x H', J.yld j H x H' → preG X ts g x (wipe σ0 vs) H' fun σ3 H5 => wipe σ3 vs = wipe σ0 vs ∧ preT X q2 rt σ3 H5 fun b H6 =>
        if b = true then preE X q3 re σ3 H6 fun y H7 => ∃ acc, H7 D0 = some (.lst acc) ∧ acc.length < sizeLine ∧ Nx1 (upd H7 D0 (.lst (acc ++ [y]))) else Nx1 H6) := by
  subst hK hX
  have lw : (wipe σ0 vs).length = X.N.length := by rw [wipe_length]; exact hl0
  have wiped : ∀ {I' : Hp} {δ' : Env} {σ2 : St} {H' : Hp}, σ2.length = X.N.length → (∀ i, i ∉ vs → σ2[i]? = (wipe σ0 vs)[i]?) → Sta X.K E I' δ' (σ2 ++ ρ) H' → Sta X.K E I' (wipeE vs δ') (wipe σ0 vs ++ ρ) H' := fun {I' δ' σ2 H'} hl2 hb S' => by
    have hlen := S'.len
    refine S'.remap (by have := hlen; simp only [List.length_append] at this ⊢; rw [wipeE_length]; omega) fun k => ?_
    by_cases hk : k ∈ vs
    · exact .inr (.inr (.inl (wipeE_in hk (by have := hlt k hk; rw [← hlen, List.length_append, hl2]; omega))))
    · refine .inl ⟨wipeE_out hk, ?_⟩
      by_cases hk2 : k < X.N.length
      · rw [gl (l := wipe σ0 vs) (by rw [lw]; exact hk2), gl (l := σ2) (by rw [hl2]; exact hk2), hb k hk]
      · rw [gr (l := wipe σ0 vs) (by rw [lw]; omega), gr (l := σ2) (by rw [hl2]; omega), hl2, lw]
  refine it_any (S := fun Nx1 x H' => preG X ts g x (wipe σ0 vs) H' fun σ3 H5 => wipe σ3 vs = wipe σ0 vs ∧ preT X q2 rt σ3 H5 fun b H6 =>
        if b = true then preE X q3 re σ3 H6 fun y H7 => ∃ acc, H7 D0 = some (.lst acc) ∧ acc.length < sizeLine ∧ Nx1 (upd H7 D0 (.lst (acc ++ [y]))) else Nx1 H6) w Hs (fun i Hh => ∃ I' δ' acc, Sta X.K E I' δ' (wipe σ0 vs ++ ρ) Hh ∧ Same I1 I' ∧ δ'[m]? = some (acS acc) ∧
    (∀ k : Nat, base ≤ k → k < σ1.length → δ'[k]? = δ1[k]?) ∧ acc.length ≤ acc0.length + i ∧ goLc X.N.length m vs g rt re fin (xs.drop i) acc δ') ?_ ?_ ?_ ?_
  · exact ⟨I0, δ0, acc0, S0, s0, ha0, hb0, Nat.le_refl _, by simpa using hgo⟩
  · rintro i Hh hi ⟨I', δ', acc, S', sI, hacc, ht, _⟩
    exact stay I' δ' _ Hh S' sI fun k hk hk2 => ⟨ht k hk hk2, hσ1 k hk hk2⟩
  · rintro i x Hh H' hi ⟨I', δ', acc, S', sI, hacc, htl, hal, hgo'⟩ y
    obtain ⟨I2, d, e, s2, s3, S2', rp⟩ := item i Hh x H' I' δ' _ S' sI (fun k hk hk2 => ⟨htl k hk hk2, hσ1 k hk hk2⟩) hi y
    have ed : xs.drop i = d :: xs.drop (i + 1) := by
      rw [List.drop_eq_getElem_cons hi]
      congr 1
      rw [List.getElem?_eq_getElem hi] at e
      exact Option.some.inj e
    rw [ed] at hgo'
    unfold goLc at hgo'
    refine ⟨E, I2, δ', ρ, d, S2', rp, g0.mono (fun δ2 h2 σ2 b2 S3 => ?_) hgo'⟩
    have hl2 : σ2.length = X.N.length := b2.1.trans lw
    have hb2 : ∀ i, i ∉ vs → σ2[i]? = (wipe σ0 vs)[i]? := fun i hi => b2.2 i fun z => hi (hts i z)
    refine ⟨?_, E, I2, δ2, ρ, S3, t0.mono (fun bb δ3 h3 I3 H3 s4 k4 S4 => ?_) h2⟩
    · have w1 := wipe_eq (σ := wipe σ0 vs) (vs := vs) b2.1 fun i hi => by rw [wipe_out hi]; exact hb2 i hi
      rw [w1]
      exact wipe_eq (by rw [wipe_length]) fun i hi => rfl
    · cases bb with
      | false =>
        obtain ⟨T3, g3⟩ := h3
        refine ⟨I3, wipeE vs δ3, acc, wiped hl2 hb2 S4, sI.trans (s2.trans s4), ?_, fun k hk hk2 => ?_, by omega, g3⟩
        · rw [wipeE_out (fun z => by have := hlt _ z; omega), tail_get T3 (by omega)]; exact hacc
        · rw [wipeE_out (fun z => by have := hlt _ z; omega), tail_get T3 (by omega)]; exact htl k hk hk2
      | true =>
        refine ⟨E, I3, δ3, ρ, S4, e0.mono (fun z δ4 h4 v I4 H4 s5 k5 st => ?_) h3⟩
        obtain ⟨I5, dd, δ5, s6, S5, rp5, T5, g5⟩ := asIm_ok st h4
        have h5 : δ5[m]? = some (acS acc) := by rw [tail_get T5 (by omega)]; exact hacc
        obtain ⟨u, L, w1, w2, nd, LI, upd'⟩ := S5.mut h5
        have pos : (σ2 ++ ρ)[m]? = some (some (.ref D0)) := by
          rw [gr (by omega)]
          rw [gr (by rw [lw]; omega), lw] at hpos
          rw [hl2]; exact hpos
        rw [pos] at w1; cases w1
        cases w2 with
        | ob w2 => cases w2 with
          | mk hh r => cases r with
            | lst r =>
              rename_i vs2
              have hlv := r.length
              refine ⟨vs2, hh, by omega, ?_⟩
              have S6 := upd' (upd H4 D0 (.lst (vs2 ++ [v]))) (.ob (.lst (acc ++ [dd]))) [D0] (.ob (.mk upd_same (.lst (r.append (.cons rp5 .nil))))) (by simp) (fun a q => .inl q)
                (fun a q _ => upd_ne (by simpa using q)) (fun a q => by by_cases z : a = D0; rw [z, upd_same]; simp; rw [upd_ne z]; exact q)
              refine ⟨I5, wipeE vs (δ5.set m (acS (acc ++ [dd]))), acc ++ [dd], wiped hl2 hb2 S6, sI.trans (s2.trans (s4.trans (s5.trans s6))), ?_, fun k hk hk2 => ?_, by simp; omega, g5⟩
              · rw [wipeE_out (fun z => by have := hlt _ z; omega), List.getElem?_set_self (lt_of_get h5)]
              · rw [wipeE_out (fun z => by have := hlt _ z; omega), List.getElem?_set_ne (by omega), tail_get T5 (by omega)]; exact htl k hk hk2
  · rintro Hh ⟨I', δ', acc, S', sI, hacc, htl, hal, hgo'⟩
    rw [List.drop_length] at hgo'
    exact hfin I' δ' acc Hh S' sI htl hgo'
/-- two clauses -/
def goLc2 (n m : Nat) (vs vs1 : List Nat) (g : RG) (rt : RT) (rI1 : RI) (g1 : RG) (rt1 : RT) (re : RE) (fin : List D → Env → Prop) : List D → List D → Env → Prop
  | [], acc, δ => fin acc δ
  | x :: xs, acc, δ => g x δ fun δ1 => rt δ1 fun b δ2 =>
    if b = true then rI1 δ2 fun ys δ3 b1 => δ3[m]? = some (acS acc) ∧ acc.length + ys.length ≤ sizeLine ∧
      goLc n m vs1 g1 rt1 re (fun acc' δ' => bkE b1 (fun δ4 => Tail n (δ.set m (acS acc')) δ4 ∧ goLc2 n m vs vs1 g rt rI1 g1 rt1 re fin xs acc' (wipeE vs δ4)) δ') ys acc (wipeE vs1 δ3)
    else Tail n δ δ2 ∧ goLc2 n m vs vs1 g rt rI1 g1 rt1 re fin xs acc (wipeE vs δ2)
def rLc2 (n : Nat) (vs vs1 : List Nat) (rI : RI) (g : RG) (rt : RT) (rI1 : RI) (g1 : RG) (rt1 : RT) (re : RE) : RE := fun δ Q => rI δ fun xs δ1 b => noOw vs δ1 = true ∧
  goLc2 n δ1.length vs vs1 g rt rI1 g1 rt1 re (fun acc δ' => bkE b (fun δ2 => Q (.tm (.ob (.lst acc))) δ2) (restE vs δ1 δ'.dropLast)) xs [] (wipeE vs (δ1 ++ [acS []]))
theorem goLc2_mono {n m : Nat} (hg : ∀ (d : D) (δ : Env) (Q Q' : Env → Prop), (∀ δ', Q δ' → Q' δ') → g d δ Q → g d δ Q') (ht : ∀ (δ : Env) (Q Q' : Bool → Env → Prop), (∀ x δ', Q x δ' → Q' x δ') → rt δ Q → rt δ Q')
    (hi : ∀ (δ : Env) (Q Q' : List D → Env → Bk → Prop), (∀ xs δ' b, Q xs δ' b → Q' xs δ' b) → rI1 δ Q → rI1 δ Q')
    (hg1 : ∀ (d : D) (δ : Env) (Q Q' : Env → Prop), (∀ δ', Q δ' → Q' δ') → g1 d δ Q → g1 d δ Q') (ht1 : ∀ (δ : Env) (Q Q' : Bool → Env → Prop), (∀ x δ', Q x δ' → Q' x δ') → rt1 δ Q → rt1 δ Q')
    (he : ∀ (δ : Env) (Q Q' : Rd → Env → Prop), (∀ x δ', Q x δ' → Q' x δ') → re δ Q → re δ Q') {fin fin' : List D → Env → Prop} (h : ∀ a δ, fin a δ → fin' a δ) : ∀ {xs acc : List D} {δ : Env}, goLc2 n m vs vs1 g rt rI1 g1 rt1 re fin xs acc δ → goLc2 n m vs vs1 g rt rI1 g1 rt1 re fin' xs acc δ
  | [], _, _, w => h _ _ w
  | x :: xs, acc, δ, w => by
    unfold goLc2 at w ⊢
    refine hg _ _ _ _ (fun δ1 w => ht _ _ _ (fun b δ2 w => ?_) w) w
    cases b with
    | true => exact hi _ _ _ (fun ys δ3 b1 w => ⟨w.1, w.2.1, goLc_mono hg1 ht1 he (fun a δ w => bkE_mono (fun δ4 w => ⟨w.1, goLc2_mono hg ht hi hg1 ht1 he h w.2⟩) w) w.2.2⟩) w
    | false => exact ⟨w.1, goLc2_mono hg ht hi hg1 ht1 he h w.2⟩
/-- the weakest reading of what is walked -/
def preI (K : PySem.W.Frag) (n : Nat) (q : Bool) (rI : RI) : TI := fun σ H R => ∃ E I δ τ Qd, Sta K E I δ (σ ++ τ) H ∧ rI δ Qd ∧
  ∀ xs δ1 b τ1 I1 H1 J G Y, Qd xs δ1 b → Same I I1 → (q = true → Same H H1) → Sta K E I1 δ1 (σ ++ τ1) H1 → BkOk τ τ1 δ1 b → Walk J xs.length G Y →
      (∀ I' δ' σ' H', Sta K E I' δ' σ' H' → Same I1 I' → Above (n + τ.length) δ1 δ' (σ ++ τ1) σ' → G H') →
      (∀ i H' v H'' I' δ' σ', Sta K E I' δ' σ' H' → Same I1 I' → Above (n + τ.length) δ1 δ' (σ ++ τ1) σ' → i < xs.length → Y i H' v H'' → ∃ I'' d, xs[i]? = some d ∧ Same I' I'' ∧ Same H' H'' ∧ Sta K E I'' δ' σ' H'' ∧ Rep K I'' v d) → R J H1
theorem pi_pre (h : TrI X tg iter q rI) : PI X tg iter (preI X.K X.N.length q rI) := by
  obtain ⟨wi, h1, h2⟩ := h.ex
  refine ⟨fun pins s σ H R I ⟨E, I0, δ, τ, Qd, S, hr, k⟩ => h1.run pins s σ H R I (h2 σ H R E I0 δ τ Qd I.len S hr k)⟩
theorem lc2_ok {n : Nat} {scope : Scope} {own : List (Str × Nat)} (hc : X.calm = true) (hN : X.N.Nodup) (hi : TrI X tg iter q1 rI) (ok : BlkOk X.N X.env.scope scope own)
    (hg : ∀ (s : Shared) (H : Hp) (C : Addr) (cl : List (Str × Addr)) (fp : List Addr), TrG (X.blk s H scope (compEnvC scope cl C X.env) fp) tg ts g)
    (ht : ∀ (s : Shared) (H : Hp) (C : Addr) (cl : List (Str × Addr)) (fp : List Addr), TrTs (X.blk s H scope (compEnvC scope cl C X.env) fp) ifs q2 rt)
    (hi1 : ∀ (s : Shared) (H : Hp) (C : Addr) (cl : List (Str × Addr)) (fp : List Addr), TrI (X.blk s H scope (compEnvC scope cl C X.env) fp) tg1 iter1 q4 rI1)
    (hg1 : ∀ (s : Shared) (H : Hp) (C : Addr) (cl : List (Str × Addr)) (fp : List Addr), TrG (X.blk s H scope (compEnvC scope cl C X.env) fp) tg1 ts1 g1)
    (ht1 : ∀ (s : Shared) (H : Hp) (C : Addr) (cl : List (Str × Addr)) (fp : List Addr), TrTs (X.blk s H scope (compEnvC scope cl C X.env) fp) ifs1 q5 rt1)
    (he : ∀ (s : Shared) (H : Hp) (C : Addr) (cl : List (Str × Addr)) (fp : List Addr), TrE (X.blk s H scope (compEnvC scope cl C X.env) fp) elt q3 re)
    (hn : X.N.length = n) (hvs : own.map (·.2) = vs) (hts : ∀ i ∈ ts, i ∈ vs) (hts1 : ∀ i ∈ ts1, i ∈ vs1) (hv1 : ∀ i ∈ vs1, i ∈ vs) (hlt : ∀ i ∈ vs, i < n) :
    (∀ (σ : St) (H : Hp) (Q : VK), σ.length = X.N.length → preE X false (rLc2 n vs vs1 rI g rt rI1 g1 rt1 re) σ H Q → tLc2 (preI X.K X.N.length q1 rI) (preG X ts g) (preT X q2 rt) (preI X.K X.N.length q4 rI1) (preG X ts1 g1) (preT X q5 rt1) (preE X q3 re) (own.map (·.2)) vs1 σ H Q) ∧
      ∀ {δ : Env} {Q Q' : Rd → Env → Prop}, (∀ x δ', Q x δ' → Q' x δ') → rLc2 n vs vs1 rI g rt rI1 g1 rt1 re δ Q → rLc2 n vs vs1 rI g rt rI1 g1 rt1 re δ Q' := by
  subst hn hvs
  have g0 := hg X.s_0 (fun _ => none) 0 [] []
  have t0 := ht X.s_0 (fun _ => none) 0 [] []
  have i1 := hi1 X.s_0 (fun _ => none) 0 [] []
  have g10 : TrG X tg1 ts1 g1 → True := fun _ => trivial
  have gg1 := hg1 X.s_0 (fun _ => none) 0 [] []
  have tt1 := ht1 X.s_0 (fun _ => none) 0 [] []
  have e0 := he X.s_0 (fun _ => none) 0 [] []
  refine ⟨fun σ H Q hl ⟨E, I, δ, τ, S, h⟩ => ?_, fun {δ Q Q'} h => hi.mono fun _ _ _ w => ⟨w.1, goLc2_mono (g := g) (rt := rt) (rI1 := rI1) (g1 := g1) (rt1 := rt1) (re := re) (fun _ _ _ _ => g0.mono) (fun _ _ _ => t0.mono) (fun _ _ _ => i1.mono) (fun _ _ _ _ => gg1.mono) (fun _ _ _ => tt1.mono) (fun _ _ _ => e0.mono) (fun _ _ w => bkE_mono (fun _ => h _ _) w) w.2⟩⟩
  refine ⟨E, I, δ, τ, _, S, h, fun xs δ1 b τ1 I1 H1 J G Y hq s1 k1 S1 B w stay item => ?_⟩
  obtain ⟨hno, hgo⟩ := hq
  intro D hD
  have l1 : δ1.length = X.N.length + τ1.length := by have := S1.len; rw [← this, List.length_append, hl]
  have lw : (wipe σ (own.map (·.2))).length = X.N.length := by rw [wipe_length]; exact hl
  have P0 : Sta X.K (E.at I1) I1 (δ1 ++ [acS []]) (σ ++ τ1 ++ [some (.ref D)]) (upd H1 D (.lst [])) :=
    S1.up.push (same_upd hD) (L' := [D]) (by intro a q; rw [List.mem_singleton.mp q]; exact hD) (by simp) (.ob (.mk upd_same (.lst .nil)))
  have wiped : ∀ {I' : Hp} {δ' : Env} {σ2 : St} {H' : Hp}, σ2.length = X.N.length → (∀ i, i ∉ own.map (·.2) → σ2[i]? = (wipe σ (own.map (·.2)))[i]?) → Sta X.K (E.at I1) I' δ' (σ2 ++ (τ1 ++ [some (.ref D)])) H' →
      Sta X.K (E.at I1) I' (wipeE (own.map (·.2)) δ') (wipe σ (own.map (·.2)) ++ (τ1 ++ [some (.ref D)])) H' := fun {I' δ' σ2 H'} hl2 hb S' => by
    have hlen := S'.len
    refine S'.remap (by have := hlen; simp only [List.length_append] at this ⊢; rw [wipeE_length]; omega) fun k => ?_
    by_cases hk : k ∈ own.map (·.2)
    · exact .inr (.inr (.inl (wipeE_in hk (by have := hlt k hk; rw [← hlen, List.length_append, hl2]; omega))))
    · refine .inl ⟨wipeE_out hk, ?_⟩
      by_cases hk2 : k < X.N.length
      · rw [gl (l := wipe σ (own.map (·.2))) (by rw [lw]; exact hk2), gl (l := σ2) (by rw [hl2]; exact hk2), hb k hk]
      · rw [gr (l := wipe σ (own.map (·.2))) (by rw [lw]; omega), gr (l := σ2) (by rw [hl2]; omega), hl2, lw]
  have above : ∀ {I' : Hp} {δ' : Env} {H' : Hp}, (∀ k : Nat, X.N.length ≤ k → k < δ1.length → δ'[k]? = δ1[k]?) → Above (X.N.length + τ.length) δ1 δ' (σ ++ τ1) (wipe σ (own.map (·.2)) ++ (τ1 ++ [some (.ref D)])) := fun {I' δ' H'} ht k hk hk2 => by
    have hk : X.N.length ≤ k := by omega
    have hk3 : k < δ1.length := by rw [l1]; rw [List.length_append, hl] at hk2; exact hk2
    refine ⟨ht k hk hk3, ?_⟩
    rw [gr (l := wipe σ (own.map (·.2))) (by rw [lw]; omega), gr (l := σ) (by rw [hl]; omega), hl, lw, gl (l := τ1) (by omega)]
  let FIN : List DL.D → Env → Prop := fun acc δ' => bkE b (fun δ2 => ∀ v I' H', Same I I' → (false = true → Same H H') → RdSt X.K E I' δ2 (σ ++ τ) H' v (.tm (.ob (.lst acc))) → Q v H') (restE (own.map (·.2)) δ1 δ'.dropLast)
  refine it_any (S := fun Nx x H' => preG X ts g x (wipe σ (own.map (·.2))) H' fun σ2 H2 => wipe σ2 (own.map (·.2)) = wipe σ (own.map (·.2)) ∧ preT X q2 rt σ2 H2 fun b H3 =>
    if b = true then preI X.K X.N.length q4 rI1 σ2 H3 fun J1 H4 => ∃ W1 : Nat → Nat → Hp → Prop, (∃ m, W1 0 m H4) ∧ ∀ j k H, W1 j k H →
      (J1.stop j H ∧ Nx H) ∨ (J1.go j H ∧ ∃ Nx1 : Hp → Prop, (∀ H', Nx1 H' → ∃ k', k' < k ∧ W1 (j + 1) k' H') ∧ ∀ x H', J1.yld j H x H' → preG X ts1 g1 x (wipe σ2 vs1) H' fun σ3 H5 => wipe σ3 vs1 = wipe σ2 vs1 ∧ preT X q5 rt1 σ3 H5 fun b H6 =>
        if b = true then preE X q3 re σ3 H6 fun y H7 => ∃ acc, H7 D = some (.lst acc) ∧ acc.length < sizeLine ∧ Nx1 (upd H7 D (.lst (acc ++ [y]))) else Nx1 H6)
    else Nx H3) w _ (fun i Hh => ∃ I' δ' acc, Sta X.K (E.at I1) I' δ' (wipe σ (own.map (·.2)) ++ (τ1 ++ [some (.ref D)])) Hh ∧ δ'.length = δ1.length + 1 ∧ δ'[δ1.length]? = some (acS acc) ∧
    (∀ k : Nat, X.N.length ≤ k → k < δ1.length → δ'[k]? = δ1[k]?) ∧ goLc2 X.N.length δ1.length (own.map (·.2)) vs1 g rt rI1 g1 rt1 re FIN (xs.drop i) acc δ') ?_ ?_ ?_ ?_
  · refine ⟨I1, wipeE (own.map (·.2)) (δ1 ++ [acS []]), [], ?_, by rw [wipeE_length]; simp, ?_, fun k hk hk2 => ?_, hgo⟩
    · refine wiped hl (fun i hi => (wipe_out hi).symm) ?_
      rw [← List.append_assoc]; exact P0
    · rw [wipeE_out (fun z => by have := hlt _ z; omega), gr (Nat.le_refl _)]; simp
    · rw [wipeE_out (fun z => by have := hlt _ z; omega), gl hk2]
  · rintro i Hh hi ⟨I', δ', acc, S', _, _, ht, _⟩
    exact stay I' δ' _ Hh (S1.down S') S'.i0 (above (I' := I') (H' := Hh) ht)
  · rintro i x Hh H' hi ⟨I', δ', acc, S', hlen, hacc, htl, hgo'⟩ y
    obtain ⟨I2, d, e, s2, s3, S2, rp⟩ := item i Hh x H' I' δ' _ (S1.down S') S'.i0 (above (I' := I') (H' := Hh) htl) hi y
    have S2' : Sta X.K (E.at I1) I2 δ' (wipe σ (own.map (·.2)) ++ (τ1 ++ [some (.ref D)])) H' := ⟨S2.le, S'.i0.trans s2, fun a q => (S2.ix a q).trans (S1.ix a q).symm, S2.th, S2.fr, S2.len, S2.own⟩
    have ed : xs.drop i = d :: xs.drop (i + 1) := by
      rw [List.drop_eq_getElem_cons hi]
      congr 1
      rw [List.getElem?_eq_getElem hi] at e
      exact Option.some.inj e
    rw [ed] at hgo'
    unfold goLc2 at hgo'
    refine ⟨E.at I1, I2, δ', τ1 ++ [some (.ref D)], d, S2', rp, g0.mono (fun δ2 h2 σ2 b2 S3 => ?_) hgo'⟩
    have hl2 : σ2.length = X.N.length := b2.1.trans lw
    have hb2 : ∀ i, i ∉ own.map (·.2) → σ2[i]? = (wipe σ (own.map (·.2)))[i]? := fun i hi => b2.2 i fun z => hi (hts i z)
    refine ⟨?_, E.at I1, I2, δ2, τ1 ++ [some (.ref D)], S3, t0.mono (fun bb δ3 h3 I3 H3 s4 k4 S4 => ?_) h2⟩
    · have w1 := wipe_eq (σ := wipe σ (own.map (·.2))) (vs := own.map (·.2)) b2.1 fun i hi => by rw [wipe_out hi]; exact hb2 i hi
      rw [w1]
      exact wipe_eq (by rw [wipe_length]) fun i hi => rfl
    · cases bb with
      | false =>
        obtain ⟨T3, g3⟩ := h3
        refine ⟨I3, wipeE (own.map (·.2)) δ3, acc, wiped hl2 hb2 S4, ?_, ?_, fun k hk hk2 => ?_, g3⟩
        · have := S4.len; rw [wipeE_length, ← this, l1]; simp [hl2]; omega
        · rw [wipeE_out (fun z => by have := hlt _ z; omega), tail_get T3 (by omega)]; exact hacc
        · rw [wipeE_out (fun z => by have := hlt _ z; omega), tail_get T3 hk]; exact htl k hk hk2
      | true =>
        refine ⟨E.at I1, I3, δ3, τ1 ++ [some (.ref D)], _, S4, h3, fun ys δ4 b1 τ2 I4 H4 J1 G1 Y1 hq4 s5 k5 S5 B1 w1 stay1 item1 => ?_⟩
        obtain ⟨ha4, hsz4, hgo4⟩ := hq4
        -- the source of the inner loop stands above the new list
        have lt1 : (τ1 ++ [some (V.ref D)]).length = τ1.length + 1 := by simp
        have l4 : δ4.length = X.N.length + τ2.length := by have := S5.len; rw [← this, List.length_append, hl2]
        obtain ⟨τ3, e3⟩ : ∃ τ3, τ2 = τ1 ++ [some (.ref D)] ++ τ3 := by
          cases b1 with
          | id => exact ⟨[], by rw [show τ2 = _ from B1]; simp⟩
          | drop => obtain ⟨v, e⟩ := B1; exact ⟨[some v], e⟩
          | give j s v => exact ⟨[some v], B1.1⟩
        have lw1 : (wipe σ2 vs1).length = X.N.length := by rw [wipe_length]; exact hl2
        have hlt1 : ∀ i ∈ vs1, i < X.N.length := fun i h => hlt i (hv1 i h)
        -- the inner names forgotten
        have wiped1 : Sta X.K (E.at I1) I4 (wipeE vs1 δ4) (wipe σ2 vs1 ++ τ2) H4 := by
          have hlen := S5.len
          refine S5.remap (by have := hlen; simp only [List.length_append] at this ⊢; rw [wipeE_length]; omega) fun k => ?_
          by_cases hk : k ∈ vs1
          · exact .inr (.inr (.inl (wipeE_in hk (by have := hlt1 k hk; rw [← hlen, List.length_append, hl2]; omega))))
          · refine .inl ⟨wipeE_out hk, ?_⟩
            by_cases hk2 : k < X.N.length
            · rw [gl (l := wipe σ2 vs1) (by rw [lw1]; exact hk2), gl (l := σ2) (by rw [hl2]; exact hk2), wipe_out hk]
            · rw [gr (l := wipe σ2 vs1) (by rw [lw1]; omega), gr (l := σ2) (by rw [hl2]; omega), hl2, lw1]
        refine goLc_run (X := X.blk X.s_0 (fun _ => none) scope (compEnvC scope [] 0 X.env) []) (E := E.at I1) (I1 := I4) (δ1 := δ4) (σ1 := σ2 ++ τ2) (σ0 := σ2) (ρ := τ2) (n := X.N.length) (base := X.N.length + (τ1 ++ [some (V.ref D)]).length) (m := δ1.length) rfl rfl w1 gg1 tt1 e0 hl2 hts1 hlt1 (by omega) (by rw [lt1]; omega) (by omega) (fun k hk hk2 => ?_) ?_ stay1 item1
          I4 (L2.Same.refl _) wiped1 (by rw [wipeE_out (fun z => by have := hlt1 _ z; omega)]; exact ha4) (fun k hk hk2 => by rw [wipeE_out (fun z => by have := hlt1 _ z; omega)]) hsz4 hgo4 ?_
        · rw [gr (l := wipe σ2 vs1) (by rw [lw1]; omega), gr (l := σ2) (by rw [hl2]; omega), hl2, lw1]
        · rw [gr (l := wipe σ2 vs1) (by rw [lw1]; omega), lw1, e3, List.append_assoc, gr (by omega)]
          have : δ1.length - X.N.length - τ1.length = 0 := by omega
          rw [this]; rfl
        · intro I5 δ5 acc5 H5 S6 s6 hb5 hbk
          have T5 : Tail (X.N.length + (τ1 ++ [some (V.ref D)]).length) δ4 δ5 := by
            apply List.ext_getElem?
            intro k
            rw [List.getElem?_drop, List.getElem?_drop]
            by_cases hk2 : X.N.length + (τ1 ++ [some (V.ref D)]).length + k < δ4.length
            · exact hb5 _ (by omega) (by have e : (σ2 ++ τ2).length = X.N.length + τ2.length := (by rw [List.length_append, hl2]); omega)
            · have : δ5.length = δ4.length := by have := S6.len; rw [← this, List.length_append, lw1, l4]
              rw [List.getElem?_eq_none (by omega), List.getElem?_eq_none (by omega)]
          obtain ⟨δ6, hq6, S7, l6⟩ := bk_ok (ε := []) (τ2 := []) B1 T5 (Nat.le_refl _) lw1 l4 (by simpa using S6) (by have := S6.len; rw [← this, List.length_append, lw1]) hbk
          obtain ⟨T6, g6⟩ := hq6
          have S7' : Sta X.K (E.at I1) I5 δ6 (wipe σ2 vs1 ++ (τ1 ++ [some (.ref D)])) H5 := by simpa using S7
          have a6 : δ6[δ1.length]? = some (acS acc5) := by rw [tail_get T6 (by omega), List.getElem?_set_self (by omega)]
          have t6 : ∀ k : Nat, X.N.length ≤ k → k < δ1.length → δ6[k]? = δ1[k]? := fun k hk hk2 => by
            rw [tail_get T6 hk, List.getElem?_set_ne (by omega)]; exact htl k hk hk2
          -- all the names of the block forgotten
          have S8 : Sta X.K (E.at I1) I5 (wipeE (own.map (·.2)) δ6) (wipe σ (own.map (·.2)) ++ (τ1 ++ [some (.ref D)])) H5 := by
            have hlen := S7'.len
            refine S7'.remap (by have := hlen; simp only [List.length_append] at this ⊢; rw [wipeE_length, lw]; omega) fun k => ?_
            by_cases hk : k ∈ own.map (·.2)
            · exact .inr (.inr (.inl (wipeE_in hk (by have := hlt k hk; rw [← hlen, List.length_append, lw1]; omega))))
            · refine .inl ⟨wipeE_out hk, ?_⟩
              by_cases hk2 : k < X.N.length
              · rw [gl (l := wipe σ (own.map (·.2))) (by rw [lw]; exact hk2), gl (l := wipe σ2 vs1) (by rw [lw1]; exact hk2), wipe_out (fun z => hk (hv1 k z)), hb2 k hk]
              · rw [gr (l := wipe σ (own.map (·.2))) (by rw [lw]; omega), gr (l := wipe σ2 vs1) (by rw [lw1]; omega), lw1, lw]
          refine ⟨I5, _, acc5, S8, by rw [wipeE_length, l6, lt1, l1]; omega, ?_, fun k hk hk2 => ?_, g6⟩
          · rw [wipeE_out (fun z => by have := hlt _ z; omega)]; exact a6
          · rw [wipeE_out (fun z => by have := hlt _ z; omega)]; exact t6 k hk hk2
  · rintro Hh ⟨I', δ', acc, S', hlen, hacc, htl, hgo'⟩
    rw [List.drop_length] at hgo'
    have hgo' : FIN acc δ' := by unfold goLc2 at hgo'; exact hgo'
    have hd : δ' = δ'.dropLast ++ [acS acc] := by
      have hne : δ' ≠ [] := by intro z; rw [z] at hlen; simp at hlen
      have e1 := List.dropLast_concat_getLast hne
      have e2 : δ'.getLast hne = acS acc := by
        have : δ'[δ'.length - 1]? = some (acS acc) := by rw [hlen]; exact hacc
        rw [List.getLast_eq_getElem]
        rw [List.getElem?_eq_getElem (by omega)] at this
        exact Option.some.inj this
      rw [e2] at e1
      exact e1.symm
    have hdl : δ'.dropLast.length = δ1.length := by rw [List.length_dropLast, hlen]; rfl
    have SR : Sta X.K (E.at I1) I' (restE (own.map (·.2)) δ1 δ'.dropLast ++ [acS acc]) (σ ++ τ1 ++ [some (.ref D)]) Hh := by
      have hlS := S'.len
      refine S'.remap (by simp [restE_length, hdl, l1, hl]; omega) fun k => ?_
      by_cases hk : k ∈ own.map (·.2)
      · have hkn := hlt k hk
        have e1 : (restE (own.map (·.2)) δ1 δ'.dropLast ++ [acS acc])[k]? = some ((δ1[k]?).getD .un) := by
          rw [gl (by rw [restE_length]; omega), restE_in hk (by omega)]
        rw [e1]
        have e2 : (σ ++ τ1 ++ [some (V.ref D)])[k]? = (σ ++ τ1)[k]? := by rw [gl (by simp; omega)]
        cases z : δ1[k]? with
        | none => exact .inr (.inr (.inl rfl))
        | some sl =>
          have hno' : noOwS δ1[k]? = true := List.all_eq_true.mp hno k hk
          rw [z] at hno'
          cases sl with
          | un => exact .inr (.inr (.inl rfl))
          | im dd =>
            obtain ⟨u, g1, g2⟩ := S1.im_get z
            exact .inr (.inr (.inr (.inl ⟨dd, u, rfl, by rw [e2]; exact g1, g2.mono S'.i0⟩)))
          | ow pp oo => cases hno'
          | vl u => exact .inr (.inr (.inr (.inr ⟨u, rfl, by rw [e2]; exact S1.vl_get z⟩)))
      · refine .inl ⟨?_, ?_⟩
        · by_cases hk2 : k < δ1.length
          · rw [gl (by rw [restE_length]; omega), restE_out hk]
            conv => rhs; rw [hd]
            rw [gl (by omega)]
          · conv => rhs; rw [hd]
            rw [gr (by rw [restE_length]; omega), gr (by omega), restE_length]
        · by_cases hk2 : k < X.N.length
          · rw [List.append_assoc, gl (l := wipe σ (own.map (·.2))) (by rw [lw]; exact hk2), gl (l := σ) (by rw [hl]; exact hk2), wipe_out hk]
          · rw [List.append_assoc, gr (l := wipe σ (own.map (·.2))) (by rw [lw]; omega), gr (l := σ) (by rw [hl]; omega), hl, lw]
    have T : Tail X.N.length δ1 (restE (own.map (·.2)) δ1 δ'.dropLast) := by
      apply List.ext_getElem?
      intro k
      rw [List.getElem?_drop, List.getElem?_drop]
      by_cases hk2 : X.N.length + k < δ1.length
      · rw [restE_out (fun z => by have := hlt _ z; omega), ← htl _ (by omega) hk2]
        conv => rhs; rw [hd]
        rw [gl (by omega)]
      · rw [List.getElem?_eq_none (by rw [restE_length]; omega), List.getElem?_eq_none (by omega)]
    obtain ⟨δ4, hq4, S4, _⟩ := bk_ok (ε := [acS acc]) (τ2 := [some (.ref D)]) B T (Nat.le_add_right _ _) hl l1 (S1.down SR) (by rw [restE_length, hdl, l1]) hgo'
    exact hq4 (.ref D) I' Hh (s1.trans S'.i0) (fun z => by cases z) S4
theorem tr_lc2 {n : Nat} {scope : Scope} {own : List (Str × Nat)} (hc : X.calm = true) (hN : X.N.Nodup) (hi : TrI X tg iter q1 rI) (ok : BlkOk X.N X.env.scope scope own)
    (hg : ∀ (s : Shared) (H : Hp) (C : Addr) (cl : List (Str × Addr)) (fp : List Addr), TrG (X.blk s H scope (compEnvC scope cl C X.env) fp) tg ts g)
    (ht : ∀ (s : Shared) (H : Hp) (C : Addr) (cl : List (Str × Addr)) (fp : List Addr), TrTs (X.blk s H scope (compEnvC scope cl C X.env) fp) ifs q2 rt)
    (hi1 : ∀ (s : Shared) (H : Hp) (C : Addr) (cl : List (Str × Addr)) (fp : List Addr), TrI (X.blk s H scope (compEnvC scope cl C X.env) fp) tg1 iter1 q4 rI1)
    (hg1 : ∀ (s : Shared) (H : Hp) (C : Addr) (cl : List (Str × Addr)) (fp : List Addr), TrG (X.blk s H scope (compEnvC scope cl C X.env) fp) tg1 ts1 g1)
    (ht1 : ∀ (s : Shared) (H : Hp) (C : Addr) (cl : List (Str × Addr)) (fp : List Addr), TrTs (X.blk s H scope (compEnvC scope cl C X.env) fp) ifs1 q5 rt1)
    (he : ∀ (s : Shared) (H : Hp) (C : Addr) (cl : List (Str × Addr)) (fp : List Addr), TrE (X.blk s H scope (compEnvC scope cl C X.env) fp) elt q3 re)
    (hn : X.N.length = n := by rfl) (hvs : own.map (·.2) = vs := by rfl) (hts : ∀ i ∈ ts, i ∈ vs := by decide) (hts1 : ∀ i ∈ ts1, i ∈ vs1 := by decide) (hv1 : ∀ i ∈ vs1, i ∈ vs := by decide) (hlt : ∀ i ∈ vs, i < n := by decide) (hs : ∀ x, foldedSetIterable iter X.env x = pure x := by intro _; rfl) (hs1 : ∀ env x, foldedSetIterable iter1 env x = pure x := by intro _ _; rfl) :
    TrE X (.ListComp elt [⟨tg, iter, ifs, 0⟩, ⟨tg1, iter1, ifs1, 0⟩] scope pos) false (rLc2 n vs vs1 rI g rt rI1 g1 rt1 re) := by
  obtain ⟨run, mono⟩ := lc2_ok hc hN hi ok hg ht hi1 hg1 ht1 he hn hvs hts hts1 hv1 hlt
  exact ⟨weakE (pe_lc2 (g := preG X ts g) (tt := preT X q2 rt) (wi1 := preI X.K X.N.length q4 rI1) (g1 := preG X ts1 g1) (tt1 := preT X q5 rt1) (te := preE X q3 re) hc hN (pi_pre hi) ok (fun i h => by rw [hvs]; exact hv1 i h) (fun s H C cl fp => (hg s H C cl fp).pg) (fun s H C cl fp => (ht s H C cl fp).pt) (fun s H C cl fp => pi_pre (hi1 s H C cl fp)) (fun s H C cl fp => (hg1 s H C cl fp).pg) (fun s H C cl fp => (ht1 s H C cl fp).pt) (fun s H C cl fp => (he s H C cl fp).pe) hs hs1) run, mono⟩
theorem ts_setLc2 {i : Nat} {y : Str} {py spos : Pos} (hy : X.N[i]? = some y) (hyl : X.env.scope.names.lookup y = some .local) {n : Nat} {scope : Scope} {own : List (Str × Nat)} (hc : X.calm = true) (hN : X.N.Nodup) (hi : TrI X tg iter q1 rI) (ok : BlkOk X.N X.env.scope scope own)
    (hg : ∀ (s : Shared) (H : Hp) (C : Addr) (cl : List (Str × Addr)) (fp : List Addr), TrG (X.blk s H scope (compEnvC scope cl C X.env) fp) tg ts g)
    (ht : ∀ (s : Shared) (H : Hp) (C : Addr) (cl : List (Str × Addr)) (fp : List Addr), TrTs (X.blk s H scope (compEnvC scope cl C X.env) fp) ifs q2 rt)
    (hi1 : ∀ (s : Shared) (H : Hp) (C : Addr) (cl : List (Str × Addr)) (fp : List Addr), TrI (X.blk s H scope (compEnvC scope cl C X.env) fp) tg1 iter1 q4 rI1)
    (hg1 : ∀ (s : Shared) (H : Hp) (C : Addr) (cl : List (Str × Addr)) (fp : List Addr), TrG (X.blk s H scope (compEnvC scope cl C X.env) fp) tg1 ts1 g1)
    (ht1 : ∀ (s : Shared) (H : Hp) (C : Addr) (cl : List (Str × Addr)) (fp : List Addr), TrTs (X.blk s H scope (compEnvC scope cl C X.env) fp) ifs1 q5 rt1)
    (he : ∀ (s : Shared) (H : Hp) (C : Addr) (cl : List (Str × Addr)) (fp : List Addr), TrE (X.blk s H scope (compEnvC scope cl C X.env) fp) elt q3 re)
    (hn : X.N.length = n := by rfl) (hvs : own.map (·.2) = vs := by rfl) (hts : ∀ i ∈ ts, i ∈ vs := by decide) (hts1 : ∀ i ∈ ts1, i ∈ vs1 := by decide) (hv1 : ∀ i ∈ vs1, i ∈ vs := by decide) (hlt : ∀ i ∈ vs, i < n := by decide) (hs : ∀ x, foldedSetIterable iter X.env x = pure x := by intro _; rfl) (hs1 : ∀ env x, foldedSetIterable iter1 env x = pure x := by intro _ _; rfl)
    (hsw : swapsWith (.ListComp elt [⟨tg, iter, ifs, 0⟩, ⟨tg1, iter1, ifs1, 0⟩] scope pos) (some (.Name y py)) spos.line X.env = pure true := by exact sw_true rfl rfl rfl rfl) :
    TrS X (.Assign [.Name y py] (.ListComp elt [⟨tg, iter, ifs, 0⟩, ⟨tg1, iter1, ifs1, 0⟩] scope pos) spos) (rSet i (rLc2 n vs vs1 rI g rt rI1 g1 rt1 re)) := by
  obtain ⟨run, mono⟩ := lc2_ok hc hN hi ok hg ht hi1 hg1 ht1 he hn hvs hts hts1 hv1 hlt
  refine ⟨weakS (ps_setLc2 (g := preG X ts g) (tt := preT X q2 rt) (wi1 := preI X.K X.N.length q4 rI1) (g1 := preG X ts1 g1) (tt1 := preT X q5 rt1) (te := preE X q3 re) hc hN hy hyl hsw (pi_pre hi) ok (fun i h => by rw [hvs]; exact hv1 i h) (fun s H C cl fp => (hg s H C cl fp).pg) (fun s H C cl fp => (ht s H C cl fp).pt) (fun s H C cl fp => pi_pre (hi1 s H C cl fp)) (fun s H C cl fp => (hg1 s H C cl fp).pg) (fun s H C cl fp => (ht1 s H C cl fp).pt) (fun s H C cl fp => (he s H C cl fp).pe) hs hs1) fun D σ H hl ⟨E, I, δ, τ, De, S, h, k⟩ => ?_, fun k => mono fun _ _ => setR_mono k.nx⟩
  refine run σ H _ hl ⟨E, I, δ, τ, S, mono (fun x δ1 h1 v I1 H1 s1 k1 st => ?_) h⟩
  obtain ⟨I2, δ2, s2, S2, h2⟩ := setR_ok (by rw [hl]; exact lt_of_get hy) st h1
  exact k.nx _ _ _ _ (by rw [List.length_set]; exact hl) S2 h2
end
end DL
end
section
set_option Elab.async false
set_option linter.all false
set_option maxRecDepth 100000
set_option maxHeartbeats 4000000
namespace DL
open PySem L2
section
variable {X : Cx} {a b c e o value lo hi : Expr} {es : List Expr} {q q1 q2 q3 : Bool} {ra rb rc rv : RE} {rs : RA} {pos pos' p p2 apos cpos tpos : Pos} {E : Ent} {I I' : Hp} {δ δ' : Env} {σ τ : St} {H H' : Hp} {v : V} {d : D} {i : Nat} {x : Str}

/-! ### slices -/
def cutD (xs : List D) (lo hi : Option Int) : List D := (xs.drop (HT.sIx xs.length 0 lo)).take (HT.sIx xs.length xs.length hi - HT.sIx xs.length 0 lo)
theorem Reps.cut {K : PySem.W.Frag} {vs : List V} {ds : List D} (r : Reps K I vs ds) (lo hi : Option Int) : Reps K I (cutV vs lo hi) (cutD ds lo hi) := by
  unfold cutV cutD
  rw [r.length]
  exact (r.drop _).take _
/-- a part of a slice -/
inductive PtD where
  | no | at (r : RE)
abbrev RO := Env → (Option Int → Env → Prop) → Prop
structure TrO (X : Cx) (e : Option Expr) (q : Bool) (r : RO) : Prop where
  po : PO X e (fun σ H Q => ∃ E I δ τ, Sta X.K E I δ (σ ++ τ) H ∧ r δ fun i δ' => ∀ I' H', Same I I' → (q = true → Same H H') → Sta X.K E I' δ' (σ ++ τ) H' → Q i H')
  mono : ∀ {δ : Env} {Q Q' : Option Int → Env → Prop}, (∀ x δ', Q x δ' → Q' x δ') → r δ Q → r δ Q'
def oNo : RO := fun δ Q => Q none δ
def onInt : D → (Int → Prop) → Prop
  | .int i, k => k i
  | _, _ => False
theorem onInt_mono {k k' : Int → Prop} (h : ∀ i, k i → k' i) : ∀ {d : D}, onInt d k → onInt d k'
  | .int i, w => h _ w
def oAt (ra : RE) : RO := fun δ Q => r1 ra (fun d δ1 => onInt d fun i => Q (some i) δ1) δ
theorem to_no : TrO X none true oNo := ⟨⟨fun pins s σ H Q I ⟨E, I1, δ, τ, S, h⟩ => po_none.run pins s σ H Q I (h I1 H (L2.Same.refl _) (fun _ => L2.Same.refl _) S)⟩, fun h => h _ _⟩
theorem to_at (ha : TrE X a q ra) : TrO X (some a) q (oAt ra) := by
  refine ⟨⟨fun pins s σ H Q I ⟨E, I1, δ, τ, S, h⟩ => (po_some ha.pe).run pins s σ H Q I ?_⟩, fun h => r1_mono ha fun d _ => onInt_mono fun _ => h _ _⟩
  refine one ha S h fun v d δ1 I1 H1 s1 k1 S1 rp h1 => ?_
  match d, h1, rp with
  | .int i, h1, .int _ => exact ⟨i, rfl, h1 I1 H1 s1 k1 S1⟩
def slX (δ : Env) (lo hi : Option Int) (Q : Rd → Env → Prop) : Option D → Prop
  | some (.lst xs) => Q (.tm (.ob (.lst (cutD xs lo hi)))) δ
  | some (.wl xs) => Q (.tm (.ob (.lst (cutD xs lo hi)))) δ
  | some (.tup xs) => Q (.im (.tup (cutD xs lo hi))) δ
  | some (.str z) => z.length ≤ sizeLine ∧ Q (.im (.str (cutS z lo hi))) δ
  | _ => False
theorem slX_mono {lo hi : Option Int} {Q Q' : Rd → Env → Prop} (h : ∀ x δ, Q x δ → Q' x δ) : ∀ {d : Option D}, slX δ lo hi Q d → slX δ lo hi Q' d
  | some (.lst xs), w => h _ _ w
  | some (.wl xs), w => h _ _ w
  | some (.tup xs), w => h _ _ w
  | some (.str z), w => ⟨w.1, h _ _ w.2⟩
def rSlE (q : Bool) (ra : RE) (ro ro' : RO) : RE := fun δ Q => ra δ fun x δ1 => keepR q x δ1 fun x' δ2 => ro δ2 fun lo δ3 => ro' δ3 fun hi δ4 => slX δ4 lo hi Q (vw δ4 x')
def rSlV (K : PySem.W.Frag) : V → Option Int → Option Int → Hp → VK → Prop := fun x lo hi H Q => rSlL K x lo hi H Q ∨ rSlA K x lo hi H Q ∨ rSlS x lo hi H Q
theorem sl_all : SlR X (rSlV X.K) := sl_list.or (sl_tupA.or sl_str)
theorem slX_ok {K : PySem.W.Frag} {y : D} {lo hi : Option Int} {Q : Rd → Env → Prop} {R : VK} (S : Sta K E I δ σ H) (sh : Shl K H I v y) (w : slX δ lo hi Q (some y))
    (k : ∀ u x I' H', Same I I' → Same H H' → RdSt K E I' δ σ H' u x → Q x δ → R u H') : rSlV K v lo hi H R := by
  have whole : ∀ {vs : List V} {ds : List D}, Reps K I vs ds → HT.sIx vs.length 0 lo = 0 ∧ HT.sIx vs.length vs.length hi = vs.length → cutD ds lo hi = ds := by
    intro vs ds r z
    unfold cutD
    rw [← r.length, z.1, z.2, r.length]; simp
  cases sh with
  | lst e r => exact .inl ⟨_, _, rfl, SqL.of e, fun p n => k _ _ I _ (L2.Same.refl _) (same_upd n) (push_lst S n (r.cut lo hi)) w⟩
  | wl e r => exact .inl ⟨_, _, rfl, e, fun p n => k _ _ I _ (L2.Same.refl _) (same_upd n) (push_lst S n (r.cut lo hi)) w⟩
  | tup e r =>
    rename_i a vs xs
    refine .inr (.inl ⟨_, _, rfl, SqT.of (S.le _ _ e), fun z => k _ (.im (.tup (cutD xs lo hi))) I H (L2.Same.refl _) (L2.Same.refl _) ⟨S, ?_⟩ w, fun _ p n => k (.ref p) (.im (.tup (cutD xs lo hi))) _ _ (same_upd (S.free n)) (same_upd n) (alloc_tup S n (r.cut lo hi)) w⟩)
    rw [whole r z]; exact .tup e r
  | str z => exact .inr (.inr ⟨z, rfl, w.1, k _ (.im (.str (cutS z lo hi))) I H (L2.Same.refl _) (L2.Same.refl _) ⟨S, .str _⟩ w.2⟩)
  | _ => exact w.elim
theorem tr_slice (ha : TrE X a q1 ra) {ro ro' : RO} {l h : Option Expr} (hl : TrO X l q2 ro) (hh : TrO X h q3 ro') : TrE X (.Subscript a (.Slice l h none p2) pos) (q1 && (q2 && q3)) (rSlE (q2 && q3) ra ro ro') := by
  refine ⟨weakE (pe_slice sl_all ha.pe hl.po hh.po) fun σ H Q _ ⟨E, I, δ, τ, S, h⟩ => ⟨E, I, δ, τ, S, ha.mono (fun x δ1 h1 v I1 H1 s1 k1 st => ?_) h⟩,
    fun h => ha.mono fun _ _ => keepR_mono fun _ _ => hl.mono fun _ _ => hh.mono fun _ _ => slX_mono h⟩
  obtain ⟨I2, x', δ2, s2, st2, h2, later⟩ := keepR_ok st h1
  refine ⟨E, I2, δ2, τ, st2.sta, hl.mono (fun lo δ3 h3 I3 H3 s3 k3 S3 => ⟨E, I3, δ3, τ, S3, hh.mono (fun hi δ4 h4 I4 H4 s4 k4 S4 => ?_) h3⟩) h2⟩
  have st4 := later I4 δ4 H4 S4 (s3.trans s4) (fun w => (k3 (and_q w).1).trans (k4 (and_q w).2))
  cases e : vw δ4 x' with
  | none => rw [e] at h4; exact h4.elim
  | some y =>
    rw [e] at h4
    exact slX_ok S4 (st4.shl e) h4 fun u z I' H' s5 k5 st5 w => w u I' H' (s1.trans (s2.trans (s3.trans (s4.trans s5)))) (fun w => (k1 (and_q w).1).trans ((k3 (and_q (and_q w).2).1).trans ((k4 (and_q (and_q w).2).2).trans k5))) st5
/-- xs[::-1] of a list -/
def fRev : Option D → (List D → Prop) → Prop
  | some (.lst xs), k => k xs.reverse
  | some (.wl xs), k => k xs.reverse
  | _, _ => False
abbrev rRevL := rVL fRev
theorem vl_rev : VlOk X fRev (fun v H Q => ∃ a xs, v = .ref a ∧ SqL X.K H a xs ∧ ∀ p, H p = none → Q (.ref p) (upd H p (.lst xs.reverse))) where
  ok := fun {I H v d k Q} m s h w => by
    cases s with
    | lst e r => exact ⟨_, _, rfl, SqL.of e, fun l n => w l _ _ h r.reverse n⟩
    | wl e r => exact ⟨_, _, rfl, e, fun l n => w l _ _ h r.reverse n⟩
    | _ => exact h.elim
  no := fun h => h
  mono := fun {d k k'} hk h => by
    match d, h with
    | some (.lst _), h => exact hk _ h
    | some (.wl _), h => exact hk _ h
theorem tr_revL {k : Nat} {p1 p2 p3 : Pos} (ha : TrE X a q ra) : TrE X (.Subscript a (.Slice none none (some (.UnaryOp .USub (.Constant (.int 1) k p1) p2)) p3) pos) q (rRevL ra) :=
  ⟨weakE (pe_revL ha.pe) fun σ H Q _ ⟨E, I, δ, τ, S, h⟩ => rVL_run vl_rev ha S h, rVL_mono vl_rev ha⟩
/-! ### small ones -/
def rBits (ra : RE) : RE := fun δ Q => r1 ra (fun d δ1 => onInt d fun i => Q (.im (.int (Builtin.Int.intBits i : Nat))) δ1) δ
theorem tr_bits (ha : TrE X a q ra) (hbase : attributeBase a "bit_length" X.env (eval a X.env) = eval a X.env := by rfl) (hline : (apos.endLine == pos.line) = true := by rfl) : TrE X (.Call (.Attribute a "bit_length" apos) [] [] pos) q (rBits ra) := by
  refine ⟨weakE (pe_bits ha.pe hbase hline) fun σ H Q _ ⟨E, I, δ, τ, S, h⟩ => one ha S h fun v d δ1 I1 H1 s1 k1 S1 rp h1 => ?_, fun h => r1_mono ha fun d _ => onInt_mono fun _ => h _ _⟩
  match d, h1, rp with
  | .int i, h1, .int _ => exact ⟨i, rfl, h1 _ I1 H1 s1 k1 ⟨S1, .int _⟩⟩
end
end DL
end
section
set_option Elab.async false
set_option linter.all false
set_option maxRecDepth 100000
set_option maxHeartbeats 1000000
namespace DL
open PySem L2
/-! ### sorting ints -/
def insI (a : Int) : List Int → List Int
  | [] => [a]
  | b :: r => if a ≤ b then a :: b :: r else b :: insI a r
def isort : List Int → List Int
  | [] => []
  | a :: r => insI a (isort r)
theorem insI_perm (a : Int) : ∀ l : List Int, (insI a l).Perm (a :: l)
  | [] => List.Perm.refl _
  | b :: r => by
    unfold insI
    split
    · exact List.Perm.refl _
    · exact ((insI_perm a r).cons b).trans (List.Perm.swap a b r)
theorem isort_perm : ∀ l : List Int, (isort l).Perm l
  | [] => List.Perm.refl _
  | a :: r => (insI_perm a (isort r)).trans ((isort_perm r).cons a)
theorem insI_sorted (a : Int) : ∀ l : List Int, l.Pairwise (· ≤ ·) → (insI a l).Pairwise (· ≤ ·)
  | [], _ => by simp [insI]
  | b :: r, h => by
    obtain ⟨h1, h2⟩ := List.pairwise_cons.mp h
    unfold insI
    split
    · rename_i hab
      refine List.pairwise_cons.mpr ⟨fun x hx => ?_, h⟩
      rcases List.mem_cons.mp hx with rfl | hx
      · exact hab
      · exact Int.le_trans hab (h1 x hx)
    · rename_i hab
      refine List.pairwise_cons.mpr ⟨fun x hx => ?_, insI_sorted a r h2⟩
      rcases List.mem_cons.mp ((insI_perm a r).mem_iff.mp hx) with rfl | hx
      · omega
      · exact h1 x hx
theorem isort_sorted : ∀ l : List Int, (isort l).Pairwise (· ≤ ·)
  | [] => List.Pairwise.nil
  | a :: r => insI_sorted a _ (isort_sorted r)
theorem sorted_eq : ∀ {l m : List Int}, l.Perm m → l.Pairwise (· ≤ ·) → m.Pairwise (· ≤ ·) → l = m
  | [], m, p, _, _ => by rw [List.nil_perm.mp p]
  | a :: l, m, p, h1, h2 => by
    cases m with
    | nil => exact absurd p.length_eq (by simp)
    | cons b m =>
      obtain ⟨a1, a2⟩ := List.pairwise_cons.mp h1
      obtain ⟨b1, b2⟩ := List.pairwise_cons.mp h2
      have e : a = b := by
        have x1 : a ∈ b :: m := p.mem_iff.mp (by simp)
        have x2 : b ∈ a :: l := p.mem_iff.mpr (by simp)
        rcases List.mem_cons.mp x1 with z | z
        · exact z
        · rcases List.mem_cons.mp x2 with w | w
          · exact w.symm
          · have := a1 b w; have := b1 a z; omega
      subst e
      rw [sorted_eq (List.Perm.cons_inv p) a2 b2]
theorem isort_eq {l m : List Int} (p : m.Perm l) (s : m.Pairwise (· ≤ ·)) : m = isort l := sorted_eq (p.trans (isort_perm l).symm) s (isort_sorted l)
theorem isort_length (l : List Int) : (isort l).length = l.length := (isort_perm l).length_eq

section
variable {X : Cx} {a b c e o value lo hi : Expr} {es : List Expr} {q q1 q2 q3 : Bool} {ra rb rc rv : RE} {rs : RA} {pos pos' p p2 apos cpos tpos : Pos} {E : Ent} {I I' : Hp} {δ δ' : Env} {σ τ : St} {H H' : Hp} {v : V} {d : D} {i : Nat} {x : Str}
/-- sorted(..) of a list of ints, of a dict with int keys -/
def keysI {α : Type} : List (Key × α) → Option (List Int)
  | [] => some []
  | (.inl i, _) :: r => (keysI r).map (i :: ·)
  | _ :: _ => none
theorem keysI_eq {α : Type} : ∀ {kvs : List (Key × α)} {ks : List Int}, keysI kvs = some ks → kvs.map (·.1) = ks.map Sum.inl
  | [], _, h => by cases h; rfl
  | (.inl i, z) :: r, ks, h => by
    simp only [keysI, Option.map_eq_some_iff] at h
    obtain ⟨m, h1, rfl⟩ := h
    rw [List.map_cons, List.map_cons, keysI_eq h1]
theorem RepP.keys {K : PySem.W.Frag} {κ : Type} : ∀ {vs : List (κ × V)} {ds : List (κ × D)}, RepP K I vs ds → vs.map (·.1) = ds.map (·.1)
  | _, _, .nil => rfl
  | _, _, .cons h r => by rw [List.map_cons, List.map_cons, RepP.keys r]
def fSort : Option D → (List D → Prop) → Prop
  | some (.lst xs), k => ∃ ns : List Int, xs = ns.map D.int ∧ k ((isort ns).map D.int)
  | some (.wl xs), k => ∃ ns : List Int, xs = ns.map D.int ∧ k ((isort ns).map D.int)
  | some (.dK kvs), k => onSome (fun ks => ks.length < 64 ∧ k ((isort ks).map D.int)) (keysI kvs)
  | _, _ => False
theorem call_sortedA (hc : X.calm = true) : CallR X (.builtin "sorted") (fun xs H Q => rSortedI X.K xs H Q ∨ ∃ (a : Addr) (kvs : List (Key × V)) (ks : List Int), xs = [.ref a] ∧ L2.Rd H a (.dK kvs) ∧ kvs.map (·.1) = ks.map Sum.inl ∧ ks.length < 64 ∧
    ∀ (ys : List Int) (p : Addr), ys.Perm ks → ys.Pairwise (· ≤ ·) → H p = none → Q (.ref p) (upd H p (.lst (ys.map V.int)))) := by
  intro pins s σ H xs us Q I r h
  rcases h with h | h
  · exact cr_sortedI pins s σ H xs us Q I r h
  · exact call_sortedDI hc pins s σ H xs us Q I r h
theorem vl_sort : VlOk X fSort (fun v H Q => rSortedI X.K [v] H Q ∨ ∃ (a : Addr) (kvs : List (Key × V)) (ks : List Int), [v] = [.ref a] ∧ L2.Rd H a (.dK kvs) ∧ kvs.map (·.1) = ks.map Sum.inl ∧ ks.length < 64 ∧
    ∀ (ys : List Int) (p : Addr), ys.Perm ks → ys.Pairwise (· ≤ ·) → H p = none → Q (.ref p) (upd H p (.lst (ys.map V.int)))) where
  ok := fun {I H v d k Q} m s h w => by
    cases s with
    | lst e r => obtain ⟨ns, rfl, h⟩ := h; rw [r.ints_of] at e; exact .inl ⟨_, ns, rfl, SqL.of e, fun ns' p p1 p2 n => by rw [isort_eq p1 p2]; exact w p _ _ h (.ints _) n⟩
    | wl e r => obtain ⟨ns, rfl, h⟩ := h; rw [r.ints_of] at e; exact .inl ⟨_, ns, rfl, e, fun ns' p p1 p2 n => by rw [isort_eq p1 p2]; exact w p _ _ h (.ints _) n⟩
    | dK e r => 
      obtain ⟨ks, h1, h2, h⟩ := onSome_ok h
      exact .inr ⟨_, _, ks, rfl, e, by rw [r.keys]; exact keysI_eq h1, h2, fun ns' p p1 p2 n => by rw [isort_eq p1 p2]; exact w p _ _ h (.ints _) n⟩
    | _ => exact h.elim
  no := fun h => h
  mono := fun {d k k'} hk h => by
    match d, h with
    | some (.lst _), ⟨ns, e, h⟩ => exact ⟨ns, e, hk _ h⟩
    | some (.wl _), ⟨ns, e, h⟩ => exact ⟨ns, e, hk _ h⟩
    | some (.dK _), h => exact onSome_mono (fun _ w => ⟨w.1, hk _ w.2⟩) h
abbrev rSortI := rVL fSort
theorem tr_sorted (hc : X.calm = true) (hg : Gl X "sorted") (hm : X.mg "sorted" = none) (ha : TrE X a q ra) (he : starEach [a] X.env = (false, eval a X.env) :: starEach [] X.env := by rfl) : TrE X (.Call (.Name "sorted" p) [a] [] pos) q (DL.rSortI ra) :=
  tr_bL (call_sortedA hc) hg hm (by decide +kernel) vl_sort ha (by decide) (by decide) he
/-- dict(..) of a list of pairs -/
def pairsD : List D → Option (List (Key × D))
  | [] => some []
  | .tup [k, v] :: r => match k.key, pairsD r with
    | some k, some r => some ((k, v) :: r)
    | _, _ => none
  | _ => none
def kmerge (kvs more : List (Key × D)) : List (Key × D) := more.foldl (fun acc kv => kput acc kv.1 kv.2) kvs
theorem RepP.merge {K : PySem.W.Frag} : ∀ {more : List (Key × V)} {dm : List (Key × D)} {kvs : List (Key × V)} {ds : List (Key × D)}, RepP K I more dm → RepP K I kvs ds → RepP K I (mergeK kvs more) (kmerge ds dm)
  | _, _, kvs, ds, .nil, s => s
  | _, _, kvs, ds, .cons (k := j) (v := v) (d := d) (vs := vs) (ds := dm) h r, s => RepP.merge (more := vs) (dm := dm) (kvs := putK kvs j v) (ds := kput ds j d) r (s.put j h)
theorem pairs_reps {K : PySem.W.Frag} (m : Same I H) : ∀ {xs : List D} {vs : List V} {kvs : List (Key × D)}, Reps K I vs xs → pairsD xs = some kvs → ∃ (ps : List Addr) (ks : List (Key × V)), vs = ps.map V.ref ∧ Paired (fun p kv => SqT K H p [kV kv.1, kv.2]) ps ks ∧ RepP K I ks kvs
  | [], vs, kvs, r, e => by cases r; cases e; exact ⟨[], [], rfl, .nil, .nil⟩
  | x :: xs, vs, kvs, r, e => by
    cases r with
    | cons h r =>
      match x, e, h with
      | .tup [k, v], e, h =>
        unfold pairsD at e
        cases h1 : k.key with
        | none => simp [h1] at e
        | some j =>
          cases h2 : pairsD xs with
          | none => simp [h1, h2] at e
          | some rest =>
            simp [h1, h2] at e
            subst e
            obtain ⟨ps, ks, e1, e2, e3⟩ := pairs_reps m r h2
            cases h with
            | tup g rr =>
              rename_i a vs2
              cases rr with
              | cons rk rr => cases rr with
                | cons rv rr => cases rr with
                  | nil =>
                    rename_i kv vv
                    refine ⟨a :: ps, (j, vv) :: ks, by rw [e1, List.map_cons], .cons ?_ e2, .cons rv e3⟩
                    have : kv = kV j := key_rep rk h1
                    subst this
                    exact SqT.of (m _ _ g)
def dictX (δ : Env) (Q : Rd → Env → Prop) : Option D → Prop
  | some (.lst xs) => onSome (fun kvs => Q (.tm (.ob (.dK (kmerge [] kvs)))) δ) (pairsD xs)
  | some (.wl xs) => onSome (fun kvs => Q (.tm (.ob (.dK (kmerge [] kvs)))) δ) (pairsD xs)
  | _ => False
theorem dictX_mono {Q Q' : Rd → Env → Prop} (h : ∀ x δ, Q x δ → Q' x δ) : ∀ {d : Option D}, dictX δ Q d → dictX δ Q' d
  | some (.lst xs), w => onSome_mono (fun _ => h _ _) w
  | some (.wl xs), w => onSome_mono (fun _ => h _ _) w
def rDictOf (ra : RE) : RE := fun δ Q => ra δ fun x δ1 => dictX δ1 Q (vw δ1 x)
theorem push_dK {K : PySem.W.Frag} {E : Ent} {I H : Hp} {δ : Env} {σ : St} {p : Addr} {vs : List (Key × V)} {ds : List (Key × D)} (S : Sta K E I δ σ H) (n : H p = none) (r : RepP K I vs ds) : RdSt K E I δ σ (upd H p (.dK vs)) (.ref p) (.tm (.ob (.dK ds))) :=
  S.push (same_upd n) (L' := [p]) (by intro a q; rw [List.mem_singleton.mp q]; exact n) (by simp) (.ob (.mk upd_same (.dK r)))
theorem tr_dictOf (hc : X.calm = true) (hg : Gl X "dict") (hm : X.mg "dict" = none) (ha : TrE X a q ra) (he : starEach [a] X.env = (false, eval a X.env) :: starEach [] X.env := by rfl) : TrE X (.Call (.Name "dict" p) [a] [] pos) q (rDictOf ra) := by
  refine ⟨weakE (pe_callTy (call_dictP hc) hg hm (by decide +kernel) (pa_cons ha.pe pa_nil he) (by decide) (by decide) he) fun σ H Q _ ⟨E, I, δ, τ, S, h⟩ => ⟨E, I, δ, τ, S, ha.mono (fun x δ1 h1 v I1 H1 s1 k1 st => ?_) h⟩, fun h => ha.mono fun _ _ => dictX_mono h⟩
  cases e : vw δ1 x with
  | none => rw [e] at h1; exact h1.elim
  | some d =>
    rw [e] at h1
    have sh := st.shl e
    clear e
    cases sh with
    | lst e r =>
      obtain ⟨kvs, g1, h1⟩ := onSome_ok h1
      obtain ⟨ps, ks, rfl, e2, e3⟩ := pairs_reps st.sta.le r g1
      exact ⟨_, ps, ks, rfl, SqL.of e, e2, fun p n => h1 _ I1 _ s1 (fun w => (k1 w).trans (same_upd n)) (push_dK st.sta n (e3.merge .nil))⟩
    | wl e r =>
      obtain ⟨kvs, g1, h1⟩ := onSome_ok h1
      obtain ⟨ps, ks, rfl, e2, e3⟩ := pairs_reps st.sta.le r g1
      exact ⟨_, ps, ks, rfl, e, e2, fun p n => h1 _ I1 _ s1 (fun w => (k1 w).trans (same_upd n)) (push_dK st.sta n (e3.merge .nil))⟩
    | _ => exact h1.elim
/-- min, max of two ints -/
def onPair (k : Int → Int → Prop) : List D → Prop
  | [.int i, .int j] => k i j
  | _ => False
theorem onPair_mono {k k' : Int → Int → Prop} (h : ∀ i j, k i j → k' i j) : ∀ {ds : List D}, onPair k ds → onPair k' ds
  | [.int i, .int j], w => h _ _ w
theorem onPair_ok {K : PySem.W.Frag} {k : Int → Int → Prop} {vs : List V} : ∀ {ds : List D}, Reps K I vs ds → onPair k ds → ∃ i j, vs = [.int i, .int j] ∧ k i j
  | [.int i, .int j], .cons (.int _) (.cons (.int _) .nil), w => ⟨i, j, rfl, w⟩
def rMin2 (rs : RA) : RE := fun δ Q => rs δ fun ds δ1 => onPair (fun i j => Q (.im (.int (if j < i then j else i))) δ1) ds
def rMax2 (rs : RA) : RE := fun δ Q => rs δ fun ds δ1 => onPair (fun i j => Q (.im (.int (if j > i then j else i))) δ1) ds
theorem tr_min2 (hc : X.calm = true) (hg : Gl X "min") (hm : X.mg "min" = none) (ha : TrA X [a, b] q rs) (he : starEach [a, b] X.env = (false, eval a X.env) :: starEach [b] X.env := by rfl) (hpl : (backTo pos (starEach [b] X.env)).any (·.1) = false := by rfl) : TrE X (.Call (.Name "min" p) [a, b] [] pos) q (rMin2 rs) := by
  refine ⟨weakE (pe_callB (call_min2 hc) hg hm (by decide +kernel) ha.pa (by decide) (by decide) he hpl) fun σ H Q _ ⟨E, I, δ, τ, S, h⟩ => ⟨E, I, δ, τ, S, ha.mono (fun ds δ1 h1 vs I1 H1 s1 k1 S1 r1 => ?_) h⟩, fun h => ha.mono fun _ _ => onPair_mono fun _ _ => h _ _⟩
  obtain ⟨i, j, rfl, w⟩ := onPair_ok r1 h1
  exact ⟨i, j, rfl, w _ I1 H1 s1 k1 ⟨S1, .int _⟩⟩
theorem tr_max2 (hc : X.calm = true) (hg : Gl X "max") (hm : X.mg "max" = none) (ha : TrA X [a, b] q rs) (he : starEach [a, b] X.env = (false, eval a X.env) :: starEach [b] X.env := by rfl) (hpl : (backTo pos (starEach [b] X.env)).any (·.1) = false := by rfl) : TrE X (.Call (.Name "max" p) [a, b] [] pos) q (rMax2 rs) := by
  refine ⟨weakE (pe_callB (call_max2 hc) hg hm (by decide +kernel) ha.pa (by decide) (by decide) he hpl) fun σ H Q _ ⟨E, I, δ, τ, S, h⟩ => ⟨E, I, δ, τ, S, ha.mono (fun ds δ1 h1 vs I1 H1 s1 k1 S1 r1 => ?_) h⟩, fun h => ha.mono fun _ _ => onPair_mono fun _ _ => h _ _⟩
  obtain ⟨i, j, rfl, w⟩ := onPair_ok r1 h1
  exact ⟨i, j, rfl, w _ I1 H1 s1 k1 ⟨S1, .int _⟩⟩
/-- d.get(k, other) -/
def isDct : Option D → Prop
  | some (.dK _) => True
  | some (.dT _) => True
  | _ => False
def getX (k : D → Prop) : Option D → D → D → Prop
  | some (.dK kvs), i, z => onSome (fun j => k ((kval kvs j).getD z)) i.key
  | some (.dT kvs), .tup is, z => onSome (fun j => k ((kval kvs j).getD z)) (D.keys is)
  | _, _, _ => False
theorem getX_mono {k k' : D → Prop} (h : ∀ d, k d → k' d) : ∀ {o : Option D} {i z : D}, getX k o i z → getX k' o i z
  | some (.dK _), i, z, w => by unfold getX at w ⊢; exact onSome_mono (fun _ => h _) w
  | some (.dT _), .tup is, z, w => by unfold getX at w ⊢; exact onSome_mono (fun _ => h _) w
def rGet2 (q : Bool) (ra rb rc : RE) : RE := fun δ Q => ra δ fun x δ1 => keepR q x δ1 fun x' δ2 => isDct (vw δ2 x') ∧ r2 rb rc (fun i z δ3 => getX (fun d => Q (.im d) δ3) (vw δ3 x') i z) δ2
theorem isD_of {K : PySem.W.Frag} {d : D} (sh : Shl K H I v d) (h : isDct (some d)) : ∃ a, v = .ref a ∧ IsD H a := by
  cases sh with
  | dK e r => exact ⟨_, rfl, .inl ⟨_, e⟩⟩
  | dT e r => exact ⟨_, rfl, .inr ⟨_, e⟩⟩
  | _ => exact h.elim
theorem tr_get2 (hu : X.A.units + 1 < cLine) (ha : TrE X a q1 ra) (hb : TrE X b q2 rb) (hc : TrE X c q3 rc) (m : M2 X a "get" apos b c cpos := by exact ⟨rfl, rfl, rfl, rfl⟩) : TrE X (.Call (.Attribute a "get" apos) [b, c] [] cpos) (q1 && (q2 && q3)) (rGet2 (q2 && q3) ra rb rc) := by
  refine ⟨weakE (pe_dget2 hu ha.pe hb.pe hc.pe m) fun σ H Q _ ⟨E, I, δ, τ, S, h⟩ => ⟨E, I, δ, τ, S, ha.mono (fun x δ1 h1 v I1 H1 s1 k1 st => ?_) h⟩,
    fun h => ha.mono fun _ _ => keepR_mono fun _ _ w => ⟨w.1, r2_mono hb hc (fun _ _ _ => getX_mono fun _ => h _ _) w.2⟩⟩
  obtain ⟨I2, x', δ2, s2, st2, ⟨hd, h2⟩, later⟩ := keepR_ok st h1
  have hD : ∃ a, v = .ref a ∧ IsD H1 a := by
    cases e : vw δ2 x' with
    | none => rw [e] at hd; exact hd.elim
    | some d => rw [e] at hd; exact isD_of (st2.shl e) hd
  obtain ⟨a0, rfl, hD⟩ := hD
  refine ⟨a0, rfl, hD, ?_⟩
  refine one hb st2.sta h2 fun y i δ3 I3 H3 s3 k3 S3 ri h3 => ?_
  refine one hc S3 h3 fun w z δ4 I4 H4 s4 k4 S4 rz h4 => ?_
  have st4 := later I4 δ4 H4 S4 (s3.trans s4) (fun w => (k3 (and_q w).1).trans (k4 (and_q w).2))
  have fin : ∀ (u : V) (d : D), Rep X.K I4 u d → (∀ v I' H', Same I I' → ((q1 && (q2 && q3)) = true → Same H H') → RdSt X.K E I' δ4 (σ ++ τ) H' v (.im d) → Q v H') → Q u H4 := fun u d r k =>
    k u I4 H4 (s1.trans (s2.trans (s3.trans s4))) (fun w => (k1 (and_q w).1).trans ((k3 (and_q (and_q w).2).1).trans (k4 (and_q (and_q w).2).2))) ⟨S4, r⟩
  have h4 : getX (fun d => ∀ v I' H', Same I I' → ((q1 && (q2 && q3)) = true → Same H H') → RdSt X.K E I' δ4 (σ ++ τ) H' v (.im d) → Q v H') (vw δ4 x') i z := h4
  cases e : vw δ4 x' with
  | none => rw [e] at h4; exact h4.elim
  | some d =>
    rw [e] at h4
    have sh := st4.shl e
    clear e
    cases sh with
    | dK e r =>
      unfold getX at h4
      obtain ⟨j, g1, h4⟩ := onSome_ok h4
      have g := dget_k e r (Rep.mono s4 ri) g1
      cases q : kval _ j with
      | some z' => rw [q] at g h4; obtain ⟨u, u1, u2⟩ := g; exact ⟨some u, u1, fin _ _ u2 h4⟩
      | none => rw [q] at g h4; exact ⟨none, g, fin _ _ rz h4⟩
    | dT e r =>
      cases i <;> first | exact h4.elim | skip
      unfold getX at h4
      obtain ⟨j, g1, h4⟩ := onSome_ok h4
      have g := dget_t S4.le e r (Rep.mono s4 ri) g1
      cases q : kval _ j with
      | some z' => rw [q] at g h4; obtain ⟨u, u1, u2⟩ := g; exact ⟨some u, u1, fin _ _ u2 h4⟩
      | none => rw [q] at g h4; exact ⟨none, g, fin _ _ rz h4⟩
    | _ => exact h4.elim
end
end DL
end
section
set_option Elab.async false
set_option linter.all false
set_option maxRecDepth 100000
set_option maxHeartbeats 1000000
namespace DL
open PySem L2
section
variable {K : PySem.W.Frag} {E : Ent} {I I' : Hp} {δ δ' ε : Env} {σ τ : St} {H H' : Hp} {v : V} {o : Ow} {d : D} {i j : Nat} {pn : Pin}
/-! ### fields are written -/
def putFv (f : Str) (x : Fv) : List (Str × Fv) → List (Str × Fv)
  | [] => [(f, x)]
  | (g, y) :: r => if g = f then (g, x) :: r else (g, y) :: putFv f x r
theorem OwnFs.put {f : Str} {u : V} {x : Fv} {M : List Addr} (hx : OwnF K H I u x M) : ∀ {vs : List (Str × V)} {fs : List (Str × Fv)} {L : List Addr}, OwnFs K H I vs fs L → L.Nodup → M.Nodup → (∀ a ∈ L, a ∉ M) → ∃ L', OwnFs K H I (putF f u vs) (putFv f x fs) L' ∧ L'.Nodup ∧ ∀ a ∈ L', a ∈ L ∨ a ∈ M
  | _, _, _, .nil, _, nm, _ => by
    have := OwnFs.cons (k := f) hx .nil
    exact ⟨M ++ [], this, by simpa using nm, fun a q => .inr (by simpa using q)⟩
  | _, _, _, .cons (k := g) (v := v) (f := y) (L := L) (M := M') (vs := vs) (fs := fs) h rr, nd, nm, dis => by
    obtain ⟨n1, n2, n3⟩ := List.nodup_append.mp nd
    show ∃ L', OwnFs K H I (if g = f then (g, u) :: vs else (g, v) :: putF f u vs) (if g = f then (g, x) :: fs else (g, y) :: putFv f x fs) L' ∧ _
    by_cases e : g = f
    · rw [if_pos e, if_pos e]
      refine ⟨_, .cons hx rr, List.nodup_append.mpr ⟨nm, n2, fun a qa b qb z => ?_⟩, fun a q => ?_⟩
      · subst z; exact dis a (List.mem_append_right _ qb) qa
      · rcases List.mem_append.mp q with q | q
        · exact .inr q
        · exact .inl (List.mem_append_right _ q)
    · rw [if_neg e, if_neg e]
      obtain ⟨L', g1, g2, g3⟩ := OwnFs.put hx rr n2 nm fun a q => dis a (List.mem_append_right _ q)
      refine ⟨_, .cons h g1, List.nodup_append.mpr ⟨n1, g2, fun a qa b qb z => ?_⟩, fun a q => ?_⟩
      · subst z
        rcases g3 a qb with w | w
        · exact n3 a qa a w rfl
        · exact dis a (List.mem_append_left _ qa) w
      · rcases List.mem_append.mp q with q | q
        · exact .inl (List.mem_append_left _ q)
        · rcases g3 a q with w | w
          · exact .inl (List.mem_append_right _ w)
          · exact .inr w
theorem OwnFs.length {vs : List (Str × V)} {fs : List (Str × Fv)} {L : List Addr} (h : OwnFs K H I vs fs L) : vs.length = fs.length := by
  induction h with
  | nil => rfl
  | cons _ _ ih => rw [List.length_cons, List.length_cons, ih]
/-- a field gets immutable data -/
theorem Sta.fldIm {C : Addr} {fs : List (Str × Fv)} {f : Str} {u : V} (S : Sta K E I δ σ H) (hj : δ[j]? = some (.ow pn (.ins C fs))) (r : Rep K I u d) : ∃ a dx vs, σ[j]? = some (some (.ref a)) ∧ H a = some (.ins C dx vs) ∧ vs.length = fs.length ∧
    Sta K E I (δ.set j (.ow pn (.ins C (putFv f (.im d) fs)))) σ (upd H a (.ins C dx (putF f u vs))) := by
  obtain ⟨w, L, w1, ow, nd, nI, step⟩ := S.mut hj
  cases ow with
  | ins g rr =>
    rename_i a dx vs L
    obtain ⟨nd1, nd2⟩ := List.nodup_cons.mp nd
    obtain ⟨L', g1, g2, g3⟩ := OwnFs.put (f := f) (OwnF.im r : OwnF K H I u (.im d) []) rr nd2 (by simp) (by simp)
    have sub : ∀ b ∈ L', b ∈ L := fun b q => by
      rcases g3 b q with z | z
      · exact z
      · cases z
    refine ⟨a, dx, vs, w1, g, rr.length, step _ _ (a :: L') (.ins upd_same (g1.keep (L2.Same.refl _) fun b q => upd_ne fun z => nd1 (by rw [← z]; exact sub b q))) (List.nodup_cons.mpr ⟨fun z => nd1 (sub a z), g2⟩) (fun b q => ?_) (fun b q _ => upd_ne fun z => q (by simp [z])) fun b q => ?_⟩
    · rcases List.mem_cons.mp q with z | z
      · exact .inl (by simp [z])
      · exact .inl (List.mem_cons_of_mem _ (sub b z))
    · by_cases z : b = a
      · subst z; rw [upd_same]; simp
      · rw [upd_ne z]; exact q
/-- a field takes the owned thing on top -/
theorem Sta.absorb {C : Addr} {fs : List (Str × Fv)} {f : Str} {u : V} {ob : Ob} (S : Sta K E I (δ ++ [.ow .fresh (.ob ob)]) (σ ++ [some u]) H) (hj : δ[j]? = some (.ow pn (.ins C fs))) : ∃ a dx vs, σ[j]? = some (some (.ref a)) ∧ H a = some (.ins C dx vs) ∧ vs.length = fs.length ∧
    Sta K E I (δ.set j (.ow pn (.ins C (putFv f (.ob ob) fs)))) σ (upd H a (.ins C dx (putF f u vs))) := by
  have hl : σ.length = δ.length := by have := S.len; simpa using this
  have hjl : j < δ.length := lt_of_get hj
  obtain ⟨le, i0, ix, th, fr, len, L, h1, h2, h3, h4⟩ := S
  have me := h1 j
  rw [gl hjl, gl (by omega), hj] at me
  obtain ⟨w, w1, ow, pin⟩ := me
  have top := h1 δ.length
  rw [gr (Nat.le_refl _), gr (by omega), hl, Nat.sub_self] at top
  obtain ⟨w', e1, owt, pint⟩ := top
  cases e1
  cases owt with
  | ob owt =>
    generalize hLj : L j = Lj at *
    cases ow with
    | ins g rr =>
      rename_i a dx vs LL
      have nd : (a :: LL).Nodup := by rw [← hLj]; exact h2 j
      obtain ⟨nd1, nd2⟩ := List.nodup_cons.mp nd
      have dis : ∀ b ∈ a :: LL, b ∉ L δ.length := fun b q z => by
        rw [← hLj] at q
        have := h3 _ _ b q z; omega
      obtain ⟨L', g1, g2, g3⟩ := OwnFs.put (f := f) (OwnF.ob owt : OwnF K H I u (.ob ob) (L δ.length)) rr nd2 (h2 _) fun b q => dis b (List.mem_cons_of_mem _ q)
      have naL : a ∉ L' := fun z => by
        rcases g3 a z with y | y
        · exact nd1 y
        · exact dis a (by simp) y
      have same : ∀ b, b ≠ a → upd H a (.ins C dx (putF f u vs)) b = H b := fun b q => upd_ne q
      have haI : I a = none := h4 j a (by rw [hLj]; simp)
      have frL : ∀ b ∈ L δ.length, E.H0 b = none := pint
      refine ⟨a, dx, vs, w1, g, rr.length, ⟨fun b z e => ?_, i0, ix, fun b q => ?_, fun b z q n => ?_, by simp [hl], fun k => if k = j then a :: L' else if k < δ.length then L k else [], fun k => ?_, fun k => ?_, fun k m b q1 q2 => ?_, fun k b q => ?_⟩⟩
      · rw [same b fun y => by rw [y, haI] at e; cases e]; exact le b z e
      · by_cases y : b = a
        · subst y; rw [upd_same]; simp
        · rw [same b y]; exact th b q
      · by_cases y : b = a
        · subst y
          exfalso
          cases pn with
          | fresh => have := pin b (by simp); rw [q] at this; cases this
          | arg m => rcases pin.2 b (by simp) with y | y
                     · rw [q] at y; cases y
                     · exact n m y
        · rw [same b y]; exact fr b z q n
      · dsimp only
        by_cases hk : k = j
        · subst hk
          rw [if_pos rfl, List.getElem?_set_self hjl]
          refine ⟨_, w1, .ins upd_same (g1.keep (L2.Same.refl _) fun b q => same b fun y => naL (by rw [← y]; exact q)), ?_⟩
          have sub : ∀ b ∈ a :: L', b ∈ a :: LL ∨ b ∈ L δ.length := fun b q => by
            rcases List.mem_cons.mp q with y | y
            · exact .inl (by simp [y])
            · rcases g3 b y with y | y
              · exact .inl (List.mem_cons_of_mem _ y)
              · exact .inr y
          cases pn with
          | fresh => exact fun b q => (sub b q).elim (pin b) (frL b)
          | arg m => exact ⟨pin.1, fun b q => (sub b q).elim (pin.2 b) fun y => .inl (frL b y)⟩
        · rw [if_neg hk, List.getElem?_set_ne (Ne.symm hk)]
          by_cases hk2 : k < δ.length
          · rw [if_pos hk2]
            have := h1 k
            rw [gl hk2, gl (by omega)] at this
            refine this.keep (L2.Same.refl _) fun b q => same b fun y => ?_
            subst y
            exact hk (h3 k j b q (by rw [hLj]; simp))
          · rw [if_neg hk2, List.getElem?_eq_none (l := δ) (by omega)]; rfl
      · dsimp only
        split
        · exact List.nodup_cons.mpr ⟨naL, g2⟩
        · split
          · exact h2 k
          · simp
      · dsimp only at q1 q2
        have inj : ∀ (k : Nat) (b : Addr), k ≠ j → k < δ.length → b ∈ L k → b ∈ a :: L' → False := fun k b hk hk2 p1 p2 => by
          rcases List.mem_cons.mp p2 with y | y
          · exact hk (h3 k j b p1 (by rw [hLj, y]; simp))
          · rcases g3 b y with y | y
            · exact hk (h3 k j b p1 (by rw [hLj]; exact List.mem_cons_of_mem _ y))
            · have := h3 k _ b p1 y; omega
        by_cases hk : k = j
        · by_cases hm : m = j
          · rw [hk, hm]
          · rw [if_neg hm] at q2
            rw [if_pos hk] at q1
            split at q2
            · exact (inj m b hm (by assumption) q2 q1).elim
            · cases q2
        · rw [if_neg hk] at q1
          split at q1
          · by_cases hm : m = j
            · rw [if_pos hm] at q2; exact (inj k b hk (by assumption) q1 q2).elim
            · rw [if_neg hm] at q2
              split at q2
              · exact h3 k m b q1 q2
              · cases q2
          · cases q1
      · dsimp only at q
        split at q
        · rcases List.mem_cons.mp q with y | y
          · rw [y]; exact haI
          · rcases g3 b y with y | y
            · exact h4 j b (by rw [hLj]; exact List.mem_cons_of_mem _ y)
            · exact h4 _ b y
        · split at q
          · exact h4 k b q
          · cases q
end

section
variable {X : Cx} {a b c e ob value : Expr} {es : List Expr} {q q1 q2 q3 : Bool} {ra rb rc rv : RE} {rs : RA} {r : RS} {pos pos' p p2 apos cpos tpos : Pos} {E : Ent} {I I' : Hp} {δ δ' : Env} {σ τ : St} {H H' : Hp} {v : V} {d : D} {i j : Nat} {x : Str}
/-- name.f = value -/
def setFS (C : Addr) (f : Str) (j : Nat) (x : Fv) (k : Env → Prop) (δ : Env) : Option Slot → Prop
  | some (.ow p (.ins C' fs)) => C' = C ∧ fs.length < 1000 ∧ k (δ.set j (.ow p (.ins C (putFv f x fs))))
  | _ => False
theorem setFS_mono {C : Addr} {f : Str} {x : Fv} {k k' : Env → Prop} (h : ∀ δ, k δ → k' δ) : ∀ {s : Option Slot}, setFS C f j x k δ s → setFS C f j x k' δ s
  | some (.ow p (.ins C' fs)), w => ⟨w.1, w.2.1, h _ w.2.2⟩
def setFX (C : Addr) (f : Str) (j : Nat) (k : Env → Prop) (y : Rd) (δ : Env) : Prop := match y with
  | .im d => setFS C f j (.im d) k δ δ[j]?
  | .tm (.ob ob) => setFS C f j (.ob ob) k δ δ[j]?
  | .tm (.ins C2 fs2) => fs2.all (fun p => p.2.frz) = true ∧ setFS C f j (.im (.obj C2 (fsD fs2))) k δ δ[j]?
  | .vr i => imS δ i (fun d δ' => setFS C f j (.im d) k δ' δ'[j]?) δ[i]?
  | _ => False
theorem setFX_mono {C : Addr} {f : Str} {k k' : Env → Prop} (h : ∀ δ, k δ → k' δ) {y : Rd} (w : setFX C f j k y δ) : setFX C f j k' y δ := by
  match y, w with
  | .im d, w => exact setFS_mono h w
  | .tm (.ob _), w => exact setFS_mono h w
  | .tm (.ins _ _), w => exact ⟨w.1, setFS_mono h w.2⟩
  | .vr i, w => exact imS_mono (k := fun d δ' => setFS C f j (.im d) k δ' δ'[j]?) (k' := fun d δ' => setFS C f j (.im d) k' δ' δ'[j]?) (fun _ _ => setFS_mono h) w
theorem setFS_ok {C : Addr} {f : Str} {y : Fv} {k : Env → Prop} : ∀ {s : Option Slot}, setFS C f j y k δ s → ∃ p fs, s = some (.ow p (.ins C fs)) ∧ fs.length < 1000 ∧ k (δ.set j (.ow p (.ins C (putFv f y fs))))
  | some (.ow p (.ins C' fs)), w => by obtain ⟨rfl, w1, w2⟩ := w; exact ⟨p, fs, rfl, w1, w2⟩
def rSetF (C : Addr) (f : Str) (j : Nat) (rv : RE) : RS := fun De δ => rv δ fun y δ1 => setFX C f j De.nx y δ1
theorem ts_fld {f : Str} {C : Addr} {px : Pos} (cc : Cls X.K C) (n : NoAttr X.K C f) (hv : TrE X value q rv) (hN : X.N[j]? = some x) (hvs : Vis X.env.scope x := by first | exact Or.inl rfl | exact Or.inr (Or.inl rfl) | exact Or.inr (Or.inr rfl)) (hd : (x == ("__debug__" : Str)) = false := by decide)
    (hcd : (x == ("__classdict__" : Str)) = false := by decide) (hs : swapsWith value (some (.Attribute (.Name x px) f pos')) pos.line X.env = pure false := by rfl) : TrS X (.Assign [.Attribute (.Name x px) f pos'] value pos) (rSetF C f j rv) := by
  refine ⟨weakS (ps_fld (pe_var (i := j) hN hvs hd hcd) hv.pe hs) fun D σ H hl ⟨E, I, δ, τ, De, S, h, k⟩ => ⟨E, I, δ, τ, S, hv.mono (fun y δ1 h1 v I1 H1 s1 k1 st => ?_) h⟩, fun k => hv.mono fun _ _ => setFX_mono k.nx⟩
  have hj : j < σ.length := by rw [hl]; exact lt_of_get hN
  have imCase : ∀ (I2 : Hp) (δ2 : Env) (d : DL.D), Sta X.K E I2 δ2 (σ ++ τ) H1 → Rep X.K I2 v d → setFS C f j (.im d) De.nx δ2 δ2[j]? → ∃ x, σ[j]? = some (some x) ∧ ∃ a C dx fs, x = .ref a ∧ H1 a = some (.ins C dx fs) ∧ Cls X.K C ∧ NoAttr X.K C f ∧ fs.length < 1000 ∧ D.nx σ (upd H1 a (.ins C dx (putF f v fs))) := by
    intro I2 δ2 d S2 rp w
    obtain ⟨p, fs, e, w1, w2⟩ := setFS_ok w
    obtain ⟨a, dx, vs, g1, g2, g3, g4⟩ := S2.fldIm (f := f) e rp
    rw [gl hj] at g1
    exact ⟨_, g1, a, C, dx, vs, rfl, g2, cc, n, by omega, k.nx _ _ _ _ hl g4 w2⟩
  match y, h1, st with
  | .im d, h1, st => exact imCase _ _ d st.1 st.2 h1
  | .tm (.ob o), h1, st =>
    obtain ⟨p, fs, e, w1, w2⟩ := setFS_ok h1
    obtain ⟨a, dx, vs, g1, g2, g3, g4⟩ := Sta.absorb (f := f) (show Sta X.K E I1 (δ1 ++ [.ow .fresh (.ob o)]) (σ ++ τ ++ [some v]) H1 from st) e
    rw [gl hj] at g1
    exact ⟨_, g1, a, C, dx, vs, rfl, g2, cc, n, by omega, k.nx _ _ _ _ hl g4 w2⟩
  | .tm (.ins C2 fs2), h1, st =>
    obtain ⟨I2, t1, t2, t3⟩ := Sta.freezeTop st
    exact imCase I2 δ1 _ t3 t2 h1.2
  | .vr i, h1, st =>
    obtain ⟨I2, d, δ2, t1, t2, t3, t4⟩ := imS_ok (k := fun d δ' => setFS C f j (.im d) De.nx δ' δ'[j]?) st.1 st.2 h1
    exact imCase I2 δ2 d t2 t3 t4

/-! ### x op= e -/
def isIm : Option Slot → Prop
  | some (.im _) => True
  | _ => False
def rAug (i : Nat) (f : Int → Int → Int) (ra : RE) : RS := fun De δ => isIm δ[i]? ∧ r1 ra (fun d δ1 => augS i De.nx δ1 f δ1[i]? d) δ
theorem augS_mono {f : Int → Int → Int} {k k' : Env → Prop} (h : ∀ δ, k δ → k' δ) : ∀ {s : Option Slot} {d : D}, augS i k δ f s d → augS i k' δ f s d
  | some (.im (.int x)), .int y, w => h _ w
theorem augS_ok {f : Int → Int → Int} {k : Env → Prop} : ∀ {s : Option Slot} {d : D}, augS i k δ f s d → ∃ x y, s = some (.im (.int x)) ∧ d = .int y ∧ k (δ.set i (.im (.int (f x y))))
  | some (.im (.int x)), .int y, w => ⟨x, y, rfl, rfl, w⟩
/-- an int name op= an int -/
theorem ts_aug {op : Operator} {f : Int → Int → Int} {ti : TIp} (ho : PIp X op ti) (hf : ∀ x y H (Q : VK), Q (.int (f x y)) H → ti (.int x) (.int y) H Q) (hN : X.N.Nodup) (hi : X.N[i]? = some x) (hx : Loc X.env.scope x) (ha : TrE X e q ra)
    (hfn : X.fn x = true ∨ X.env.scope.names.lookup x = some .local := by first | exact .inl rfl | exact .inr rfl | assumption) : TrS X (.AugAssign (.Name x pos') op e pos) (rAug i f ra) := by
  refine ⟨weakS (ps_aug hN hi hx ha.pe ho hfn) fun D σ H hl ⟨E, I, δ, τ, De, S, ⟨h0, h⟩, k⟩ => ?_, fun k w => ⟨w.1, r1_mono ha (fun _ _ => augS_mono k.nx) w.2⟩⟩
  have hj : i < σ.length := by rw [hl]; exact lt_of_get hi
  obtain ⟨w, hw⟩ : ∃ w, σ[i]? = some (some w) := by
    cases e0 : δ[i]? with
    | none => rw [e0] at h0; exact h0.elim
    | some s => rw [e0] at h0; cases s with
      | im d => obtain ⟨u, u1, _⟩ := S.im_get e0; rw [gl hj] at u1; exact ⟨u, u1⟩
      | _ => exact h0.elim
  refine ⟨w, hw, ?_⟩
  refine one ha S h fun v d δ1 I1 H1 s1 k1 S1 rp h1 => ?_
  obtain ⟨z, y, e1, e2, h2⟩ := augS_ok h1
  subst e2
  cases rp
  obtain ⟨u, u1, u2⟩ := S1.im_get e1
  cases u2
  rw [gl hj, hw] at u1; cases u1
  refine hf z y H1 _ (k.nx _ I1 _ _ (by rw [List.length_set]; exact hl) ?_ h2)
  rw [← List.set_append_left _ _ hj]
  exact S1.set_im (.int _)
theorem ts_augAdd (hN : X.N.Nodup) (hi : X.N[i]? = some x) (hx : Loc X.env.scope x) (ha : TrE X e q ra) (hfn : X.fn x = true ∨ X.env.scope.names.lookup x = some .local := by first | exact .inl rfl | exact .inr rfl | assumption) :
    TrS X (.AugAssign (.Name x pos') .Add e pos) (rAug i (· + ·) ra) := ts_aug ip_add (fun x y H Q q => ⟨x, y, rfl, rfl, q⟩) hN hi hx ha hfn
theorem ts_augSub (hN : X.N.Nodup) (hi : X.N[i]? = some x) (hx : Loc X.env.scope x) (ha : TrE X e q ra) (hfn : X.fn x = true ∨ X.env.scope.names.lookup x = some .local := by first | exact .inl rfl | exact .inr rfl | assumption) :
    TrS X (.AugAssign (.Name x pos') .Sub e pos) (rAug i (· - ·) ra) := ts_aug ip_sub (fun x y H Q q => ⟨x, y, rfl, rfl, q⟩) hN hi hx ha hfn
end
end DL
end
section
set_option Elab.async false
set_option linter.all false
set_option maxRecDepth 100000
set_option maxHeartbeats 1000000
namespace DL
open PySem L2
section
variable {K : PySem.W.Frag} {E : Ent} {I I' : Hp} {δ δ' ε : Env} {σ τ : St} {H H' : Hp} {v : V} {o : Ow} {d : D} {i j : Nat} {pn : Pin}
/-! ### a thing is put aside: nobody may touch it till it comes back -/
theorem Sta.park (S : Sta K E I δ σ H) (hj : δ[j]? = some (.ow pn o)) : ∃ v L, σ[j]? = some (some v) ∧ Own K H I v o L ∧ (∀ a ∈ L, I a = none) ∧ ∀ (P : Hp), (∀ a ∈ L, P a ≠ none) →
    let Hp' : Hp := fun a => if a ∈ L then P a else H a
    ∃ E', E'.I0 = E.I0 ∧ Sta K E' I (δ.set j (.vl v)) σ Hp' ∧
      ∀ (I' : Hp) (δ' : Env) (σ' : St) (H' : Hp), Sta K E' I' δ' σ' H' → δ'[j]? = some (.vl v) → (∀ a ∈ L, H' a = P a) ∧ ∀ (Q : Hp) (o' : Ow), Own K Q I' v o' L → (∀ a, a ∉ L → Q a = H' a) → Sta K E I' (δ'.set j (.ow pn o')) σ' Q := by
  obtain ⟨le, i0, ix, th, fr, len, L, h1, h2, h3, h4⟩ := S
  have me := h1 j
  rw [hj] at me
  obtain ⟨v, e1, ow, pin⟩ := me
  have hjl : j < δ.length := lt_of_get hj
  refine ⟨v, L j, e1, ow, h4 j, fun P hP => ?_⟩
  dsimp only
  have notI : ∀ a ∈ L j, I a = none := h4 j
  have Hon : ∀ a, a ∉ L j → (fun a => if a ∈ L j then P a else H a) a = H a := fun a q => if_neg q
  refine ⟨⟨E.I0, fun a => if a ∈ L j then P a else E.H0 a, fun k => (E.L0 k).filter fun a => decide (a ∉ L j), E.vs⟩, rfl, ⟨?_, i0, ?_, ?_, ?_, by simp [len], fun k => if k = j then [] else L k, fun k => ?_, fun k => ?_, fun k m a q1 q2 => ?_, fun k a q => ?_⟩, ?_⟩
  · intro a z e
    show (if a ∈ L j then P a else H a) = some z
    rw [if_neg fun q => by rw [notI a q] at e; cases e]; exact le a z e
  · intro a q
    show I a = E.I0 a
    have q : (if a ∈ L j then P a else E.H0 a) ≠ none := q
    by_cases w : a ∈ L j
    · rw [notI a w]
      cases e : E.I0 a with
      | none => rfl
      | some z => have := i0 a z e; rw [notI a w] at this; cases this
    · rw [if_neg w] at q; exact ix a q
  · intro a q
    show (if a ∈ L j then P a else H a) ≠ none
    have q : (if a ∈ L j then P a else E.H0 a) ≠ none := q
    by_cases w : a ∈ L j
    · rw [if_pos w]; exact hP a w
    · rw [if_neg w] at q ⊢; exact th a q
  · intro a z q n
    show (if a ∈ L j then P a else H a) = some z
    have q : (if a ∈ L j then P a else E.H0 a) = some z := q
    by_cases w : a ∈ L j
    · rw [if_pos w] at q ⊢; exact q
    · rw [if_neg w] at q ⊢
      exact fr a z q fun k m => n k (by show a ∈ (E.L0 k).filter _; rw [List.mem_filter]; exact ⟨m, by simpa using w⟩)
  · dsimp only
    by_cases hk : k = j
    · subst hk; rw [if_pos rfl, List.getElem?_set_self hjl]; exact ⟨rfl, e1⟩
    · rw [if_neg hk, List.getElem?_set_ne (Ne.symm hk)]
      have dis : ∀ a ∈ L k, a ∉ L j := fun a q z => hk (h3 k j a q z)
      have hk1 := (h1 k).keep (H' := fun a => if a ∈ L j then P a else H a) (L2.Same.refl _) fun a q => if_neg (dis a q)
      cases e : δ[k]? with
      | none => rw [e] at hk1; exact hk1
      | some s =>
        rw [e] at hk1
        cases s with
        | un => exact hk1
        | vl w => exact hk1
        | im d => exact hk1
        | ow p o =>
          obtain ⟨w, w1, w2, w3⟩ := hk1
          refine ⟨w, w1, w2, ?_⟩
          cases p with
          | fresh => exact fun a q => by show (if a ∈ L j then P a else E.H0 a) = none; rw [if_neg (dis a q)]; exact w3 a q
          | arg m => exact ⟨w3.1, fun a q => (w3.2 a q).imp (fun z => by show (if a ∈ L j then P a else E.H0 a) = none; rw [if_neg (dis a q)]; exact z) fun z => by show a ∈ (E.L0 m).filter _; rw [List.mem_filter]; exact ⟨z, by simpa using dis a q⟩⟩
  · dsimp only
    split
    · simp
    · exact h2 k
  · dsimp only at q1 q2
    split at q1
    · cases q1
    · split at q2
      · cases q2
      · exact h3 k m a q1 q2
  · dsimp only at q
    split at q
    · cases q
    · exact h4 k a q
  · rintro I' δ' σ' H' ⟨le', i0', ix', th', fr', len', M, m1, m2, m3, m4⟩ hv
    have keep : ∀ a ∈ L j, H' a = P a := fun a q => by
      cases e : P a with
      | none => exact absurd e (hP a q)
      | some z =>
        refine fr' a z (by show (if a ∈ L j then P a else E.H0 a) = some z; rw [if_pos q]; exact e) fun k w => ?_
        have w : a ∈ (E.L0 k).filter _ := w
        rw [List.mem_filter] at w
        exact (by simpa using w.2 : a ∉ L j) q
    refine ⟨keep, fun Q o' ow' off => ?_⟩
    have hjl' : j < δ'.length := lt_of_get hv
    have vj := m1 j
    rw [hv] at vj
    have sj : σ'[j]? = some (some v) := vj.2
    have Inone : ∀ a ∈ L j, I' a = none := fun a q => by
      have := ix' a (by show (if a ∈ L j then P a else E.H0 a) ≠ none; rw [if_pos q]; exact hP a q)
      rw [this]
      show E.I0 a = none
      cases e : E.I0 a with
      | none => rfl
      | some z => have := i0 a z e; rw [notI a q] at this; cases this
    have dis : ∀ k a, a ∈ M k → a ∉ L j := fun k a q z => by
      have hk := m1 k
      cases e : δ'[k]? with
      | none => rw [e] at hk; rw [show M k = [] from hk] at q; cases q
      | some s =>
        rw [e] at hk
        cases s with
        | un => rw [show M k = [] from hk] at q; cases q
        | vl w => rw [hk.1] at q; cases q
        | im d => rw [hk.1] at q; cases q
        | ow p o =>
          obtain ⟨w, w1, w2, w3⟩ := hk
          have zz : (if a ∈ L j then P a else E.H0 a) = P a := if_pos z
          cases p with
          | fresh => have := w3 a q; rw [show (Ent.H0 _ a) = (if a ∈ L j then P a else E.H0 a) from rfl, zz] at this; exact hP a z this
          | arg m => rcases w3.2 a q with y | y
                     · rw [show (Ent.H0 _ a) = (if a ∈ L j then P a else E.H0 a) from rfl, zz] at y; exact hP a z y
                     · have y : a ∈ (E.L0 m).filter _ := y
                       rw [List.mem_filter] at y
                       exact (by simpa using y.2 : a ∉ L j) z
    have Qn : ∀ a ∈ L j, Q a ≠ none := fun a q => ow'.has a q
    refine ⟨fun a z e => ?_, i0', fun a q => ?_, fun a q => ?_, fun a z q n => ?_, by simp [len'], fun k => if k = j then L j else M k, fun k => ?_, fun k => ?_, fun k m a q1 q2 => ?_, fun k a q => ?_⟩
    · rw [off a fun w => by rw [Inone a w] at e; cases e]; exact le' a z e
    · by_cases w : a ∈ L j
      · rw [Inone a w]
        cases e : E.I0 a with
        | none => rfl
        | some z => have := i0 a z e; rw [notI a w] at this; cases this
      · exact ix' a (by show (if a ∈ L j then P a else E.H0 a) ≠ none; rw [if_neg w]; exact q)
    · by_cases w : a ∈ L j
      · exact Qn a w
      · rw [off a w]; exact th' a (by show (if a ∈ L j then P a else E.H0 a) ≠ none; rw [if_neg w]; exact q)
    · by_cases w : a ∈ L j
      · exfalso
        cases pn with
        | fresh => have := pin a w; rw [q] at this; cases this
        | arg m => rcases pin.2 a w with y | y
                   · rw [q] at y; cases y
                   · exact n m y
      · rw [off a w]
        refine fr' a z (by show (if a ∈ L j then P a else E.H0 a) = some z; rw [if_neg w]; exact q) fun k y => n k ?_
        have y : a ∈ (E.L0 k).filter _ := y
        exact (List.mem_filter.mp y).1
    · dsimp only
      by_cases hk : k = j
      · subst hk
        rw [if_pos rfl, List.getElem?_set_self hjl']
        exact ⟨v, sj, ow', pin⟩
      · rw [if_neg hk, List.getElem?_set_ne (Ne.symm hk)]
        have hk1 := (m1 k).keep (L2.Same.refl _) fun a q => off a (dis k a q)
        cases e : δ'[k]? with
        | none => rw [e] at hk1; exact hk1
        | some s =>
          rw [e] at hk1
          cases s with
          | un => exact hk1
          | vl w => exact hk1
          | im d => exact hk1
          | ow p o =>
            obtain ⟨w, w1, w2, w3⟩ := hk1
            refine ⟨w, w1, w2, ?_⟩
            have hz : ∀ a ∈ M k, (if a ∈ L j then P a else E.H0 a) = none → E.H0 a = none := fun a q z => by rwa [if_neg (dis k a q)] at z
            cases p with
            | fresh => exact fun a q => hz a q (w3 a q)
            | arg m => exact ⟨w3.1, fun a q => (w3.2 a q).imp (hz a q) fun z => (List.mem_filter.mp (show a ∈ (E.L0 m).filter _ from z)).1⟩
    · dsimp only
      split
      · exact h2 j
      · exact m2 k
    · dsimp only at q1 q2
      split at q1
      · rename_i hk
        split at q2
        · rename_i hm; rw [hk, hm]
        · exact (dis _ a q2 q1).elim
      · split at q2
        · exact (dis _ a q1 q2).elim
        · exact m3 k m a q1 q2
    · dsimp only at q
      split at q
      · exact Inone a q
      · exact m4 k a q
end
end DL
end
section
set_option Elab.async false
set_option linter.all false
set_option maxRecDepth 100000
set_option maxHeartbeats 1000000
namespace DL
open PySem L2
def keyD : Key → D
  | .inl i => .int i
  | .inr x => .str x
theorem keyD_rep {K : PySem.W.Frag} {I : Hp} : ∀ k : Key, Rep K I (kV k) (keyD k)
  | .inl i => .int i
  | .inr x => .str x
def itemsD (kvs : List (Key × D)) : List D := kvs.map fun kv => .tup [keyD kv.1, kv.2]
theorem RepP.get {K : PySem.W.Frag} {I : Hp} {κ : Type} : ∀ {vs : List (κ × V)} {ds : List (κ × D)} {i : Nat} {k : κ} {v : V}, RepP K I vs ds → vs[i]? = some (k, v) → ∃ d, ds[i]? = some (k, d) ∧ Rep K I v d
  | _, _, _, _, _, .nil, e => by simp at e
  | _, _, 0, _, _, .cons h _, e => by simp at e; obtain ⟨rfl, rfl⟩ := e; exact ⟨_, rfl, h⟩
  | _, _, i + 1, k, v, .cons _ r, e => by
    obtain ⟨d, h1, h2⟩ := RepP.get (i := i) r (by simpa using e)
    exact ⟨d, by simpa using h1, h2⟩
section
variable {X : Cx} {a b c e tg iter : Expr} {es rest : List Expr} {sts : List Stmt} {q q1 q2 q3 : Bool} {ra rb rc : RE} {r s : RS} {g : RG} {ts : List Nat} {pos pos' p apos cpos tpos : Pos} {E : Ent} {I I' : Hp} {δ δ' : Env} {σ τ : St} {H H' : Hp} {v : V}
def plJ : Rd → Nat
  | .vr j => j
  | .at j _ => j
  | _ => 0
def itG (n j : Nat) (g : RG) (r : RS) (xs : List D) (De : DEnds) (δ : Env) : Option Slot → Prop
  | some (.ow p o) => ∀ v, goFor (fun δ' => Tail n δ δ' ∧ δ'[j]? = some (.vl v)) g r (fun s' δ' => δ'[j]? = some (.vl v) ∧ De.rt s' (δ'.set j (.ow p o))) (fun δ' => δ'[j]? = some (.vl v) ∧ De.nx (δ'.set j (.ow p o))) xs (δ.set j (.vl v))
  | _ => False
def isDK (k : List (Key × D) → Prop) : Option Ob → Prop
  | some (.dK kvs) => k kvs
  | _ => False
def rForItems (n : Nat) (x : Rd) (g : RG) (r : RS) : RS := fun De δ => isDK (fun kvs => itG n (plJ x) g r (itemsD kvs) De δ δ[plJ x]?) (obAt δ x)
theorem isDK_ok {k : List (Key × D) → Prop} : ∀ {o : Option Ob}, isDK k o → ∃ kvs, o = some (.dK kvs) ∧ k kvs
  | some (.dK kvs), w => ⟨kvs, rfl, w⟩
theorem isDK_mono {k k' : List (Key × D) → Prop} (h : ∀ x, k x → k' x) : ∀ {o : Option Ob}, isDK k o → isDK k' o
  | some (.dK kvs), w => h _ w
theorem itG_mono (hg : TrG X tg ts g) (hb : TrSs X sts r) {n j : Nat} {xs : List D} {De De' : DEnds} (k : De.le De') : ∀ {s : Option Slot}, itG n j g r xs De δ s → itG n j g r xs De' δ s
  | some (.ow p o), w => fun v => goFor_mono hg hb (fun _ _ w => ⟨w.1, k.rt _ _ w.2⟩) (fun _ w => ⟨w.1, k.nx _ w.2⟩) (w v)
/-- where the dict stands among what is owned -/
theorem own_at {K : PySem.W.Frag} {x : Rd} {kvs : List (Key × D)} (S : Sta K E I δ σ H) (hv : RdV σ H v x) (e : obAt δ x = some (.dK kvs)) : ∃ pn o d vs, δ[plJ x]? = some (.ow pn o) ∧ v = .ref d ∧ H d = some (.dK vs) ∧ RepP K I vs kvs ∧ (∀ w L, σ[plJ x]? = some (some w) → Own K H I w o L → d ∈ L) := by
  cases x with
  | im d => exact hv.elim
  | tm o => exact hv.elim
  | vr j =>
    have e : obV δ[j]? = some (.dK kvs) := e
    cases q : δ[j]? with
    | none => rw [q] at e; cases e
    | some s =>
      rw [q] at e
      match s, q, e with
      | .ow p (.ob o), q, e =>
        cases e
        obtain ⟨w, L, w1, ow⟩ := S.ow_get q
        rw [show σ[j]? = some (some v) from hv] at w1; cases w1
        cases ow with
        | ob ow => cases ow with
          | mk g r => cases r with
            | dK r =>
              refine ⟨p, _, _, _, q, rfl, g, r, fun w L w1 ow => ?_⟩
              rw [show σ[plJ (.vr j)]? = some (some (V.ref _)) from hv] at w1; cases w1
              cases ow with
              | ob ow => cases ow with
                | mk _ _ => simp
  | «at» j f =>
    have e : obI f δ[j]? = some (.dK kvs) := e
    cases q : δ[j]? with
    | none => rw [q] at e; cases e
    | some s =>
      rw [q] at e
      match s, q, e with
      | .ow p (.ins C fs), q, e =>
        have e : obF (fs.lookup f) = some (.dK kvs) := e
        cases l : fs.lookup f with
        | none => rw [l] at e; cases e
        | some y =>
          rw [l] at e
          cases y with
          | im d => cases e
          | ob o =>
            cases e
            obtain ⟨a0, C', dx, vs, g1, g2, g3⟩ := hv
            obtain ⟨w, L, w1, ow⟩ := S.ow_get q
            rw [g1] at w1; cases w1
            cases ow with
            | ins g r =>
              rw [g2] at g; cases g
              obtain ⟨u, M, k1, k2, k3⟩ := r.lookup l
              rw [g3] at k1; cases k1
              cases k2 with
              | ob k2 => cases k2 with
                | mk k4 k5 => cases k5 with
                  | dK k5 =>
                    refine ⟨p, _, _, _, q, rfl, k4, k5, fun w L w1 ow => ?_⟩
                    rw [show σ[plJ (.at j f)]? = some (some (V.ref a0)) from g1] at w1; cases w1
                    cases ow with
                    | ins g' r' =>
                      rw [g2] at g'; cases g'
                      obtain ⟨u, M, k1, k2, k3⟩ := r'.lookup l
                      rw [g3] at k1; cases k1
                      cases k2 with
                      | ob k2 => cases k2 with
                        | mk _ _ => exact List.mem_cons_of_mem _ (k3 _ (by simp))
theorem forItems_core {n : Nat} {x : Rd} {td : TE} {De : DEnds} {D0 : Ends} (hn : X.N.length = n) (hl : σ.length = X.N.length) (hjn : plJ x < n) (S : Sta X.K E I δ (σ ++ τ) H) (hv : RdV (σ ++ τ) H v x) (hg : TrG X tg ts g) (hb : TrSs X sts r)
    (htd : ∀ (d : Addr) (u : HO) (od : Obj) (Q : VK), v = .ref d → H d = some u → (∀ C dx vs, u ≠ .ins C dx vs) → Q v (upd H d (.frz od u)) → td σ (upd H d (.frz od u)) Q)
    (h : rForItems n x g r De δ) (k : Lk X.K E X.N.length τ D0 De) : tLock (tFor (iItems td) (preG X ts g) (preS X r)) D0 σ H := by
  subst hn
  obtain ⟨kvs, e, h⟩ := isDK_ok h
  obtain ⟨pn, o, d, vs, hj, rfl, hd, rp, hin⟩ := own_at S hv e
  rw [hj] at h
  have hjl : plJ x < δ.length := lt_of_get hj
  obtain ⟨w, L, w1, ow, LI, park⟩ := S.park hj
  have hdL : d ∈ L := hin w L w1 ow
  have h := h w
  refine ⟨d, .dK vs, hd, trivial, fun od => ?_⟩
  obtain ⟨E', eI, S1, back⟩ := park (fun a => if a = d then some (.frz od (.dK vs)) else H a) (fun a q => by
    by_cases z : a = d
    · rw [if_pos z]; simp
    · rw [if_neg z]; exact ow.has a q)
  have eH : (fun a => if a ∈ L then (if a = d then some (.frz od (.dK vs)) else H a) else H a) = upd H d (.frz od (.dK vs)) := by
    funext a
    by_cases z : a = d
    · subst z; rw [if_pos hdL, if_pos rfl, upd_same]
    · rw [if_neg z, upd_ne z]; split <;> rfl
  have S1 : Sta X.K E' I (δ.set (plJ x) (.vl w)) (σ ++ τ) (upd H d (.frz od (.dK vs))) := by rw [← eH]; exact S1
  -- back from the loop
  have unpark : ∀ {I' : Hp} {δ' : Env} {σ' : St} {H' : Hp}, Sta X.K E' I' δ' σ' H' → δ'[plJ x]? = some (.vl w) → H' d = some (.frz od (.dK vs)) ∧ (Same I I' → Sta X.K E I' (δ'.set (plJ x) (.ow pn o)) σ' (upd H' d (.dK vs))) := fun {I' δ' σ' H'} S' hv' => by
    obtain ⟨b1, b2⟩ := back I' δ' σ' H' S' hv'
    refine ⟨by rw [b1 d hdL, if_pos rfl], fun m => b2 _ o (ow.keep m fun a q => ?_) fun a q => upd_ne fun z => q (by rw [z]; exact hdL)⟩
    by_cases z : a = d
    · rw [z, upd_same, hd]
    · rw [upd_ne z, b1 a q, if_neg z]
  refine htd d _ od _ rfl hd (fun _ _ _ z => nomatch z) ⟨d, od, vs, rfl, upd_same, ?_⟩
  have lenD : (itemsD kvs).length = vs.length := by unfold itemsD; rw [List.length_map, rp.length]
  refine for_it (walk_items (o := od)) (D := ⟨fun σ' H' => H' d = some (.frz od (.dK vs)) ∧ D0.nx σ' (upd H' d (.dK vs)), fun v H' => H' d = some (.frz od (.dK vs)) ∧ D0.rt v (upd H' d (.dK vs)), fun σ' H' => H' d = some (.frz od (.dK vs)) ∧ D0.bk σ' (upd H' d (.dK vs)), fun σ' H' => H' d = some (.frz od (.dK vs)) ∧ D0.ct σ' (upd H' d (.dK vs))⟩)
    (fun i σ' H' => H' d = some (.frz od (.dK vs)) ∧ σ'.length = X.N.length ∧ ∃ I' δ', Sta X.K E' I' δ' (σ' ++ τ) H' ∧ Same I I' ∧ goFor (fun δ' => Tail X.N.length δ δ' ∧ δ'[plJ x]? = some (.vl w)) g r (fun s' δ' => δ'[plJ x]? = some (.vl w) ∧ De.rt s' (δ'.set (plJ x) (.ow pn o))) (fun δ' => δ'[plJ x]? = some (.vl w) ∧ De.nx (δ'.set (plJ x) (.ow pn o))) ((itemsD kvs).drop i) δ')
    ⟨upd_same, hl, I, _, S1, L2.Same.refl _, h⟩ ?_ ?_ ?_
  · rintro i σ' H' hi ⟨h1, _⟩; exact h1
  · rintro i y σ' H1 H2 hi ⟨h1, hl1, I1, δ1, S2, m1, q1⟩ ⟨T, ky, vy, rfl, hT, rfl, hk, hvv⟩
    obtain ⟨kk, hkk⟩ : ∃ kk, vs[i]? = some kk := ⟨vs[i], List.getElem?_eq_getElem hi⟩
    obtain ⟨k0, v0⟩ := kk
    have hk : vs[i]?.map (fun kv => kV kv.1) = some ky := hk
    have hvv : vs[i]?.map Prod.snd = some vy := hvv
    rw [hkk] at hk hvv
    cases hk; cases hvv
    obtain ⟨dv, g1, g2⟩ := rp.get hkk
    have ed : (itemsD kvs).drop i = .tup [keyD k0, dv] :: (itemsD kvs).drop (i + 1) := by
      rw [List.drop_eq_getElem_cons (by rw [lenD]; exact hi)]
      congr 1
      have : (itemsD kvs)[i]? = some (.tup [keyD k0, dv]) := by unfold itemsD; rw [List.getElem?_map, g1]; rfl
      rw [List.getElem?_eq_getElem (by rw [lenD]; exact hi)] at this
      exact Option.some.inj this
    rw [ed] at q1
    have S3 := S2.alloc (a := T) (h := .tup [kV k0, v0]) hT
    have rT : Rep X.K (upd I1 T (.tup [kV k0, v0])) (.ref T) (.tup [keyD k0, dv]) := .tup upd_same (.cons (keyD_rep _) (.cons (g2.mono (m1.trans (same_upd (S2.free hT)))) .nil))
    have m2 : Same I (upd I1 T (.tup [kV k0, v0])) := m1.trans (same_upd (S2.free hT))
    refine ⟨E', _, δ1, τ, _, S3, rT, hg.mono (fun δ2 h2 σ2 b2 S4 => ?_) q1⟩
    have hl2 : σ2.length = X.N.length := b2.1.trans hl1
    -- all that comes behind knows that the immutable data grew from I
    let E2 : Ent := { E' with I0 := upd I1 T (.tup [kV k0, v0]) }
    have S5 : Sta X.K E2 (upd I1 T (.tup [kV k0, v0])) δ2 (σ2 ++ τ) (upd H1 T (.tup [kV k0, v0])) := S4.up
    have dn : ∀ {I' : Hp} {δ' : Env} {σ' : St} {H' : Hp}, Sta X.K E2 I' δ' σ' H' → Sta X.K E' I' δ' σ' H' := fun S' => S4.down S'
    refine ⟨E2, _, δ2, τ, _, S5, h2, ⟨?_, ?_, ?_, ?_⟩⟩
    · rintro σ4 I4 H4 δ4 hl4 S6 ⟨T4, q4⟩
      have S7 := dn S6
      refine ⟨?_, hl4, I4, δ4, S7, m2.trans S6.i0, q4⟩
      obtain ⟨b1, _⟩ := back I4 δ4 _ H4 S7 T4.2
      rw [b1 d hdL, if_pos rfl]
    · rintro σ4 I4 H4 δ4 hl4 S6 ⟨T4, q4⟩
      obtain ⟨u1, u2⟩ := unpark (dn S6) q4.1
      exact ⟨u1, k.nx σ4 I4 _ _ hl4 (u2 (m2.trans S6.i0)) q4.2⟩
    · rintro σ4 I4 H4 δ4 hl4 S6 ⟨T4, q4⟩
      have S7 := dn S6
      refine ⟨?_, hl4, I4, δ4, S7, m2.trans S6.i0, q4⟩
      obtain ⟨b1, _⟩ := back I4 δ4 _ H4 S7 T4.2
      rw [b1 d hdL, if_pos rfl]
    · rintro v4 ρ I4 H4 δ4 s4 S6 q4
      have hlt : plJ x < δ4.length := lt_of_get q4.1
      obtain ⟨u1, u2⟩ := unpark (dn S6) (by rw [gl hlt]; exact q4.1)
      refine ⟨u1, k.rt v4 ρ I4 _ _ s4 ?_ q4.2⟩
      have := u2 (m2.trans S6.i0)
      rwa [List.set_append_left _ _ hlt] at this
  · rintro σ' H1 ⟨h1, hl1, I1, δ1, S2, m1, q1⟩
    rw [show (itemsD kvs).drop vs.length = [] by rw [← lenD, List.drop_length]] at q1
    have q1 : δ1[plJ x]? = some (.vl w) ∧ De.nx (δ1.set (plJ x) (.ow pn o)) := q1
    obtain ⟨u1, u2⟩ := unpark S2 q1.1
    exact ⟨u1, k.nx σ' I1 _ _ hl1 (u2 m1) q1.2⟩
/-- for .. in y.items() -/
theorem ts_forItems {elts : List Expr} {kk j n : Nat} {y : Str} {py : Pos} (hp : PassesOwn (model X.prog X.w) X.A X.env X.xe) (hc : X.calm = true) (hN : X.N[j]? = some y) (hg : TrG X (.Tuple elts kk tpos) ts g) (hb : TrSs X sts r) (hn : X.N.length = n := by rfl)
    (hv : Vis X.env.scope y := by first | exact Or.inl rfl | exact Or.inr (Or.inl rfl) | exact Or.inr (Or.inr rfl)) (hd : (y == ("__debug__" : Str)) = false := by decide) (hcd : (y == ("__classdict__" : Str)) = false := by decide)
    (hbase : attributeBase (.Name y py) "items" X.env (eval (.Name y py) X.env) = eval (.Name y py) X.env := by rfl) (hline : (apos.endLine == cpos.line) = true := by rfl)
    (hs : ∀ x, foldedSetIterable (.Call (.Attribute (.Name y py) "items" apos) [] [] cpos) X.env x = pure x := by intro _; rfl) :
    TrS X (.For (.Tuple elts kk tpos) (.Call (.Attribute (.Name y py) "items" apos) [] [] cpos) sts [] pos) (rForItems n (.vr j) g r) := by
  refine ⟨weakS (ps_lock (ps_for hp hc (pi_items (pe_var (i := j) hN hv hd hcd) hbase hline) hg.pg hb.ps hs)) fun D σ H hl ⟨E, I, δ, τ, De, S, h, k⟩ => ?_, fun k => isDK_mono fun _ => itG_mono hg hb k⟩
  have hj : j < σ.length := by rw [hl]; exact lt_of_get hN
  obtain ⟨kvs, e, _⟩ := isDK_ok h
  have hv : ∃ v, RdV (σ ++ τ) H v (.vr j) := by
    have e : obV δ[j]? = some (.dK kvs) := e
    cases q : δ[j]? with
    | none => rw [q] at e; cases e
    | some s =>
      rw [q] at e
      match s, q, e with
      | .ow p (.ob o), q, e => obtain ⟨w, L, w1, _⟩ := S.ow_get q; exact ⟨w, w1⟩
  obtain ⟨v, hv⟩ := hv
  refine forItems_core (x := .vr j) hn hl (by rw [← hn]; exact lt_of_get hN) S hv hg hb (fun d u od Q _ _ _ q => ⟨v, ?_, q⟩) h k
  have hv : (σ ++ τ)[j]? = some (some v) := hv
  rwa [gl hj] at hv
def clsIs (C : Addr) : Option Slot → Prop
  | some (.ow _ (.ins C' _)) => C' = C
  | _ => False
def rForItemsF (C : Addr) (n j : Nat) (f : Str) (g : RG) (r : RS) : RS := fun De δ => clsIs C δ[j]? ∧ rForItems n (.at j f) g r De δ
/-- for .. in y.f.items() -/
theorem ts_forItemsF {elts : List Expr} {kk j n : Nat} {y f : Str} {C : Addr} {py pa : Pos} (cc : Cls X.K C) (na : NoAttr X.K C f) (hp : PassesOwn (model X.prog X.w) X.A X.env X.xe) (hc : X.calm = true) (hN : X.N[j]? = some y) (hg : TrG X (.Tuple elts kk tpos) ts g) (hb : TrSs X sts r) (hn : X.N.length = n := by rfl)
    (hv : Vis X.env.scope y := by first | exact Or.inl rfl | exact Or.inr (Or.inl rfl) | exact Or.inr (Or.inr rfl)) (hd : (y == ("__debug__" : Str)) = false := by decide) (hcd : (y == ("__classdict__" : Str)) = false := by decide)
    (hb1 : attributeBase (.Name y py) f X.env (eval (.Name y py) X.env) = eval (.Name y py) X.env := by rfl)
    (hbase : attributeBase (.Attribute (.Name y py) f pa) "items" X.env (eval (.Attribute (.Name y py) f pa) X.env) = eval (.Attribute (.Name y py) f pa) X.env := by rfl) (hline : (apos.endLine == cpos.line) = true := by rfl)
    (hs : ∀ x, foldedSetIterable (.Call (.Attribute (.Attribute (.Name y py) f pa) "items" apos) [] [] cpos) X.env x = pure x := by intro _; rfl) :
    TrS X (.For (.Tuple elts kk tpos) (.Call (.Attribute (.Attribute (.Name y py) f pa) "items" apos) [] [] cpos) sts [] pos) (rForItemsF C n j f g r) := by
  refine ⟨weakS (ps_lock (ps_for hp hc (pi_items (pe_fld (pe_var (i := j) hN hv hd hcd) hb1) hbase hline) hg.pg hb.ps hs)) fun D σ H hl ⟨E, I, δ, τ, De, S, ⟨hcl, h⟩, k⟩ => ?_, fun k w => ⟨w.1, isDK_mono (fun _ => itG_mono hg hb k) w.2⟩⟩
  have hj : j < σ.length := by rw [hl]; exact lt_of_get hN
  obtain ⟨kvs, e, _⟩ := isDK_ok h
  have hv : ∃ v a dx vs, (σ ++ τ)[j]? = some (some (.ref a)) ∧ H a = some (.ins C dx vs) ∧ vs.lookup f = some v := by
    have e : obI f δ[j]? = some (.dK kvs) := e
    cases q : δ[j]? with
    | none => rw [q] at e; cases e
    | some s =>
      rw [q] at e hcl
      match s, q, e, hcl with
      | .ow p (.ins C' fs), q, e, hcl =>
        have hcl : C' = C := hcl
        subst hcl
        have e : obF (fs.lookup f) = some (.dK kvs) := e
        obtain ⟨w, L, w1, ow⟩ := S.ow_get q
        cases ow with
        | ins g rr =>
          cases l : fs.lookup f with
          | none => rw [l] at e; cases e
          | some y =>
            obtain ⟨u, M, k1, _⟩ := rr.lookup l
            exact ⟨u, _, _, _, w1, g, k1⟩
  obtain ⟨v, a, dx, vs, v1, v2, v3⟩ := hv
  refine forItems_core (x := .at j f) (v := v) hn hl (by rw [← hn]; exact lt_of_get hN) S ⟨a, C, dx, vs, v1, v2, v3⟩ hg hb (fun d u od Q _ hdu hnot q => ?_) h k
  have ne : a ≠ d := fun z => by rw [z, hdu] at v2; cases v2; exact hnot _ _ _ rfl
  rw [gl hj] at v1
  exact ⟨_, v1, a, C, dx, vs, v, rfl, by rw [upd_ne ne]; exact v2, cc, na, v3, q⟩

/-! ### list(y.f.items()) -/
def rItL (ra : RE) : RE := fun δ Q => ra δ fun x δ1 => stays true x ∧ isDK (fun kvs => Q (.tm (.ob (.lst (itemsD kvs)))) δ1) (obAt δ1 x)
theorem paired_len {α β : Type} {F : α → β → Prop} {xs : List α} {ys : List β} (h : Paired F xs ys) : xs.length = ys.length := by
  induction h with
  | nil => rfl
  | cons _ _ ih => rw [List.length_cons, List.length_cons, ih]
theorem tr_itL {p : Pos} (hc : X.calm = true) (hg : Gl X "list") (hm : X.mg "list" = none) (ha : TrE X e q ra) (hbase : attributeBase e "items" X.env (eval e X.env) = eval e X.env := by rfl) (hline : (apos.endLine == cpos.line) = true := by rfl)
    (hs : starEach [.Call (.Attribute e "items" apos) [] [] cpos] X.env = (false, eval (.Call (.Attribute e "items" apos) [] [] cpos) X.env) :: starEach [] X.env := by rfl) :
    TrE X (.Call (.Name "list" p) [.Call (.Attribute e "items" apos) [] [] cpos] [] pos) q (rItL ra) := by
  refine ⟨weakE (LiI.pe_listItems hc ha.pe hg hm (by decide +kernel) hbase hline hs) fun σ H Q _ ⟨E, I, δ, τ, S, h⟩ => ⟨E, I, δ, τ, S, ha.mono (fun x δ1 h1 v I1 H1 s1 k1 st => ?_) h⟩, fun h => ha.mono fun _ _ w => ⟨w.1, isDK_mono (fun _ => h _ _) w.2⟩⟩
  obtain ⟨hst, h1⟩ := h1
  obtain ⟨kvs, e1, h1⟩ := isDK_ok h1
  obtain ⟨pn, o, d, vs, _, rfl, hd, rp, _⟩ := own_at st.sta (rdV_of hst st) e1
  refine ⟨d, vs, rfl, hd, fun H' p ts sH hp ht hpt hl hpa => ?_⟩
  -- the tuples are immutable, the list is ours
  have S1 := st.sta
  let I2 : Hp := fun a => if a ∈ ts then H' a else I1 a
  let H2 : Hp := fun a => if a = p then none else H' a
  have sI : Same I1 I2 := fun a z ez => by
    show (if a ∈ ts then H' a else I1 a) = some z
    rw [if_neg fun q => by have := S1.free (ht a q); rw [ez] at this; cases this]; exact ez
  have S2 : Sta X.K E I2 δ1 (σ ++ τ) H2 := by
    refine S1.ext (fun a z ez => ?_) sI (fun a z ez => ?_) fun a q => ?_
    · show (if a = p then none else H' a) = some z
      rw [if_neg fun q => by rw [q, hp] at ez; cases ez]; exact sH a z ez
    · show (if a = p then none else H' a) = some z
      have ez : (if a ∈ ts then H' a else I1 a) = some z := ez
      by_cases w : a ∈ ts
      · rw [if_pos w] at ez; rw [if_neg fun y => hpt (by rw [← y]; exact w)]; exact ez
      · rw [if_neg w] at ez
        rw [if_neg fun y => by rw [y] at ez; have := S1.le p z ez; rw [hp] at this; cases this]
        exact sH a z (S1.le a z ez)
    · show (if a ∈ ts then H' a else I1 a) = I1 a
      rw [if_neg fun w => q (ht a w)]
  have reps : ∀ (ts' : List Addr) (vs' : List (Key × V)) (ks : List (Key × D)), (∀ t ∈ ts', t ∈ ts) → Paired (fun (t : Addr) (q : Key × V) => H' t = some (.tup [kV q.1, q.2])) ts' vs' → RepP X.K I1 vs' ks → Reps X.K I2 (ts'.map V.ref) (itemsD ks) := by
    intro ts'
    induction ts' with
    | nil => intro vs' ks _ hp hr; cases hp; cases hr; exact .nil
    | cons t ts' ih =>
      intro vs' ks hsub hp hr
      cases hp with
      | cons h1 h2 =>
        cases hr with
        | cons r1 r2 =>
          refine .cons (.tup (vs := [kV _, _]) ?_ (.cons (keyD_rep _) (.cons (r1.mono sI) .nil))) (ih _ _ (fun t q => hsub t (List.mem_cons_of_mem _ q)) h2 r2)
          show (if t ∈ ts then H' t else I1 t) = _
          rw [if_pos (hsub t (by simp))]; exact h1
  have r2 := reps ts vs kvs (fun _ q => q) hpa rp
  have S3 : Sta X.K E I2 (δ1 ++ [.ow .fresh (.ob (.lst (itemsD kvs)))]) (σ ++ τ ++ [some (.ref p)]) H' := by
    refine S2.push (fun a z ez => ?_) (L' := [p]) (fun a q => ?_) (by simp) (.ob (.mk hl (.lst r2)))
    · have ez : (if a = p then none else H' a) = some z := ez
      by_cases w : a = p
      · rw [if_pos w] at ez; cases ez
      · rw [if_neg w] at ez; exact ez
    · rw [List.mem_singleton.mp q]; show (if p = p then none else H' p) = none; rw [if_pos rfl]
  exact h1 (.ref p) I2 H' (s1.trans sI) (fun w => (k1 w).trans sH) S3
end
end DL
end
section
set_option Elab.async false
set_option linter.all false
set_option maxRecDepth 100000
set_option maxHeartbeats 1000000
namespace DL
open PySem L2
section
variable {K : PySem.W.Frag} {E : Ent} {I I' : Hp} {δ δ' ε : Env} {σ τ : St} {H H' : Hp} {v : V} {o : Ow} {d : D} {i j : Nat} {pn : Pin}
/-! ### an owned thing seen as immutable for a while -/
theorem OwnB.same {o : Ob} {L L' : List Addr} (h : OwnB K H I v o L) (h' : OwnB K H' I' v o L') : L = L' := by
  cases h; cases h'; rfl
theorem OwnF.same {f : Fv} {L L' : List Addr} (h : OwnF K H I v f L) (h' : OwnF K H' I' v f L') : L = L' := by
  cases h with
  | im _ => cases h'; rfl
  | ob h => cases h' with
    | ob h' => exact h.same h'
theorem OwnFs.same : ∀ {vs : List (Str × V)} {fs : List (Str × Fv)} {L L' : List Addr}, OwnFs K H I vs fs L → OwnFs K H' I' vs fs L' → L = L'
  | _, _, _, _, .nil, .nil => rfl
  | _, _, _, _, .cons h r, .cons h' r' => by rw [h.same h', OwnFs.same r r']
theorem Own.same (m : Same H H') {L L' : List Addr} (h : Own K H I v o L) (h' : Own K H' I' v o L') : L = L' := by
  cases h with
  | ob h => cases h' with
    | ob h' => exact h.same h'
  | ins g r => cases h' with
    | ins g' r' => rw [m _ _ g] at g'; cases g'; rw [OwnFs.same r r']
/-- data without parts -/
def D.bare : D → Bool
  | .non => true
  | .bl _ => true
  | .int _ => true
  | .str _ => true
  | _ => false
theorem bare_rep {d : D} (hb : d.bare = true) (h : Rep K I v d) : Rep K I' v d := by
  cases h <;> first | exact Rep.non | exact Rep.bl _ | exact Rep.int _ | exact Rep.str _ | cases hb
theorem bare_reps : ∀ {vs : List V} {ds : List D}, ds.all D.bare = true → Reps K I vs ds → Reps K I' vs ds
  | _, _, _, .nil => .nil
  | _, _, hb, .cons h r => by
    rw [List.all_cons, Bool.and_eq_true] at hb
    exact .cons (bare_rep hb.1 h) (bare_reps hb.2 r)
def bareS : Slot → Bool
  | .im d => d.bare
  | .ow .fresh (.ob (.lst ds)) => ds.all D.bare
  | _ => false
theorem Sta.bor (S : Sta K E I δ σ H) (hj : δ[j]? = some (.ow pn o)) : ∃ E2 I2, Same I I2 ∧ Sta K E2 I2 (δ.set j (.im o.toD)) σ H ∧
    ∀ (I' H' : Hp) (ε : Env) (τ' : St), Same I2 I' → Same H H' → (∀ s ∈ ε, bareS s = true) → Sta K E2 I' (δ.set j (.im o.toD) ++ ε) (σ ++ τ') H' → ∃ I'', Same I I'' ∧ Sta K E I'' (δ ++ ε) (σ ++ τ') H' := by
  obtain ⟨le, i0, ix, th, fr, len, L, h1, h2, h3, h4⟩ := S
  have me := h1 j
  rw [hj] at me
  obtain ⟨v, e1, ow, pin⟩ := me
  have hjl : j < δ.length := lt_of_get hj
  have sI : Same I (fun a => if a ∈ L j then H a else I a) := fun a z e => by
    show (if a ∈ L j then H a else I a) = some z
    rw [if_neg fun q => by rw [h4 j a q] at e; cases e]; exact e
  have E0n : ∀ a ∈ L j, E.I0 a = none := fun a q => by
    cases e : E.I0 a with
    | none => rfl
    | some z => have := i0 a z e; rw [h4 j a q] at this; cases this
  have rp : Rep K (fun a => if a ∈ L j then H a else I a) v o.toD := (ow.keep (H' := fun a => if a ∈ L j then H a else I a) sI fun a q => if_pos q).rep (L2.Same.refl _)
  refine ⟨{ E with I0 := fun a => if a ∈ L j then H a else E.I0 a }, fun a => if a ∈ L j then H a else I a, sI, ⟨?_, ?_, ?_, th, fr, by simp [len], fun k => if k = j then [] else L k, fun k => ?_, fun k => ?_, fun k m a q1 q2 => ?_, fun k a q => ?_⟩, ?_⟩
  · intro a z e
    have e : (if a ∈ L j then H a else I a) = some z := e
    by_cases w : a ∈ L j
    · rwa [if_pos w] at e
    · rw [if_neg w] at e; exact le a z e
  · intro a z e
    have e : (if a ∈ L j then H a else E.I0 a) = some z := e
    show (if a ∈ L j then H a else I a) = some z
    by_cases w : a ∈ L j
    · rwa [if_pos w] at e ⊢
    · rw [if_neg w] at e ⊢; exact i0 a z e
  · intro a q
    show (if a ∈ L j then H a else I a) = if a ∈ L j then H a else E.I0 a
    by_cases w : a ∈ L j
    · rw [if_pos w, if_pos w]
    · rw [if_neg w, if_neg w]; exact ix a q
  · dsimp only
    by_cases hk : k = j
    · subst hk; rw [if_pos rfl, List.getElem?_set_self hjl]; exact ⟨rfl, v, e1, rp⟩
    · rw [if_neg hk, List.getElem?_set_ne (Ne.symm hk)]
      exact (h1 k).keep sI fun a q => rfl
  · dsimp only
    split
    · simp
    · exact h2 k
  · dsimp only at q1 q2
    split at q1
    · cases q1
    · split at q2
      · cases q2
      · exact h3 k m a q1 q2
  · dsimp only at q
    split at q
    · cases q
    · rename_i hk
      show (if a ∈ L j then H a else I a) = none
      rw [if_neg fun w => hk (h3 k j a q w)]; exact h4 k a q
  · rintro I' H' ε τ' m2 mH hbare ⟨le', i0', ix', th', fr', len', M, m1, m2', m3, m4⟩
    have hle : τ'.length = ε.length := by simp [len] at len'; omega
    have getδ : ∀ k, k < δ.length → k ≠ j → (δ.set j (.im o.toD) ++ ε)[k]? = δ[k]? := fun k hk hne => by rw [gl (by simpa using hk), List.getElem?_set_ne (Ne.symm hne)]
    -- what is owned is owned as before
    have ML : ∀ k, k < δ.length → k ≠ j → M k = L k := fun k hk hne => by
      have a1 := m1 k
      have a2 := h1 k
      rw [getδ k hk hne, gl (by omega)] at a1
      cases e : δ[k]? with
      | none => rw [e] at a1 a2; rw [show M k = [] from a1, show L k = [] from a2]
      | some s =>
        rw [e] at a1 a2
        cases s with
        | un => rw [show M k = [] from a1, show L k = [] from a2]
        | vl w => rw [a1.1, a2.1]
        | im d => rw [a1.1, a2.1]
        | ow p o =>
          obtain ⟨w1, b1, b2, b3⟩ := a1
          obtain ⟨w2, c1, c2, c3⟩ := a2
          rw [b1] at c1; cases c1
          exact (c2.same mH b2).symm
    have IL : ∀ a ∈ L j, I' a ≠ none := fun a q => by
      cases e : H a with
      | none => exact absurd e (ow.has a q)
      | some z => rw [m2 a z (by show (if a ∈ L j then H a else I a) = some z; rw [if_pos q]; exact e)]; simp
    have disM : ∀ k a, a ∈ M k → a ∉ L j := fun k a q w => IL a w (m4 k a q)
    refine ⟨fun a => if a ∈ L j then none else I' a, fun a z e => ?_, fun a z e => ?_, fun a z e => ?_, fun a q => ?_, th', fr', by simp [len, hle], fun k => if k = j then L j else M k, fun k => ?_, fun k => ?_, fun k m a q1 q2 => ?_, fun k a q => ?_⟩
    · show (if a ∈ L j then none else I' a) = some z
      rw [if_neg fun q => by rw [h4 j a q] at e; cases e]
      exact m2 a z (sI a z e)
    · have e : (if a ∈ L j then none else I' a) = some z := e
      split at e
      · cases e
      · exact le' a z e
    · show (if a ∈ L j then none else I' a) = some z
      rw [if_neg fun q => by rw [E0n a q] at e; cases e]
      exact m2 a z (sI a z (i0 a z e))
    · show (if a ∈ L j then none else I' a) = E.I0 a
      by_cases w : a ∈ L j
      · rw [if_pos w, E0n a w]
      · rw [if_neg w, ix' a q]
        show (if a ∈ L j then H a else E.I0 a) = E.I0 a
        rw [if_neg w]
    · dsimp only
      have sI'' : Same I (fun a => if a ∈ L j then none else I' a) := fun a z e => by
        show (if a ∈ L j then none else I' a) = some z
        rw [if_neg fun q => by rw [h4 j a q] at e; cases e]
        exact m2 a z (sI a z e)
      by_cases hk : k < δ.length
      · rw [gl hk, gl (by omega)]
        have : (if k = j then L j else M k) = L k := by
          by_cases z : k = j
          · rw [if_pos z, z]
          · rw [if_neg z, ML k hk z]
        rw [this]
        refine (h1 k).keep sI'' fun a q => ?_
        cases e : H a with
        | none => exact absurd e ((h1 k).has a q)
        | some z => exact mH a z e
      · rw [if_neg (by omega), gr (by omega), gr (by omega)]
        have a1 := m1 k
        have gb : (δ.set j (.im o.toD) ++ ε)[k]? = ε[k - δ.length]? := by rw [gr (by rw [List.length_set]; omega), List.length_set]
        have gc : (σ ++ τ')[k]? = τ'[k - σ.length]? := gr (by omega)
        rw [gb, gc] at a1
        cases e : ε[k - δ.length]? with
        | none => rw [e] at a1; exact a1
        | some s =>
          rw [e] at a1
          have hbs := hbare s (List.mem_of_getElem? e)
          match s, a1, hbs with
          | .im d, a1, hbs => obtain ⟨b1, w, b2, b3⟩ := a1; exact ⟨b1, w, b2, bare_rep hbs b3⟩
          | .ow .fresh (.ob (.lst ds)), a1, hbs =>
            obtain ⟨w, b1, b2, b3⟩ := a1
            generalize M k = Mk at b2 b3 ⊢
            cases b2 with
            | ob b2 => cases b2 with
              | mk g r => cases r with
                | lst r => exact ⟨_, b1, .ob (.mk g (.lst (bare_reps hbs r))), b3⟩
    · dsimp only
      split
      · exact h2 j
      · exact m2' k
    · dsimp only at q1 q2
      split at q1
      · rename_i hk
        split at q2
        · rename_i hm; rw [hk, hm]
        · exact (disM _ a q2 q1).elim
      · split at q2
        · exact (disM _ a q1 q2).elim
        · exact m3 k m a q1 q2
    · dsimp only at q
      show (if a ∈ L j then none else I' a) = none
      split at q
      · rename_i hk; rw [if_pos q]
      · rw [if_neg (disM k a q)]; exact m4 k a q
end
section
variable {X : Cx} {a b c e : Expr} {q : Bool} {ra : RE} {E : Ent} {I I' : Hp} {δ δ' : Env} {σ τ : St} {H H' : Hp} {v : V}
def bareR : Rd → Prop
  | .im d => d.bare = true
  | .tm (.ob (.lst ds)) => ds.all D.bare = true
  | _ => False
def borS (j : Nat) (ra : RE) (δ : Env) (Q : Rd → Env → Prop) : Option Slot → Prop
  | some (.ow _ o) => ra (δ.set j (.im o.toD)) fun x δ' => bareR x ∧ δ' = δ.set j (.im o.toD) ∧ Q x δ
  | _ => ra δ Q
/-- the owned name j is read as immutable data within, the result has no part of it -/
def rBor (j : Nat) (ra : RE) : RE := fun δ Q => borS j ra δ Q δ[j]?
theorem tr_bor (j : Nat) (ha : TrE X a true ra) : TrE X a true (rBor j ra) := by
  refine ⟨weakE ha.pe fun σ H Q _ ⟨E, I, δ, τ, S, h⟩ => ?_, fun {δ Q Q'} h w => ?_⟩
  · have h : borS j ra δ _ δ[j]? := h
    cases e : δ[j]? with
    | none => rw [e] at h; exact ⟨E, I, δ, τ, S, h⟩
    | some s =>
      rw [e] at h
      cases s with
      | un => exact ⟨E, I, δ, τ, S, h⟩
      | vl w => exact ⟨E, I, δ, τ, S, h⟩
      | im d => exact ⟨E, I, δ, τ, S, h⟩
      | ow p o =>
        obtain ⟨E2, I2, s2, S2, back⟩ := S.bor e
        refine ⟨E2, I2, _, τ, S2, ha.mono (fun x δ' w v I' H' s3 k3 st => ?_) h⟩
        obtain ⟨hb, rfl, hq⟩ := w
        match x, hb, hq, st with
        | .im d, hb, hq, st =>
          obtain ⟨I3, s4, S4⟩ := back I' H' [] [] s3 (k3 rfl) (by simp) (by simpa using st.1)
          exact hq v I3 H' s4 k3 ⟨by simpa using S4, bare_rep hb st.2⟩
        | .tm (.ob (.lst ds)), hb, hq, st =>
          obtain ⟨I3, s4, S4⟩ := back I' H' [.ow .fresh (.ob (.lst ds))] [some v] s3 (k3 rfl) (fun s q => by rw [List.mem_singleton.mp q]; exact hb) st
          exact hq v I3 H' s4 k3 S4
  · have w : borS j ra δ Q δ[j]? := w
    show borS j ra δ Q' δ[j]?
    cases e : δ[j]? with
    | none => rw [e] at w; exact ha.mono h w
    | some s =>
      rw [e] at w
      cases s with
      | ow p o => exact ha.mono (fun x δ' w => ⟨w.1, w.2.1, h _ _ w.2.2⟩) w
      | _ => exact ha.mono h w
end
end DL
end
section
set_option Elab.async false
set_option linter.all false
set_option maxRecDepth 100000
set_option maxHeartbeats 1000000
namespace DL
open PySem L2
section
variable {X : Cx} {a b c e : Expr} {q : Bool} {ra : RE} {p pos : Pos}
theorem truth_ints {prog : Program} {w : World} {A : Around} {ns : List Int} {its : List Value} (e : Vals (ns.map V.int) its) :
    TruthOf prog w A (fun i v => its.toArray[i]? = some v) (fun i => ((ns.map fun n => n != 0)).getD i false) := fun i v s Q E hv hq => by
  have hv' : its[i]? = some v := by simpa using hv
  obtain ⟨z, hz⟩ : ∃ z, ns[i]? = some z := by
    have hl := e.length
    rw [List.length_map] at hl
    have : i < its.length := by
      rcases Nat.lt_or_ge i its.length with z | z
      · exact z
      · rw [List.getElem?_eq_none z] at hv'; cases hv'
    exact ⟨ns[i], List.getElem?_eq_getElem (by omega)⟩
  obtain ⟨u, hu, t, ru⟩ := e.get (x := V.int z) (i := i) (by rw [List.getElem?_map, hz]; rfl)
  rw [hv'] at hu; cases hu
  subst ru
  have hg : (ns.map fun n => n != 0).getD i false = (z != 0) := by rw [List.getD_eq_getElem?_getD, List.getElem?_map, hz]; rfl
  have hq' : Q ((ns.map fun n => n != 0).getD i false) s := hq
  rw [hg] at hq'
  exact PySem.P.truthy_int hq'
def rAnyI' (K : PySem.W.Frag) : List V → Hp → VK → Prop := fun vs H Q => ∃ (a : Addr) (ns : List Int), vs = [V.ref a] ∧ SqL K H a (ns.map V.int) ∧ Q (.bl (ns.any fun n => n != 0)) H
theorem cr_anyI (hc : X.calm = true) : CallR X (.builtin "any") (rAnyI' X.K) := by
  intro pins s σ H vs us Q I r h
  obtain ⟨a, ns, rfl, hs, q⟩ := h
  obtain ⟨its, rv, hl, _⟩ := I.list hs
  rw [Vals.ref1 r]
  refine call_any_walk (iter_any hl.isList fun s₂ e2 st hne => ?_)
  subst e2
  refine ⟨_, _, _, _, _, _, _, rfl, Walks.list (A := X.A.in1) (I.ok.hd hc) _ a hne its.toArray, st, truth_ints rv, fun h' tk hk => ?_⟩
  refine ⟨.bl _, H, I.kept fun b o eo => hk b o (fun hmem => ?_) (Heap.get?_push_of_some _ eo), ?_, q⟩
  · rcases List.mem_cons.mp hmem with e1 | hmem
    · exact absurd (e1 ▸ Heap.lt_size eo) (Nat.lt_irrefl _)
    · cases hmem
  · show Value.bool _ = Value.bool _
    have := any_range (ns.map fun n => n != 0)
    rw [List.length_map, List.any_map] at this
    rw [List.size_toArray, ← rv.length, List.length_map]
    exact congrArg Value.bool this
def fAnyI : Option D → (D → Prop) → Prop
  | some (.lst xs), k => ∃ ns : List Int, xs = ns.map D.int ∧ k (.bl (ns.any fun n => n != 0))
  | _, _ => False
theorem vw_anyI : VwOk X fAnyI (fun v H Q => rAnyI' X.K [v] H Q) where
  ok := fun {I H v d k Q} m s h w => by
    cases s with
    | lst e r => obtain ⟨ns, rfl, h⟩ := h; exact ⟨_, ns, rfl, by rw [← r.ints_of]; exact SqL.of e, w _ _ h (.bl _)⟩
    | _ => exact h.elim
  no := fun h => h
  mono := fun {d k k'} hk h => by
    match d, h with
    | some (.lst _), ⟨ns, e, h⟩ => exact ⟨ns, e, hk _ h⟩
abbrev rAnyI := rV fAnyI
theorem tr_anyI (hc : X.calm = true) (hg : Gl X "any") (hm : X.mg "any" = none) (ha : TrE X a q ra) (he : starEach [a] X.env = (false, eval a X.env) :: starEach [] X.env := by rfl) : TrE X (.Call (.Name "any" p) [a] [] pos) q (rAnyI ra) :=
  tr_b1 (cr_anyI hc) hg hm (by decide +kernel) vw_anyI ha (by decide) (by decide) he
def rNeg (ra : RE) : RE := fun δ Q => r1 ra (fun d δ1 => onInt d fun i => Q (.im (.int (-i))) δ1) δ
theorem tr_neg (ha : TrE X a q ra) : TrE X (.UnaryOp .USub a pos) q (rNeg ra) := by
  refine ⟨weakE (pe_un un_neg ha.pe) fun σ H Q _ ⟨E, I, δ, τ, S, h⟩ => one ha S h fun v d δ1 I1 H1 s1 k1 S1 rp h1 => ?_, fun h => r1_mono ha fun d _ => onInt_mono fun _ => h _ _⟩
  match d, h1, rp with
  | .int i, h1, .int _ => exact ⟨i, rfl, h1 _ I1 H1 s1 k1 ⟨S1, .int _⟩⟩
/-- a module's int -/
def GInt (mg : Str → Option Value) (x : Str) (i : Int) : Prop := ∃ u, mg x = some u ∧ RelV (.int i) u
theorem tr_gi {x : Str} {i : Int} (h : GInt X.mg x i) (hg : Gl X x := by rfl) (hd : (x == ("__debug__" : Str)) = false := by decide) : TrE X (.Name x pos) true (rK (.int i)) := by
  obtain ⟨u, h1, h2⟩ := h
  exact tr_gint hg h1 h2 hd
theorem hu64 {A : Around} {k : Nat} (hr : Room k A) : A.units + 64 < cLine := by have := hr.un; omega
theorem hu65 {A : Around} {k : Nat} (hr : Room k A) : A.units + 65 < cLine := by have := hr.un; omega
theorem hu1 {A : Around} {k : Nat} (hr : Room k A) : A.units + 1 < cLine := by have := hr.un; omega
end
end DL
end
section
set_option Elab.async false
set_option linter.all false
set_option maxRecDepth 100000
set_option maxHeartbeats 1000000
namespace DL
open PySem L2
section
variable {X : Cx} {a b c e : Expr} {q q1 q2 q3 : Bool} {ra rb rc rr : RE} {p pos : Pos} {t : TE}
/-! ### comparisons as tests -/
def blX (x : Rd) (k : Bool → Prop) : Prop := match x with
  | .im (.bl b) => k b
  | _ => False
theorem blX_mono {x : Rd} {k k' : Bool → Prop} (h : ∀ b, k b → k' b) (w : blX x k) : blX x k' := by
  match x, w with
  | .im (.bl b), w => exact h _ w
def rTst (ra : RE) : RT := fun δ Q => ra δ fun x δ1 => blX x fun b => Q b δ1
theorem tst_of (h : PT X e (tTest t)) (run : ∀ σ H Q, σ.length = X.N.length → preE X q rr σ H Q → t σ H Q) (mono : ∀ {δ : Env} {Q Q' : Rd → Env → Prop}, (∀ x δ', Q x δ' → Q' x δ') → rr δ Q → rr δ Q') : TrT X e q (rTst rr) := by
  refine ⟨weakT h fun σ H Q hl ⟨E, I, δ, τ, S, w⟩ => run σ H _ hl ⟨E, I, δ, τ, S, mono (fun x δ1 w v I1 H1 s1 k1 st => ?_) w⟩, fun h => mono fun _ _ => blX_mono fun _ => h _ _⟩
  match x, w, st with
  | .im (.bl b), w, st =>
    obtain ⟨S1, rp⟩ := st
    cases rp
    exact ⟨b, rfl, w I1 H1 s1 k1 S1⟩
theorem tt_cmp {op : CmpOp} {r : R2} {f : Op2} (ho : OpR X (compareOp op) r) (hf : OpIm X r f) (ha : TrE X a q1 ra) (hb : TrE X b q2 rb) (hm : behindInMarks op b = false) : TrT X (.Compare a [op] [b] pos) (q1 && q2) (rTst (rOp f ra rb)) :=
  tst_of (pt_cmpR ho ha.pe hb.pe hm) (fun σ H Q _ ⟨E, I, δ, τ, S, h⟩ => two ha hb S h fun v u d e δ' I' H' s1 k1 S1 rp1 rp2 h1 => hf.ok S1.le rp1 rp2 h1 fun w z q rp => q w I' H' s1 k1 ⟨S1, rp⟩) fun h => r2_mono ha hb fun d e δ => hf.mono fun z => h _ _
theorem tt_inR {n : Bool → Bool} {op : CmpOp} (ho : OpR X (compareOp op) (rInG n X.K)) (ha : TrE X a q1 ra) (hb : TrE X b q2 rb) (hm : behindInMarks op b = false) : TrT X (.Compare a [op] [b] pos) (q1 && q2) (rTst (rIn n ra rb)) := by
  refine tst_of (pt_cmpR ho ha.pe hb.pe hm) (fun σ H Q _ ⟨E, I, δ, τ, S, h⟩ => twoV ha hb S h fun v u d y δ' I' H' s1 k1 st rp h1 => ?_) fun h => r2v_mono ha hb fun _ _ _ => fIn_mono fun _ => h _ _
  cases e : vw δ' y with
  | none => rw [e] at h1; exact h1.elim
  | some i =>
    rw [e] at h1
    exact fIn_ok st.sta.le (st.shl e) rp h1 fun w z hz rz => hz w I' H' s1 k1 ⟨st.sta, rz⟩
theorem tt_chain {op op' : CmpOp} {r r' : R2} {f g : Op2} (ho : OpR X (compareOp op) r) (ho' : OpR X (compareOp op') r') (hf : OpIm X r f) (hg : OpIm X r' g) (ha : TrE X a q1 ra) (hb : TrE X b q2 rb) (hc : TrE X c q3 rc)
    (hm : lastMarks [op, op'] [b, c] = false) : TrT X (.Compare a [op, op'] [b, c] pos) (q1 && q2 && q3) (rTst (rChain f g ra rb rc)) := by
  refine tst_of (pt_chain ho ho' ha.pe hb.pe hc.pe hm) (fun σ H Q _ ⟨E, I, δ, τ, S, h⟩ => two ha hb S h fun v u d e δ1 I1 H1 s1 k1 S1 rp1 rp2 h1 => hf.ok S1.le rp1 rp2 h1 fun w z h2 rp => ?_)
    fun h => r2_mono ha hb fun _ _ _ => hf.mono fun _ => onBl_mono fun _ => ite_mono (r1_mono hc fun _ _ => hg.mono fun _ => h _ _) (h _ _)
  obtain ⟨k, rfl, h2⟩ := onBl_ok rp h2
  refine ⟨k, rfl, ?_⟩
  cases k with
  | true => exact one hc S1 h2 fun v3 d3 δ2 I2 H2 s2 k2 S2 rp3 h3 => hg.ok S2.le (rp2.mono s2) rp3 h3 fun w2 z2 h4 rp4 => h4 w2 I2 H2 (s1.trans s2) (fun z => (k1 (and_q z).1).trans (k2 (and_q z).2)) ⟨S2, rp4⟩
  | false => exact h2 _ I1 H1 s1 (fun z => k1 (and_q z).1) ⟨S1, .bl _⟩
theorem tt_lt (ha : TrE X a q1 ra) (hb : TrE X b q2 rb) (hm : behindInMarks .Lt b = false := by first | exact nomark _ (by decide) (by decide) | rfl) : TrT X (.Compare a [.Lt] [b] pos) (q1 && q2) (rTst (rLt ra rb)) := tt_cmp op_lt im_fB0 ha hb hm
theorem tt_le (ha : TrE X a q1 ra) (hb : TrE X b q2 rb) (hm : behindInMarks .LtE b = false := by first | exact nomark _ (by decide) (by decide) | rfl) : TrT X (.Compare a [.LtE] [b] pos) (q1 && q2) (rTst (rLe ra rb)) := tt_cmp op_le im_fB0 ha hb hm
theorem tt_gt (ha : TrE X a q1 ra) (hb : TrE X b q2 rb) (hm : behindInMarks .Gt b = false := by first | exact nomark _ (by decide) (by decide) | rfl) : TrT X (.Compare a [.Gt] [b] pos) (q1 && q2) (rTst (rGt ra rb)) := tt_cmp op_gt im_fB0 ha hb hm
theorem tt_ge (ha : TrE X a q1 ra) (hb : TrE X b q2 rb) (hm : behindInMarks .GtE b = false := by first | exact nomark _ (by decide) (by decide) | rfl) : TrT X (.Compare a [.GtE] [b] pos) (q1 && q2) (rTst (rGe ra rb)) := tt_cmp op_ge im_fB0 ha hb hm
theorem tt_eq (hu : X.A.units + 64 < cLine) (ha : TrE X a q1 ra) (hb : TrE X b q2 rb) (hm : behindInMarks .Eq b = false := by first | exact nomark _ (by decide) (by decide) | rfl) : TrT X (.Compare a [.Eq] [b] pos) (q1 && q2) (rTst (rEq ra rb)) := tt_cmp (op_eqD hu) im_fEq ha hb hm
theorem tt_ne (hu : X.A.units + 64 < cLine) (ha : TrE X a q1 ra) (hb : TrE X b q2 rb) (hm : behindInMarks .NotEq b = false := by first | exact nomark _ (by decide) (by decide) | rfl) : TrT X (.Compare a [.NotEq] [b] pos) (q1 && q2) (rTst (rNe ra rb)) := tt_cmp (op_neD hu) im_fNe ha hb hm
theorem tt_in (hu : X.A.units + 65 < cLine) (ha : TrE X a q1 ra) (hb : TrE X b q2 rb) (hm : behindInMarks .In b = false := by with_unfolding_all rfl) : TrT X (.Compare a [.In] [b] pos) (q1 && q2) (rTst (rIn id ra rb)) := tt_inR (op_inG hu) ha hb hm
theorem tt_notIn (hu : X.A.units + 65 < cLine) (ha : TrE X a q1 ra) (hb : TrE X b q2 rb) (hm : behindInMarks .NotIn b = false := by with_unfolding_all rfl) : TrT X (.Compare a [.NotIn] [b] pos) (q1 && q2) (rTst (rIn Bool.not ra rb)) := tt_inR (op_notInG hu) ha hb hm
theorem tt_isN {j pos'} (ha : TrE X a q ra) : TrT X (.Compare a [.Is] [.Constant .none j pos'] pos) q (rTst (rIsN ra)) :=
  tst_of (pt_cmpR op_isN ha.pe pe_non (nomark _ (by decide) (by decide))) (fun σ H Q _ ⟨E, I, δ, τ, S, h⟩ => rV_run (vw_isN id) ha S h) (rV_mono (vw_isN id) ha)
theorem tt_notN {j pos'} (ha : TrE X a q ra) : TrT X (.Compare a [.IsNot] [.Constant .none j pos'] pos) q (rTst (rNotN ra)) :=
  tst_of (pt_cmpR op_notN ha.pe pe_non (nomark _ (by decide) (by decide))) (fun σ H Q _ ⟨E, I, δ, τ, S, h⟩ => rV_run (vw_isN Bool.not) ha S h) (rV_mono (vw_isN Bool.not) ha)
theorem tt_lele (ha : TrE X a q1 ra) (hb : TrE X b q2 rb) (hc : TrE X c q3 rc) (hm : lastMarks [.LtE, .LtE] [b, c] = false := by rfl) : TrT X (.Compare a [.LtE, .LtE] [b, c] pos) (q1 && q2 && q3) (rTst (rChain fLe fLe ra rb rc)) := tt_chain op_le op_le im_fB0 im_fB0 ha hb hc hm
theorem tt_lelt (ha : TrE X a q1 ra) (hb : TrE X b q2 rb) (hc : TrE X c q3 rc) (hm : lastMarks [.LtE, .Lt] [b, c] = false := by rfl) : TrT X (.Compare a [.LtE, .Lt] [b, c] pos) (q1 && q2 && q3) (rTst (rChain fLe fLt ra rb rc)) := tt_chain op_le op_lt im_fB0 im_fB0 ha hb hc hm
theorem tt_ltle (ha : TrE X a q1 ra) (hb : TrE X b q2 rb) (hc : TrE X c q3 rc) (hm : lastMarks [.Lt, .LtE] [b, c] = false := by rfl) : TrT X (.Compare a [.Lt, .LtE] [b, c] pos) (q1 && q2 && q3) (rTst (rChain fLt fLe ra rb rc)) := tt_chain op_lt op_le im_fB0 im_fB0 ha hb hc hm
end
end DL
namespace DL
open PySem L2
theorem relab_look {f : Str → NameKind → Bool} (hf : ∀ n k, f n k = true → k = .free) {x : Str} : ∀ {names : List (Str × NameKind)} {k : NameKind}, names.lookup x = some k → k = .cell ∨ k = .free →
    (names.map fun (n, k) => if f n k then (n, NameKind.cell) else (n, k)).lookup x = some .cell ∨ (names.map fun (n, k) => if f n k then (n, NameKind.cell) else (n, k)).lookup x = some .free
  | [], _, h, _ => by simp at h
  | (n, k0) :: r, k, h, hk => by
    show List.lookup x ((if f n k0 = true then (n, NameKind.cell) else (n, k0)) :: _) = _ ∨ List.lookup x ((if f n k0 = true then (n, NameKind.cell) else (n, k0)) :: _) = _
    rw [List.lookup_cons] at h
    cases hx : x == n with
    | true =>
      rw [hx] at h
      cases h
      by_cases hc : f n k0 = true
      · rw [if_pos hc]; left; simp [List.lookup_cons, hx]
      · rw [if_neg hc]; rcases hk with rfl | rfl
        · left; simp [List.lookup_cons, hx]
        · right; simp [List.lookup_cons, hx]
    | false =>
      rw [hx] at h
      have ih := relab_look hf h hk
      by_cases hc : f n k0 = true
      · rw [if_pos hc]; simpa [List.lookup_cons, hx] using ih
      · rw [if_neg hc]; simpa [List.lookup_cons, hx] using ih
theorem blkOk_in {N : List Str} {scope0 scope : Scope} {cl : List (Str × Addr)} {C : Addr} {env : PySem.Env} {own : List (Str × Nat)} (h : blkC N scope0 scope own = true) : BlkOk N (compEnvC scope0 cl C env).scope scope own := by
  have b : BlkOk N scope0 scope own := blkOk_by h
  refine ⟨b.kind, b.uniq, b.ix, fun y hy e => ?_, b.own⟩
  have q := b.free y hy e
  refine relab_look (f := fun n k => k == .free && env.scope.kind == .function && env.kindOf n == some .cell) (fun n k h => ?_) (k := if scope0.names.lookup y.1 = some .cell then .cell else .free) ?_ ?_
  · simp at h; exact h.1.1
  · rcases q with q | q
    · rw [q, if_pos rfl]
    · rw [q, if_neg (by simp)]
  · split <;> simp
end DL
end
section
set_option Elab.async false
set_option linter.all false
set_option maxRecDepth 100000
set_option maxHeartbeats 1000000
namespace DL
open PySem L2
/-- what a def does, as a relation: its arguments by a parameter, the wish on every result -/
def SpD.mk' (n : Nat) {α : Type} (args : α → List Slot) (pre : α → Prop) (post : α → Slot → List Slot → Prop) (hl : ∀ a, (args a).length = n) : SpD where
  n := n
  r := fun as Q => ∃ a, as = args a ∧ pre a ∧ ∀ s bs, post a s bs → Q s bs
  mono := fun h ⟨a, e, p, q⟩ => ⟨a, e, p, fun s bs w => h _ _ (q s bs w)⟩
  len := fun ⟨a, e, _⟩ => by rw [e]; exact hl a
theorem ok_int (i : Int) : (D.int i).ok = True := by unfold D.ok; exact eq_true rfl
theorem ok_bl (i : Bool) : (D.bl i).ok = True := by unfold D.ok; exact eq_true rfl
theorem eqv_int (i j : Int) : (D.int i).eqv (.int j) = decide (i = j) := by
  unfold D.eqv
  show PyData.eqv (.int i) (.int j) = _
  simp only [PyData.eqv]
  by_cases h : i = j <;> simp [h]
end DL
end
section
set_option Elab.async false
set_option linter.all false
set_option maxRecDepth 100000
set_option maxHeartbeats 1000000
namespace DL
open PySem L2
abbrev De0 (as : List Slot) (Q : Slot → List Slot → Prop) : DEnds := ⟨fun δ => finR 0 as δ fun bs => Q (.im .non) bs, fun s δ => finR 0 as δ fun bs => Q s bs, fun _ => False, fun _ => False⟩
/-- a loop by its invariant -/
theorem goFor_ind {T : Env → Prop} {g : RG} {r : RS} {rtn : Slot → Env → Prop} {fin : Env → Prop} (Inv : Nat → Env → Prop) (hT : ∀ i δ, Inv i δ → T δ) : ∀ (xs : List D) (j : Nat) {δ0 : Env}, Inv j δ0 →
    (∀ i x δ (k : Env → Prop), xs[i]? = some x → Inv (j + i) δ → (∀ δ', Inv (j + i + 1) δ' → k δ') → g x δ fun δ' => r { nx := k, rt := rtn, bk := fun δ2 => T δ2 ∧ fin δ2, ct := k } δ') →
    (∀ δ, Inv (j + xs.length) δ → fin δ) → goFor T g r rtn fin xs δ0
  | [], j, δ0, h0, _, hf => hf δ0 h0
  | x :: xs, j, δ0, h0, hs, hf => by
    unfold goFor
    refine hs 0 x δ0 _ rfl h0 fun δ' h' => ⟨hT _ _ h', goFor_ind Inv hT xs (j + 1) h' (fun i y δ k e hi hk => hs (i + 1) y δ k (by simpa using e) (by rw [← Nat.add_assoc, Nat.add_right_comm]; exact hi) fun δ' h => hk δ' ?_) fun δ h => hf δ ?_⟩
    · rw [show j + 1 + i + 1 = j + (i + 1) + 1 by omega]; exact h
    · rw [List.length_cons, show j + (xs.length + 1) = j + 1 + xs.length by omega]; exact h
/-- one turn of a comprehension -/
def stepLc (n m : Nat) (vs : List Nat) (g : RG) (rt : RT) (re : RE) (x : D) (acc : List D) (δ : Env) (k : List D → Env → Prop) : Prop := g x δ fun δ1 => rt δ1 fun b δ2 =>
    if b = true then re δ2 fun y δ3 => asIm y δ3 fun d δ4 => Tail n δ δ4 ∧ k (acc ++ [d]) (wipeE vs (δ4.set m (.ow .fresh (.ob (.lst (acc ++ [d]))))))
    else Tail n δ δ2 ∧ k acc (wipeE vs δ2)
theorem goLc_ind {n m : Nat} {vs : List Nat} {g : RG} {rt : RT} {re : RE} {fin : List D → Env → Prop} (Inv : Nat → List D → Env → Prop) : ∀ (xs : List D) (j : Nat) {acc0 : List D} {δ0 : Env}, Inv j acc0 δ0 →
    (∀ i x acc δ (k : List D → Env → Prop), xs[i]? = some x → Inv (j + i) acc δ → (∀ acc' δ', Inv (j + i + 1) acc' δ' → k acc' δ') → stepLc n m vs g rt re x acc δ k) →
    (∀ acc δ, Inv (j + xs.length) acc δ → fin acc δ) → goLc n m vs g rt re fin xs acc0 δ0
  | [], j, acc0, δ0, h0, _, hf => hf acc0 δ0 h0
  | x :: xs, j, acc0, δ0, h0, hs, hf => by
    unfold goLc
    refine hs 0 x acc0 δ0 _ rfl h0 fun acc' δ' h' => goLc_ind Inv xs (j + 1) h' (fun i y acc δ k e hi hk => hs (i + 1) y acc δ k (by simpa using e) (by rw [← Nat.add_assoc, Nat.add_right_comm]; exact hi) fun a δ' h => hk a δ' ?_) fun a δ h => hf a δ ?_
    · rw [show j + 1 + i + 1 = j + (i + 1) + 1 by omega]; exact h
    · rw [List.length_cons, show j + (xs.length + 1) = j + 1 + xs.length by omega]; exact h
/-- a comprehension without a test whose every turn gives f x and leaves the names as they were -/
theorem goLc_map {n m : Nat} {vs : List Nat} {g : RG} {rt : RT} {re : RE} {fin : List D → Env → Prop} (e : List D → Env) (f : D → D) (xs : List D) (hs : ∀ x ∈ xs, ∀ acc (k : List D → Env → Prop), k (acc ++ [f x]) (e (acc ++ [f x])) → stepLc n m vs g rt re x acc (e acc) k)
    (hf : fin (xs.map f) (e (xs.map f))) : goLc n m vs g rt re fin xs [] (e []) := by
  refine goLc_ind (fun i acc δ => acc = (xs.take i).map f ∧ δ = e acc) xs 0 ⟨by simp, rfl⟩ (fun i x acc δ k hx ⟨h1, h2⟩ hk => ?_) fun acc δ ⟨h1, h2⟩ => ?_
  · subst h2
    refine hs x (List.mem_of_getElem? hx) acc k (hk _ _ ⟨?_, rfl⟩)
    rw [h1, Nat.zero_add, List.take_succ, hx]; simp
  · rw [Nat.zero_add, List.take_length] at h1
    rw [h2, h1]; exact hf
/-- what simp shall not look into -/
structure Hold {α : Sort _} (a : α) : Type where
def goForX (T : Env → Prop) (g : RG) (r : RS) (rtn : Slot → Env → Prop) (fin : Env → Prop) (_ : Hold (T, g, r, rtn, fin)) (xs : List D) (δ : Env) : Prop := goFor T g r rtn fin xs δ
def goLcX (n m : Nat) (vs : List Nat) (g : RG) (rt : RT) (re : RE) (fin : List D → Env → Prop) (_ : Hold (g, rt, re, fin)) (xs acc : List D) (δ : Env) : Prop := goLc n m vs g rt re fin xs acc δ
def goLc2X (n m : Nat) (vs vs1 : List Nat) (g : RG) (rt : RT) (rI1 : RI) (g1 : RG) (rt1 : RT) (re : RE) (fin : List D → Env → Prop) (_ : Hold (g, rt, rI1, g1, rt1, re, fin)) (xs acc : List D) (δ : Env) : Prop := goLc2 n m vs vs1 g rt rI1 g1 rt1 re fin xs acc δ
def callX (S : SpD) (as : List Slot) (Q : Slot → List Slot → Prop) (_ : Hold Q) : Prop := S.r as Q
theorem rFor_eq {n : Nat} {rI : RI} {g : RG} {r : RS} {De : DEnds} {δ : Env} : rFor n rI g r De δ = rI δ fun xs δ1 b => goForX (Tail n δ1) g r De.rt (bkE b De.nx) ⟨⟩ xs δ1 := rfl
theorem rLc_eq {n : Nat} {vs : List Nat} {rI : RI} {g : RG} {rt : RT} {re : RE} {δ : Env} {Q : Rd → Env → Prop} : rLc n vs rI g rt re δ Q = rI δ fun xs δ1 b => noOw vs δ1 = true ∧ xs.length ≤ sizeLine ∧
  goLcX n δ1.length vs g rt re (fun acc δ' => bkE b (fun δ2 => Q (.tm (.ob (.lst acc))) δ2) (restE vs δ1 δ'.dropLast)) ⟨⟩ xs [] (wipeE vs (δ1 ++ [.ow .fresh (.ob (.lst []))])) := rfl
theorem rLc2_eq {n : Nat} {vs vs1 : List Nat} {rI rI1 : RI} {g g1 : RG} {rt rt1 : RT} {re : RE} {δ : Env} {Q : Rd → Env → Prop} : rLc2 n vs vs1 rI g rt rI1 g1 rt1 re δ Q = rI δ fun xs δ1 b => noOw vs δ1 = true ∧
  goLc2X n δ1.length vs vs1 g rt rI1 g1 rt1 re (fun acc δ' => bkE b (fun δ2 => Q (.tm (.ob (.lst acc))) δ2) (restE vs δ1 δ'.dropLast)) ⟨⟩ xs [] (wipeE vs (δ1 ++ [acS []])) := rfl
theorem rCall_eq {S : SpD} {rs : RA} {dds : List D} {δ : Env} {Q : Rd → Env → Prop} : rCall S rs dds δ Q = rs δ fun ds δ1 => callX S ((ds ++ dds).map .im) (fun s _ => resR Q δ1 s) ⟨⟩ := rfl
theorem callR_eq {S : SpD} {ags : List Ag} {δ : Env} {Q : Rd → Env → Prop} : callR S ags δ Q = lendR ags δ [] fun δ2 as => callX S (argS 0 as) (fun s bs => joinR as bs fun cs => backR ags cs δ2 fun δ3 => resR Q δ3 s) ⟨⟩ := rfl
theorem mkR_eq {C : Addr} {S : SpD} {ags : List Ag} {δ : Env} {Q : Rd → Env → Prop} : mkR C S ags δ Q = lendR ags δ [.ow .fresh (.ins C [])] fun δ2 as => callX S (argS 0 as) (fun s bs => joinR as bs fun cs => mkX ags δ2 Q s cs) ⟨⟩ := rfl
end DL
end
section
set_option Elab.async false
set_option linter.all false
set_option maxRecDepth 100000
set_option maxHeartbeats 1000000
/-! FL: what the readings compute, as functions. A functional environment has one slot a name; `inst` fills the locked slots, tails are the reading's own. -/
namespace DL
open PySem L2
abbrev FE := Env → Option (Rd × Env)
abbrev FT := Env → Option (Bool × Env)
abbrev FA := Env → Option (List D × Env)
abbrev FV := Env → Option (List Ag × Env)
abbrev FO := Env → Option (Option Int × Env)
abbrev FG := D → Env → Option Env
abbrev FGs := List D → Env → Option Env
theorem bnd {α β : Type} {o : Option α} {f : α → Option β} {b : β} (h : o.bind f = some b) : ∃ a, o = some a ∧ f a = some b := Option.bind_eq_some_iff.mp h
def instS (v : V) : Slot → Slot
  | .vl _ => .vl v
  | s => s
def inst (θ : Nat → V) : Env → Env
  | [] => []
  | s :: δ => instS (θ 0) s :: inst (fun i => θ (i + 1)) δ
theorem inst_len : ∀ (θ : Nat → V) (δ : Env), (inst θ δ).length = δ.length
  | _, [] => rfl
  | θ, s :: δ => by show (inst _ δ).length + 1 = δ.length + 1; rw [inst_len]
theorem inst_get : ∀ (θ : Nat → V) (δ : Env) (j : Nat), (inst θ δ)[j]? = δ[j]?.map (instS (θ j))
  | _, [], j => by simp [inst]
  | θ, s :: δ, 0 => by simp [inst]
  | θ, s :: δ, j + 1 => by simp [inst, inst_get]
theorem inst_set : ∀ (θ : Nat → V) (δ : Env) (j : Nat) (s : Slot), inst θ (δ.set j s) = (inst θ δ).set j (instS (θ j) s)
  | _, [], j, _ => by simp [inst]
  | θ, s :: δ, 0, _ => by simp [inst]
  | θ, s :: δ, j + 1, _ => by simp [inst, inst_set]
theorem inst_ext : ∀ {θ θ' : Nat → V} {δ : Env}, (∀ j v, δ[j]? = some (.vl v) → θ j = θ' j) → inst θ δ = inst θ' δ
  | _, _, [], _ => rfl
  | θ, θ', s :: δ, h => by
    show instS _ s :: inst _ δ = instS _ s :: inst _ δ
    rw [inst_ext (θ := fun i => θ (i + 1)) (θ' := fun i => θ' (i + 1)) (fun j v e => h (j + 1) v (by simpa using e))]
    cases s with
    | vl v => rw [h 0 v (by simp)]
    | _ => rfl
def updθ (θ : Nat → V) (j : Nat) (v : V) : Nat → V := fun i => if i = j then v else θ i
theorem inst_lock (θ : Nat → V) (δ : Env) (j : Nat) (v w : V) : inst (updθ θ j v) (δ.set j (.vl w)) = (inst θ δ).set j (.vl v) := by
  have e : inst (updθ θ j v) δ = inst (updθ θ j v) δ := rfl
  refine List.ext_getElem? fun i => ?_
  rw [inst_get, List.getElem?_set, List.getElem?_set, inst_get, inst_len]
  by_cases hi : j = i
  · subst hi
    simp only [if_true, if_pos]
    split
    · simp [updθ, instS]
    · rfl
  · rw [if_neg hi, if_neg hi]
    have : updθ θ j v i = θ i := by unfold updθ; rw [if_neg (Ne.symm hi)]
    rw [this]
/-- setting a slot to the same locks -/
theorem inst_unlock (θ : Nat → V) (δ : Env) (j : Nat) (v : V) (s : Slot) (hs : ∀ w, s ≠ .vl w) : inst (updθ θ j v) (δ.set j s) = inst θ (δ.set j s) := by
  refine inst_ext fun i w e => ?_
  unfold updθ
  split
  · rename_i h
    subst h
    rw [List.getElem?_set] at e
    simp at e
    exact absurd e.2 (hs w)
  · rfl
section
variable {n j : Nat} {δ : Env} {θ : Nat → V} {τ : Env} {s : Slot}
theorem sGet (hl : δ.length = n) (hj : j < n) : (inst θ δ ++ τ)[j]? = δ[j]?.map (instS (θ j)) := by
  rw [List.getElem?_append_left (by rw [inst_len]; omega), inst_get]
theorem sSet (hl : δ.length = n) (hj : j < n) (hs : ∀ v, instS v s = s) : (inst θ δ ++ τ).set j s = inst θ (δ.set j s) ++ τ := by
  rw [List.set_append_left _ _ (by rw [inst_len]; omega), inst_set, hs]
end
def Rd.bd (n : Nat) : Rd → Prop
  | .vr j => j < n
  | .at j _ => j < n
  | _ => True
/-! ### readings of expressions -/
class IE (n : Nat) (r : RE) (f : outParam FE) : Prop where
  h : ∀ {δ : Env} {x : Rd} {δ' : Env}, δ.length = n → f δ = some (x, δ') → (δ'.length = n ∧ x.bd n) ∧ ∀ (θ : Nat → V) (τ : Env) (Q : Rd → Env → Prop), Q x (inst θ δ' ++ τ) → r (inst θ δ ++ τ) Q
class IT (n : Nat) (r : RT) (f : outParam FT) : Prop where
  h : ∀ {δ : Env} {x : Bool} {δ' : Env}, δ.length = n → f δ = some (x, δ') → δ'.length = n ∧ ∀ (θ : Nat → V) (τ : Env) (Q : Bool → Env → Prop), Q x (inst θ δ' ++ τ) → r (inst θ δ ++ τ) Q
class IA (n : Nat) (r : RA) (f : outParam FA) : Prop where
  h : ∀ {δ : Env} {x : List D} {δ' : Env}, δ.length = n → f δ = some (x, δ') → δ'.length = n ∧ ∀ (θ : Nat → V) (τ : Env) (Q : List D → Env → Prop), Q x (inst θ δ' ++ τ) → r (inst θ δ ++ τ) Q
def Ag.bd (n : Nat) : Ag → Prop
  | .vr j => j < n
  | _ => True
class IV (n : Nat) (r : RV) (f : outParam FV) : Prop where
  h : ∀ {δ : Env} {x : List Ag} {δ' : Env}, δ.length = n → f δ = some (x, δ') → (δ'.length = n ∧ ∀ a ∈ x, a.bd n) ∧ ∀ (θ : Nat → V) (τ : Env) (Q : List Ag → Env → Prop), Q x (inst θ δ' ++ τ) → r (inst θ δ ++ τ) Q
class IO (n : Nat) (r : RO) (f : outParam FO) : Prop where
  h : ∀ {δ : Env} {x : Option Int} {δ' : Env}, δ.length = n → f δ = some (x, δ') → δ'.length = n ∧ ∀ (θ : Nat → V) (τ : Env) (Q : Option Int → Env → Prop), Q x (inst θ δ' ++ τ) → r (inst θ δ ++ τ) Q
class Lt (j n : Nat) : Prop where
  h : j < n
instance (n : Nat) : Lt 0 (n + 1) := ⟨Nat.succ_pos n⟩
instance (j n : Nat) [l : Lt j n] : Lt (j + 1) (n + 1) := ⟨Nat.succ_lt_succ l.h⟩
def imOF (δ : Env) : Ow → Option (D × Env)
  | .ob (.lst xs) => some (.lst xs, δ)
  | .ins C fs => if fs.all (fun p => p.2.frz) = true then some (.obj C (fsD fs), δ) else none
  | _ => none
def imSF (δ : Env) (j : Nat) : Option Slot → Option (D × Env)
  | some (.im d) => some (d, δ)
  | some (.ow .fresh (.ob (.lst xs))) => some (.lst xs, δ.set j (.im (.lst xs)))
  | some (.ow .fresh (.ins C fs)) => if fs.all (fun p => p.2.frz) = true then some (.obj C (fsD fs), δ.set j (.im (.obj C (fsD fs)))) else none
  | _ => none
def asImF (x : Rd) (δ : Env) : Option (D × Env) := match x with
  | .im d => some (d, δ)
  | .tm o => imOF δ o
  | .vr j => imSF δ j δ[j]?
  | .at _ _ => none
theorem imO_f {δ : Env} {o : Ow} {d : D} {δ' : Env} (h : imOF δ o = some (d, δ')) : δ' = δ ∧ ∀ (ρ : Env) (k : D → Env → Prop), k d ρ → imO ρ k o := by
  cases o with
  | ob o => cases o with
    | lst xs => cases h; exact ⟨rfl, fun _ _ q => q⟩
    | dK xs => cases h
    | dT xs => cases h
  | ins C fs =>
    have h : (if fs.all (fun p => p.2.frz) = true then some (D.obj C (fsD fs), δ) else none) = some (d, δ') := h
    by_cases hf : fs.all (fun p => p.2.frz) = true
    · rw [if_pos hf] at h
      cases h
      exact ⟨rfl, fun _ _ q => ⟨hf, q⟩⟩
    · rw [if_neg hf] at h; cases h
theorem asIm_f {n : Nat} {x : Rd} {δ : Env} {d : D} {δ' : Env} (hb : x.bd n) (hl : δ.length = n) (h : asImF x δ = some (d, δ')) :
    δ'.length = n ∧ ∀ (θ : Nat → V) (τ : Env) (k : D → Env → Prop), k d (inst θ δ' ++ τ) → asIm x (inst θ δ ++ τ) k := by
  cases x with
  | im e => cases h; exact ⟨hl, fun _ _ _ q => q⟩
  | tm o =>
    obtain ⟨rfl, q⟩ := imO_f h
    exact ⟨hl, fun _ _ k w => q _ k w⟩
  | «at» j f => cases h
  | vr j =>
    have hj : j < n := hb
    have h : imSF δ j δ[j]? = some (d, δ') := h
    have go : ∀ (θ : Nat → V) (τ : Env) (k : D → Env → Prop), asIm (.vr j) (inst θ δ ++ τ) k = imS (inst θ δ ++ τ) j k (δ[j]?.map (instS (θ j))) := fun θ τ k => by
      show imS _ j k _ = _
      rw [sGet hl hj]
    cases e : δ[j]? with
    | none => rw [e] at h; cases h
    | some s =>
      rw [e] at h
      cases s with
      | un => cases h
      | vl w => cases h
      | im d' => cases h; exact ⟨hl, fun θ τ k q => by rw [go, e]; exact q⟩
      | ow p o => cases p with
        | arg i => cases o <;> cases h
        | fresh => cases o with
          | ob o => cases o with
            | lst xs => cases h; exact ⟨by rw [List.length_set]; exact hl, fun θ τ k q => by rw [go, e]; show k _ _; rw [sSet hl hj fun _ => rfl]; exact q⟩
            | dK xs => cases h
            | dT xs => cases h
          | ins C fs =>
            have h : (if fs.all (fun p => p.2.frz) = true then some (D.obj C (fsD fs), δ.set j (.im (.obj C (fsD fs)))) else none) = some (d, δ') := h
            by_cases hf : fs.all (fun p => p.2.frz) = true
            · rw [if_pos hf] at h
              cases h
              exact ⟨by rw [List.length_set]; exact hl, fun θ τ k q => by rw [go, e]; refine ⟨hf, ?_⟩; rw [sSet hl hj fun _ => rfl]; exact q⟩
            · rw [if_neg hf] at h; cases h
theorem vw_inst {n : Nat} {x : Rd} {δ : Env} (hb : x.bd n) (hl : δ.length = n) (θ : Nat → V) (τ : Env) : vw (inst θ δ ++ τ) x = vw δ x := by
  cases x with
  | im d => rfl
  | tm o => rfl
  | vr j =>
    show vwS _ = vwS _
    rw [sGet hl hb]
    cases e : δ[j]? with
    | none => rfl
    | some s => cases s <;> rfl
  | «at» j f =>
    show vwAt f _ = vwAt f _
    rw [sGet hl hb]
    cases e : δ[j]? with
    | none => rfl
    | some s => cases s <;> rfl
/-! the words -/
def fK (d : D) : FE := fun δ => some (.im d, δ)
instance iK {n : Nat} {d : D} : IE n (rK d) (fK d) := ⟨fun hl h => by cases h; exact ⟨⟨hl, trivial⟩, fun _ _ _ q => q⟩⟩
def varSF (δ : Env) (j : Nat) : Option Slot → Option (Rd × Env)
  | some (.im d) => some (.im d, δ)
  | some (.ow _ _) => some (.vr j, δ)
  | _ => none
def fVar (j : Nat) : FE := fun δ => varSF δ j δ[j]?
instance iVar {n j : Nat} [l : Lt j n] : IE n (rVar j) (fVar j) := ⟨fun {δ x δ'} hl h => by
  have h : varSF δ j δ[j]? = some (x, δ') := h
  have go : ∀ (θ : Nat → V) (τ : Env) (Q : Rd → Env → Prop), rVar j (inst θ δ ++ τ) Q = varS (inst θ δ ++ τ) j Q (δ[j]?.map (instS (θ j))) := fun θ τ Q => by
    show varS _ j Q _ = _
    rw [sGet hl l.h]
  cases e : δ[j]? with
  | none => rw [e] at h; cases h
  | some s =>
    rw [e] at h
    cases s with
    | un => cases h
    | vl w => cases h
    | im d => cases h; exact ⟨⟨hl, trivial⟩, fun θ τ Q q => by rw [go, e]; exact q⟩
    | ow p o => cases h; exact ⟨⟨hl, l.h⟩, fun θ τ Q q => by rw [go, e]; exact q⟩⟩
def f1 {β : Type} (fa : FE) (P : D → Env → Option β) : Env → Option β := fun δ => (fa δ).bind fun p => (asImF p.1 p.2).bind fun q => P q.1 q.2
theorem i1 {n : Nat} {ra : RE} {fa : FE} {β : Type} {P : D → Env → Option β} {b : β} {δ : Env} [a : IE n ra fa] (hl : δ.length = n) (h : f1 fa P δ = some b) :
    ∃ d δ', δ'.length = n ∧ P d δ' = some b ∧ ∀ (θ : Nat → V) (τ : Env) (k : D → Env → Prop), k d (inst θ δ' ++ τ) → r1 ra k (inst θ δ ++ τ) := by
  obtain ⟨⟨x, δ1⟩, h1, h⟩ := bnd h
  obtain ⟨⟨d, δ2⟩, h2, h⟩ := bnd h
  obtain ⟨⟨l1, b1⟩, q1⟩ := a.h hl h1
  obtain ⟨l2, q2⟩ := asIm_f b1 l1 h2
  exact ⟨d, δ2, l2, h, fun θ τ k w => q1 θ τ _ (q2 θ τ k w)⟩
def f2 {β : Type} (fa fb : FE) (P : D → D → Env → Option β) : Env → Option β := f1 fa fun d => f1 fb fun e => P d e
theorem i2 {n : Nat} {ra rb : RE} {fa fb : FE} {β : Type} {P : D → D → Env → Option β} {b : β} {δ : Env} [a : IE n ra fa] [b' : IE n rb fb] (hl : δ.length = n) (h : f2 fa fb P δ = some b) :
    ∃ d e δ', δ'.length = n ∧ P d e δ' = some b ∧ ∀ (θ : Nat → V) (τ : Env) (k : D → D → Env → Prop), k d e (inst θ δ' ++ τ) → r2 ra rb k (inst θ δ ++ τ) := by
  obtain ⟨d, δ1, l1, h, q1⟩ := i1 (ra := ra) hl h
  obtain ⟨e, δ2, l2, h, q2⟩ := i1 (ra := rb) l1 h
  exact ⟨d, e, δ2, l2, h, fun θ τ k w => q1 θ τ _ (q2 θ τ _ w)⟩
def f2v {β : Type} (fa fb : FE) (P : D → Rd → Env → Option β) : Env → Option β := f1 fa fun d δ => (fb δ).bind fun p => P d p.1 p.2
theorem i2v {n : Nat} {ra rb : RE} {fa fb : FE} {β : Type} {P : D → Rd → Env → Option β} {b : β} {δ : Env} [a : IE n ra fa] [b' : IE n rb fb] (hl : δ.length = n) (h : f2v fa fb P δ = some b) :
    ∃ d y δ', δ'.length = n ∧ y.bd n ∧ P d y δ' = some b ∧ ∀ (θ : Nat → V) (τ : Env) (k : D → Rd → Env → Prop), k d y (inst θ δ' ++ τ) → r2v ra rb k (inst θ δ ++ τ) := by
  obtain ⟨d, δ1, l1, h, q1⟩ := i1 (ra := ra) hl h
  obtain ⟨⟨y, δ2⟩, h2, h⟩ := bnd h
  obtain ⟨⟨l2, b2⟩, q2⟩ := b'.h l1 h2
  exact ⟨d, y, δ2, l2, b2, h, fun θ τ k w => q1 θ τ _ (q2 θ τ _ w)⟩
/-! operators -/
abbrev OpF := D → D → Option D
class IOp (f : Op2) (g : outParam OpF) : Prop where
  h : ∀ {d e z : D}, g d e = some z → ∀ (k : D → Prop), k z → f d e k
def onIntsF (k : Int → Int → Option D) : D → D → Option D
  | .int i, .int j => k i j
  | _, _ => none
theorem onInts_f {k : Int → Int → Option D} {d e z : D} (h : onIntsF k d e = some z) : ∃ i j, d = .int i ∧ e = .int j ∧ k i j = some z := by
  cases d with
  | int i => cases e with
    | int j => exact ⟨i, j, rfl, rfl, h⟩
    | _ => cases h
  | _ => cases h
def oI (C : Int → Int → Prop) [∀ i j, Decidable (C i j)] (g : Int → Int → Int) : OpF := onIntsF fun i j => if C i j then some (.int (g i j)) else none
def oI0 (g : Int → Int → Int) : OpF := onIntsF fun i j => some (.int (g i j))
def oB0 (g : Int → Int → Bool) : OpF := onIntsF fun i j => some (.bl (g i j))
instance : ∀ i j, Decidable (CMulX i j) := fun i j => by unfold CMulX; exact inferInstance
instance : ∀ i j, Decidable (CDivN i j) := fun i j => by unfold CDivN; exact inferInstance
instance : ∀ i j, Decidable (CPow i j) := fun i j => by unfold CPow; exact inferInstance
instance {C : Int → Int → Prop} [∀ i j, Decidable (C i j)] {g : Int → Int → Int} : IOp (fI C g) (oI C g) := ⟨fun {d e z} h0 k w => by
  obtain ⟨i, j, rfl, rfl, h⟩ := onInts_f h0
  have h : (if C i j then some (D.int (g i j)) else none) = some z := h
  by_cases c : C i j
  · rw [if_pos c] at h; cases h; exact ⟨c, w⟩
  · rw [if_neg c] at h; cases h⟩
instance {g : Int → Int → Int} : IOp (fI0 g) (oI0 g) := ⟨fun h k w => by obtain ⟨i, j, rfl, rfl, h⟩ := onInts_f h; cases h; exact w⟩
instance {g : Int → Int → Bool} : IOp (fB0 g) (oB0 g) := ⟨fun h k w => by obtain ⟨i, j, rfl, rfl, h⟩ := onInts_f h; cases h; exact w⟩
instance (d : D) : Decidable d.ok := by unfold D.ok; exact inferInstance
def oEq : OpF := fun d e => if d.ok ∧ e.ok then some (.bl (d.eqv e)) else none
def oNe : OpF := fun d e => if d.ok ∧ e.ok then some (.bl (!d.eqv e)) else none
instance : IOp fEq oEq := ⟨fun {d e z} h k w => by unfold oEq at h; split at h; rename_i c; cases h; exact ⟨c.1, c.2, w⟩; cases h⟩
instance : IOp fNe oNe := ⟨fun {d e z} h k w => by unfold oNe at h; split at h; rename_i c; cases h; exact ⟨c.1, c.2, w⟩; cases h⟩
def fOp (g : OpF) (fa fb : FE) : FE := f2 fa fb fun d e δ => (g d e).bind fun z => some (.im z, δ)
instance {n : Nat} {f : Op2} {g : OpF} {ra rb : RE} {fa fb : FE} [o : IOp f g] [a : IE n ra fa] [b : IE n rb fb] : IE n (rOp f ra rb) (fOp g fa fb) := ⟨fun hl h => by
  obtain ⟨d, e, δ1, l1, h, q1⟩ := i2 (ra := ra) (rb := rb) hl h
  obtain ⟨z, h2, h⟩ := bnd h
  cases h
  exact ⟨⟨l1, trivial⟩, fun θ τ Q w => q1 θ τ _ (o.h h2 _ w)⟩⟩
/-! words of one argument -/
class IV1 (f : Option D → (D → Prop) → Prop) (g : outParam (Option D → Option D)) : Prop where
  h : ∀ {d : Option D} {z : D}, g d = some z → ∀ (k : D → Prop), k z → f d k
def fV (g : Option D → Option D) (fa : FE) : FE := fun δ => (fa δ).bind fun p => (g (vw p.2 p.1)).bind fun z => some (.im z, p.2)
instance {n : Nat} {f : Option D → (D → Prop) → Prop} {g : Option D → Option D} {ra : RE} {fa : FE} [o : IV1 f g] [a : IE n ra fa] : IE n (rV f ra) (fV g fa) := ⟨fun hl h => by
  obtain ⟨⟨x, δ1⟩, h1, h⟩ := bnd h
  obtain ⟨⟨l1, b1⟩, q1⟩ := a.h hl h1
  obtain ⟨z, h2, h⟩ := bnd h
  cases h
  refine ⟨⟨l1, trivial⟩, fun θ τ Q w => q1 θ τ _ ?_⟩
  rw [vw_inst b1 l1]
  exact o.h h2 _ w⟩
def gLen : Option D → Option D
  | some (.lst xs) => some (.int xs.length)
  | some (.wl xs) => some (.int xs.length)
  | some (.tup xs) => some (.int xs.length)
  | some (.wt xs) => some (.int xs.length)
  | some (.str x) => if x.length ≤ sizeLine then some (.int x.length) else none
  | some (.dK xs) => some (.int xs.length)
  | _ => none
instance : IV1 fLen gLen := ⟨fun {d z} h k w => by
  cases d with
  | none => cases h
  | some d =>
    cases d with
    | str x =>
      unfold gLen at h
      dsimp only at h
      split at h
      · rename_i c; cases h; exact ⟨c, w⟩
      · cases h
    | _ => cases h; try exact w⟩
def gSum : Option D → Option D
  | some (.lst xs) => (D.ints? xs).bind fun ns => some (.int ns.sum)
  | _ => none
instance : IV1 fSum gSum := ⟨fun {d z} h k w => by
  cases d with
  | none => cases h
  | some d => cases d with
    | lst xs => obtain ⟨ns, h1, h⟩ := bnd h; cases h; exact ⟨ns, ints_eq h1, w⟩
    | _ => cases h⟩
def gBs (g : List Bool → Bool) : Option D → Option D
  | some (.lst xs) => (D.bls? xs).bind fun ns => some (.bl (g ns))
  | _ => none
instance {g : List Bool → Bool} : IV1 (fBs g) (gBs g) := ⟨fun {d z} h k w => by
  cases d with
  | none => cases h
  | some d => cases d with
    | lst xs => obtain ⟨ns, h1, h⟩ := bnd h; cases h; exact ⟨ns, bls_eq h1, w⟩
    | _ => cases h⟩
def gAnyI : Option D → Option D
  | some (.lst xs) => (D.ints? xs).bind fun ns => some (.bl (ns.any fun n => n != 0))
  | _ => none
instance : IV1 fAnyI gAnyI := ⟨fun {d z} h k w => by
  cases d with
  | none => cases h
  | some d => cases d with
    | lst xs => obtain ⟨ns, h1, h⟩ := bnd h; cases h; exact ⟨ns, ints_eq h1, w⟩
    | _ => cases h⟩
def gInt : Option D → Option D
  | some (.int i) => some (.int i)
  | some (.bl b) => some (.int (if b then 1 else 0))
  | _ => none
instance : IV1 fInt gInt := ⟨fun {d z} h k w => by
  cases d with
  | none => cases h
  | some d => cases d with
    | int i => cases h; exact w
    | bl i => cases h; exact w
    | _ => cases h⟩
def gIsN (g : Bool → Bool) : Option D → Option D
  | some .non => some (.bl (g true))
  | some _ => some (.bl (g false))
  | none => none
instance {g : Bool → Bool} : IV1 (fIsN g) (gIsN g) := ⟨fun {d z} h k w => by
  cases d with
  | none => cases h
  | some d => cases d <;> (cases h; exact w)⟩
class IVL (f : Option D → (List D → Prop) → Prop) (g : outParam (Option D → Option (List D))) : Prop where
  h : ∀ {d : Option D} {z : List D}, g d = some z → ∀ (k : List D → Prop), k z → f d k
def fVL (g : Option D → Option (List D)) (fa : FE) : FE := fun δ => (fa δ).bind fun p => (g (vw p.2 p.1)).bind fun z => some (.tm (.ob (.lst z)), p.2)
instance {n : Nat} {f : Option D → (List D → Prop) → Prop} {g : Option D → Option (List D)} {ra : RE} {fa : FE} [o : IVL f g] [a : IE n ra fa] : IE n (rVL f ra) (fVL g fa) := ⟨fun hl h => by
  obtain ⟨⟨x, δ1⟩, h1, h⟩ := bnd h
  obtain ⟨⟨l1, b1⟩, q1⟩ := a.h hl h1
  obtain ⟨z, h2, h⟩ := bnd h
  cases h
  refine ⟨⟨l1, trivial⟩, fun θ τ Q w => q1 θ τ _ ?_⟩
  rw [vw_inst b1 l1]
  exact o.h h2 _ w⟩
def gList : Option D → Option (List D)
  | some (.lst xs) => some xs
  | some (.wl xs) => some xs
  | some (.tup xs) => some xs
  | some (.wt xs) => some xs
  | _ => none
instance : IVL fList gList := ⟨fun {d z} h k w => by
  cases d with
  | none => cases h
  | some d => cases d <;> (cases h; try exact w)⟩
def gRev : Option D → Option (List D)
  | some (.lst xs) => some xs.reverse
  | some (.wl xs) => some xs.reverse
  | _ => none
instance : IVL fRev gRev := ⟨fun {d z} h k w => by
  cases d with
  | none => cases h
  | some d => cases d <;> (cases h; try exact w)⟩
def gSort : Option D → Option (List D)
  | some (.lst xs) => (D.ints? xs).bind fun ns => some ((isort ns).map D.int)
  | some (.wl xs) => (D.ints? xs).bind fun ns => some ((isort ns).map D.int)
  | some (.dK kvs) => (keysI kvs).bind fun ks => if ks.length < 64 then some ((isort ks).map D.int) else none
  | _ => none
instance : IVL fSort gSort := ⟨fun {d z} h k w => by
  cases d with
  | none => cases h
  | some d => cases d with
    | lst xs => obtain ⟨ns, h1, h⟩ := bnd h; cases h; exact ⟨ns, ints_eq h1, w⟩
    | wl xs => obtain ⟨ns, h1, h⟩ := bnd h; cases h; exact ⟨ns, ints_eq h1, w⟩
    | dK xs =>
      obtain ⟨ns, h1, h⟩ := bnd h
      split at h
      · rename_i c
        cases h
        show onSome _ _
        rw [h1]; exact ⟨c, w⟩
      · cases h
    | _ => cases h⟩
def gTupl : Option D → Option D
  | some (.lst xs) => some (.tup xs)
  | some (.wl xs) => some (.tup xs)
  | some (.tup xs) => some (.tup xs)
  | some (.wt xs) => some (.wt xs)
  | _ => none
instance {n : Nat} {ra : RE} {fa : FE} [a : IE n ra fa] : IE n (rTupOf ra) (fV gTupl fa) := ⟨fun hl h => by
  obtain ⟨⟨x, δ1⟩, h1, h⟩ := bnd h
  obtain ⟨⟨l1, b1⟩, q1⟩ := a.h hl h1
  obtain ⟨z, h2, h⟩ := bnd h
  cases h
  refine ⟨⟨l1, trivial⟩, fun θ τ Q w => q1 θ τ _ ?_⟩
  rw [vw_inst b1 l1]
  show fTupl (vw δ1 x) _
  revert h2
  cases vw δ1 x with
  | none => intro h2; cases h2
  | some d => cases d <;> (intro h2; cases h2; try exact w)⟩
/-! tests -/
def gTru : Option D → Option Bool
  | some .non => some false
  | some (.bl b) => some b
  | some (.int i) => some (i != 0)
  | some (.str x) => if x.length ≤ sizeLine then some ((x.length : Int) != 0) else none
  | some (.lst xs) => some (!xs.isEmpty)
  | some (.wl xs) => some (!xs.isEmpty)
  | some (.tup xs) => some (!xs.isEmpty)
  | some (.wt xs) => some (!xs.isEmpty)
  | some (.dK xs) => some (!xs.isEmpty)
  | _ => none
theorem gTru_ok {d : Option D} {b : Bool} (h : gTru d = some b) (k : Bool → Prop) (w : k b) : fTru d k := by
  cases d with
  | none => cases h
  | some d =>
    cases d with
    | str x =>
      unfold gTru at h
      dsimp only at h
      split at h
      · rename_i c; cases h; exact ⟨c, w⟩
      · cases h
    | _ => cases h; try exact w
def fTruT (fa : FE) : FT := fun δ => (fa δ).bind fun p => (gTru (vw p.2 p.1)).bind fun z => some (z, p.2)
instance {n : Nat} {ra : RE} {fa : FE} [a : IE n ra fa] : IT n (rTru ra) (fTruT fa) := ⟨fun hl h => by
  obtain ⟨⟨x, δ1⟩, h1, h⟩ := bnd h
  obtain ⟨⟨l1, b1⟩, q1⟩ := a.h hl h1
  obtain ⟨z, h2, h⟩ := bnd h
  cases h
  refine ⟨l1, fun θ τ Q w => q1 θ τ _ ?_⟩
  rw [vw_inst b1 l1]
  exact gTru_ok h2 _ w⟩
def fAnd (t1 t2 : FT) : FT := fun δ => (t1 δ).bind fun p => if p.1 = true then t2 p.2 else some (false, p.2)
def fOr (t1 t2 : FT) : FT := fun δ => (t1 δ).bind fun p => if p.1 = true then some (true, p.2) else t2 p.2
def fNot (t1 : FT) : FT := fun δ => (t1 δ).bind fun p => some (!p.1, p.2)
instance {n : Nat} {ra rb : RT} {fa fb : FT} [a : IT n ra fa] [b : IT n rb fb] : IT n (rAnd ra rb) (fAnd fa fb) := ⟨fun hl h => by
  obtain ⟨⟨x, δ1⟩, h1, h⟩ := bnd h
  obtain ⟨l1, q1⟩ := a.h hl h1
  cases x with
  | true => obtain ⟨l2, q2⟩ := b.h l1 h; exact ⟨l2, fun θ τ Q w => q1 θ τ _ (q2 θ τ _ w)⟩
  | false => cases h; exact ⟨l1, fun θ τ Q w => q1 θ τ _ w⟩⟩
instance {n : Nat} {ra rb : RT} {fa fb : FT} [a : IT n ra fa] [b : IT n rb fb] : IT n (DL.rOr ra rb) (fOr fa fb) := ⟨fun hl h => by
  obtain ⟨⟨x, δ1⟩, h1, h⟩ := bnd h
  obtain ⟨l1, q1⟩ := a.h hl h1
  cases x with
  | false => obtain ⟨l2, q2⟩ := b.h l1 h; exact ⟨l2, fun θ τ Q w => q1 θ τ _ (q2 θ τ _ w)⟩
  | true => cases h; exact ⟨l1, fun θ τ Q w => q1 θ τ _ w⟩⟩
instance {n : Nat} {ra : RT} {fa : FT} [a : IT n ra fa] : IT n (DL.rNot ra) (fNot fa) := ⟨fun hl h => by
  obtain ⟨⟨x, δ1⟩, h1, h⟩ := bnd h
  obtain ⟨l1, q1⟩ := a.h hl h1
  cases h
  exact ⟨l1, fun θ τ Q w => q1 θ τ _ w⟩⟩
def fIf (t : FT) (fa fb : FE) : FE := fun δ => (t δ).bind fun p => if p.1 = true then fa p.2 else fb p.2
instance {n : Nat} {t : RT} {ra rb : RE} {ft : FT} {fa fb : FE} [i : IT n t ft] [a : IE n ra fa] [b : IE n rb fb] : IE n (rIf t ra rb) (fIf ft fa fb) := ⟨fun hl h => by
  obtain ⟨⟨x, δ1⟩, h1, h⟩ := bnd h
  obtain ⟨l1, q1⟩ := i.h hl h1
  cases x with
  | true => obtain ⟨l2, q2⟩ := a.h l1 h; exact ⟨l2, fun θ τ Q w => q1 θ τ _ (q2 θ τ _ w)⟩
  | false => obtain ⟨l2, q2⟩ := b.h l1 h; exact ⟨l2, fun θ τ Q w => q1 θ τ _ (q2 θ τ _ w)⟩⟩
def onBlF {β : Type} (k : Bool → Option β) : D → Option β
  | .bl b => k b
  | _ => none
theorem onBl_f {β : Type} {k : Bool → Option β} {d : D} {z : β} (h : onBlF k d = some z) : ∃ b, d = .bl b ∧ k b = some z := by
  cases d with
  | bl b => exact ⟨b, rfl, h⟩
  | _ => cases h
def fAndV (fa fb : FE) : FE := f1 fa fun d δ => onBlF (fun c => if c = true then fb δ else some (.im (.bl false), δ)) d
def fOrV (fa fb : FE) : FE := f1 fa fun d δ => onBlF (fun c => if c = true then some (.im (.bl true), δ) else fb δ) d
def fNotV (fa : FE) : FE := f1 fa fun d δ => onBlF (fun c => some (.im (.bl (!c)), δ)) d
instance {n : Nat} {ra rb : RE} {fa fb : FE} [a : IE n ra fa] [b : IE n rb fb] : IE n (rAndV ra rb) (fAndV fa fb) := ⟨fun hl h => by
  obtain ⟨d, δ1, l1, h, q1⟩ := i1 (ra := ra) hl h
  obtain ⟨c, rfl, h⟩ := onBl_f h
  cases c with
  | true => obtain ⟨l2, q2⟩ := b.h l1 h; exact ⟨l2, fun θ τ Q w => q1 θ τ _ (q2 θ τ _ w)⟩
  | false => cases h; exact ⟨⟨l1, trivial⟩, fun θ τ Q w => q1 θ τ _ w⟩⟩
instance {n : Nat} {ra rb : RE} {fa fb : FE} [a : IE n ra fa] [b : IE n rb fb] : IE n (rOrV ra rb) (fOrV fa fb) := ⟨fun hl h => by
  obtain ⟨d, δ1, l1, h, q1⟩ := i1 (ra := ra) hl h
  obtain ⟨c, rfl, h⟩ := onBl_f h
  cases c with
  | false => obtain ⟨l2, q2⟩ := b.h l1 h; exact ⟨l2, fun θ τ Q w => q1 θ τ _ (q2 θ τ _ w)⟩
  | true => cases h; exact ⟨⟨l1, trivial⟩, fun θ τ Q w => q1 θ τ _ w⟩⟩
instance {n : Nat} {ra : RE} {fa : FE} [a : IE n ra fa] : IE n (rNotV ra) (fNotV fa) := ⟨fun hl h => by
  obtain ⟨d, δ1, l1, h, q1⟩ := i1 (ra := ra) hl h
  obtain ⟨c, rfl, h⟩ := onBl_f h
  cases h
  exact ⟨⟨l1, trivial⟩, fun θ τ Q w => q1 θ τ _ w⟩⟩
def fChain (f g : OpF) (fa fb fc : FE) : FE := f2 fa fb fun d e δ => (f d e).bind fun z => onBlF (fun k => if k = true then f1 fc (fun h δ2 => (g e h).bind fun w => some (.im w, δ2)) δ else some (.im (.bl false), δ)) z
instance {n : Nat} {f g : Op2} {f' g' : OpF} {ra rb rc : RE} {fa fb fc : FE} [o : IOp f f'] [o' : IOp g g'] [a : IE n ra fa] [b : IE n rb fb] [c : IE n rc fc] : IE n (rChain f g ra rb rc) (fChain f' g' fa fb fc) := ⟨fun hl h => by
  obtain ⟨d, e, δ1, l1, h, q1⟩ := i2 (ra := ra) (rb := rb) hl h
  obtain ⟨z, h2, h⟩ := bnd h
  obtain ⟨c, rfl, h⟩ := onBl_f h
  cases c with
  | true =>
    have h : f1 fc (fun h δ2 => (g' e h).bind fun w => some (Rd.im w, δ2)) δ1 = _ := h
    obtain ⟨z, δ2, l2, h, q2⟩ := i1 (ra := rc) l1 h
    obtain ⟨w, h3, h⟩ := bnd h
    cases h
    exact ⟨⟨l2, trivial⟩, fun θ τ Q w => q1 θ τ _ (o.h h2 _ (q2 θ τ _ (o'.h h3 _ w)))⟩
  | false => cases h; exact ⟨⟨l1, trivial⟩, fun θ τ Q w => q1 θ τ _ (o.h h2 _ w)⟩⟩
def blXF (x : Rd) : Option Bool := match x with
  | .im (.bl b) => some b
  | _ => none
def fTst (fa : FE) : FT := fun δ => (fa δ).bind fun p => (blXF p.1).bind fun b => some (b, p.2)
instance {n : Nat} {ra : RE} {fa : FE} [a : IE n ra fa] : IT n (rTst ra) (fTst fa) := ⟨fun hl h => by
  obtain ⟨⟨x, δ1⟩, h1, h⟩ := bnd h
  obtain ⟨⟨l1, b1⟩, q1⟩ := a.h hl h1
  obtain ⟨z, h2, h⟩ := bnd h
  cases h
  refine ⟨l1, fun θ τ Q w => q1 θ τ _ ?_⟩
  cases x with
  | im d => cases d with
    | bl b => cases h2; exact w
    | _ => cases h2
  | _ => cases h2⟩
end DL
end
section
set_option Elab.async false
set_option linter.all false
set_option maxRecDepth 100000
set_option maxHeartbeats 1000000
namespace DL
open PySem L2
section
variable {n : Nat} {ra rb rc : RE} {fa fb fc : FE}
theorem onSome_f {α β : Type} {k : α → Option β} {o : Option α} {z : β} (h : o.bind k = some z) : ∃ a, o = some a ∧ k a = some z := bnd h
theorem onS {α : Type} {k : α → Prop} {o : Option α} {a : α} (h : o = some a) (w : k a) : onSome k o := by rw [h]; exact w
/-! subscripts -/
def gIx : Option D → D → Option D
  | some (.lst xs), .int i => atI xs i
  | some (.wl xs), .int i => atI xs i
  | some (.tup xs), .int i => atI xs i
  | some (.wt xs), .int i => atI xs i
  | some (.str x), .int i => if x.length ≤ sizeLine then (atI x.cps.toList i).bind fun c => some (.str ⟨#[c]⟩) else none
  | some (.dK kvs), d => d.key.bind fun j => kval kvs j
  | some (.dT kvs), .tup ds => (D.keys ds).bind fun j => kval kvs j
  | _, _ => none
theorem gIx_ok {o : Option D} {i z : D} (h : gIx o i = some z) (k : D → Prop) (w : k z) : fIx o i k := by
  cases o with
  | none => cases h
  | some d =>
    cases d with
    | lst xs => cases i with
      | int i => exact onS h w
      | _ => cases h
    | wl xs => cases i with
      | int i => exact onS h w
      | _ => cases h
    | tup xs => cases i with
      | int i => exact onS h w
      | _ => cases h
    | wt xs => cases i with
      | int i => exact onS h w
      | _ => cases h
    | str x => cases i with
      | int i =>
        have h : (if x.length ≤ sizeLine then (atI x.cps.toList i).bind fun c => some (D.str ⟨#[c]⟩) else none) = some z := h
        by_cases c : x.length ≤ sizeLine
        · rw [if_pos c] at h
          obtain ⟨a, h1, h⟩ := bnd h
          cases h
          exact ⟨c, onS h1 w⟩
        · rw [if_neg c] at h; cases h
      | _ => cases h
    | dK kvs =>
      obtain ⟨a, h1, h⟩ := bnd (show i.key.bind (fun j => kval kvs j) = some z from h)
      exact onS h1 (onS h w)
    | dT kvs => cases i with
      | tup ds =>
        obtain ⟨a, h1, h⟩ := bnd (show (D.keys ds).bind (fun j => kval kvs j) = some z from h)
        exact onS h1 (onS h w)
      | _ => cases h
    | _ => cases h
def keepF (q : Bool) (x : Rd) (δ : Env) : Option (Rd × Env) := match x with
  | .im d => some (.im d, δ)
  | .vr j => some (.vr j, δ)
  | .at j f => if q = true then some (.at j f, δ) else none
  | .tm o => (imOF δ o).bind fun p => some (.im p.1, p.2)
theorem keep_f {q : Bool} {x x' : Rd} {δ δ' : Env} (hb : x.bd n) (hl : δ.length = n) (h : keepF q x δ = some (x', δ')) :
    (δ'.length = n ∧ x'.bd n) ∧ ∀ (θ : Nat → V) (τ : Env) (k : Rd → Env → Prop), k x' (inst θ δ' ++ τ) → keepR q x (inst θ δ ++ τ) k := by
  cases x with
  | im d => cases h; exact ⟨⟨hl, hb⟩, fun _ _ _ w => w⟩
  | vr j => cases h; exact ⟨⟨hl, hb⟩, fun _ _ _ w => w⟩
  | «at» j f =>
    have h : (if q = true then some (Rd.at j f, δ) else none) = some (x', δ') := h
    by_cases c : q = true
    · rw [if_pos c] at h; cases h; exact ⟨⟨hl, hb⟩, fun _ _ _ w => ⟨c, w⟩⟩
    · rw [if_neg c] at h; cases h
  | tm o =>
    obtain ⟨⟨d, δ1⟩, h1, h⟩ := bnd h
    cases h
    obtain ⟨rfl, w⟩ := imO_f h1
    exact ⟨⟨hl, trivial⟩, fun θ τ k q => w _ (fun d δ' => k (.im d) δ') q⟩
def fIxE (q : Bool) (fa fb : FE) : FE := fun δ => (fa δ).bind fun p => (keepF q p.1 p.2).bind fun p' => f1 fb (fun i δ3 => (gIx (vw δ3 p'.1) i).bind fun z => some (.im z, δ3)) p'.2
instance {q : Bool} [a : IE n ra fa] [b : IE n rb fb] : IE n (rIxE q ra rb) (fIxE q fa fb) := ⟨fun hl h => by
  obtain ⟨⟨x, δ1⟩, h1, h⟩ := bnd h
  obtain ⟨⟨l1, b1⟩, q1⟩ := a.h hl h1
  obtain ⟨⟨x', δ2⟩, h2, h⟩ := bnd h
  obtain ⟨⟨l2, b2⟩, q2⟩ := keep_f b1 l1 h2
  obtain ⟨d, δ3, l3, h, q3⟩ := i1 (ra := rb) l2 h
  obtain ⟨z, h3, h⟩ := bnd h
  cases h
  refine ⟨⟨l3, trivial⟩, fun θ τ Q w => q1 θ τ _ (q2 θ τ _ (q3 θ τ _ ?_))⟩
  show fIx (vw _ x') _ _
  rw [vw_inst b2 l3]
  exact gIx_ok h3 _ w⟩
/-! in -/
def gIn (g : Bool → Bool) : Option D → D → Option D
  | some (.lst xs), d => if d.ok ∧ (D.lst xs).ok then some (.bl (g (xs.any fun z => z.eqv d))) else none
  | some (.tup xs), d => if d.flat = true ∧ xs.all D.flat = true then some (.bl (g (xs.any fun z => z.eqv d))) else none
  | some (.wt xs), d => if d.flat = true ∧ xs.all D.flat = true then some (.bl (g (xs.any fun z => z.eqv d))) else none
  | some (.dK kvs), d => d.key.bind fun j => some (.bl (g (kval kvs j).isSome))
  | some (.dT kvs), .tup ds => (D.keys ds).bind fun j => some (.bl (g (kval kvs j).isSome))
  | _, _ => none
theorem gIn_ok {g : Bool → Bool} {o : Option D} {i z : D} (h : gIn g o i = some z) (k : D → Prop) (w : k z) : fIn g o i k := by
  cases o with
  | none => cases h
  | some d =>
    cases d with
    | lst xs =>
      have h : (if i.ok ∧ (D.lst xs).ok then some (D.bl (g (xs.any fun z => z.eqv i))) else none) = some z := h
      by_cases c : i.ok ∧ (D.lst xs).ok
      · rw [if_pos c] at h; cases h; exact ⟨c.1, c.2, w⟩
      · rw [if_neg c] at h; cases h
    | tup xs =>
      have h : (if i.flat = true ∧ xs.all D.flat = true then some (D.bl (g (xs.any fun z => z.eqv i))) else none) = some z := h
      by_cases c : i.flat = true ∧ xs.all D.flat = true
      · rw [if_pos c] at h; cases h; exact ⟨c.1, c.2, w⟩
      · rw [if_neg c] at h; cases h
    | wt xs =>
      have h : (if i.flat = true ∧ xs.all D.flat = true then some (D.bl (g (xs.any fun z => z.eqv i))) else none) = some z := h
      by_cases c : i.flat = true ∧ xs.all D.flat = true
      · rw [if_pos c] at h; cases h; exact ⟨c.1, c.2, w⟩
      · rw [if_neg c] at h; cases h
    | dK kvs =>
      obtain ⟨a, h1, h⟩ := bnd (show i.key.bind (fun j => some (D.bl (g (kval kvs j).isSome))) = some z from h)
      cases h
      exact onS h1 w
    | dT kvs => cases i with
      | tup ds =>
        obtain ⟨a, h1, h⟩ := bnd (show (D.keys ds).bind (fun j => some (D.bl (g (kval kvs j).isSome))) = some z from h)
        cases h
        exact onS h1 w
      | _ => cases h
    | _ => cases h
def fInE (g : Bool → Bool) (fa fb : FE) : FE := f2v fa fb fun d y δ => (gIn g (vw δ y) d).bind fun z => some (.im z, δ)
instance {g : Bool → Bool} [a : IE n ra fa] [b : IE n rb fb] : IE n (rIn g ra rb) (fInE g fa fb) := ⟨fun hl h => by
  obtain ⟨d, y, δ1, l1, b1, h, q1⟩ := i2v (ra := ra) (rb := rb) hl h
  obtain ⟨z, h1, h⟩ := bnd h
  cases h
  refine ⟨⟨l1, trivial⟩, fun θ τ Q w => q1 θ τ _ ?_⟩
  rw [vw_inst b1 l1]
  exact gIn_ok h1 _ w⟩
/-! + and * -/
def gPlus : D → Option D → Option Rd
  | .int i, some (.int j) => some (.im (.int (i + j)))
  | .str x, some (.str y) => if x.length + y.length ≤ sizeLine then some (.im (.str (x ++ y))) else none
  | .lst xs, some (.lst ys) => if xs.length + ys.length ≤ sizeLine then some (.tm (.ob (.lst (xs ++ ys)))) else none
  | .tup xs, some (.tup ys) => if xs.length + ys.length ≤ sizeLine then some (.im (.tup (xs ++ ys))) else none
  | _, _ => none
theorem gPlus_ok {d : D} {o : Option D} {x : Rd} (h : gPlus d o = some x) : x.bd n ∧ ∀ (δ : Env) (Q : Rd → Env → Prop), Q x δ → fPlus δ Q d o := by
  cases o with
  | none => cases d <;> cases h
  | some e =>
    cases d with
    | int i => cases e with
      | int j => cases h; exact ⟨trivial, fun _ _ w => w⟩
      | _ => cases h
    | str a => cases e with
      | str b =>
        have h : (if a.length + b.length ≤ sizeLine then some (Rd.im (.str (a ++ b))) else none) = some x := h
        by_cases c : a.length + b.length ≤ sizeLine
        · rw [if_pos c] at h; cases h; exact ⟨trivial, fun _ _ w => ⟨c, w⟩⟩
        · rw [if_neg c] at h; cases h
      | _ => cases h
    | lst a => cases e with
      | lst b =>
        have h : (if a.length + b.length ≤ sizeLine then some (Rd.tm (.ob (.lst (a ++ b)))) else none) = some x := h
        by_cases c : a.length + b.length ≤ sizeLine
        · rw [if_pos c] at h; cases h; exact ⟨trivial, fun _ _ w => ⟨c, w⟩⟩
        · rw [if_neg c] at h; cases h
      | _ => cases h
    | tup a => cases e with
      | tup b =>
        have h : (if a.length + b.length ≤ sizeLine then some (Rd.im (.tup (a ++ b))) else none) = some x := h
        by_cases c : a.length + b.length ≤ sizeLine
        · rw [if_pos c] at h; cases h; exact ⟨trivial, fun _ _ w => ⟨c, w⟩⟩
        · rw [if_neg c] at h; cases h
      | _ => cases h
    | _ => cases h
def fPlusE (fa fb : FE) : FE := f2v fa fb fun d y δ => (gPlus d (vw δ y)).bind fun x => some (x, δ)
instance [a : IE n ra fa] [b : IE n rb fb] : IE n (rPlus ra rb) (fPlusE fa fb) := ⟨fun hl h => by
  obtain ⟨d, y, δ1, l1, b1, h, q1⟩ := i2v (ra := ra) (rb := rb) hl h
  obtain ⟨z, h1, h⟩ := bnd h
  cases h
  obtain ⟨b2, q2⟩ := gPlus_ok (n := n) h1
  refine ⟨⟨l1, b2⟩, fun θ τ Q w => q1 θ τ _ ?_⟩
  rw [vw_inst b1 l1]
  exact q2 _ _ w⟩
def gTimes : D → D → Option Rd
  | .int i, .int j => if CMulX i j then some (.im (.int (i * j))) else none
  | .lst xs, .int k => if -(2 ^ 63) ≤ k ∧ k < 2 ^ 63 ∧ xs.length * k.toNat ≤ sizeLine then some (.tm (.ob (.lst (List.replicate k.toNat xs).flatten))) else none
  | _, _ => none
theorem gTimes_ok {d e : D} {x : Rd} (h : gTimes d e = some x) : x.bd n ∧ ∀ (δ : Env) (Q : Rd → Env → Prop), Q x δ → fTimes δ Q d e := by
  cases d with
  | int i => cases e with
    | int j =>
      have h : (if CMulX i j then some (Rd.im (.int (i * j))) else none) = some x := h
      by_cases c : CMulX i j
      · rw [if_pos c] at h; cases h; exact ⟨trivial, fun _ _ w => ⟨c, w⟩⟩
      · rw [if_neg c] at h; cases h
    | _ => cases h
  | lst xs => cases e with
    | int k =>
      have h : (if -(2 ^ 63) ≤ k ∧ k < 2 ^ 63 ∧ xs.length * k.toNat ≤ sizeLine then some (Rd.tm (.ob (.lst (List.replicate k.toNat xs).flatten))) else none) = some x := h
      by_cases c : -(2 ^ 63) ≤ k ∧ k < 2 ^ 63 ∧ xs.length * k.toNat ≤ sizeLine
      · rw [if_pos c] at h; cases h; exact ⟨trivial, fun _ _ w => ⟨c.1, c.2.1, c.2.2, w⟩⟩
      · rw [if_neg c] at h; cases h
    | _ => cases h
  | _ => cases h
def fTimesE (fa fb : FE) : FE := f2 fa fb fun d e δ => (gTimes d e).bind fun x => some (x, δ)
instance [a : IE n ra fa] [b : IE n rb fb] : IE n (rTimes ra rb) (fTimesE fa fb) := ⟨fun hl h => by
  obtain ⟨d, e, δ1, l1, h, q1⟩ := i2 (ra := ra) (rb := rb) hl h
  obtain ⟨z, h1, h⟩ := bnd h
  cases h
  obtain ⟨b2, q2⟩ := gTimes_ok (n := n) h1
  exact ⟨⟨l1, b2⟩, fun θ τ Q w => q1 θ τ _ (q2 _ _ w)⟩⟩
/-! arguments, displays -/
def faNil : FA := fun δ => some ([], δ)
def faCons (fa : FE) (fs : FA) : FA := f1 fa fun d δ => (fs δ).bind fun p => some (d :: p.1, p.2)
variable {rs : RA} {fs : FA}
instance : IA n aNil faNil := ⟨fun hl h => by cases h; exact ⟨hl, fun _ _ _ w => w⟩⟩
instance : IA n (fun δ Q => Q [] δ) faNil := ⟨fun hl h => by cases h; exact ⟨hl, fun _ _ _ w => w⟩⟩
instance [a : IE n ra fa] [b : IA n rs fs] : IA n (aCons ra rs) (faCons fa fs) := ⟨fun hl h => by
  obtain ⟨d, δ1, l1, h, q1⟩ := i1 (ra := ra) hl h
  obtain ⟨⟨ds, δ2⟩, h1, h⟩ := bnd h
  cases h
  obtain ⟨l2, q2⟩ := b.h l1 h1
  exact ⟨l2, fun θ τ Q w => q1 θ τ _ (q2 θ τ _ w)⟩⟩
def fTup (fs : FA) : FE := fun δ => (fs δ).bind fun p => if p.1.length ≤ sizeLine then some (.im (.tup p.1), p.2) else none
def fLst (fs : FA) : FE := fun δ => (fs δ).bind fun p => if p.1.length ≤ sizeLine then some (.tm (.ob (.lst p.1)), p.2) else none
instance [b : IA n rs fs] : IE n (rTup rs) (fTup fs) := ⟨fun {δ x δ'} hl h => by
  obtain ⟨⟨ds, δ1⟩, h1, h⟩ := bnd h
  obtain ⟨l1, q1⟩ := b.h hl h1
  by_cases c : ds.length ≤ sizeLine
  · rw [if_pos c] at h; cases h; exact ⟨⟨l1, trivial⟩, fun θ τ Q w => q1 θ τ _ ⟨c, w⟩⟩
  · rw [if_neg c] at h; cases h⟩
instance [b : IA n rs fs] : IE n (rLst rs) (fLst fs) := ⟨fun {δ x δ'} hl h => by
  obtain ⟨⟨ds, δ1⟩, h1, h⟩ := bnd h
  obtain ⟨l1, q1⟩ := b.h hl h1
  by_cases c : ds.length ≤ sizeLine
  · rw [if_pos c] at h; cases h; exact ⟨⟨l1, trivial⟩, fun θ τ Q w => q1 θ τ _ ⟨c, w⟩⟩
  · rw [if_neg c] at h; cases h⟩
def fNewK : FE := fun δ => some (.tm (.ob (.dK [])), δ)
def fNewT : FE := fun δ => some (.tm (.ob (.dT [])), δ)
instance : IE n rNewK fNewK := ⟨fun hl h => by cases h; exact ⟨⟨hl, trivial⟩, fun _ _ _ w => w⟩⟩
instance : IE n rNewT fNewT := ⟨fun hl h => by cases h; exact ⟨⟨hl, trivial⟩, fun _ _ _ w => w⟩⟩
/-! slices -/
def onIntF {β : Type} (k : Int → Option β) : D → Option β
  | .int i => k i
  | _ => none
theorem onInt_f {β : Type} {k : Int → Option β} {d : D} {z : β} (h : onIntF k d = some z) : ∃ i, d = .int i ∧ k i = some z := by
  cases d with
  | int i => exact ⟨i, rfl, h⟩
  | _ => cases h
def foNo : FO := fun δ => some (none, δ)
def foAt (fa : FE) : FO := f1 fa fun d δ => onIntF (fun i => some (some i, δ)) d
instance : IO n oNo foNo := ⟨fun hl h => by cases h; exact ⟨hl, fun _ _ _ w => w⟩⟩
instance [a : IE n ra fa] : IO n (oAt ra) (foAt fa) := ⟨fun hl h => by
  obtain ⟨d, δ1, l1, h, q1⟩ := i1 (ra := ra) hl h
  obtain ⟨i, rfl, h⟩ := onInt_f h
  cases h
  exact ⟨l1, fun θ τ Q w => q1 θ τ _ w⟩⟩
def gSl (lo hi : Option Int) : Option D → Option Rd
  | some (.lst xs) => some (.tm (.ob (.lst (cutD xs lo hi))))
  | some (.wl xs) => some (.tm (.ob (.lst (cutD xs lo hi))))
  | some (.tup xs) => some (.im (.tup (cutD xs lo hi)))
  | some (.str z) => if z.length ≤ sizeLine then some (.im (.str (cutS z lo hi))) else none
  | _ => none
theorem gSl_ok {lo hi : Option Int} {o : Option D} {x : Rd} (h : gSl lo hi o = some x) : x.bd n ∧ ∀ (δ : Env) (Q : Rd → Env → Prop), Q x δ → slX δ lo hi Q o := by
  cases o with
  | none => cases h
  | some d => cases d with
    | str z =>
      have h : (if z.length ≤ sizeLine then some (Rd.im (.str (cutS z lo hi))) else none) = some x := h
      by_cases c : z.length ≤ sizeLine
      · rw [if_pos c] at h; cases h; exact ⟨trivial, fun _ _ w => ⟨c, w⟩⟩
      · rw [if_neg c] at h; cases h
    | lst xs => cases h; exact ⟨trivial, fun _ _ w => w⟩
    | wl xs => cases h; exact ⟨trivial, fun _ _ w => w⟩
    | tup xs => cases h; exact ⟨trivial, fun _ _ w => w⟩
    | _ => cases h
def fSlE (q : Bool) (fa : FE) (fo fo' : FO) : FE := fun δ => (fa δ).bind fun p => (keepF q p.1 p.2).bind fun p' => (fo p'.2).bind fun l => (fo' l.2).bind fun h => (gSl l.1 h.1 (vw h.2 p'.1)).bind fun x => some (x, h.2)
instance {q : Bool} {ro ro' : RO} {fo fo' : FO} [a : IE n ra fa] [b : IO n ro fo] [c : IO n ro' fo'] : IE n (rSlE q ra ro ro') (fSlE q fa fo fo') := ⟨fun hl h => by
  obtain ⟨⟨x, δ1⟩, h1, h⟩ := bnd h
  obtain ⟨⟨l1, b1⟩, q1⟩ := a.h hl h1
  obtain ⟨⟨x', δ2⟩, h2, h⟩ := bnd h
  obtain ⟨⟨l2, b2⟩, q2⟩ := keep_f b1 l1 h2
  obtain ⟨⟨lo, δ3⟩, h3, h⟩ := bnd h
  obtain ⟨l3, q3⟩ := b.h l2 h3
  obtain ⟨⟨hi, δ4⟩, h4, h⟩ := bnd h
  obtain ⟨l4, q4⟩ := c.h l3 h4
  obtain ⟨z, h5, h⟩ := bnd h
  cases h
  obtain ⟨b5, q5⟩ := gSl_ok (n := n) h5
  refine ⟨⟨l4, b5⟩, fun θ τ Q w => q1 θ τ _ (q2 θ τ _ (q3 θ τ _ (q4 θ τ _ ?_)))⟩
  rw [vw_inst b2 l4]
  exact q5 _ _ w⟩
def fBits (fa : FE) : FE := f1 fa fun d δ => onIntF (fun i => some (.im (.int (Builtin.Int.intBits i : Nat)), δ)) d
instance [a : IE n ra fa] : IE n (rBits ra) (fBits fa) := ⟨fun hl h => by
  obtain ⟨d, δ1, l1, h, q1⟩ := i1 (ra := ra) hl h
  obtain ⟨i, rfl, h⟩ := onInt_f h
  cases h
  exact ⟨⟨l1, trivial⟩, fun θ τ Q w => q1 θ τ _ w⟩⟩
def fNeg (fa : FE) : FE := f1 fa fun d δ => onIntF (fun i => some (.im (.int (-i)), δ)) d
instance [a : IE n ra fa] : IE n (rNeg ra) (fNeg fa) := ⟨fun hl h => by
  obtain ⟨d, δ1, l1, h, q1⟩ := i1 (ra := ra) hl h
  obtain ⟨i, rfl, h⟩ := onInt_f h
  cases h
  exact ⟨⟨l1, trivial⟩, fun θ τ Q w => q1 θ τ _ w⟩⟩
/-! dict(pairs), min, max, get -/
def gDict : Option D → Option Ow
  | some (.lst xs) => (pairsD xs).bind fun kvs => some (.ob (.dK (kmerge [] kvs)))
  | some (.wl xs) => (pairsD xs).bind fun kvs => some (.ob (.dK (kmerge [] kvs)))
  | _ => none
def fDictOf (fa : FE) : FE := fun δ => (fa δ).bind fun p => (gDict (vw p.2 p.1)).bind fun o => some (.tm o, p.2)
instance [a : IE n ra fa] : IE n (rDictOf ra) (fDictOf fa) := ⟨fun hl h => by
  obtain ⟨⟨x, δ1⟩, h1, h⟩ := bnd h
  obtain ⟨⟨l1, b1⟩, q1⟩ := a.h hl h1
  obtain ⟨z, h2, h⟩ := bnd h
  cases h
  refine ⟨⟨l1, trivial⟩, fun θ τ Q w => q1 θ τ _ ?_⟩
  rw [vw_inst b1 l1]
  revert h2
  cases vw δ1 x with
  | none => intro h2; cases h2
  | some d => cases d with
    | lst xs => intro h2; obtain ⟨kvs, h3, h2⟩ := bnd h2; cases h2; exact onS h3 w
    | wl xs => intro h2; obtain ⟨kvs, h3, h2⟩ := bnd h2; cases h2; exact onS h3 w
    | _ => intro h2; cases h2⟩
def onPairF {β : Type} (k : Int → Int → Option β) : List D → Option β
  | [.int i, .int j] => k i j
  | _ => none
theorem onPair_f {β : Type} {k : Int → Int → Option β} {d : List D} {z : β} (h : onPairF k d = some z) : ∃ i j, d = [.int i, .int j] ∧ k i j = some z := by
  unfold onPairF at h
  split at h
  · exact ⟨_, _, rfl, h⟩
  · cases h
def fMin2 (fs : FA) : FE := fun δ => (fs δ).bind fun p => onPairF (fun i j => some (.im (.int (if j < i then j else i)), p.2)) p.1
def fMax2 (fs : FA) : FE := fun δ => (fs δ).bind fun p => onPairF (fun i j => some (.im (.int (if j > i then j else i)), p.2)) p.1
instance [b : IA n rs fs] : IE n (DL.rMin2 rs) (fMin2 fs) := ⟨fun {δ x δ'} hl h => by
  obtain ⟨⟨ds, δ1⟩, h1, h⟩ := bnd h
  obtain ⟨l1, q1⟩ := b.h hl h1
  obtain ⟨i, j, e, h⟩ := onPair_f h
  cases h
  have e : ds = _ := e
  exact ⟨⟨l1, trivial⟩, fun θ τ Q w => q1 θ τ _ (by rw [e]; exact w)⟩⟩
instance [b : IA n rs fs] : IE n (DL.rMax2 rs) (fMax2 fs) := ⟨fun {δ x δ'} hl h => by
  obtain ⟨⟨ds, δ1⟩, h1, h⟩ := bnd h
  obtain ⟨l1, q1⟩ := b.h hl h1
  obtain ⟨i, j, e, h⟩ := onPair_f h
  cases h
  have e : ds = _ := e
  exact ⟨⟨l1, trivial⟩, fun θ τ Q w => q1 θ τ _ (by rw [e]; exact w)⟩⟩
def isDctF : Option D → Bool
  | some (.dK _) => true
  | some (.dT _) => true
  | _ => false
def gGet : Option D → D → D → Option D
  | some (.dK kvs), i, z => i.key.bind fun j => some ((kval kvs j).getD z)
  | some (.dT kvs), .tup is, z => (D.keys is).bind fun j => some ((kval kvs j).getD z)
  | _, _, _ => none
theorem gGet_ok {o : Option D} {i z d : D} (h : gGet o i z = some d) (k : D → Prop) (w : k d) : getX k o i z := by
  cases o with
  | none => cases h
  | some e => cases e with
    | dK kvs => obtain ⟨j, h5, h⟩ := bnd (show i.key.bind (fun j => some ((kval kvs j).getD z)) = _ from h); cases h; exact onS h5 w
    | dT kvs => cases i with
      | tup is => obtain ⟨j, h5, h⟩ := bnd (show (D.keys is).bind (fun j => some ((kval kvs j).getD z)) = _ from h); cases h; exact onS h5 w
      | _ => cases h
    | _ => cases h
def fGet2 (q : Bool) (fa fb fc : FE) : FE := fun δ => (fa δ).bind fun p => (keepF q p.1 p.2).bind fun p' => if isDctF (vw p'.2 p'.1) = true then f2 fb fc (fun i z δ3 => (gGet (vw δ3 p'.1) i z).bind fun d => some (.im d, δ3)) p'.2 else none
instance {q : Bool} [a : IE n ra fa] [b : IE n rb fb] [c : IE n rc fc] : IE n (rGet2 q ra rb rc) (fGet2 q fa fb fc) := ⟨fun {δ y δ'} hl h => by
  obtain ⟨⟨x, δ1⟩, h1, h⟩ := bnd h
  obtain ⟨⟨l1, b1⟩, q1⟩ := a.h hl h1
  obtain ⟨⟨x', δ2⟩, h2, h⟩ := bnd h
  obtain ⟨⟨l2, b2⟩, q2⟩ := keep_f b1 l1 h2
  by_cases cd : isDctF (vw δ2 x') = true
  · rw [if_pos cd] at h
    obtain ⟨i, z, δ3, l3, h, q3⟩ := i2 (ra := rb) (rb := rc) l2 h
    obtain ⟨w, h4, h⟩ := bnd h
    cases h
    refine ⟨⟨l3, trivial⟩, fun θ τ Q w => q1 θ τ _ (q2 θ τ _ ⟨?_, q3 θ τ _ ?_⟩)⟩
    · rw [vw_inst b2 l2]
      revert cd
      cases vw δ2 x' with
      | none => intro cd; cases cd
      | some d => cases d <;> (intro cd; first | exact trivial | cases cd)
    · rw [vw_inst b2 l3]
      exact gGet_ok h4 _ w
  · rw [if_neg cd] at h; cases h⟩
end
end DL
end
section
set_option Elab.async false
set_option linter.all false
set_option maxRecDepth 100000
set_option maxHeartbeats 1000000
namespace DL
open PySem L2
section
variable {n : Nat} {ra rb rc : RE} {fa fb fc : FE} {rs : RA} {fs : FA}
/-! ### methods of built-in types -/
theorem obAt_inst {x : Rd} {δ : Env} (hb : x.bd n) (hl : δ.length = n) (θ : Nat → V) (τ : Env) : obAt (inst θ δ ++ τ) x = obAt δ x := by
  cases x with
  | im d => rfl
  | tm o => rfl
  | vr j =>
    show obV _ = obV _
    rw [sGet hl hb]
    cases e : δ[j]? with
    | none => rfl
    | some s => cases s <;> rfl
  | «at» j f =>
    show obI f _ = obI f _
    rw [sGet hl hb]
    cases e : δ[j]? with
    | none => rfl
    | some s => cases s <;> rfl
theorem setOb_inst {x : Rd} {δ : Env} (hb : x.bd n) (hl : δ.length = n) (o : Ob) : (setOb δ x o).length = n ∧ ∀ (θ : Nat → V) (τ : Env), setOb (inst θ δ ++ τ) x o = inst θ (setOb δ x o) ++ τ := by
  cases x with
  | im d => exact ⟨hl, fun _ _ => rfl⟩
  | tm o => exact ⟨hl, fun _ _ => rfl⟩
  | vr j =>
    have e0 : setOb δ (.vr j) o = setV δ j o δ[j]? := rfl
    have e1 : ∀ (θ : Nat → V) (τ : Env), setOb (inst θ δ ++ τ) (.vr j) o = setV (inst θ δ ++ τ) j o (δ[j]?.map (instS (θ j))) := fun θ τ => by
      show setV _ _ _ _ = _
      rw [sGet hl hb]
    cases e : δ[j]? with
    | none => rw [e0]; simp only [e1]; rw [e]; exact ⟨hl, fun _ _ => rfl⟩
    | some s =>
      rw [e0]; simp only [e1]; rw [e]
      cases s with
      | ow p o' => exact ⟨by show (δ.set j _).length = n; rw [List.length_set]; exact hl, fun θ τ => sSet hl hb fun _ => rfl⟩
      | _ => exact ⟨hl, fun _ _ => rfl⟩
  | «at» j f =>
    have e0 : setOb δ (.at j f) o = setI δ j f o δ[j]? := rfl
    have e1 : ∀ (θ : Nat → V) (τ : Env), setOb (inst θ δ ++ τ) (.at j f) o = setI (inst θ δ ++ τ) j f o (δ[j]?.map (instS (θ j))) := fun θ τ => by
      show setI _ _ _ _ _ = _
      rw [sGet hl hb]
    cases e : δ[j]? with
    | none => rw [e0]; simp only [e1]; rw [e]; exact ⟨hl, fun _ _ => rfl⟩
    | some s =>
      rw [e0]; simp only [e1]; rw [e]
      cases s with
      | ow p o' => cases o' with
        | ob o' => exact ⟨hl, fun _ _ => rfl⟩
        | ins C fs => exact ⟨by show (δ.set j _).length = n; rw [List.length_set]; exact hl, fun θ τ => sSet hl hb fun _ => rfl⟩
      | _ => exact ⟨hl, fun _ _ => rfl⟩
abbrev MtF := Ob → List D → Option (Ob × D)
class IM (f : MtD) (g : outParam MtF) : Prop where
  h : ∀ {ob : Ob} {ds : List D} {ob' : Ob} {d : D}, g ob ds = some (ob', d) → ∀ (k : Ob → D → Prop), k ob' d → f ob ds k
def staysB (q : Bool) : Rd → Bool
  | .vr _ => true
  | .at _ _ => q
  | _ => false
theorem stays_b {q : Bool} {x : Rd} (h : staysB q x = true) : stays q x := by
  cases x with
  | vr j => trivial
  | «at» j f => exact h
  | _ => cases h
def okB : OK → Option Ob → Bool
  | .lst, some (.lst _) => true
  | .dct, some (.dK _) => true
  | .dct, some (.dT _) => true
  | _, _ => false
theorem ok_b {t : OK} {o : Option Ob} (h : okB t o = true) : t.of o := by
  cases t with
  | lst => cases o with
    | none => cases h
    | some o => cases o with
      | lst xs => trivial
      | _ => cases h
  | dct => cases o with
    | none => cases h
    | some o => cases o with
      | lst xs => cases h
      | _ => trivial
def fMt (t : OK) (g : MtF) (q : Bool) (fa : FE) (fs : FA) : FE := fun δ => (fa δ).bind fun p => if staysB q p.1 = true ∧ okB t (obAt p.2 p.1) = true then (fs p.2).bind fun a => (obAt a.2 p.1).bind fun ob => (g ob a.1).bind fun r => some (.im r.2, setOb a.2 p.1 r.1) else none
instance {t : OK} {f : MtD} {g : MtF} {q : Bool} [m : IM f g] [a : IE n ra fa] [b : IA n rs fs] : IE n (rMt t f q ra rs) (fMt t g q fa fs) := ⟨fun {δ y δ'} hl h => by
  obtain ⟨⟨x, δ1⟩, h1, h⟩ := bnd h
  obtain ⟨⟨l1, b1⟩, q1⟩ := a.h hl h1
  by_cases c : staysB q x = true ∧ okB t (obAt δ1 x) = true
  · rw [if_pos c] at h
    obtain ⟨⟨ds, δ2⟩, h2, h⟩ := bnd h
    obtain ⟨l2, q2⟩ := b.h l1 h2
    obtain ⟨ob, h3, h⟩ := bnd h
    obtain ⟨⟨ob', d⟩, h4, h⟩ := bnd h
    cases h
    obtain ⟨l5, e5⟩ := setOb_inst b1 l2 ob'
    refine ⟨⟨l5, trivial⟩, fun θ τ Q w => q1 θ τ _ ⟨stays_b c.1, ?_, q2 θ τ _ ?_⟩⟩
    · rw [obAt_inst b1 l1]; exact ok_b c.2
    · rw [obAt_inst b1 l2]
      exact onS h3 (m.h h4 _ (by rw [e5]; exact w))
  · rw [if_neg c] at h; cases h⟩
def gAppend : MtF
  | .lst xs, [d] => if xs.length < sizeLine then some (.lst (xs ++ [d]), .non) else none
  | _, _ => none
instance : IM mAppend gAppend := ⟨fun {ob ds ob' d} h k w => by
  unfold gAppend at h
  split at h
  · split at h
    · rename_i c; cases h; exact ⟨c, w⟩
    · cases h
  · cases h⟩
def gPop : MtF
  | .lst xs, [] => (xs[xs.length - 1]?).bind fun y => some (.lst xs.dropLast, y)
  | _, _ => none
instance : IM mPop gPop := ⟨fun {ob ds ob' d} h k w => by
  unfold gPop at h
  split at h
  · obtain ⟨y, h1, h⟩ := bnd h
    cases h
    exact onS h1 w
  · cases h⟩
def gPopAt : MtF
  | .lst xs, [.int i] => if -(2 ^ 63) ≤ i ∧ i < 2 ^ 63 then (seqIndex? i xs.length).bind fun j => (xs[j]?).bind fun y => some (.lst (xs.eraseIdx j), y) else none
  | _, _ => none
instance : IM mPopAt gPopAt := ⟨fun {ob ds ob' d} h k w => by
  unfold gPopAt at h
  split at h
  · split at h
    · rename_i c
      obtain ⟨j, h1, h⟩ := bnd h
      obtain ⟨y, h2, h⟩ := bnd h
      cases h
      exact ⟨c.1, c.2, onS h1 (onS h2 w)⟩
    · cases h
  · cases h⟩
def gReverse : MtF
  | .lst xs, [] => some (.lst xs.reverse, .non)
  | _, _ => none
instance : IM mReverse gReverse := ⟨fun {ob ds ob' d} h k w => by
  unfold gReverse at h
  split at h
  · cases h; exact w
  · cases h⟩
def gExtend : MtF
  | .lst xs, [.lst ys] => if xs.length + ys.length ≤ sizeLine then some (.lst (xs ++ ys), .non) else none
  | _, _ => none
instance : IM mExtend gExtend := ⟨fun {ob ds ob' d} h k w => by
  unfold gExtend at h
  split at h
  · split at h
    · rename_i c; cases h; exact ⟨c, w⟩
    · cases h
  · cases h⟩
/-! list(d.items()) -/
def dkOf : Option Ob → Option (List (Key × D))
  | some (.dK kvs) => some kvs
  | _ => none
theorem dk_of {o : Option Ob} {kvs : List (Key × D)} (h : dkOf o = some kvs) : o = some (.dK kvs) := by
  cases o with
  | none => cases h
  | some o => cases o with
    | dK k => cases h; rfl
    | _ => cases h
def fItL (fa : FE) : FE := fun δ => (fa δ).bind fun p => if staysB true p.1 = true then (dkOf (obAt p.2 p.1)).bind fun kvs => some (.tm (.ob (.lst (itemsD kvs))), p.2) else none
instance [a : IE n ra fa] : IE n (rItL ra) (fItL fa) := ⟨fun {δ y δ'} hl h => by
  obtain ⟨⟨x, δ1⟩, h1, h⟩ := bnd h
  obtain ⟨⟨l1, b1⟩, q1⟩ := a.h hl h1
  by_cases c : staysB true x = true
  · rw [if_pos c] at h
    obtain ⟨kvs, h2, h⟩ := bnd h
    cases h
    refine ⟨⟨l1, trivial⟩, fun θ τ Q w => q1 θ τ _ ⟨stays_b c, ?_⟩⟩
    rw [obAt_inst b1 l1, dk_of h2]
    exact w
  · rw [if_neg c] at h; cases h⟩
/-! ### fields -/
def fSF (C : Addr) (f : Str) (j : Nat) : Option Slot → Option Rd
  | some (.ow _ (.ins C' fs)) => if C' = C then (match fs.lookup f with
    | some (.im d) => some (.im d)
    | some (.ob _) => some (.at j f)
    | none => none) else none
  | _ => none
def fOF (C : Addr) (f : Str) : D → Option Rd
  | .obj C' fs => if C' = C then (fs.lookup f).bind fun d => some (.im d) else none
  | _ => none
def fTF (C : Addr) (f : Str) : Ow → Option Rd
  | .ins C' fs => if C' = C then (match fs.lookup f with
    | some (.im d) => some (.im d)
    | _ => none) else none
  | _ => none
def fXF (C : Addr) (f : Str) (x : Rd) (δ : Env) : Option Rd := match x with
  | .vr j => fSF C f j δ[j]?
  | .im d => fOF C f d
  | .tm o => fTF C f o
  | _ => none
theorem fX_f {C : Addr} {f : Str} {x y : Rd} {δ : Env} (hb : x.bd n) (hl : δ.length = n) (h : fXF C f x δ = some y) : y.bd n ∧ ∀ (θ : Nat → V) (τ : Env) (k : Rd → Prop), k y → fX C f x (inst θ δ ++ τ) k := by
  cases x with
  | «at» j f => cases h
  | im d => cases d with
    | obj C' fs =>
      have h : (if C' = C then (fs.lookup f).bind fun d => some (Rd.im d) else none) = some y := h
      by_cases c : C' = C
      · rw [if_pos c] at h
        obtain ⟨d, h1, h⟩ := bnd h
        cases h
        refine ⟨trivial, fun θ τ k w => ⟨c, ?_⟩⟩
        rw [h1]; exact w
      · rw [if_neg c] at h; cases h
    | _ => cases h
  | tm o => cases o with
    | ob o => cases h
    | ins C' fs =>
      have h : (if C' = C then (match fs.lookup f with
        | some (.im d) => some (Rd.im d)
        | _ => none) else none) = some y := h
      by_cases c : C' = C
      · rw [if_pos c] at h
        cases e : fs.lookup f with
        | none => rw [e] at h; cases h
        | some v => rw [e] at h; cases v with
          | ob o => cases h
          | im d => cases h; exact ⟨trivial, fun θ τ k w => ⟨c, by rw [e]; exact w⟩⟩
      · rw [if_neg c] at h; cases h
  | vr j =>
    have h : fSF C f j δ[j]? = some y := h
    have go : ∀ (θ : Nat → V) (τ : Env) (k : Rd → Prop), fX C f (.vr j) (inst θ δ ++ τ) k = fS C f j k (δ[j]?.map (instS (θ j))) := fun θ τ k => by
      show fS _ _ _ _ _ = _
      rw [sGet hl hb]
    cases e : δ[j]? with
    | none => rw [e] at h; cases h
    | some s =>
      rw [e] at h
      cases s with
      | ow p o => cases o with
        | ob o => cases h
        | ins C' fs =>
          have h : (if C' = C then (match fs.lookup f with
            | some (.im d) => some (Rd.im d)
            | some (.ob _) => some (Rd.at j f)
            | none => none) else none) = some y := h
          by_cases c : C' = C
          · rw [if_pos c] at h
            cases e2 : fs.lookup f with
            | none => rw [e2] at h; cases h
            | some v => rw [e2] at h; cases v with
              | ob o => cases h; exact ⟨hb, fun θ τ k w => by rw [go, e]; exact ⟨c, by rw [e2]; exact w⟩⟩
              | im d => cases h; exact ⟨trivial, fun θ τ k w => by rw [go, e]; exact ⟨c, by rw [e2]; exact w⟩⟩
          · rw [if_neg c] at h; cases h
      | _ => cases h
def fFld (C : Addr) (f : Str) (fa : FE) : FE := fun δ => (fa δ).bind fun p => (fXF C f p.1 p.2).bind fun y => some (y, p.2)
instance {C : Addr} {f : Str} [a : IE n ra fa] : IE n (rFld C f ra) (fFld C f fa) := ⟨fun {δ y δ'} hl h => by
  obtain ⟨⟨x, δ1⟩, h1, h⟩ := bnd h
  obtain ⟨⟨l1, b1⟩, q1⟩ := a.h hl h1
  obtain ⟨z, h2, h⟩ := bnd h
  cases h
  obtain ⟨b2, q2⟩ := fX_f b1 l1 h2
  exact ⟨⟨l1, b2⟩, fun θ τ Q w => q1 θ τ _ (q2 θ τ _ w)⟩⟩
/-! ### calls -/
abbrev Fn := List Slot → Option (Slot × List Slot)
def callF (n : Nat) (F : Fn) : Fn := fun as => if as.length = n then F as else none
def SpD.ofF (n : Nat) (F : Fn) : SpD where
  n := n
  r := fun as Q => ∃ s bs, callF n F as = some (s, bs) ∧ Q s bs
  mono := fun h ⟨s, bs, e, q⟩ => ⟨s, bs, e, h _ _ q⟩
  len := fun {as Q} ⟨s, bs, e, _⟩ => by
    unfold callF at e
    split at e
    · assumption
    · cases e
def resF : Slot → Option Rd
  | .im d => some (.im d)
  | .ow .fresh o => some (.tm o)
  | _ => none
theorem res_f {s : Slot} {x : Rd} (h : resF s = some x) : x.bd n ∧ ∀ (Q : Rd → Env → Prop) (δ : Env), Q x δ → resR Q δ s := by
  cases s with
  | im d => cases h; exact ⟨trivial, fun _ _ w => w⟩
  | ow p o => cases p with
    | fresh => cases h; exact ⟨trivial, fun _ _ w => w⟩
    | arg k => cases h
  | _ => cases h
def fCall (m : Nat) (F : Fn) (fs : FA) (dds : List D) : FE := fun δ => (fs δ).bind fun p => (callF m F ((p.1 ++ dds).map .im)).bind fun r => (resF r.1).bind fun x => some (x, p.2)
instance {m : Nat} {F : Fn} {dds : List D} [b : IA n rs fs] : IE n (rCall (SpD.ofF m F) rs dds) (fCall m F fs dds) := ⟨fun {δ y δ'} hl h => by
  obtain ⟨⟨ds, δ1⟩, h1, h⟩ := bnd h
  obtain ⟨l1, q1⟩ := b.h hl h1
  obtain ⟨⟨s, bs⟩, h2, h⟩ := bnd h
  obtain ⟨x, h3, h⟩ := bnd h
  cases h
  obtain ⟨b3, q3⟩ := res_f (n := n) h3
  exact ⟨⟨l1, b3⟩, fun θ τ Q w => q1 θ τ _ ⟨s, bs, h2, q3 _ _ w⟩⟩⟩
/-! arguments that may be lent -/
def fvNil : FV := fun δ => some ([], δ)
def fvIm (fa : FE) (fv : FV) : FV := f1 fa fun d δ => (fv δ).bind fun p => some (.im d :: p.1, p.2)
def agF : Rd → Option Ag
  | .im d => some (.im d)
  | .vr j => some (.vr j)
  | _ => none
def fvLn (fa : FE) (fv : FV) : FV := fun δ => (fa δ).bind fun p => (agF p.1).bind fun a => (fv p.2).bind fun q => some (a :: q.1, q.2)
variable {rv : RV} {fv : FV}
instance : IV n vNil fvNil := ⟨fun hl h => by cases h; exact ⟨⟨hl, fun a q => by cases q⟩, fun _ _ _ w => w⟩⟩
instance [a : IE n ra fa] [b : IV n rv fv] : IV n (vIm ra rv) (fvIm fa fv) := ⟨fun hl h => by
  obtain ⟨d, δ1, l1, h, q1⟩ := i1 (ra := ra) hl h
  obtain ⟨⟨ds, δ2⟩, h1, h⟩ := bnd h
  cases h
  obtain ⟨⟨l2, b2⟩, q2⟩ := b.h l1 h1
  refine ⟨⟨l2, fun a q => ?_⟩, fun θ τ Q w => q1 θ τ _ (q2 θ τ _ w)⟩
  rcases List.mem_cons.mp q with rfl | q
  · trivial
  · exact b2 a q⟩
instance [a : IE n ra fa] [b : IV n rv fv] : IV n (vLn ra rv) (fvLn fa fv) := ⟨fun {δ y δ'} hl h => by
  obtain ⟨⟨x, δ1⟩, h1, h⟩ := bnd h
  obtain ⟨⟨l1, b1⟩, q1⟩ := a.h hl h1
  obtain ⟨ag, h2, h⟩ := bnd h
  obtain ⟨⟨ds, δ2⟩, h3, h⟩ := bnd h
  cases h
  obtain ⟨⟨l2, b2⟩, q2⟩ := b.h l1 h3
  have h2 : agF x = some ag := h2
  cases x with
  | im d => cases h2; exact ⟨⟨l2, fun a q => (List.mem_cons.mp q).elim (fun e => e ▸ trivial) (b2 a)⟩, fun θ τ Q w => q1 θ τ _ (q2 θ τ _ w)⟩
  | vr j => cases h2; exact ⟨⟨l2, fun a q => (List.mem_cons.mp q).elim (fun e => e ▸ b1) (b2 a)⟩, fun θ τ Q w => q1 θ τ _ (q2 θ τ _ w)⟩
  | _ => cases h2⟩
def lendSF (δ : Env) (j : Nat) : Option Slot → Option (Slot × Env)
  | some (.ow p o) => some (.ow p o, δ.set j .un)
  | some (.im d) => some (.im d, δ)
  | _ => none
def lendF : List Ag → Env → List Slot → Option (Env × List Slot)
  | [], δ, acc => some (δ, acc)
  | .im d :: as, δ, acc => lendF as δ (acc ++ [.im d])
  | .vr j :: as, δ, acc => (lendSF δ j δ[j]?).bind fun p => lendF as p.2 (acc ++ [p.1])
theorem lend_f : ∀ {ags : List Ag} {δ : Env} {acc as : List Slot} {δ' : Env}, (∀ a ∈ ags, a.bd n) → δ.length = n → lendF ags δ acc = some (δ', as) →
    δ'.length = n ∧ ∀ (θ : Nat → V) (τ : Env) (k : Env → List Slot → Prop), k (inst θ δ' ++ τ) as → lendR ags (inst θ δ ++ τ) acc k
  | [], δ, acc, as, δ', _, hl, h => by cases h; exact ⟨hl, fun _ _ _ w => w⟩
  | .im d :: ags, δ, acc, as, δ', hb, hl, h => lend_f (ags := ags) (fun a q => hb a (List.mem_cons_of_mem _ q)) hl h
  | .vr j :: ags, δ, acc, as, δ', hb, hl, h => by
    obtain ⟨⟨s, δ1⟩, h1, h⟩ := bnd h
    have hj : j < n := hb _ (List.mem_cons_self ..)
    have hb' : ∀ a ∈ ags, a.bd n := fun a q => hb a (List.mem_cons_of_mem _ q)
    have go : ∀ (θ : Nat → V) (τ : Env) (k : Env → List Slot → Prop), lendR (.vr j :: ags) (inst θ δ ++ τ) acc k = lendS (inst θ δ ++ τ) j (fun s δ' => lendR ags δ' (acc ++ [s]) k) (δ[j]?.map (instS (θ j))) := fun θ τ k => by
      show lendS _ _ _ _ = _
      rw [sGet hl hj]
    have h1 : lendSF δ j δ[j]? = some (s, δ1) := h1
    cases e : δ[j]? with
    | none => rw [e] at h1; cases h1
    | some z =>
      rw [e] at h1
      cases z with
      | im d =>
        cases h1
        obtain ⟨l2, q2⟩ := lend_f hb' hl h
        exact ⟨l2, fun θ τ k w => by rw [go, e]; exact q2 θ τ k w⟩
      | ow p o =>
        cases h1
        obtain ⟨l2, q2⟩ := lend_f hb' (by rw [List.length_set]; exact hl) h
        refine ⟨l2, fun θ τ k w => by rw [go, e]; show lendR _ _ _ _; rw [sSet hl hj fun _ => rfl]; exact q2 θ τ k w⟩
      | _ => cases h1
def joinF : List Slot → List Slot → Option (List Slot)
  | [], [] => some []
  | .im d :: as, _ :: bs => (joinF as bs).bind fun cs => some (.im d :: cs)
  | .ow p _ :: as, .ow (.arg _) o :: bs => (joinF as bs).bind fun cs => some (.ow p o :: cs)
  | _, _ => none
def noVl (s : Slot) : Prop := ∀ v, instS v s = s
theorem join_f : ∀ {as bs cs : List Slot}, joinF as bs = some cs → (∀ s ∈ cs, noVl s) ∧ ∀ (k : List Slot → Prop), k cs → joinR as bs k
  | [], [], cs, h => by cases h; exact ⟨fun s q => (by cases q), fun _ w => w⟩
  | .im d :: as, b :: bs, cs, h => by
    have h : (joinF as bs).bind (fun cs => some (Slot.im d :: cs)) = some cs := h
    obtain ⟨cs', h1, h⟩ := bnd h
    cases h
    obtain ⟨p, q⟩ := join_f h1
    exact ⟨fun s m => (List.mem_cons.mp m).elim (fun e => e ▸ fun _ => rfl) (p s), fun k w => q _ w⟩
  | .ow p o' :: as, .ow (.arg j) o :: bs, cs, h => by
    have h : (joinF as bs).bind (fun cs => some (Slot.ow p o :: cs)) = some cs := h
    obtain ⟨cs', h1, h⟩ := bnd h
    cases h
    obtain ⟨p, q⟩ := join_f h1
    exact ⟨fun s m => (List.mem_cons.mp m).elim (fun e => e ▸ fun _ => rfl) (p s), fun k w => q _ w⟩
  | [], _ :: _, _, h => by cases h
  | .un :: _, _, _, h => by cases h
  | .vl _ :: _, _, _, h => by cases h
  | .im _ :: _, [], _, h => by cases h
  | .ow _ _ :: _, [], _, h => by cases h
  | .ow _ _ :: _, .un :: _, _, h => by cases h
  | .ow _ _ :: _, .vl _ :: _, _, h => by cases h
  | .ow _ _ :: _, .im _ :: _, _, h => by cases h
  | .ow _ _ :: _, .ow .fresh _ :: _, _, h => by cases h
def backF : List Ag → List Slot → Env → Option Env
  | [], [], δ => some δ
  | .im _ :: as, _ :: cs, δ => backF as cs δ
  | .vr _ :: as, .im _ :: cs, δ => backF as cs δ
  | .vr j :: as, .ow p o :: cs, δ => backF as cs (δ.set j (.ow p o))
  | _, _, _ => none
theorem back_f : ∀ {ags : List Ag} {cs : List Slot} {δ δ' : Env}, (∀ a ∈ ags, a.bd n) → δ.length = n → backF ags cs δ = some δ' →
    δ'.length = n ∧ ∀ (θ : Nat → V) (τ : Env) (k : Env → Prop), k (inst θ δ' ++ τ) → backR ags cs (inst θ δ ++ τ) k
  | [], [], δ, δ', _, hl, h => by cases h; exact ⟨hl, fun _ _ _ w => w⟩
  | .im d :: ags, c :: cs, δ, δ', hb, hl, h => back_f (ags := ags) (cs := cs) (fun a q => hb a (List.mem_cons_of_mem _ q)) hl h
  | .vr j :: ags, .im d :: cs, δ, δ', hb, hl, h => back_f (ags := ags) (cs := cs) (fun a q => hb a (List.mem_cons_of_mem _ q)) hl h
  | .vr j :: ags, .ow p o :: cs, δ, δ', hb, hl, h => by
    have hj : j < n := hb _ (List.mem_cons_self ..)
    obtain ⟨l2, q2⟩ := back_f (ags := ags) (cs := cs) (δ := δ.set j (.ow p o)) (fun a q => hb a (List.mem_cons_of_mem _ q)) (by rw [List.length_set]; exact hl) h
    refine ⟨l2, fun θ τ k w => ?_⟩
    show backR ags cs ((inst θ δ ++ τ).set j (.ow p o)) k
    rw [sSet hl hj fun _ => rfl]
    exact q2 θ τ k w
  | [], _ :: _, _, _, _, _, h => by cases h
  | .im _ :: _, [], _, _, _, _, h => by cases h
  | .vr _ :: _, [], _, _, _, _, h => by cases h
  | .vr _ :: _, .un :: _, _, _, _, _, h => by cases h
  | .vr _ :: _, .vl _ :: _, _, _, _, _, h => by cases h
def callRF (m : Nat) (F : Fn) (ags : List Ag) (δ : Env) : Option (Rd × Env) :=
  (lendF ags δ []).bind fun p => (callF m F (argS 0 p.2)).bind fun r => (joinF p.2 r.2).bind fun cs => (backF ags cs p.1).bind fun δ3 => (resF r.1).bind fun x => some (x, δ3)
theorem callR_f {m : Nat} {F : Fn} {ags : List Ag} {δ δ' : Env} {x : Rd} (hb : ∀ a ∈ ags, a.bd n) (hl : δ.length = n) (h : callRF m F ags δ = some (x, δ')) :
    (δ'.length = n ∧ x.bd n) ∧ ∀ (θ : Nat → V) (τ : Env) (Q : Rd → Env → Prop), Q x (inst θ δ' ++ τ) → callR (SpD.ofF m F) ags (inst θ δ ++ τ) Q := by
  obtain ⟨⟨δ1, as⟩, h1, h⟩ := bnd h
  obtain ⟨l1, q1⟩ := lend_f hb hl h1
  obtain ⟨⟨s, bs⟩, h2, h⟩ := bnd h
  obtain ⟨cs, h3, h⟩ := bnd h
  obtain ⟨_, q3⟩ := join_f h3
  obtain ⟨δ3, h4, h⟩ := bnd h
  obtain ⟨l4, q4⟩ := back_f hb l1 h4
  obtain ⟨y, h5, h⟩ := bnd h
  cases h
  obtain ⟨b5, q5⟩ := res_f (n := n) h5
  exact ⟨⟨l4, b5⟩, fun θ τ Q w => q1 θ τ _ ⟨s, bs, h2, q3 _ (q4 θ τ _ (q5 _ _ w))⟩⟩
theorem bd_app {ags : List Ag} {dds : List D} (hb : ∀ a ∈ ags, a.bd n) : ∀ a ∈ ags ++ dds.map Ag.im, a.bd n := fun a q => by
  rcases List.mem_append.mp q with q | q
  · exact hb a q
  · obtain ⟨d, _, rfl⟩ := List.mem_map.mp q; trivial
def fCallL (m : Nat) (F : Fn) (fv : FV) (dds : List D) : FE := fun δ => (fv δ).bind fun p => callRF m F (p.1 ++ dds.map .im) p.2
instance {m : Nat} {F : Fn} {dds : List D} [b : IV n rv fv] : IE n (rCallL (SpD.ofF m F) rv dds) (fCallL m F fv dds) := ⟨fun {δ y δ'} hl h => by
  obtain ⟨⟨ags, δ1⟩, h1, h⟩ := bnd h
  obtain ⟨⟨l1, b1⟩, q1⟩ := b.h hl h1
  obtain ⟨l2, q2⟩ := callR_f (bd_app b1) l1 h
  exact ⟨l2, fun θ τ Q w => q1 θ τ _ (q2 θ τ _ w)⟩⟩
def mSF (C : Addr) (m : Str) (j : Nat) : Option Slot → Option Ag
  | some (.ow _ (.ins C' fs)) => if C' = C ∧ (fs.lookup m).isNone = true then some (.vr j) else none
  | _ => none
def mOF (C : Addr) (m : Str) : D → Option Ag
  | .obj C' fs => if C' = C ∧ (fs.lookup m).isNone = true then some (.im (.obj C' fs)) else none
  | _ => none
def mXF (C : Addr) (m : Str) (x : Rd) (δ : Env) : Option Ag := match x with
  | .vr j => mSF C m j δ[j]?
  | .im d => mOF C m d
  | _ => none
theorem mX_f {C : Addr} {m : Str} {x : Rd} {a : Ag} {δ : Env} (hb : x.bd n) (hl : δ.length = n) (h : mXF C m x δ = some a) : a.bd n ∧ ∀ (θ : Nat → V) (τ : Env) (k : Ag → Prop), k a → mX C m x (inst θ δ ++ τ) k := by
  cases x with
  | «at» j f => cases h
  | tm o => cases h
  | im d => cases d with
    | obj C' fs =>
      have h : (if C' = C ∧ (fs.lookup m).isNone = true then some (Ag.im (.obj C' fs)) else none) = some a := h
      by_cases c : C' = C ∧ (fs.lookup m).isNone = true
      · rw [if_pos c] at h; cases h; exact ⟨trivial, fun _ _ _ w => ⟨c.1, Option.isNone_iff_eq_none.mp c.2, w⟩⟩
      · rw [if_neg c] at h; cases h
    | _ => cases h
  | vr j =>
    have h : mSF C m j δ[j]? = some a := h
    have go : ∀ (θ : Nat → V) (τ : Env) (k : Ag → Prop), mX C m (.vr j) (inst θ δ ++ τ) k = mS C m j k (δ[j]?.map (instS (θ j))) := fun θ τ k => by
      show mS _ _ _ _ _ = _
      rw [sGet hl hb]
    cases e : δ[j]? with
    | none => rw [e] at h; cases h
    | some s =>
      rw [e] at h
      cases s with
      | ow p o => cases o with
        | ob o => cases h
        | ins C' fs =>
          have h : (if C' = C ∧ (fs.lookup m).isNone = true then some (Ag.vr j) else none) = some a := h
          by_cases c : C' = C ∧ (fs.lookup m).isNone = true
          · rw [if_pos c] at h; cases h; exact ⟨hb, fun θ τ k w => by rw [go, e]; exact ⟨c.1, Option.isNone_iff_eq_none.mp c.2, w⟩⟩
          · rw [if_neg c] at h; cases h
      | _ => cases h
def fMeth (C : Addr) (m : Str) (k : Nat) (F : Fn) (fa : FE) (fv : FV) (dds : List D) : FE := fun δ => (fa δ).bind fun p => (mXF C m p.1 p.2).bind fun a => (fv p.2).bind fun q => callRF k F (a :: (q.1 ++ dds.map .im)) q.2
instance {C : Addr} {m : Str} {k : Nat} {F : Fn} {dds : List D} [a : IE n ra fa] [b : IV n rv fv] : IE n (rMeth C m (SpD.ofF k F) ra rv dds) (fMeth C m k F fa fv dds) := ⟨fun {δ y δ'} hl h => by
  obtain ⟨⟨x, δ1⟩, h1, h⟩ := bnd h
  obtain ⟨⟨l1, b1⟩, q1⟩ := a.h hl h1
  obtain ⟨ag, h2, h⟩ := bnd h
  obtain ⟨b2, q2⟩ := mX_f b1 l1 h2
  obtain ⟨⟨ags, δ2⟩, h3, h⟩ := bnd h
  obtain ⟨⟨l3, b3⟩, q3⟩ := b.h l1 h3
  obtain ⟨l4, q4⟩ := callR_f (fun a q => (List.mem_cons.mp q).elim (fun e => e ▸ b2) (bd_app b3 a)) l3 h
  exact ⟨l4, fun θ τ Q w => q1 θ τ _ (q2 θ τ _ (q3 θ τ _ (q4 θ τ _ w)))⟩⟩
/-- an object whose __init__ has run -/
def mkXF (ags : List Ag) (δ : Env) (s : Slot) : List Slot → Option (Rd × Env)
  | .ow .fresh o :: cs => match s with
    | .im .non => (backF ags cs δ).bind fun δ3 => some (.tm o, δ3)
    | _ => none
  | _ => none
def mkRF (C : Addr) (k : Nat) (F : Fn) (ags : List Ag) (δ : Env) : Option (Rd × Env) :=
  (lendF ags δ [.ow .fresh (.ins C [])]).bind fun p => (callF k F (argS 0 p.2)).bind fun r => (joinF p.2 r.2).bind fun cs => mkXF ags p.1 r.1 cs
def fMake (C : Addr) (k : Nat) (F : Fn) (fv : FV) (dds : List D) : FE := fun δ => (fv δ).bind fun p => mkRF C k F (p.1 ++ dds.map .im) p.2
instance {C : Addr} {k : Nat} {F : Fn} {dds : List D} [b : IV n rv fv] : IE n (rMake C (SpD.ofF k F) rv dds) (fMake C k F fv dds) := ⟨fun {δ y δ'} hl h => by
  obtain ⟨⟨ags, δ1⟩, h1, h⟩ := bnd h
  obtain ⟨⟨l1, b1⟩, q1⟩ := b.h hl h1
  obtain ⟨⟨δ2, as⟩, h2, h⟩ := bnd h
  obtain ⟨l2, q2⟩ := lend_f (bd_app b1) l1 h2
  obtain ⟨⟨s, bs⟩, h3, h⟩ := bnd h
  obtain ⟨cs, h4, h⟩ := bnd h
  obtain ⟨_, q4⟩ := join_f h4
  have h : mkXF (ags ++ dds.map .im) δ2 s cs = some (y, δ') := h
  unfold mkXF at h
  split at h
  · split at h
    · obtain ⟨δ3, h5, h⟩ := bnd h
      cases h
      obtain ⟨l5, q5⟩ := back_f (bd_app b1) l2 h5
      exact ⟨⟨l5, trivial⟩, fun θ τ Q w => q1 θ τ _ (q2 θ τ _ ⟨_, bs, h3, q4 _ ⟨rfl, q5 θ τ _ w⟩⟩)⟩
    · cases h
  · cases h⟩
/-! borrowing -/
def bareB : Rd → Bool
  | .im d => d.bare
  | .tm (.ob (.lst ds)) => ds.all D.bare
  | _ => false
open Classical in
noncomputable def borF (j : Nat) (fa : FE) (δ : Env) : Option Slot → Option (Rd × Env)
  | some (.ow _ o) => (fa (δ.set j (.im o.toD))).bind fun p => if bareB p.1 = true ∧ p.2 = δ.set j (.im o.toD) then some (p.1, δ) else none
  | _ => fa δ
noncomputable def fBor (j : Nat) (fa : FE) : FE := fun δ => borF j fa δ δ[j]?
theorem bare_b {x : Rd} (h : bareB x = true) : x.bd n ∧ bareR x := by
  cases x with
  | im d => exact ⟨trivial, h⟩
  | tm o => cases o with
    | ob o => cases o with
      | lst ds => exact ⟨trivial, h⟩
      | _ => cases h
    | ins C fs => cases h
  | _ => cases h
instance {j : Nat} [l : Lt j n] [a : IE n ra fa] : IE n (rBor j ra) (fBor j fa) := ⟨fun {δ x δ'} hl h => by
  have h : borF j fa δ δ[j]? = some (x, δ') := h
  have go : ∀ (θ : Nat → V) (τ : Env) (Q : Rd → Env → Prop), rBor j ra (inst θ δ ++ τ) Q = borS j ra (inst θ δ ++ τ) Q (δ[j]?.map (instS (θ j))) := fun θ τ Q => by
    show borS _ _ _ _ _ = _
    rw [sGet hl l.h]
  cases e : δ[j]? with
  | none =>
    rw [e] at h
    obtain ⟨l1, q1⟩ := a.h hl h
    exact ⟨l1, fun θ τ Q w => by rw [go, e]; exact q1 θ τ Q w⟩
  | some s =>
    rw [e] at h
    cases s with
    | ow p o =>
      obtain ⟨⟨y, δ1⟩, h1, h⟩ := bnd h
      have l0 : (δ.set j (.im o.toD)).length = n := by rw [List.length_set]; exact hl
      obtain ⟨⟨l1, b1⟩, q1⟩ := a.h l0 h1
      dsimp only at h
      split at h
      · rename_i c
        cases h
        obtain ⟨b2, b3⟩ := bare_b (n := n) c.1
        refine ⟨⟨hl, b2⟩, fun θ τ Q w => ?_⟩
        rw [go, e]
        show ra _ _
        rw [sSet hl l.h fun _ => rfl]
        refine q1 θ τ _ ⟨b3, ?_, w⟩
        rw [c.2]
      · cases h
    | un => obtain ⟨l1, q1⟩ := a.h hl h; exact ⟨l1, fun θ τ Q w => by rw [go, e]; exact q1 θ τ Q w⟩
    | vl v => obtain ⟨l1, q1⟩ := a.h hl h; exact ⟨l1, fun θ τ Q w => by rw [go, e]; exact q1 θ τ Q w⟩
    | im v => obtain ⟨l1, q1⟩ := a.h hl h; exact ⟨l1, fun θ τ Q w => by rw [go, e]; exact q1 θ τ Q w⟩⟩
end
end DL
end
section
set_option Elab.async false
set_option linter.all false
set_option maxRecDepth 100000
set_option maxHeartbeats 1000000
namespace DL
open PySem L2
/-! ### statements -/
inductive Out where
  | nx (δ : Env) | rt (s : Slot) (δ : Env) | bk (δ : Env) | ct (δ : Env)
abbrev FS := Env → Option Out
def Out.app (θ : Nat → V) (τ : Env) (De : DEnds) : Out → Prop
  | .nx δ => De.nx (inst θ δ ++ τ)
  | .rt s δ => ∀ θ' τ', De.rt s (inst θ' δ ++ τ')
  | .bk δ => De.bk (inst θ δ ++ τ)
  | .ct δ => De.ct (inst θ δ ++ τ)
def Out.len (n : Nat) : Out → Prop
  | .nx δ => δ.length = n
  | .rt _ δ => δ.length = n
  | .bk δ => δ.length = n
  | .ct δ => δ.length = n
class IS (n : Nat) (r : RS) (f : outParam FS) : Prop where
  h : ∀ {δ : Env} {o : Out}, δ.length = n → f δ = some o → o.len n ∧ ∀ (θ : Nat → V) (τ : Env) (De : DEnds), o.app θ τ De → r De (inst θ δ ++ τ)
class IG (n : Nat) (g : RG) (f : outParam FG) : Prop where
  h : ∀ {d : D} {δ δ' : Env}, δ.length = n → f d δ = some δ' → δ'.length = n ∧ ∀ (θ : Nat → V) (τ : Env) (Q : Env → Prop), Q (inst θ δ' ++ τ) → g d (inst θ δ ++ τ) Q
class IGs (n : Nat) (g : RGs) (f : outParam FGs) : Prop where
  h : ∀ {d : List D} {δ δ' : Env}, δ.length = n → f d δ = some δ' → δ'.length = n ∧ ∀ (θ : Nat → V) (τ : Env) (Q : Env → Prop), Q (inst θ δ' ++ τ) → g d (inst θ δ ++ τ) Q
section
variable {n : Nat} {ra rb rc : RE} {fa fb fc : FE} {rs : RA} {fs : FA} {r s : RS} {f g : FS} {rt : RT} {ft : FT}
def fNext : FS := fun δ => some (.nx δ)
instance : IS n rNext fNext := ⟨fun hl h => by cases h; exact ⟨hl, fun _ _ _ w => w⟩⟩
def Out.next (g : FS) : Out → Option Out
  | .nx δ => g δ
  | o => some o
def fSeq (f g : FS) : FS := fun δ => (f δ).bind (Out.next g)
instance [a : IS n r f] [b : IS n s g] : IS n (rSeq r s) (fSeq f g) := ⟨fun hl h => by
  obtain ⟨o, h1, h⟩ := bnd h
  obtain ⟨l1, q1⟩ := a.h hl h1
  cases o with
  | nx δ => obtain ⟨l2, q2⟩ := b.h l1 h; exact ⟨l2, fun θ τ De w => q1 θ τ _ (q2 θ τ De w)⟩
  | rt s δ => cases h; exact ⟨l1, fun θ τ De w => q1 θ τ _ w⟩
  | bk δ => cases h; exact ⟨l1, fun θ τ De w => q1 θ τ _ w⟩
  | ct δ => cases h; exact ⟨l1, fun θ τ De w => q1 θ τ _ w⟩⟩
def fBreak : FS := fun δ => some (.bk δ)
def fCont : FS := fun δ => some (.ct δ)
def fNever : FS := fun _ => none
instance : IS n rBreak fBreak := ⟨fun hl h => by cases h; exact ⟨hl, fun _ _ _ w => w⟩⟩
instance : IS n rCont fCont := ⟨fun hl h => by cases h; exact ⟨hl, fun _ _ _ w => w⟩⟩
instance : IS n rNever fNever := ⟨fun hl h => by cases h⟩
def fDrop (fa : FE) : FS := fun δ => (fa δ).bind fun p => some (.nx p.2)
instance [a : IE n ra fa] : IS n (rDrop ra) (fDrop fa) := ⟨fun hl h => by
  obtain ⟨⟨x, δ1⟩, h1, h⟩ := bnd h
  obtain ⟨⟨l1, _⟩, q1⟩ := a.h hl h1
  cases h
  exact ⟨l1, fun θ τ De w => q1 θ τ _ w⟩⟩
def fIfS (t : FT) (f g : FS) : FS := fun δ => (t δ).bind fun p => if p.1 = true then f p.2 else g p.2
instance [i : IT n rt ft] [a : IS n r f] [b : IS n s g] : IS n (rIfS rt r s) (fIfS ft f g) := ⟨fun hl h => by
  obtain ⟨⟨x, δ1⟩, h1, h⟩ := bnd h
  obtain ⟨l1, q1⟩ := i.h hl h1
  cases x with
  | true => obtain ⟨l2, q2⟩ := a.h l1 h; exact ⟨l2, fun θ τ De w => q1 θ τ _ (q2 θ τ De w)⟩
  | false => obtain ⟨l2, q2⟩ := b.h l1 h; exact ⟨l2, fun θ τ De w => q1 θ τ _ (q2 θ τ De w)⟩⟩
def retSF (δ : Env) (j : Nat) : Option Slot → Option Out
  | some (.im d) => some (.rt (.im d) δ)
  | some (.ow .fresh o) => some (.rt (.ow .fresh o) (δ.set j .un))
  | _ => none
def retF (x : Rd) (δ : Env) : Option Out := match x with
  | .im d => some (.rt (.im d) δ)
  | .tm o => some (.rt (.ow .fresh o) δ)
  | .vr j => retSF δ j δ[j]?
  | .at _ _ => none
def fRet (fa : FE) : FS := fun δ => (fa δ).bind fun p => retF p.1 p.2
instance [a : IE n ra fa] : IS n (rRet ra) (fRet fa) := ⟨fun {δ o} hl h => by
  obtain ⟨⟨x, δ1⟩, h1, h⟩ := bnd h
  obtain ⟨⟨l1, b1⟩, q1⟩ := a.h hl h1
  have h : retF x δ1 = some o := h
  cases x with
  | im d => cases h; exact ⟨l1, fun θ τ De w => q1 θ τ _ (w _ _)⟩
  | tm o => cases h; exact ⟨l1, fun θ τ De w => q1 θ τ _ (w _ _)⟩
  | «at» j f => cases h
  | vr j =>
    have h : retSF δ1 j δ1[j]? = some o := h
    have go : ∀ (θ : Nat → V) (τ : Env) (k : Slot → Env → Prop), retR k (.vr j) (inst θ δ1 ++ τ) = retS k (inst θ δ1 ++ τ) j (δ1[j]?.map (instS (θ j))) := fun θ τ k => by
      show retS _ _ _ _ = _
      rw [sGet l1 b1]
    cases e : δ1[j]? with
    | none => rw [e] at h; cases h
    | some s =>
      rw [e] at h
      cases s with
      | im d => cases h; exact ⟨l1, fun θ τ De w => q1 θ τ _ (by rw [go, e]; exact w _ _)⟩
      | ow p ob => cases p with
        | arg k => cases h
        | fresh => cases h; exact ⟨by show (δ1.set j _).length = n; rw [List.length_set]; exact l1, fun θ τ De w => q1 θ τ _ (by rw [go, e]; show De.rt _ _; rw [sSet l1 b1 fun _ => rfl]; exact w _ _)⟩
      | _ => cases h⟩
def fRetN : FS := fun δ => some (.rt (.im .non) δ)
instance : IS n rRetN fRetN := ⟨fun hl h => by cases h; exact ⟨hl, fun _ _ _ w => w _ _⟩⟩
def setF (i : Nat) (x : Rd) (δ : Env) : Option Env := match x with
  | .tm o => some (δ.set i (.ow .fresh o))
  | .im d => some (δ.set i (.im d))
  | .vr j => (imSF δ j δ[j]?).bind fun p => some (p.2.set i (.im p.1))
  | .at _ _ => none
theorem set_f {i : Nat} {x : Rd} {δ δ' : Env} (hi : i < n) (hb : x.bd n) (hl : δ.length = n) (h : setF i x δ = some δ') : δ'.length = n ∧ ∀ (θ : Nat → V) (τ : Env) (k : Env → Prop), k (inst θ δ' ++ τ) → setR i k x (inst θ δ ++ τ) := by
  cases x with
  | im d => cases h; exact ⟨by rw [List.length_set]; exact hl, fun θ τ k w => by show k _; rw [sSet hl hi fun _ => rfl]; exact w⟩
  | tm o => cases h; exact ⟨by rw [List.length_set]; exact hl, fun θ τ k w => by show k _; rw [sSet hl hi fun _ => rfl]; exact w⟩
  | «at» j f => cases h
  | vr j =>
    obtain ⟨⟨d, δ1⟩, h1, h⟩ := bnd h
    cases h
    obtain ⟨l1, q1⟩ := asIm_f (x := .vr j) hb hl h1
    refine ⟨by rw [List.length_set]; exact l1, fun θ τ k w => q1 θ τ (fun d δ' => k (δ'.set i (.im d))) ?_⟩
    rw [sSet l1 hi fun _ => rfl]; exact w
def fSet (i : Nat) (fa : FE) : FS := fun δ => (fa δ).bind fun p => (setF i p.1 p.2).bind fun δ' => some (.nx δ')
instance {i : Nat} [l : Lt i n] [a : IE n ra fa] : IS n (rSet i ra) (fSet i fa) := ⟨fun hl h => by
  obtain ⟨⟨x, δ1⟩, h1, h⟩ := bnd h
  obtain ⟨⟨l1, b1⟩, q1⟩ := a.h hl h1
  obtain ⟨δ2, h2, h⟩ := bnd h
  cases h
  obtain ⟨l2, q2⟩ := set_f l.h b1 l1 h2
  exact ⟨l2, fun θ τ De w => q1 θ τ _ (q2 θ τ _ w)⟩⟩
/-! targets -/
variable {rg : RG} {fg : FG} {rgs : RGs} {fgs : FGs}
def fgName (i : Nat) : FG := fun d δ => some (δ.set i (.im d))
instance {i : Nat} [l : Lt i n] : IG n (dName i) (fgName i) := ⟨fun hl h => by cases h; exact ⟨by rw [List.length_set]; exact hl, fun θ τ Q w => by show Q _; rw [sSet hl l.h fun _ => rfl]; exact w⟩⟩
def fgNil : FGs := fun ds δ => match ds with
  | [] => some δ
  | _ => none
def fgCons (g : FG) (gs : FGs) : FGs := fun ds δ => match ds with
  | d :: r => (g d δ).bind fun δ1 => gs r δ1
  | [] => none
instance : IGs n dNil fgNil := ⟨fun {d δ δ'} hl h => by
  cases d with
  | nil => cases h; exact ⟨hl, fun _ _ _ w => w⟩
  | cons => cases h⟩
instance [a : IG n rg fg] [b : IGs n rgs fgs] : IGs n (dCons rg rgs) (fgCons fg fgs) := ⟨fun {d δ δ'} hl h => by
  cases d with
  | nil => cases h
  | cons d r =>
    obtain ⟨δ1, h1, h⟩ := bnd h
    obtain ⟨l1, q1⟩ := a.h hl h1
    obtain ⟨l2, q2⟩ := b.h l1 h
    exact ⟨l2, fun θ τ Q w => q1 θ τ _ (q2 θ τ _ w)⟩⟩
def fgTup (k : Nat) (gs : FGs) : FG := fun d δ => match d with
  | .tup ds => if ds.length = k then gs ds δ else none
  | .wt ds => if ds.length = k then gs ds δ else none
  | _ => none
instance {k : Nat} [b : IGs n rgs fgs] : IG n (dTup k rgs) (fgTup k fgs) := ⟨fun {d δ δ'} hl h => by
  cases d with
  | tup ds =>
    have h : (if ds.length = k then fgs ds δ else none) = some δ' := h
    by_cases c : ds.length = k
    · rw [if_pos c] at h; obtain ⟨l2, q2⟩ := b.h hl h; exact ⟨l2, fun θ τ Q w => ⟨c, q2 θ τ _ w⟩⟩
    · rw [if_neg c] at h; cases h
  | wt ds =>
    have h : (if ds.length = k then fgs ds δ else none) = some δ' := h
    by_cases c : ds.length = k
    · rw [if_pos c] at h; obtain ⟨l2, q2⟩ := b.h hl h; exact ⟨l2, fun θ τ Q w => ⟨c, q2 θ τ _ w⟩⟩
    · rw [if_neg c] at h; cases h
  | _ => cases h⟩
def fAsg (fa : FE) (g : FG) : FS := f1 fa fun d δ => (g d δ).bind fun δ' => some (.nx δ')
instance [a : IE n ra fa] [b : IG n rg fg] : IS n (rAsg ra rg) (fAsg fa fg) := ⟨fun hl h => by
  obtain ⟨d, δ1, l1, h, q1⟩ := i1 (ra := ra) hl h
  obtain ⟨δ2, h2, h⟩ := bnd h
  cases h
  obtain ⟨l2, q2⟩ := b.h l1 h2
  exact ⟨l2, fun θ τ De w => q1 θ τ _ (q2 θ τ _ w)⟩⟩
def two? : List D → Option (D × D)
  | [d, e] => some (d, e)
  | _ => none
theorem two_of {ds : List D} {p : D × D} (h : two? ds = some p) : ds = [p.1, p.2] := by
  unfold two? at h
  split at h
  · cases h; rfl
  · cases h
def fPar (i j : Nat) (fs : FA) : FS := fun δ => (fs δ).bind fun p => (two? p.1).bind fun q => some (.nx ((p.2.set i (.im q.1)).set j (.im q.2)))
instance {i j : Nat} [l : Lt i n] [l' : Lt j n] [b : IA n rs fs] : IS n (rPar i j rs) (fPar i j fs) := ⟨fun hl h => by
  obtain ⟨⟨ds, δ1⟩, h1, h⟩ := bnd h
  obtain ⟨l1, q1⟩ := b.h hl h1
  obtain ⟨⟨d, e⟩, h2, h⟩ := bnd h
  cases h
  have h2 : ds = [d, e] := two_of h2
  refine ⟨by show ((δ1.set i _).set j _).length = n; rw [List.length_set, List.length_set]; exact l1, fun θ τ De w => q1 θ τ _ ?_⟩
  rw [h2]
  show De.nx _
  rw [sSet l1 l.h fun _ => rfl, sSet (by rw [List.length_set]; exact l1) l'.h fun _ => rfl]
  exact w⟩
def augF (i : Nat) (δ : Env) (f : Int → Int → Int) : Option Slot → D → Option Env
  | some (.im (.int x)), .int y => some (δ.set i (.im (.int (f x y))))
  | _, _ => none
def isImB : Option Slot → Bool
  | some (.im _) => true
  | _ => false
def fAug (i : Nat) (f : Int → Int → Int) (fa : FE) : FS := fun δ => if isImB δ[i]? = true then f1 fa (fun d δ1 => (augF i δ1 f δ1[i]? d).bind fun δ2 => some (.nx δ2)) δ else none
instance {i : Nat} {f : Int → Int → Int} [l : Lt i n] [a : IE n ra fa] : IS n (rAug i f ra) (fAug i f fa) := ⟨fun {δ o} hl h => by
  have h : (if isImB δ[i]? = true then f1 fa (fun d δ1 => (augF i δ1 f δ1[i]? d).bind fun δ2 => some (.nx δ2)) δ else none) = some o := h
  by_cases c : isImB δ[i]? = true
  · rw [if_pos c] at h
    obtain ⟨d, δ1, l1, h, q1⟩ := i1 (ra := ra) hl h
    obtain ⟨δ2, h2, h⟩ := bnd h
    cases h
    cases e : δ1[i]? with
    | none => rw [e] at h2; cases h2
    | some z => rw [e] at h2; cases z with
      | im z => cases z with
        | int x => cases d with
          | int y =>
            cases h2
            refine ⟨by show (δ1.set i _).length = n; rw [List.length_set]; exact l1, fun θ τ De w => ⟨?_, q1 θ τ _ ?_⟩⟩
            · rw [sGet hl l.h]
              revert c
              cases δ[i]? with
              | none => intro c; cases c
              | some s => cases s with
                | im d => intro _; trivial
                | _ => intro c; cases c
            · rw [sGet l1 l.h, e]
              show De.nx _
              rw [sSet l1 l.h fun _ => rfl]; exact w
          | _ => cases h2
        | _ => cases h2
      | _ => cases h2
  · rw [if_neg c] at h; cases h⟩
/-! a while, by fuel -/
def fWhileN (t : FT) (r : FS) : Nat → FS
  | 0 => fun _ => none
  | k + 1 => fun δ => (t δ).bind fun p => if p.1 = true then (r p.2).bind fun o => match o with
      | .nx δ' => fWhileN t r k δ'
      | .ct δ' => fWhileN t r k δ'
      | .bk δ' => some (.nx δ')
      | .rt s δ' => some (.rt s δ')
    else some (.nx p.2)
theorem while_len [i : IT n rt ft] [a : IS n r f] : ∀ (k : Nat) {δ : Env} {o : Out}, δ.length = n → fWhileN ft f k δ = some o → o.len n
  | 0, δ, o, hl, h => by cases h
  | k + 1, δ, o, hl, h => by
    obtain ⟨⟨b, δ1⟩, h1, h⟩ := bnd h
    obtain ⟨l1, _⟩ := i.h hl h1
    cases b with
    | false => cases h; exact l1
    | true =>
      obtain ⟨o1, h2, h⟩ := bnd h
      obtain ⟨l2, _⟩ := a.h l1 h2
      cases o1 with
      | nx δ' => exact while_len k l2 h
      | ct δ' => exact while_len k l2 h
      | bk δ' => cases h; exact l2
      | rt s δ' => cases h; exact l2
open Classical in
/-- any fuel that is enough -/
noncomputable def fWhile (t : FT) (r : FS) : FS := fun δ => if h : ∃ k o, fWhileN t r k δ = some o then some (Classical.choose (Classical.choose_spec h)) else none
noncomputable instance iWhile [i : IT n rt ft] [a : IS n r f] : IS n (rWhile rt r) (fWhile ft f) := ⟨fun {δ o} hl h => by
  unfold fWhile at h
  split at h
  · rename_i hx
    have h := Option.some.inj h
    obtain ⟨k, hk⟩ : ∃ k, fWhileN ft f k δ = some o := ⟨_, by have := Classical.choose_spec (Classical.choose_spec hx); rwa [h] at this⟩
    refine ⟨while_len (rt := rt) (r := r) k hl hk, fun θ τ De w => ⟨fun m ρ => ∃ δ, ρ = inst θ δ ++ τ ∧ δ.length = n ∧ fWhileN ft f m δ = some o, ⟨k, δ, rfl, hl, hk⟩, ?_⟩⟩
    rintro m _ ⟨δ0, rfl, l0, e0⟩
    cases m with
    | zero => cases e0
    | succ m =>
      obtain ⟨⟨b, δ1⟩, h1, e0⟩ := bnd e0
      obtain ⟨l1, q1⟩ := i.h l0 h1
      refine q1 θ τ _ ?_
      cases b with
      | false => rw [if_neg Bool.false_ne_true]; cases e0; exact w
      | true =>
        rw [if_pos rfl]
        obtain ⟨o1, h2, e0⟩ := bnd e0
        obtain ⟨l2, q2⟩ := a.h l1 h2
        refine q2 θ τ _ ?_
        cases o1 with
        | nx δ' => exact ⟨m, Nat.lt_succ_self m, δ', rfl, l2, e0⟩
        | ct δ' => exact ⟨m, Nat.lt_succ_self m, δ', rfl, l2, e0⟩
        | bk δ' => cases e0; exact w
        | rt s δ' => cases e0; exact w
  · cases h⟩
theorem fWhileN_mono {t : FT} {r : FS} : ∀ {k m : Nat} {δ : Env} {o : Out}, fWhileN t r k δ = some o → k ≤ m → fWhileN t r m δ = some o
  | 0, _, _, _, h, _ => by cases h
  | k + 1, 0, _, _, _, hm => absurd hm (by omega)
  | k + 1, m + 1, δ, o, h, hm => by
    obtain ⟨⟨b, δ1⟩, h1, h⟩ := bnd h
    show (t δ).bind _ = _
    rw [h1]
    show (if b = true then _ else _) = _
    cases b with
    | false => exact h
    | true =>
      obtain ⟨o1, h2, h⟩ := bnd h
      show (r δ1).bind _ = _
      rw [h2]
      cases o1 with
      | nx δ' => exact fWhileN_mono (k := k) h (by omega)
      | ct δ' => exact fWhileN_mono (k := k) h (by omega)
      | bk δ' => exact h
      | rt s δ' => exact h
theorem fWhile_eq {t : FT} {r : FS} {k : Nat} {δ : Env} {o : Out} (h : fWhileN t r k δ = some o) : fWhile t r δ = some o := by
  have hx : ∃ k o, fWhileN t r k δ = some o := ⟨k, o, h⟩
  unfold fWhile
  rw [dif_pos hx]
  have hk := Classical.choose_spec (Classical.choose_spec hx)
  have a := fWhileN_mono h (Nat.le_max_left k (Classical.choose hx))
  have b := fWhileN_mono hk (Nat.le_max_right k (Classical.choose hx))
  rw [a] at b
  rw [Option.some.inj b]
/-! sources -/
inductive BkF where
  | no | give (j : Nat) (s : Slot)
def BkF.bd (n : Nat) : BkF → Prop
  | .no => True
  | .give j s => j < n ∧ ∃ p o, s = .ow p o
inductive BkLk (θ : Nat → V) : (Nat → V) → BkF → Env → Bk → Prop
  | id : BkLk θ θ .no [] .id
  | drop (s : Slot) : BkLk θ θ .no [s] .drop
  | give (j : Nat) (s : Slot) (v : V) : BkLk θ (updθ θ j v) (.give j s) [s] (.give j s v)
abbrev FI := Env → Option (List D × Env × BkF)
class II (n : Nat) (r : RI) (f : outParam FI) : Prop where
  h : ∀ {δ : Env} {xs : List D} {δ' : Env} {b : BkF}, δ.length = n → f δ = some (xs, δ', b) → (δ'.length = n ∧ b.bd n) ∧
    ∀ (θ : Nat → V) (τ : Env) (Q : List D → Env → Bk → Prop), (∀ θ' ext bk, BkLk θ θ' b ext bk → Q xs (inst θ' δ' ++ (τ ++ ext)) bk) → r (inst θ δ ++ τ) Q
def seqXsF (δ : Env) (d : D) : Option (List D × Env × BkF) := (seqXs d).bind fun xs => some (xs, δ, .no)
def seqSlF (δ : Env) (j : Nat) : Option Slot → Option (List D × Env × BkF)
  | some (.im d) => seqXsF δ d
  | some (.ow p (.ob (.lst xs))) => some (xs, δ.set j (.vl .non), .give j (.ow p (.ob (.lst xs))))
  | _ => none
def seqOwF (δ : Env) : Ow → Option (List D × Env × BkF)
  | .ob (.lst xs) => some (xs, δ, .no)
  | _ => none
def seqF (x : Rd) (δ : Env) : Option (List D × Env × BkF) := match x with
  | .im d => seqXsF δ d
  | .tm o => seqOwF δ o
  | .vr j => seqSlF δ j δ[j]?
  | .at _ _ => none
def fSeqI (fa : FE) : FI := fun δ => (fa δ).bind fun p => seqF p.1 p.2
theorem seqXs_f {δ δ' : Env} {d : D} {xs : List D} {b : BkF} (h : seqXsF δ d = some (xs, δ', b)) : δ' = δ ∧ b = .no ∧ seqXs d = some xs := by
  obtain ⟨a, h1, h⟩ := bnd h
  cases h
  exact ⟨rfl, rfl, h1⟩
instance [a : IE n ra fa] : II n (rSeqI ra) (fSeqI fa) := ⟨fun {δ xs δ' b} hl h => by
  obtain ⟨⟨x, δ1⟩, h1, h⟩ := bnd h
  obtain ⟨⟨l1, b1⟩, q1⟩ := a.h hl h1
  have h : seqF x δ1 = some (xs, δ', b) := h
  cases x with
  | «at» j f => cases h
  | im d =>
    obtain ⟨rfl, rfl, e⟩ := seqXs_f h
    refine ⟨⟨l1, trivial⟩, fun θ τ Q w => q1 θ τ _ (onS e ?_)⟩
    have := w θ [] .id .id
    rwa [List.append_nil] at this
  | tm o => cases o with
    | ins C fs => cases h
    | ob o => cases o with
      | lst xs =>
        cases h
        refine ⟨⟨l1, trivial⟩, fun θ τ Q w => q1 θ τ _ ?_⟩
        show Q _ (_ ++ [_]) _
        rw [List.append_assoc]
        exact w θ _ .drop (.drop _)
      | _ => cases h
  | vr j =>
    have hj : j < n := b1
    have h : seqSlF δ1 j δ1[j]? = some (xs, δ', b) := h
    have go : ∀ (θ : Nat → V) (τ : Env) (Q : List D → Env → Bk → Prop), seqSrc (.vr j) (inst θ δ1 ++ τ) Q = seqSl (inst θ δ1 ++ τ) j Q (δ1[j]?.map (instS (θ j))) := fun θ τ Q => by
      show seqSl _ _ _ _ = _
      rw [sGet l1 hj]
    cases e : δ1[j]? with
    | none => rw [e] at h; cases h
    | some s =>
      rw [e] at h
      cases s with
      | im d =>
        obtain ⟨rfl, rfl, e2⟩ := seqXs_f h
        refine ⟨⟨l1, trivial⟩, fun θ τ Q w => q1 θ τ _ ?_⟩
        rw [go, e]
        refine onS e2 ?_
        have := w θ [] .id .id
        rwa [List.append_nil] at this
      | ow p o => cases o with
        | ins C fs => cases h
        | ob o => cases o with
          | lst ys =>
            cases h
            refine ⟨⟨by rw [List.length_set]; exact l1, hj, _, _, rfl⟩, fun θ τ Q w => q1 θ τ _ ?_⟩
            rw [go, e]
            intro v
            have := w (updθ θ j v) _ _ (.give j (.ow p (.ob (.lst xs))) v)
            rw [inst_lock] at this
            rw [List.set_append_left _ _ (by rw [inst_len]; omega), List.append_assoc]
            exact this
          | _ => cases h
      | _ => cases h⟩
def fRg1 (fs : FA) : FI := fun δ => (fs δ).bind fun p => match p.1 with
  | [.int j] => if -(2 ^ 62) ≤ j ∧ j < 2 ^ 62 then some (rgD 0 j.toNat, p.2, .no) else none
  | _ => none
def fRg2 (fs : FA) : FI := fun δ => (fs δ).bind fun p => match p.1 with
  | [.int i, .int j] => if -(2 ^ 62) ≤ i ∧ i < 2 ^ 62 ∧ -(2 ^ 62) ≤ j ∧ j < 2 ^ 62 then some (rgD i (j - i).toNat, p.2, .no) else none
  | _ => none
def fEnum (fs : FA) : FI := fun δ => (fs δ).bind fun p => match p.1 with
  | [.lst xs] => some (enumD 0 xs, p.2, .no)
  | [.wl xs] => some (enumD 0 xs, p.2, .no)
  | _ => none
def fZip (fs : FA) : FI := fun δ => (fs δ).bind fun p => (two? p.1).bind fun q => (zipXs q.1 q.2).bind fun xs => some (xs, p.2, .no)
theorem noExt {θ : Nat → V} {δ' τ : Env} {xs : List D} {Q : List D → Env → Bk → Prop} (w : ∀ θ' ext bk, BkLk θ θ' .no ext bk → Q xs (inst θ' δ' ++ (τ ++ ext)) bk) : Q xs (inst θ δ' ++ τ) .id := by
  have := w θ [] .id .id
  rwa [List.append_nil] at this
instance [b : IA n rs fs] : II n (rRg1 rs) (fRg1 fs) := ⟨fun {δ xs δ' bk} hl h => by
  obtain ⟨⟨ds, δ1⟩, h1, h⟩ := bnd h
  obtain ⟨l1, q1⟩ := b.h hl h1
  dsimp only at h
  split at h
  · split at h
    · rename_i c
      cases h
      exact ⟨⟨l1, trivial⟩, fun θ τ Q w => q1 θ τ _ ⟨c.1, c.2, noExt w⟩⟩
    · cases h
  · cases h⟩
instance [b : IA n rs fs] : II n (rRg2 rs) (fRg2 fs) := ⟨fun {δ xs δ' bk} hl h => by
  obtain ⟨⟨ds, δ1⟩, h1, h⟩ := bnd h
  obtain ⟨l1, q1⟩ := b.h hl h1
  dsimp only at h
  split at h
  · split at h
    · rename_i c
      cases h
      exact ⟨⟨l1, trivial⟩, fun θ τ Q w => q1 θ τ _ ⟨c, noExt w⟩⟩
    · cases h
  · cases h⟩
instance [b : IA n rs fs] : II n (rEnumI rs) (fEnum fs) := ⟨fun {δ xs δ' bk} hl h => by
  obtain ⟨⟨ds, δ1⟩, h1, h⟩ := bnd h
  obtain ⟨l1, q1⟩ := b.h hl h1
  dsimp only at h
  split at h
  · cases h; exact ⟨⟨l1, trivial⟩, fun θ τ Q w => q1 θ τ _ (noExt w)⟩
  · cases h; exact ⟨⟨l1, trivial⟩, fun θ τ Q w => q1 θ τ _ (noExt w)⟩
  · cases h⟩
instance [b : IA n rs fs] : II n (rZipI rs) (fZip fs) := ⟨fun {δ xs δ' bk} hl h => by
  obtain ⟨⟨ds, δ1⟩, h1, h⟩ := bnd h
  obtain ⟨l1, q1⟩ := b.h hl h1
  obtain ⟨⟨d, e⟩, h2, h⟩ := bnd h
  have h2 : ds = [d, e] := two_of h2
  obtain ⟨xs, h3, h⟩ := bnd h
  cases h
  refine ⟨⟨l1, trivial⟩, fun θ τ Q w => q1 θ τ _ ?_⟩
  rw [h2]
  exact onS h3 (noExt w)⟩
def bkF (b : BkF) (δ : Env) : Option Env := match b with
  | .no => some δ
  | .give j s => match δ[j]? with
    | some (.vl _) => some (δ.set j s)
    | _ => none
theorem bk_f {θ θ' : Nat → V} {b : BkF} {ext : Env} {bk : Bk} {δ δ' τ : Env} (hb : b.bd n) (hl : δ.length = n) (L : BkLk θ θ' b ext bk) (h : bkF b δ = some δ') :
    ∀ (k : Env → Prop), k (inst θ δ' ++ τ) → bkE bk k (inst θ' δ ++ (τ ++ ext)) := by
  intro k w
  cases L with
  | id => cases h; rw [List.append_nil]; exact w
  | drop s => cases h; show k _; rw [← List.append_assoc, List.dropLast_concat]; exact w
  | give j s v =>
    obtain ⟨hj, p, o, rfl⟩ := hb
    have h : (match δ[j]? with
      | some (.vl _) => some (δ.set j (Slot.ow p o))
      | _ => none) = some δ' := h
    cases e : δ[j]? with
    | none => rw [e] at h; cases h
    | some z => rw [e] at h; cases z with
      | vl u =>
        cases h
        refine ⟨?_, ?_⟩
        · rw [sGet hl hj, e]
          show some (Slot.vl (updθ θ j v j)) = _
          unfold updθ; rw [if_pos rfl]
        · rw [← List.append_assoc, List.dropLast_concat, sSet hl hj fun _ => rfl, inst_unlock]
          · exact w
          · intro w h; cases h
      | _ => cases h
theorem bkF_len {b : BkF} {δ δ' : Env} (hl : δ.length = n) (h : bkF b δ = some δ') : δ'.length = n := by
  cases b with
  | no => cases h; exact hl
  | give j s =>
    have h : (match δ[j]? with
      | some (.vl _) => some (δ.set j s)
      | _ => none) = some δ' := h
    split at h
    · cases h; rw [List.length_set]; exact hl
    · cases h
/-! for -/
def goForF (g : FG) (r : FS) : List D → Env → Option Out
  | [], δ => some (.nx δ)
  | x :: xs, δ => (g x δ).bind fun δ' => (r δ').bind fun o => match o with
    | .nx δ2 => goForF g r xs δ2
    | .ct δ2 => goForF g r xs δ2
    | .bk δ2 => some (.nx δ2)
    | .rt s δ2 => some (.rt s δ2)
theorem goFor_f [a : IG n rg fg] [b : IS n r f] : ∀ {xs : List D} {δ : Env} {o : Out}, δ.length = n → goForF fg f xs δ = some o → o.len n ∧
    ∀ (θ : Nat → V) (T : Env) (P : Env → Prop) (rtn : Slot → Env → Prop) (fin : Env → Prop), (∀ δ', δ'.length = n → P (inst θ δ' ++ T)) →
      (match o with
        | .nx δ' => fin (inst θ δ' ++ T)
        | .rt s δ' => ∀ θ' τ', rtn s (inst θ' δ' ++ τ')
        | _ => False) → goFor P rg r rtn fin xs (inst θ δ ++ T)
  | [], δ, o, hl, h => by cases h; exact ⟨hl, fun θ T P rtn fin hP w => w⟩
  | x :: xs, δ, o, hl, h => by
    obtain ⟨δ1, h1, h⟩ := bnd h
    obtain ⟨l1, q1⟩ := a.h hl h1
    obtain ⟨o1, h2, h⟩ := bnd h
    obtain ⟨l2, q2⟩ := b.h l1 h2
    cases o1 with
    | nx δ2 =>
      obtain ⟨l3, q3⟩ := goFor_f l2 h
      exact ⟨l3, fun θ T P rtn fin hP w => q1 θ T _ (q2 θ T _ ⟨hP _ l2, q3 θ T P rtn fin hP w⟩)⟩
    | ct δ2 =>
      obtain ⟨l3, q3⟩ := goFor_f l2 h
      exact ⟨l3, fun θ T P rtn fin hP w => q1 θ T _ (q2 θ T _ ⟨hP _ l2, q3 θ T P rtn fin hP w⟩)⟩
    | bk δ2 => cases h; exact ⟨l2, fun θ T P rtn fin hP w => q1 θ T _ (q2 θ T _ ⟨hP _ l2, w⟩)⟩
    | rt s δ2 => cases h; exact ⟨l2, fun θ T P rtn fin hP w => q1 θ T _ (q2 θ T _ w)⟩
def finFor (b : BkF) : Out → Option Out
  | .nx δ => (bkF b δ).bind fun δ' => some (.nx δ')
  | o => some o
def fFor (fi : FI) (g : FG) (r : FS) : FS := fun δ => (fi δ).bind fun p => (goForF g r p.1 p.2.1).bind (finFor p.2.2)
variable {ri : RI} {fi : FI}
theorem drop_inst {θ θ' : Nat → V} {δ δ' T : Env} (h : δ.length = n) (h' : δ'.length = n) : (inst θ δ ++ T).drop n = (inst θ' δ' ++ T).drop n := by
  rw [List.drop_append_of_le_length (by rw [inst_len]; omega), List.drop_append_of_le_length (by rw [inst_len]; omega), List.drop_eq_nil_of_le (by rw [inst_len]; omega), List.drop_eq_nil_of_le (by rw [inst_len]; omega)]
theorem goFor_not {g : FG} {r : FS} : ∀ {xs : List D} {δ : Env} {o : Out}, goForF g r xs δ = some o → (∃ δ', o = .nx δ') ∨ ∃ s δ', o = .rt s δ'
  | [], _, _, h => by cases h; exact .inl ⟨_, rfl⟩
  | x :: xs, δ, o, h => by
    obtain ⟨δ1, h1, h⟩ := bnd h
    obtain ⟨o1, h2, h⟩ := bnd h
    cases o1 with
    | nx δ2 => exact goFor_not h
    | ct δ2 => exact goFor_not h
    | bk δ2 => cases h; exact .inl ⟨_, rfl⟩
    | rt s δ2 => cases h; exact .inr ⟨_, _, rfl⟩
instance [c : II n ri fi] [a : IG n rg fg] [b : IS n r f] : IS n (rFor n ri rg r) (fFor fi fg f) := ⟨fun {δ o} hl h => by
  obtain ⟨⟨xs, δ1, bk⟩, h1, h⟩ := bnd h
  obtain ⟨⟨l1, b1⟩, q1⟩ := c.h hl h1
  obtain ⟨o1, h2, h⟩ := bnd h
  obtain ⟨l2, q2⟩ := goFor_f (rg := rg) (r := r) l1 h2
  have h : finFor bk o1 = some o := h
  rcases goFor_not h2 with ⟨δ2, rfl⟩ | ⟨s, δ2, rfl⟩
  · obtain ⟨δ3, h3, h⟩ := bnd h
    cases h
    refine ⟨bkF_len l2 h3, fun θ τ De w => q1 θ τ _ fun θ' ext bk L => ?_⟩
    exact q2 θ' (τ ++ ext) _ _ _ (fun δ' l' => drop_inst l' l1) (bk_f b1 l2 L h3 _ w)
  · cases h
    refine ⟨l2, fun θ τ De w => q1 θ τ _ fun θ' ext bk L => ?_⟩
    exact q2 θ' (τ ++ ext) _ _ _ (fun δ' l' => drop_inst l' l1) w⟩
end
end DL
end
section
set_option Elab.async false
set_option linter.all false
set_option maxRecDepth 100000
set_option maxHeartbeats 1000000
namespace DL
open PySem L2
section
variable {n : Nat} {ra rb rc rv re : RE} {fa fb fc fv fe : FE} {rs : RA} {fs : FA} {r s : RS} {f g : FS} {rt rt1 : RT} {ft ft1 : FT} {rg rg1 : RG} {fg fg1 : FG} {ri ri1 : RI} {fi fi1 : FI}
/-! x[i] = v -/
def gPut : Ob → D → D → Option Ob
  | .lst xs, .int i, v => (ixN xs.length i).bind fun j => some (.lst (xs.set j v))
  | .dK kvs, i, v => i.key.bind fun j => if kvs.length < sizeLine then some (.dK (kput kvs j v)) else none
  | .dT kvs, .tup is, v => (D.keys is).bind fun j => if kvs.length < sizeLine then some (.dT (kput kvs j v)) else none
  | _, _, _ => none
theorem gPut_ok {o o' : Ob} {i v : D} (h : gPut o i v = some o') (k : Ob → Prop) (w : k o') : putD o i v k := by
  cases o with
  | lst xs => cases i with
    | int i => obtain ⟨j, h1, h⟩ := bnd (show (ixN xs.length i).bind (fun j => some (Ob.lst (xs.set j v))) = _ from h); cases h; exact onS h1 w
    | _ => cases h
  | dK kvs =>
    obtain ⟨j, h1, h⟩ := bnd (show i.key.bind (fun j => if kvs.length < sizeLine then some (Ob.dK (kput kvs j v)) else none) = _ from h)
    by_cases c : kvs.length < sizeLine
    · rw [if_pos c] at h; cases h; exact onS h1 ⟨c, w⟩
    · rw [if_neg c] at h; cases h
  | dT kvs => cases i with
    | tup is =>
      obtain ⟨j, h1, h⟩ := bnd (show (D.keys is).bind (fun j => if kvs.length < sizeLine then some (Ob.dT (kput kvs j v)) else none) = _ from h)
      by_cases c : kvs.length < sizeLine
      · rw [if_pos c] at h; cases h; exact onS h1 ⟨c, w⟩
      · rw [if_neg c] at h; cases h
    | _ => cases h
def fSub (fa fb fv : FE) (q : Bool) : FS := f1 fv fun v δ1 => (fa δ1).bind fun p => if staysB q p.1 = true then f1 fb (fun i δ3 => (obAt δ3 p.1).bind fun ob => (gPut ob i v).bind fun ob' => some (.nx (setOb δ3 p.1 ob'))) p.2 else none
instance {q : Bool} [a : IE n ra fa] [b : IE n rb fb] [c : IE n rv fv] : IS n (rSub ra rb rv q) (fSub fa fb fv q) := ⟨fun {δ o} hl h => by
  obtain ⟨v, δ1, l1, h, q1⟩ := i1 (ra := rv) hl h
  obtain ⟨⟨x, δ2⟩, h2, h⟩ := bnd h
  obtain ⟨⟨l2, b2⟩, q2⟩ := a.h l1 h2
  by_cases cs : staysB q x = true
  · rw [if_pos cs] at h
    obtain ⟨i, δ3, l3, h, q3⟩ := i1 (ra := rb) l2 h
    obtain ⟨ob, h4, h⟩ := bnd h
    obtain ⟨ob', h5, h⟩ := bnd h
    cases h
    obtain ⟨l6, e6⟩ := setOb_inst b2 l3 ob'
    refine ⟨l6, fun θ τ De w => q1 θ τ _ (q2 θ τ _ ⟨stays_b cs, q3 θ τ _ ?_⟩)⟩
    rw [obAt_inst b2 l3]
    exact onS h4 (gPut_ok h5 _ (by rw [e6]; exact w))
  · rw [if_neg cs] at h; cases h⟩
/-! self.f = v -/
def setFSF (C : Addr) (f : Str) (j : Nat) (x : Fv) (δ : Env) : Option Slot → Option Env
  | some (.ow p (.ins C' fs)) => if C' = C ∧ fs.length < 1000 then some (δ.set j (.ow p (.ins C (putFv f x fs)))) else none
  | _ => none
theorem setFS_f {C : Addr} {f : Str} {j : Nat} {x : Fv} {δ δ' : Env} (hj : j < n) (hl : δ.length = n) (h : setFSF C f j x δ δ[j]? = some δ') :
    δ'.length = n ∧ ∀ (θ : Nat → V) (τ : Env) (k : Env → Prop), k (inst θ δ' ++ τ) → setFS C f j x k (inst θ δ ++ τ) (inst θ δ ++ τ)[j]? := by
  cases e : δ[j]? with
  | none => rw [e] at h; cases h
  | some z =>
    rw [e] at h
    cases z with
    | ow p o => cases o with
      | ob o => cases h
      | ins C' fs =>
        have h : (if C' = C ∧ fs.length < 1000 then some (δ.set j (.ow p (.ins C (putFv f x fs)))) else none) = some δ' := h
        by_cases c : C' = C ∧ fs.length < 1000
        · rw [if_pos c] at h
          cases h
          refine ⟨by rw [List.length_set]; exact hl, fun θ τ k w => ?_⟩
          rw [sGet hl hj, e]
          refine ⟨c.1, c.2, ?_⟩
          rw [sSet hl hj fun _ => rfl]; exact w
        · rw [if_neg c] at h; cases h
    | _ => cases h
def setFXF (C : Addr) (f : Str) (j : Nat) (y : Rd) (δ : Env) : Option Env := match y with
  | .im d => setFSF C f j (.im d) δ δ[j]?
  | .tm (.ob ob) => setFSF C f j (.ob ob) δ δ[j]?
  | .tm (.ins C2 fs2) => if fs2.all (fun p => p.2.frz) = true then setFSF C f j (.im (.obj C2 (fsD fs2))) δ δ[j]? else none
  | .vr i => (imSF δ i δ[i]?).bind fun p => setFSF C f j (.im p.1) p.2 p.2[j]?
  | _ => none
theorem setFX_f {C : Addr} {f : Str} {j : Nat} {y : Rd} {δ δ' : Env} (hj : j < n) (hb : y.bd n) (hl : δ.length = n) (h : setFXF C f j y δ = some δ') :
    δ'.length = n ∧ ∀ (θ : Nat → V) (τ : Env) (k : Env → Prop), k (inst θ δ' ++ τ) → setFX C f j k y (inst θ δ ++ τ) := by
  cases y with
  | im d => exact setFS_f hj hl h
  | «at» i f => cases h
  | vr i =>
    obtain ⟨⟨d, δ1⟩, h1, h⟩ := bnd h
    obtain ⟨l1, q1⟩ := asIm_f (x := .vr i) hb hl h1
    obtain ⟨l2, q2⟩ := setFS_f hj l1 h
    exact ⟨l2, fun θ τ k w => q1 θ τ (fun d δ' => setFS C f j (.im d) k δ' δ'[j]?) (q2 θ τ k w)⟩
  | tm o => cases o with
    | ob o => exact setFS_f hj hl h
    | ins C2 fs2 =>
      have h : (if fs2.all (fun p => p.2.frz) = true then setFSF C f j (.im (.obj C2 (fsD fs2))) δ δ[j]? else none) = some δ' := h
      by_cases c : fs2.all (fun p => p.2.frz) = true
      · rw [if_pos c] at h
        obtain ⟨l2, q2⟩ := setFS_f hj hl h
        exact ⟨l2, fun θ τ k w => ⟨c, q2 θ τ k w⟩⟩
      · rw [if_neg c] at h; cases h
def fSetF (C : Addr) (f : Str) (j : Nat) (fv : FE) : FS := fun δ => (fv δ).bind fun p => (setFXF C f j p.1 p.2).bind fun δ' => some (.nx δ')
instance {C : Addr} {f : Str} {j : Nat} [l : Lt j n] [a : IE n rv fv] : IS n (rSetF C f j rv) (fSetF C f j fv) := ⟨fun {δ o} hl h => by
  obtain ⟨⟨x, δ1⟩, h1, h⟩ := bnd h
  obtain ⟨⟨l1, b1⟩, q1⟩ := a.h hl h1
  obtain ⟨δ2, h2, h⟩ := bnd h
  cases h
  obtain ⟨l2, q2⟩ := setFX_f l.h b1 l1 h2
  exact ⟨l2, fun θ τ De w => q1 θ τ _ (q2 θ τ _ w)⟩⟩
/-! for .. in d.items() -/
def isVl : Option Slot → Bool
  | some (.vl _) => true
  | _ => false
def goItF (j : Nat) (g : FG) (r : FS) : List D → Env → Option Env
  | [], δ => some δ
  | x :: xs, δ => (g x δ).bind fun δ' => (r δ').bind fun o => match o with
    | .nx δ2 => if isVl δ2[j]? = true then goItF j g r xs δ2 else none
    | .ct δ2 => if isVl δ2[j]? = true then goItF j g r xs δ2 else none
    | .bk δ2 => if isVl δ2[j]? = true then some δ2 else none
    | .rt _ _ => none
def itGF (j : Nat) (g : FG) (r : FS) (xs : List D) (δ : Env) : Option Slot → Option Out
  | some (.ow p o) => (goItF j g r xs (δ.set j (.vl .non))).bind fun δ1 => (bkF (.give j (.ow p o)) δ1).bind fun δ2 => some (.nx δ2)
  | _ => none
theorem goIt_f {j : Nat} (hj : j < n) [a : IG n rg fg] [b : IS n r f] : ∀ {xs : List D} {δ δ' : Env}, δ.length = n → goItF j fg f xs δ = some δ' → δ'.length = n ∧
    ∀ (θ : Nat → V) (T : Env) (P : Env → Prop) (rtn : Slot → Env → Prop) (fin : Env → Prop), (∀ δ', δ'.length = n → isVl δ'[j]? = true → P (inst θ δ' ++ T)) → fin (inst θ δ' ++ T) → goFor P rg r rtn fin xs (inst θ δ ++ T)
  | [], δ, o, hl, h => by cases h; exact ⟨hl, fun θ T P rtn fin hP w => w⟩
  | x :: xs, δ, o, hl, h => by
    obtain ⟨δ1, h1, h⟩ := bnd h
    obtain ⟨l1, q1⟩ := a.h hl h1
    obtain ⟨o1, h2, h⟩ := bnd h
    obtain ⟨l2, q2⟩ := b.h l1 h2
    cases o1 with
    | nx δ2 =>
      have h : (if isVl δ2[j]? = true then goItF j fg f xs δ2 else none) = some o := h
      by_cases c : isVl δ2[j]? = true
      · rw [if_pos c] at h
        obtain ⟨l3, q3⟩ := goIt_f hj l2 h
        exact ⟨l3, fun θ T P rtn fin hP w => q1 θ T _ (q2 θ T _ ⟨hP _ l2 c, q3 θ T P rtn fin hP w⟩)⟩
      · rw [if_neg c] at h; cases h
    | ct δ2 =>
      have h : (if isVl δ2[j]? = true then goItF j fg f xs δ2 else none) = some o := h
      by_cases c : isVl δ2[j]? = true
      · rw [if_pos c] at h
        obtain ⟨l3, q3⟩ := goIt_f hj l2 h
        exact ⟨l3, fun θ T P rtn fin hP w => q1 θ T _ (q2 θ T _ ⟨hP _ l2 c, q3 θ T P rtn fin hP w⟩)⟩
      · rw [if_neg c] at h; cases h
    | bk δ2 =>
      have h : (if isVl δ2[j]? = true then some δ2 else none) = some o := h
      by_cases c : isVl δ2[j]? = true
      · rw [if_pos c] at h
        cases h; exact ⟨l2, fun θ T P rtn fin hP w => q1 θ T _ (q2 θ T _ ⟨hP _ l2 c, w⟩)⟩
      · rw [if_neg c] at h; cases h
    | rt s δ2 => cases h
def fForItems (x : Rd) (g : FG) (r : FS) : FS := fun δ => (dkOf (obAt δ x)).bind fun kvs => itGF (plJ x) g r (itemsD kvs) δ δ[plJ x]?
theorem give_f {j : Nat} {p : Pin} {o : Ow} {δ δ' : Env} (hj : j < n) (hl : δ.length = n) (h : bkF (.give j (.ow p o)) δ = some δ') :
    δ'.length = n ∧ ∀ (θ : Nat → V) (v : V) (τ : Env), (inst (updθ θ j v) δ ++ τ)[j]? = some (.vl v) ∧ (inst (updθ θ j v) δ ++ τ).set j (.ow p o) = inst θ δ' ++ τ := by
  refine ⟨bkF_len hl h, fun θ v τ => ?_⟩
  have h : (match δ[j]? with
    | some (.vl _) => some (δ.set j (Slot.ow p o))
    | _ => none) = some δ' := h
  cases e : δ[j]? with
  | none => rw [e] at h; cases h
  | some z => rw [e] at h; cases z with
    | vl u =>
      cases h
      refine ⟨?_, ?_⟩
      · rw [sGet hl hj, e]
        show some (Slot.vl (updθ θ j v j)) = _
        unfold updθ; rw [if_pos rfl]
      · rw [sSet hl hj fun _ => rfl, inst_unlock]
        intro w h; cases h
    | _ => cases h
theorem forItems_f {x : Rd} [a : IG n rg fg] [b : IS n r f] {δ : Env} {o : Out} (hb : x.bd n) (hj : plJ x < n) (hl : δ.length = n) (h : fForItems x fg f δ = some o) :
    o.len n ∧ ∀ (θ : Nat → V) (τ : Env) (De : DEnds), o.app θ τ De → rForItems n x rg r De (inst θ δ ++ τ) := by
  obtain ⟨kvs, h1, h⟩ := bnd h
  have h1 := dk_of h1
  generalize ej : plJ x = j at *
  have go : ∀ (θ : Nat → V) (τ : Env) (De : DEnds), rForItems n x rg r De (inst θ δ ++ τ) = itG n j rg r (itemsD kvs) De (inst θ δ ++ τ) (δ[j]?.map (instS (θ j))) := fun θ τ De => by
    show isDK _ _ = _
    rw [obAt_inst hb hl, h1]
    show itG n (plJ x) rg r (itemsD kvs) De _ (inst θ δ ++ τ)[plJ x]? = _
    rw [ej, sGet hl hj]
  cases e : δ[j]? with
  | none => rw [e] at h; cases h
  | some z =>
    rw [e] at h
    cases z with
    | ow p ob =>
      obtain ⟨δ2, h2, h⟩ := bnd h
      obtain ⟨δ3, h3, h⟩ := bnd h
      cases h
      have l1 : (δ.set j (.vl .non)).length = n := by rw [List.length_set]; exact hl
      obtain ⟨l2, q2⟩ := goIt_f (rg := rg) (r := r) hj l1 h2
      obtain ⟨l3, q3⟩ := give_f hj l2 h3
      refine ⟨l3, fun θ τ De w => ?_⟩
      rw [go, e]
      intro v
      rw [List.set_append_left _ _ (by rw [inst_len]; omega), ← inst_lock θ δ j v .non]
      refine q2 (updθ θ j v) τ _ _ _ (fun δ' l' c => ⟨drop_inst l' hl, ?_⟩) ⟨(q3 θ v τ).1, ?_⟩
      · rw [sGet l' hj]
        revert c
        cases δ'[j]? with
        | none => intro c; cases c
        | some s => cases s with
          | vl u => intro _; show some (Slot.vl (updθ θ j v j)) = _; unfold updθ; rw [if_pos rfl]
          | _ => intro c; cases c
      · rw [(q3 θ v τ).2]; exact w
    | _ => cases h
instance {j : Nat} [l : Lt j n] [a : IG n rg fg] [b : IS n r f] : IS n (rForItems n (.vr j) rg r) (fForItems (.vr j) fg f) := ⟨fun hl h => forItems_f l.h l.h hl h⟩
def clsB (C : Addr) : Option Slot → Bool
  | some (.ow _ (.ins C' _)) => decide (C' = C)
  | _ => false
def fForItemsF (C : Addr) (j : Nat) (f : Str) (g : FG) (r : FS) : FS := fun δ => if clsB C δ[j]? = true then fForItems (.at j f) g r δ else none
instance {C : Addr} {j : Nat} {fl : Str} [l : Lt j n] [a : IG n rg fg] [b : IS n r f] : IS n (rForItemsF C n j fl rg r) (fForItemsF C j fl fg f) := ⟨fun {δ o} hl h => by
  have h : (if clsB C δ[j]? = true then fForItems (.at j fl) fg f δ else none) = some o := h
  by_cases c : clsB C δ[j]? = true
  · rw [if_pos c] at h
    obtain ⟨l2, q2⟩ := forItems_f (rg := rg) (r := r) (x := .at j fl) l.h l.h hl h
    refine ⟨l2, fun θ τ De w => ⟨?_, q2 θ τ De w⟩⟩
    rw [sGet hl l.h]
    revert c
    cases δ[j]? with
    | none => intro c; cases c
    | some s => cases s with
      | ow p o => cases o with
        | ob o => intro c; cases c
        | ins C' fs => intro c; exact of_decide_eq_true (p := C' = C) c
      | _ => intro c; cases c
  · rw [if_neg c] at h; cases h⟩
/-! ### list comprehensions -/
variable {vs vs1 : List Nat}
class AllLt (vs : List Nat) (n : Nat) : Prop where
  h : ∀ v ∈ vs, v < n
instance : AllLt [] n := ⟨fun v q => (by cases q)⟩
instance {v : Nat} [l : Lt v n] [a : AllLt vs n] : AllLt (v :: vs) n := ⟨fun u q => (List.mem_cons.mp q).elim (fun e => e ▸ l.h) (a.h u)⟩
theorem wipeE_len : ∀ (vs : List Nat) (δ : Env), (wipeE vs δ).length = δ.length
  | [], _ => rfl
  | v :: vs, δ => by show ((wipeE vs δ).set v .un).length = _; rw [List.length_set, wipeE_len]
theorem wipeE_inst {δ : Env} (hl : δ.length = n) (θ : Nat → V) (τ : Env) : ∀ (vs : List Nat), (∀ v ∈ vs, v < n) → wipeE vs (inst θ δ ++ τ) = inst θ (wipeE vs δ) ++ τ
  | [], _ => rfl
  | v :: vs, h => by
    show (wipeE vs (inst θ δ ++ τ)).set v .un = _
    rw [wipeE_inst hl θ τ vs fun u q => h u (List.mem_cons_of_mem _ q), sSet (by rw [wipeE_len]; exact hl) (h v (List.mem_cons_self ..)) fun _ => rfl]
    rfl
theorem restE_len : ∀ (vs : List Nat) (δ1 δ : Env), (restE vs δ1 δ).length = δ.length
  | [], _, _ => rfl
  | v :: vs, δ1, δ => by show ((restE vs δ1 δ).set v _).length = _; rw [List.length_set, restE_len]
theorem restE_inst {δ1 δ : Env} (h1 : δ1.length = n) (hl : δ.length = n) (θ : Nat → V) (τ : Env) : ∀ (vs : List Nat), (∀ v ∈ vs, v < n) → restE vs (inst θ δ1 ++ τ) (inst θ δ ++ τ) = inst θ (restE vs δ1 δ) ++ τ
  | [], _ => rfl
  | v :: vs, h => by
    have hv : v < n := h v (List.mem_cons_self ..)
    show (restE vs (inst θ δ1 ++ τ) (inst θ δ ++ τ)).set v (((inst θ δ1 ++ τ)[v]?).getD .un) = inst θ ((restE vs δ1 δ).set v ((δ1[v]?).getD .un)) ++ τ
    rw [restE_inst h1 hl θ τ vs fun u q => h u (List.mem_cons_of_mem _ q), sGet h1 hv, List.set_append_left _ _ (by rw [inst_len, restE_len]; omega), inst_set]
    congr 2
    cases δ1[v]? with
    | none => rfl
    | some s => rfl
theorem noOw_inst {δ : Env} (hl : δ.length = n) (θ : Nat → V) (τ : Env) : ∀ {vs : List Nat}, (∀ v ∈ vs, v < n) → noOw vs δ = true → noOw vs (inst θ δ ++ τ) = true := fun {vs} hv h => by
  unfold noOw at h ⊢
  rw [List.all_eq_true] at h ⊢
  intro v q
  rw [sGet hl (hv v q)]
  have := h v q
  revert this
  cases δ[v]? with
  | none => intro w; exact w
  | some s => cases s <;> (intro w; first | exact w | rfl)
class ITs (n : Nat) (r : RT) (f : outParam FT) : Prop where
  h : ∀ {δ : Env} {x : Bool} {δ' : Env}, δ.length = n → f δ = some (x, δ') → δ'.length = n ∧ ∀ (θ : Nat → V) (τ : Env) (Q : Bool → Env → Prop), Q x (inst θ δ' ++ τ) → r (inst θ δ ++ τ) Q
def fYes : FT := fun δ => some (true, δ)
instance : IT n rYes fYes := ⟨fun hl h => by cases h; exact ⟨hl, fun _ _ _ w => w⟩⟩
def lcF (vs : List Nat) (g : FG) (t : FT) (e : FE) : List D → List D → Env → Option (List D × Env)
  | [], acc, δ => some (acc, δ)
  | x :: xs, acc, δ => (g x δ).bind fun δ1 => (t δ1).bind fun p => if p.1 = true then (e p.2).bind fun y => (asImF y.1 y.2).bind fun q => lcF vs g t e xs (acc ++ [q.1]) (wipeE vs q.2) else lcF vs g t e xs acc (wipeE vs p.2)
theorem tailT {θ θ' : Nat → V} {δ δ' T : Env} (h : δ.length = n) (h' : δ'.length = n) : Tail n (inst θ δ ++ T) (inst θ' δ' ++ T) := drop_inst h' h
theorem setAcc {θ : Nat → V} {δ T0 T1 : Env} {m : Nat} {s s' : Slot} (hl : δ.length = n) (hm : m = n + T0.length) : (inst θ δ ++ (T0 ++ s :: T1)).set m s' = inst θ δ ++ (T0 ++ s' :: T1) := by
  rw [List.set_append_right _ _ (by rw [inst_len]; omega), List.set_append_right _ _ (by rw [inst_len]; omega)]
  rw [show m - (inst θ δ).length - T0.length = 0 by rw [inst_len]; omega]
  rfl
theorem goLc_f {m : Nat} [a : IG n rg fg] [b : IT n rt ft] [c : IE n re fe] (hv : ∀ v ∈ vs, v < n) : ∀ {xs acc : List D} {δ : Env} {acc' : List D} {δ' : Env}, δ.length = n → lcF vs fg ft fe xs acc δ = some (acc', δ') → δ'.length = n ∧
    ∀ (θ : Nat → V) (T0 T1 : Env) (fin : List D → Env → Prop), m = n + T0.length → fin acc' (inst θ δ' ++ (T0 ++ acS acc' :: T1)) → goLc n m vs rg rt re fin xs acc (inst θ δ ++ (T0 ++ acS acc :: T1))
  | [], acc, δ, acc', δ', hl, h => by cases h; exact ⟨hl, fun _ _ _ _ _ w => w⟩
  | x :: xs, acc, δ, acc', δ', hl, h => by
    obtain ⟨δ1, h1, h⟩ := bnd h
    obtain ⟨l1, q1⟩ := a.h hl h1
    obtain ⟨⟨z, δ2⟩, h2, h⟩ := bnd h
    obtain ⟨l2, q2⟩ := b.h l1 h2
    cases z with
    | false =>
      have h : lcF vs fg ft fe xs acc (wipeE vs δ2) = some (acc', δ') := h
      obtain ⟨l3, q3⟩ := goLc_f (m := m) hv (by rw [wipeE_len]; exact l2) h
      refine ⟨l3, fun θ T0 T1 fin hm w => q1 θ _ _ (q2 θ _ _ ?_)⟩
      rw [if_neg Bool.false_ne_true]
      refine ⟨tailT hl l2, ?_⟩
      rw [wipeE_inst l2 θ _ vs hv]
      exact q3 θ T0 T1 fin hm w
    | true =>
      obtain ⟨⟨y, δ3⟩, h3, h⟩ := bnd h
      obtain ⟨⟨l3, b3⟩, q3⟩ := c.h l2 h3
      obtain ⟨⟨d, δ4⟩, h4, h⟩ := bnd h
      obtain ⟨l4, q4⟩ := asIm_f b3 l3 h4
      obtain ⟨l5, q5⟩ := goLc_f (m := m) hv (by rw [wipeE_len]; exact l4) h
      refine ⟨l5, fun θ T0 T1 fin hm w => q1 θ _ _ (q2 θ _ _ ?_)⟩
      rw [if_pos rfl]
      refine q3 θ _ _ (q4 θ _ _ ⟨tailT hl l4, ?_⟩)
      rw [setAcc l4 hm, wipeE_inst l4 θ _ vs hv]
      exact q5 θ T0 T1 fin hm w
def fLc (vs : List Nat) (fi : FI) (g : FG) (t : FT) (e : FE) : FE := fun δ => (fi δ).bind fun p => if noOw vs p.2.1 = true ∧ p.1.length ≤ sizeLine then (lcF vs g t e p.1 [] (wipeE vs p.2.1)).bind fun q => (bkF p.2.2 (restE vs p.2.1 q.2)).bind fun δ2 => some (.tm (.ob (.lst q.1)), δ2) else none
instance [v : AllLt vs n] [i : II n ri fi] [a : IG n rg fg] [b : IT n rt ft] [c : IE n re fe] : IE n (rLc n vs ri rg rt re) (fLc vs fi fg ft fe) := ⟨fun {δ x δ'} hl h => by
  obtain ⟨⟨xs, δ1, bk⟩, h1, h⟩ := bnd h
  obtain ⟨⟨l1, b1⟩, q1⟩ := i.h hl h1
  have h : (if noOw vs δ1 = true ∧ xs.length ≤ sizeLine then (lcF vs fg ft fe xs [] (wipeE vs δ1)).bind fun q => (bkF bk (restE vs δ1 q.2)).bind fun δ2 => some (Rd.tm (.ob (.lst q.1)), δ2) else none) = some (x, δ') := h
  by_cases cc : noOw vs δ1 = true ∧ xs.length ≤ sizeLine
  · rw [if_pos cc] at h
    obtain ⟨⟨acc, δ2⟩, h2, h⟩ := bnd h
    obtain ⟨δ3, h3, h⟩ := bnd h
    cases h
    obtain ⟨l2, q2⟩ := goLc_f (rg := rg) (rt := rt) (re := re) (m := 0) v.h (by rw [wipeE_len]; exact l1) h2
    refine ⟨⟨bkF_len (by rw [restE_len]; exact l2) h3, trivial⟩, fun θ τ Q w => q1 θ τ _ fun θ' ext bk' L => ⟨noOw_inst l1 θ' _ v.h cc.1, cc.2, ?_⟩⟩
    obtain ⟨_, q2⟩ := goLc_f (rg := rg) (rt := rt) (re := re) (m := (inst θ' δ1 ++ (τ ++ ext)).length) v.h (by rw [wipeE_len]; exact l1) h2
    rw [List.append_assoc, wipeE_inst l1 θ' _ vs v.h]
    refine q2 θ' (τ ++ ext) [] _ (by simp [inst_len, l1]) ?_
    have dl : (inst θ' δ2 ++ ((τ ++ ext) ++ [acS acc])).dropLast = inst θ' δ2 ++ (τ ++ ext) := by rw [← List.append_assoc]; exact List.dropLast_concat
    rw [dl, restE_inst l1 l2 θ' _ vs v.h]
    exact bk_f b1 (by rw [restE_len]; exact l2) L h3 _ w
  · rw [if_neg cc] at h; cases h⟩
def lc2F (vs vs1 : List Nat) (g : FG) (t : FT) (fi1 : FI) (g1 : FG) (t1 : FT) (e : FE) : List D → List D → Env → Option (List D × Env)
  | [], acc, δ => some (acc, δ)
  | x :: xs, acc, δ => (g x δ).bind fun δ1 => (t δ1).bind fun p => if p.1 = true then (fi1 p.2).bind fun s => if acc.length + s.1.length ≤ sizeLine then (lcF vs1 g1 t1 e s.1 acc (wipeE vs1 s.2.1)).bind fun q => (bkF s.2.2 q.2).bind fun δ4 => lc2F vs vs1 g t fi1 g1 t1 e xs q.1 (wipeE vs δ4) else none else lc2F vs vs1 g t fi1 g1 t1 e xs acc (wipeE vs p.2)
theorem goLc2_f {m : Nat} [a : IG n rg fg] [b : IT n rt ft] [i : II n ri1 fi1] [a1 : IG n rg1 fg1] [b1 : IT n rt1 ft1] [c : IE n re fe] (hv : ∀ v ∈ vs, v < n) (hv1 : ∀ v ∈ vs1, v < n) : ∀ {xs acc : List D} {δ : Env} {acc' : List D} {δ' : Env}, δ.length = n → lc2F vs vs1 fg ft fi1 fg1 ft1 fe xs acc δ = some (acc', δ') → δ'.length = n ∧
    ∀ (θ : Nat → V) (T0 : Env) (fin : List D → Env → Prop), m = n + T0.length → fin acc' (inst θ δ' ++ (T0 ++ [acS acc'])) → goLc2 n m vs vs1 rg rt ri1 rg1 rt1 re fin xs acc (inst θ δ ++ (T0 ++ [acS acc]))
  | [], acc, δ, acc', δ', hl, h => by cases h; exact ⟨hl, fun _ _ _ _ w => w⟩
  | x :: xs, acc, δ, acc', δ', hl, h => by
    obtain ⟨δ1, h1, h⟩ := bnd h
    obtain ⟨l1, q1⟩ := a.h hl h1
    obtain ⟨⟨z, δ2⟩, h2, h⟩ := bnd h
    obtain ⟨l2, q2⟩ := b.h l1 h2
    cases z with
    | false =>
      have h : lc2F vs vs1 fg ft fi1 fg1 ft1 fe xs acc (wipeE vs δ2) = some (acc', δ') := h
      obtain ⟨l3, q3⟩ := goLc2_f (m := m) hv hv1 (by rw [wipeE_len]; exact l2) h
      refine ⟨l3, fun θ T0 fin hm w => q1 θ _ _ (q2 θ _ _ ?_)⟩
      rw [if_neg Bool.false_ne_true]
      refine ⟨tailT hl l2, ?_⟩
      rw [wipeE_inst l2 θ _ vs hv]
      exact q3 θ T0 fin hm w
    | true =>
      obtain ⟨⟨ys, δ3, bk⟩, h3, h⟩ := bnd h
      obtain ⟨⟨l3, bb⟩, q3⟩ := i.h l2 h3
      have h : (if acc.length + ys.length ≤ sizeLine then (lcF vs1 fg1 ft1 fe ys acc (wipeE vs1 δ3)).bind fun q => (bkF bk q.2).bind fun δ4 => lc2F vs vs1 fg ft fi1 fg1 ft1 fe xs q.1 (wipeE vs δ4) else none) = some (acc', δ') := h
      by_cases cc : acc.length + ys.length ≤ sizeLine
      · rw [if_pos cc] at h
        obtain ⟨⟨acc1, δ4⟩, h4, h⟩ := bnd h
        obtain ⟨l4, q4⟩ := goLc_f (rg := rg1) (rt := rt1) (re := re) (m := m) hv1 (by rw [wipeE_len]; exact l3) h4
        obtain ⟨δ5, h5, h⟩ := bnd h
        have l5 := bkF_len l4 h5
        obtain ⟨l6, q6⟩ := goLc2_f (m := m) hv hv1 (by rw [wipeE_len]; exact l5) h
        refine ⟨l6, fun θ T0 fin hm w => q1 θ _ _ (q2 θ _ _ ?_)⟩
        rw [if_pos rfl]
        refine q3 θ _ _ fun θ' ext bk' L => ?_
        have e1 : ∀ (s : Slot), (T0 ++ [s]) ++ ext = T0 ++ s :: ext := fun s => by rw [List.append_assoc]; rfl
        rw [e1]
        refine ⟨?_, cc, ?_⟩
        · rw [List.getElem?_append_right (by rw [inst_len]; omega), List.getElem?_append_right (by rw [inst_len]; omega), show m - (inst θ' δ3).length - T0.length = 0 by rw [inst_len]; omega]
          rfl
        · rw [wipeE_inst l3 θ' _ vs1 hv1]
          refine q4 θ' T0 ext _ hm ?_
          rw [← e1]
          refine bk_f bb l4 L h5 _ ⟨?_, ?_⟩
          · rw [setAcc (T1 := []) hl hm]
            exact tailT hl l5
          · rw [wipeE_inst l5 θ _ vs hv]
            exact q6 θ T0 fin hm w
      · rw [if_neg cc] at h; cases h
def fLc2 (vs vs1 : List Nat) (fi : FI) (g : FG) (t : FT) (fi1 : FI) (g1 : FG) (t1 : FT) (e : FE) : FE := fun δ => (fi δ).bind fun p => if noOw vs p.2.1 = true then (lc2F vs vs1 g t fi1 g1 t1 e p.1 [] (wipeE vs p.2.1)).bind fun q => (bkF p.2.2 (restE vs p.2.1 q.2)).bind fun δ2 => some (.tm (.ob (.lst q.1)), δ2) else none
instance [v : AllLt vs n] [v1 : AllLt vs1 n] [i : II n ri fi] [a : IG n rg fg] [b : IT n rt ft] [i1 : II n ri1 fi1] [a1 : IG n rg1 fg1] [b1 : IT n rt1 ft1] [c : IE n re fe] : IE n (rLc2 n vs vs1 ri rg rt ri1 rg1 rt1 re) (fLc2 vs vs1 fi fg ft fi1 fg1 ft1 fe) := ⟨fun {δ x δ'} hl h => by
  obtain ⟨⟨xs, δ1, bk⟩, h1, h⟩ := bnd h
  obtain ⟨⟨l1, b1⟩, q1⟩ := i.h hl h1
  have h : (if noOw vs δ1 = true then (lc2F vs vs1 fg ft fi1 fg1 ft1 fe xs [] (wipeE vs δ1)).bind fun q => (bkF bk (restE vs δ1 q.2)).bind fun δ2 => some (Rd.tm (.ob (.lst q.1)), δ2) else none) = some (x, δ') := h
  by_cases cc : noOw vs δ1 = true
  · rw [if_pos cc] at h
    obtain ⟨⟨acc, δ2⟩, h2, h⟩ := bnd h
    obtain ⟨δ3, h3, h⟩ := bnd h
    cases h
    obtain ⟨l2, q2⟩ := goLc2_f (rg := rg) (rt := rt) (ri1 := ri1) (rg1 := rg1) (rt1 := rt1) (re := re) (m := 0) v.h v1.h (by rw [wipeE_len]; exact l1) h2
    refine ⟨⟨bkF_len (by rw [restE_len]; exact l2) h3, trivial⟩, fun θ τ Q w => q1 θ τ _ fun θ' ext bk' L => ⟨noOw_inst l1 θ' _ v.h cc, ?_⟩⟩
    obtain ⟨_, q2⟩ := goLc2_f (rg := rg) (rt := rt) (ri1 := ri1) (rg1 := rg1) (rt1 := rt1) (re := re) (m := (inst θ' δ1 ++ (τ ++ ext)).length) v.h v1.h (by rw [wipeE_len]; exact l1) h2
    rw [List.append_assoc, wipeE_inst l1 θ' _ vs v.h]
    refine q2 θ' (τ ++ ext) _ (by simp [inst_len, l1]) ?_
    have dl : (inst θ' δ2 ++ ((τ ++ ext) ++ [acS acc])).dropLast = inst θ' δ2 ++ (τ ++ ext) := by rw [← List.append_assoc]; exact List.dropLast_concat
    rw [dl, restE_inst l1 l2 θ' _ vs v.h]
    exact bk_f b1 (by rw [restE_len]; exact l2) L h3 _ w
  · rw [if_neg cc] at h; cases h⟩
/-! ### the def -/
def finF : Nat → List Slot → Env → Option (List Slot)
  | _, [], _ => some []
  | n, .im d :: as, _ :: δ => (finF (n + 1) as δ).bind fun bs => some (.im d :: bs)
  | n, .ow (.arg _) _ :: as, .ow (.arg j) o :: δ => if j = n then (finF (n + 1) as δ).bind fun bs => some (.ow (.arg j) o :: bs) else none
  | _, _, _ => none
theorem fin_f : ∀ {k : Nat} {as : List Slot} {δ : Env} {bs : List Slot}, finF k as δ = some bs → ∀ (θ : Nat → V) (τ : Env) (P : List Slot → Prop), P bs → finR k as (inst θ δ ++ τ) P
  | k, [], δ, bs, h, θ, τ, P, w => by
    have h : some [] = some bs := by cases δ <;> exact h
    cases h
    cases hh : inst θ δ ++ τ <;> exact w
  | k, .im d :: as, s :: δ, bs, h, θ, τ, P, w => by
    have h : (finF (k + 1) as δ).bind (fun bs => some (Slot.im d :: bs)) = some bs := h
    obtain ⟨b, h1, h⟩ := bnd h
    cases h
    exact fin_f h1 (fun i => θ (i + 1)) τ _ w
  | k, .ow (.arg i) o' :: as, .ow (.arg j) o :: δ, bs, h, θ, τ, P, w => by
    have h : (if j = k then (finF (k + 1) as δ).bind (fun bs => some (Slot.ow (.arg j) o :: bs)) else none) = some bs := h
    by_cases c : j = k
    · rw [if_pos c] at h
      obtain ⟨b, h1, h⟩ := bnd h
      cases h
      exact ⟨c, fin_f h1 (fun i => θ (i + 1)) τ _ w⟩
    · rw [if_neg c] at h; cases h
  | _, .im _ :: _, [], _, h, _, _, _, _ => by cases h
  | _, .un :: _, _, _, h, _, _, _, _ => by cases h
  | _, .vl _ :: _, _, _, h, _, _, _, _ => by cases h
  | _, .ow .fresh _ :: _, _, _, h, _, _, _, _ => by cases h
  | _, .ow (.arg _) _ :: _, [], _, h, _, _, _, _ => by cases h
  | _, .ow (.arg _) _ :: _, .un :: _, _, h, _, _, _, _ => by cases h
  | _, .ow (.arg _) _ :: _, .vl _ :: _, _, h, _, _, _, _ => by cases h
  | _, .ow (.arg _) _ :: _, .im _ :: _, _, h, _, _, _, _ => by cases h
  | _, .ow (.arg _) _ :: _, .ow .fresh _ :: _, _, h, _, _, _, _ => by cases h
def endF (as : List Slot) : Out → Option (Slot × List Slot)
  | .nx δ => (finF 0 as δ).bind fun bs => some (.im .non, bs)
  | .rt s δ => (finF 0 as δ).bind fun bs => some (s, bs)
  | _ => none
/-- a def as a function: k names beside its parameters -/
def runB (k : Nat) (f : FS) : Fn := fun as => (f (as ++ List.replicate k .un)).bind (endF as)
theorem inst_self (δ : Env) : ∃ θ, inst θ δ = δ := by
  refine ⟨fun j => match δ[j]? with
    | some (.vl v) => v
    | _ => .non, List.ext_getElem? fun j => ?_⟩
  rw [inst_get]
  cases h : δ[j]? with
  | none => rfl
  | some s => cases s with
    | vl v => simp only [h, Option.map_some]; rfl
    | _ => rfl
theorem run_ok {m k : Nat} {F : Fn} (e : F = runB k f) [b : IS n r f] (hn : n = m + k) (as : List Slot) (Q : Slot → List Slot → Prop) (h : (SpD.ofF m F).r as Q) :
    r ⟨fun δ => finR 0 as δ fun bs => Q (.im .non) bs, fun s δ => finR 0 as δ fun bs => Q s bs, fun _ => False, fun _ => False⟩ (as ++ List.replicate k .un) := by
  subst e
  obtain ⟨s, bs, h, q⟩ := h
  unfold callF at h
  split at h
  · rename_i hl
    obtain ⟨o, h1, h⟩ := bnd h
    obtain ⟨_, q1⟩ := b.h (by rw [List.length_append, List.length_replicate, hl, hn]) h1
    obtain ⟨θ, eθ⟩ := inst_self (as ++ List.replicate k .un)
    have key : o.app θ [] ⟨fun δ => finR 0 as δ fun bs => Q (.im .non) bs, fun s δ => finR 0 as δ fun bs => Q s bs, fun _ => False, fun _ => False⟩ := by
      cases o with
      | nx δ => obtain ⟨b', h2, h⟩ := bnd h; cases h; exact fin_f h2 _ _ _ q
      | rt s' δ => obtain ⟨b', h2, h⟩ := bnd h; cases h; exact fun θ' τ' => fin_f h2 _ _ _ q
      | bk δ => cases h
      | ct δ => cases h
    have := q1 θ [] _ key
    rwa [eθ, List.append_nil] at this
  · cases h
end
end DL
end
section
set_option Elab.async false
set_option linter.all false
set_option maxRecDepth 100000
set_option maxHeartbeats 1000000
namespace DL
open PySem L2
/-! ### what the top has left -/
structure DefG (K : PySem.W.Frag) (mg : Str → Option Value) (x qual : Str) (st : Stmt) (ps : List Str) : Prop where
  ex : ∃ f fd, Fun K x qual st f fd ∧ mg x = some (.ref f) ∧ Binds K fd ps []
structure MethG (K : PySem.W.Frag) (C : Addr) (m qual : Str) (st : Stmt) (ps : List Str) : Prop where
  ex : ∃ f fd, Fun K m qual st f fd ∧ Cls K C ∧ Meth K C m f ∧ Binds K fd ps []
structure MakG (K : PySem.W.Frag) (mg : Str → Option Value) (x : Str) (C : Addr) (qual : Str) (st : Stmt) (ps : List Str) : Prop where
  ex : ∃ f fd, Fun K "__init__" qual st f fd ∧ Mk K C f ∧ mg x = some (.ref C) ∧ Binds K fd ps []
def defD (x : Str) (st : Stmt) : He.DefD := ⟨(x, none), x, x, defArgs st, defBody st, defScope st, [], []⟩
def methD (C m qual : Str) (st : Stmt) : He.DefD := ⟨(C, some m), m, qual, defArgs st, defBody st, defScope st, [], []⟩
theorem fun_of {K : PySem.W.Frag} {x qual : Str} {st : Stmt} {f : Addr} {fd : FuncData} (F : FunD K x qual (defArgs st) (defBody st) (defScope st) [] [] f fd) : Fun K x qual st f fd := by
  obtain ⟨oc, od, dV, kV, doc, pm, an, cdv, ct, osl, e, lk, hcd, hD, _⟩ := F.ex
  rcases hD with ⟨_, rfl⟩ | ⟨e, _⟩
  · exact ⟨⟨oc, od, kV, doc, pm, an, cdv, ct, osl, e, lk, hcd⟩, F.kp⟩
  · exact absurd rfl e
abbrev BindOk (st : Stmt) (x qual : Str) (ps : List Str) : Prop := ∀ (kV doc pm : Value) (an : Option Addr) (cdv ct : Value) (us : List Value), us.length = ps.length → bindArgs (PySem.W.fnOf x qual (defArgs st) (defBody st) (defScope st) .none kV doc pm an cdv ct) ⟨us, []⟩ = pure (ps.zip us)
section
variable {P : Program} {w : World} {K : PySem.W.Frag} {mg : Str → Option Value} {base h : Heap} {fa : List He.Fa} {fn : List He.DefD}
theorem defG_mk (X : K.In h) (G : h.Ns mainGlobals mg) (c : He.SaysD fa fn K) {x : Str} {st : Stmt} {ps : List Str} (i j : Nat) (hi : fn[i]? = some (defD x st)) (hj : fa[j]? = some (.glo x)) (hb : BindOk st x x ps) : DefG K mg x x st ps := by
  obtain ⟨fd, F⟩ := c.def_ i hi
  have F := fun_of F
  exact ⟨_, fd, F, He.glo_ok X G (c.fact j hj), F.binds hb⟩
theorem methG_mk (c : He.SaysD fa fn K) {C m qual : Str} {st : Stmt} {ps : List Str} (i j k : Nat) (hi : fn[i]? = some (methD C m qual st)) (hj : fa[j]? = some (.meth C m)) (hk : fa[k]? = some (.cls C)) (hb : BindOk st m qual ps) : MethG K (He.ga K C) m qual st ps := by
  obtain ⟨fd, F⟩ := c.def_ i hi
  have F := fun_of F
  exact ⟨_, fd, F, He.cls_ok (c.fact k hk), He.meth_ok (c.fact j hj), F.binds hb⟩
theorem makG_mk (X : K.In h) (G : h.Ns mainGlobals mg) (c : He.SaysD fa fn K) {C qual : Str} {st : Stmt} {ps : List Str} (i j k : Nat) (hi : fn[i]? = some (methD C "__init__" qual st)) (hj : fa[j]? = some (.mkr C)) (hk : fa[k]? = some (.glo C)) (hb : BindOk st "__init__" qual ps) : MakG K mg C (He.ga K C) qual st ps := by
  obtain ⟨fd, F⟩ := c.def_ i hi
  have F := fun_of F
  exact ⟨_, fd, F, He.mkr_ok (c.fact j hj), He.glo_ok X G (c.fact k hk), F.binds hb⟩
theorem gint_mk (X : K.In h) (G : h.Ns mainGlobals mg) (c : He.SaysD fa fn K) {x : Str} {z : Int} (j : Nat) (hj : fa[j]? = some (.int x z)) : GInt mg x z := by
  obtain ⟨t, e⟩ := He.int_ok X G (c.fact j hj)
  exact ⟨_, e, t, rfl⟩
theorem free_mk (X : K.In h) (G : h.Ns mainGlobals mg) (c : He.SaysD fa fn K) {x : Str} (j : Nat) (hj : fa[j]? = some (.free x)) : mg x = none := He.free_ok X G (c.fact j hj)
/-! ### a def by its function -/
abbrev Walked (P : Program) (w : World) (K : PySem.W.Frag) (mg : Str → Option Value) (base : Heap) (qual : Str) (st : Stmt) (N : List Str) (lv : Nat) (n : Nat) (f : FS) : Prop :=
  ∃ r, (∀ (a : Addr) (cdv : Value) (A : Around) (outer : List PySem.Env) (s : Shared) (H : Hp) (E : XK), Room lv (A.deeper (PyProof.Rows.envOfC qual (defScope st) s.heap.objs.size a cdv)) → TrSs (cxOf CX0 P w K mg base N qual (defScope st) a cdv A outer s H E).nox (defBody st) r) ∧ IS n r f
theorem fnOk_mk {x qual : Str} {st : Stmt} {N ps : List Str} {lv n m k : Nat} {f : FS} {a : Addr} {fd : FuncData} (Fu : Fun K x qual st a fd) (sc : FnScope N ps (defScope st)) (W : Walked P w K mg base qual st N lv n f) (hm : m = ps.length) (hk : k = N.length - ps.length) (hn : n = m + k) :
    FnOk P w K mg base CX0 (lv + 1) a fd ps (spV K (SpD.ofF m (runB k f))) := by
  obtain ⟨r, hb, i⟩ := W
  subst hk
  exact fn_mk Fu sc hm (hb a) fun as Q h => run_ok (n := n) rfl hn as Q h
theorem cal_mk {x : Str} {st : Stmt} {N ps : List Str} {lv n m k : Nat} {f : FS} (D : DefG K mg x x st ps) (sc : FnScope N ps (defScope st)) (W : Walked P w K mg base x st N lv n f) (hm : m = ps.length) (hk : k = N.length - ps.length) (hn : n = m + k) :
    Cal P w K mg base (lv + 1) x (SpD.ofF m (runB k f)) [] := by
  obtain ⟨a, fd, Fu, hg, hb⟩ := D.ex
  exact ⟨a, fd, ps, [], [], fnOk_mk Fu sc W hm hk hn, hg, Fu.kp, hb, .nil, fun _ => .nil⟩
theorem met_mk {C : Addr} {m' qual : Str} {st : Stmt} {N ps : List Str} {lv n m k : Nat} {f : FS} (D : MethG K C m' qual st ps) (sc : FnScope N ps (defScope st)) (W : Walked P w K mg base qual st N lv n f) (hm : m = ps.length) (hk : k = N.length - ps.length) (hn : n = m + k) :
    Met P w K mg base (lv + 1) C m' (SpD.ofF m (runB k f)) [] := by
  obtain ⟨a, fd, Fu, hc, hmt, hb⟩ := D.ex
  exact ⟨a, fd, ps, [], [], hc, hmt, fnOk_mk Fu sc W hm hk hn, hb, .nil, fun _ => .nil⟩
theorem mak_mk {x qual : Str} {C : Addr} {st : Stmt} {N ps : List Str} {lv n m k : Nat} {f : FS} (D : MakG K mg x C qual st ps) (sc : FnScope N ps (defScope st)) (W : Walked P w K mg base qual st N lv n f) (hm : m = ps.length) (hk : k = N.length - ps.length) (hn : n = m + k) :
    Mak P w K mg base (lv + 1) x C (SpD.ofF m (runB k f)) [] := by
  obtain ⟨a, fd, Fu, hmk, hg, hb⟩ := D.ex
  exact ⟨a, fd, ps, [], [], hmk, fnOk_mk Fu sc W hm hk hn, hg, hb, .nil, fun _ => .nil⟩
theorem Cal.mono {x : Str} {S : SpD} {dds : List D} {j k : Nat} (c : Cal P w K mg base j x S dds) (h : j ≤ k) : Cal P w K mg base k x S dds := by
  obtain ⟨f, fd, ps, ds, dvs, F, r⟩ := c.ex
  exact ⟨f, fd, ps, ds, dvs, F.mono h, r⟩
/-- a def that is never called: no fuel -/
theorem cal_none {x : Str} {st : Stmt} {N ps : List Str} {m : Nat} (D : DefG K mg x x st ps) (sc : FnScope N ps (defScope st)) (hm : m = ps.length) (k : Nat) : Cal P w K mg base (k + 1) x (SpD.ofF m fun _ => none) [] := by
  obtain ⟨a, fd, Fu, hg, hb⟩ := D.ex
  have no : ∀ vs H Q E, ¬ spV K (SpD.ofF m fun _ => none) vs H Q E := fun vs H Q E ⟨I, L0, as, _, s, bs, e, _⟩ => by
    unfold callF at e
    split at e <;> cases e
  refine ⟨a, fd, ps, [], [], Fu.ok sc (fun vs H Q E h => absurd h (no vs H Q E)) (fun cdv A outer s H vs Q E hr h => absurd h (no vs H Q E)), hg, Fu.kp, hb, .nil, fun _ => .nil⟩
/-! ### the end -/
def spLaw (K : PySem.W.Frag) : Sp := fun vs H Q _ => ∃ (a : Addr) (ns : List Int), vs = [.ref a] ∧ SqL K H a (ns.map V.int) ∧ ns.length ≤ 63 ∧ ∀ H', Q (.bl true) H'
theorem law_ok {f : Addr} {fd : FuncData} {k : Nat} {F : Fn} (hF : ∀ ns : List Int, ns.length ≤ 63 → ∃ bs, F [.im (.wl (ns.map D.int))] = some (.im (.bl true), bs)) (h : FnOk P w K mg base CX0 k f fd ["script"] (spV K (SpD.ofF 1 F))) : FnOk P w K mg base CX0 k f fd ["script"] (spLaw K) := by
  refine h.imp fun vs H Q E ⟨a, ns, e, S, hl, q⟩ => ?_
  subst e
  obtain ⟨bs, e⟩ := hF ns hl
  refine ⟨H, fun _ => [], [.im (.wl (ns.map D.int))], ?_, .im (.bl true), bs, e, fun v I' H' st => ?_⟩
  · refine ⟨L2.Same.refl _, L2.Same.refl _, fun _ _ => rfl, fun _ z => z, fun _ _ e _ => e, rfl, fun _ => [], fun i => ?_, fun _ => List.nodup_nil, fun _ _ _ h => (by cases h), fun _ _ h => (by cases h)⟩
    cases i with
    | zero => exact ⟨rfl, _, rfl, .wl S (Reps.ints ns)⟩
    | succ i => rfl
  · have hlen : bs.length = 1 := by have := st.len; simp at this; omega
    obtain ⟨u, h1, h2⟩ := st.im_get (i := 1) (d := .bl true) (by rw [List.getElem?_append_right (by omega)]; simp [hlen])
    cases h1
    cases h2
    exact q H'
theorem law_end {l : PySem.W.OpenLaw} {k : Nat} {q : Program} {loose : List Str} {XP : (Str → Option Value) → Heap → Prop} {YP : World → Heap → Prop} {d : DefRec}
    (hn : l.most = some 63) (hdf : d.params.defaults = []) (hr : Room k callerA)
    (F : ∀ (w : World) (mg : Str → Option Value) (fa : Addr) (h : Heap), YP w h → h.Ns mainGlobals mg → mg d.name = some (.ref fa) →
      ∃ (K : PySem.W.Frag) (fd : FuncData), K.In h ∧ (∀ (s : Shared) (u : Value), BindsTo s fd ⟨[u], []⟩ [("script", u)]) ∧ ∀ base : Heap, K.In base → base.Ns mainGlobals mg → FnOk l.prog w K mg base CX0 k fa fd ["script"] (spLaw K)) :
    PySem.W.WalkO q loose XP YP l.row.toRowW d [] (fun f vs => PySem.call f vs) :=
  L2.walk_ofE (l := l) (n := 63) (k := k) (x := "script") (CX := L2.CX0) hn (by decide) hdf hr (fun w mg fa h Y G hm => by
    obtain ⟨K, fd, X, b, f⟩ := F w mg fa h Y G hm
    exact ⟨K, fd, spLaw K, X, b, fun H a ns hl _ hS => ⟨a, ns, rfl, hS, hl, fun _ => rfl⟩, f⟩) fun _ _ _ _ z => z
end
end DL
end
section
set_option Elab.async false
set_option linter.all false
namespace DL
open PySem L2
abbrev fSubI := fOp (oI0 fun i j => i - j)
abbrev fDivI := fOp (oI CDivN fun i j => i.fdiv j)
abbrev fModI := fOp (oI (fun _ j => j ≠ 0) fun i j => i.fmod j)
abbrev fShlI := fOp (oI CPow fun i j => i * 2 ^ j.toNat)
abbrev fShrI := fOp (oI (fun _ j => 0 ≤ j) fun i j => i / 2 ^ j.toNat)
abbrev fPowI := fOp (oI CPow fun i j => i ^ j.toNat)
abbrev fAndI := fOp (oI0 Builtin.bitAnd)
abbrev fXorI := fOp (oI0 Builtin.bitXor)
abbrev fOrI := fOp (oI0 Builtin.bitOr)
abbrev oLt := oB0 fun i j => decide (i < j)
abbrev oLe := oB0 fun i j => decide (i ≤ j)
abbrev oGt := oB0 fun i j => decide (j < i)
abbrev oGe := oB0 fun i j => decide (j ≤ i)
abbrev fAnyL := fV (gBs fun bs => bs.any id)
abbrev fAllL := fV (gBs fun bs => bs.all id)
end DL
namespace DL
theorem is_of {n : Nat} {r : RS} {f f' : FS} (i : IS n r f') (e : f' = f) : IS n r f := e ▸ i
end DL
end
section
set_option Elab.async false
set_option linter.all false
set_option maxRecDepth 100000
set_option maxHeartbeats 4000000
set_option synthInstance.maxSize 100000
set_option synthInstance.maxHeartbeats 4000000
namespace K22
open PySem L2 DL
def top (i : Nat) : Stmt := PySem.Challenge.pw_paperark_k22_whole_droplets_gathered.main.body.getD i (.Pass ⟨0, 0, 0, 0⟩)
abbrev s__law_draws : Stmt := top 23
abbrev N__law_draws : List Str := ["script", "count", "cells", "found", "mixed_v", "k", "j", "cell", "again"]
theorem sc__law_draws : FnScope N__law_draws ["script", "count"] (defScope s__law_draws) := ⟨rfl, rfl, rfl, by decide +kernel, rfl, by decide +kernel, by decide +kernel⟩
abbrev s__law_take : Stmt := top 24
abbrev N__law_take : List Str := ["draws", "limit"]
theorem sc__law_take : FnScope N__law_take ["draws", "limit"] (defScope s__law_take) := ⟨rfl, rfl, rfl, by decide +kernel, rfl, by decide +kernel, by decide +kernel⟩
abbrev s__law_xor : Stmt := top 26
abbrev N__law_xor : List Str := ["a", "b", "x", "y"]
theorem sc__law_xor : FnScope N__law_xor ["a", "b"] (defScope s__law_xor) := ⟨rfl, rfl, rfl, by decide +kernel, rfl, by decide +kernel, by decide +kernel⟩
abbrev s_check_count : Stmt := top 9
abbrev N_check_count : List Str := ["count"]
theorem sc_check_count : FnScope N_check_count ["count"] (defScope s_check_count) := ⟨rfl, rfl, rfl, by decide +kernel, rfl, by decide +kernel, by decide +kernel⟩
abbrev s_droplet_set : Stmt := top 10
abbrev N_droplet_set : List Str := ["count", "seed", "found", "r", "index"]
theorem sc_droplet_set : FnScope N_droplet_set ["count", "seed"] (defScope s_droplet_set) := ⟨rfl, rfl, rfl, by decide +kernel, rfl, by decide +kernel, by decide +kernel⟩
abbrev s_mixed : Stmt := top 11
abbrev N_mixed : List Str := ["first", "second", "a", "b"]
theorem sc_mixed : FnScope N_mixed ["first", "second"] (defScope s_mixed) := ⟨rfl, rfl, rfl, by decide +kernel, rfl, by decide +kernel, by decide +kernel⟩
abbrev s_droplet : Stmt := top 12
abbrev N_droplet : List Str := ["slices", "seed", "chosen", "octets", "found", "index"]
theorem sc_droplet : FnScope N_droplet ["slices", "seed"] (defScope s_droplet) := ⟨rfl, rfl, rfl, by decide +kernel, rfl, by decide +kernel, by decide +kernel⟩
abbrev s_Sums___init__ : Stmt := inClass (top 14) 0
abbrev N_Sums___init__ : List Str := ["self", "length"]
theorem sc_Sums___init__ : FnScope N_Sums___init__ ["self", "length"] (defScope s_Sums___init__) := ⟨rfl, rfl, rfl, by decide +kernel, rfl, by decide +kernel, by decide +kernel⟩
abbrev s_mask_of : Stmt := top 13
abbrev N_mask_of : List Str := ["count", "seed", "index"]
theorem sc_mask_of : FnScope N_mask_of ["count", "seed"] (defScope s_mask_of) := ⟨rfl, rfl, rfl, by decide +kernel, rfl, by decide +kernel, by decide +kernel⟩
abbrev s_Sums_add : Stmt := inClass (top 14) 1
abbrev N_Sums_add : List Str := ["self", "mask", "octets", "lead", "other", "more", "at"]
theorem sc_Sums_add : FnScope N_Sums_add ["self", "mask", "octets"] (defScope s_Sums_add) := ⟨rfl, rfl, rfl, by decide +kernel, rfl, by decide +kernel, by decide +kernel⟩
abbrev s_lack : Stmt := top 16
abbrev N_lack : List Str := ["count", "seeds", "sums", "mask", "seed"]
theorem sc_lack : FnScope N_lack ["count", "seeds"] (defScope s_lack) := ⟨rfl, rfl, rfl, by decide +kernel, rfl, by decide +kernel, by decide +kernel⟩
abbrev s_next_seed : Stmt := top 17
abbrev N_next_seed : List Str := ["count", "seeds", "sums", "mask", "seed", "before"]
theorem sc_next_seed : FnScope N_next_seed ["count", "seeds"] (defScope s_next_seed) := ⟨rfl, rfl, rfl, by decide +kernel, rfl, by decide +kernel, by decide +kernel⟩
abbrev s_gathered_slices : Stmt := top 15
abbrev N_gathered_slices : List Str := ["count", "droplets", "masks", "seed", "_", "length", "octets", "sums", "mask", "found", "index"]
theorem sc_gathered_slices : FnScope N_gathered_slices ["count", "droplets"] (defScope s_gathered_slices) := ⟨rfl, rfl, rfl, by decide +kernel, rfl, by decide +kernel, by decide +kernel⟩
abbrev s_sets_of : Stmt := top 19
abbrev N_sets_of : List Str := ["count", "size", "found", "_", "row", "number"]
theorem sc_sets_of : FnScope N_sets_of ["count", "size"] (defScope s_sets_of) := ⟨rfl, rfl, rfl, by decide +kernel, rfl, by decide +kernel, by decide +kernel⟩
abbrev s_loss_against : Stmt := top 21
abbrev N_loss_against : List Str := ["count", "seeds", "losses", "places", "at", "seed"]
theorem sc_loss_against : FnScope N_loss_against ["count", "seeds", "losses"] (defScope s_loss_against) := ⟨rfl, rfl, rfl, by decide +kernel, rfl, by decide +kernel, by decide +kernel⟩
abbrev s_law : Stmt := top 27
abbrev N_law : List Str := ["script", "draws", "turn", "count", "length", "slices", "index", "k", "other", "seeds", "seed", "both", "a", "b", "at", "bent", "missing", "more", "after", "whole", "each", "some", "rows", "losses", "told", "gone", "left"]
theorem sc_law : FnScope N_law ["script"] (defScope s_law) := ⟨rfl, rfl, rfl, by decide +kernel, rfl, by decide +kernel, by decide +kernel⟩
structure Txt (K : PySem.W.Frag) (mg : Str → Option Value) : Prop where
  g_MOST_SLICES : GInt mg "MOST_SLICES" 24
  g_SEEDS : GInt mg "SEEDS" 65536
  g_FACTOR : GInt mg "FACTOR" 75
  g_STEP : GInt mg "STEP" 74
  g_MODULUS : GInt mg "MODULUS" 65537
  m_list : mg "list" = none
  m_len : mg "len" = none
  m_range : mg "range" = none
  m_int : mg "int" = none
  m_zip : mg "zip" = none
  m_tuple : mg "tuple" = none
  m_any : mg "any" = none
  m_sum : mg "sum" = none
  m_all : mg "all" = none
  m_enumerate : mg "enumerate" = none
  m_min : mg "min" = none
  m_dict : mg "dict" = none
  m_sorted : mg "sorted" = none
  cl_Sums : Cls K (He.ga K "Sums")
  no_Sums_length : NoAttr K (He.ga K "Sums") "length"
  no_Sums_rows : NoAttr K (He.ga K "Sums") "rows"
  d__law_draws : DefG K mg "_law_draws" "_law_draws" s__law_draws ["script", "count"]
  d__law_take : DefG K mg "_law_take" "_law_take" s__law_take ["draws", "limit"]
  d__law_xor : DefG K mg "_law_xor" "_law_xor" s__law_xor ["a", "b"]
  d_check_count : DefG K mg "check_count" "check_count" s_check_count ["count"]
  d_droplet_set : DefG K mg "droplet_set" "droplet_set" s_droplet_set ["count", "seed"]
  d_mixed : DefG K mg "mixed" "mixed" s_mixed ["first", "second"]
  d_droplet : DefG K mg "droplet" "droplet" s_droplet ["slices", "seed"]
  d_Sums___init__ : MakG K mg "Sums" (He.ga K "Sums") "Sums.__init__" s_Sums___init__ ["self", "length"]
  d_mask_of : DefG K mg "mask_of" "mask_of" s_mask_of ["count", "seed"]
  d_Sums_add : MethG K (He.ga K "Sums") "add" "Sums.add" s_Sums_add ["self", "mask", "octets"]
  d_lack : DefG K mg "lack" "lack" s_lack ["count", "seeds"]
  d_next_seed : DefG K mg "next_seed" "next_seed" s_next_seed ["count", "seeds"]
  d_gathered_slices : DefG K mg "gathered_slices" "gathered_slices" s_gathered_slices ["count", "droplets"]
  d_sets_of : DefG K mg "sets_of" "sets_of" s_sets_of ["count", "size"]
  d_loss_against : DefG K mg "loss_against" "loss_against" s_loss_against ["count", "seeds", "losses"]
  d_law : DefG K mg "law" "law" s_law ["script"]
noncomputable def M__law_draws (aSums : Addr) : Fn := runB 7 (fSeq (fSet 2 (fVL gList (fVar 0)))
  (fSeq (fIfS (fTst (fOp oEq (fV gLen (fVar 2)) (fK (.int 0))))
  (fSet 2 (fLst (faCons (fK (.int 7)) faNil)))
  fNext)
  (fSeq (fSet 3 (fLst faNil))
  (fSeq (fSet 4 (fK (.int 12345)))
  (fSeq (fFor (fRg1 (faCons (fVar 1) faNil)) (fgName 5)
  (fSeq (fSet 6 (fModI (fVar 5) (fV gLen (fVar 2))))
  (fSeq (fSet 7 (fIxE true (fVar 2) (fVar 6)))
  (fSeq (fSet 4 (fModI (fV gInt (fPlusE (fPlusE (fPlusE (fTimesE (fVar 4) (fK (.int 48271))) (fTimesE (fModI (fV gInt (fVar 7)) (fK (.int 1000003))) (fK (.int 69621)))) (fTimesE (fVar 5) (fK (.int 7919)))) (fK (.int 11)))) (fK (.int 2147483647))))
  (fSeq (fSet 8 (fModI (fV gInt (fPlusE (fPlusE (fTimesE (fVar 4) (fVar 4)) (fTimesE (fK (.int 31)) (fVar 4))) (fVar 5))) (fK (.int 1000003))))
  (fIfS (fTst (fOp oGe (fVar 7) (fPowI (fK (.int 10)) (fK (.int 18)))))
  (fSeq (fDrop (fMt .lst gAppend true (fVar 3) (faCons (fModI (fV gInt (fVar 7)) (fK (.int 1000))) faNil)))
  (fSub (fVar 2) (fVar 6) (fDivI (fVar 7) (fK (.int 1000))) true))
  (fDrop (fMt .lst gAppend true (fVar 3) (faCons (fModI (fV gInt (fVar 8)) (fK (.int 1000))) faNil)))))))))
  (fSeq (fDrop (fMt .lst gReverse true (fVar 3) faNil))
  (fRet (fVar 3))))))))
theorem C__law_draws {P : Program} {w : World} {K : PySem.W.Frag} {mg : Str → Option Value} {base : Heap} (T : Txt K mg) : Cal P w K mg base (0 + 1) "_law_draws" (SpD.ofF 2 (M__law_draws (He.ga K "Sums"))) [] :=
  cal_mk T.d__law_draws sc__law_draws (n := 9) ⟨_, fun f cdv A outer s H E hr => (ts_cons (ts_set (i := 2) sc__law_draws.nd rfl (Or.inl rfl) (tr_list rfl T.m_list (tr_var 0)))
    (ts_cons (ts_if (tt_eq (hu64 hr) (tr_len rfl T.m_len (tr_var 2)) tr_int)
    (ts_one (ts_set (i := 2) sc__law_draws.nd rfl (Or.inl rfl) (tr_lst (ta_cons tr_int ta_nil))))
    ts_nil)
    (ts_cons (ts_set (i := 3) sc__law_draws.nd rfl (Or.inl rfl) (tr_lst ta_nil))
    (ts_cons (ts_set (i := 4) sc__law_draws.nd rfl (Or.inl rfl) tr_int)
    (ts_cons (ts_for PassesOwn.never rfl (ti_range1 rfl T.m_range (ta_cons (tr_var 1) ta_nil)) (tg_name (i := 5) sc__law_draws.nd rfl (by first | exact Or.inl rfl | exact Or.inr rfl))
    (ts_cons (ts_set (i := 6) sc__law_draws.nd rfl (Or.inl rfl) (tr_mod (tr_var 5) (tr_len rfl T.m_len (tr_var 2))))
    (ts_cons (ts_set (i := 7) sc__law_draws.nd rfl (Or.inl rfl) (tr_ix (hu1 hr) (tr_var 2) (tr_var 6)))
    (ts_cons (ts_set (i := 4) sc__law_draws.nd rfl (Or.inl rfl) (tr_mod (tr_int1 rfl T.m_int (tr_plus (tr_plus (tr_plus (tr_times (tr_var 4) tr_int) (tr_times (tr_mod (tr_int1 rfl T.m_int (tr_var 7)) tr_int) tr_int)) (tr_times (tr_var 5) tr_int)) tr_int)) tr_int))
    (ts_cons (ts_set (i := 8) sc__law_draws.nd rfl (Or.inl rfl) (tr_mod (tr_int1 rfl T.m_int (tr_plus (tr_plus (tr_times (tr_var 4) (tr_var 4)) (tr_times tr_int (tr_var 4))) (tr_var 5))) tr_int))
    (ts_one (ts_if (tt_ge (tr_var 7) (tr_pow tr_int tr_int))
    (ts_cons (ts_expr (tr_append (tr_var 3) (ta_cons (tr_mod (tr_int1 rfl T.m_int (tr_var 7)) tr_int) ta_nil)))
    (ts_one (ts_sub (hu1 hr) (tr_fdiv (tr_var 7) tr_int) (tr_var 2) (tr_var 6))))
    (ts_one (ts_expr (tr_append (tr_var 3) (ta_cons (tr_mod (tr_int1 rfl T.m_int (tr_var 8)) tr_int) ta_nil)))))))))))
    (ts_cons (ts_expr (tr_reverse (tr_var 3)))
    (ts_one (ts_ret (tr_var 3))))))))), is_of inferInstance rfl⟩ rfl rfl rfl

noncomputable def M__law_take (aSums : Addr) : Fn := runB 0 (fSeq (fIfS (fTst (fOp oEq (fV gLen (fVar 0)) (fK (.int 0))))
  (fRet (fK (.int 0)))
  fNext)
  (fRet (fModI (fV gInt (fMt .lst gPop true (fVar 0) faNil)) (fVar 1))))
theorem C__law_take {P : Program} {w : World} {K : PySem.W.Frag} {mg : Str → Option Value} {base : Heap} (T : Txt K mg) : Cal P w K mg base (0 + 1) "_law_take" (SpD.ofF 2 (M__law_take (He.ga K "Sums"))) [] :=
  cal_mk T.d__law_take sc__law_take (n := 2) ⟨_, fun f cdv A outer s H E hr => (ts_cons (ts_if (tt_eq (hu64 hr) (tr_len rfl T.m_len (tr_var 0)) tr_int)
    (ts_one (ts_ret tr_int))
    ts_nil)
    (ts_one (ts_ret (tr_mod (tr_int1 rfl T.m_int (tr_pop (tr_var 0))) (tr_var 1))))), is_of inferInstance rfl⟩ rfl rfl rfl

noncomputable def M__law_xor (aSums : Addr) : Fn := runB 2 (fRet (fLc [2, 3] (fZip (faCons (fVar 0) (faCons (fVar 1) faNil))) (fgTup 2 (fgCons (fgName 2) (fgCons (fgName 3) fgNil))) fYes (fXorI (fVar 2) (fVar 3))))
theorem C__law_xor {P : Program} {w : World} {K : PySem.W.Frag} {mg : Str → Option Value} {base : Heap} (T : Txt K mg) : Cal P w K mg base (0 + 1) "_law_xor" (SpD.ofF 2 (M__law_xor (He.ga K "Sums"))) [] :=
  cal_mk T.d__law_xor sc__law_xor (n := 4) ⟨_, fun f cdv A outer s H E hr => (ts_one (ts_ret (tr_lc (own := [("x", 2), ("y", 3)]) (vs := [2, 3]) rfl sc__law_xor.nd (ti_zip rfl T.m_zip (ta_cons (tr_var 0) (ta_cons (tr_var 1) ta_nil))) (blkOk_by (N := N__law_xor) (sc := defScope s__law_xor) (by decide +kernel)) (fun _ _ _ _ _ => (tg_tup (n := 2) rfl (tgs_cons (tg_name (i := 2) sc__law_xor.nd rfl (by first | exact Or.inl rfl | exact Or.inr rfl)) (tgs_cons (tg_name (i := 3) sc__law_xor.nd rfl (by first | exact Or.inl rfl | exact Or.inr rfl)) tgs_nil)))) (fun _ _ _ _ _ => tts_nil) (fun _ _ _ _ _ => (tr_xor (tr_var 2) (tr_var 3)))))), is_of inferInstance rfl⟩ rfl rfl rfl

noncomputable def M_check_count (aSums : Addr) : Fn := runB 0 (fIfS (fNot (fTst (fChain oLe oLe (fK (.int 1)) (fVar 0) (fK (.int 24)))))
  fNever
  fNext)
theorem C_check_count {P : Program} {w : World} {K : PySem.W.Frag} {mg : Str → Option Value} {base : Heap} (T : Txt K mg) : Cal P w K mg base (0 + 1) "check_count" (SpD.ofF 1 (M_check_count (He.ga K "Sums"))) [] :=
  cal_mk T.d_check_count sc_check_count (n := 1) ⟨_, fun f cdv A outer s H E hr => (ts_one (ts_if (tt_not (tt_lele tr_int (tr_var 0) (tr_gi T.g_MOST_SLICES)))
    (ts_one ts_never)
    ts_nil)), is_of inferInstance rfl⟩ rfl rfl rfl

noncomputable def M_droplet_set (aSums : Addr) : Fn := runB 3 (fSeq (fDrop (fCall 1 (M_check_count aSums) (faCons (fVar 0) faNil) []))
  (fSeq (fIfS (fNot (fTst (fChain oLe oLt (fK (.int 0)) (fVar 1) (fK (.int 65536)))))
  fNever
  fNext)
  (fSeq (fSet 2 (fLst faNil))
  (fSeq (fSet 3 (fVar 1))
  (fSeq (fFor (fRg1 (faCons (fVar 0) faNil)) (fgName 4)
  (fSeq (fSet 3 (fModI (fPlusE (fTimesE (fK (.int 75)) (fVar 3)) (fK (.int 74))) (fK (.int 65537))))
  (fIfS (fTst (fOp oEq (fModI (fVar 3) (fK (.int 3))) (fK (.int 0))))
  (fDrop (fMt .lst gAppend true (fVar 2) (faCons (fVar 4) faNil)))
  fNext)))
  (fRet (fIf (fTruT (fVar 2)) (fV gTupl (fVar 2)) (fTup (faCons (fModI (fVar 1) (fVar 0)) faNil)))))))))
theorem C_droplet_set {P : Program} {w : World} {K : PySem.W.Frag} {mg : Str → Option Value} {base : Heap} (T : Txt K mg) : Cal P w K mg base (1 + 1) "droplet_set" (SpD.ofF 2 (M_droplet_set (He.ga K "Sums"))) [] :=
  cal_mk T.d_droplet_set sc_droplet_set (n := 5) ⟨_, fun f cdv A outer s H E hr => (ts_cons (ts_expr (tr_c (C_check_count (P := P) (w := w) (base := base) T) hr (by decide) (ta_cons (tr_var 0) ta_nil)))
    (ts_cons (ts_if (tt_not (tt_lelt tr_int (tr_var 1) (tr_gi T.g_SEEDS)))
    (ts_one ts_never)
    ts_nil)
    (ts_cons (ts_set (i := 2) sc_droplet_set.nd rfl (Or.inl rfl) (tr_lst ta_nil))
    (ts_cons (ts_set (i := 3) sc_droplet_set.nd rfl (Or.inl rfl) (tr_var 1))
    (ts_cons (ts_for PassesOwn.never rfl (ti_range1 rfl T.m_range (ta_cons (tr_var 0) ta_nil)) (tg_name (i := 4) sc_droplet_set.nd rfl (by first | exact Or.inl rfl | exact Or.inr rfl))
    (ts_cons (ts_set (i := 3) sc_droplet_set.nd rfl (Or.inl rfl) (tr_mod (tr_plus (tr_times (tr_gi T.g_FACTOR) (tr_var 3)) (tr_gi T.g_STEP)) (tr_gi T.g_MODULUS)))
    (ts_one (ts_if (tt_eq (hu64 hr) (tr_mod (tr_var 3) tr_int) tr_int)
    (ts_one (ts_expr (tr_append (tr_var 2) (ta_cons (tr_var 4) ta_nil))))
    ts_nil))))
    (ts_one (ts_ret (tr_if (tt_val (tr_var 2)) (tr_tuple rfl T.m_tuple (tr_var 2)) (tr_tup (ta_cons (tr_mod (tr_var 1) (tr_var 0)) ta_nil)))))))))), is_of inferInstance rfl⟩ rfl rfl rfl

noncomputable def M_mixed (aSums : Addr) : Fn := runB 2 (fRet (fLc [2, 3] (fZip (faCons (fVar 0) (faCons (fVar 1) faNil))) (fgTup 2 (fgCons (fgName 2) (fgCons (fgName 3) fgNil))) fYes (fXorI (fVar 2) (fVar 3))))
theorem C_mixed {P : Program} {w : World} {K : PySem.W.Frag} {mg : Str → Option Value} {base : Heap} (T : Txt K mg) : Cal P w K mg base (0 + 1) "mixed" (SpD.ofF 2 (M_mixed (He.ga K "Sums"))) [] :=
  cal_mk T.d_mixed sc_mixed (n := 4) ⟨_, fun f cdv A outer s H E hr => (ts_one (ts_ret (tr_lc (own := [("a", 2), ("b", 3)]) (vs := [2, 3]) rfl sc_mixed.nd (ti_zip rfl T.m_zip (ta_cons (tr_var 0) (ta_cons (tr_var 1) ta_nil))) (blkOk_by (N := N_mixed) (sc := defScope s_mixed) (by decide +kernel)) (fun _ _ _ _ _ => (tg_tup (n := 2) rfl (tgs_cons (tg_name (i := 2) sc_mixed.nd rfl (by first | exact Or.inl rfl | exact Or.inr rfl)) (tgs_cons (tg_name (i := 3) sc_mixed.nd rfl (by first | exact Or.inl rfl | exact Or.inr rfl)) tgs_nil)))) (fun _ _ _ _ _ => tts_nil) (fun _ _ _ _ _ => (tr_xor (tr_var 2) (tr_var 3)))))), is_of inferInstance rfl⟩ rfl rfl rfl

noncomputable def M_droplet (aSums : Addr) : Fn := runB 4 (fSeq (fSet 2 (fCall 2 (M_droplet_set aSums) (faCons (fV gLen (fVar 0)) (faCons (fVar 1) faNil)) []))
  (fSeq (fIfS (fTruT (fAnyL (fLc [3] (fSeqI (fVar 0)) (fgName 3) fYes (fOp oNe (fV gLen (fVar 3)) (fV gLen (fIxE true (fVar 0) (fK (.int 0))))))))
  fNever
  fNext)
  (fSeq (fSet 4 (fTimesE (fLst (faCons (fK (.int 0)) faNil)) (fV gLen (fIxE true (fVar 0) (fK (.int 0))))))
  (fSeq (fFor (fSeqI (fVar 2)) (fgName 5)
  (fSet 4 (fCall 2 (M_mixed aSums) (faCons (fVar 4) (faCons (fIxE true (fVar 0) (fVar 5)) faNil)) [])))
  (fRet (fVar 4))))))
theorem C_droplet {P : Program} {w : World} {K : PySem.W.Frag} {mg : Str → Option Value} {base : Heap} (T : Txt K mg) : Cal P w K mg base (2 + 1) "droplet" (SpD.ofF 2 (M_droplet (He.ga K "Sums"))) [] :=
  cal_mk T.d_droplet sc_droplet (n := 6) ⟨_, fun f cdv A outer s H E hr => (ts_cons (ts_set (i := 2) sc_droplet.nd rfl (Or.inl rfl) (tr_c (C_droplet_set (P := P) (w := w) (base := base) T) hr (by decide) (ta_cons (tr_len rfl T.m_len (tr_var 0)) (ta_cons (tr_var 1) ta_nil))))
    (ts_cons (ts_if (tt_val (tr_any rfl rfl T.m_any (tr_lc (own := [("octets", 3)]) (vs := [3]) rfl sc_droplet.nd (ti_seq (tr_var 0)) (blkOk_by (N := N_droplet) (sc := defScope s_droplet) (by decide +kernel)) (fun _ _ _ _ _ => (tg_name (i := 3) sc_droplet.nd rfl (by first | exact Or.inl rfl | exact Or.inr rfl))) (fun _ _ _ _ _ => tts_nil) (fun _ _ _ _ _ => (tr_ne (hu64 hr) (tr_len rfl T.m_len (tr_var 3)) (tr_len rfl T.m_len (tr_ix (hu1 hr) (tr_var 0) tr_int)))))))
    (ts_one ts_never)
    ts_nil)
    (ts_cons (ts_set (i := 4) sc_droplet.nd rfl (Or.inl rfl) (tr_times (tr_lst (ta_cons tr_int ta_nil)) (tr_len rfl T.m_len (tr_ix (hu1 hr) (tr_var 0) tr_int))))
    (ts_cons (ts_for PassesOwn.never rfl (ti_seq (tr_var 2)) (tg_name (i := 5) sc_droplet.nd rfl (by first | exact Or.inl rfl | exact Or.inr rfl))
    (ts_one (ts_set (i := 4) sc_droplet.nd rfl (Or.inl rfl) (tr_c (C_mixed (P := P) (w := w) (base := base) T) hr (by decide) (ta_cons (tr_var 4) (ta_cons (tr_ix (hu1 hr) (tr_var 0) (tr_var 5)) ta_nil))))))
    (ts_one (ts_ret (tr_var 4))))))), is_of inferInstance rfl⟩ rfl rfl rfl

noncomputable def M_Sums___init__ (aSums : Addr) : Fn := runB 0 (fSeq (fSetF aSums "length" 0 (fVar 1))
  (fSetF aSums "rows" 0 fNewK))
theorem C_Sums___init__ {P : Program} {w : World} {K : PySem.W.Frag} {mg : Str → Option Value} {base : Heap} (T : Txt K mg) : Mak P w K mg base (0 + 1) "Sums" (He.ga K "Sums") (SpD.ofF 2 (M_Sums___init__ (He.ga K "Sums"))) [] :=
  mak_mk T.d_Sums___init__ sc_Sums___init__ (n := 2) ⟨_, fun f cdv A outer s H E hr => (ts_cons (ts_fld (j := 0) T.cl_Sums T.no_Sums_length (tr_var 1) rfl)
    (ts_one (ts_fld (j := 0) T.cl_Sums T.no_Sums_rows tr_newK rfl))), is_of inferInstance rfl⟩ rfl rfl rfl

noncomputable def M_mask_of (aSums : Addr) : Fn := runB 1 (fRet (fV gSum (fLc [2] (fSeqI (fCall 2 (M_droplet_set aSums) (faCons (fVar 0) (faCons (fVar 1) faNil)) [])) (fgName 2) fYes (fShlI (fK (.int 1)) (fVar 2)))))
theorem C_mask_of {P : Program} {w : World} {K : PySem.W.Frag} {mg : Str → Option Value} {base : Heap} (T : Txt K mg) : Cal P w K mg base (2 + 1) "mask_of" (SpD.ofF 2 (M_mask_of (He.ga K "Sums"))) [] :=
  cal_mk T.d_mask_of sc_mask_of (n := 3) ⟨_, fun f cdv A outer s H E hr => (ts_one (ts_ret (tr_sum rfl rfl T.m_sum (tr_lc (own := [("index", 2)]) (vs := [2]) rfl sc_mask_of.nd (ti_seq (tr_c (C_droplet_set (P := P) (w := w) (base := base) T) hr (by decide) (ta_cons (tr_var 0) (ta_cons (tr_var 1) ta_nil)))) (blkOk_by (N := N_mask_of) (sc := defScope s_mask_of) (by decide +kernel)) (fun _ _ _ _ _ => (tg_name (i := 2) sc_mask_of.nd rfl (by first | exact Or.inl rfl | exact Or.inr rfl))) (fun _ _ _ _ _ => tts_nil) (fun _ _ _ _ _ => (tr_shl tr_int (tr_var 2))))))), is_of inferInstance rfl⟩ rfl rfl rfl

noncomputable def M_Sums_add (aSums : Addr) : Fn := runB 4 (fSeq (fSet 2 (fVL gList (fVar 2)))
  (fSeq (fForItemsF aSums 0 "rows" (fgTup 2 (fgCons (fgName 3) (fgCons (fgTup 2 (fgCons (fgName 4) (fgCons (fgName 5) fgNil))) fgNil)))
  (fIfS (fTruT (fAndI (fShrI (fVar 1) (fVar 3)) (fK (.int 1))))
  (fPar 1 2 (faCons (fXorI (fVar 1) (fVar 4)) (faCons (fCall 2 (M_mixed aSums) (faCons (fVar 2) (faCons (fVar 5) faNil)) []) faNil)))
  fNext))
  (fSeq (fIfS (fTst (fOp oEq (fVar 1) (fK (.int 0))))
  (fRet (fNotV (fV gAnyI (fVar 2))))
  fNext)
  (fSeq (fSet 3 (fSubI (fBits (fVar 1)) (fK (.int 1))))
  (fSeq (fFor (fSeqI (fItL (fFld aSums "rows" (fVar 0)))) (fgTup 2 (fgCons (fgName 6) (fgCons (fgTup 2 (fgCons (fgName 4) (fgCons (fgName 5) fgNil))) fgNil)))
  (fIfS (fTruT (fAndI (fShrI (fVar 4) (fVar 3)) (fK (.int 1))))
  (fSub (fFld aSums "rows" (fVar 0)) (fVar 6) (fTup (faCons (fXorI (fVar 4) (fVar 1)) (faCons (fCall 2 (M_mixed aSums) (faCons (fVar 5) (faCons (fVar 2) faNil)) []) faNil))) true)
  fNext))
  (fSeq (fSub (fFld aSums "rows" (fVar 0)) (fVar 3) (fTup (faCons (fVar 1) (faCons (fVar 2) faNil))) true)
  (fRet (fK (.bl true)))))))))
theorem C_Sums_add {P : Program} {w : World} {K : PySem.W.Frag} {mg : Str → Option Value} {base : Heap} (T : Txt K mg) : Met P w K mg base (1 + 1) (He.ga K "Sums") "add" (SpD.ofF 3 (M_Sums_add (He.ga K "Sums"))) [] :=
  met_mk T.d_Sums_add sc_Sums_add (n := 7) ⟨_, fun f cdv A outer s H E hr => (ts_cons (ts_set (i := 2) sc_Sums_add.nd rfl (Or.inl rfl) (tr_list rfl T.m_list (tr_var 2)))
    (ts_cons (ts_forItemsF (j := 0) T.cl_Sums T.no_Sums_rows PassesOwn.never rfl rfl (tg_tup (n := 2) rfl (tgs_cons (tg_name (i := 3) sc_Sums_add.nd rfl (by first | exact Or.inl rfl | exact Or.inr rfl)) (tgs_cons (tg_tup (n := 2) rfl (tgs_cons (tg_name (i := 4) sc_Sums_add.nd rfl (by first | exact Or.inl rfl | exact Or.inr rfl)) (tgs_cons (tg_name (i := 5) sc_Sums_add.nd rfl (by first | exact Or.inl rfl | exact Or.inr rfl)) tgs_nil))) tgs_nil)))
    (ts_one (ts_if (tt_val (tr_band (tr_shr (tr_var 1) (tr_var 3)) tr_int))
    (ts_one (ts_par (i := 1) (j := 2) rfl sc_Sums_add.nd rfl rfl (by decide) rfl rfl (ta_cons (tr_xor (tr_var 1) (tr_var 4)) (ta_cons (tr_c (C_mixed (P := P) (w := w) (base := base) T) hr (by decide) (ta_cons (tr_var 2) (ta_cons (tr_var 5) ta_nil))) ta_nil))))
    ts_nil)))
    (ts_cons (ts_if (tt_eq (hu64 hr) (tr_var 1) tr_int)
    (ts_one (ts_ret (tr_not (tr_anyI rfl rfl T.m_any (tr_var 2)))))
    ts_nil)
    (ts_cons (ts_set (i := 3) sc_Sums_add.nd rfl (Or.inl rfl) (tr_sub (tr_bits (tr_var 1)) tr_int))
    (ts_cons (ts_for PassesOwn.never rfl (ti_seq (tr_itL rfl rfl T.m_list (tr_fld T.cl_Sums T.no_Sums_rows (tr_var 0)))) (tg_tup (n := 2) rfl (tgs_cons (tg_name (i := 6) sc_Sums_add.nd rfl (by first | exact Or.inl rfl | exact Or.inr rfl)) (tgs_cons (tg_tup (n := 2) rfl (tgs_cons (tg_name (i := 4) sc_Sums_add.nd rfl (by first | exact Or.inl rfl | exact Or.inr rfl)) (tgs_cons (tg_name (i := 5) sc_Sums_add.nd rfl (by first | exact Or.inl rfl | exact Or.inr rfl)) tgs_nil))) tgs_nil)))
    (ts_one (ts_if (tt_val (tr_band (tr_shr (tr_var 4) (tr_var 3)) tr_int))
    (ts_one (ts_sub (hu1 hr) (tr_tup (ta_cons (tr_xor (tr_var 4) (tr_var 1)) (ta_cons (tr_c (C_mixed (P := P) (w := w) (base := base) T) hr (by decide) (ta_cons (tr_var 5) (ta_cons (tr_var 2) ta_nil))) ta_nil))) (tr_fld T.cl_Sums T.no_Sums_rows (tr_var 0)) (tr_var 6)))
    ts_nil)))
    (ts_cons (ts_sub (hu1 hr) (tr_tup (ta_cons (tr_var 1) (ta_cons (tr_var 2) ta_nil))) (tr_fld T.cl_Sums T.no_Sums_rows (tr_var 0)) (tr_var 3))
    (ts_one (ts_ret tr_bl)))))))), is_of inferInstance rfl⟩ rfl rfl rfl

noncomputable def M_lack (aSums : Addr) : Fn := runB 3 (fSeq (fDrop (fCall 1 (M_check_count aSums) (faCons (fVar 0) faNil) []))
  (fSeq (fSet 2 (fMake aSums 2 (M_Sums___init__ aSums) (fvIm (fK (.int 0)) fvNil) []))
  (fSeq (fFor (fSeqI (fLc [4] (fSeqI (fVar 1)) (fgName 4) fYes (fCall 2 (M_mask_of aSums) (faCons (fVar 0) (faCons (fVar 4) faNil)) []))) (fgName 3)
  (fDrop (fMeth aSums "add" 3 (M_Sums_add aSums) (fVar 2) (fvIm (fVar 3) (fvIm (fLst faNil) fvNil)) [])))
  (fRet (fSubI (fVar 0) (fV gLen (fFld aSums "rows" (fVar 2))))))))
theorem C_lack {P : Program} {w : World} {K : PySem.W.Frag} {mg : Str → Option Value} {base : Heap} (T : Txt K mg) : Cal P w K mg base (3 + 1) "lack" (SpD.ofF 2 (M_lack (He.ga K "Sums"))) [] :=
  cal_mk T.d_lack sc_lack (n := 5) ⟨_, fun f cdv A outer s H E hr => (ts_cons (ts_expr (tr_c (C_check_count (P := P) (w := w) (base := base) T) hr (by decide) (ta_cons (tr_var 0) ta_nil)))
    (ts_cons (ts_set (i := 2) sc_lack.nd rfl (Or.inl rfl) (tr_mk (C_Sums___init__ (P := P) (w := w) (base := base) T) hr (by decide) (tv_im tr_int tv_nil)))
    (ts_cons (ts_for PassesOwn.never rfl (ti_seq (tr_lc (own := [("seed", 4)]) (vs := [4]) rfl sc_lack.nd (ti_seq (tr_var 1)) (blkOk_by (N := N_lack) (sc := defScope s_lack) (by decide +kernel)) (fun _ _ _ _ _ => (tg_name (i := 4) sc_lack.nd rfl (by first | exact Or.inl rfl | exact Or.inr rfl))) (fun _ _ _ _ _ => tts_nil) (fun _ _ _ _ _ => (tr_c (C_mask_of (P := P) (w := w) (base := base) T) hr (by decide) (ta_cons (tr_var 0) (ta_cons (tr_var 4) ta_nil)))))) (tg_name (i := 3) sc_lack.nd rfl (by first | exact Or.inl rfl | exact Or.inr rfl))
    (ts_one (ts_expr (tr_m (C_Sums_add (P := P) (w := w) (base := base) T) hr (by decide) (tr_var 2) (tv_im (tr_var 3) (tv_im (tr_lst ta_nil) tv_nil))))))
    (ts_one (ts_ret (tr_sub (tr_var 0) (tr_len rfl T.m_len (tr_fld T.cl_Sums T.no_Sums_rows (tr_var 2))))))))), is_of inferInstance rfl⟩ rfl rfl rfl

noncomputable def M_next_seed (aSums : Addr) : Fn := runB 4 (fSeq (fDrop (fCall 1 (M_check_count aSums) (faCons (fVar 0) faNil) []))
  (fSeq (fSet 2 (fMake aSums 2 (M_Sums___init__ aSums) (fvIm (fK (.int 0)) fvNil) []))
  (fSeq (fFor (fSeqI (fLc [4] (fSeqI (fVar 1)) (fgName 4) fYes (fCall 2 (M_mask_of aSums) (faCons (fVar 0) (faCons (fVar 4) faNil)) []))) (fgName 3)
  (fDrop (fMeth aSums "add" 3 (M_Sums_add aSums) (fVar 2) (fvIm (fVar 3) (fvIm (fLst faNil) fvNil)) [])))
  (fSeq (fSet 5 (fV gLen (fFld aSums "rows" (fVar 2))))
  (fSeq (fFor (fRg1 (faCons (fIf (fTst (fOp oLt (fVar 5) (fVar 0))) (fK (.int 65536)) (fK (.int 0))) faNil)) (fgName 4)
  (fSeq (fDrop (fMeth aSums "add" 3 (M_Sums_add aSums) (fVar 2) (fvIm (fCall 2 (M_mask_of aSums) (faCons (fVar 0) (faCons (fVar 4) faNil)) []) (fvIm (fLst faNil) fvNil)) []))
  (fIfS (fTst (fOp oGt (fV gLen (fFld aSums "rows" (fVar 2))) (fVar 5)))
  (fRet (fVar 4))
  fNext)))
  (fRet (fK .non)))))))
theorem C_next_seed {P : Program} {w : World} {K : PySem.W.Frag} {mg : Str → Option Value} {base : Heap} (T : Txt K mg) : Cal P w K mg base (3 + 1) "next_seed" (SpD.ofF 2 (M_next_seed (He.ga K "Sums"))) [] :=
  cal_mk T.d_next_seed sc_next_seed (n := 6) ⟨_, fun f cdv A outer s H E hr => (ts_cons (ts_expr (tr_c (C_check_count (P := P) (w := w) (base := base) T) hr (by decide) (ta_cons (tr_var 0) ta_nil)))
    (ts_cons (ts_set (i := 2) sc_next_seed.nd rfl (Or.inl rfl) (tr_mk (C_Sums___init__ (P := P) (w := w) (base := base) T) hr (by decide) (tv_im tr_int tv_nil)))
    (ts_cons (ts_for PassesOwn.never rfl (ti_seq (tr_lc (own := [("seed", 4)]) (vs := [4]) rfl sc_next_seed.nd (ti_seq (tr_var 1)) (blkOk_by (N := N_next_seed) (sc := defScope s_next_seed) (by decide +kernel)) (fun _ _ _ _ _ => (tg_name (i := 4) sc_next_seed.nd rfl (by first | exact Or.inl rfl | exact Or.inr rfl))) (fun _ _ _ _ _ => tts_nil) (fun _ _ _ _ _ => (tr_c (C_mask_of (P := P) (w := w) (base := base) T) hr (by decide) (ta_cons (tr_var 0) (ta_cons (tr_var 4) ta_nil)))))) (tg_name (i := 3) sc_next_seed.nd rfl (by first | exact Or.inl rfl | exact Or.inr rfl))
    (ts_one (ts_expr (tr_m (C_Sums_add (P := P) (w := w) (base := base) T) hr (by decide) (tr_var 2) (tv_im (tr_var 3) (tv_im (tr_lst ta_nil) tv_nil))))))
    (ts_cons (ts_set (i := 5) sc_next_seed.nd rfl (Or.inl rfl) (tr_len rfl T.m_len (tr_fld T.cl_Sums T.no_Sums_rows (tr_var 2))))
    (ts_cons (ts_for PassesOwn.never rfl (ti_range1 rfl T.m_range (ta_cons (tr_if (tt_lt (tr_var 5) (tr_var 0)) (tr_gi T.g_SEEDS) tr_int) ta_nil)) (tg_name (i := 4) sc_next_seed.nd rfl (by first | exact Or.inl rfl | exact Or.inr rfl))
    (ts_cons (ts_expr (tr_m (C_Sums_add (P := P) (w := w) (base := base) T) hr (by decide) (tr_var 2) (tv_im (tr_c (C_mask_of (P := P) (w := w) (base := base) T) hr (by decide) (ta_cons (tr_var 0) (ta_cons (tr_var 4) ta_nil))) (tv_im (tr_lst ta_nil) tv_nil))))
    (ts_one (ts_if (tt_gt (tr_len rfl T.m_len (tr_fld T.cl_Sums T.no_Sums_rows (tr_var 2))) (tr_var 5))
    (ts_one (ts_ret (tr_var 4)))
    ts_nil))))
    (ts_one (ts_ret tr_non))))))), is_of inferInstance rfl⟩ rfl rfl rfl

noncomputable def M_gathered_slices (aSums : Addr) : Fn := runB 9 (fSeq (fDrop (fCall 1 (M_check_count aSums) (faCons (fVar 0) faNil) []))
  (fSeq (fSet 2 (fLc [3, 4] (fSeqI (fVar 1)) (fgTup 2 (fgCons (fgName 3) (fgCons (fgName 4) fgNil))) fYes (fCall 2 (M_mask_of aSums) (faCons (fVar 0) (faCons (fVar 3) faNil)) [])))
  (fSeq (fSet 5 (fIf (fTruT (fVar 1)) (fV gLen (fIxE true (fIxE true (fVar 1) (fK (.int 0))) (fK (.int 1)))) (fK (.int 0))))
  (fSeq (fIfS (fTruT (fAnyL (fLc [4, 6] (fSeqI (fVar 1)) (fgTup 2 (fgCons (fgName 4) (fgCons (fgName 6) fgNil))) fYes (fOp oNe (fV gLen (fVar 6)) (fVar 5)))))
  fNever
  fNext)
  (fSeq (fSet 7 (fMake aSums 2 (M_Sums___init__ aSums) (fvIm (fVar 5) fvNil) []))
  (fSeq (fIfS (fNot (fTruT (fAllL (fLc [8, 4, 6] (fZip (faCons (fVar 2) (faCons (fVar 1) faNil))) (fgTup 2 (fgCons (fgName 8) (fgCons (fgTup 2 (fgCons (fgName 4) (fgCons (fgName 6) fgNil))) fgNil))) fYes (fMeth aSums "add" 3 (M_Sums_add aSums) (fVar 7) (fvIm (fVar 8) (fvIm (fVar 6) fvNil)) [])))))
  fNever
  fNext)
  (fSeq (fSet 9 (fLst faNil))
  (fSeq (fFor (fRg1 (faCons (fVar 0) faNil)) (fgName 10)
  (fSeq (fAsg (fGet2 true (fFld aSums "rows" (fVar 7)) (fVar 10) (fTup (faCons (fK (.int 0)) (faCons (fK .non) faNil)))) (fgTup 2 (fgCons (fgName 8) (fgCons (fgName 6) fgNil))))
  (fDrop (fMt .lst gAppend true (fVar 9) (faCons (fIf (fTst (fOp oEq (fVar 8) (fShlI (fK (.int 1)) (fVar 10)))) (fVar 6) (fK .non)) faNil)))))
  (fRet (fVar 9))))))))))
theorem C_gathered_slices {P : Program} {w : World} {K : PySem.W.Frag} {mg : Str → Option Value} {base : Heap} (T : Txt K mg) : Cal P w K mg base (3 + 1) "gathered_slices" (SpD.ofF 2 (M_gathered_slices (He.ga K "Sums"))) [] :=
  cal_mk T.d_gathered_slices sc_gathered_slices (n := 11) ⟨_, fun f cdv A outer s H E hr => (ts_cons (ts_expr (tr_c (C_check_count (P := P) (w := w) (base := base) T) hr (by decide) (ta_cons (tr_var 0) ta_nil)))
    (ts_cons (ts_setLc (i := 2) (own := [("seed", 3), ("_", 4)]) (vs := [3, 4]) rfl rfl rfl sc_gathered_slices.nd (ti_seq (tr_var 1)) (blkOk_by (N := N_gathered_slices) (sc := defScope s_gathered_slices) (by decide +kernel)) (fun _ _ _ _ _ => (tg_tup (n := 2) rfl (tgs_cons (tg_name (i := 3) sc_gathered_slices.nd rfl (by first | exact Or.inl rfl | exact Or.inr rfl)) (tgs_cons (tg_name (i := 4) sc_gathered_slices.nd rfl (by first | exact Or.inl rfl | exact Or.inr rfl)) tgs_nil)))) (fun _ _ _ _ _ => tts_nil) (fun _ _ _ _ _ => (tr_c (C_mask_of (P := P) (w := w) (base := base) T) hr (by decide) (ta_cons (tr_var 0) (ta_cons (tr_var 3) ta_nil)))))
    (ts_cons (ts_set (i := 5) sc_gathered_slices.nd rfl (Or.inr rfl) (tr_if (tt_val (tr_var 1)) (tr_len rfl T.m_len (tr_ix (hu1 hr) (tr_ix (hu1 hr) (tr_var 1) tr_int) tr_int)) tr_int))
    (ts_cons (ts_if (tt_val (tr_any rfl rfl T.m_any (tr_lc (own := [("_", 4), ("octets", 6)]) (vs := [4, 6]) rfl sc_gathered_slices.nd (ti_seq (tr_var 1)) (blkOk_by (N := N_gathered_slices) (sc := defScope s_gathered_slices) (by decide +kernel)) (fun _ _ _ _ _ => (tg_tup (n := 2) rfl (tgs_cons (tg_name (i := 4) sc_gathered_slices.nd rfl (by first | exact Or.inl rfl | exact Or.inr rfl)) (tgs_cons (tg_name (i := 6) sc_gathered_slices.nd rfl (by first | exact Or.inl rfl | exact Or.inr rfl)) tgs_nil)))) (fun _ _ _ _ _ => tts_nil) (fun _ _ _ _ _ => (tr_ne (hu64 hr) (tr_len rfl T.m_len (tr_var 6)) (tr_var 5))))))
    (ts_one ts_never)
    ts_nil)
    (ts_cons (ts_set (i := 7) sc_gathered_slices.nd rfl (Or.inr rfl) (tr_mk (C_Sums___init__ (P := P) (w := w) (base := base) T) hr (by decide) (tv_im (tr_var 5) tv_nil)))
    (ts_cons (ts_if (tt_not (tt_val (tr_all rfl rfl T.m_all (tr_lc (own := [("mask", 8), ("_", 4), ("octets", 6)]) (vs := [8, 4, 6]) rfl sc_gathered_slices.nd (ti_zip rfl T.m_zip (ta_cons (tr_var 2) (ta_cons (tr_var 1) ta_nil))) (blkOk_by (N := N_gathered_slices) (sc := defScope s_gathered_slices) (by decide +kernel)) (fun _ _ _ _ _ => (tg_tup (n := 2) rfl (tgs_cons (tg_name (i := 8) sc_gathered_slices.nd rfl (by first | exact Or.inl rfl | exact Or.inr rfl)) (tgs_cons (tg_tup (n := 2) rfl (tgs_cons (tg_name (i := 4) sc_gathered_slices.nd rfl (by first | exact Or.inl rfl | exact Or.inr rfl)) (tgs_cons (tg_name (i := 6) sc_gathered_slices.nd rfl (by first | exact Or.inl rfl | exact Or.inr rfl)) tgs_nil))) tgs_nil)))) (fun _ _ _ _ _ => tts_nil) (fun _ _ _ _ _ => (tr_m (C_Sums_add (P := P) (w := w) (base := base) T) hr (by decide) (tr_var 7) (tv_im (tr_var 8) (tv_im (tr_var 6) tv_nil))))))))
    (ts_one ts_never)
    ts_nil)
    (ts_cons (ts_set (i := 9) sc_gathered_slices.nd rfl (Or.inl rfl) (tr_lst ta_nil))
    (ts_cons (ts_for PassesOwn.never rfl (ti_range1 rfl T.m_range (ta_cons (tr_var 0) ta_nil)) (tg_name (i := 10) sc_gathered_slices.nd rfl (by first | exact Or.inl rfl | exact Or.inr rfl))
    (ts_cons (ts_asg (tr_get2 (hu1 hr) (tr_fld T.cl_Sums T.no_Sums_rows (tr_var 7)) (tr_var 10) (tr_tup (ta_cons tr_int (ta_cons tr_non ta_nil)))) (tg_tup (n := 2) rfl (tgs_cons (tg_name (i := 8) sc_gathered_slices.nd rfl (by first | exact Or.inl rfl | exact Or.inr rfl)) (tgs_cons (tg_name (i := 6) sc_gathered_slices.nd rfl (by first | exact Or.inl rfl | exact Or.inr rfl)) tgs_nil))))
    (ts_one (ts_expr (tr_append (tr_var 9) (ta_cons (tr_if (tt_eq (hu64 hr) (tr_var 8) (tr_shl tr_int (tr_var 10))) (tr_var 6) tr_non) ta_nil))))))
    (ts_one (ts_ret (tr_var 9))))))))))), is_of inferInstance rfl⟩ rfl rfl rfl

noncomputable def M_sets_of (aSums : Addr) : Fn := runB 4 (fSeq (fSet 2 (fLst (faCons (fTup faNil) faNil)))
  (fSeq (fFor (fRg1 (faCons (fVar 1) faNil)) (fgName 3)
  (fSet 2 (fLc2 [4, 5] [5] (fSeqI (fVar 2)) (fgName 4) fYes (fRg2 (faCons (fIf (fTruT (fVar 4)) (fPlusE (fIxE true (fVar 4) (fNeg (fK (.int 1)))) (fK (.int 1))) (fK (.int 0))) (faCons (fVar 0) faNil))) (fgName 5) fYes (fPlusE (fVar 4) (fTup (faCons (fVar 5) faNil))))))
  (fRet (fVar 2))))
theorem C_sets_of {P : Program} {w : World} {K : PySem.W.Frag} {mg : Str → Option Value} {base : Heap} (T : Txt K mg) : Cal P w K mg base (0 + 1) "sets_of" (SpD.ofF 2 (M_sets_of (He.ga K "Sums"))) [] :=
  cal_mk T.d_sets_of sc_sets_of (n := 6) ⟨_, fun f cdv A outer s H E hr => (ts_cons (ts_set (i := 2) sc_sets_of.nd rfl (Or.inl rfl) (tr_lst (ta_cons (tr_tup ta_nil) ta_nil)))
    (ts_cons (ts_for PassesOwn.never rfl (ti_range1 rfl T.m_range (ta_cons (tr_var 1) ta_nil)) (tg_name (i := 3) sc_sets_of.nd rfl (by first | exact Or.inl rfl | exact Or.inr rfl))
    (ts_one (ts_setLc2 (i := 2) (own := [("row", 4), ("number", 5)]) (vs := [4, 5]) (vs1 := [5]) rfl rfl rfl sc_sets_of.nd (ti_seq (tr_var 2)) (blkOk_by (N := N_sets_of) (sc := defScope s_sets_of) (by decide +kernel)) (fun _ _ _ _ _ => (tg_name (i := 4) sc_sets_of.nd rfl (by first | exact Or.inl rfl | exact Or.inr rfl))) (fun _ _ _ _ _ => tts_nil) (fun _ _ _ _ _ => (ti_range2 rfl T.m_range (ta_cons (tr_if (tt_val (tr_var 4)) (tr_plus (tr_ix (hu1 hr) (tr_var 4) (tr_neg tr_int)) tr_int) tr_int) (ta_cons (tr_var 0) ta_nil)))) (fun _ _ _ _ _ => (tg_name (i := 5) sc_sets_of.nd rfl (by first | exact Or.inl rfl | exact Or.inr rfl))) (fun _ _ _ _ _ => tts_nil) (fun _ _ _ _ _ => (tr_plus (tr_var 4) (tr_tup (ta_cons (tr_var 5) ta_nil)))))))
    (ts_one (ts_ret (tr_var 2))))), is_of inferInstance rfl⟩ rfl rfl rfl

noncomputable def M_loss_against (aSums : Addr) : Fn := runB 3 (fSeq (fDrop (fCall 2 (M_lack aSums) (faCons (fVar 0) (faCons (fVar 1) faNil)) []))
  (fSeq (fIfS (fNot (fTst (fChain oLe oLe (fK (.int 0)) (fVar 2) (fV gLen (fVar 1)))))
  fNever
  fNext)
  (fSeq (fFor (fSeqI (fCall 2 (M_sets_of aSums) (faCons (fV gLen (fVar 1)) (faCons (fVar 2) faNil)) [])) (fgName 3)
  (fIfS (fTst (fOp oGt (fCall 2 (M_lack aSums) (faCons (fVar 0) (faCons (fLc [4, 5] (fEnum (faCons (fVar 1) faNil)) (fgTup 2 (fgCons (fgName 4) (fgCons (fgName 5) fgNil))) (fTst (fInE Bool.not (fVar 4) (fVar 3))) (fVar 5)) faNil)) []) (fK (.int 0))))
  (fRet (fVar 3))
  fNext))
  (fRet (fK .non)))))
theorem C_loss_against {P : Program} {w : World} {K : PySem.W.Frag} {mg : Str → Option Value} {base : Heap} (T : Txt K mg) : Cal P w K mg base (4 + 1) "loss_against" (SpD.ofF 3 (M_loss_against (He.ga K "Sums"))) [] :=
  cal_mk T.d_loss_against sc_loss_against (n := 6) ⟨_, fun f cdv A outer s H E hr => (ts_cons (ts_expr (tr_c (C_lack (P := P) (w := w) (base := base) T) hr (by decide) (ta_cons (tr_var 0) (ta_cons (tr_var 1) ta_nil))))
    (ts_cons (ts_if (tt_not (tt_lele tr_int (tr_var 2) (tr_len rfl T.m_len (tr_var 1))))
    (ts_one ts_never)
    ts_nil)
    (ts_cons (ts_for PassesOwn.never rfl (ti_seq (tr_c (C_sets_of (P := P) (w := w) (base := base) T) hr (by decide) (ta_cons (tr_len rfl T.m_len (tr_var 1)) (ta_cons (tr_var 2) ta_nil)))) (tg_name (i := 3) sc_loss_against.nd rfl (by first | exact Or.inl rfl | exact Or.inr rfl))
    (ts_one (ts_if (tt_gt (tr_c (C_lack (P := P) (w := w) (base := base) T) hr (by decide) (ta_cons (tr_var 0) (ta_cons (tr_lc (own := [("at", 4), ("seed", 5)]) (vs := [4, 5]) rfl sc_loss_against.nd (ti_enum rfl T.m_enumerate (ta_cons (tr_var 1) ta_nil)) (blkOk_by (N := N_loss_against) (sc := defScope s_loss_against) (by decide +kernel)) (fun _ _ _ _ _ => (tg_tup (n := 2) rfl (tgs_cons (tg_name (i := 4) sc_loss_against.nd rfl (by first | exact Or.inl rfl | exact Or.inr rfl)) (tgs_cons (tg_name (i := 5) sc_loss_against.nd rfl (by first | exact Or.inl rfl | exact Or.inr rfl)) tgs_nil)))) (fun _ _ _ _ _ => (tts_one (tt_notIn (hu65 hr) (tr_var 4) (tr_var 3)))) (fun _ _ _ _ _ => (tr_var 5))) ta_nil))) tr_int)
    (ts_one (ts_ret (tr_var 3)))
    ts_nil)))
    (ts_one (ts_ret tr_non))))), is_of inferInstance rfl⟩ rfl rfl rfl

noncomputable def f_law (aSums : Addr) : FS := (fSeq (fSet 1 (fCall 2 (M__law_draws aSums) (faCons (fVar 0) (faCons (fK (.int 400)) faNil)) []))
  (fSeq (fFor (fRg1 (faCons (fK (.int 2)) faNil)) (fgName 2)
  (fSeq (fAsg (fTup (faCons (fPlusE (fK (.int 1)) (fCallL 2 (M__law_take aSums) (fvLn (fVar 1) (fvIm (fK (.int 7)) fvNil)) [])) (faCons (fPlusE (fK (.int 1)) (fCallL 2 (M__law_take aSums) (fvLn (fVar 1) (fvIm (fK (.int 4)) fvNil)) [])) faNil))) (fgTup 2 (fgCons (fgName 3) (fgCons (fgName 4) fgNil))))
  (fSeq (fSet 5 (fLc [6] (fRg1 (faCons (fVar 3) faNil)) (fgName 6) fYes (fLc [7] (fRg1 (faCons (fVar 4) faNil)) (fgName 7) fYes (fCallL 2 (M__law_take aSums) (fvLn (fVar 1) (fvIm (fK (.int 256)) fvNil)) []))))
  (fSeq (fSet 8 (fLc [6] (fRg1 (faCons (fVar 3) faNil)) (fgName 6) fYes (fLc [7] (fRg1 (faCons (fVar 4) faNil)) (fgName 7) fYes (fCallL 2 (M__law_take aSums) (fvLn (fVar 1) (fvIm (fK (.int 256)) fvNil)) []))))
  (fSeq (fSet 9 (fLc [7] (fRg1 (faCons (fCallL 2 (M__law_take aSums) (fvLn (fVar 1) (fvIm (fK (.int 7)) fvNil)) []) faNil)) (fgName 7) fYes (fPlusE (fTimesE (fCallL 2 (M__law_take aSums) (fvLn (fVar 1) (fvIm (fK (.int 256)) fvNil)) []) (fK (.int 256))) (fCallL 2 (M__law_take aSums) (fvLn (fVar 1) (fvIm (fK (.int 256)) fvNil)) []))))
  (fSeq (fFor (fSeqI (fSlE true (fVar 9) foNo (foAt (fK (.int 3))))) (fgName 10)
  (fSeq (fSet 11 (fLc [12, 13] (fZip (faCons (fVar 5) (faCons (fVar 8) faNil))) (fgTup 2 (fgCons (fgName 12) (fgCons (fgName 13) fgNil))) fYes (fCall 2 (M__law_xor aSums) (faCons (fVar 12) (faCons (fVar 13) faNil)) [])))
  (fSeq (fIfS (fTst (fOp oNe (fCall 2 (M_droplet aSums) (faCons (fVar 11) (faCons (fVar 10) faNil)) []) (fCall 2 (M__law_xor aSums) (faCons (fCall 2 (M_droplet aSums) (faCons (fVar 5) (faCons (fVar 10) faNil)) []) (faCons (fCall 2 (M_droplet aSums) (faCons (fVar 8) (faCons (fVar 10) faNil)) []) faNil)) [])))
  (fRet (fK (.bl false)))
  fNext)
  (fSeq (fSet 14 (fCallL 2 (M__law_take aSums) (fvLn (fVar 1) (fvIm (fVar 3) fvNil)) []))
  (fSeq (fSet 15 (fPlusE (fPlusE (fSlE true (fVar 5) foNo (foAt (fVar 14))) (fLst (faCons (fCall 2 (M__law_xor aSums) (faCons (fIxE true (fVar 5) (fVar 14)) (faCons (fTimesE (fLst (faCons (fK (.int 1)) faNil)) (fVar 4)) faNil)) []) faNil))) (fSlE true (fVar 5) (foAt (fPlusE (fVar 14) (fK (.int 1)))) foNo)))
  (fIfS (fTst (fOp oNe (fCall 2 (M_droplet aSums) (faCons (fVar 15) (faCons (fVar 10) faNil)) []) (fIf (fTst (fInE id (fVar 14) (fCall 2 (M_droplet_set aSums) (faCons (fVar 3) (faCons (fVar 10) faNil)) []))) (fCall 2 (M__law_xor aSums) (faCons (fCall 2 (M_droplet aSums) (faCons (fVar 5) (faCons (fVar 10) faNil)) []) (faCons (fTimesE (fLst (faCons (fK (.int 1)) faNil)) (fVar 4)) faNil)) []) (fCall 2 (M_droplet aSums) (faCons (fVar 5) (faCons (fVar 10) faNil)) []))))
  (fRet (fK (.bl false)))
  fNext))))))
  (fSeq (fSet 16 (fCall 2 (M_lack aSums) (faCons (fVar 3) (faCons (fVar 9) faNil)) []))
  (fSeq (fIfS (fOr (fTst (fOp oGt (fVar 16) (fVar 3))) (fOr (fTst (fOp oNe (fCall 2 (M_lack aSums) (faCons (fVar 3) (faCons (fLst faNil) faNil)) []) (fVar 3))) (fOr (fTst (fOp oNe (fCall 2 (M_lack aSums) (faCons (fVar 3) (faCons (fPlusE (fVar 9) (fVar 9)) faNil)) []) (fVar 16))) (fTst (fOp oNe (fCall 2 (M_lack aSums) (faCons (fVar 3) (faCons (fVL gRev (fVar 9)) faNil)) []) (fVar 16))))))
  (fRet (fK (.bl false)))
  fNext)
  (fSeq (fSet 10 (fTimesE (fCallL 2 (M__law_take aSums) (fvLn (fVar 1) (fvIm (fK (.int 256)) fvNil)) []) (fK (.int 256))))
  (fSeq (fIfS (fNot (fTst (fChain oLe oLe (fSubI (fVar 16) (fK (.int 1))) (fCall 2 (M_lack aSums) (faCons (fVar 3) (faCons (fPlusE (fVar 9) (fLst (faCons (fVar 10) faNil))) faNil)) []) (fVar 16))))
  (fRet (fK (.bl false)))
  fNext)
  (fSeq (fSet 17 (fVL gList (fVar 9)))
  (fSeq (fFor (fRg1 (faCons (fVar 16) faNil)) (fgName 7)
  (fSeq (fSet 18 (fBor 17 (fCall 2 (M_next_seed aSums) (faCons (fVar 3) (faCons (fVar 17) faNil)) [])))
  (fSeq (fIfS (fOr (fTst (fV (gIsN id) (fVar 18))) (fTst (fOp oNe (fCall 2 (M_lack aSums) (faCons (fVar 3) (faCons (fBor 17 (fPlusE (fVar 17) (fLst (faCons (fVar 18) faNil)))) faNil)) []) (fSubI (fSubI (fVar 16) (fVar 7)) (fK (.int 1))))))
  (fRet (fK (.bl false)))
  fNext)
  (fDrop (fMt .lst gAppend true (fVar 17) (faCons (fVar 18) faNil))))))
  (fSeq (fIfS (fOr (fTst (fV (gIsN Bool.not) (fBor 17 (fCall 2 (M_next_seed aSums) (faCons (fVar 3) (faCons (fVar 17) faNil)) [])))) (fTst (fOp oNe (fBor 17 (fCall 2 (M_lack aSums) (faCons (fVar 3) (faCons (fVar 17) faNil)) [])) (fK (.int 0)))))
  (fRet (fK (.bl false)))
  fNext)
  (fSeq (fSet 19 (fCall 2 (M_gathered_slices aSums) (faCons (fVar 3) (faCons (fLc [20] (fSeqI (fVar 17)) (fgName 20) fYes (fTup (faCons (fVar 20) (faCons (fCall 2 (M_droplet aSums) (faCons (fVar 5) (faCons (fVar 20) faNil)) []) faNil)))) faNil)) []))
  (fSeq (fIfS (fTst (fOp oNe (fVar 19) (fVar 5)))
  (fRet (fK (.bl false)))
  fNext)
  (fSeq (fSet 21 (fCall 2 (M_gathered_slices aSums) (faCons (fVar 3) (faCons (fLc [20] (fSeqI (fVar 9)) (fgName 20) fYes (fTup (faCons (fVar 20) (faCons (fCall 2 (M_droplet aSums) (faCons (fVar 5) (faCons (fVar 20) faNil)) []) faNil)))) faNil)) []))
  (fSeq (fIfS (fOr (fTst (fOp oGt (fV gLen (fLc [7] (fRg1 (faCons (fVar 3) faNil)) (fgName 7) (fAnd (fTst (fV (gIsN Bool.not) (fIxE true (fVar 21) (fVar 7)))) (fTst (fOp oNe (fIxE true (fVar 21) (fVar 7)) (fIxE true (fVar 5) (fVar 7))))) (fK (.int 1)))) (fK (.int 0)))) (fTst (fOp oNe (fInE id (fK .non) (fVar 21)) (fOp oGt (fVar 16) (fK (.int 0))))))
  (fRet (fK (.bl false)))
  fNext)
  (fSeq (fSet 22 (fSlE true (fBor 17 (fPlusE (fBor 17 (fPlusE (fVar 17) (fLst (faCons (fIf (fTst (fOp oGt (fVar 3) (fK (.int 0)))) (fCall 2 (M_next_seed aSums) (faCons (fVar 3) (faCons (fLst faNil) faNil)) []) (fK (.int 0))) faNil)))) (fVar 17))) foNo (foAt (fK (.int 9)))))
  (fFor (fRg1 (faCons (fPlusE (fMin2 (faCons (fK (.int 3)) (faCons (fV gLen (fVar 22)) faNil))) (fK (.int 1))) faNil)) (fgName 23)
  (fSeq (fSet 24 (fCall 3 (M_loss_against aSums) (faCons (fVar 3) (faCons (fVar 22) (faCons (fVar 23) faNil))) []))
  (fIfS (fTst (fV (gIsN id) (fVar 24)))
  (fSeq (fSet 25 (fV gTupl (fVL gSort (fDictOf (fLc [7] (fRg1 (faCons (fVar 23) faNil)) (fgName 7) fYes (fTup (faCons (fCallL 2 (M__law_take aSums) (fvLn (fVar 1) (fvIm (fV gLen (fVar 22)) fvNil)) []) (faCons (fK (.bl true)) faNil))))))))
  (fSeq (fSet 26 (fLc [7] (fRg1 (faCons (fV gLen (fVar 22)) faNil)) (fgName 7) (fTst (fInE Bool.not (fVar 7) (fVar 25))) (fIxE true (fVar 22) (fVar 7))))
  (fIfS (fOr (fTst (fOp oNe (fCall 2 (M_lack aSums) (faCons (fVar 3) (faCons (fVar 26) faNil)) []) (fK (.int 0)))) (fAnd (fTst (fOp oGt (fVar 23) (fK (.int 0)))) (fTst (fV (gIsN Bool.not) (fCall 3 (M_loss_against aSums) (faCons (fVar 3) (faCons (fVar 22) (faCons (fSubI (fVar 23) (fK (.int 1))) faNil))) [])))))
  (fRet (fK (.bl false)))
  fNext)))
  (fSeq (fSet 26 (fLc [7] (fRg1 (faCons (fV gLen (fVar 22)) faNil)) (fgName 7) (fTst (fInE Bool.not (fVar 7) (fVar 24))) (fIxE true (fVar 22) (fVar 7))))
  (fIfS (fOr (fTst (fOp oNe (fV gLen (fVar 24)) (fVar 23))) (fTst (fOp oEq (fCall 2 (M_lack aSums) (faCons (fVar 3) (faCons (fVar 26) faNil)) []) (fK (.int 0)))))
  (fRet (fK (.bl false)))
  fNext)))))))))))))))))))))))
  (fRet (fK (.bl true)))))
noncomputable def M_law (aSums : Addr) : Fn := runB 26 (f_law aSums)
theorem W_law {P : Program} {w : World} {K : PySem.W.Frag} {mg : Str → Option Value} {base : Heap} (T : Txt K mg) : Walked P w K mg base "law" s_law N_law 5 27 (f_law (He.ga K "Sums")) :=
  ⟨_, fun f cdv A outer s H E hr => (ts_cons (ts_set (i := 1) sc_law.nd rfl (Or.inr rfl) (tr_c (C__law_draws (P := P) (w := w) (base := base) T) hr (by decide) (ta_cons (tr_var 0) (ta_cons tr_int ta_nil))))
    (ts_cons (ts_for PassesOwn.never rfl (ti_range1 rfl T.m_range (ta_cons tr_int ta_nil)) (tg_name (i := 2) sc_law.nd rfl (by first | exact Or.inl rfl | exact Or.inr rfl))
    (ts_cons (ts_asg (tr_tup (ta_cons (tr_plus tr_int (tr_cL (C__law_take (P := P) (w := w) (base := base) T) hr (by decide) (tv_ln (tr_var 1) (tv_im tr_int tv_nil)))) (ta_cons (tr_plus tr_int (tr_cL (C__law_take (P := P) (w := w) (base := base) T) hr (by decide) (tv_ln (tr_var 1) (tv_im tr_int tv_nil)))) ta_nil))) (tg_tup (n := 2) rfl (tgs_cons (tg_name (i := 3) sc_law.nd rfl (by first | exact Or.inl rfl | exact Or.inr rfl)) (tgs_cons (tg_name (i := 4) sc_law.nd rfl (by first | exact Or.inl rfl | exact Or.inr rfl)) tgs_nil))))
    (ts_cons (ts_set (i := 5) sc_law.nd rfl (Or.inr rfl) (tr_lc (own := [("index", 6)]) (vs := [6]) rfl sc_law.nd (ti_range1 rfl T.m_range (ta_cons (tr_var 3) ta_nil)) (blkOk_by (N := N_law) (sc := defScope s_law) (by decide +kernel)) (fun _ _ _ _ _ => (tg_name (i := 6) sc_law.nd rfl (by first | exact Or.inl rfl | exact Or.inr rfl))) (fun _ _ _ _ _ => tts_nil) (fun _ _ _ _ _ => (tr_lc (own := [("k", 7)]) (vs := [7]) rfl sc_law.nd (ti_range1 rfl T.m_range (ta_cons (tr_var 4) ta_nil)) (blkOk_in (N := N_law) (by decide +kernel)) (fun _ _ _ _ _ => (tg_name (i := 7) sc_law.nd rfl (by first | exact Or.inl rfl | exact Or.inr rfl))) (fun _ _ _ _ _ => tts_nil) (fun _ _ _ _ _ => (tr_cL (C__law_take (P := P) (w := w) (base := base) T) hr (by decide) (tv_ln (tr_var 1) (tv_im tr_int tv_nil))))))))
    (ts_cons (ts_setLc (i := 8) (own := [("index", 6)]) (vs := [6]) rfl rfl rfl sc_law.nd (ti_range1 rfl T.m_range (ta_cons (tr_var 3) ta_nil)) (blkOk_by (N := N_law) (sc := defScope s_law) (by decide +kernel)) (fun _ _ _ _ _ => (tg_name (i := 6) sc_law.nd rfl (by first | exact Or.inl rfl | exact Or.inr rfl))) (fun _ _ _ _ _ => tts_nil) (fun _ _ _ _ _ => (tr_lc (own := [("k", 7)]) (vs := [7]) rfl sc_law.nd (ti_range1 rfl T.m_range (ta_cons (tr_var 4) ta_nil)) (blkOk_in (N := N_law) (by decide +kernel)) (fun _ _ _ _ _ => (tg_name (i := 7) sc_law.nd rfl (by first | exact Or.inl rfl | exact Or.inr rfl))) (fun _ _ _ _ _ => tts_nil) (fun _ _ _ _ _ => (tr_cL (C__law_take (P := P) (w := w) (base := base) T) hr (by decide) (tv_ln (tr_var 1) (tv_im tr_int tv_nil)))))))
    (ts_cons (ts_setLc (i := 9) (own := [("k", 7)]) (vs := [7]) rfl rfl rfl sc_law.nd (ti_range1 rfl T.m_range (ta_cons (tr_cL (C__law_take (P := P) (w := w) (base := base) T) hr (by decide) (tv_ln (tr_var 1) (tv_im tr_int tv_nil))) ta_nil)) (blkOk_by (N := N_law) (sc := defScope s_law) (by decide +kernel)) (fun _ _ _ _ _ => (tg_name (i := 7) sc_law.nd rfl (by first | exact Or.inl rfl | exact Or.inr rfl))) (fun _ _ _ _ _ => tts_nil) (fun _ _ _ _ _ => (tr_plus (tr_times (tr_cL (C__law_take (P := P) (w := w) (base := base) T) hr (by decide) (tv_ln (tr_var 1) (tv_im tr_int tv_nil))) tr_int) (tr_cL (C__law_take (P := P) (w := w) (base := base) T) hr (by decide) (tv_ln (tr_var 1) (tv_im tr_int tv_nil))))))
    (ts_cons (ts_for PassesOwn.never rfl (ti_seq (tr_slice (tr_var 9) to_no (to_at tr_int))) (tg_name (i := 10) sc_law.nd rfl (by first | exact Or.inl rfl | exact Or.inr rfl))
    (ts_cons (ts_setLc (i := 11) (own := [("a", 12), ("b", 13)]) (vs := [12, 13]) rfl rfl rfl sc_law.nd (ti_zip rfl T.m_zip (ta_cons (tr_var 5) (ta_cons (tr_var 8) ta_nil))) (blkOk_by (N := N_law) (sc := defScope s_law) (by decide +kernel)) (fun _ _ _ _ _ => (tg_tup (n := 2) rfl (tgs_cons (tg_name (i := 12) sc_law.nd rfl (by first | exact Or.inl rfl | exact Or.inr rfl)) (tgs_cons (tg_name (i := 13) sc_law.nd rfl (by first | exact Or.inl rfl | exact Or.inr rfl)) tgs_nil)))) (fun _ _ _ _ _ => tts_nil) (fun _ _ _ _ _ => (tr_c (C__law_xor (P := P) (w := w) (base := base) T) hr (by decide) (ta_cons (tr_var 12) (ta_cons (tr_var 13) ta_nil)))))
    (ts_cons (ts_if (tt_ne (hu64 hr) (tr_c (C_droplet (P := P) (w := w) (base := base) T) hr (by decide) (ta_cons (tr_var 11) (ta_cons (tr_var 10) ta_nil))) (tr_c (C__law_xor (P := P) (w := w) (base := base) T) hr (by decide) (ta_cons (tr_c (C_droplet (P := P) (w := w) (base := base) T) hr (by decide) (ta_cons (tr_var 5) (ta_cons (tr_var 10) ta_nil))) (ta_cons (tr_c (C_droplet (P := P) (w := w) (base := base) T) hr (by decide) (ta_cons (tr_var 8) (ta_cons (tr_var 10) ta_nil))) ta_nil))))
    (ts_one (ts_ret tr_bl))
    ts_nil)
    (ts_cons (ts_set (i := 14) sc_law.nd rfl (Or.inl rfl) (tr_cL (C__law_take (P := P) (w := w) (base := base) T) hr (by decide) (tv_ln (tr_var 1) (tv_im (tr_var 3) tv_nil))))
    (ts_cons (ts_set (i := 15) sc_law.nd rfl (Or.inl rfl) (tr_plus (tr_plus (tr_slice (tr_var 5) to_no (to_at (tr_var 14))) (tr_lst (ta_cons (tr_c (C__law_xor (P := P) (w := w) (base := base) T) hr (by decide) (ta_cons (tr_ix (hu1 hr) (tr_var 5) (tr_var 14)) (ta_cons (tr_times (tr_lst (ta_cons tr_int ta_nil)) (tr_var 4)) ta_nil))) ta_nil))) (tr_slice (tr_var 5) (to_at (tr_plus (tr_var 14) tr_int)) to_no)))
    (ts_one (ts_if (tt_ne (hu64 hr) (tr_c (C_droplet (P := P) (w := w) (base := base) T) hr (by decide) (ta_cons (tr_var 15) (ta_cons (tr_var 10) ta_nil))) (tr_if (tt_in (hu65 hr) (tr_var 14) (tr_c (C_droplet_set (P := P) (w := w) (base := base) T) hr (by decide) (ta_cons (tr_var 3) (ta_cons (tr_var 10) ta_nil)))) (tr_c (C__law_xor (P := P) (w := w) (base := base) T) hr (by decide) (ta_cons (tr_c (C_droplet (P := P) (w := w) (base := base) T) hr (by decide) (ta_cons (tr_var 5) (ta_cons (tr_var 10) ta_nil))) (ta_cons (tr_times (tr_lst (ta_cons tr_int ta_nil)) (tr_var 4)) ta_nil))) (tr_c (C_droplet (P := P) (w := w) (base := base) T) hr (by decide) (ta_cons (tr_var 5) (ta_cons (tr_var 10) ta_nil)))))
    (ts_one (ts_ret tr_bl))
    ts_nil)))))))
    (ts_cons (ts_set (i := 16) sc_law.nd rfl (Or.inl rfl) (tr_c (C_lack (P := P) (w := w) (base := base) T) hr (by decide) (ta_cons (tr_var 3) (ta_cons (tr_var 9) ta_nil))))
    (ts_cons (ts_if (TrW.tt (tt_or (tt_gt (tr_var 16) (tr_var 3)) (tt_or (tt_ne (hu64 hr) (tr_c (C_lack (P := P) (w := w) (base := base) T) hr (by decide) (ta_cons (tr_var 3) (ta_cons (tr_lst ta_nil) ta_nil))) (tr_var 3)) (tt_or (tt_ne (hu64 hr) (tr_c (C_lack (P := P) (w := w) (base := base) T) hr (by decide) (ta_cons (tr_var 3) (ta_cons (tr_plus (tr_var 9) (tr_var 9)) ta_nil))) (tr_var 16)) (tt_or1 (tt_ne (hu64 hr) (tr_c (C_lack (P := P) (w := w) (base := base) T) hr (by decide) (ta_cons (tr_var 3) (ta_cons (tr_revL (tr_var 9)) ta_nil))) (tr_var 16)))))))
    (ts_one (ts_ret tr_bl))
    ts_nil)
    (ts_cons (ts_set (i := 10) sc_law.nd rfl (Or.inl rfl) (tr_times (tr_cL (C__law_take (P := P) (w := w) (base := base) T) hr (by decide) (tv_ln (tr_var 1) (tv_im tr_int tv_nil))) tr_int))
    (ts_cons (ts_if (tt_not (tt_lele (tr_sub (tr_var 16) tr_int) (tr_c (C_lack (P := P) (w := w) (base := base) T) hr (by decide) (ta_cons (tr_var 3) (ta_cons (tr_plus (tr_var 9) (tr_lst (ta_cons (tr_var 10) ta_nil))) ta_nil))) (tr_var 16)))
    (ts_one (ts_ret tr_bl))
    ts_nil)
    (ts_cons (ts_set (i := 17) sc_law.nd rfl (Or.inl rfl) (tr_list rfl T.m_list (tr_var 9)))
    (ts_cons (ts_for PassesOwn.never rfl (ti_range1 rfl T.m_range (ta_cons (tr_var 16) ta_nil)) (tg_name (i := 7) sc_law.nd rfl (by first | exact Or.inl rfl | exact Or.inr rfl))
    (ts_cons (ts_set (i := 18) sc_law.nd rfl (Or.inl rfl) (tr_bor 17 (tr_c (C_next_seed (P := P) (w := w) (base := base) T) hr (by decide) (ta_cons (tr_var 3) (ta_cons (tr_var 17) ta_nil)))))
    (ts_cons (ts_if (TrW.tt (tt_or (tt_isN (tr_var 18)) (tt_or1 (tt_ne (hu64 hr) (tr_c (C_lack (P := P) (w := w) (base := base) T) hr (by decide) (ta_cons (tr_var 3) (ta_cons (tr_bor 17 (tr_plus (tr_var 17) (tr_lst (ta_cons (tr_var 18) ta_nil)))) ta_nil))) (tr_sub (tr_sub (tr_var 16) (tr_var 7)) tr_int)))))
    (ts_one (ts_ret tr_bl))
    ts_nil)
    (ts_one (ts_expr (tr_append (tr_var 17) (ta_cons (tr_var 18) ta_nil)))))))
    (ts_cons (ts_if (TrW.tt (tt_or (tt_notN (tr_bor 17 (tr_c (C_next_seed (P := P) (w := w) (base := base) T) hr (by decide) (ta_cons (tr_var 3) (ta_cons (tr_var 17) ta_nil))))) (tt_or1 (tt_ne (hu64 hr) (tr_bor 17 (tr_c (C_lack (P := P) (w := w) (base := base) T) hr (by decide) (ta_cons (tr_var 3) (ta_cons (tr_var 17) ta_nil)))) tr_int))))
    (ts_one (ts_ret tr_bl))
    ts_nil)
    (ts_cons (ts_set (i := 19) sc_law.nd rfl (Or.inl rfl) (tr_c (C_gathered_slices (P := P) (w := w) (base := base) T) hr (by decide) (ta_cons (tr_var 3) (ta_cons (tr_lc (own := [("each", 20)]) (vs := [20]) rfl sc_law.nd (ti_seq (tr_var 17)) (blkOk_by (N := N_law) (sc := defScope s_law) (by decide +kernel)) (fun _ _ _ _ _ => (tg_name (i := 20) sc_law.nd rfl (by first | exact Or.inl rfl | exact Or.inr rfl))) (fun _ _ _ _ _ => tts_nil) (fun _ _ _ _ _ => (tr_tup (ta_cons (tr_var 20) (ta_cons (tr_c (C_droplet (P := P) (w := w) (base := base) T) hr (by decide) (ta_cons (tr_var 5) (ta_cons (tr_var 20) ta_nil))) ta_nil))))) ta_nil))))
    (ts_cons (ts_if (tt_ne (hu64 hr) (tr_var 19) (tr_var 5))
    (ts_one (ts_ret tr_bl))
    ts_nil)
    (ts_cons (ts_set (i := 21) sc_law.nd rfl (Or.inr rfl) (tr_c (C_gathered_slices (P := P) (w := w) (base := base) T) hr (by decide) (ta_cons (tr_var 3) (ta_cons (tr_lc (own := [("each", 20)]) (vs := [20]) rfl sc_law.nd (ti_seq (tr_var 9)) (blkOk_by (N := N_law) (sc := defScope s_law) (by decide +kernel)) (fun _ _ _ _ _ => (tg_name (i := 20) sc_law.nd rfl (by first | exact Or.inl rfl | exact Or.inr rfl))) (fun _ _ _ _ _ => tts_nil) (fun _ _ _ _ _ => (tr_tup (ta_cons (tr_var 20) (ta_cons (tr_c (C_droplet (P := P) (w := w) (base := base) T) hr (by decide) (ta_cons (tr_var 5) (ta_cons (tr_var 20) ta_nil))) ta_nil))))) ta_nil))))
    (ts_cons (ts_if (TrW.tt (tt_or (tt_gt (tr_len rfl T.m_len (tr_lc (own := [("k", 7)]) (vs := [7]) rfl sc_law.nd (ti_range1 rfl T.m_range (ta_cons (tr_var 3) ta_nil)) (blkOk_by (N := N_law) (sc := defScope s_law) (by decide +kernel)) (fun _ _ _ _ _ => (tg_name (i := 7) sc_law.nd rfl (by first | exact Or.inl rfl | exact Or.inr rfl))) (fun _ _ _ _ _ => (tts_one (TrW.tt (tt_and (tt_notN (tr_ix (hu1 hr) (tr_var 21) (tr_var 7))) (tt_and1 (tt_ne (hu64 hr) (tr_ix (hu1 hr) (tr_var 21) (tr_var 7)) (tr_ix (hu1 hr) (tr_var 5) (tr_var 7)))))))) (fun _ _ _ _ _ => tr_int))) tr_int) (tt_or1 (tt_ne (hu64 hr) (tr_in (hu65 hr) tr_non (tr_var 21)) (tr_gt (tr_var 16) tr_int)))))
    (ts_one (ts_ret tr_bl))
    ts_nil)
    (ts_cons (ts_set (i := 22) sc_law.nd rfl (Or.inr rfl) (tr_slice (tr_bor 17 (tr_plus (tr_bor 17 (tr_plus (tr_var 17) (tr_lst (ta_cons (tr_if (tt_gt (tr_var 3) tr_int) (tr_c (C_next_seed (P := P) (w := w) (base := base) T) hr (by decide) (ta_cons (tr_var 3) (ta_cons (tr_lst ta_nil) ta_nil))) tr_int) ta_nil)))) (tr_var 17))) to_no (to_at tr_int)))
    (ts_one (ts_for PassesOwn.never rfl (ti_range1 rfl T.m_range (ta_cons (tr_plus (tr_min2 rfl rfl T.m_min (ta_cons tr_int (ta_cons (tr_len rfl T.m_len (tr_var 22)) ta_nil))) tr_int) ta_nil)) (tg_name (i := 23) sc_law.nd rfl (by first | exact Or.inl rfl | exact Or.inr rfl))
    (ts_cons (ts_set (i := 24) sc_law.nd rfl (Or.inr rfl) (tr_c (C_loss_against (P := P) (w := w) (base := base) T) hr (by decide) (ta_cons (tr_var 3) (ta_cons (tr_var 22) (ta_cons (tr_var 23) ta_nil)))))
    (ts_one (ts_if (tt_isN (tr_var 24))
    (ts_cons (ts_set (i := 25) sc_law.nd rfl (Or.inr rfl) (tr_tuple rfl T.m_tuple (tr_sorted rfl rfl T.m_sorted (tr_dictOf rfl rfl T.m_dict (tr_lc (own := [("k", 7)]) (vs := [7]) rfl sc_law.nd (ti_range1 rfl T.m_range (ta_cons (tr_var 23) ta_nil)) (blkOk_by (N := N_law) (sc := defScope s_law) (by decide +kernel)) (fun _ _ _ _ _ => (tg_name (i := 7) sc_law.nd rfl (by first | exact Or.inl rfl | exact Or.inr rfl))) (fun _ _ _ _ _ => tts_nil) (fun _ _ _ _ _ => (tr_tup (ta_cons (tr_cL (C__law_take (P := P) (w := w) (base := base) T) hr (by decide) (tv_ln (tr_var 1) (tv_im (tr_len rfl T.m_len (tr_var 22)) tv_nil))) (ta_cons tr_bl ta_nil)))))))))
    (ts_cons (ts_setLc (i := 26) (own := [("k", 7)]) (vs := [7]) rfl rfl rfl sc_law.nd (ti_range1 rfl T.m_range (ta_cons (tr_len rfl T.m_len (tr_var 22)) ta_nil)) (blkOk_by (N := N_law) (sc := defScope s_law) (by decide +kernel)) (fun _ _ _ _ _ => (tg_name (i := 7) sc_law.nd rfl (by first | exact Or.inl rfl | exact Or.inr rfl))) (fun _ _ _ _ _ => (tts_one (tt_notIn (hu65 hr) (tr_var 7) (tr_var 25)))) (fun _ _ _ _ _ => (tr_ix (hu1 hr) (tr_var 22) (tr_var 7))))
    (ts_one (ts_if (TrW.tt (tt_or (tt_ne (hu64 hr) (tr_c (C_lack (P := P) (w := w) (base := base) T) hr (by decide) (ta_cons (tr_var 3) (ta_cons (tr_var 26) ta_nil))) tr_int) (tt_or1 (TrW.tt (tt_and (tt_gt (tr_var 23) tr_int) (tt_and1 (tt_notN (tr_c (C_loss_against (P := P) (w := w) (base := base) T) hr (by decide) (ta_cons (tr_var 3) (ta_cons (tr_var 22) (ta_cons (tr_sub (tr_var 23) tr_int) ta_nil)))))))))))
    (ts_one (ts_ret tr_bl))
    ts_nil))))
    (ts_cons (ts_setLc (i := 26) (own := [("k", 7)]) (vs := [7]) rfl rfl rfl sc_law.nd (ti_range1 rfl T.m_range (ta_cons (tr_len rfl T.m_len (tr_var 22)) ta_nil)) (blkOk_by (N := N_law) (sc := defScope s_law) (by decide +kernel)) (fun _ _ _ _ _ => (tg_name (i := 7) sc_law.nd rfl (by first | exact Or.inl rfl | exact Or.inr rfl))) (fun _ _ _ _ _ => (tts_one (tt_notIn (hu65 hr) (tr_var 7) (tr_var 24)))) (fun _ _ _ _ _ => (tr_ix (hu1 hr) (tr_var 22) (tr_var 7))))
    (ts_one (ts_if (TrW.tt (tt_or (tt_ne (hu64 hr) (tr_len rfl T.m_len (tr_var 24)) (tr_var 23)) (tt_or1 (tt_eq (hu64 hr) (tr_c (C_lack (P := P) (w := w) (base := base) T) hr (by decide) (ta_cons (tr_var 3) (ta_cons (tr_var 26) ta_nil))) tr_int))))
    (ts_one (ts_ret tr_bl))
    ts_nil))))))))))))))))))))))))))
    (ts_one (ts_ret tr_bl)))), is_of inferInstance rfl⟩
/-! ### the head -/
def fa : List He.Fa := [.int "MOST_SLICES" 24, .int "SEEDS" 65536, .int "FACTOR" 75, .int "STEP" 74, .int "MODULUS" 65537, .free "list", .free "len", .free "range", .free "int", .free "zip", .free "tuple", .free "any", .free "sum", .free "all", .free "enumerate", .free "min", .free "dict", .free "sorted", .cls "Sums", .noat "Sums" "length", .noat "Sums" "rows", .glo "_law_draws", .glo "_law_take", .glo "_law_xor", .glo "check_count", .glo "droplet_set", .glo "mixed", .glo "droplet", .mkr "Sums", .glo "Sums", .glo "mask_of", .meth "Sums" "add", .glo "lack", .glo "next_seed", .glo "gathered_slices", .glo "sets_of", .glo "loss_against", .glo "law"]
def fn : List He.DefD := [defD "_law_draws" s__law_draws, defD "_law_take" s__law_take, defD "_law_xor" s__law_xor, defD "check_count" s_check_count, defD "droplet_set" s_droplet_set, defD "mixed" s_mixed, defD "droplet" s_droplet, methD "Sums" "__init__" "Sums.__init__" s_Sums___init__, defD "mask_of" s_mask_of, methD "Sums" "add" "Sums.add" s_Sums_add, defD "lack" s_lack, defD "next_seed" s_next_seed, defD "gathered_slices" s_gathered_slices, defD "sets_of" s_sets_of, defD "loss_against" s_loss_against, defD "law" s_law]
abbrev R : PySem.W.OpenRow := PySem.W.OpenLaw.row PySem.Challenge.rw_paperark_k22_whole_droplets_gathered
theorem txt_mk {K : PySem.W.Frag} {mg : Str → Option Value} {h : Heap} (X : K.In h) (G : h.Ns mainGlobals mg) (c : He.SaysD fa fn K) : Txt K mg :=
  ⟨gint_mk X G c 0 rfl, gint_mk X G c 1 rfl, gint_mk X G c 2 rfl, gint_mk X G c 3 rfl, gint_mk X G c 4 rfl, free_mk X G c 5 rfl, free_mk X G c 6 rfl, free_mk X G c 7 rfl, free_mk X G c 8 rfl, free_mk X G c 9 rfl, free_mk X G c 10 rfl, free_mk X G c 11 rfl, free_mk X G c 12 rfl, free_mk X G c 13 rfl, free_mk X G c 14 rfl, free_mk X G c 15 rfl, free_mk X G c 16 rfl, free_mk X G c 17 rfl, He.cls_ok (c.fact 18 rfl), He.noat_ok (c.fact 19 rfl), He.noat_ok (c.fact 20 rfl), defG_mk X G c 0 21 rfl rfl (fun _ _ _ _ _ _ us hl => match us, hl with | [_, _], _ => rfl), defG_mk X G c 1 22 rfl rfl (fun _ _ _ _ _ _ us hl => match us, hl with | [_, _], _ => rfl), defG_mk X G c 2 23 rfl rfl (fun _ _ _ _ _ _ us hl => match us, hl with | [_, _], _ => rfl), defG_mk X G c 3 24 rfl rfl (fun _ _ _ _ _ _ us hl => match us, hl with | [_], _ => rfl), defG_mk X G c 4 25 rfl rfl (fun _ _ _ _ _ _ us hl => match us, hl with | [_, _], _ => rfl), defG_mk X G c 5 26 rfl rfl (fun _ _ _ _ _ _ us hl => match us, hl with | [_, _], _ => rfl), defG_mk X G c 6 27 rfl rfl (fun _ _ _ _ _ _ us hl => match us, hl with | [_, _], _ => rfl), makG_mk X G c 7 28 29 rfl rfl rfl (fun _ _ _ _ _ _ us hl => match us, hl with | [_, _], _ => rfl), defG_mk X G c 8 30 rfl rfl (fun _ _ _ _ _ _ us hl => match us, hl with | [_, _], _ => rfl), methG_mk c 9 31 18 rfl rfl rfl (fun _ _ _ _ _ _ us hl => match us, hl with | [_, _, _], _ => rfl), defG_mk X G c 10 32 rfl rfl (fun _ _ _ _ _ _ us hl => match us, hl with | [_, _], _ => rfl), defG_mk X G c 11 33 rfl rfl (fun _ _ _ _ _ _ us hl => match us, hl with | [_, _], _ => rfl), defG_mk X G c 12 34 rfl rfl (fun _ _ _ _ _ _ us hl => match us, hl with | [_, _], _ => rfl), defG_mk X G c 13 35 rfl rfl (fun _ _ _ _ _ _ us hl => match us, hl with | [_, _], _ => rfl), defG_mk X G c 14 36 rfl rfl (fun _ _ _ _ _ _ us hl => match us, hl with | [_, _, _], _ => rfl), defG_mk X G c 15 37 rfl rfl (fun _ _ _ _ _ _ us hl => match us, hl with | [_], _ => rfl)⟩
theorem facts (hF : ∀ (K : PySem.W.Frag) (ns : List Int), ns.length ≤ 63 → ∃ bs, (M_law (He.ga K "Sums")) [.im (.wl (ns.map D.int))] = some (.im (.bl true), bs)) {P : Program} {w : World} {K : PySem.W.Frag} {h : Heap} {mg : Str → Option Value} {f : Addr} (X : K.In h) (G : h.Ns mainGlobals mg) (hfa : mg ("law" : Str) = some (.ref f)) (c : He.SaysD fa fn K) :
    ∃ fd : FuncData, (∀ (s : Shared) (v : Value), BindsTo s fd ⟨[v], []⟩ [("script", v)]) ∧ ∀ base : Heap, K.In base → base.Ns mainGlobals mg → FnOk P w K mg base CX0 6 f fd ["script"] (spLaw K) := by
  have T := txt_mk X G c
  obtain ⟨fd, F⟩ := c.def_ 15 (d := defD "law" s_law) rfl
  have e := hfa.symm.trans (He.glo_ok X G (c.fact 37 (f := .glo "law") rfl))
  cases e
  have b := FunD.bindsA (ps := ["script"]) F fun _ _ _ _ _ _ us hl => match us, hl with | [_], _ => rfl
  have F : FunD K "law" "law" (defArgs s_law) (defBody s_law) (defScope s_law) [] [] (He.fAd K ("law", none)) fd := F
  have FF := fun_of F
  refine ⟨fd, fun s v => b s [v] rfl, fun base _ _ => law_ok (hF K) ?_⟩
  exact fnOk_mk FF sc_law (W_law (P := P) (w := w) (base := base) T) rfl rfl rfl
/-- the other names that the top binds -/
def names : List PySem.Str := (["ArchiveError", "InvalidArchive", "MOST_SLICES", "SEEDS", "FACTOR", "STEP", "MODULUS", "check_count", "droplet_set", "mixed", "droplet", "mask_of", "Sums", "gathered_slices", "lack", "next_seed", "sets_of", "loss_against", "_law_draws", "_law_take", "_law_same", "_law_xor"] : List PySem.Str)
abbrev lawAt : Nat := 27
abbrev lawLv : Nat := 6
end K22
end
section
set_option Elab.async false
set_option linter.all false
set_option maxRecDepth 100000
set_option maxHeartbeats 1000000
namespace DL
open PySem L2
section
variable {δ δ' : Env} {d e : D} {i j k : Nat} {fa fb fc : FE} {fs : FA} {fv : FV} {t u : FT} {r g : FS} {o : Ow} {x : Rd} {s : Slot}
theorem fK_s : fK d δ = some (.im d, δ) := rfl
theorem fVar_s : fVar j δ = varSF δ j δ[j]? := rfl
theorem varSF_im : varSF δ j (some (.im d)) = some (.im d, δ) := rfl
theorem varSF_ow {p : Pin} : varSF δ j (some (.ow p o)) = some (.vr j, δ) := rfl
theorem asImF_im : asImF (.im d) δ = some (d, δ) := rfl
theorem asImF_tm : asImF (.tm o) δ = imOF δ o := rfl
theorem asImF_vr : asImF (.vr j) δ = imSF δ j δ[j]? := rfl
theorem imOF_l {xs : List D} : imOF δ (.ob (.lst xs)) = some (.lst xs, δ) := rfl
theorem imSF_im : imSF δ j (some (.im d)) = some (d, δ) := rfl
theorem imSF_l {xs : List D} : imSF δ j (some (.ow .fresh (.ob (.lst xs)))) = some (.lst xs, δ.set j (.im (.lst xs))) := rfl
theorem some_bindF {α β : Type} (a : α) (f : α → Option β) : (some a).bind f = f a := rfl
theorem f1_s {β : Type} {P : D → Env → Option β} : f1 fa P δ = (fa δ).bind fun p => (asImF p.1 p.2).bind fun q => P q.1 q.2 := rfl
theorem f2_s {β : Type} {P : D → D → Env → Option β} : f2 fa fb P δ = (fa δ).bind fun p => (asImF p.1 p.2).bind fun q => (fb q.2).bind fun p' => (asImF p'.1 p'.2).bind fun q' => P q.1 q'.1 q'.2 := rfl
theorem f2v_s {β : Type} {P : D → Rd → Env → Option β} : f2v fa fb P δ = (fa δ).bind fun p => (asImF p.1 p.2).bind fun q => (fb q.2).bind fun p' => P q.1 p'.1 p'.2 := rfl
theorem fOp_s {g : OpF} : fOp g fa fb δ = (fa δ).bind fun p => (asImF p.1 p.2).bind fun q => (fb q.2).bind fun p' => (asImF p'.1 p'.2).bind fun q' => (g q.1 q'.1).bind fun z => some (.im z, q'.2) := rfl
theorem oI_s {C : Int → Int → Prop} [∀ i j, Decidable (C i j)] {g : Int → Int → Int} {i j : Int} : oI C g (.int i) (.int j) = if C i j then some (.int (g i j)) else none := rfl
theorem oI0_s {g : Int → Int → Int} {i j : Int} : oI0 g (.int i) (.int j) = some (.int (g i j)) := rfl
theorem oB0_s {g : Int → Int → Bool} {i j : Int} : oB0 g (.int i) (.int j) = some (.bl (g i j)) := rfl
theorem oEq_s : oEq d e = if d.ok ∧ e.ok then some (.bl (d.eqv e)) else none := rfl
theorem oNe_s : oNe d e = if d.ok ∧ e.ok then some (.bl (!d.eqv e)) else none := rfl
theorem fV_s {g : Option D → Option D} : fV g fa δ = (fa δ).bind fun p => (g (vw p.2 p.1)).bind fun z => some (.im z, p.2) := rfl
theorem vw_im : vw δ (.im d) = some d := rfl
theorem vw_tm : vw δ (.tm o) = some o.toD := rfl
theorem vw_vr : vw δ (.vr j) = vwS δ[j]? := rfl
theorem vw_at {f : Str} : vw δ (.at j f) = vwAt f δ[j]? := rfl
theorem vwS_im : vwS (some (.im d)) = some d := rfl
theorem vwS_ow {p : Pin} : vwS (some (.ow p o)) = some o.toD := rfl
theorem toD_l {xs : List D} : Ow.toD (.ob (.lst xs)) = .lst xs := rfl
theorem toD_k {xs : List (Key × D)} : Ow.toD (.ob (.dK xs)) = .dK xs := rfl
theorem toD_t {xs : List (List Key × D)} : Ow.toD (.ob (.dT xs)) = .dT xs := rfl
theorem gLen_l {xs : List D} : gLen (some (.lst xs)) = some (.int xs.length) := rfl
theorem gLen_wl {xs : List D} : gLen (some (.wl xs)) = some (.int xs.length) := rfl
theorem gLen_tup {xs : List D} : gLen (some (.tup xs)) = some (.int xs.length) := rfl
theorem gLen_dK {xs : List (Key × D)} : gLen (some (.dK xs)) = some (.int xs.length) := rfl
theorem gSum_l {xs : List D} : gSum (some (.lst xs)) = (D.ints? xs).bind fun ns => some (.int ns.sum) := rfl
theorem gBs_l {xs : List D} {g : List Bool → Bool} : gBs g (some (.lst xs)) = (D.bls? xs).bind fun ns => some (.bl (g ns)) := rfl
theorem gAnyI_l {xs : List D} : gAnyI (some (.lst xs)) = (D.ints? xs).bind fun ns => some (.bl (ns.any fun n => n != 0)) := rfl
theorem gInt_i {i : Int} : gInt (some (.int i)) = some (.int i) := rfl
theorem gInt_b {b : Bool} : gInt (some (.bl b)) = some (.int (if b then 1 else 0)) := rfl
theorem gIsN_n {g : Bool → Bool} : gIsN g (some .non) = some (.bl (g true)) := rfl
theorem gIsN_i {g : Bool → Bool} {i : Int} : gIsN g (some (.int i)) = some (.bl (g false)) := rfl
theorem gIsN_l {g : Bool → Bool} {i : List D} : gIsN g (some (.lst i)) = some (.bl (g false)) := rfl
theorem gIsN_tup {g : Bool → Bool} {i : List D} : gIsN g (some (.tup i)) = some (.bl (g false)) := rfl
theorem gIsN_s {g : Bool → Bool} {i : Str} : gIsN g (some (.str i)) = some (.bl (g false)) := rfl
theorem gIsN_b {g : Bool → Bool} {i : Bool} : gIsN g (some (.bl i)) = some (.bl (g false)) := rfl
theorem fVL_s {g : Option D → Option (List D)} : fVL g fa δ = (fa δ).bind fun p => (g (vw p.2 p.1)).bind fun z => some (.tm (.ob (.lst z)), p.2) := rfl
theorem gList_l {xs : List D} : gList (some (.lst xs)) = some xs := rfl
theorem gList_wl {xs : List D} : gList (some (.wl xs)) = some xs := rfl
theorem gList_tup {xs : List D} : gList (some (.tup xs)) = some xs := rfl
theorem gRev_l {xs : List D} : gRev (some (.lst xs)) = some xs.reverse := rfl
theorem gTupl_l {xs : List D} : gTupl (some (.lst xs)) = some (.tup xs) := rfl
theorem gTupl_t {xs : List D} : gTupl (some (.tup xs)) = some (.tup xs) := rfl
theorem fTruT_s : fTruT fa δ = (fa δ).bind fun p => (gTru (vw p.2 p.1)).bind fun z => some (z, p.2) := rfl
theorem gTru_n : gTru (some .non) = some false := rfl
theorem gTru_b {b : Bool} : gTru (some (.bl b)) = some b := rfl
theorem gTru_i {i : Int} : gTru (some (.int i)) = some (i != 0) := rfl
theorem gTru_l {i : List D} : gTru (some (.lst i)) = some (!i.isEmpty) := rfl
theorem gTru_tup {i : List D} : gTru (some (.tup i)) = some (!i.isEmpty) := rfl
theorem fAnd_s : fAnd t u δ = (t δ).bind fun p => if p.1 = true then u p.2 else some (false, p.2) := rfl
theorem fOr_s : fOr t u δ = (t δ).bind fun p => if p.1 = true then some (true, p.2) else u p.2 := rfl
theorem fNot_s : fNot t δ = (t δ).bind fun p => some (!p.1, p.2) := rfl
theorem fIf_s : fIf t fa fb δ = (t δ).bind fun p => if p.1 = true then fa p.2 else fb p.2 := rfl
theorem fAndV_s : fAndV fa fb δ = (fa δ).bind fun p => (asImF p.1 p.2).bind fun q => onBlF (fun c => if c = true then fb q.2 else some (.im (.bl false), q.2)) q.1 := rfl
theorem fOrV_s : fOrV fa fb δ = (fa δ).bind fun p => (asImF p.1 p.2).bind fun q => onBlF (fun c => if c = true then some (.im (.bl true), q.2) else fb q.2) q.1 := rfl
theorem fNotV_s : fNotV fa δ = (fa δ).bind fun p => (asImF p.1 p.2).bind fun q => onBlF (fun c => some (.im (.bl (!c)), q.2)) q.1 := rfl
theorem onBlF_b {β : Type} {k : Bool → Option β} {b : Bool} : onBlF k (.bl b) = k b := rfl
theorem fChain_s {f g : OpF} : fChain f g fa fb fc δ = (fa δ).bind fun p => (asImF p.1 p.2).bind fun q => (fb q.2).bind fun p' => (asImF p'.1 p'.2).bind fun q' => (f q.1 q'.1).bind fun z => onBlF (fun k => if k = true then (fc q'.2).bind fun a => (asImF a.1 a.2).bind fun b => (g q'.1 b.1).bind fun w => some (.im w, b.2) else some (.im (.bl false), q'.2)) z := rfl
theorem fTst_s : fTst fa δ = (fa δ).bind fun p => (blXF p.1).bind fun b => some (b, p.2) := rfl
theorem blXF_b {b : Bool} : blXF (.im (.bl b)) = some b := rfl
theorem gIx_l {xs : List D} {i : Int} : gIx (some (.lst xs)) (.int i) = atI xs i := rfl
theorem gIx_wl {xs : List D} {i : Int} : gIx (some (.wl xs)) (.int i) = atI xs i := rfl
theorem gIx_tup {xs : List D} {i : Int} : gIx (some (.tup xs)) (.int i) = atI xs i := rfl
theorem gIx_dK {xs : List (Key × D)} : gIx (some (.dK xs)) d = d.key.bind fun j => kval xs j := rfl
theorem gIx_dT {xs : List (List Key × D)} {ds : List D} : gIx (some (.dT xs)) (.tup ds) = (D.keys ds).bind fun j => kval xs j := rfl
theorem keepF_im {q : Bool} : keepF q (.im d) δ = some (.im d, δ) := rfl
theorem keepF_vr {q : Bool} : keepF q (.vr j) δ = some (.vr j, δ) := rfl
theorem keepF_at {f : Str} : keepF true (.at j f) δ = some (.at j f, δ) := rfl
theorem keepF_tm {q : Bool} : keepF q (.tm o) δ = (imOF δ o).bind fun p => some (.im p.1, p.2) := rfl
theorem fIxE_s {q : Bool} : fIxE q fa fb δ = (fa δ).bind fun p => (keepF q p.1 p.2).bind fun p' => (fb p'.2).bind fun a => (asImF a.1 a.2).bind fun b => (gIx (vw b.2 p'.1) b.1).bind fun z => some (.im z, b.2) := rfl
theorem fInE_s {n : Bool → Bool} : fInE n fa fb δ = (fa δ).bind fun p => (asImF p.1 p.2).bind fun q => (fb q.2).bind fun p' => (gIn n (vw p'.2 p'.1) q.1).bind fun z => some (.im z, p'.2) := rfl
theorem gIn_l {n : Bool → Bool} {xs : List D} : gIn n (some (.lst xs)) d = if d.ok ∧ (D.lst xs).ok then some (.bl (n (xs.any fun z => z.eqv d))) else none := rfl
theorem gIn_tup {n : Bool → Bool} {xs : List D} : gIn n (some (.tup xs)) d = if d.flat = true ∧ xs.all D.flat = true then some (.bl (n (xs.any fun z => z.eqv d))) else none := rfl
theorem gIn_dK {n : Bool → Bool} {kvs : List (Key × D)} : gIn n (some (.dK kvs)) d = d.key.bind fun j => some (.bl (n (kval kvs j).isSome)) := rfl
theorem gIn_dT {n : Bool → Bool} {kvs : List (List Key × D)} {ds : List D} : gIn n (some (.dT kvs)) (.tup ds) = (D.keys ds).bind fun j => some (.bl (n (kval kvs j).isSome)) := rfl
theorem fPlusE_s : fPlusE fa fb δ = (fa δ).bind fun p => (asImF p.1 p.2).bind fun q => (fb q.2).bind fun p' => (gPlus q.1 (vw p'.2 p'.1)).bind fun x => some (x, p'.2) := rfl
theorem gPlus_i {i j : Int} : gPlus (.int i) (some (.int j)) = some (.im (.int (i + j))) := rfl
theorem gPlus_l {a b : List D} : gPlus (.lst a) (some (.lst b)) = if a.length + b.length ≤ sizeLine then some (.tm (.ob (.lst (a ++ b)))) else none := rfl
theorem gPlus_t {a b : List D} : gPlus (.tup a) (some (.tup b)) = if a.length + b.length ≤ sizeLine then some (.im (.tup (a ++ b))) else none := rfl
theorem gPlus_s {a b : Str} : gPlus (.str a) (some (.str b)) = if a.length + b.length ≤ sizeLine then some (.im (.str (a ++ b))) else none := rfl
theorem fTimesE_s : fTimesE fa fb δ = (fa δ).bind fun p => (asImF p.1 p.2).bind fun q => (fb q.2).bind fun p' => (asImF p'.1 p'.2).bind fun q' => (gTimes q.1 q'.1).bind fun x => some (x, q'.2) := rfl
theorem gTimes_i {i j : Int} : gTimes (.int i) (.int j) = if CMulX i j then some (.im (.int (i * j))) else none := rfl
theorem gTimes_l {xs : List D} {k : Int} : gTimes (.lst xs) (.int k) = if -(2 ^ 63) ≤ k ∧ k < 2 ^ 63 ∧ xs.length * k.toNat ≤ sizeLine then some (.tm (.ob (.lst (List.replicate k.toNat xs).flatten))) else none := rfl
theorem faNil_s : faNil δ = some ([], δ) := rfl
theorem faCons_s : faCons fa fs δ = (fa δ).bind fun p => (asImF p.1 p.2).bind fun q => (fs q.2).bind fun r => some (q.1 :: r.1, r.2) := rfl
theorem fTup_s : fTup fs δ = (fs δ).bind fun p => if p.1.length ≤ sizeLine then some (.im (.tup p.1), p.2) else none := rfl
theorem fLst_s : fLst fs δ = (fs δ).bind fun p => if p.1.length ≤ sizeLine then some (.tm (.ob (.lst p.1)), p.2) else none := rfl
theorem fNewK_s : fNewK δ = some (.tm (.ob (.dK [])), δ) := rfl
theorem fNewT_s : fNewT δ = some (.tm (.ob (.dT [])), δ) := rfl
theorem foNo_s : foNo δ = some (none, δ) := rfl
theorem foAt_s : foAt fa δ = (fa δ).bind fun p => (asImF p.1 p.2).bind fun q => onIntF (fun i => some (some i, q.2)) q.1 := rfl
theorem onIntF_i {β : Type} {k : Int → Option β} {i : Int} : onIntF k (.int i) = k i := rfl
theorem fSlE_s {q : Bool} {fo fo' : FO} : fSlE q fa fo fo' δ = (fa δ).bind fun p => (keepF q p.1 p.2).bind fun p' => (fo p'.2).bind fun l => (fo' l.2).bind fun h => (gSl l.1 h.1 (vw h.2 p'.1)).bind fun x => some (x, h.2) := rfl
theorem gSl_l {lo hi : Option Int} {xs : List D} : gSl lo hi (some (.lst xs)) = some (.tm (.ob (.lst (cutD xs lo hi)))) := rfl
theorem gSl_t {lo hi : Option Int} {xs : List D} : gSl lo hi (some (.tup xs)) = some (.im (.tup (cutD xs lo hi))) := rfl
theorem fBits_s : fBits fa δ = (fa δ).bind fun p => (asImF p.1 p.2).bind fun q => onIntF (fun i => some (.im (.int (Builtin.Int.intBits i : Nat)), q.2)) q.1 := rfl
theorem fNeg_s : fNeg fa δ = (fa δ).bind fun p => (asImF p.1 p.2).bind fun q => onIntF (fun i => some (.im (.int (-i)), q.2)) q.1 := rfl
theorem fMin2_s : fMin2 fs δ = (fs δ).bind fun p => onPairF (fun i j => some (.im (.int (if j < i then j else i)), p.2)) p.1 := rfl
theorem fMax2_s : fMax2 fs δ = (fs δ).bind fun p => onPairF (fun i j => some (.im (.int (if j > i then j else i)), p.2)) p.1 := rfl
theorem onPairF_i {β : Type} {k : Int → Int → Option β} {i j : Int} : onPairF k [.int i, .int j] = k i j := rfl
theorem callF_s {n : Nat} {F : Fn} {as : List Slot} : callF n F as = if as.length = n then F as else none := rfl
theorem fCall_s {m : Nat} {F : Fn} {dds : List D} : fCall m F fs dds δ = (fs δ).bind fun p => (callF m F ((p.1 ++ dds).map .im)).bind fun r => (resF r.1).bind fun x => some (x, p.2) := rfl
theorem resF_im : resF (.im d) = some (.im d) := rfl
theorem resF_ow : resF (.ow .fresh o) = some (.tm o) := rfl
theorem fvNil_s : fvNil δ = some ([], δ) := rfl
theorem fvIm_s : fvIm fa fv δ = (fa δ).bind fun p => (asImF p.1 p.2).bind fun q => (fv q.2).bind fun r => some (.im q.1 :: r.1, r.2) := rfl
theorem fvLn_s : fvLn fa fv δ = (fa δ).bind fun p => (agF p.1).bind fun a => (fv p.2).bind fun q => some (a :: q.1, q.2) := rfl
theorem agF_im : agF (.im d) = some (.im d) := rfl
theorem agF_vr : agF (.vr j) = some (.vr j) := rfl
theorem fCallL_s {m : Nat} {F : Fn} {dds : List D} : fCallL m F fv dds δ = (fv δ).bind fun p => callRF m F (p.1 ++ dds.map .im) p.2 := rfl
theorem callRF_s {m : Nat} {F : Fn} {ags : List Ag} : callRF m F ags δ = (lendF ags δ []).bind fun p => (callF m F (argS 0 p.2)).bind fun r => (joinF p.2 r.2).bind fun cs => (backF ags cs p.1).bind fun δ3 => (resF r.1).bind fun x => some (x, δ3) := rfl
theorem lendF_n {acc : List Slot} : lendF [] δ acc = some (δ, acc) := rfl
theorem lendF_i {as : List Ag} {acc : List Slot} : lendF (.im d :: as) δ acc = lendF as δ (acc ++ [.im d]) := rfl
theorem lendF_v {as : List Ag} {acc : List Slot} : lendF (.vr j :: as) δ acc = (lendSF δ j δ[j]?).bind fun p => lendF as p.2 (acc ++ [p.1]) := rfl
theorem lendSF_o {p : Pin} : lendSF δ j (some (.ow p o)) = some (.ow p o, δ.set j .un) := rfl
theorem lendSF_i : lendSF δ j (some (.im d)) = some (.im d, δ) := rfl
theorem joinF_n : joinF [] [] = some [] := rfl
theorem joinF_i {as bs : List Slot} : joinF (.im d :: as) (s :: bs) = (joinF as bs).bind fun cs => some (.im d :: cs) := rfl
theorem joinF_o {as bs : List Slot} {p : Pin} {k : Nat} {o' : Ow} : joinF (.ow p o' :: as) (.ow (.arg k) o :: bs) = (joinF as bs).bind fun cs => some (.ow p o :: cs) := rfl
theorem backF_n : backF [] [] δ = some δ := rfl
theorem backF_i {as : List Ag} {cs : List Slot} : backF (.im d :: as) (s :: cs) δ = backF as cs δ := rfl
theorem backF_vi {as : List Ag} {cs : List Slot} : backF (.vr j :: as) (.im d :: cs) δ = backF as cs δ := rfl
theorem backF_vo {as : List Ag} {cs : List Slot} {p : Pin} : backF (.vr j :: as) (.ow p o :: cs) δ = backF as cs (δ.set j (.ow p o)) := rfl
theorem argS_n : argS k [] = [] := rfl
theorem argS_i {as : List Slot} : argS k (.im d :: as) = .im d :: argS (k + 1) as := rfl
theorem argS_o {as : List Slot} {p : Pin} : argS k (.ow p o :: as) = .ow (.arg k) o :: argS (k + 1) as := rfl
theorem fMt_s {t : OK} {g : MtF} {q : Bool} : fMt t g q fa fs δ = (fa δ).bind fun p => if staysB q p.1 = true ∧ okB t (obAt p.2 p.1) = true then (fs p.2).bind fun a => (obAt a.2 p.1).bind fun ob => (g ob a.1).bind fun r => some (.im r.2, setOb a.2 p.1 r.1) else none := rfl
theorem staysB_v {q : Bool} : staysB q (.vr j) = true := rfl
theorem staysB_a {q : Bool} {f : Str} : staysB q (.at j f) = q := rfl
theorem okB_l {xs : List D} : okB .lst (some (.lst xs)) = true := rfl
theorem okB_k {xs : List (Key × D)} : okB .dct (some (.dK xs)) = true := rfl
theorem okB_t {xs : List (List Key × D)} : okB .dct (some (.dT xs)) = true := rfl
theorem obAt_v : obAt δ (.vr j) = obV δ[j]? := rfl
theorem obAt_a {f : Str} : obAt δ (.at j f) = obI f δ[j]? := rfl
theorem obV_o {p : Pin} {o : Ob} : obV (some (.ow p (.ob o))) = some o := rfl
theorem obI_i {p : Pin} {C : Addr} {f : Str} {fs : List (Str × Fv)} : obI f (some (.ow p (.ins C fs))) = obF (fs.lookup f) := rfl
theorem obF_o {o : Ob} : obF (some (.ob o)) = some o := rfl
theorem setOb_v {o : Ob} : setOb δ (.vr j) o = setV δ j o δ[j]? := rfl
theorem setOb_a {f : Str} {o : Ob} : setOb δ (.at j f) o = setI δ j f o δ[j]? := rfl
theorem setV_o {p : Pin} {o : Ob} {o' : Ow} : setV δ j o (some (.ow p o')) = δ.set j (.ow p (.ob o)) := rfl
theorem setI_o {p : Pin} {o : Ob} {C : Addr} {f : Str} {fs : List (Str × Fv)} : setI δ j f o (some (.ow p (.ins C fs))) = δ.set j (.ow p (.ins C (setFv f (.ob o) fs))) := rfl
theorem gAppend_s {xs : List D} : gAppend (.lst xs) [d] = if xs.length < sizeLine then some (.lst (xs ++ [d]), .non) else none := rfl
theorem gPop_s {xs : List D} : gPop (.lst xs) [] = (xs[xs.length - 1]?).bind fun y => some (.lst xs.dropLast, y) := rfl
theorem gPopAt_s {xs : List D} {i : Int} : gPopAt (.lst xs) [.int i] = if -(2 ^ 63) ≤ i ∧ i < 2 ^ 63 then (seqIndex? i xs.length).bind fun j => (xs[j]?).bind fun y => some (.lst (xs.eraseIdx j), y) else none := rfl
theorem gReverse_s {xs : List D} : gReverse (.lst xs) [] = some (.lst xs.reverse, .non) := rfl
theorem gExtend_s {xs ys : List D} : gExtend (.lst xs) [.lst ys] = if xs.length + ys.length ≤ sizeLine then some (.lst (xs ++ ys), .non) else none := rfl
/-! statements -/
theorem fNext_s : fNext δ = some (.nx δ) := rfl
theorem next_n : Out.next g (.nx δ) = g δ := rfl
theorem next_r : Out.next g (.rt s δ) = some (.rt s δ) := rfl
theorem next_b : Out.next g (.bk δ) = some (.bk δ) := rfl
theorem next_c : Out.next g (.ct δ) = some (.ct δ) := rfl
theorem fSeq_s : fSeq r g δ = (r δ).bind (Out.next g) := rfl
theorem fBreak_s : fBreak δ = some (.bk δ) := rfl
theorem fCont_s : fCont δ = some (.ct δ) := rfl
theorem fNever_s : fNever δ = none := rfl
theorem fDrop_s : fDrop fa δ = (fa δ).bind fun p => some (.nx p.2) := rfl
theorem fIfS_s : fIfS t r g δ = (t δ).bind fun p => if p.1 = true then r p.2 else g p.2 := rfl
theorem fRet_s : fRet fa δ = (fa δ).bind fun p => retF p.1 p.2 := rfl
theorem retF_i : retF (.im d) δ = some (.rt (.im d) δ) := rfl
theorem retF_t : retF (.tm o) δ = some (.rt (.ow .fresh o) δ) := rfl
theorem retF_v : retF (.vr j) δ = retSF δ j δ[j]? := rfl
theorem retSF_i : retSF δ j (some (.im d)) = some (.rt (.im d) δ) := rfl
theorem retSF_o : retSF δ j (some (.ow .fresh o)) = some (.rt (.ow .fresh o) (δ.set j .un)) := rfl
theorem fRetN_s : fRetN δ = some (.rt (.im .non) δ) := rfl
theorem fSet_s : fSet i fa δ = (fa δ).bind fun p => (setF i p.1 p.2).bind fun δ' => some (.nx δ') := rfl
theorem setF_t : setF i (.tm o) δ = some (δ.set i (.ow .fresh o)) := rfl
theorem setF_i : setF i (.im d) δ = some (δ.set i (.im d)) := rfl
theorem setF_v : setF i (.vr j) δ = (imSF δ j δ[j]?).bind fun p => some (p.2.set i (.im p.1)) := rfl
theorem fgName_s : fgName i d δ = some (δ.set i (.im d)) := rfl
theorem fgNil_s : fgNil [] δ = some δ := rfl
theorem fgCons_s {g : FG} {gs : FGs} {ds : List D} : fgCons g gs (d :: ds) δ = (g d δ).bind fun δ1 => gs ds δ1 := rfl
theorem fgTup_t {gs : FGs} {ds : List D} : fgTup k gs (.tup ds) δ = if ds.length = k then gs ds δ else none := rfl
theorem fAsg_s {g : FG} : fAsg fa g δ = (fa δ).bind fun p => (asImF p.1 p.2).bind fun q => (g q.1 q.2).bind fun δ' => some (.nx δ') := rfl
theorem fPar_s : fPar i j fs δ = (fs δ).bind fun p => (two? p.1).bind fun q => some (.nx ((p.2.set i (.im q.1)).set j (.im q.2))) := rfl
theorem two_s : two? [d, e] = some (d, e) := rfl
theorem fAug_s {f : Int → Int → Int} : fAug i f fa δ = if isImB δ[i]? = true then (fa δ).bind fun p => (asImF p.1 p.2).bind fun q => (augF i q.2 f q.2[i]? q.1).bind fun δ2 => some (.nx δ2) else none := rfl
theorem isImB_i : isImB (some (.im d)) = true := rfl
theorem augF_s {f : Int → Int → Int} {x y : Int} : augF i δ f (some (.im (.int x))) (.int y) = some (δ.set i (.im (.int (f x y)))) := rfl
theorem fSub_s {q : Bool} : fSub fa fb fc q δ = (fc δ).bind fun p => (asImF p.1 p.2).bind fun v => (fa v.2).bind fun x => if staysB q x.1 = true then (fb x.2).bind fun y => (asImF y.1 y.2).bind fun z => (obAt z.2 x.1).bind fun ob => (gPut ob z.1 v.1).bind fun ob' => some (.nx (setOb z.2 x.1 ob')) else none := rfl
theorem gPut_l {xs : List D} {i : Int} : gPut (.lst xs) (.int i) d = (ixN xs.length i).bind fun j => some (.lst (xs.set j d)) := rfl
theorem gPut_k {kvs : List (Key × D)} : gPut (.dK kvs) e d = e.key.bind fun j => if kvs.length < sizeLine then some (.dK (kput kvs j d)) else none := rfl
theorem gPut_t {kvs : List (List Key × D)} {is : List D} : gPut (.dT kvs) (.tup is) d = (D.keys is).bind fun j => if kvs.length < sizeLine then some (.dT (kput kvs j d)) else none := rfl
/-! sources, loops -/
variable {fi fi1 : FI} {fg fg1 : FG} {xs acc : List D} {vs vs1 : List Nat} {fe : FE} {ft ft1 : FT}
theorem fSeqI_s : fSeqI fa δ = (fa δ).bind fun p => seqF p.1 p.2 := rfl
theorem seqF_l {xs : List D} : seqF (.im (.lst xs)) δ = some (xs, δ, .no) := rfl
theorem seqF_wl {xs : List D} : seqF (.im (.wl xs)) δ = some (xs, δ, .no) := rfl
theorem seqF_t {xs : List D} : seqF (.im (.tup xs)) δ = some (xs, δ, .no) := rfl
theorem seqF_o {xs : List D} : seqF (.tm (.ob (.lst xs))) δ = some (xs, δ, .no) := rfl
theorem seqF_v : seqF (.vr j) δ = seqSlF δ j δ[j]? := rfl
theorem seqSlF_o {p : Pin} {xs : List D} : seqSlF δ j (some (.ow p (.ob (.lst xs)))) = some (xs, δ.set j (.vl .non), .give j (.ow p (.ob (.lst xs)))) := rfl
theorem fRg1_s : fRg1 fs δ = (fs δ).bind fun p => match p.1 with
  | [.int j] => if -(2 ^ 62) ≤ j ∧ j < 2 ^ 62 then some (rgD 0 j.toNat, p.2, .no) else none
  | _ => none := rfl
theorem fRg2_s : fRg2 fs δ = (fs δ).bind fun p => match p.1 with
  | [.int i, .int j] => if -(2 ^ 62) ≤ i ∧ i < 2 ^ 62 ∧ -(2 ^ 62) ≤ j ∧ j < 2 ^ 62 then some (rgD i (j - i).toNat, p.2, .no) else none
  | _ => none := rfl
theorem fEnum_s : fEnum fs δ = (fs δ).bind fun p => match p.1 with
  | [.lst xs] => some (enumD 0 xs, p.2, .no)
  | [.wl xs] => some (enumD 0 xs, p.2, .no)
  | _ => none := rfl
theorem fZip_s : fZip fs δ = (fs δ).bind fun p => (two? p.1).bind fun q => (zipXs q.1 q.2).bind fun xs => some (xs, p.2, .no) := rfl
theorem zipXs_l {a b : List D} : zipXs (.lst a) (.lst b) = some (zipD a b) := rfl
theorem zipXs_t {a b : List D} : zipXs (.tup a) (.tup b) = some (zipD a b) := rfl
theorem fFor_s : fFor fi fg r δ = (fi δ).bind fun p => (goForF fg r p.1 p.2.1).bind (finFor p.2.2) := rfl
theorem finFor_n : finFor .no (.nx δ) = some (.nx δ) := rfl
theorem finFor_r {b : BkF} : finFor b (.rt s δ) = some (.rt s δ) := rfl
theorem finFor_g : finFor (.give j s) (.nx δ) = (bkF (.give j s) δ).bind fun δ' => some (.nx δ') := rfl
theorem bkF_n : bkF .no δ = some δ := rfl
theorem bkF_g : bkF (.give j s) δ = match δ[j]? with
    | some (.vl _) => some (δ.set j s)
    | _ => none := rfl
theorem fLc_s : fLc vs fi fg ft fe δ = (fi δ).bind fun p => if noOw vs p.2.1 = true ∧ p.1.length ≤ sizeLine then (lcF vs fg ft fe p.1 [] (wipeE vs p.2.1)).bind fun q => (bkF p.2.2 (restE vs p.2.1 q.2)).bind fun δ2 => some (.tm (.ob (.lst q.1)), δ2) else none := rfl
theorem fLc2_s : fLc2 vs vs1 fi fg ft fi1 fg1 ft1 fe δ = (fi δ).bind fun p => if noOw vs p.2.1 = true then (lc2F vs vs1 fg ft fi1 fg1 ft1 fe p.1 [] (wipeE vs p.2.1)).bind fun q => (bkF p.2.2 (restE vs p.2.1 q.2)).bind fun δ2 => some (.tm (.ob (.lst q.1)), δ2) else none := rfl
theorem fYes_s : fYes δ = some (true, δ) := rfl
theorem runB_s {as : List Slot} : runB k r as = (r (as ++ List.replicate k .un)).bind (endF as) := rfl
theorem endF_n {as : List Slot} : endF as (.nx δ) = (finF 0 as δ).bind fun bs => some (.im .non, bs) := rfl
theorem endF_r {as : List Slot} : endF as (.rt s δ) = (finF 0 as δ).bind fun bs => some (s, bs) := rfl
theorem finF_n : finF k [] δ = some [] := by cases δ <;> rfl
theorem finF_i {as : List Slot} : finF k (.im d :: as) (s :: δ) = (finF (k + 1) as δ).bind fun bs => some (.im d :: bs) := rfl
theorem finF_o {as : List Slot} {m : Nat} {o' : Ow} : finF k (.ow (.arg m) o' :: as) (.ow (.arg j) o :: δ) = if j = k then (finF (k + 1) as δ).bind fun bs => some (.ow (.arg j) o :: bs) else none := rfl
theorem wipeE_n : wipeE [] δ = δ := rfl
theorem wipeE_c : wipeE (i :: vs) δ = (wipeE vs δ).set i .un := rfl
theorem restE_n : restE [] δ' δ = δ := rfl
theorem restE_c : restE (i :: vs) δ' δ = (restE vs δ' δ).set i ((δ'[i]?).getD .un) := rfl
theorem noOw_n : noOw [] δ = true := rfl
theorem noOw_c : noOw (i :: vs) δ = (noOwS δ[i]? && noOw vs δ) := rfl
theorem noOwS_u : noOwS (some .un) = true := rfl
theorem noOwS_i : noOwS (some (.im d)) = true := rfl
theorem lcF_n : lcF vs fg ft fe [] acc δ = some (acc, δ) := rfl
theorem lcF_c : lcF vs fg ft fe (d :: xs) acc δ = (fg d δ).bind fun δ1 => (ft δ1).bind fun p => if p.1 = true then (fe p.2).bind fun y => (asImF y.1 y.2).bind fun q => lcF vs fg ft fe xs (acc ++ [q.1]) (wipeE vs q.2) else lcF vs fg ft fe xs acc (wipeE vs p.2) := rfl
theorem goForF_n : goForF fg r [] δ = some (.nx δ) := rfl
end
end DL
end
section
set_option Elab.async false
set_option linter.all false
set_option maxRecDepth 100000
set_option maxHeartbeats 1000000
namespace DL
open PySem L2
section
variable {δ δ' : Env} {d e : D} {i j k : Nat} {fa fb fc : FE} {fs : FA} {fv : FV} {t u : FT} {r : FS} {g : FG} {o : Ow} {x : Rd} {s : Slot} {fi : FI} {vs vs1 : List Nat} {fe : FE} {ft ft1 : FT} {xs acc : List D}
def contF (g : FG) (r : FS) (xs : List D) : Out → Option Out
  | .nx δ => goForF g r xs δ
  | .ct δ => goForF g r xs δ
  | .bk δ => some (.nx δ)
  | .rt s δ => some (.rt s δ)
theorem goForF_c : goForF g r (d :: xs) δ = (g d δ).bind fun δ' => (r δ').bind (contF g r xs) := by
  show (g d δ).bind _ = _
  refine congrArg (Option.bind (g d δ)) (funext fun δ' => congrArg (Option.bind (r δ')) (funext fun o => ?_))
  cases o <;> rfl
theorem contF_n : contF g r xs (.nx δ) = goForF g r xs δ := rfl
theorem contF_c : contF g r xs (.ct δ) = goForF g r xs δ := rfl
theorem contF_b : contF g r xs (.bk δ) = some (.nx δ) := rfl
theorem contF_r : contF g r xs (.rt s δ) = some (.rt s δ) := rfl
theorem key_i {i : Int} : (D.int i).key = some (.inl i) := rfl
theorem key_s {i : Str} : (D.str i).key = some (.inr i) := rfl
theorem fItL_s : fItL fa δ = (fa δ).bind fun p => if staysB true p.1 = true then (dkOf (obAt p.2 p.1)).bind fun kvs => some (.tm (.ob (.lst (itemsD kvs))), p.2) else none := rfl
theorem dkOf_s {kvs : List (Key × D)} : dkOf (some (.dK kvs)) = some kvs := rfl
theorem fFld_s {C : Addr} {f : Str} : fFld C f fa δ = (fa δ).bind fun p => (fXF C f p.1 p.2).bind fun y => some (y, p.2) := rfl
theorem fXF_v {C : Addr} {f : Str} : fXF C f (.vr j) δ = fSF C f j δ[j]? := rfl
theorem fXF_d {C : Addr} {f : Str} : fXF C f (.im d) δ = fOF C f d := rfl
theorem fXF_t {C : Addr} {f : Str} : fXF C f (.tm o) δ = fTF C f o := rfl
theorem vwAt_i {f : Str} {p : Pin} {C : Addr} {fs : List (Str × Fv)} : vwAt f (some (.ow p (.ins C fs))) = vwF (fs.lookup f) := rfl
theorem vwF_s {v : Fv} : vwF (some v) = some v.toD := rfl
theorem fvD_i : (Fv.im d).toD = d := rfl
theorem fvD_o {o : Ob} : (Fv.ob o).toD = o.toD := rfl
theorem obD_k {kvs : List (Key × D)} : (Ob.dK kvs).toD = .dK kvs := rfl
theorem obD_l {kvs : List D} : (Ob.lst kvs).toD = .lst kvs := rfl
theorem fSetF_s {C : Addr} {f : Str} : fSetF C f j fa δ = (fa δ).bind fun p => (setFXF C f j p.1 p.2).bind fun δ' => some (.nx δ') := rfl
theorem setFXF_d {C : Addr} {f : Str} : setFXF C f j (.im d) δ = setFSF C f j (.im d) δ δ[j]? := rfl
theorem setFXF_o {C : Addr} {f : Str} {o : Ob} : setFXF C f j (.tm (.ob o)) δ = setFSF C f j (.ob o) δ δ[j]? := rfl
theorem fMeth_s {C : Addr} {m : Str} {k : Nat} {F : Fn} {dds : List D} : fMeth C m k F fa fv dds δ = (fa δ).bind fun p => (mXF C m p.1 p.2).bind fun a => (fv p.2).bind fun q => callRF k F (a :: (q.1 ++ dds.map .im)) q.2 := rfl
theorem mXF_v {C : Addr} {m : Str} : mXF C m (.vr j) δ = mSF C m j δ[j]? := rfl
theorem mXF_d {C : Addr} {m : Str} : mXF C m (.im d) δ = mOF C m d := rfl
theorem fMake_s {C : Addr} {k : Nat} {F : Fn} {dds : List D} : fMake C k F fv dds δ = (fv δ).bind fun p => mkRF C k F (p.1 ++ dds.map .im) p.2 := rfl
theorem mkRF_s {C : Addr} {k : Nat} {F : Fn} {ags : List Ag} : mkRF C k F ags δ = (lendF ags δ [.ow .fresh (.ins C [])]).bind fun p => (callF k F (argS 0 p.2)).bind fun r => (joinF p.2 r.2).bind fun cs => mkXF ags p.1 r.1 cs := rfl
theorem mkXF_s {ags : List Ag} {cs : List Slot} : mkXF ags δ (.im .non) (.ow .fresh o :: cs) = (backF ags cs δ).bind fun δ3 => some (.tm o, δ3) := rfl
theorem fForItemsF_s {C : Addr} {f : Str} : fForItemsF C j f g r δ = if clsB C δ[j]? = true then fForItems (.at j f) g r δ else none := rfl
theorem fForItems_s : fForItems x g r δ = (dkOf (obAt δ x)).bind fun kvs => itGF (plJ x) g r (itemsD kvs) δ δ[plJ x]? := rfl
theorem plJ_a {f : Str} : plJ (.at j f) = j := rfl
theorem plJ_v : plJ (.vr j) = j := rfl
theorem itGF_s {p : Pin} : itGF j g r xs δ (some (.ow p o)) = (goItF j g r xs (δ.set j (.vl .non))).bind fun δ1 => (bkF (.give j (.ow p o)) δ1).bind fun δ2 => some (.nx δ2) := rfl
theorem goItF_n : goItF j g r [] δ = some δ := rfl
def contI (j : Nat) (g : FG) (r : FS) (xs : List D) : Out → Option Env
  | .nx δ2 => if isVl δ2[j]? = true then goItF j g r xs δ2 else none
  | .ct δ2 => if isVl δ2[j]? = true then goItF j g r xs δ2 else none
  | .bk δ2 => if isVl δ2[j]? = true then some δ2 else none
  | .rt _ _ => none
theorem goItF_c : goItF j g r (d :: xs) δ = (g d δ).bind fun δ' => (r δ').bind (contI j g r xs) := by
  show (g d δ).bind _ = _
  refine congrArg (Option.bind (g d δ)) (funext fun δ' => congrArg (Option.bind (r δ')) (funext fun o => ?_))
  cases o <;> rfl
theorem contI_n : contI j g r xs (.nx δ) = if isVl δ[j]? = true then goItF j g r xs δ else none := rfl
theorem isVl_v {v : V} : isVl (some (.vl v)) = true := rfl
theorem bkF_v {v : V} (h : δ[j]? = some (.vl v)) : bkF (.give j s) δ = some (δ.set j s) := by rw [bkF_g, h]
theorem plusSub_1 : (fPlusE fa fb) δ = fPlusE fa fb δ := rfl
theorem sl_0 : (0 ≤ sizeLine) = True := eq_true (by decide)
theorem sl_1 : (1 ≤ sizeLine) = True := eq_true (by decide)
theorem sl_2 : (2 ≤ sizeLine) = True := eq_true (by decide)
theorem sl_3 : (3 ≤ sizeLine) = True := eq_true (by decide)
theorem sl_4 : (4 ≤ sizeLine) = True := eq_true (by decide)
theorem sl_5 : (5 ≤ sizeLine) = True := eq_true (by decide)
theorem sl_6 : (6 ≤ sizeLine) = True := eq_true (by decide)
theorem sl_7 : (7 ≤ sizeLine) = True := eq_true (by decide)
theorem sl_8 : (8 ≤ sizeLine) = True := eq_true (by decide)
theorem sl_9 : (9 ≤ sizeLine) = True := eq_true (by decide)
theorem sx_0 : (0 < sizeLine) = True := eq_true (by decide)
theorem sx_1 : (1 < sizeLine) = True := eq_true (by decide)
theorem sx_2 : (2 < sizeLine) = True := eq_true (by decide)
theorem sx_3 : (3 < sizeLine) = True := eq_true (by decide)
theorem sx_4 : (4 < sizeLine) = True := eq_true (by decide)
theorem sx_5 : (5 < sizeLine) = True := eq_true (by decide)
theorem sx_6 : (6 < sizeLine) = True := eq_true (by decide)
theorem sx_7 : (7 < sizeLine) = True := eq_true (by decide)
theorem sx_8 : (8 < sizeLine) = True := eq_true (by decide)
theorem sx_9 : (9 < sizeLine) = True := eq_true (by decide)
/-! NOT FOR SIMP -/
/-! ### loops -/
theorem lcF_map {β : Type} (enc f : β → D) {δ : Env} : ∀ (ys : List β) (acc : List D), (∀ y ∈ ys, ∀ xs acc, lcF vs g ft fe (enc y :: xs) acc δ = lcF vs g ft fe xs (acc ++ [f y]) δ) → lcF vs g ft fe (ys.map enc) acc δ = some (acc ++ ys.map f, δ)
  | [], acc, _ => by simp [lcF]
  | y :: ys, acc, h => by
    rw [List.map_cons, h y (by simp), lcF_map enc f ys _ fun z hz => h z (by simp [hz])]
    simp
theorem lcF_filterMap {β : Type} (enc : β → D) (f : β → Option D) {δ : Env} : ∀ (ys : List β) (acc : List D), (∀ y ∈ ys, ∀ xs acc, lcF vs g ft fe (enc y :: xs) acc δ = lcF vs g ft fe xs (acc ++ (f y).toList) δ) → lcF vs g ft fe (ys.map enc) acc δ = some (acc ++ ys.filterMap f, δ)
  | [], acc, _ => by simp [lcF]
  | y :: ys, acc, h => by
    rw [List.map_cons, h y (by simp), lcF_filterMap enc f ys _ fun z hz => h z (by simp [hz])]
    rw [List.filterMap_cons]
    cases f y <;> simp
/-- a state that goes along, results with a property -/
theorem lcF_ex {σ : Type} (e : σ → Env) (P : D → Prop) : ∀ (ys acc : List D) (s : σ), (∀ y ∈ ys, ∀ xs acc s, ∃ d s', P d ∧ lcF vs g ft fe (y :: xs) acc (e s) = lcF vs g ft fe xs (acc ++ [d]) (e s')) →
    ∃ ds s', ds.length = ys.length ∧ (∀ d ∈ ds, P d) ∧ lcF vs g ft fe ys acc (e s) = some (acc ++ ds, e s')
  | [], acc, s, _ => ⟨[], s, rfl, fun d q => (by cases q), by simp [lcF]⟩
  | y :: ys, acc, s, h => by
    obtain ⟨d, s', p, e1⟩ := h y (by simp) ys acc s
    obtain ⟨ds, s2, l, q, e2⟩ := lcF_ex e P ys (acc ++ [d]) s' fun z hz => h z (by simp [hz])
    refine ⟨d :: ds, s2, by simp [l], ?_, by rw [e1, e2]; simp⟩
    intro z hz
    rcases List.mem_cons.mp hz with rfl | hz
    · exact p
    · exact q z hz
theorem goForF_fold {σ ζ β : Type} (enc : β → D) (e : σ → ζ → Env) (step : σ → β → σ) : ∀ (ys : List β) (s : σ) (z : ζ), (∀ y ∈ ys, ∀ xs s z, ∃ z', goForF g r (enc y :: xs) (e s z) = goForF g r xs (e (step s y) z')) →
    ∃ z', goForF g r (ys.map enc) (e s z) = some (.nx (e (ys.foldl step s) z'))
  | [], s, z, _ => ⟨z, rfl⟩
  | y :: ys, s, z, h => by
    obtain ⟨z1, h1⟩ := h y (by simp) (ys.map enc) s z
    obtain ⟨z2, h2⟩ := goForF_fold enc e step ys (step s y) z1 fun w hw => h w (by simp [hw])
    exact ⟨z2, by rw [List.map_cons, h1, h2]; rfl⟩
theorem goForF_ind (Inv : Nat → Env → Prop) : ∀ (ys : List D) (j : Nat) {δ : Env}, Inv j δ → (∀ i y xs δ, ys[i]? = some y → Inv (j + i) δ → ∃ δ', goForF g r (y :: xs) δ = goForF g r xs δ' ∧ Inv (j + i + 1) δ') →
    ∃ δ', goForF g r ys δ = some (.nx δ') ∧ Inv (j + ys.length) δ'
  | [], j, δ, h0, _ => ⟨δ, rfl, h0⟩
  | y :: ys, j, δ, h0, h => by
    obtain ⟨δ1, e1, i1⟩ := h 0 y ys δ rfl h0
    obtain ⟨δ2, e2, i2⟩ := goForF_ind Inv ys (j + 1) i1 fun i z xs δ hz hi => by
      have := h (i + 1) z xs δ (by simpa using hz) (by rw [show j + (i + 1) = j + 1 + i by omega]; exact hi)
      rwa [show j + (i + 1) + 1 = j + 1 + i + 1 by omega] at this
    exact ⟨δ2, by rw [e1, e2], by rw [List.length_cons, show j + (ys.length + 1) = j + 1 + ys.length by omega]; exact i2⟩
theorem rgD0 (n : Nat) : rgD 0 n = (List.range n).map fun i => D.int (i : Nat) := by
  unfold rgD
  refine List.map_congr_left fun i _ => ?_
  rw [Int.zero_add]
theorem enumD_eq {β : Type} (enc : β → D) : ∀ (n : Nat) (ys : List β), enumD n (ys.map enc) = (ys.zipIdx n).map fun p => D.tup [.int (p.2 : Nat), enc p.1]
  | _, [] => rfl
  | n, y :: ys => by show D.tup _ :: enumD (n + 1) (ys.map enc) = _; rw [enumD_eq enc (n + 1) ys]; rfl
theorem zipD_eq {α β : Type} (f : α → D) (h : β → D) : ∀ (a : List α) (b : List β), zipD (a.map f) (b.map h) = (List.zip a b).map fun p => D.tup [f p.1, h p.2]
  | [], _ => rfl
  | _ :: _, [] => rfl
  | x :: a, y :: b => by show D.tup _ :: zipD (a.map f) (b.map h) = _; rw [zipD_eq f h a b]; rfl
/-! ### equality of data -/
class EqD (k : outParam Nat) {α : Type} (f : α → D) : Prop where
  lay : ∀ a, (f a).py.canLay0 = true
  dep : ∀ a, (f a).py.depth ≤ k
  eqv : ∀ a b, PyData.eqv (f a).py (f b).py = true ↔ a = b
instance : EqD 0 D.int := ⟨fun a => by show PyData.canLay0 (.int a) = true; simp only [PyData.canLay0], fun a => by show PyData.depth (.int a) ≤ 0; simp only [PyData.depth]; exact Nat.le_refl _, fun a b => by show PyData.eqv (.int a) (.int b) = true ↔ _; simp only [PyData.eqv]; exact beq_iff_eq⟩
theorem layL {k : Nat} {α : Type} {f : α → D} [h : EqD k f] : ∀ (a : List α), PyData.canLayAll0 (D.pys (a.map f)) = true
  | [] => by show PyData.canLayAll0 [] = true; simp only [PyData.canLayAll0]
  | x :: a => by
    show PyData.canLayAll0 ((f x).py :: D.pys (a.map f)) = true
    simp only [PyData.canLayAll0, h.lay, layL a, Bool.and_self]
theorem depL {k : Nat} {α : Type} {f : α → D} [h : EqD k f] : ∀ (a : List α), PyData.depthAll (D.pys (a.map f)) ≤ k
  | [] => by show PyData.depthAll [] ≤ k; simp only [PyData.depthAll]; exact Nat.zero_le _
  | x :: a => by
    show PyData.depthAll ((f x).py :: D.pys (a.map f)) ≤ k
    simp only [PyData.depthAll]
    exact Nat.max_le.mpr ⟨h.dep x, depL a⟩
theorem eqvL {k : Nat} {α : Type} {f : α → D} [h : EqD k f] : ∀ (a b : List α), PyData.eqvAll (D.pys (a.map f)) (D.pys (b.map f)) = true ↔ a = b
  | [], [] => by show PyData.eqvAll [] [] = true ↔ _; simp only [PyData.eqvAll]
  | [], y :: b => by show PyData.eqvAll [] ((f y).py :: D.pys (b.map f)) = true ↔ _; simp [PyData.eqvAll]
  | x :: a, [] => by show PyData.eqvAll ((f x).py :: D.pys (a.map f)) [] = true ↔ _; simp [PyData.eqvAll]
  | x :: a, y :: b => by
    show PyData.eqvAll ((f x).py :: D.pys (a.map f)) ((f y).py :: D.pys (b.map f)) = true ↔ _
    simp only [PyData.eqvAll, Bool.and_eq_true, h.eqv, eqvL a b, List.cons.injEq]
instance eqdL {k : Nat} {α : Type} {f : α → D} [h : EqD k f] : EqD (k + 1) (fun l : List α => D.lst (l.map f)) where
  lay := fun a => by show PyData.canLay0 (.list (D.pys (a.map f))) = true; simp only [PyData.canLay0]; exact layL a
  dep := fun a => by show PyData.depth (.list (D.pys (a.map f))) ≤ _; simp only [PyData.depth]; exact Nat.succ_le_succ (depL a)
  eqv := fun a b => by show PyData.eqv (.list (D.pys (a.map f))) (.list (D.pys (b.map f))) = true ↔ _; simp only [PyData.eqv]; exact eqvL a b
instance eqdT {k : Nat} {α : Type} {f : α → D} [h : EqD k f] : EqD (k + 1) (fun l : List α => D.tup (l.map f)) where
  lay := fun a => by show PyData.canLay0 (.tuple (D.pys (a.map f))) = true; simp only [PyData.canLay0]; exact layL a
  dep := fun a => by show PyData.depth (.tuple (D.pys (a.map f))) ≤ _; simp only [PyData.depth]; exact Nat.succ_le_succ (depL a)
  eqv := fun a b => by show PyData.eqv (.tuple (D.pys (a.map f))) (.tuple (D.pys (b.map f))) = true ↔ _; simp only [PyData.eqv]; exact eqvL a b
instance eqdP {k j : Nat} {α β : Type} {f : α → D} {g : β → D} [h : EqD k f] [h' : EqD j g] : EqD (max k j + 1) (fun p : α × β => D.tup [f p.1, g p.2]) where
  lay := fun a => by show PyData.canLay0 (.tuple [(f a.1).py, (g a.2).py]) = true; simp only [PyData.canLay0, PyData.canLayAll0, h.lay, h'.lay, Bool.and_self]
  dep := fun a => by
    show PyData.depth (.tuple [(f a.1).py, (g a.2).py]) ≤ _
    simp only [PyData.depth, PyData.depthAll]
    have := h.dep a.1; have := h'.dep a.2
    omega
  eqv := fun a b => by
    show PyData.eqv (.tuple [(f a.1).py, (g a.2).py]) (.tuple [(f b.1).py, (g b.2).py]) = true ↔ _
    simp only [PyData.eqv, PyData.eqvAll, Bool.and_eq_true, h.eqv, h'.eqv, and_true]
    exact ⟨fun q => Prod.ext q.1 q.2, fun q => by rw [q]; exact ⟨rfl, rfl⟩⟩
theorem okE {k : Nat} {α : Type} (f : α → D) [h : EqD k f] (hk : k ≤ 64 := by decide) (a : α) : (f a).ok = True := by
  refine eq_true ?_
  show (PyData.canLay0 _ && decide (_ ≤ 64)) = true
  rw [h.lay, decide_eq_true (Nat.le_trans (h.dep a) hk)]; rfl
theorem eqvE {k : Nat} {α : Type} [DecidableEq α] (f : α → D) [h : EqD k f] (a b : α) : (f a).eqv (f b) = decide (a = b) := by
  show PyData.eqv _ _ = _
  by_cases e : a = b
  · rw [decide_eq_true e, (h.eqv a b).mpr e]
  · rw [decide_eq_false e]
    cases q : PyData.eqv (f a).py (f b).py with
    | false => rfl
    | true => exact absurd ((h.eqv a b).mp q) e
theorem ok_li (a : List Int) : (D.lst (a.map D.int)).ok = True := okE (fun l : List Int => D.lst (l.map D.int)) (by decide) a
theorem ok_ti (a : List Int) : (D.tup (a.map D.int)).ok = True := okE (fun l : List Int => D.tup (l.map D.int)) (by decide) a
theorem eqv_li (a b : List Int) : (D.lst (a.map D.int)).eqv (D.lst (b.map D.int)) = decide (a = b) := eqvE (fun l : List Int => D.lst (l.map D.int)) a b
theorem eqv_ti (a b : List Int) : (D.tup (a.map D.int)).eqv (D.tup (b.map D.int)) = decide (a = b) := eqvE (fun l : List Int => D.tup (l.map D.int)) a b
theorem eqv_non : D.non.eqv .non = true := by show PyData.eqv .none .none = true; simp only [PyData.eqv]
theorem ok_non : D.non.ok = True := eq_true (by show (PyData.canLay0 .none && decide (PyData.depth .none ≤ 64)) = true; simp [PyData.canLay0, PyData.depth])
end
end DL
end
section
set_option Elab.async false
set_option linter.all false
set_option maxRecDepth 100000
set_option maxHeartbeats 1000000
namespace DL
open PySem L2
local macro_rules | `(tactic| simp! only [$as,*]) => `(tactic| simp -implicitDefEqProofs only [$as,*, DL.fK_s, DL.fVar_s, DL.varSF_im, DL.varSF_ow, DL.asImF_im, DL.asImF_tm, DL.asImF_vr, DL.imOF_l, DL.imSF_im, DL.imSF_l, DL.some_bindF, DL.f1_s, DL.f2_s, DL.f2v_s, DL.fOp_s, DL.oI_s, DL.oI0_s, DL.oB0_s, DL.oEq_s, DL.oNe_s, DL.fV_s, DL.vw_im, DL.vw_tm, DL.vw_vr, DL.vw_at, DL.vwS_im, DL.vwS_ow, DL.toD_l, DL.toD_k, DL.toD_t, DL.gLen_l, DL.gLen_wl, DL.gLen_tup, DL.gLen_dK, DL.gSum_l, DL.gBs_l, DL.gAnyI_l, DL.gInt_i, DL.gInt_b, DL.gIsN_n, DL.gIsN_i, DL.gIsN_l, DL.gIsN_tup, DL.gIsN_s, DL.gIsN_b, DL.fVL_s, DL.gList_l, DL.gList_wl, DL.gList_tup, DL.gRev_l, DL.gTupl_l, DL.gTupl_t, DL.fTruT_s, DL.gTru_n, DL.gTru_b, DL.gTru_i, DL.gTru_l, DL.gTru_tup, DL.fAnd_s, DL.fOr_s, DL.fNot_s, DL.fIf_s, DL.fAndV_s, DL.fOrV_s, DL.fNotV_s, DL.onBlF_b, DL.fChain_s, DL.fTst_s, DL.blXF_b, DL.gIx_l, DL.gIx_wl, DL.gIx_tup, DL.gIx_dK, DL.gIx_dT, DL.keepF_im, DL.keepF_vr, DL.keepF_at, DL.keepF_tm, DL.fIxE_s, DL.fInE_s, DL.gIn_l, DL.gIn_tup, DL.gIn_dK, DL.gIn_dT, DL.fPlusE_s, DL.gPlus_i, DL.gPlus_l, DL.gPlus_t, DL.gPlus_s, DL.fTimesE_s, DL.gTimes_i, DL.gTimes_l, DL.faNil_s, DL.faCons_s, DL.fTup_s, DL.fLst_s, DL.fNewK_s, DL.fNewT_s, DL.foNo_s, DL.foAt_s, DL.onIntF_i, DL.fSlE_s, DL.gSl_l, DL.gSl_t, DL.fBits_s, DL.fNeg_s, DL.fMin2_s, DL.fMax2_s, DL.onPairF_i, DL.callF_s, DL.fCall_s, DL.resF_im, DL.resF_ow, DL.fvNil_s, DL.fvIm_s, DL.fvLn_s, DL.agF_im, DL.agF_vr, DL.fCallL_s, DL.callRF_s, DL.lendF_n, DL.lendF_i, DL.lendF_v, DL.lendSF_o, DL.lendSF_i, DL.joinF_n, DL.joinF_i, DL.joinF_o, DL.backF_n, DL.backF_i, DL.backF_vi, DL.backF_vo, DL.argS_n, DL.argS_i, DL.argS_o, DL.fMt_s, DL.staysB_v, DL.staysB_a, DL.okB_l, DL.okB_k, DL.okB_t, DL.obAt_v, DL.obAt_a, DL.obV_o, DL.obI_i, DL.obF_o, DL.setOb_v, DL.setOb_a, DL.setV_o, DL.setI_o, DL.gAppend_s, DL.gPop_s, DL.gPopAt_s, DL.gReverse_s, DL.gExtend_s, DL.fNext_s, DL.next_n, DL.next_r, DL.next_b, DL.next_c, DL.fSeq_s, DL.fBreak_s, DL.fCont_s, DL.fNever_s, DL.fDrop_s, DL.fIfS_s, DL.fRet_s, DL.retF_i, DL.retF_t, DL.retF_v, DL.retSF_i, DL.retSF_o, DL.fRetN_s, DL.fSet_s, DL.setF_t, DL.setF_i, DL.setF_v, DL.fgName_s, DL.fgNil_s, DL.fgCons_s, DL.fgTup_t, DL.fAsg_s, DL.fPar_s, DL.two_s, DL.fAug_s, DL.isImB_i, DL.augF_s, DL.fSub_s, DL.gPut_l, DL.gPut_k, DL.gPut_t, DL.fSeqI_s, DL.seqF_l, DL.seqF_wl, DL.seqF_t, DL.seqF_o, DL.seqF_v, DL.seqSlF_o, DL.fRg1_s, DL.fRg2_s, DL.fEnum_s, DL.fZip_s, DL.zipXs_l, DL.zipXs_t, DL.fFor_s, DL.finFor_n, DL.finFor_r, DL.finFor_g, DL.bkF_n, DL.bkF_g, DL.fLc_s, DL.fLc2_s, DL.fYes_s, DL.runB_s, DL.endF_n, DL.endF_r, DL.finF_n, DL.finF_i, DL.finF_o, DL.wipeE_n, DL.wipeE_c, DL.restE_n, DL.restE_c, DL.noOw_n, DL.noOw_c, DL.noOwS_u, DL.noOwS_i, DL.lcF_n, DL.lcF_c, DL.goForF_n, DL.goForF_c, DL.contF_n, DL.contF_c, DL.contF_b, DL.contF_r, DL.key_i, DL.key_s, DL.fItL_s, DL.dkOf_s, DL.fFld_s, DL.fXF_v, DL.fXF_d, DL.fXF_t, DL.vwAt_i, DL.vwF_s, DL.fvD_i, DL.fvD_o, DL.obD_k, DL.obD_l, DL.fSetF_s, DL.setFXF_d, DL.setFXF_o, DL.fMeth_s, DL.mXF_v, DL.mXF_d, DL.fMake_s, DL.mkRF_s, DL.mkXF_s, DL.fForItemsF_s, DL.fForItems_s, DL.plJ_a, DL.plJ_v, DL.itGF_s, DL.goItF_n, DL.goItF_c, DL.contI_n, DL.isVl_v, DL.bkF_v, DL.plusSub_1, DL.sl_0, DL.sl_1, DL.sl_2, DL.sl_3, DL.sl_4, DL.sl_5, DL.sl_6, DL.sl_7, DL.sl_8, DL.sl_9, DL.sx_0, DL.sx_1, DL.sx_2, DL.sx_3, DL.sx_4, DL.sx_5, DL.sx_6, DL.sx_7, DL.sx_8, DL.sx_9, List.getElem?_cons_zero, List.getElem?_cons_succ, List.set_cons_zero, List.set_cons_succ, List.nil_append, List.cons_append, List.append_nil, List.map_cons, List.map_nil, List.length_cons, List.length_nil, List.replicate_succ, List.replicate_zero, DL.ok_int, DL.eqv_int, DL.ok_bl, if_true, Bool.false_eq_true, if_false, true_and, and_true, and_self, List.length_map, Option.bind_none, Nat.zero_add, Option.getD_some, Bool.and_true, Bool.true_and, decide_eq_true_eq, Bool.not_true, Bool.not_false, ite_true, ite_false, Nat.reduceAdd, Int.reduceAdd, Nat.reduceEqDiff, eq_self, reduceIte, id_eq, Int.toNat_natCast, DL.ok_li, DL.ok_ti, DL.eqv_li, DL.eqv_ti, DL.ok_non, Nat.zero_le])
theorem ixNat {n j : Nat} (hj : j < n) : ixN n (j : Int) = some j := by
  unfold ixN
  rw [if_pos (by omega), if_pos (by omega)]
  simp
/-! ### the laws' own draws -/
def drawsF : FS := (fSeq (fSet 2 (fVL gList (fVar 0)))
  (fSeq (fIfS (fTst (fOp oEq (fV gLen (fVar 2)) (fK (.int 0))))
  (fSet 2 (fLst (faCons (fK (.int 7)) faNil)))
  fNext)
  (fSeq (fSet 3 (fLst faNil))
  (fSeq (fSet 4 (fK (.int 12345)))
  (fSeq (fFor (fRg1 (faCons (fVar 1) faNil)) (fgName 5)
  (fSeq (fSet 6 (fModI (fVar 5) (fV gLen (fVar 2))))
  (fSeq (fSet 7 (fIxE true (fVar 2) (fVar 6)))
  (fSeq (fSet 4 (fModI (fV gInt (fPlusE (fPlusE (fPlusE (fTimesE (fVar 4) (fK (.int 48271))) (fTimesE (fModI (fV gInt (fVar 7)) (fK (.int 1000003))) (fK (.int 69621)))) (fTimesE (fVar 5) (fK (.int 7919)))) (fK (.int 11)))) (fK (.int 2147483647))))
  (fSeq (fSet 8 (fModI (fV gInt (fPlusE (fPlusE (fTimesE (fVar 4) (fVar 4)) (fTimesE (fK (.int 31)) (fVar 4))) (fVar 5))) (fK (.int 1000003))))
  (fIfS (fTst (fOp oGe (fVar 7) (fPowI (fK (.int 10)) (fK (.int 18)))))
  (fSeq (fDrop (fMt .lst gAppend true (fVar 3) (faCons (fModI (fV gInt (fVar 7)) (fK (.int 1000))) faNil)))
  (fSub (fVar 2) (fVar 6) (fDivI (fVar 7) (fK (.int 1000))) true))
  (fDrop (fMt .lst gAppend true (fVar 3) (faCons (fModI (fV gInt (fVar 8)) (fK (.int 1000))) faNil)))))))))
  (fSeq (fDrop (fMt .lst gReverse true (fVar 3) faNil))
  (fRet (fVar 3))))))))
def takeF : FS := (fSeq (fIfS (fTst (fOp oEq (fV gLen (fVar 0)) (fK (.int 0))))
  (fRet (fK (.int 0)))
  fNext)
  (fRet (fModI (fV gInt (fMt .lst gPop true (fVar 0) faNil)) (fVar 1))))
/-- the next draw -/
def tkv (ds : List Int) (lim : Int) : Int := match ds.getLast? with
  | none => 0
  | some z => z.fmod lim
theorem tkv_nonneg (ds : List Int) {lim : Int} (h : 0 < lim) : 0 ≤ tkv ds lim := by
  unfold tkv
  cases ds.getLast? with
  | none => exact Int.le_refl _
  | some z => exact Int.fmod_nonneg_of_pos _ h
theorem tkv_lt (ds : List Int) {lim : Int} (h : 0 < lim) : tkv ds lim < lim := by
  unfold tkv
  cases ds.getLast? with
  | none => exact h
  | some z => exact Int.fmod_lt_of_pos _ h
theorem take_ok (ds : List Int) (lim : Int) (h : 0 < lim) : runB 0 takeF [.ow (.arg 0) (.ob (.lst (ds.map D.int))), .im (.int lim)] = some (.im (.int (tkv ds lim)), [.ow (.arg 0) (.ob (.lst (ds.dropLast.map D.int))), .im (.int lim)]) := by
  rcases List.eq_nil_or_concat ds with rfl | ⟨l, z, rfl⟩
  · simp! only [takeF, decide_true, List.map_nil, List.length_nil]
    rfl
  · have e1 : (List.map D.int (l.concat z)).length = l.length + 1 := by simp
    have e2 : (List.map D.int (l.concat z))[l.length]? = some (.int z) := by simp
    have e3 : (List.map D.int (l.concat z)).dropLast = l.map D.int := by simp
    have e4 : (l.concat z).dropLast = l := by simp
    have e5 : tkv (l.concat z) lim = z.fmod lim := by unfold tkv; simp
    have e6 : lim ≠ 0 := by omega
    have e7 : (decide (((l.length + 1 : Nat) : Int) = 0)) = false := by simp; omega
    rw [e4, e5]
    have e8 : (decide ((((l.concat z).length : Nat) : Int) = 0)) = false := by simp; omega
    have e9 : (List.map D.int (l.concat z))[(l.concat z).length - 1]? = some (.int z) := by simp
    simp! only [takeF, e1, Nat.add_sub_cancel, e2, e3, e6, ne_eq, not_false_eq_true, e7, e8, e9]
theorem draws_loop (ns cs : List Int) (n : Nat) (hn : n ≤ 100000) (hc : cs ≠ []) : ∃ δ', goForF (fgName 5) (fSeq (fSet 6 (fModI (fVar 5) (fV gLen (fVar 2))))
      (fSeq (fSet 7 (fIxE true (fVar 2) (fVar 6)))
      (fSeq (fSet 4 (fModI (fV gInt (fPlusE (fPlusE (fPlusE (fTimesE (fVar 4) (fK (.int 48271))) (fTimesE (fModI (fV gInt (fVar 7)) (fK (.int 1000003))) (fK (.int 69621)))) (fTimesE (fVar 5) (fK (.int 7919)))) (fK (.int 11)))) (fK (.int 2147483647))))
      (fSeq (fSet 8 (fModI (fV gInt (fPlusE (fPlusE (fTimesE (fVar 4) (fVar 4)) (fTimesE (fK (.int 31)) (fVar 4))) (fVar 5))) (fK (.int 1000003))))
      (fIfS (fTst (fOp oGe (fVar 7) (fPowI (fK (.int 10)) (fK (.int 18)))))
      (fSeq (fDrop (fMt .lst gAppend true (fVar 3) (faCons (fModI (fV gInt (fVar 7)) (fK (.int 1000))) faNil)))
      (fSub (fVar 2) (fVar 6) (fDivI (fVar 7) (fK (.int 1000))) true))
      (fDrop (fMt .lst gAppend true (fVar 3) (faCons (fModI (fV gInt (fVar 8)) (fK (.int 1000))) faNil)))))))) (rgD 0 n) [.im (.wl (ns.map D.int)), .im (.int n), .ow .fresh (.ob (.lst (cs.map D.int))), .ow .fresh (.ob (.lst [])), .im (.int 12345), .un, .un, .un, .un] = some (.nx δ') ∧
      ∃ (ds : List Int) (s2 s4 s5 s6 s7 s8 : Slot), δ' = [.im (.wl (ns.map D.int)), .im (.int n), s2, .ow .fresh (.ob (.lst (ds.map D.int))), s4, s5, s6, s7, s8] := by
  have := goForF_ind (g := fgName 5) (r := (fSeq (fSet 6 (fModI (fVar 5) (fV gLen (fVar 2))))
    (fSeq (fSet 7 (fIxE true (fVar 2) (fVar 6)))
    (fSeq (fSet 4 (fModI (fV gInt (fPlusE (fPlusE (fPlusE (fTimesE (fVar 4) (fK (.int 48271))) (fTimesE (fModI (fV gInt (fVar 7)) (fK (.int 1000003))) (fK (.int 69621)))) (fTimesE (fVar 5) (fK (.int 7919)))) (fK (.int 11)))) (fK (.int 2147483647))))
    (fSeq (fSet 8 (fModI (fV gInt (fPlusE (fPlusE (fTimesE (fVar 4) (fVar 4)) (fTimesE (fK (.int 31)) (fVar 4))) (fVar 5))) (fK (.int 1000003))))
    (fIfS (fTst (fOp oGe (fVar 7) (fPowI (fK (.int 10)) (fK (.int 18)))))
    (fSeq (fDrop (fMt .lst gAppend true (fVar 3) (faCons (fModI (fV gInt (fVar 7)) (fK (.int 1000))) faNil)))
    (fSub (fVar 2) (fVar 6) (fDivI (fVar 7) (fK (.int 1000))) true))
    (fDrop (fMt .lst gAppend true (fVar 3) (faCons (fModI (fV gInt (fVar 8)) (fK (.int 1000))) faNil)))))))))
    (fun j δ => ∃ (cs fs : List Int) (m : Int) (s5 s6 s7 s8 : Slot), cs ≠ [] ∧ fs.length = j ∧ 0 ≤ m ∧ m < 2147483647 ∧ δ = [.im (.wl (ns.map D.int)), .im (.int n), .ow .fresh (.ob (.lst (cs.map D.int))), .ow .fresh (.ob (.lst (fs.map D.int))), .im (.int m), s5, s6, s7, s8])
    (rgD 0 n) 0 ⟨cs, [], 12345, .un, .un, .un, .un, hc, rfl, by omega, by omega, rfl⟩ ?_
  · obtain ⟨δ', h1, cs', fs, m, s5, s6, s7, s8, _, _, _, _, rfl⟩ := this
    exact ⟨_, h1, fs, _, _, _, _, _, _, rfl⟩
  · rintro i y xs δ hy ⟨cs, fs, m, s5, s6, s7, s8, hc, hf, hm0, hm1, rfl⟩
    rw [Nat.zero_add] at hf
    have hi : i < n ∧ y = .int (i : Nat) := by
      rw [rgD0, List.getElem?_map] at hy
      obtain ⟨k, h1, rfl⟩ := Option.map_eq_some_iff.mp hy
      rw [List.getElem?_eq_some_iff] at h1
      obtain ⟨h2, h3⟩ := h1
      simp at h2 h3
      exact ⟨h2, by rw [h3]⟩
    obtain ⟨hi, rfl⟩ := hi
    have hlen : 0 < cs.length := List.length_pos_iff.mpr hc
    have n0 : ((cs.length : Nat) : Int) ≠ 0 := by omega
    obtain ⟨j, hj⟩ : ∃ j : Nat, ((i : Nat) : Int).fmod (cs.length : Nat) = j := ⟨(((i : Nat) : Int).fmod (cs.length : Nat)).toNat, by have := Int.fmod_nonneg_of_pos ((i : Nat) : Int) (show (0 : Int) < (cs.length : Nat) by omega); omega⟩
    have hjl : j < cs.length := by have := Int.fmod_lt_of_pos ((i : Nat) : Int) (show (0 : Int) < (cs.length : Nat) by omega); omega
    have hat : atI (cs.map D.int) (j : Nat) = some (.int (cs.getD j 0)) := atI_nat (by rw [List.getElem?_map, List.getElem?_eq_getElem hjl]; simp [List.getElem?_eq_getElem hjl])
    generalize cs.getD j 0 = c at hat
    have c0 := Int.fmod_nonneg_of_pos c (show (0 : Int) < 1000003 by omega)
    have c1 := Int.fmod_lt_of_pos c (show (0 : Int) < 1000003 by omega)
    have k1 : CMulX m 48271 := mulx_ok (a := 64) (b := 64) (by omega) (by omega) (by omega)
    have k2 : CMulX (c.fmod 1000003) 69621 := mulx_ok (a := 64) (b := 64) (by omega) (by omega) (by omega)
    have k3 : CMulX ((i : Nat) : Int) 7919 := mulx_ok (a := 64) (b := 64) (by omega) (by omega) (by omega)
    generalize hw : (m * 48271 + c.fmod 1000003 * 69621 + ((i : Nat) : Int) * 7919 + 11).fmod 2147483647 = w
    have w0 : 0 ≤ w := hw ▸ Int.fmod_nonneg_of_pos _ (by omega)
    have w1 : w < 2147483647 := hw ▸ Int.fmod_lt_of_pos _ (by omega)
    have k4 : CMulX w w := mulx_ok (a := 64) (b := 64) (by omega) (by omega) (by omega)
    have k5 : CMulX 31 w := mulx_ok (a := 64) (b := 64) (by omega) (by omega) (by omega)
    have a1 : ((2147483647 : Int) ≠ 0) = True := by simp
    have a2 : ((1000003 : Int) ≠ 0) = True := by simp
    have a3 : ((1000 : Int) ≠ 0) = True := by simp
    have a4 : CPow 10 18 := by decide
    have a5 : CDivN c 1000 := by unfold CDivN; decide
    have a6 : fs.length < sizeLine := Nat.lt_of_lt_of_le (by omega : fs.length < 100000) (by decide)
    have a7 : ixN cs.length ((j : Nat) : Int) = some j := ixNat hjl
    by_cases hb : (decide ((10 : Int) ^ (18 : Int).toNat ≤ c)) = true
    · refine ⟨_, ?_, cs.set j (c.fdiv 1000), fs ++ [c.fmod 1000], w, .im (.int (i : Nat)), .im (.int (j : Nat)), .im (.int c), .im (.int ((w * w + 31 * w + ((i : Nat) : Int)).fmod 1000003)), by simpa using hc, by simp [hf], w0, w1, rfl⟩
      simp! only [goForF_c, n0, ne_eq, not_false_eq_true, hj, hat, k1, k2, k3, hw, k4, k5, a1, a2, a3, a4, a5, a6, a7, hb, List.map_append, List.map_set]
    · have hb : (decide ((10 : Int) ^ (18 : Int).toNat ≤ c)) = false := by simpa using hb
      refine ⟨_, ?_, cs, fs ++ [((w * w + 31 * w + ((i : Nat) : Int)).fmod 1000003).fmod 1000], w, .im (.int (i : Nat)), .im (.int (j : Nat)), .im (.int c), .im (.int ((w * w + 31 * w + ((i : Nat) : Int)).fmod 1000003)), hc, by simp [hf], w0, w1, rfl⟩
      simp! only [goForF_c, n0, ne_eq, not_false_eq_true, hj, hat, k1, k2, k3, hw, k4, k5, a1, a2, a3, a4, a5, a6, a7, hb, List.map_append, List.map_set]

theorem draws_ok (ns : List Int) (n : Nat) (hn : n ≤ 100000) : ∃ ds bs, runB 7 drawsF [.im (.wl (ns.map D.int)), .im (.int n)] = some (.ow .fresh (.ob (.lst (List.map D.int ds))), bs) := by
  have start : ∃ cs : List Int, cs ≠ [] ∧ ∀ g, ((fSet 2 (fVL gList (fVar 0)) [.im (.wl (ns.map D.int)), .im (.int n), .un, .un, .un, .un, .un, .un, .un]).bind (Out.next (fSeq (fIfS (fTst (fOp oEq (fV gLen (fVar 2)) (fK (.int 0))))
      (fSet 2 (fLst (faCons (fK (.int 7)) faNil))) fNext) g))) = g [.im (.wl (ns.map D.int)), .im (.int n), .ow .fresh (.ob (.lst (cs.map D.int))), .un, .un, .un, .un, .un, .un] := by
    cases ns with
    | nil =>
      refine ⟨[7], by simp, fun g => ?_⟩
      simp! only [decide_true, show (1 : Nat) ≤ sizeLine by decide]
      rfl
    | cons z l =>
      refine ⟨z :: l, by simp, fun g => ?_⟩
      have e : (decide ((((z :: l).length : Nat) : Int) = 0)) = false := by simp; omega
      have e' : (decide (((l.length + 1 : Nat) : Int) = 0)) = false := by simp; omega
      simp! only [e, e']
  obtain ⟨cs, hc, hs⟩ := start
  obtain ⟨δ', h1, ds, s2, s4, s5, s6, s7, s8, rfl⟩ := draws_loop ns cs n hn hc
  refine ⟨ds.reverse, [.im (.wl (ns.map D.int)), .im (.int n)], ?_⟩
  unfold runB drawsF
  rw [fSeq_s]
  simp only [List.replicate_succ, List.replicate_zero, List.cons_append, List.nil_append]
  rw [hs]
  have hn0 : -(2 ^ 62) ≤ ((n : Nat) : Int) := by omega
  have hn1 : ((n : Nat) : Int) < 2 ^ 62 := by omega
  simp! only [hn0, hn1, h1, List.map_reverse]
end DL
end
section
set_option Elab.async false
set_option linter.all false
set_option maxRecDepth 100000
set_option maxHeartbeats 1000000
namespace K22
open PySem L2 DL
local macro_rules | `(tactic| simp! only [$as,*]) => `(tactic| simp -implicitDefEqProofs only [$as,*, DL.fK_s, DL.fVar_s, DL.varSF_im, DL.varSF_ow, DL.asImF_im, DL.asImF_tm, DL.asImF_vr, DL.imOF_l, DL.imSF_im, DL.imSF_l, DL.some_bindF, DL.f1_s, DL.f2_s, DL.f2v_s, DL.fOp_s, DL.oI_s, DL.oI0_s, DL.oB0_s, DL.oEq_s, DL.oNe_s, DL.fV_s, DL.vw_im, DL.vw_tm, DL.vw_vr, DL.vw_at, DL.vwS_im, DL.vwS_ow, DL.toD_l, DL.toD_k, DL.toD_t, DL.gLen_l, DL.gLen_wl, DL.gLen_tup, DL.gLen_dK, DL.gSum_l, DL.gBs_l, DL.gAnyI_l, DL.gInt_i, DL.gInt_b, DL.gIsN_n, DL.gIsN_i, DL.gIsN_l, DL.gIsN_tup, DL.gIsN_s, DL.gIsN_b, DL.fVL_s, DL.gList_l, DL.gList_wl, DL.gList_tup, DL.gRev_l, DL.gTupl_l, DL.gTupl_t, DL.fTruT_s, DL.gTru_n, DL.gTru_b, DL.gTru_i, DL.gTru_l, DL.gTru_tup, DL.fAnd_s, DL.fOr_s, DL.fNot_s, DL.fIf_s, DL.fAndV_s, DL.fOrV_s, DL.fNotV_s, DL.onBlF_b, DL.fChain_s, DL.fTst_s, DL.blXF_b, DL.gIx_l, DL.gIx_wl, DL.gIx_tup, DL.gIx_dK, DL.gIx_dT, DL.keepF_im, DL.keepF_vr, DL.keepF_at, DL.keepF_tm, DL.fIxE_s, DL.fInE_s, DL.gIn_l, DL.gIn_tup, DL.gIn_dK, DL.gIn_dT, DL.fPlusE_s, DL.gPlus_i, DL.gPlus_l, DL.gPlus_t, DL.gPlus_s, DL.fTimesE_s, DL.gTimes_i, DL.gTimes_l, DL.faNil_s, DL.faCons_s, DL.fTup_s, DL.fLst_s, DL.fNewK_s, DL.fNewT_s, DL.foNo_s, DL.foAt_s, DL.onIntF_i, DL.fSlE_s, DL.gSl_l, DL.gSl_t, DL.fBits_s, DL.fNeg_s, DL.fMin2_s, DL.fMax2_s, DL.onPairF_i, DL.callF_s, DL.fCall_s, DL.resF_im, DL.resF_ow, DL.fvNil_s, DL.fvIm_s, DL.fvLn_s, DL.agF_im, DL.agF_vr, DL.fCallL_s, DL.callRF_s, DL.lendF_n, DL.lendF_i, DL.lendF_v, DL.lendSF_o, DL.lendSF_i, DL.joinF_n, DL.joinF_i, DL.joinF_o, DL.backF_n, DL.backF_i, DL.backF_vi, DL.backF_vo, DL.argS_n, DL.argS_i, DL.argS_o, DL.fMt_s, DL.staysB_v, DL.staysB_a, DL.okB_l, DL.okB_k, DL.okB_t, DL.obAt_v, DL.obAt_a, DL.obV_o, DL.obI_i, DL.obF_o, DL.setOb_v, DL.setOb_a, DL.setV_o, DL.setI_o, DL.gAppend_s, DL.gPop_s, DL.gPopAt_s, DL.gReverse_s, DL.gExtend_s, DL.fNext_s, DL.next_n, DL.next_r, DL.next_b, DL.next_c, DL.fSeq_s, DL.fBreak_s, DL.fCont_s, DL.fNever_s, DL.fDrop_s, DL.fIfS_s, DL.fRet_s, DL.retF_i, DL.retF_t, DL.retF_v, DL.retSF_i, DL.retSF_o, DL.fRetN_s, DL.fSet_s, DL.setF_t, DL.setF_i, DL.setF_v, DL.fgName_s, DL.fgNil_s, DL.fgCons_s, DL.fgTup_t, DL.fAsg_s, DL.fPar_s, DL.two_s, DL.fAug_s, DL.isImB_i, DL.augF_s, DL.fSub_s, DL.gPut_l, DL.gPut_k, DL.gPut_t, DL.fSeqI_s, DL.seqF_l, DL.seqF_wl, DL.seqF_t, DL.seqF_o, DL.seqF_v, DL.seqSlF_o, DL.fRg1_s, DL.fRg2_s, DL.fEnum_s, DL.fZip_s, DL.zipXs_l, DL.zipXs_t, DL.fFor_s, DL.finFor_n, DL.finFor_r, DL.finFor_g, DL.bkF_n, DL.bkF_g, DL.fLc_s, DL.fLc2_s, DL.fYes_s, DL.runB_s, DL.endF_n, DL.endF_r, DL.finF_n, DL.finF_i, DL.finF_o, DL.wipeE_n, DL.wipeE_c, DL.restE_n, DL.restE_c, DL.noOw_n, DL.noOw_c, DL.noOwS_u, DL.noOwS_i, DL.lcF_n, DL.lcF_c, DL.goForF_n, DL.goForF_c, DL.contF_n, DL.contF_c, DL.contF_b, DL.contF_r, DL.key_i, DL.key_s, DL.fItL_s, DL.dkOf_s, DL.fFld_s, DL.fXF_v, DL.fXF_d, DL.fXF_t, DL.vwAt_i, DL.vwF_s, DL.fvD_i, DL.fvD_o, DL.obD_k, DL.obD_l, DL.fSetF_s, DL.setFXF_d, DL.setFXF_o, DL.fMeth_s, DL.mXF_v, DL.mXF_d, DL.fMake_s, DL.mkRF_s, DL.mkXF_s, DL.fForItemsF_s, DL.fForItems_s, DL.plJ_a, DL.plJ_v, DL.itGF_s, DL.goItF_n, DL.goItF_c, DL.contI_n, DL.isVl_v, DL.bkF_v, DL.plusSub_1, DL.sl_0, DL.sl_1, DL.sl_2, DL.sl_3, DL.sl_4, DL.sl_5, DL.sl_6, DL.sl_7, DL.sl_8, DL.sl_9, DL.sx_0, DL.sx_1, DL.sx_2, DL.sx_3, DL.sx_4, DL.sx_5, DL.sx_6, DL.sx_7, DL.sx_8, DL.sx_9, List.getElem?_cons_zero, List.getElem?_cons_succ, List.set_cons_zero, List.set_cons_succ, List.nil_append, List.cons_append, List.append_nil, List.map_cons, List.map_nil, List.length_cons, List.length_nil, List.replicate_succ, List.replicate_zero, DL.ok_int, DL.eqv_int, DL.ok_bl, if_true, Bool.false_eq_true, if_false, true_and, and_true, and_self, List.length_map, Option.bind_none, Nat.zero_add, Option.getD_some, Bool.and_true, Bool.true_and, decide_eq_true_eq, Bool.not_true, Bool.not_false, ite_true, ite_false, Nat.reduceAdd, Int.reduceAdd, Nat.reduceEqDiff, eq_self, reduceIte, id_eq, Int.toNat_natCast, DL.ok_li, DL.ok_ti, DL.eqv_li, DL.eqv_ti, DL.ok_non, Nat.zero_le])
def eN (n : Nat) : D := .int (n : Int)
theorem eN_s (n : Nat) : eN n = .int (n : Int) := rfl
abbrev eL (l : List Nat) : D := .lst (l.map eN)
abbrev oL (l : List Nat) : Slot := .ow .fresh (.ob (.lst (l.map eN)))
theorem ints_eN : ∀ l : List Nat, D.ints? (l.map eN) = some (l.map fun n : Nat => (n : Int))
  | [] => rfl
  | n :: l => by show (D.ints? (l.map eN)).map _ = _; rw [ints_eN l]; rfl
variable {aS : Addr}
theorem m_take (ds : List Int) (lim : Int) (h : 0 < lim) : M__law_take aS [.ow (.arg 0) (.ob (.lst (ds.map D.int))), .im (.int lim)] = some (.im (.int (tkv ds lim)), [.ow (.arg 0) (.ob (.lst (ds.dropLast.map D.int))), .im (.int lim)]) := take_ok ds lim h
theorem m_check (c : Nat) (h1 : 1 ≤ c) (h2 : c ≤ 24) : M_check_count aS [.im (eN c)] = some (.im .non, [.im (eN c)]) := by
  have a : (1 : Int) ≤ c := by omega
  have b : (c : Int) ≤ 24 := by omega
  simp! only [oL, eL, M_check_count, eN_s, a, b, decide_true]
def xorL (a b : List Nat) : List Nat := List.zipWith (· ^^^ ·) a b
theorem xorL_len (a b : List Nat) : (xorL a b).length = min a.length b.length := by unfold xorL; rw [List.length_zipWith]
theorem zip_len (a b : List D) : (zipD a b).length = min a.length b.length := by
  induction a generalizing b with
  | nil => simp [zipD]
  | cons x a ih => cases b with
    | nil => simp [zipD]
    | cons y b => simp [zipD, ih]
theorem xor_map (a b : List Nat) : (List.zip a b).map (fun p => eN (p.1 ^^^ p.2)) = (xorL a b).map eN := by
  unfold xorL
  rw [← List.map_uncurry_zip_eq_zipWith, List.map_map]
  rfl
theorem bx (a b : Nat) : Builtin.bitXor (a : Int) (b : Int) = ((a ^^^ b : Nat) : Int) := by
  rw [Bits.bitXor_pp (by omega) (by omega)]; simp
theorem m_mixed (a b : List Nat) (h : a.length ≤ 1000) : M_mixed aS [.im (eL a), .im (eL b)] = some (oL (xorL a b), [.im (eL a), .im (eL b)]) := by
  have hz : (zipD (a.map eN) (b.map eN)).length ≤ sizeLine := Nat.le_trans (by rw [zip_len, List.length_map]; exact Nat.le_trans (Nat.min_le_left _ _) h) (by decide)
  have key := lcF_map (vs := [2, 3]) (g := fgTup 2 (fgCons (fgName 2) (fgCons (fgName 3) fgNil))) (ft := fYes) (fe := fXorI (fVar 2) (fVar 3)) (fun p : Nat × Nat => D.tup [eN p.1, eN p.2]) (fun p => eN (p.1 ^^^ p.2)) (δ := [.im (eL a), .im (eL b), .un, .un]) (List.zip a b) [] (fun p _ xs acc => by
    simp! only [oL, eL, eN_s, bx])
  rw [← zipD_eq, xor_map] at key
  simp! only [oL, eL, M_mixed, hz, key]
theorem m_xor (a b : List Nat) (h : a.length ≤ 1000) : M__law_xor aS [.im (eL a), .im (eL b)] = some (oL (xorL a b), [.im (eL a), .im (eL b)]) := m_mixed (aS := aS) a b h
/-! droplet_set -/
def stp (r : Nat) : Nat := (75 * r + 74) % 65537
def dsetS (p : Nat × List Nat) (i : Nat) : Nat × List Nat := (stp p.1, if stp p.1 % 3 = 0 then p.2 ++ [i] else p.2)
def dsetL (s c : Nat) : Nat × List Nat := (List.range c).foldl dsetS (s, [])
def dset (c s : Nat) : List Nat := if (dsetL s c).2 = [] then [s % c] else (dsetL s c).2
theorem fm (a b : Nat) : Int.fmod (a : Int) (b : Int) = ((a % b : Nat) : Int) := by rw [Int.fmod_eq_emod_of_nonneg _ (by omega)]; rfl
theorem m_dset (c s : Nat) (h1 : 1 ≤ c) (h2 : c ≤ 24) (h3 : s < 65536) : M_droplet_set aS [.im (eN c), .im (eN s)] = some (.im (.tup ((dset c s).map eN)), [.im (eN c), .im (eN s)]) := by
  have a1 : (0 : Int) ≤ s := by omega
  have a2 : (s : Int) < 65536 := by omega
  have a3 : -(2 ^ 62) ≤ (c : Int) := by omega
  have a4 : (c : Int) < 2 ^ 62 := by omega
  have loop : ∃ z', goForF (fgName 4) (fSeq (fSet 3 (fModI (fPlusE (fTimesE (fK (.int 75)) (fVar 3)) (fK (.int 74))) (fK (.int 65537))))
      (fIfS (fTst (fOp oEq (fModI (fVar 3) (fK (.int 3))) (fK (.int 0)))) (fDrop (fMt .lst gAppend true (fVar 2) (faCons (fVar 4) faNil))) fNext)) ((List.range c).map eN) [.im (eN c), .im (eN s), .ow .fresh (.ob (.lst [])), .im (eN s), .un] = some (.nx [.im (eN c), .im (eN s), oL (dsetL s c).2, .im (eN (dsetL s c).1), z']) := by
    have := goForF_ind (g := fgName 4) (r := (fSeq (fSet 3 (fModI (fPlusE (fTimesE (fK (.int 75)) (fVar 3)) (fK (.int 74))) (fK (.int 65537))))
      (fIfS (fTst (fOp oEq (fModI (fVar 3) (fK (.int 3))) (fK (.int 0)))) (fDrop (fMt .lst gAppend true (fVar 2) (faCons (fVar 4) faNil))) fNext)))
      (fun i δ => ∃ z p, p = (List.range i).foldl dsetS (s, []) ∧ p.1 < 65537 ∧ p.2.length ≤ i ∧ δ = [.im (eN c), .im (eN s), oL p.2, .im (eN p.1), z]) ((List.range c).map eN) 0 ⟨.un, _, rfl, by show s < _; omega, Nat.le_refl _, rfl⟩ ?_
    · obtain ⟨δ', h1, z, p, hp, _, _, rfl⟩ := this
      refine ⟨z, ?_⟩
      rw [hp, List.length_map, List.length_range, Nat.zero_add] at h1
      exact h1
    · rintro i y xs δ hy ⟨z, p, hp, hp1, hp2, rfl⟩
      rw [Nat.zero_add] at *
      have hi : i < c ∧ y = eN i := by
        rw [List.getElem?_map] at hy
        obtain ⟨k, g1, rfl⟩ := Option.map_eq_some_iff.mp hy
        rw [List.getElem?_eq_some_iff] at g1
        obtain ⟨g2, g3⟩ := g1
        simp at g2 g3
        exact ⟨g2, by rw [g3]⟩
      obtain ⟨hi, rfl⟩ := hi
      have b1 : CMulX 75 (p.1 : Int) := mulx_ok (a := 64) (b := 64) (by omega) (by omega) (by omega)
      have b2 : (75 * (p.1 : Int) + 74).fmod 65537 = ((stp p.1 : Nat) : Int) := by
        have e : ((75 * p.1 + 74 : Nat) : Int) = 75 * (p.1 : Int) + 74 := by omega
        unfold stp; rw [← fm, e]; rfl
      have b3 : ((stp p.1 : Nat) : Int).fmod 3 = ((stp p.1 % 3 : Nat) : Int) := by rw [← fm]; rfl
      have b4 : p.2.length < sizeLine := Nat.lt_of_lt_of_le (show p.2.length < 1000 by omega) (by decide)
      have b5 : ((65537 : Int) ≠ 0) = True := eq_true (by decide)
      have b6 : ((3 : Int) ≠ 0) = True := eq_true (by decide)
      have b7 : stp p.1 < 65537 := Nat.mod_lt _ (by omega)
      have hs : (List.range (i + 1)).foldl dsetS (s, []) = dsetS p i := by rw [List.range_succ, List.foldl_append, ← hp]; rfl
      refine ⟨[.im (eN c), .im (eN s), oL (dsetS p i).2, .im (eN (dsetS p i).1), .im (eN i)], ?_, _, _, hs.symm, by rw [hs.symm, hs]; exact b7, ?_, rfl⟩
      · by_cases hm : stp p.1 % 3 = 0
        · have hd : (decide (((stp p.1 % 3 : Nat) : Int) = 0)) = true := by simp; omega
          have e1 : (dsetS p i) = (stp p.1, p.2 ++ [i]) := by unfold dsetS; rw [if_pos hm]
          simp! only [oL, eL, goForF_c, eN_s, b1, b2, b3, b4, b5, b6, hd, e1, List.map_append]
        · have hd : (decide (((stp p.1 % 3 : Nat) : Int) = 0)) = false := by simp; omega
          have e1 : (dsetS p i) = (stp p.1, p.2) := by unfold dsetS; rw [if_neg hm]
          simp! only [oL, eL, goForF_c, eN_s, b1, b2, b3, b4, b5, b6, hd, e1, List.map_append]
      · unfold dsetS; dsimp only; split
        · simp; omega
        · omega
  obtain ⟨z', loop⟩ := loop
  have hr : rgD 0 c = (List.range c).map eN := rgD0 c
  have hc : M_check_count aS [.im (.int c)] = some (.im .non, [.im (.int c)]) := m_check c h1 h2
  simp only [eN_s] at loop
  by_cases he : (dsetL s c).2 = []
  · have e1 : dset c s = [s % c] := by unfold dset; rw [if_pos he]
    have b1 : ((c : Int) ≠ 0) = True := eq_true (by omega)
    have b2 : (s : Int).fmod c = ((s % c : Nat) : Int) := fm s c
    rw [he] at loop
    simp! only [oL, eL, M_droplet_set, eN_s, hc, a1, a2, a3, a4, decide_true, hr, loop, e1, b1, b2, List.isEmpty_nil]
  · have e1 : dset c s = (dsetL s c).2 := by unfold dset; rw [if_neg he]
    have e2 : (List.map eN (dsetL s c).2).isEmpty = false := by cases h : (dsetL s c).2 with
      | nil => exact absurd h he
      | cons a l => rfl
    simp! only [oL, eL, M_droplet_set, eN_s, hc, a1, a2, a3, a4, decide_true, hr, loop, e1, e2]
end K22
end
section
set_option Elab.async false
set_option linter.all false
set_option maxRecDepth 100000
set_option maxHeartbeats 1000000
namespace K22
open PySem L2 DL
local macro_rules | `(tactic| simp! only [$as,*]) => `(tactic| simp -implicitDefEqProofs only [$as,*, DL.fK_s, DL.fVar_s, DL.varSF_im, DL.varSF_ow, DL.asImF_im, DL.asImF_tm, DL.asImF_vr, DL.imOF_l, DL.imSF_im, DL.imSF_l, DL.some_bindF, DL.f1_s, DL.f2_s, DL.f2v_s, DL.fOp_s, DL.oI_s, DL.oI0_s, DL.oB0_s, DL.oEq_s, DL.oNe_s, DL.fV_s, DL.vw_im, DL.vw_tm, DL.vw_vr, DL.vw_at, DL.vwS_im, DL.vwS_ow, DL.toD_l, DL.toD_k, DL.toD_t, DL.gLen_l, DL.gLen_wl, DL.gLen_tup, DL.gLen_dK, DL.gSum_l, DL.gBs_l, DL.gAnyI_l, DL.gInt_i, DL.gInt_b, DL.gIsN_n, DL.gIsN_i, DL.gIsN_l, DL.gIsN_tup, DL.gIsN_s, DL.gIsN_b, DL.fVL_s, DL.gList_l, DL.gList_wl, DL.gList_tup, DL.gRev_l, DL.gTupl_l, DL.gTupl_t, DL.fTruT_s, DL.gTru_n, DL.gTru_b, DL.gTru_i, DL.gTru_l, DL.gTru_tup, DL.fAnd_s, DL.fOr_s, DL.fNot_s, DL.fIf_s, DL.fAndV_s, DL.fOrV_s, DL.fNotV_s, DL.onBlF_b, DL.fChain_s, DL.fTst_s, DL.blXF_b, DL.gIx_l, DL.gIx_wl, DL.gIx_tup, DL.gIx_dK, DL.gIx_dT, DL.keepF_im, DL.keepF_vr, DL.keepF_at, DL.keepF_tm, DL.fIxE_s, DL.fInE_s, DL.gIn_l, DL.gIn_tup, DL.gIn_dK, DL.gIn_dT, DL.fPlusE_s, DL.gPlus_i, DL.gPlus_l, DL.gPlus_t, DL.gPlus_s, DL.fTimesE_s, DL.gTimes_i, DL.gTimes_l, DL.faNil_s, DL.faCons_s, DL.fTup_s, DL.fLst_s, DL.fNewK_s, DL.fNewT_s, DL.foNo_s, DL.foAt_s, DL.onIntF_i, DL.fSlE_s, DL.gSl_l, DL.gSl_t, DL.fBits_s, DL.fNeg_s, DL.fMin2_s, DL.fMax2_s, DL.onPairF_i, DL.callF_s, DL.fCall_s, DL.resF_im, DL.resF_ow, DL.fvNil_s, DL.fvIm_s, DL.fvLn_s, DL.agF_im, DL.agF_vr, DL.fCallL_s, DL.callRF_s, DL.lendF_n, DL.lendF_i, DL.lendF_v, DL.lendSF_o, DL.lendSF_i, DL.joinF_n, DL.joinF_i, DL.joinF_o, DL.backF_n, DL.backF_i, DL.backF_vi, DL.backF_vo, DL.argS_n, DL.argS_i, DL.argS_o, DL.fMt_s, DL.staysB_v, DL.staysB_a, DL.okB_l, DL.okB_k, DL.okB_t, DL.obAt_v, DL.obAt_a, DL.obV_o, DL.obI_i, DL.obF_o, DL.setOb_v, DL.setOb_a, DL.setV_o, DL.setI_o, DL.gAppend_s, DL.gPop_s, DL.gPopAt_s, DL.gReverse_s, DL.gExtend_s, DL.fNext_s, DL.next_n, DL.next_r, DL.next_b, DL.next_c, DL.fSeq_s, DL.fBreak_s, DL.fCont_s, DL.fNever_s, DL.fDrop_s, DL.fIfS_s, DL.fRet_s, DL.retF_i, DL.retF_t, DL.retF_v, DL.retSF_i, DL.retSF_o, DL.fRetN_s, DL.fSet_s, DL.setF_t, DL.setF_i, DL.setF_v, DL.fgName_s, DL.fgNil_s, DL.fgCons_s, DL.fgTup_t, DL.fAsg_s, DL.fPar_s, DL.two_s, DL.fAug_s, DL.isImB_i, DL.augF_s, DL.fSub_s, DL.gPut_l, DL.gPut_k, DL.gPut_t, DL.fSeqI_s, DL.seqF_l, DL.seqF_wl, DL.seqF_t, DL.seqF_o, DL.seqF_v, DL.seqSlF_o, DL.fRg1_s, DL.fRg2_s, DL.fEnum_s, DL.fZip_s, DL.zipXs_l, DL.zipXs_t, DL.fFor_s, DL.finFor_n, DL.finFor_r, DL.finFor_g, DL.bkF_n, DL.bkF_g, DL.fLc_s, DL.fLc2_s, DL.fYes_s, DL.runB_s, DL.endF_n, DL.endF_r, DL.finF_n, DL.finF_i, DL.finF_o, DL.wipeE_n, DL.wipeE_c, DL.restE_n, DL.restE_c, DL.noOw_n, DL.noOw_c, DL.noOwS_u, DL.noOwS_i, DL.lcF_n, DL.lcF_c, DL.goForF_n, DL.goForF_c, DL.contF_n, DL.contF_c, DL.contF_b, DL.contF_r, DL.key_i, DL.key_s, DL.fItL_s, DL.dkOf_s, DL.fFld_s, DL.fXF_v, DL.fXF_d, DL.fXF_t, DL.vwAt_i, DL.vwF_s, DL.fvD_i, DL.fvD_o, DL.obD_k, DL.obD_l, DL.fSetF_s, DL.setFXF_d, DL.setFXF_o, DL.fMeth_s, DL.mXF_v, DL.mXF_d, DL.fMake_s, DL.mkRF_s, DL.mkXF_s, DL.fForItemsF_s, DL.fForItems_s, DL.plJ_a, DL.plJ_v, DL.itGF_s, DL.goItF_n, DL.goItF_c, DL.contI_n, DL.isVl_v, DL.bkF_v, DL.plusSub_1, DL.sl_0, DL.sl_1, DL.sl_2, DL.sl_3, DL.sl_4, DL.sl_5, DL.sl_6, DL.sl_7, DL.sl_8, DL.sl_9, DL.sx_0, DL.sx_1, DL.sx_2, DL.sx_3, DL.sx_4, DL.sx_5, DL.sx_6, DL.sx_7, DL.sx_8, DL.sx_9, List.getElem?_cons_zero, List.getElem?_cons_succ, List.set_cons_zero, List.set_cons_succ, List.nil_append, List.cons_append, List.append_nil, List.map_cons, List.map_nil, List.length_cons, List.length_nil, List.replicate_succ, List.replicate_zero, DL.ok_int, DL.eqv_int, DL.ok_bl, if_true, Bool.false_eq_true, if_false, true_and, and_true, and_self, List.length_map, Option.bind_none, Nat.zero_add, Option.getD_some, Bool.and_true, Bool.true_and, decide_eq_true_eq, Bool.not_true, Bool.not_false, ite_true, ite_false, Nat.reduceAdd, Int.reduceAdd, Nat.reduceEqDiff, eq_self, reduceIte, id_eq, Int.toNat_natCast, DL.ok_li, DL.ok_ti, DL.eqv_li, DL.eqv_ti, DL.ok_non, Nat.zero_le, decide_true, decide_false])
variable {aS : Addr}
theorem dsetS_mem (s : Nat) : ∀ (c : Nat), (∀ i ∈ (dsetL s c).2, i < c) ∧ (dsetL s c).2.length ≤ c ∧ (dsetL s c).2.Pairwise (· < ·)
  | 0 => ⟨fun i h => (by cases h), Nat.le_refl _, List.Pairwise.nil⟩
  | c + 1 => by
    obtain ⟨h1, h2, h3⟩ := dsetS_mem s c
    have e : dsetL s (c + 1) = dsetS (dsetL s c) c := by unfold dsetL; rw [List.range_succ, List.foldl_append]; rfl
    rw [e]
    unfold dsetS
    dsimp only
    split
    · refine ⟨fun i h => ?_, by simp; omega, ?_⟩
      · rcases List.mem_append.mp h with h | h
        · have := h1 i h; omega
        · rw [List.mem_singleton] at h; omega
      · rw [List.pairwise_append]
        exact ⟨h3, List.pairwise_singleton _ _, fun a ha b hb => by rw [List.mem_singleton] at hb; have := h1 a ha; omega⟩
    · exact ⟨fun i h => by have := h1 i h; omega, by omega, h3⟩
theorem dset_mem {c s : Nat} (hc : 1 ≤ c) : (∀ i ∈ dset c s, i < c) ∧ (dset c s).length ≤ c ∧ (dset c s).Pairwise (· < ·) := by
  unfold dset
  split
  · exact ⟨fun i h => by rw [List.mem_singleton] at h; rw [h]; exact Nat.mod_lt _ (by omega), by simp; omega, List.pairwise_singleton _ _⟩
  · exact dsetS_mem s c
def mask (c s : Nat) : Nat := ((dset c s).map fun i => 2 ^ i).sum
theorem sumCast : ∀ l : List Nat, (l.map fun n : Nat => (n : Int)).sum = ((l.sum : Nat) : Int)
  | [] => rfl
  | a :: l => by rw [List.map_cons, List.sum_cons, List.sum_cons, sumCast l]; omega
theorem m_mask (c s : Nat) (h1 : 1 ≤ c) (h2 : c ≤ 24) (h3 : s < 65536) : M_mask_of aS [.im (eN c), .im (eN s)] = some (.im (eN (mask c s)), [.im (eN c), .im (eN s)]) := by
  have hd := m_dset (aS := aS) c s h1 h2 h3
  obtain ⟨g1, g2, _⟩ := dset_mem (s := s) h1
  have hl : (dset c s).length ≤ sizeLine := Nat.le_trans (show _ ≤ 1000 by omega) (by decide)
  have key := lcF_map (vs := [2]) (g := fgName 2) (ft := fYes) (fe := fShlI (fK (.int 1)) (fVar 2)) eN (fun i => eN (2 ^ i)) (δ := [.im (eN c), .im (eN s), .un]) (dset c s) [] (fun i hi xs acc => by
    have b1 : CPow 1 (i : Int) := ⟨by omega, by have := g1 i hi; omega, by decide⟩
    have b2 : (1 : Int) * 2 ^ ((i : Nat) : Int).toNat = ((2 ^ i : Nat) : Int) := by rw [Int.one_mul, Int.toNat_natCast]; exact (Int.natCast_pow 2 i).symm
    rw [Int.toNat_natCast] at b2
    simp! only [oL, eL, eN_s, b1, b2])
  have e1 : (dset c s).map (fun i => eN (2 ^ i)) = ((dset c s).map fun i => 2 ^ i).map eN := by rw [List.map_map]; rfl
  rw [e1] at key
  simp only [eN_s] at hd key
  have e2 := sumCast ((dset c s).map fun i => 2 ^ i)
  simp! only [M_mask_of, eN_s, hd, hl, key, ints_eN, mask, e2]
/-! droplet -/
def drop (rows : List (List Nat)) (s : Nat) : List Nat := (dset rows.length s).foldl (fun acc i => xorL acc (rows.getD i [])) (List.replicate (rows.getD 0 []).length 0)
abbrev eR (rows : List (List Nat)) : D := .lst (rows.map fun r => D.lst (r.map eN))
theorem drop_len {rows : List (List Nat)} {n : Nat} (hr : ∀ r ∈ rows, r.length = n) : ∀ (l : List Nat) (acc : List Nat), (∀ i ∈ l, i < rows.length) → acc.length = n → (l.foldl (fun acc i => xorL acc (rows.getD i [])) acc).length = n
  | [], acc, _, h => h
  | i :: l, acc, hi, h => by
    rw [List.foldl_cons]
    refine drop_len hr l _ (fun j hj => hi j (by simp [hj])) ?_
    have : i < rows.length := hi i (by simp)
    rw [xorL_len, h, List.getD_eq_getElem?_getD, List.getElem?_eq_getElem this]
    simp [hr _ (List.getElem_mem this)]
theorem m_drop (rows : List (List Nat)) (s n : Nat) (h1 : 1 ≤ rows.length) (h2 : rows.length ≤ 24) (hr : ∀ r ∈ rows, r.length = n) (hn : n ≤ 1000) (h3 : s < 65536) : M_droplet aS [.im (eR rows), .im (eN s)] = some (oL (drop rows s), [.im (eR rows), .im (eN s)]) := by
  have hd := m_dset (aS := aS) rows.length s h1 h2 h3
  obtain ⟨g1, g2, _⟩ := dset_mem (s := s) h1
  have h0 : (rows.getD 0 []).length = n := by cases rows with
    | nil => simp at h1
    | cons r l => exact hr r (by simp)
  have hat : ∀ i : Nat, i < rows.length → atI (rows.map fun r => D.lst (r.map eN)) (i : Int) = some (D.lst ((rows.getD i []).map eN)) := fun i hi => atI_nat (by
    rw [List.getElem?_map, List.getElem?_eq_getElem hi]; simp [List.getElem?_eq_getElem hi])
  have hat0 := hat 0 (by omega)
  have hl : rows.length ≤ sizeLine := Nat.le_trans (show _ ≤ 1000 by omega) (by decide)
  have key := lcF_map (vs := [3]) (g := fgName 3) (ft := fYes) (fe := fOp oNe (fV gLen (fVar 3)) (fV gLen (fIxE true (fVar 0) (fK (.int 0))))) (fun r : List Nat => D.lst (r.map eN)) (fun _ => D.bl false) (δ := [.im (eR rows), .im (eN s), .im (.tup ((dset rows.length s).map eN)), .un, .un, .un]) rows [] (fun r hx xs acc => by
    have e1 : r.length = n := hr r hx
    have e2 : (!decide ((n : Int) = (n : Int))) = false := by simp
    have hat0' : atI (rows.map fun r => D.lst (r.map eN)) 0 = some (D.lst ((rows.getD 0 []).map eN)) := hat0
    simp! only [oL, eL, eR, eN_s, hat0', h0, e1, e2])
  have loop := goForF_ind (g := fgName 5) (r := fSet 4 (fCall 2 (M_mixed aS) (faCons (fVar 4) (faCons (fIxE true (fVar 0) (fVar 5)) faNil)) []))
    (fun i δ => ∃ z, (((dset rows.length s).take i).foldl (fun acc i => xorL acc (rows.getD i [])) (List.replicate n 0)).length = n ∧ δ = [.im (eR rows), .im (eN s), .im (.tup ((dset rows.length s).map eN)), .un, oL (((dset rows.length s).take i).foldl (fun acc i => xorL acc (rows.getD i [])) (List.replicate n 0)), z]) ((dset rows.length s).map eN) 0 ⟨.un, by simp, rfl⟩ (by
      rintro i y xs δ hy ⟨z, hlen, rfl⟩
      rw [Nat.zero_add] at *
      rw [List.getElem?_map] at hy
      obtain ⟨k, hk, rfl⟩ := Option.map_eq_some_iff.mp hy
      have hk2 : k < rows.length := g1 k (List.mem_of_getElem? hk)
      have ek : (dset rows.length s).take (i + 1) = (dset rows.length s).take i ++ [k] := by rw [List.take_succ, hk]; rfl
      have hm := m_mixed (aS := aS) (((dset rows.length s).take i).foldl (fun acc i => xorL acc (rows.getD i [])) (List.replicate n 0)) (rows.getD k []) (by omega)
      have hak := hat k hk2
      refine ⟨[.im (eR rows), .im (eN s), .im (.tup ((dset rows.length s).map eN)), .un, oL (((dset rows.length s).take (i + 1)).foldl (fun acc i => xorL acc (rows.getD i [])) (List.replicate n 0)), .im (eN k)], ?_, _, ?_, rfl⟩
      · rw [ek, List.foldl_append, List.foldl_cons, List.foldl_nil]
        generalize ((dset rows.length s).take i).foldl (fun acc i => xorL acc (rows.getD i [])) (List.replicate n 0) = w at *
        simp! only [goForF_c, oL, eL, eR, eN_s, hak, hm]
      · refine drop_len hr _ _ (fun j hj => g1 j (List.mem_of_mem_take hj)) (by simp))
  obtain ⟨δ', h4, z, _, rfl⟩ := loop
  rw [List.length_map, Nat.zero_add, List.take_length] at h4
  have e3 : (rows.map fun _ => D.bl false) = (rows.map fun _ => false).map D.bl := by rw [List.map_map]; rfl
  have e4 : (rows.map fun _ => false).any id = false := by simp
  rw [e3] at key
  have e5 : -(2 ^ 63) ≤ ((n : Nat) : Int) := by omega
  have e6 : ((n : Nat) : Int) < 2 ^ 63 := by omega
  have e7 : (1 * n ≤ sizeLine) = True := eq_true (Nat.le_trans (show _ ≤ 1000 by omega) (by decide))
  have e8 : (List.replicate n [D.int 0]).flatten = (List.replicate n 0).map eN := by simp [eN_s]
  have hat0' : atI (rows.map fun r => D.lst (r.map eN)) 0 = some (D.lst ((rows.getD 0 []).map eN)) := hat0
  simp only [eN_s] at hd h4 key
  simp only [List.take_zero, List.foldl_nil] at h4
  simp! only [M_droplet, oL, eL, eR, eN_s, hd, hl, key, bls_map, e4, hat0', h0, e5, e6, e7, e8, h4, drop]
end K22
end
section
set_option Elab.async false
set_option linter.all false
set_option maxRecDepth 100000
set_option maxHeartbeats 1000000
namespace DL
theorem goItF_fold {σ ζ β : Type} {j : Nat} {g : FG} {r : FS} (enc : β → D) (e : σ → ζ → Env) (step : σ → β → σ) : ∀ (ys : List β) (s : σ) (z : ζ), (∀ y ∈ ys, ∀ xs s z, ∃ z', goItF j g r (enc y :: xs) (e s z) = goItF j g r xs (e (step s y) z')) →
    ∃ z', goItF j g r (ys.map enc) (e s z) = some (e (ys.foldl step s) z')
  | [], s, z, _ => ⟨z, rfl⟩
  | y :: ys, s, z, h => by
    obtain ⟨z1, h1⟩ := h y (by simp) (ys.map enc) s z
    obtain ⟨z2, h2⟩ := goItF_fold enc e step ys (step s y) z1 fun w hw => h w (by simp [hw])
    exact ⟨z2, by rw [List.map_cons, h1, h2]; rfl⟩
end DL
namespace K22
open PySem L2 DL
local macro_rules | `(tactic| simp! only [$as,*]) => `(tactic| simp -implicitDefEqProofs only [$as,*, DL.fK_s, DL.fVar_s, DL.varSF_im, DL.varSF_ow, DL.asImF_im, DL.asImF_tm, DL.asImF_vr, DL.imOF_l, DL.imSF_im, DL.imSF_l, DL.some_bindF, DL.f1_s, DL.f2_s, DL.f2v_s, DL.fOp_s, DL.oI_s, DL.oI0_s, DL.oB0_s, DL.oEq_s, DL.oNe_s, DL.fV_s, DL.vw_im, DL.vw_tm, DL.vw_vr, DL.vw_at, DL.vwS_im, DL.vwS_ow, DL.toD_l, DL.toD_k, DL.toD_t, DL.gLen_l, DL.gLen_wl, DL.gLen_tup, DL.gLen_dK, DL.gSum_l, DL.gBs_l, DL.gAnyI_l, DL.gInt_i, DL.gInt_b, DL.gIsN_n, DL.gIsN_i, DL.gIsN_l, DL.gIsN_tup, DL.gIsN_s, DL.gIsN_b, DL.fVL_s, DL.gList_l, DL.gList_wl, DL.gList_tup, DL.gRev_l, DL.gTupl_l, DL.gTupl_t, DL.fTruT_s, DL.gTru_n, DL.gTru_b, DL.gTru_i, DL.gTru_l, DL.gTru_tup, DL.fAnd_s, DL.fOr_s, DL.fNot_s, DL.fIf_s, DL.fAndV_s, DL.fOrV_s, DL.fNotV_s, DL.onBlF_b, DL.fChain_s, DL.fTst_s, DL.blXF_b, DL.gIx_l, DL.gIx_wl, DL.gIx_tup, DL.gIx_dK, DL.gIx_dT, DL.keepF_im, DL.keepF_vr, DL.keepF_at, DL.keepF_tm, DL.fIxE_s, DL.fInE_s, DL.gIn_l, DL.gIn_tup, DL.gIn_dK, DL.gIn_dT, DL.fPlusE_s, DL.gPlus_i, DL.gPlus_l, DL.gPlus_t, DL.gPlus_s, DL.fTimesE_s, DL.gTimes_i, DL.gTimes_l, DL.faNil_s, DL.faCons_s, DL.fTup_s, DL.fLst_s, DL.fNewK_s, DL.fNewT_s, DL.foNo_s, DL.foAt_s, DL.onIntF_i, DL.fSlE_s, DL.gSl_l, DL.gSl_t, DL.fBits_s, DL.fNeg_s, DL.fMin2_s, DL.fMax2_s, DL.onPairF_i, DL.callF_s, DL.fCall_s, DL.resF_im, DL.resF_ow, DL.fvNil_s, DL.fvIm_s, DL.fvLn_s, DL.agF_im, DL.agF_vr, DL.fCallL_s, DL.callRF_s, DL.lendF_n, DL.lendF_i, DL.lendF_v, DL.lendSF_o, DL.lendSF_i, DL.joinF_n, DL.joinF_i, DL.joinF_o, DL.backF_n, DL.backF_i, DL.backF_vi, DL.backF_vo, DL.argS_n, DL.argS_i, DL.argS_o, DL.fMt_s, DL.staysB_v, DL.staysB_a, DL.okB_l, DL.okB_k, DL.okB_t, DL.obAt_v, DL.obAt_a, DL.obV_o, DL.obI_i, DL.obF_o, DL.setOb_v, DL.setOb_a, DL.setV_o, DL.setI_o, DL.gAppend_s, DL.gPop_s, DL.gPopAt_s, DL.gReverse_s, DL.gExtend_s, DL.fNext_s, DL.next_n, DL.next_r, DL.next_b, DL.next_c, DL.fSeq_s, DL.fBreak_s, DL.fCont_s, DL.fNever_s, DL.fDrop_s, DL.fIfS_s, DL.fRet_s, DL.retF_i, DL.retF_t, DL.retF_v, DL.retSF_i, DL.retSF_o, DL.fRetN_s, DL.fSet_s, DL.setF_t, DL.setF_i, DL.setF_v, DL.fgName_s, DL.fgNil_s, DL.fgCons_s, DL.fgTup_t, DL.fAsg_s, DL.fPar_s, DL.two_s, DL.fAug_s, DL.isImB_i, DL.augF_s, DL.fSub_s, DL.gPut_l, DL.gPut_k, DL.gPut_t, DL.fSeqI_s, DL.seqF_l, DL.seqF_wl, DL.seqF_t, DL.seqF_o, DL.seqF_v, DL.seqSlF_o, DL.fRg1_s, DL.fRg2_s, DL.fEnum_s, DL.fZip_s, DL.zipXs_l, DL.zipXs_t, DL.fFor_s, DL.finFor_n, DL.finFor_r, DL.finFor_g, DL.bkF_n, DL.bkF_g, DL.fLc_s, DL.fLc2_s, DL.fYes_s, DL.runB_s, DL.endF_n, DL.endF_r, DL.finF_n, DL.finF_i, DL.finF_o, DL.wipeE_n, DL.wipeE_c, DL.restE_n, DL.restE_c, DL.noOw_n, DL.noOw_c, DL.noOwS_u, DL.noOwS_i, DL.lcF_n, DL.lcF_c, DL.goForF_n, DL.goForF_c, DL.contF_n, DL.contF_c, DL.contF_b, DL.contF_r, DL.key_i, DL.key_s, DL.fItL_s, DL.dkOf_s, DL.fFld_s, DL.fXF_v, DL.fXF_d, DL.fXF_t, DL.vwAt_i, DL.vwF_s, DL.fvD_i, DL.fvD_o, DL.obD_k, DL.obD_l, DL.fSetF_s, DL.setFXF_d, DL.setFXF_o, DL.fMeth_s, DL.mXF_v, DL.mXF_d, DL.fMake_s, DL.mkRF_s, DL.mkXF_s, DL.fForItemsF_s, DL.fForItems_s, DL.plJ_a, DL.plJ_v, DL.itGF_s, DL.goItF_n, DL.goItF_c, DL.contI_n, DL.isVl_v, DL.bkF_v, DL.plusSub_1, DL.sl_0, DL.sl_1, DL.sl_2, DL.sl_3, DL.sl_4, DL.sl_5, DL.sl_6, DL.sl_7, DL.sl_8, DL.sl_9, DL.sx_0, DL.sx_1, DL.sx_2, DL.sx_3, DL.sx_4, DL.sx_5, DL.sx_6, DL.sx_7, DL.sx_8, DL.sx_9, List.getElem?_cons_zero, List.getElem?_cons_succ, List.set_cons_zero, List.set_cons_succ, List.nil_append, List.cons_append, List.append_nil, List.map_cons, List.map_nil, List.length_cons, List.length_nil, List.replicate_succ, List.replicate_zero, DL.ok_int, DL.eqv_int, DL.ok_bl, if_true, Bool.false_eq_true, if_false, true_and, and_true, and_self, List.length_map, Option.bind_none, Nat.zero_add, Option.getD_some, Bool.and_true, Bool.true_and, decide_eq_true_eq, Bool.not_true, Bool.not_false, ite_true, ite_false, Nat.reduceAdd, Int.reduceAdd, Nat.reduceEqDiff, eq_self, reduceIte, id_eq, Int.toNat_natCast, DL.ok_li, DL.ok_ti, DL.eqv_li, DL.eqv_ti, DL.ok_non, Nat.zero_le, decide_true, decide_false])
variable {aS : Addr}
abbrev Row := Nat × Nat × List Nat
def rowD (r : Row) : Key × D := (.inl (r.1 : Int), .tup [eN r.2.1, eL r.2.2])
def rowI (r : Row) : D := .tup [eN r.1, .tup [eN r.2.1, eL r.2.2]]
abbrev fsS (n : Int) (rows : List (Key × D)) : List (Str × Fv) := [("length", .im (.int n)), ("rows", .ob (.dK rows))]
theorem itemsD_rows (rows : List Row) : itemsD (rows.map rowD) = rows.map rowI := by unfold itemsD; rw [List.map_map]; rfl
theorem lk_rows {x y : Fv} : List.lookup ("rows" : Str) ([("length", x), ("rows", y)] : List (Str × Fv)) = some y := rfl
theorem lk_add {x y : Fv} : (List.lookup ("add" : Str) ([("length", x), ("rows", y)] : List (Str × Fv))).isNone = true := rfl
theorem st_rows {x y z : Fv} : setFv ("rows" : Str) z ([("length", x), ("rows", y)] : List (Str × Fv)) = ([("length", x), ("rows", z)] : List (Str × Fv)) := rfl
theorem clsB_i {C : Addr} {p : Pin} {fs : List (Str × Fv)} : clsB C (some (.ow p (.ins C fs))) = true := decide_eq_true rfl
theorem fSF_i {C : Addr} {f : Str} {j : Nat} {p : Pin} {fs : List (Str × Fv)} {o : Ob} (h : fs.lookup f = some (.ob o)) : fSF C f j (some (.ow p (.ins C fs))) = some (.at j f) := by
  show (if C = C then _ else _) = _
  rw [if_pos rfl, h]
theorem mSF_i {C : Addr} {f : Str} {j : Nat} {p : Pin} {fs : List (Str × Fv)} (h : (fs.lookup f).isNone = true) : mSF C f j (some (.ow p (.ins C fs))) = some (.vr j) := by
  show (if C = C ∧ _ then _ else _) = _
  rw [if_pos ⟨rfl, h⟩]
theorem m_init (n : Int) : M_Sums___init__ aS [.ow (.arg 0) (.ins aS []), .im (.int n)] = some (.im .non, [.ow (.arg 0) (.ins aS (fsS n [])), .im (.int n)]) := by
  have e1 : setFSF aS ("length" : Str) 0 (.im (.int n)) [Slot.ow (.arg 0) (.ins aS []), .im (.int n)] (some (Slot.ow (.arg 0) (.ins aS []))) = some [Slot.ow (.arg 0) (.ins aS [("length", .im (.int n))]), .im (.int n)] := by
    show (if aS = aS ∧ 0 < 1000 then _ else _) = _
    rw [if_pos ⟨rfl, by decide⟩]; rfl
  have e2 : setFSF aS ("rows" : Str) 0 (.ob (.dK [])) [Slot.ow (.arg 0) (.ins aS [("length", .im (.int n))]), .im (.int n)] (some (Slot.ow (.arg 0) (.ins aS [("length", .im (.int n))]))) = some [Slot.ow (.arg 0) (.ins aS (fsS n [])), .im (.int n)] := by
    show (if aS = aS ∧ 1 < 1000 then _ else _) = _
    rw [if_pos ⟨rfl, by decide⟩]; rfl
  simp! only [M_Sums___init__, e1, e2]
/-! add -/
def redS (p : Nat × List Nat) (r : Row) : Nat × List Nat := if p.1 / 2 ^ r.1 % 2 = 1 then (p.1 ^^^ r.2.1, xorL p.2 r.2.2) else p
def red (rows : List Row) (m : Nat) (o : List Nat) : Nat × List Nat := rows.foldl redS (m, o)
def updS (lead m : Nat) (o : List Nat) (kvs : List (Key × D)) (r : Row) : List (Key × D) := if r.2.1 / 2 ^ lead % 2 = 1 then kput kvs (.inl (r.1 : Int)) (rowD (r.1, r.2.1 ^^^ m, xorL r.2.2 o)).2 else kvs
def addK (rows : List Row) (m : Nat) (o : List Nat) : List (Key × D) := kput (rows.foldl (updS m.log2 m o) (rows.map rowD)) (.inl (m.log2 : Int)) (.tup [eN m, eL o])
/-- slot 2: the octets, owned or not -/
def sl (b : Bool) (o : List Nat) : Slot := if b then oL o else .im (eL o)
theorem bitT (m k : Nat) : gTru (some (.int (Builtin.bitAnd ((m : Int) / 2 ^ (k : Int).toNat) 1))) = some (decide (m / 2 ^ k % 2 = 1)) := by
  have e1 : (m : Int) / 2 ^ (k : Int).toNat = ((m / 2 ^ k : Nat) : Int) := by rw [Int.toNat_natCast]; push_cast; rfl
  have e2 : Builtin.bitAnd ((m / 2 ^ k : Nat) : Int) 1 = ((m / 2 ^ k % 2 : Nat) : Int) := by
    have := Bits.bitAnd_mask (x := ((m / 2 ^ k : Nat) : Int)) 1 (Int.natCast_nonneg _)
    have e : ((2 : Int) ^ 1 - 1) = 1 := by decide
    rw [e] at this
    rw [this]; push_cast; rfl
  rw [e1, e2]
  show some (_ != _) = _
  congr 1
  rcases Nat.mod_two_eq_zero_or_one (m / 2 ^ k) with h | h <;> rw [h] <;> rfl
theorem m_mixed2 (a b : List Nat) (h : b.length ≤ 1000) : M_mixed aS [.im (eL a), .im (eL b)] = some (oL (xorL a b), [.im (eL a), .im (eL b)]) := by
  have hz : (zipD (a.map eN) (b.map eN)).length ≤ sizeLine := Nat.le_trans (by rw [zip_len, List.length_map, List.length_map]; exact Nat.le_trans (Nat.min_le_right _ _) h) (by decide)
  have key := lcF_map (vs := [2, 3]) (g := fgTup 2 (fgCons (fgName 2) (fgCons (fgName 3) fgNil))) (ft := fYes) (fe := fXorI (fVar 2) (fVar 3)) (fun p : Nat × Nat => D.tup [eN p.1, eN p.2]) (fun p => eN (p.1 ^^^ p.2)) (δ := [.im (eL a), .im (eL b), .un, .un]) (List.zip a b) [] (fun p _ xs acc => by
    simp! only [oL, eL, eN_s, bx])
  rw [← zipD_eq, xor_map] at key
  simp! only [oL, eL, M_mixed, hz, key]
abbrev G1 : FG := fgTup 2 (fgCons (fgName 3) (fgCons (fgTup 2 (fgCons (fgName 4) (fgCons (fgName 5) fgNil))) fgNil))
noncomputable abbrev R1 (aS : Addr) : FS := fIfS (fTruT (fAndI (fShrI (fVar 1) (fVar 3)) (fK (.int 1)))) (fPar 1 2 (faCons (fXorI (fVar 1) (fVar 4)) (faCons (fCall 2 (M_mixed aS) (faCons (fVar 2) (faCons (fVar 5) faNil)) []) faNil))) fNext
abbrev G2 : FG := fgTup 2 (fgCons (fgName 6) (fgCons (fgTup 2 (fgCons (fgName 4) (fgCons (fgName 5) fgNil))) fgNil))
noncomputable abbrev R2 (aS : Addr) : FS := fIfS (fTruT (fAndI (fShrI (fVar 4) (fVar 3)) (fK (.int 1)))) (fSub (fFld aS "rows" (fVar 0)) (fVar 6) (fTup (faCons (fXorI (fVar 4) (fVar 1)) (faCons (fCall 2 (M_mixed aS) (faCons (fVar 5) (faCons (fVar 2) faNil)) []) faNil))) true) fNext
theorem nn (m : Nat) : (0 ≤ (m : Int)) = True := eq_true (by omega)
theorem add_loop1 (rows : List Row) (m : Nat) (o : List Nat) (hr : ∀ r ∈ rows, r.2.2.length ≤ 1000) :
    ∃ z : Bool × Slot × Slot × Slot, goItF 0 G1 (R1 aS) (rows.map rowI) [.vl .non, .im (eN m), oL o, .un, .un, .un, .un] = some [.vl .non, .im (eN (red rows m o).1), sl z.1 (red rows m o).2, z.2.1, z.2.2.1, z.2.2.2, .un] := by
  have := goItF_fold (j := 0) (g := G1) (r := R1 aS) rowI (fun (s : Nat × List Nat) (z : Bool × Slot × Slot × Slot) => [.vl .non, .im (eN s.1), sl z.1 s.2, z.2.1, z.2.2.1, z.2.2.2, .un]) redS rows (m, o) (true, .un, .un, .un) (by
    rintro y hy xs ⟨m, o⟩ ⟨fl, s3, s4, s5⟩
    have hm := m_mixed2 (aS := aS) o y.2.2 (hr y hy)
    by_cases hb : m / 2 ^ y.1 % 2 = 1
    · refine ⟨(false, .im (eN y.1), .im (eN y.2.1), .im (eL y.2.2)), ?_⟩
      have e1 : redS (m, o) y = (m ^^^ y.2.1, xorL o y.2.2) := by unfold redS; rw [if_pos hb]
      have e2 := bitT m y.1
      rw [decide_eq_true hb, Int.toNat_natCast] at e2
      rw [e1]
      cases fl <;> simp! only [goItF_c, oL, eL, rowI, sl, eN_s, hm, nn, e2, bx, contI_n, isVl_v]
    · refine ⟨(fl, .im (eN y.1), .im (eN y.2.1), .im (eL y.2.2)), ?_⟩
      have e1 : redS (m, o) y = (m, o) := by unfold redS; rw [if_neg hb]
      have e2 := bitT m y.1
      rw [decide_eq_false hb, Int.toNat_natCast] at e2
      rw [e1]
      cases fl <;> simp! only [goItF_c, oL, eL, rowI, sl, eN_s, hm, nn, e2, bx, contI_n, isVl_v])
  obtain ⟨z, h⟩ := this
  exact ⟨z, h⟩
theorem kput_len {κ α : Type} [DecidableEq κ] (kvs : List (κ × α)) (k : κ) (v : α) : (kput kvs k v).length ≤ kvs.length + 1 := by
  unfold kput; split <;> simp
theorem add_loop2 (n : Int) (rows : List Row) (fl : Bool) (lead m : Nat) (o : List Nat) (kvs : List (Key × D)) (hl : rows.length ≤ 1000) (hk : kvs.length ≤ 1000) (hr : ∀ r ∈ rows, r.2.2.length ≤ 1000) (s4 s5 : Slot) :
    ∃ z : Bool × Slot × Slot × Slot, goForF G2 (R2 aS) (rows.map rowI) [.ow (.arg 0) (.ins aS (fsS n kvs)), .im (eN m), sl fl o, .im (eN lead), s4, s5, .un] = some (.nx [.ow (.arg 0) (.ins aS (fsS n (rows.foldl (updS lead m o) kvs))), .im (eN m), sl z.1 o, .im (eN lead), z.2.1, z.2.2.1, z.2.2.2]) ∧ (rows.foldl (updS lead m o) kvs).length ≤ 2000 := by
  have := goForF_ind (g := G2) (r := R2 aS) (fun i δ => ∃ (fl : Bool) (s4 s5 s6 : Slot), ((rows.take i).foldl (updS lead m o) kvs).length ≤ kvs.length + i ∧ δ = [.ow (.arg 0) (.ins aS (fsS n ((rows.take i).foldl (updS lead m o) kvs))), .im (eN m), sl fl o, .im (eN lead), s4, s5, s6]) (rows.map rowI) 0 ⟨fl, s4, s5, .un, Nat.le_refl _, rfl⟩ (by
    rintro i y xs δ hy ⟨fl, s4, s5, s6, hlen, rfl⟩
    rw [Nat.zero_add] at *
    rw [List.getElem?_map] at hy
    obtain ⟨y, hk2, rfl⟩ := Option.map_eq_some_iff.mp hy
    have hi : i < rows.length := (List.getElem?_eq_some_iff.mp hk2).1
    have ek : (rows.take (i + 1)) = rows.take i ++ [y] := by rw [List.take_succ, hk2]; rfl
    have hm := m_mixed (aS := aS) y.2.2 o (hr y (List.mem_of_getElem? hk2))
    rw [ek, List.foldl_append, List.foldl_cons, List.foldl_nil]
    generalize (rows.take i).foldl (updS lead m o) kvs = w at *
    have hw : w.length < sizeLine := Nat.lt_of_lt_of_le (show w.length < 5000 by omega) (by decide)
    by_cases hb : y.2.1 / 2 ^ lead % 2 = 1
    · have e1 : updS lead m o w y = kput w (.inl (y.1 : Int)) (rowD (y.1, y.2.1 ^^^ m, xorL y.2.2 o)).2 := by unfold updS; rw [if_pos hb]
      have e2 := bitT y.2.1 lead
      rw [decide_eq_true hb, Int.toNat_natCast] at e2
      refine ⟨_, ?_, false, .im (eN y.2.1), .im (eL y.2.2), .im (eN y.1), ?_, rfl⟩
      · rw [e1]
        cases fl <;> simp! only [goForF_c, oL, eL, rowI, rowD, sl, eN_s, hm, nn, e2, bx, fSF_i lk_rows, lk_rows, hw, st_rows]
      · rw [e1]; have := kput_len w (.inl (y.1 : Int)) (rowD (y.1, y.2.1 ^^^ m, xorL y.2.2 o)).2; omega
    · have e1 : updS lead m o w y = w := by unfold updS; rw [if_neg hb]
      have e2 := bitT y.2.1 lead
      rw [decide_eq_false hb, Int.toNat_natCast] at e2
      refine ⟨_, ?_, fl, .im (eN y.2.1), .im (eL y.2.2), .im (eN y.1), ?_, rfl⟩
      · rw [e1]
        cases fl <;> simp! only [goForF_c, oL, eL, rowI, rowD, sl, eN_s, hm, nn, e2, bx]
      · rw [e1]; omega)
  obtain ⟨δ', h1, fl', s4', s5', s6', h2, rfl⟩ := this
  rw [List.length_map, Nat.zero_add, List.take_length] at h1 h2
  exact ⟨(fl', s4', s5', s6'), h1, by omega⟩
theorem logI (m : Nat) (h : m ≠ 0) : ((Builtin.Int.intBits (m : Int) : Nat) : Int) - 1 = (m.log2 : Int) := by
  unfold Builtin.Int.intBits
  have : ((m : Int) == 0) = false := by simp; exact h
  rw [this]
  simp
theorem m_add (n : Int) (rows : List Row) (m : Nat) (o : List Nat) (hr : ∀ r ∈ rows, r.2.2.length ≤ 1000) (hl : rows.length ≤ 500) :
    M_Sums_add aS [.ow (.arg 0) (.ins aS (fsS n (rows.map rowD))), .im (eN m), .im (eL o)] = if (red rows m o).1 = 0 then some (.im (.bl (!(red rows m o).2.any fun z => z != 0)), [.ow (.arg 0) (.ins aS (fsS n (rows.map rowD))), .im (eN m), .im (eL o)])
      else some (.im (.bl true), [.ow (.arg 0) (.ins aS (fsS n (addK rows (red rows m o).1 (red rows m o).2))), .im (eN m), .im (eL o)]) := by
  obtain ⟨⟨fl, s3, s4, s5⟩, h1⟩ := add_loop1 (aS := aS) rows m o hr
  rw [← itemsD_rows] at h1
  have c0 : List.lookup ("rows" : Str) (fsS n (rows.map rowD)) = some (.ob (.dK (rows.map rowD))) := rfl
  unfold G1 R1 at h1
  generalize red rows m o = p at *
  obtain ⟨m', o'⟩ := p
  dsimp only at *
  by_cases hm : m' = 0
  · subst hm
    rw [if_pos rfl]
    have e1 : (o'.map fun z : Nat => (z : Int)).any (fun z => z != 0) = o'.any fun z => z != 0 := by
      rw [List.any_map]
      congr 1
      funext z
      show ((z : Int) != 0) = (z != 0)
      cases z <;> rfl
    simp only [eN_s] at h1
    have d1 : decide (((0 : Nat) : Int) = 0) = true := rfl
    cases fl <;> simp! only [M_Sums_add, oL, eL, sl, eN_s, clsB_i, c0, h1, bkF_g, d1, ints_eN, e1]
  · rw [if_neg hm]
    obtain ⟨⟨fl2, t4, t5, t6⟩, h2, h3⟩ := add_loop2 (aS := aS) n rows fl m'.log2 m' o' (rows.map rowD) (by omega) (by simp; omega) hr s4 s5
    rw [← itemsD_rows] at h2
    unfold G2 R2 at h2
    have d1 : decide ((m' : Int) = 0) = false := by simp; exact hm
    have hw : (rows.foldl (updS m'.log2 m' o') (rows.map rowD)).length < sizeLine := Nat.lt_of_lt_of_le (show _ < 5000 by omega) (by decide)
    have c1 : ∀ kv : List (Key × D), List.lookup ("rows" : Str) (fsS n kv) = some (.ob (.dK kv)) := fun _ => rfl
    have c2 : ∀ (kv : List (Key × D)) z, setFv ("rows" : Str) z (fsS n kv) = ([("length", .im (.int n)), ("rows", z)] : List (Str × Fv)) := fun _ _ => rfl
    have e3 := logI m' hm
    unfold addK
    cases fl <;> cases fl2 <;> simp only [eN_s, oL, eL, sl, if_true, Bool.false_eq_true, if_false] at h1 h2 <;> simp! only [M_Sums_add, oL, eL, sl, eN_s, clsB_i, c1, fSF_i (c1 _), h1, bkF_g, d1, e3, h2, hw, c2]
end K22
end
section
set_option Elab.async false
set_option linter.all false
set_option maxRecDepth 100000
set_option maxHeartbeats 1000000
namespace K22
open PySem L2 DL
local macro_rules | `(tactic| simp! only [$as,*]) => `(tactic| simp -implicitDefEqProofs only [$as,*, DL.fK_s, DL.fVar_s, DL.varSF_im, DL.varSF_ow, DL.asImF_im, DL.asImF_tm, DL.asImF_vr, DL.imOF_l, DL.imSF_im, DL.imSF_l, DL.some_bindF, DL.f1_s, DL.f2_s, DL.f2v_s, DL.fOp_s, DL.oI_s, DL.oI0_s, DL.oB0_s, DL.oEq_s, DL.oNe_s, DL.fV_s, DL.vw_im, DL.vw_tm, DL.vw_vr, DL.vw_at, DL.vwS_im, DL.vwS_ow, DL.toD_l, DL.toD_k, DL.toD_t, DL.gLen_l, DL.gLen_wl, DL.gLen_tup, DL.gLen_dK, DL.gSum_l, DL.gBs_l, DL.gAnyI_l, DL.gInt_i, DL.gInt_b, DL.gIsN_n, DL.gIsN_i, DL.gIsN_l, DL.gIsN_tup, DL.gIsN_s, DL.gIsN_b, DL.fVL_s, DL.gList_l, DL.gList_wl, DL.gList_tup, DL.gRev_l, DL.gTupl_l, DL.gTupl_t, DL.fTruT_s, DL.gTru_n, DL.gTru_b, DL.gTru_i, DL.gTru_l, DL.gTru_tup, DL.fAnd_s, DL.fOr_s, DL.fNot_s, DL.fIf_s, DL.fAndV_s, DL.fOrV_s, DL.fNotV_s, DL.onBlF_b, DL.fChain_s, DL.fTst_s, DL.blXF_b, DL.gIx_l, DL.gIx_wl, DL.gIx_tup, DL.gIx_dK, DL.gIx_dT, DL.keepF_im, DL.keepF_vr, DL.keepF_at, DL.keepF_tm, DL.fIxE_s, DL.fInE_s, DL.gIn_l, DL.gIn_tup, DL.gIn_dK, DL.gIn_dT, DL.fPlusE_s, DL.gPlus_i, DL.gPlus_l, DL.gPlus_t, DL.gPlus_s, DL.fTimesE_s, DL.gTimes_i, DL.gTimes_l, DL.faNil_s, DL.faCons_s, DL.fTup_s, DL.fLst_s, DL.fNewK_s, DL.fNewT_s, DL.foNo_s, DL.foAt_s, DL.onIntF_i, DL.fSlE_s, DL.gSl_l, DL.gSl_t, DL.fBits_s, DL.fNeg_s, DL.fMin2_s, DL.fMax2_s, DL.onPairF_i, DL.callF_s, DL.fCall_s, DL.resF_im, DL.resF_ow, DL.fvNil_s, DL.fvIm_s, DL.fvLn_s, DL.agF_im, DL.agF_vr, DL.fCallL_s, DL.callRF_s, DL.lendF_n, DL.lendF_i, DL.lendF_v, DL.lendSF_o, DL.lendSF_i, DL.joinF_n, DL.joinF_i, DL.joinF_o, DL.backF_n, DL.backF_i, DL.backF_vi, DL.backF_vo, DL.argS_n, DL.argS_i, DL.argS_o, DL.fMt_s, DL.staysB_v, DL.staysB_a, DL.okB_l, DL.okB_k, DL.okB_t, DL.obAt_v, DL.obAt_a, DL.obV_o, DL.obI_i, DL.obF_o, DL.setOb_v, DL.setOb_a, DL.setV_o, DL.setI_o, DL.gAppend_s, DL.gPop_s, DL.gPopAt_s, DL.gReverse_s, DL.gExtend_s, DL.fNext_s, DL.next_n, DL.next_r, DL.next_b, DL.next_c, DL.fSeq_s, DL.fBreak_s, DL.fCont_s, DL.fNever_s, DL.fDrop_s, DL.fIfS_s, DL.fRet_s, DL.retF_i, DL.retF_t, DL.retF_v, DL.retSF_i, DL.retSF_o, DL.fRetN_s, DL.fSet_s, DL.setF_t, DL.setF_i, DL.setF_v, DL.fgName_s, DL.fgNil_s, DL.fgCons_s, DL.fgTup_t, DL.fAsg_s, DL.fPar_s, DL.two_s, DL.fAug_s, DL.isImB_i, DL.augF_s, DL.fSub_s, DL.gPut_l, DL.gPut_k, DL.gPut_t, DL.fSeqI_s, DL.seqF_l, DL.seqF_wl, DL.seqF_t, DL.seqF_o, DL.seqF_v, DL.seqSlF_o, DL.fRg1_s, DL.fRg2_s, DL.fEnum_s, DL.fZip_s, DL.zipXs_l, DL.zipXs_t, DL.fFor_s, DL.finFor_n, DL.finFor_r, DL.finFor_g, DL.bkF_n, DL.bkF_g, DL.fLc_s, DL.fLc2_s, DL.fYes_s, DL.runB_s, DL.endF_n, DL.endF_r, DL.finF_n, DL.finF_i, DL.finF_o, DL.wipeE_n, DL.wipeE_c, DL.restE_n, DL.restE_c, DL.noOw_n, DL.noOw_c, DL.noOwS_u, DL.noOwS_i, DL.lcF_n, DL.lcF_c, DL.goForF_n, DL.goForF_c, DL.contF_n, DL.contF_c, DL.contF_b, DL.contF_r, DL.key_i, DL.key_s, DL.fItL_s, DL.dkOf_s, DL.fFld_s, DL.fXF_v, DL.fXF_d, DL.fXF_t, DL.vwAt_i, DL.vwF_s, DL.fvD_i, DL.fvD_o, DL.obD_k, DL.obD_l, DL.fSetF_s, DL.setFXF_d, DL.setFXF_o, DL.fMeth_s, DL.mXF_v, DL.mXF_d, DL.fMake_s, DL.mkRF_s, DL.mkXF_s, DL.fForItemsF_s, DL.fForItems_s, DL.plJ_a, DL.plJ_v, DL.itGF_s, DL.goItF_n, DL.goItF_c, DL.contI_n, DL.isVl_v, DL.bkF_v, DL.plusSub_1, DL.sl_0, DL.sl_1, DL.sl_2, DL.sl_3, DL.sl_4, DL.sl_5, DL.sl_6, DL.sl_7, DL.sl_8, DL.sl_9, DL.sx_0, DL.sx_1, DL.sx_2, DL.sx_3, DL.sx_4, DL.sx_5, DL.sx_6, DL.sx_7, DL.sx_8, DL.sx_9, List.getElem?_cons_zero, List.getElem?_cons_succ, List.set_cons_zero, List.set_cons_succ, List.nil_append, List.cons_append, List.append_nil, List.map_cons, List.map_nil, List.length_cons, List.length_nil, List.replicate_succ, List.replicate_zero, DL.ok_int, DL.eqv_int, DL.ok_bl, if_true, Bool.false_eq_true, if_false, true_and, and_true, and_self, List.length_map, Option.bind_none, Nat.zero_add, Option.getD_some, Bool.and_true, Bool.true_and, decide_eq_true_eq, Bool.not_true, Bool.not_false, ite_true, ite_false, Nat.reduceAdd, Int.reduceAdd, Nat.reduceEqDiff, eq_self, reduceIte, id_eq, Int.toNat_natCast, DL.ok_li, DL.ok_ti, DL.eqv_li, DL.eqv_ti, DL.ok_non, Nat.zero_le, decide_true, decide_false])
/-! ### sums of numbers as sets of digits -/
def xs : List Nat → Nat
  | [] => 0
  | a :: l => a ^^^ xs l
theorem xs_app : ∀ (a b : List Nat), xs (a ++ b) = xs a ^^^ xs b
  | [], b => by simp [xs]
  | x :: a, b => by simp only [List.cons_append, xs, xs_app a b, Nat.xor_assoc]
def Sp (ms : List Nat) (v : Nat) : Prop := ∃ l : List Nat, (∀ x ∈ l, x ∈ ms) ∧ xs l = v
theorem Sp.zero (ms : List Nat) : Sp ms 0 := ⟨[], by simp, rfl⟩
theorem Sp.mem {ms : List Nat} {v : Nat} (h : v ∈ ms) : Sp ms v := ⟨[v], by simpa using h, by simp [xs]⟩
theorem Sp.xor {ms : List Nat} {v w : Nat} (a : Sp ms v) (b : Sp ms w) : Sp ms (v ^^^ w) := by
  obtain ⟨l, h1, rfl⟩ := a
  obtain ⟨k, h2, rfl⟩ := b
  exact ⟨l ++ k, fun x h => (List.mem_append.mp h).elim (h1 x) (h2 x), xs_app l k⟩
theorem Sp.trans {ms ms' : List Nat} (h : ∀ m ∈ ms, Sp ms' m) {v : Nat} (a : Sp ms v) : Sp ms' v := by
  obtain ⟨l, h1, rfl⟩ := a
  induction l with
  | nil => exact Sp.zero _
  | cons x l ih => exact (h x (h1 x (by simp))).xor (ih fun y hy => h1 y (by simp [hy]))
theorem Sp.mono {ms ms' : List Nat} (h : ∀ m ∈ ms, m ∈ ms') {v : Nat} (a : Sp ms v) : Sp ms' v := a.trans fun m q => Sp.mem (h m q)
/-! ### rows, reduced -/
abbrev Rw := Nat × Nat
structure Inv (rows : List Rw) : Prop where
  nd : (rows.map (·.1)).Nodup
  top : ∀ r ∈ rows, r.2.testBit r.1 = true ∧ r.2 < 2 ^ (r.1 + 1)
  red : ∀ r ∈ rows, ∀ q ∈ rows, q.1 ≠ r.1 → r.2.testBit q.1 = false
def comb (c : Nat → Bool) : List Rw → Nat
  | [] => 0
  | r :: l => (if c r.1 then r.2 else 0) ^^^ comb c l
theorem comb_bit {c : Nat → Bool} {k : Nat} : ∀ {rows : List Rw}, (∀ r ∈ rows, r.1 ≠ k → r.2.testBit k = false) → (rows.map (·.1)).Nodup → (∀ r ∈ rows, r.1 = k → r.2.testBit k = true) →
    (comb c rows).testBit k = (c k && decide (k ∈ rows.map (·.1)))
  | [], _, _, _ => by simp [comb]
  | r :: l, h1, nd, h2 => by
    rw [List.map_cons, List.nodup_cons] at nd
    have ih := comb_bit (c := c) (k := k) (rows := l) (fun q hq => h1 q (by simp [hq])) nd.2 (fun q hq => h2 q (by simp [hq]))
    unfold comb
    rw [Nat.testBit_xor, ih, List.map_cons]
    by_cases e : r.1 = k
    · subst e
      have hn : (decide (r.1 ∈ l.map (·.1))) = false := decide_eq_false nd.1
      rw [hn]
      have hb := h2 r (by simp) rfl
      by_cases hc : c r.1 = true
      · simp [hc, hb]
      · simp [hc]
    · have hb := h1 r (by simp) e
      have e' : (k == r.1) = false := by simp; exact fun z => e z.symm
      by_cases hc : c r.1 = true
      · simp [hc, hb, e']
      · simp [hc, e']
theorem comb_xor (c d : Nat → Bool) : ∀ rows : List Rw, comb c rows ^^^ comb d rows = comb (fun k => c k ^^ d k) rows
  | [] => by simp [comb]
  | r :: l => by
    unfold comb
    rw [← comb_xor c d l]
    have e : ∀ a b x y : Nat, (a ^^^ x) ^^^ (b ^^^ y) = (a ^^^ b) ^^^ (x ^^^ y) := fun a b x y => by
      rw [Nat.xor_assoc, Nat.xor_assoc, ← Nat.xor_assoc x b y, Nat.xor_comm x b, Nat.xor_assoc b x y]
    rw [e]
    congr 1
    cases c r.1 <;> cases d r.1 <;> simp
theorem comb_none : ∀ {c : Nat → Bool} {rows : List Rw}, (∀ r ∈ rows, c r.1 = false) → comb c rows = 0
  | _, [], _ => rfl
  | c, r :: l, h => by
    unfold comb
    rw [h r (by simp), comb_none fun q hq => h q (by simp [hq])]; simp
theorem comb_one {rows : List Rw} : (rows.map (·.1)).Nodup → ∀ r ∈ rows, comb (fun k => decide (k = r.1)) rows = r.2 := by
  induction rows with
  | nil => intro _ r h; cases h
  | cons q l ih =>
    intro nd r h
    rw [List.map_cons, List.nodup_cons] at nd
    unfold comb
    rcases List.mem_cons.mp h with rfl | h
    · rw [comb_none (fun p hp => decide_eq_false (fun e : p.1 = r.1 => nd.1 (by rw [← e]; exact List.mem_map_of_mem hp)))]; simp
    · have : ¬ q.1 = r.1 := fun e => nd.1 (e ▸ List.mem_map_of_mem h)
      rw [ih nd.2 r h]; simp [this]
theorem comb_lt {c : Nat → Bool} {k : Nat} : ∀ {rows : List Rw}, (∀ r ∈ rows, c r.1 = true → r.2 < 2 ^ k) → comb c rows < 2 ^ k
  | [], _ => Nat.two_pow_pos k
  | r :: l, h => by
    unfold comb
    refine Nat.xor_lt_two_pow ?_ (comb_lt fun q hq => h q (by simp [hq]))
    by_cases hc : c r.1 = true
    · rw [if_pos hc]; exact h r (by simp) hc
    · rw [if_neg hc]; exact Nat.two_pow_pos k
theorem sp_comb {rows : List Rw} (nd : (rows.map (·.1)).Nodup) {v : Nat} (h : Sp (rows.map (·.2)) v) : ∃ c, v = comb c rows := by
  obtain ⟨l, h1, rfl⟩ := h
  induction l with
  | nil => exact ⟨fun _ => false, (comb_none fun _ _ => rfl).symm⟩
  | cons x l ih =>
    obtain ⟨c, hc⟩ := ih fun y hy => h1 y (by simp [hy])
    obtain ⟨r, hr, rfl⟩ := List.mem_map.mp (h1 x (by simp))
    refine ⟨fun k => decide (k = r.1) ^^ c k, ?_⟩
    rw [← comb_xor, comb_one nd r hr, ← hc]; rfl
theorem sp_bits {rows : List Rw} (I : Inv rows) {c : Nat → Bool} {r : Rw} (hr : r ∈ rows) : (comb c rows).testBit r.1 = c r.1 := by
  rw [comb_bit (k := r.1) (fun q hq e => I.red q hq r hr (Ne.symm e)) I.nd fun q hq e => by have := (I.top q hq).1; rwa [e] at this]
  have : r.1 ∈ rows.map (·.1) := List.mem_map_of_mem hr
  simp [this]
/-- what is spanned and has no leading digit is nothing -/
theorem sp_zero {rows : List Rw} (I : Inv rows) {v : Nat} (h : Sp (rows.map (·.2)) v) (hz : ∀ r ∈ rows, v.testBit r.1 = false) : v = 0 := by
  obtain ⟨c, rfl⟩ := sp_comb I.nd h
  exact comb_none fun r hr => by have e := sp_bits (c := c) I hr; rw [← e]; exact hz r hr
theorem sp_top {rows : List Rw} (I : Inv rows) {v : Nat} (h : Sp (rows.map (·.2)) v) (hv : v ≠ 0) : v.log2 ∈ rows.map (·.1) := by
  obtain ⟨c, e⟩ := sp_comb I.nd h
  refine Classical.byContradiction fun hn => ?_
  have : v < 2 ^ v.log2 := by
    rw [e]
    conv => rhs; rw [← e]
    refine comb_lt fun r hr hc => ?_
    have hb : v.testBit r.1 = true := by rw [e, sp_bits I hr]; exact hc
    have h1 : r.1 ≤ v.log2 := by
      have := Nat.ge_two_pow_of_testBit hb
      exact (Nat.le_log2 hv).mpr this
    have h2 : r.1 ≠ v.log2 := fun z => hn (z ▸ List.mem_map_of_mem hr)
    exact Nat.lt_of_lt_of_le (I.top r hr).2 (Nat.pow_le_pow_right (by omega) (by omega))
  exact absurd (Nat.log2_self_le hv) (by omega)
/-- fewer spanned, fewer rows -/
theorem nodup_le {a b : List Nat} (nd : a.Nodup) (h : ∀ x ∈ a, x ∈ b) : a.length ≤ b.length := by
  induction a generalizing b with
  | nil => simp
  | cons x a ih =>
    rw [List.nodup_cons] at nd
    have hx := h x (by simp)
    have := ih (b := b.erase x) nd.2 fun y hy => by
      have hyx : y ≠ x := fun e => nd.1 (e ▸ hy)
      exact (List.mem_erase_of_ne hyx).mpr (h y (by simp [hy]))
    rw [List.length_erase_of_mem hx] at this
    have : 0 < b.length := List.length_pos_of_mem hx
    simp; omega
theorem rank_le {rows rows' : List Rw} (I : Inv rows) (I' : Inv rows') (h : ∀ r ∈ rows, Sp (rows'.map (·.2)) r.2) : rows.length ≤ rows'.length := by
  have := nodup_le I.nd (b := rows'.map (·.1)) fun x hx => by
    obtain ⟨r, hr, rfl⟩ := List.mem_map.mp hx
    have ht := I.top r hr
    have hv : r.2 ≠ 0 := fun e => by rw [e] at ht; simp at ht
    have := sp_top I' (h r hr) hv
    have e : r.2.log2 = r.1 := by
      have h1 : r.1 ≤ r.2.log2 := (Nat.le_log2 hv).mpr (Nat.ge_two_pow_of_testBit ht.1)
      have h2 : r.2.log2 < r.1 + 1 := (Nat.log2_lt hv).mpr ht.2
      omega
    rwa [e] at this
  simpa using this
end K22
end
section
set_option Elab.async false
set_option linter.all false
set_option maxRecDepth 100000
set_option maxHeartbeats 1000000
namespace K22
open PySem L2 DL
local macro_rules | `(tactic| simp! only [$as,*]) => `(tactic| simp -implicitDefEqProofs only [$as,*, DL.fK_s, DL.fVar_s, DL.varSF_im, DL.varSF_ow, DL.asImF_im, DL.asImF_tm, DL.asImF_vr, DL.imOF_l, DL.imSF_im, DL.imSF_l, DL.some_bindF, DL.f1_s, DL.f2_s, DL.f2v_s, DL.fOp_s, DL.oI_s, DL.oI0_s, DL.oB0_s, DL.oEq_s, DL.oNe_s, DL.fV_s, DL.vw_im, DL.vw_tm, DL.vw_vr, DL.vw_at, DL.vwS_im, DL.vwS_ow, DL.toD_l, DL.toD_k, DL.toD_t, DL.gLen_l, DL.gLen_wl, DL.gLen_tup, DL.gLen_dK, DL.gSum_l, DL.gBs_l, DL.gAnyI_l, DL.gInt_i, DL.gInt_b, DL.gIsN_n, DL.gIsN_i, DL.gIsN_l, DL.gIsN_tup, DL.gIsN_s, DL.gIsN_b, DL.fVL_s, DL.gList_l, DL.gList_wl, DL.gList_tup, DL.gRev_l, DL.gTupl_l, DL.gTupl_t, DL.fTruT_s, DL.gTru_n, DL.gTru_b, DL.gTru_i, DL.gTru_l, DL.gTru_tup, DL.fAnd_s, DL.fOr_s, DL.fNot_s, DL.fIf_s, DL.fAndV_s, DL.fOrV_s, DL.fNotV_s, DL.onBlF_b, DL.fChain_s, DL.fTst_s, DL.blXF_b, DL.gIx_l, DL.gIx_wl, DL.gIx_tup, DL.gIx_dK, DL.gIx_dT, DL.keepF_im, DL.keepF_vr, DL.keepF_at, DL.keepF_tm, DL.fIxE_s, DL.fInE_s, DL.gIn_l, DL.gIn_tup, DL.gIn_dK, DL.gIn_dT, DL.fPlusE_s, DL.gPlus_i, DL.gPlus_l, DL.gPlus_t, DL.gPlus_s, DL.fTimesE_s, DL.gTimes_i, DL.gTimes_l, DL.faNil_s, DL.faCons_s, DL.fTup_s, DL.fLst_s, DL.fNewK_s, DL.fNewT_s, DL.foNo_s, DL.foAt_s, DL.onIntF_i, DL.fSlE_s, DL.gSl_l, DL.gSl_t, DL.fBits_s, DL.fNeg_s, DL.fMin2_s, DL.fMax2_s, DL.onPairF_i, DL.callF_s, DL.fCall_s, DL.resF_im, DL.resF_ow, DL.fvNil_s, DL.fvIm_s, DL.fvLn_s, DL.agF_im, DL.agF_vr, DL.fCallL_s, DL.callRF_s, DL.lendF_n, DL.lendF_i, DL.lendF_v, DL.lendSF_o, DL.lendSF_i, DL.joinF_n, DL.joinF_i, DL.joinF_o, DL.backF_n, DL.backF_i, DL.backF_vi, DL.backF_vo, DL.argS_n, DL.argS_i, DL.argS_o, DL.fMt_s, DL.staysB_v, DL.staysB_a, DL.okB_l, DL.okB_k, DL.okB_t, DL.obAt_v, DL.obAt_a, DL.obV_o, DL.obI_i, DL.obF_o, DL.setOb_v, DL.setOb_a, DL.setV_o, DL.setI_o, DL.gAppend_s, DL.gPop_s, DL.gPopAt_s, DL.gReverse_s, DL.gExtend_s, DL.fNext_s, DL.next_n, DL.next_r, DL.next_b, DL.next_c, DL.fSeq_s, DL.fBreak_s, DL.fCont_s, DL.fNever_s, DL.fDrop_s, DL.fIfS_s, DL.fRet_s, DL.retF_i, DL.retF_t, DL.retF_v, DL.retSF_i, DL.retSF_o, DL.fRetN_s, DL.fSet_s, DL.setF_t, DL.setF_i, DL.setF_v, DL.fgName_s, DL.fgNil_s, DL.fgCons_s, DL.fgTup_t, DL.fAsg_s, DL.fPar_s, DL.two_s, DL.fAug_s, DL.isImB_i, DL.augF_s, DL.fSub_s, DL.gPut_l, DL.gPut_k, DL.gPut_t, DL.fSeqI_s, DL.seqF_l, DL.seqF_wl, DL.seqF_t, DL.seqF_o, DL.seqF_v, DL.seqSlF_o, DL.fRg1_s, DL.fRg2_s, DL.fEnum_s, DL.fZip_s, DL.zipXs_l, DL.zipXs_t, DL.fFor_s, DL.finFor_n, DL.finFor_r, DL.finFor_g, DL.bkF_n, DL.bkF_g, DL.fLc_s, DL.fLc2_s, DL.fYes_s, DL.runB_s, DL.endF_n, DL.endF_r, DL.finF_n, DL.finF_i, DL.finF_o, DL.wipeE_n, DL.wipeE_c, DL.restE_n, DL.restE_c, DL.noOw_n, DL.noOw_c, DL.noOwS_u, DL.noOwS_i, DL.lcF_n, DL.lcF_c, DL.goForF_n, DL.goForF_c, DL.contF_n, DL.contF_c, DL.contF_b, DL.contF_r, DL.key_i, DL.key_s, DL.fItL_s, DL.dkOf_s, DL.fFld_s, DL.fXF_v, DL.fXF_d, DL.fXF_t, DL.vwAt_i, DL.vwF_s, DL.fvD_i, DL.fvD_o, DL.obD_k, DL.obD_l, DL.fSetF_s, DL.setFXF_d, DL.setFXF_o, DL.fMeth_s, DL.mXF_v, DL.mXF_d, DL.fMake_s, DL.mkRF_s, DL.mkXF_s, DL.fForItemsF_s, DL.fForItems_s, DL.plJ_a, DL.plJ_v, DL.itGF_s, DL.goItF_n, DL.goItF_c, DL.contI_n, DL.isVl_v, DL.bkF_v, DL.plusSub_1, DL.sl_0, DL.sl_1, DL.sl_2, DL.sl_3, DL.sl_4, DL.sl_5, DL.sl_6, DL.sl_7, DL.sl_8, DL.sl_9, DL.sx_0, DL.sx_1, DL.sx_2, DL.sx_3, DL.sx_4, DL.sx_5, DL.sx_6, DL.sx_7, DL.sx_8, DL.sx_9, List.getElem?_cons_zero, List.getElem?_cons_succ, List.set_cons_zero, List.set_cons_succ, List.nil_append, List.cons_append, List.append_nil, List.map_cons, List.map_nil, List.length_cons, List.length_nil, List.replicate_succ, List.replicate_zero, DL.ok_int, DL.eqv_int, DL.ok_bl, if_true, Bool.false_eq_true, if_false, true_and, and_true, and_self, List.length_map, Option.bind_none, Nat.zero_add, Option.getD_some, Bool.and_true, Bool.true_and, decide_eq_true_eq, Bool.not_true, Bool.not_false, ite_true, ite_false, Nat.reduceAdd, Int.reduceAdd, Nat.reduceEqDiff, eq_self, reduceIte, id_eq, Int.toNat_natCast, DL.ok_li, DL.ok_ti, DL.eqv_li, DL.eqv_ti, DL.ok_non, Nat.zero_le, decide_true, decide_false])
def redm (rows : List Rw) (m : Nat) : Nat := rows.foldl (fun m r => if m.testBit r.1 = true then m ^^^ r.2 else m) m
theorem redm_sp : ∀ (rows : List Rw) (m : Nat), Sp (rows.map (·.2)) (m ^^^ redm rows m)
  | [], m => by show Sp _ (m ^^^ m); rw [Nat.xor_self]; exact Sp.zero _
  | r :: l, m => by
    show Sp _ (m ^^^ redm l (if m.testBit r.1 = true then m ^^^ r.2 else m))
    by_cases h : m.testBit r.1 = true
    · rw [if_pos h]
      have := (redm_sp l (m ^^^ r.2)).mono (ms' := (r :: l).map (·.2)) fun x hx => by simp at hx ⊢; exact .inr hx
      have h2 : Sp ((r :: l).map (·.2)) r.2 := Sp.mem (by simp)
      have h3 := h2.xor this
      generalize redm l (m ^^^ r.2) = t at *
      rwa [← Nat.xor_assoc, Nat.xor_comm m r.2, ← Nat.xor_assoc, Nat.xor_self, Nat.zero_xor] at h3
    · rw [if_neg h]
      exact (redm_sp l m).mono fun x hx => by simp at hx ⊢; exact .inr hx
theorem redm_keep {k : Nat} : ∀ {rows : List Rw} {m : Nat}, (∀ r ∈ rows, r.2.testBit k = false) → (redm rows m).testBit k = m.testBit k
  | [], m, _ => rfl
  | r :: l, m, h => by
    show (redm l (if m.testBit r.1 = true then m ^^^ r.2 else m)).testBit k = _
    rw [redm_keep fun q hq => h q (by simp [hq])]
    split
    · rw [Nat.testBit_xor, h r (by simp)]; simp
    · rfl
theorem redm_bits {rows : List Rw} (nd : (rows.map (·.1)).Nodup) (top : ∀ r ∈ rows, r.2.testBit r.1 = true) (red : ∀ r ∈ rows, ∀ q ∈ rows, q.1 ≠ r.1 → r.2.testBit q.1 = false) (m : Nat) : ∀ r ∈ rows, (redm rows m).testBit r.1 = false := by
  induction rows generalizing m with
  | nil => intro r h; cases h
  | cons r l ih =>
    rw [List.map_cons, List.nodup_cons] at nd
    intro q hq
    show (redm l (if m.testBit r.1 = true then m ^^^ r.2 else m)).testBit q.1 = false
    rcases List.mem_cons.mp hq with rfl | hq
    · rw [redm_keep fun p hp => red p (by simp [hp]) q (by simp) fun e => nd.1 (by rw [e]; exact List.mem_map_of_mem hp)]
      by_cases h : m.testBit q.1 = true
      · rw [if_pos h, Nat.testBit_xor, h, top q (by simp)]; rfl
      · rw [if_neg h]; simpa using h
    · exact ih nd.2 (fun p hp => top p (by simp [hp])) (fun p hp p' hp' => red p (by simp [hp]) p' (by simp [hp'])) _ q hq
/-! ### the full rows -/
def pr (r : Row) : Rw := (r.1, r.2.1)
theorem tb (m k : Nat) : (m / 2 ^ k % 2 = 1) ↔ (m.testBit k = true) := by rw [Nat.testBit_eq_decide_div_mod_eq, decide_eq_true_eq]
theorem red_fst : ∀ (rows : List Row) (m : Nat) (o : List Nat), (red rows m o).1 = redm (rows.map pr) m
  | [], _, _ => rfl
  | r :: l, m, o => by
    show (red l (redS (m, o) r).1 (redS (m, o) r).2).1 = redm (l.map pr) (if m.testBit r.1 = true then m ^^^ r.2.1 else m)
    rw [red_fst l]
    congr 1
    unfold redS
    dsimp only
    by_cases h : m.testBit r.1 = true
    · rw [if_pos h, if_pos ((tb m r.1).mpr h)]
    · rw [if_neg h, if_neg (fun z => h ((tb m r.1).mp z))]
def upd (m : Nat) (o : List Nat) (r : Row) : Row := if r.2.1.testBit m.log2 = true then (r.1, r.2.1 ^^^ m, xorL r.2.2 o) else r
def addR (rows : List Row) (m : Nat) (o : List Nat) : List Row := if (red rows m o).1 = 0 then rows else rows.map (upd (red rows m o).1 (red rows m o).2) ++ [((red rows m o).1.log2, (red rows m o).1, (red rows m o).2)]
theorem key_ne {a b : Nat} (h : a ≠ b) : (Sum.inl (a : Int) : Key) ≠ Sum.inl (b : Int) := fun e => h (by have := Sum.inl.inj e; omega)
theorem kput_mid {A B : List (Key × D)} {k : Key} {w v : D} (ha : ∀ q ∈ A, q.1 ≠ k) (hb : ∀ q ∈ B, q.1 ≠ k) : kput (A ++ (k, w) :: B) k v = A ++ (k, v) :: B := by
  unfold kput
  have h1 : ((A ++ (k, w) :: B).any fun kv => decide (kv.1 = k)) = true := by simp
  rw [if_pos h1, List.map_append, List.map_cons]
  have e : ∀ (l : List (Key × D)), (∀ q ∈ l, q.1 ≠ k) → l.map (fun kv => if kv.1 = k then (kv.1, v) else kv) = l := fun l hl => by
    conv => rhs; rw [← List.map_id l]
    exact List.map_congr_left fun q hq => by rw [if_neg (hl q hq)]; rfl
  rw [e A ha, e B hb]; simp
theorem kput_new {A : List (Key × D)} {k : Key} {v : D} (ha : ∀ q ∈ A, q.1 ≠ k) : kput A k v = A ++ [(k, v)] := by
  unfold kput
  have h1 : ¬ (A.any fun kv => decide (kv.1 = k)) = true := by
    rw [List.any_eq_true]
    rintro ⟨q, hq, h⟩
    exact ha q hq (of_decide_eq_true h)
  rw [if_neg h1]
theorem upd_key (m : Nat) (o : List Nat) (r : Row) : (upd m o r).1 = r.1 := by unfold upd; split <;> rfl
theorem updS_all (m : Nat) (o : List Nat) : ∀ (B A : List Row), ((A ++ B).map (·.1)).Nodup → B.foldl (updS m.log2 m o) ((A.map (upd m o) ++ B).map rowD) = ((A ++ B).map (upd m o)).map rowD
  | [], A, _ => by simp
  | r :: B, A, nd => by
    have nd' : (((A ++ [r]) ++ B).map (·.1)).Nodup := by simpa using nd
    have ih := updS_all m o B (A ++ [r]) nd'
    rw [List.foldl_cons]
    have key : updS m.log2 m o ((A.map (upd m o) ++ r :: B).map rowD) r = (((A ++ [r]).map (upd m o) ++ B).map rowD) := by
      unfold updS
      have hA : ∀ q ∈ (A.map (upd m o)).map rowD, q.1 ≠ (Sum.inl (r.1 : Int) : Key) := fun q hq => by
        simp only [List.map_map, List.mem_map] at hq
        obtain ⟨a, ha, rfl⟩ := hq
        show (Sum.inl ((upd m o a).1 : Int) : Key) ≠ _
        rw [upd_key]
        refine key_ne fun e => ?_
        rw [List.map_append, List.nodup_append] at nd
        exact nd.2.2 a.1 (List.mem_map_of_mem ha) r.1 (by simp) e
      have hB : ∀ q ∈ B.map rowD, q.1 ≠ (Sum.inl (r.1 : Int) : Key) := fun q hq => by
        simp only [List.mem_map] at hq
        obtain ⟨a, ha, rfl⟩ := hq
        refine key_ne fun e => ?_
        rw [List.map_append, List.map_cons, List.nodup_append, List.nodup_cons] at nd
        exact nd.2.1.1 (e ▸ List.mem_map_of_mem ha)
      by_cases h : r.2.1.testBit m.log2 = true
      · rw [if_pos ((tb _ _).mpr h)]
        rw [List.map_append, List.map_cons]
        show kput ((A.map (upd m o)).map rowD ++ (Sum.inl (r.1 : Int), _) :: B.map rowD) _ _ = _
        rw [kput_mid hA hB]
        have : upd m o r = (r.1, r.2.1 ^^^ m, xorL r.2.2 o) := by unfold upd; rw [if_pos h]
        simp [this]; rfl
      · rw [if_neg (fun z => h ((tb _ _).mp z))]
        have : upd m o r = r := by unfold upd; rw [if_neg h]
        simp [this]
    rw [key, ih]
    simp
theorem addK_eq {rows : List Row} {m : Nat} {o : List Nat} (nd : (rows.map (·.1)).Nodup) (hn : m.log2 ∉ rows.map (·.1)) : addK rows m o = (rows.map (upd m o) ++ [(m.log2, m, o)]).map rowD := by
  unfold addK
  have := updS_all m o rows [] (by simpa using nd)
  simp only [List.map_nil, List.nil_append] at this
  rw [this, kput_new]
  · simp; rfl
  · intro q hq
    simp only [List.map_map, List.mem_map] at hq
    obtain ⟨a, ha, rfl⟩ := hq
    show (Sum.inl ((upd m o a).1 : Int) : Key) ≠ _
    rw [upd_key]
    exact key_ne fun e => hn (e ▸ List.mem_map_of_mem ha)
/-! ### what holds of the rows -/
structure J (ms : List Nat) (rows : List Row) : Prop where
  inv : Inv (rows.map pr)
  sub : ∀ r ∈ rows, Sp ms r.2.1
  sup : ∀ m ∈ ms, Sp ((rows.map pr).map (·.2)) m
theorem J.nil : J [] [] := ⟨⟨List.nodup_nil, fun r h => (by cases h), fun r h => (by cases h)⟩, fun r h => (by cases h), fun r h => (by cases h)⟩
theorem pr_fst (rows : List Row) : (rows.map pr).map (·.1) = rows.map (·.1) := by rw [List.map_map]; rfl
theorem J.bits {ms : List Nat} {rows : List Row} (j : J ms rows) (m : Nat) : ∀ r ∈ rows, (redm (rows.map pr) m).testBit r.1 = false := fun r hr =>
  redm_bits j.inv.nd (fun q hq => (j.inv.top q hq).1) j.inv.red m (pr r) (List.mem_map_of_mem hr)
theorem J.lead {ms : List Nat} {rows : List Row} (j : J ms rows) {m : Nat} (h : redm (rows.map pr) m ≠ 0) : (redm (rows.map pr) m).log2 ∉ rows.map (·.1) := fun e => by
  obtain ⟨r, hr, e⟩ := List.mem_map.mp e
  have := j.bits m r hr
  rw [e, Nat.testBit_log2 h] at this
  cases this
theorem J.in {ms : List Nat} {rows : List Row} (j : J ms rows) (m : Nat) : redm (rows.map pr) m = 0 ↔ Sp ms m := by
  have h1 := redm_sp (rows.map pr) m
  have up : ∀ v, Sp ((rows.map pr).map (·.2)) v → Sp ms v := fun v h => h.trans fun x hx => by
    simp only [List.map_map, List.mem_map] at hx
    obtain ⟨r, hr, rfl⟩ := hx
    exact j.sub r hr
  constructor
  · intro e
    rw [e, Nat.xor_zero] at h1
    exact up m h1
  · intro h
    refine sp_zero j.inv ?_ fun q hq => ?_
    · have h2 := (h.trans j.sup).xor h1
      rwa [← Nat.xor_assoc, Nat.xor_self, Nat.zero_xor] at h2
    · obtain ⟨r, hr, rfl⟩ := List.mem_map.mp hq
      exact j.bits m r hr
theorem J.add {ms : List Nat} {rows : List Row} (j : J ms rows) (m : Nat) (o : List Nat) : J (ms ++ [m]) (addR rows m o) ∧ (addR rows m o).length = rows.length + (if redm (rows.map pr) m = 0 then 0 else 1) ∧
    ((red rows m o).1 ≠ 0 → addK rows (red rows m o).1 (red rows m o).2 = (addR rows m o).map rowD) := by
  have hi := j.in m
  have hb := j.bits m
  have hl := fun h => j.lead (m := m) h
  have hsp := redm_sp (rows.map pr) m
  unfold addR
  rw [red_fst]
  generalize (red rows m o).2 = o' at *
  generalize redm (rows.map pr) m = m' at *
  by_cases h : m' = 0
  · rw [if_pos h, if_pos h]
    refine ⟨⟨j.inv, fun r hr => (j.sub r hr).mono (by simp; exact fun a b => .inl b), fun x hx => ?_⟩, rfl, fun z => absurd h z⟩
    rcases List.mem_append.mp hx with hx | hx
    · exact j.sup x hx
    · rw [List.mem_singleton] at hx
      rw [hx]
      exact (hi.mp h).trans j.sup
  · rw [if_neg h, if_neg h]
    have hn := hl h
    have nd0 : (rows.map (·.1)).Nodup := by have := j.inv.nd; rwa [pr_fst] at this
    refine ⟨⟨⟨?_, ?_, ?_⟩, ?_, ?_⟩, by simp, fun _ => addK_eq nd0 hn⟩
    · rw [pr_fst, List.map_append, List.map_map]
      have e : ((fun x : Row => x.1) ∘ upd m' o') = fun x => x.1 := funext fun r => upd_key m' o' r
      rw [e, List.nodup_append]
      exact ⟨nd0, by simp, fun a ha b hb e => by simp at hb; rw [hb] at e; exact hn (e ▸ ha)⟩
    · intro q hq
      simp only [List.map_append, List.map_map, List.mem_append, List.mem_map, List.mem_singleton] at hq
      rcases hq with ⟨r, hr, rfl⟩ | ⟨r, rfl, rfl⟩
      · have ht := j.inv.top (pr r) (List.mem_map_of_mem hr)
        show (pr (upd m' o' r)).2.testBit (pr (upd m' o' r)).1 = true ∧ (pr (upd m' o' r)).2 < 2 ^ ((pr (upd m' o' r)).1 + 1)
        unfold upd
        split
        · rename_i hc
          refine ⟨?_, ?_⟩
          · show (r.2.1 ^^^ m').testBit r.1 = true
            rw [Nat.testBit_xor, hb r hr]
            have : r.2.1.testBit r.1 = true := ht.1
            rw [this]; rfl
          · show r.2.1 ^^^ m' < 2 ^ (r.1 + 1)
            refine Nat.xor_lt_two_pow ht.2 ?_
            have h1 : m'.log2 < r.1 + 1 := by
              have h2 := Nat.ge_two_pow_of_testBit hc
              have h3 : r.2.1 < 2 ^ (r.1 + 1) := ht.2
              exact (Nat.pow_lt_pow_iff_right (by omega : 1 < 2)).mp (Nat.lt_of_le_of_lt h2 h3)
            exact Nat.lt_of_lt_of_le (Nat.lt_log2_self (n := m')) (Nat.pow_le_pow_right (by omega) (by omega))
        · exact ht
      · exact ⟨Nat.testBit_log2 h, Nat.lt_log2_self⟩
    · intro q hq p hp hne
      simp only [List.map_append, List.map_map, List.mem_append, List.mem_map, List.mem_singleton] at hq hp
      rcases hq with ⟨r, hr, rfl⟩ | ⟨r, rfl, rfl⟩
      · rcases hp with ⟨t, ht, rfl⟩ | ⟨t, rfl, rfl⟩
        · have hne : t.1 ≠ r.1 := fun e => hne (by show (upd m' o' t).1 = (upd m' o' r).1; rw [upd_key, upd_key, e])
          have h0 : r.2.1.testBit t.1 = false := j.inv.red (pr r) (List.mem_map_of_mem hr) (pr t) (List.mem_map_of_mem ht) hne
          show (upd m' o' r).2.1.testBit (upd m' o' t).1 = false
          rw [upd_key]
          unfold upd
          split
          · show (r.2.1 ^^^ m').testBit t.1 = false
            rw [Nat.testBit_xor, h0, hb t ht]; rfl
          · exact h0
        · show (upd m' o' r).2.1.testBit m'.log2 = false
          unfold upd
          split
          · rename_i hc
            show (r.2.1 ^^^ m').testBit m'.log2 = false
            rw [Nat.testBit_xor, hc, Nat.testBit_log2 h]; rfl
          · rename_i hc; simpa using hc
      · rcases hp with ⟨t, ht, rfl⟩ | ⟨t, rfl, rfl⟩
        · show m'.testBit (upd m' o' t).1 = false
          rw [upd_key]; exact hb t ht
        · exact absurd rfl hne
    · have hm' : Sp (ms ++ [m]) m' := by
        have h1 : Sp (ms ++ [m]) (m ^^^ m') := hsp.trans fun x hx => by
          simp only [List.map_map, List.mem_map] at hx
          obtain ⟨r, hr, rfl⟩ := hx
          exact (j.sub r hr).mono (by simp; exact fun a b => .inl b)
        have h2 : Sp (ms ++ [m]) m := Sp.mem (by simp)
        have := h2.xor h1
        rwa [← Nat.xor_assoc, Nat.xor_self, Nat.zero_xor] at this
      intro r hr
      rcases List.mem_append.mp hr with hr | hr
      · obtain ⟨t, ht, rfl⟩ := List.mem_map.mp hr
        have h0 : Sp (ms ++ [m]) t.2.1 := (j.sub t ht).mono (by simp; exact fun a b => .inl b)
        unfold upd
        split
        · exact h0.xor hm'
        · exact h0
      · rw [List.mem_singleton] at hr; rw [hr]; exact hm'
    · have hnew : ∀ r ∈ rows, Sp (((rows.map (upd m' o') ++ [(m'.log2, m', o')]).map pr).map (·.2)) r.2.1 := fun r hr => by
        have h1 : Sp (((rows.map (upd m' o') ++ [(m'.log2, m', o')]).map pr).map (·.2)) m' := Sp.mem (by simp [pr])
        have h2 : Sp (((rows.map (upd m' o') ++ [(m'.log2, m', o')]).map pr).map (·.2)) (upd m' o' r).2.1 := Sp.mem (by
          rw [List.map_map, List.map_append]
          exact List.mem_append_left _ (List.mem_map_of_mem (f := (fun x => x.2) ∘ pr) (List.mem_map_of_mem hr)))
        by_cases hc : r.2.1.testBit m'.log2 = true
        · have e : (upd m' o' r).2.1 = r.2.1 ^^^ m' := by unfold upd; rw [if_pos hc]
          rw [e] at h2
          have := h2.xor h1
          rwa [Nat.xor_assoc, Nat.xor_self, Nat.xor_zero] at this
        · have e : (upd m' o' r).2.1 = r.2.1 := by unfold upd; rw [if_neg hc]
          rwa [e] at h2
      have hold : ∀ v, Sp ((rows.map pr).map (·.2)) v → Sp (((rows.map (upd m' o') ++ [(m'.log2, m', o')]).map pr).map (·.2)) v := fun v hv => hv.trans fun x hx => by
        rw [List.map_map, List.mem_map] at hx
        obtain ⟨r, hr, rfl⟩ := hx
        exact hnew r hr
      intro x hx
      rcases List.mem_append.mp hx with hx | hx
      · exact hold x (j.sup x hx)
      · rw [List.mem_singleton] at hx
        rw [hx]
        have h1 : Sp (((rows.map (upd m' o') ++ [(m'.log2, m', o')]).map pr).map (·.2)) m' := Sp.mem (by simp [pr])
        have := (hold _ hsp).xor h1
        rwa [Nat.xor_assoc, Nat.xor_self, Nat.xor_zero] at this
end K22
end
section
set_option Elab.async false
set_option linter.all false
set_option maxRecDepth 100000
set_option maxHeartbeats 1000000
namespace DL
theorem goForF_find {ζ β : Type} {g : FG} {r : FS} (enc : β → D) (e : ζ → Env) (P : β → Prop) (Post : β → Slot → Env → Prop) : ∀ (ys : List β) (z : ζ), (∃ y ∈ ys, P y) → (∀ y ∈ ys, P y → ∀ xs z, ∃ s δ', goForF g r (enc y :: xs) (e z) = some (.rt s δ') ∧ Post y s δ') →
    (∀ y ∈ ys, ¬ P y → ∀ xs z, ∃ z', goForF g r (enc y :: xs) (e z) = goForF g r xs (e z')) → ∃ y ∈ ys, P y ∧ ∃ s δ', goForF g r (ys.map enc) (e z) = some (.rt s δ') ∧ Post y s δ'
  | [], z, h, _, _ => by obtain ⟨y, hy, _⟩ := h; cases hy
  | y :: ys, z, h, h1, h2 => by
    by_cases hp : P y
    · obtain ⟨s, δ', e1, p⟩ := h1 y (by simp) hp (ys.map enc) z
      exact ⟨y, by simp, hp, s, δ', e1, p⟩
    · obtain ⟨z', e1⟩ := h2 y (by simp) hp (ys.map enc) z
      obtain ⟨y', hy', hp', s, δ', e2, p⟩ := goForF_find enc e P Post ys z' (by
        obtain ⟨w, hw, pw⟩ := h
        rcases List.mem_cons.mp hw with rfl | hw
        · exact absurd pw hp
        · exact ⟨w, hw, pw⟩) (fun w hw => h1 w (by simp [hw])) (fun w hw => h2 w (by simp [hw]))
      exact ⟨y', by simp [hy'], hp', s, δ', by rw [List.map_cons, e1, e2], p⟩
end DL
namespace K22
open PySem L2 DL
local macro_rules | `(tactic| simp! only [$as,*]) => `(tactic| simp -implicitDefEqProofs only [$as,*, DL.fK_s, DL.fVar_s, DL.varSF_im, DL.varSF_ow, DL.asImF_im, DL.asImF_tm, DL.asImF_vr, DL.imOF_l, DL.imSF_im, DL.imSF_l, DL.some_bindF, DL.f1_s, DL.f2_s, DL.f2v_s, DL.fOp_s, DL.oI_s, DL.oI0_s, DL.oB0_s, DL.oEq_s, DL.oNe_s, DL.fV_s, DL.vw_im, DL.vw_tm, DL.vw_vr, DL.vw_at, DL.vwS_im, DL.vwS_ow, DL.toD_l, DL.toD_k, DL.toD_t, DL.gLen_l, DL.gLen_wl, DL.gLen_tup, DL.gLen_dK, DL.gSum_l, DL.gBs_l, DL.gAnyI_l, DL.gInt_i, DL.gInt_b, DL.gIsN_n, DL.gIsN_i, DL.gIsN_l, DL.gIsN_tup, DL.gIsN_s, DL.gIsN_b, DL.fVL_s, DL.gList_l, DL.gList_wl, DL.gList_tup, DL.gRev_l, DL.gTupl_l, DL.gTupl_t, DL.fTruT_s, DL.gTru_n, DL.gTru_b, DL.gTru_i, DL.gTru_l, DL.gTru_tup, DL.fAnd_s, DL.fOr_s, DL.fNot_s, DL.fIf_s, DL.fAndV_s, DL.fOrV_s, DL.fNotV_s, DL.onBlF_b, DL.fChain_s, DL.fTst_s, DL.blXF_b, DL.gIx_l, DL.gIx_wl, DL.gIx_tup, DL.gIx_dK, DL.gIx_dT, DL.keepF_im, DL.keepF_vr, DL.keepF_at, DL.keepF_tm, DL.fIxE_s, DL.fInE_s, DL.gIn_l, DL.gIn_tup, DL.gIn_dK, DL.gIn_dT, DL.fPlusE_s, DL.gPlus_i, DL.gPlus_l, DL.gPlus_t, DL.gPlus_s, DL.fTimesE_s, DL.gTimes_i, DL.gTimes_l, DL.faNil_s, DL.faCons_s, DL.fTup_s, DL.fLst_s, DL.fNewK_s, DL.fNewT_s, DL.foNo_s, DL.foAt_s, DL.onIntF_i, DL.fSlE_s, DL.gSl_l, DL.gSl_t, DL.fBits_s, DL.fNeg_s, DL.fMin2_s, DL.fMax2_s, DL.onPairF_i, DL.callF_s, DL.fCall_s, DL.resF_im, DL.resF_ow, DL.fvNil_s, DL.fvIm_s, DL.fvLn_s, DL.agF_im, DL.agF_vr, DL.fCallL_s, DL.callRF_s, DL.lendF_n, DL.lendF_i, DL.lendF_v, DL.lendSF_o, DL.lendSF_i, DL.joinF_n, DL.joinF_i, DL.joinF_o, DL.backF_n, DL.backF_i, DL.backF_vi, DL.backF_vo, DL.argS_n, DL.argS_i, DL.argS_o, DL.fMt_s, DL.staysB_v, DL.staysB_a, DL.okB_l, DL.okB_k, DL.okB_t, DL.obAt_v, DL.obAt_a, DL.obV_o, DL.obI_i, DL.obF_o, DL.setOb_v, DL.setOb_a, DL.setV_o, DL.setI_o, DL.gAppend_s, DL.gPop_s, DL.gPopAt_s, DL.gReverse_s, DL.gExtend_s, DL.fNext_s, DL.next_n, DL.next_r, DL.next_b, DL.next_c, DL.fSeq_s, DL.fBreak_s, DL.fCont_s, DL.fNever_s, DL.fDrop_s, DL.fIfS_s, DL.fRet_s, DL.retF_i, DL.retF_t, DL.retF_v, DL.retSF_i, DL.retSF_o, DL.fRetN_s, DL.fSet_s, DL.setF_t, DL.setF_i, DL.setF_v, DL.fgName_s, DL.fgNil_s, DL.fgCons_s, DL.fgTup_t, DL.fAsg_s, DL.fPar_s, DL.two_s, DL.fAug_s, DL.isImB_i, DL.augF_s, DL.fSub_s, DL.gPut_l, DL.gPut_k, DL.gPut_t, DL.fSeqI_s, DL.seqF_l, DL.seqF_wl, DL.seqF_t, DL.seqF_o, DL.seqF_v, DL.seqSlF_o, DL.fRg1_s, DL.fRg2_s, DL.fEnum_s, DL.fZip_s, DL.zipXs_l, DL.zipXs_t, DL.fFor_s, DL.finFor_n, DL.finFor_r, DL.finFor_g, DL.bkF_n, DL.bkF_g, DL.fLc_s, DL.fLc2_s, DL.fYes_s, DL.runB_s, DL.endF_n, DL.endF_r, DL.finF_n, DL.finF_i, DL.finF_o, DL.wipeE_n, DL.wipeE_c, DL.restE_n, DL.restE_c, DL.noOw_n, DL.noOw_c, DL.noOwS_u, DL.noOwS_i, DL.lcF_n, DL.lcF_c, DL.goForF_n, DL.goForF_c, DL.contF_n, DL.contF_c, DL.contF_b, DL.contF_r, DL.key_i, DL.key_s, DL.fItL_s, DL.dkOf_s, DL.fFld_s, DL.fXF_v, DL.fXF_d, DL.fXF_t, DL.vwAt_i, DL.vwF_s, DL.fvD_i, DL.fvD_o, DL.obD_k, DL.obD_l, DL.fSetF_s, DL.setFXF_d, DL.setFXF_o, DL.fMeth_s, DL.mXF_v, DL.mXF_d, DL.fMake_s, DL.mkRF_s, DL.mkXF_s, DL.fForItemsF_s, DL.fForItems_s, DL.plJ_a, DL.plJ_v, DL.itGF_s, DL.goItF_n, DL.goItF_c, DL.contI_n, DL.isVl_v, DL.bkF_v, DL.plusSub_1, DL.sl_0, DL.sl_1, DL.sl_2, DL.sl_3, DL.sl_4, DL.sl_5, DL.sl_6, DL.sl_7, DL.sl_8, DL.sl_9, DL.sx_0, DL.sx_1, DL.sx_2, DL.sx_3, DL.sx_4, DL.sx_5, DL.sx_6, DL.sx_7, DL.sx_8, DL.sx_9, List.getElem?_cons_zero, List.getElem?_cons_succ, List.set_cons_zero, List.set_cons_succ, List.nil_append, List.cons_append, List.append_nil, List.map_cons, List.map_nil, List.length_cons, List.length_nil, List.replicate_succ, List.replicate_zero, DL.ok_int, DL.eqv_int, DL.ok_bl, if_true, Bool.false_eq_true, if_false, true_and, and_true, and_self, List.length_map, Option.bind_none, Nat.zero_add, Option.getD_some, Bool.and_true, Bool.true_and, decide_eq_true_eq, Bool.not_true, Bool.not_false, ite_true, ite_false, Nat.reduceAdd, Int.reduceAdd, Nat.reduceEqDiff, eq_self, reduceIte, id_eq, Int.toNat_natCast, DL.ok_li, DL.ok_ti, DL.eqv_li, DL.eqv_ti, DL.ok_non, Nat.zero_le, decide_true, decide_false])
variable {aS : Addr}
theorem revInd {α : Type} {p : List α → Prop} (h0 : p []) (h1 : ∀ l a, p l → p (l ++ [a])) (l : List α) : p l := by
  rw [← List.reverse_reverse l]
  induction l.reverse with
  | nil => exact h0
  | cons a l ih => rw [List.reverse_cons]; exact h1 _ _ ih
def W (rows : List Row) : Prop := ∀ r ∈ rows, r.2.2.length ≤ 1000
theorem red_len : ∀ (rows : List Row) (m : Nat) (o : List Nat), (red rows m o).2.length ≤ o.length
  | [], m, o => Nat.le_refl _
  | r :: l, m, o => by
    show (red l (redS (m, o) r).1 (redS (m, o) r).2).2.length ≤ _
    refine Nat.le_trans (red_len l _ _) ?_
    unfold redS
    split
    · show (xorL o r.2.2).length ≤ _; rw [xorL_len]; exact Nat.min_le_left _ _
    · exact Nat.le_refl _
theorem W.add {rows : List Row} (w : W rows) (m : Nat) {o : List Nat} (ho : o.length ≤ 1000) : W (addR rows m o) := by
  have h1 := red_len rows m o
  unfold addR
  split
  · exact w
  · intro r hr
    rcases List.mem_append.mp hr with hr | hr
    · obtain ⟨t, ht, rfl⟩ := List.mem_map.mp hr
      have := w t ht
      unfold upd
      split
      · show (xorL t.2.2 _).length ≤ _; rw [xorL_len]; exact Nat.le_trans (Nat.min_le_left _ _) this
      · exact this
    · rw [List.mem_singleton] at hr; rw [hr]; exact Nat.le_trans h1 ho
def okA (rows : List Row) (m : Nat) (o : List Nat) : Bool := if (red rows m o).1 = 0 then !(red rows m o).2.any fun z => z != 0 else true
theorem m_addJ {ms : List Nat} {rows : List Row} (j : J ms rows) (w : W rows) (n : Int) (m : Nat) (o : List Nat) (hl : rows.length ≤ 500) : M_Sums_add aS [.ow (.arg 0) (.ins aS (fsS n (rows.map rowD))), .im (eN m), .im (eL o)] = some (.im (.bl (okA rows m o)), [.ow (.arg 0) (.ins aS (fsS n ((addR rows m o).map rowD))), .im (eN m), .im (eL o)]) := by
  rw [m_add n rows m o w hl]
  unfold okA
  by_cases h : (red rows m o).1 = 0
  · rw [if_pos h, if_pos h]
    unfold addR
    rw [if_pos h]
  · rw [if_neg h, if_neg h, (j.add m o).2.2 h]
def rowsL (L : List (Nat × List Nat)) : List Row := L.foldl (fun rows p => addR rows p.1 p.2) []
theorem rowsL_app (L : List (Nat × List Nat)) (p : Nat × List Nat) : rowsL (L ++ [p]) = addR (rowsL L) p.1 p.2 := by unfold rowsL; rw [List.foldl_append]; rfl
theorem rowsL_J (L : List (Nat × List Nat)) : J (L.map (·.1)) (rowsL L) ∧ (rowsL L).length ≤ L.length := by
  refine revInd (p := fun L => J (L.map (·.1)) (rowsL L) ∧ (rowsL L).length ≤ L.length) ⟨J.nil, Nat.le_refl _⟩ (fun L p ih => ?_) L
  · obtain ⟨j, l⟩ := ih
    obtain ⟨j', l', _⟩ := j.add p.1 p.2
    rw [rowsL_app, List.map_append]
    refine ⟨j', ?_⟩
    rw [l', List.length_append]
    split <;> simp <;> omega
theorem rowsL_W (L : List (Nat × List Nat)) (h : ∀ p ∈ L, p.2.length ≤ 1000) : W (rowsL L) := by
  revert h
  refine revInd (p := fun L => (∀ p ∈ L, p.2.length ≤ 1000) → W (rowsL L)) (fun _ r hr => by cases hr) (fun L p ih h => ?_) L
  rw [rowsL_app]
  exact (ih fun q hq => h q (by simp [hq])).add p.1 (h p (by simp))
/-! ### lack, next_seed -/
abbrev zp (ms : List Nat) : List (Nat × List Nat) := ms.map fun m => (m, [])
noncomputable abbrev RA (aS : Addr) : FS := fDrop (fMeth aS "add" 3 (M_Sums_add aS) (fVar 2) (fvIm (fVar 3) (fvIm (fLst faNil) fvNil)) [])
theorem masks_ok (c : Nat) (seeds : List Nat) (h1 : 1 ≤ c) (h2 : c ≤ 24) (h3 : ∀ s ∈ seeds, s < 65536) (s1 s2 s3 : Slot) (tl : DL.Env) :
    lcF [4] (fgName 4) fYes (fCall 2 (M_mask_of aS) (faCons (fVar 0) (faCons (fVar 4) faNil)) []) (seeds.map eN) [] (.im (eN c) :: s1 :: s2 :: s3 :: .un :: tl) = some ((seeds.map (mask c)).map eN, .im (eN c) :: s1 :: s2 :: s3 :: .un :: tl) := by
  have := lcF_map (vs := [4]) (g := fgName 4) (ft := fYes) (fe := fCall 2 (M_mask_of aS) (faCons (fVar 0) (faCons (fVar 4) faNil)) []) eN (fun s => eN (mask c s)) (δ := .im (eN c) :: s1 :: s2 :: s3 :: .un :: tl) seeds [] (fun s hs xs acc => by
    have hm := m_mask (aS := aS) c s h1 h2 (h3 s hs)
    simp only [eN_s] at hm
    simp! only [eN_s, hm])
  rw [List.nil_append] at this
  rw [this, List.map_map]; rfl
theorem adds_ok (ms : List Nat) (hl : ms.length ≤ 500) (s0 s1 s3 : Slot) (tl : DL.Env) : ∃ z, goForF (fgName 3) (RA aS) (ms.map eN) (s0 :: s1 :: .ow .fresh (.ins aS (fsS 0 [])) :: s3 :: tl) = some (.nx (s0 :: s1 :: .ow .fresh (.ins aS (fsS 0 ((rowsL (zp ms)).map rowD))) :: z :: tl)) := by
  have := goForF_ind (g := fgName 3) (r := RA aS) (fun i δ => ∃ z, δ = s0 :: s1 :: .ow .fresh (.ins aS (fsS 0 ((rowsL (zp (ms.take i))).map rowD))) :: z :: tl) (ms.map eN) 0 ⟨s3, rfl⟩ (by
    rintro i y xs δ hy ⟨z, rfl⟩
    rw [Nat.zero_add] at *
    rw [List.getElem?_map] at hy
    obtain ⟨m, hk, rfl⟩ := Option.map_eq_some_iff.mp hy
    have ek : zp (ms.take (i + 1)) = zp (ms.take i) ++ [(m, [])] := by rw [List.take_succ, hk]; simp [zp]
    obtain ⟨j, l⟩ := rowsL_J (zp (ms.take i))
    have w := rowsL_W (zp (ms.take i)) (fun p hp => by
      obtain ⟨x, _, rfl⟩ := List.mem_map.mp hp; simp)
    have ha := m_addJ (aS := aS) j w 0 m [] (by
      have : (zp (ms.take i)).length ≤ ms.length := by simp; omega
      omega)
    have hlk : ∀ kv : List (Key × D), (List.lookup ("add" : Str) (fsS 0 kv)).isNone = true := fun _ => rfl
    refine ⟨_, ?_, .im (eN m), rfl⟩
    rw [ek, rowsL_app]
    simp only [eN_s, eL, List.map_nil] at ha
    simp! only [goForF_c, eN_s, mSF_i (hlk _), ha])
  obtain ⟨δ', h, z, rfl⟩ := this
  rw [List.length_map, Nat.zero_add, List.take_length] at h
  exact ⟨z, h⟩
def rk (c : Nat) (seeds : List Nat) : Nat := (rowsL (zp (seeds.map (mask c)))).length
theorem m_lack (c : Nat) (seeds : List Nat) (h1 : 1 ≤ c) (h2 : c ≤ 24) (h3 : ∀ s ∈ seeds, s < 65536) (hl : seeds.length ≤ 500) : M_lack aS [.im (eN c), .im (eL seeds)] = some (.im (.int ((c : Int) - rk c seeds)), [.im (eN c), .im (eL seeds)]) := by
  obtain ⟨z, ha⟩ := adds_ok (aS := aS) (seeds.map (mask c)) (by simpa using hl) (.im (eN c)) (.im (eL seeds)) .un [.un]
  have hm := masks_ok (aS := aS) c seeds h1 h2 h3 (.im (eL seeds)) (.ow .fresh (.ins aS (fsS 0 []))) .un []
  have hi := m_init (aS := aS) 0
  have hc := m_check (aS := aS) c h1 h2
  have hl2 : seeds.length ≤ sizeLine := Nat.le_trans hl (by decide)
  have c1 : ∀ kv : List (Key × D), List.lookup ("rows" : Str) (fsS 0 kv) = some (.ob (.dK kv)) := fun _ => rfl
  unfold RA at ha
  simp only [eN_s, eL] at ha hm hc
  unfold rk
  simp! only [M_lack, eN_s, eL, hc, hi, hl2, hm, ha, fSF_i (c1 _), c1]
end K22
end
section
set_option Elab.async false
set_option linter.all false
set_option maxRecDepth 100000
set_option maxHeartbeats 1000000
namespace DL
theorem lc2F_flatMap {β : Type} {vs vs1 : List Nat} {g g1 : FG} {t t1 : FT} {fi : FI} {fe : FE} (enc : β → D) (f : β → List D) {δ : Env} (B : Nat) : ∀ (ys : List β) (acc : List D), (acc ++ ys.flatMap f).length ≤ B →
    (∀ y ∈ ys, ∀ xs acc, acc.length + (f y).length ≤ B → lc2F vs vs1 g t fi g1 t1 fe (enc y :: xs) acc δ = lc2F vs vs1 g t fi g1 t1 fe xs (acc ++ f y) δ) → lc2F vs vs1 g t fi g1 t1 fe (ys.map enc) acc δ = some (acc ++ ys.flatMap f, δ)
  | [], acc, _, _ => by simp [lc2F]
  | y :: ys, acc, hb, h => by
    rw [List.flatMap_cons, List.length_append, List.length_append] at hb
    rw [List.map_cons, h y (by simp) _ _ (by omega), lc2F_flatMap enc f B ys _ (by rw [List.length_append, List.length_append]; omega) fun z hz => h z (by simp [hz])]
    simp
end DL
namespace K22
open PySem L2 DL
local macro_rules | `(tactic| simp! only [$as,*]) => `(tactic| simp -implicitDefEqProofs only [$as,*, DL.fK_s, DL.fVar_s, DL.varSF_im, DL.varSF_ow, DL.asImF_im, DL.asImF_tm, DL.asImF_vr, DL.imOF_l, DL.imSF_im, DL.imSF_l, DL.some_bindF, DL.f1_s, DL.f2_s, DL.f2v_s, DL.fOp_s, DL.oI_s, DL.oI0_s, DL.oB0_s, DL.oEq_s, DL.oNe_s, DL.fV_s, DL.vw_im, DL.vw_tm, DL.vw_vr, DL.vw_at, DL.vwS_im, DL.vwS_ow, DL.toD_l, DL.toD_k, DL.toD_t, DL.gLen_l, DL.gLen_wl, DL.gLen_tup, DL.gLen_dK, DL.gSum_l, DL.gBs_l, DL.gAnyI_l, DL.gInt_i, DL.gInt_b, DL.gIsN_n, DL.gIsN_i, DL.gIsN_l, DL.gIsN_tup, DL.gIsN_s, DL.gIsN_b, DL.fVL_s, DL.gList_l, DL.gList_wl, DL.gList_tup, DL.gRev_l, DL.gTupl_l, DL.gTupl_t, DL.fTruT_s, DL.gTru_n, DL.gTru_b, DL.gTru_i, DL.gTru_l, DL.gTru_tup, DL.fAnd_s, DL.fOr_s, DL.fNot_s, DL.fIf_s, DL.fAndV_s, DL.fOrV_s, DL.fNotV_s, DL.onBlF_b, DL.fChain_s, DL.fTst_s, DL.blXF_b, DL.gIx_l, DL.gIx_wl, DL.gIx_tup, DL.gIx_dK, DL.gIx_dT, DL.keepF_im, DL.keepF_vr, DL.keepF_at, DL.keepF_tm, DL.fIxE_s, DL.fInE_s, DL.gIn_l, DL.gIn_tup, DL.gIn_dK, DL.gIn_dT, DL.fPlusE_s, DL.gPlus_i, DL.gPlus_l, DL.gPlus_t, DL.gPlus_s, DL.fTimesE_s, DL.gTimes_i, DL.gTimes_l, DL.faNil_s, DL.faCons_s, DL.fTup_s, DL.fLst_s, DL.fNewK_s, DL.fNewT_s, DL.foNo_s, DL.foAt_s, DL.onIntF_i, DL.fSlE_s, DL.gSl_l, DL.gSl_t, DL.fBits_s, DL.fNeg_s, DL.fMin2_s, DL.fMax2_s, DL.onPairF_i, DL.callF_s, DL.fCall_s, DL.resF_im, DL.resF_ow, DL.fvNil_s, DL.fvIm_s, DL.fvLn_s, DL.agF_im, DL.agF_vr, DL.fCallL_s, DL.callRF_s, DL.lendF_n, DL.lendF_i, DL.lendF_v, DL.lendSF_o, DL.lendSF_i, DL.joinF_n, DL.joinF_i, DL.joinF_o, DL.backF_n, DL.backF_i, DL.backF_vi, DL.backF_vo, DL.argS_n, DL.argS_i, DL.argS_o, DL.fMt_s, DL.staysB_v, DL.staysB_a, DL.okB_l, DL.okB_k, DL.okB_t, DL.obAt_v, DL.obAt_a, DL.obV_o, DL.obI_i, DL.obF_o, DL.setOb_v, DL.setOb_a, DL.setV_o, DL.setI_o, DL.gAppend_s, DL.gPop_s, DL.gPopAt_s, DL.gReverse_s, DL.gExtend_s, DL.fNext_s, DL.next_n, DL.next_r, DL.next_b, DL.next_c, DL.fSeq_s, DL.fBreak_s, DL.fCont_s, DL.fNever_s, DL.fDrop_s, DL.fIfS_s, DL.fRet_s, DL.retF_i, DL.retF_t, DL.retF_v, DL.retSF_i, DL.retSF_o, DL.fRetN_s, DL.fSet_s, DL.setF_t, DL.setF_i, DL.setF_v, DL.fgName_s, DL.fgNil_s, DL.fgCons_s, DL.fgTup_t, DL.fAsg_s, DL.fPar_s, DL.two_s, DL.fAug_s, DL.isImB_i, DL.augF_s, DL.fSub_s, DL.gPut_l, DL.gPut_k, DL.gPut_t, DL.fSeqI_s, DL.seqF_l, DL.seqF_wl, DL.seqF_t, DL.seqF_o, DL.seqF_v, DL.seqSlF_o, DL.fRg1_s, DL.fRg2_s, DL.fEnum_s, DL.fZip_s, DL.zipXs_l, DL.zipXs_t, DL.fFor_s, DL.finFor_n, DL.finFor_r, DL.finFor_g, DL.bkF_n, DL.bkF_g, DL.fLc_s, DL.fLc2_s, DL.fYes_s, DL.runB_s, DL.endF_n, DL.endF_r, DL.finF_n, DL.finF_i, DL.finF_o, DL.wipeE_n, DL.wipeE_c, DL.restE_n, DL.restE_c, DL.noOw_n, DL.noOw_c, DL.noOwS_u, DL.noOwS_i, DL.lcF_n, DL.lcF_c, DL.goForF_n, DL.goForF_c, DL.contF_n, DL.contF_c, DL.contF_b, DL.contF_r, DL.key_i, DL.key_s, DL.fItL_s, DL.dkOf_s, DL.fFld_s, DL.fXF_v, DL.fXF_d, DL.fXF_t, DL.vwAt_i, DL.vwF_s, DL.fvD_i, DL.fvD_o, DL.obD_k, DL.obD_l, DL.fSetF_s, DL.setFXF_d, DL.setFXF_o, DL.fMeth_s, DL.mXF_v, DL.mXF_d, DL.fMake_s, DL.mkRF_s, DL.mkXF_s, DL.fForItemsF_s, DL.fForItems_s, DL.plJ_a, DL.plJ_v, DL.itGF_s, DL.goItF_n, DL.goItF_c, DL.contI_n, DL.isVl_v, DL.bkF_v, DL.plusSub_1, DL.sl_0, DL.sl_1, DL.sl_2, DL.sl_3, DL.sl_4, DL.sl_5, DL.sl_6, DL.sl_7, DL.sl_8, DL.sl_9, DL.sx_0, DL.sx_1, DL.sx_2, DL.sx_3, DL.sx_4, DL.sx_5, DL.sx_6, DL.sx_7, DL.sx_8, DL.sx_9, List.getElem?_cons_zero, List.getElem?_cons_succ, List.set_cons_zero, List.set_cons_succ, List.nil_append, List.cons_append, List.append_nil, List.map_cons, List.map_nil, List.length_cons, List.length_nil, List.replicate_succ, List.replicate_zero, DL.ok_int, DL.eqv_int, DL.ok_bl, if_true, Bool.false_eq_true, if_false, true_and, and_true, and_self, List.length_map, Option.bind_none, Nat.zero_add, Option.getD_some, Bool.and_true, Bool.true_and, decide_eq_true_eq, Bool.not_true, Bool.not_false, ite_true, ite_false, Nat.reduceAdd, Int.reduceAdd, Nat.reduceEqDiff, eq_self, reduceIte, id_eq, Int.toNat_natCast, DL.ok_li, DL.ok_ti, DL.eqv_li, DL.eqv_ti, DL.ok_non, Nat.zero_le, decide_true, decide_false])
variable {aS : Addr}
theorem lc2F_c {vs vs1 : List Nat} {g g1 : FG} {t t1 : FT} {fi : FI} {fe : FE} {d : D} {xs acc : List D} {δ : DL.Env} : lc2F vs vs1 g t fi g1 t1 fe (d :: xs) acc δ = (g d δ).bind fun δ1 => (t δ1).bind fun p => if p.1 = true then (fi p.2).bind fun s => if acc.length + s.1.length ≤ sizeLine then (lcF vs1 g1 t1 fe s.1 acc (wipeE vs1 s.2.1)).bind fun q => (bkF s.2.2 q.2).bind fun δ4 => lc2F vs vs1 g t fi g1 t1 fe xs q.1 (wipeE vs δ4) else none else lc2F vs vs1 g t fi g1 t1 fe xs acc (wipeE vs p.2) := rfl
/-! next_seed -/
theorem m_next (c : Nat) (seeds : List Nat) (h1 : 1 ≤ c) (h2 : c ≤ 24) (h3 : ∀ s ∈ seeds, s < 65536) (hl : seeds.length ≤ 400) : if rk c seeds < c then ((∃ s, s < 65536 ∧ ¬ Sp (seeds.map (mask c)) (mask c s)) → ∃ s, s < 65536 ∧ ¬ Sp (seeds.map (mask c)) (mask c s) ∧ M_next_seed aS [.im (eN c), .im (eL seeds)] = some (.im (eN s), [.im (eN c), .im (eL seeds)]))
    else M_next_seed aS [.im (eN c), .im (eL seeds)] = some (.im .non, [.im (eN c), .im (eL seeds)]) := by
  obtain ⟨z, ha⟩ := adds_ok (aS := aS) (seeds.map (mask c)) (by simp; omega) (.im (eN c)) (.im (eL seeds)) .un [.un, .un]
  have hm := masks_ok (aS := aS) c seeds h1 h2 h3 (.im (eL seeds)) (.ow .fresh (.ins aS (fsS 0 []))) .un [.un]
  have hi := m_init (aS := aS) 0
  have hc := m_check (aS := aS) c h1 h2
  have hl2 : seeds.length ≤ sizeLine := Nat.le_trans hl (by decide)
  have c1 : ∀ kv : List (Key × D), List.lookup ("rows" : Str) (fsS 0 kv) = some (.ob (.dK kv)) := fun _ => rfl
  obtain ⟨j, jl⟩ := rowsL_J (zp (seeds.map (mask c)))
  have w := rowsL_W (zp (seeds.map (mask c))) (fun p hp => by obtain ⟨x, _, rfl⟩ := List.mem_map.mp hp; simp)
  have e0 : (zp (seeds.map (mask c))).map (·.1) = seeds.map (mask c) := by rw [List.map_map]; exact List.map_id _
  rw [e0] at j
  have jl : (rowsL (zp (seeds.map (mask c)))).length ≤ 400 := Nat.le_trans jl (by simp; omega)
  unfold RA at ha
  unfold rk
  generalize rowsL (zp (seeds.map (mask c))) = R at *
  have r0 : -(2 ^ 62) ≤ (0 : Int) ∧ (0 : Int) < 2 ^ 62 := by decide
  have r1 : -(2 ^ 62) ≤ (65536 : Int) ∧ (65536 : Int) < 2 ^ 62 := by decide
  by_cases hlt : R.length < c
  · rw [if_pos hlt]
    intro hex
    have hlk : ∀ kv : List (Key × D), (List.lookup ("add" : Str) (fsS 0 kv)).isNone = true := fun _ => rfl
    obtain ⟨y, hy, hp, s, δ', hf, hpost⟩ := goForF_find (g := fgName 4) (r := (fSeq (fDrop (fMeth aS "add" 3 (M_Sums_add aS) (fVar 2) (fvIm (fCall 2 (M_mask_of aS) (faCons (fVar 0) (faCons (fVar 4) faNil)) []) (fvIm (fLst faNil) fvNil)) []))
        (fIfS (fTst (fOp oGt (fV gLen (fFld aS "rows" (fVar 2))) (fVar 5))) (fRet (fVar 4)) fNext))) eN
      (fun z4 : Slot => [.im (eN c), .im (eL seeds), .ow .fresh (.ins aS (fsS 0 (R.map rowD))), z, z4, .im (eN R.length)]) (fun s => ¬ Sp (seeds.map (mask c)) (mask c s)) (fun y s δ' => s = .im (eN y) ∧ ∃ t1 t2 t3 t4, δ' = [.im (eN c), .im (eL seeds), t1, t2, t3, t4]) (List.range 65536) .un
      (by obtain ⟨s, h1, h2⟩ := hex; exact ⟨s, List.mem_range.mpr h1, h2⟩) (by
        intro y hy hp xs z4
        have hy : y < 65536 := List.mem_range.mp hy
        have hmk := m_mask (aS := aS) c y h1 h2 hy
        have had := m_addJ (aS := aS) j w 0 (mask c y) [] (by omega)
        have hne : redm (R.map pr) (mask c y) ≠ 0 := fun e => hp ((j.in _).mp e)
        obtain ⟨_, hlen, _⟩ := j.add (mask c y) []
        rw [if_neg hne] at hlen
        have hd : decide ((R.length : Int) < ((addR R (mask c y) []).length : Int)) = true := decide_eq_true (by rw [hlen]; omega)
        refine ⟨.im (eN y), [.im (eN c), .im (eL seeds), .ow .fresh (.ins aS (fsS 0 ((addR R (mask c y) []).map rowD))), z, .im (eN y), .im (eN R.length)], ?_, rfl, _, _, _, _, rfl⟩
        simp only [eN_s, eL, List.map_nil] at hmk had
        simp! only [goForF_c, eN_s, hmk, mSF_i (hlk _), had, c1, fSF_i (c1 _), hd]) (by
        intro y hy hp xs z4
        have hy : y < 65536 := List.mem_range.mp hy
        have hmk := m_mask (aS := aS) c y h1 h2 hy
        have had := m_addJ (aS := aS) j w 0 (mask c y) [] (by omega)
        have hz : redm (R.map pr) (mask c y) = 0 := (j.in _).mpr (Classical.not_not.mp hp)
        have hz2 : addR R (mask c y) [] = R := by unfold addR; rw [red_fst, if_pos hz]
        rw [hz2] at had
        have hd : decide ((R.length : Int) < (R.length : Int)) = false := decide_eq_false (by omega)
        refine ⟨.im (eN y), ?_⟩
        simp only [eN_s, eL, List.map_nil] at hmk had
        simp! only [goForF_c, eN_s, hmk, mSF_i (hlk _), had, c1, fSF_i (c1 _), hd])
    obtain ⟨rfl, t1, t2, t3, t4, rfl⟩ := hpost
    refine ⟨y, List.mem_range.mp hy, hp, ?_⟩
    have hd : decide ((R.length : Int) < (c : Int)) = true := decide_eq_true (by omega)
    have hr : rgD 0 65536 = (List.range 65536).map eN := rgD0 65536
    have ht : (65536 : Int).toNat = 65536 := rfl
    simp only [eN_s, eL] at ha hm hc hf
    simp! only [M_next_seed, eN_s, eL, hc, hi, hl2, hm, ha, fSF_i (c1 _), c1, hd, r1, hr, ht, hf]
  · rw [if_neg hlt]
    have hd : decide ((R.length : Int) < (c : Int)) = false := decide_eq_false (by omega)
    have hr : rgD 0 0 = [] := rfl
    simp only [eN_s, eL] at ha hm hc
    simp! only [M_next_seed, eN_s, eL, hc, hi, hl2, hm, ha, fSF_i (c1 _), c1, hd, r0, hr, Int.toNat_zero]
/-! sets_of -/
def nxt (row : List Nat) : Nat := match row.getLast? with
  | none => 0
  | some z => z + 1
def setS (n : Nat) (found : List (List Nat)) : List (List Nat) := found.flatMap fun row => (List.range' (nxt row) (n - nxt row)).map fun k => row ++ [k]
def sets (n : Nat) : Nat → List (List Nat)
  | 0 => [[]]
  | k + 1 => setS n (sets n k)
abbrev eT (l : List Nat) : D := .tup (l.map eN)
theorem setS_len (n : Nat) : ∀ (found : List (List Nat)), (setS n found).length ≤ found.length * n
  | [] => by simp [setS]
  | r :: l => by
    have ih := setS_len n l
    have e : setS n (r :: l) = ((List.range' (nxt r) (n - nxt r)).map fun k => r ++ [k]) ++ setS n l := by unfold setS; rw [List.flatMap_cons]
    rw [e, List.length_append, List.length_map, List.length_range', List.length_cons, Nat.add_mul, Nat.one_mul]
    omega
theorem sets_len (n : Nat) : ∀ k, (sets n k).length ≤ n ^ k
  | 0 => Nat.le_refl _
  | k + 1 => Nat.le_trans (setS_len n _) (by rw [Nat.pow_succ]; exact Nat.mul_le_mul_right _ (sets_len n k))
theorem rgD_nat (lo n : Nat) : rgD (lo : Int) n = (List.range' lo n).map eN := by
  unfold rgD
  rw [List.range'_eq_map_range, List.map_map]
  refine List.map_congr_left fun i _ => ?_
  show D.int _ = D.int ((lo + i : Nat) : Int)
  rw [Int.natCast_add]
theorem lt_last (row : List Nat) : row.map eN = [] ∨ ∃ z, row.getLast? = some z ∧ atI (row.map eN) (-1) = some (eN z) := by
  rcases List.eq_nil_or_concat row with rfl | ⟨l, z, rfl⟩
  · exact .inl rfl
  · refine .inr ⟨z, by simp, ?_⟩
    rw [List.concat_eq_append, List.map_append]
    exact atI_last _ _
theorem m_sets (n k : Nat) (h0 : 1 ≤ n) (hn : n ≤ 100) (hk : k ≤ 10) (hb : n ^ k ≤ 1000000) : M_sets_of aS [.im (eN n), .im (eN k)] = some (.ow .fresh (.ob (.lst ((sets n k).map eT))), [.im (eN n), .im (eN k)]) := by
  have hmono : ∀ i, i ≤ k → (sets n i).length ≤ 1000000 := fun i hi => Nat.le_trans (sets_len n i) (Nat.le_trans (Nat.pow_le_pow_right (by omega) hi) hb)
  have hlen : ∀ i, ∀ r ∈ sets n i, r.length = i := fun i => by
    induction i with
    | zero => intro r hr; simp [sets] at hr; rw [hr]; rfl
    | succ i ih =>
      intro r hr
      show r.length = i + 1
      unfold sets setS at hr
      simp only [List.mem_flatMap, List.mem_map] at hr
      obtain ⟨q, hq, z, _, rfl⟩ := hr
      rw [List.length_append, ih q hq]; rfl
  have hbnd : ∀ i, ∀ r ∈ sets n i, ∀ x ∈ r, x < n := fun i => by
    induction i with
    | zero => intro r hr; simp [sets] at hr; rw [hr]; intro x hx; cases hx
    | succ i ih =>
      intro r hr
      unfold sets setS at hr
      simp only [List.mem_flatMap, List.mem_map] at hr
      obtain ⟨q, hq, z, hz, rfl⟩ := hr
      intro x hx
      rcases List.mem_append.mp hx with hx | hx
      · exact ih q hq x hx
      · rw [List.mem_singleton] at hx
        rw [List.mem_range'_1] at hz
        omega
  have loop := goForF_ind (g := fgName 3) (r := fSet 2 (fLc2 [4, 5] [5] (fSeqI (fVar 2)) (fgName 4) fYes (fRg2 (faCons (fIf (fTruT (fVar 4)) (fPlusE (fIxE true (fVar 4) (fNeg (fK (.int 1)))) (fK (.int 1))) (fK (.int 0))) (faCons (fVar 0) faNil))) (fgName 5) fYes (fPlusE (fVar 4) (fTup (faCons (fVar 5) faNil)))))
    (fun i δ => ∃ z, δ = [.im (eN n), .im (eN k), .ow .fresh (.ob (.lst ((sets n i).map eT))), z, .un, .un]) ((List.range k).map eN) 0 ⟨.un, rfl⟩ (by
    rintro i y xs δ hy ⟨z, rfl⟩
    rw [Nat.zero_add] at *
    have hik : i < k := by have := (List.getElem?_eq_some_iff.mp hy).1; simpa using this
    rw [List.getElem?_map] at hy
    obtain ⟨i', hk', rfl⟩ := Option.map_eq_some_iff.mp hy
    have hS : (setS n (sets n i)).length ≤ 1000000 := hmono (i + 1) hik
    have key := lc2F_flatMap (vs := [4, 5]) (vs1 := [5]) (g := fgName 4) (t := fYes) (fi := fRg2 (faCons (fIf (fTruT (fVar 4)) (fPlusE (fIxE true (fVar 4) (fNeg (fK (.int 1)))) (fK (.int 1))) (fK (.int 0))) (faCons (fVar 0) faNil))) (g1 := fgName 5) (t1 := fYes) (fe := fPlusE (fVar 4) (fTup (faCons (fVar 5) faNil))) eT
      (fun row => ((List.range' (nxt row) (n - nxt row)).map fun j => row ++ [j]).map eT) (δ := [.im (eN n), .im (eN k), .vl .non, .im (eN i'), .un, .un]) 1000000 (sets n i) [] (by
        have e : ((sets n i).flatMap fun row => ((List.range' (nxt row) (n - nxt row)).map fun j => row ++ [j]).map eT) = (setS n (sets n i)).map eT := by unfold setS; rw [List.map_flatMap]
        rw [e]; simpa using hS) (by
      intro row hrow xs acc hacc
      have hrl := hlen i row hrow
      have inner := lcF_map (vs := [5]) (g := fgName 5) (ft := fYes) (fe := fPlusE (fVar 4) (fTup (faCons (fVar 5) faNil))) eN (fun j => eT (row ++ [j])) (δ := [.im (eN n), .im (eN k), .vl .non, .im (eN i'), .im (eT row), .un]) (List.range' (nxt row) (n - nxt row)) acc (fun j _ xs acc => by
        have hz : (row.length + 1 ≤ sizeLine) = True := eq_true (Nat.le_trans (show _ ≤ 1000 by omega) (by decide))
        simp! only [eN_s, eT, hz, List.map_append])
      rw [List.length_map, List.length_map, List.length_range'] at hacc
      have hsz : acc.length + (n - nxt row) ≤ sizeLine := Nat.le_trans hacc (by decide)
      have hr : rgD (nxt row : Nat) (((n : Nat) : Int) - ((nxt row : Nat) : Int)).toNat = (List.range' (nxt row) (n - nxt row)).map eN := by
        rw [show (((n : Nat) : Int) - ((nxt row : Nat) : Int)).toNat = n - nxt row by omega]
        exact rgD_nat _ _
      have b1 : -(2 ^ 62) ≤ ((n : Nat) : Int) ∧ ((n : Nat) : Int) < 2 ^ 62 := by omega
      have e9 : ((List.range' (nxt row) (n - nxt row)).map fun j => row ++ [j]).map eT = (List.range' (nxt row) (n - nxt row)).map fun j => eT (row ++ [j]) := by rw [List.map_map]; rfl
      rw [e9]
      have hrl2 : ((List.range' (nxt row) (n - nxt row)).map eN).length = n - nxt row := by rw [List.length_map, List.length_range']
      simp only [eN_s, eT] at inner
      rcases lt_last row with h | ⟨z, hz, hat⟩
      · have hrow0 : row = [] := by simpa using h
        subst hrow0
        have hn0 : nxt [] = 0 := rfl
        simp only [hn0, List.map_nil, List.nil_append, List.map_cons, eN_s] at inner hsz hacc hrl2
        have hr' : rgD 0 (((n : Nat) : Int) - 0).toNat = (List.range' 0 (n - 0)).map eN := hr
        have b0 : -(2 ^ 62) ≤ (0 : Int) ∧ (0 : Int) < 2 ^ 62 := by decide
        simp! only [lc2F_c, eN_s, eT, List.isEmpty_nil, b0, b1, hr', hn0, hrl2, hsz, List.length_range', inner]
      · have hnx : nxt row = z + 1 := by unfold nxt; rw [hz]
        have hem : (row.map eN).isEmpty = false := by
          cases row with
          | nil => cases hz
          | cons a l => rfl
        have hzi : (z : Int) + 1 = ((nxt row : Nat) : Int) := by rw [hnx]; omega
        have b0 : -(2 ^ 62) ≤ ((nxt row : Nat) : Int) ∧ ((nxt row : Nat) : Int) < 2 ^ 62 := by
          have := hbnd i row hrow z (List.mem_of_getLast? hz)
          omega
        have hat' : atI (row.map eN) (-1) = some (.int (z : Int)) := hat
        simp! only [lc2F_c, eN_s, eT, hem, hat', hzi, b0, b1, hr, hrl2, hsz, List.length_range', inner])
    have e : ((sets n i).flatMap fun row => ((List.range' (nxt row) (n - nxt row)).map fun j => row ++ [j]).map eT) = (setS n (sets n i)).map eT := by unfold setS; rw [List.map_flatMap]
    rw [e, List.nil_append] at key
    refine ⟨[.im (eN n), .im (eN k), .ow .fresh (.ob (.lst ((sets n (i + 1)).map eT))), .im (eN i'), .un, .un], ?_, _, rfl⟩
    show _ = goForF _ _ xs [.im (eN n), .im (eN k), .ow .fresh (.ob (.lst ((setS n (sets n i)).map eT))), .im (eN i'), .un, .un]
    simp only [eN_s, eT] at key
    simp! only [goForF_c, eN_s, eT, fLc2_s, key, bkF_g])
  obtain ⟨δ', h1, z, rfl⟩ := loop
  rw [List.length_map, List.length_range, Nat.zero_add] at h1
  have b1 : -(2 ^ 62) ≤ ((k : Nat) : Int) ∧ ((k : Nat) : Int) < 2 ^ 62 := by omega
  have hr : rgD 0 k = (List.range k).map eN := rgD0 k
  have h0 : (sets n 0).map eT = [D.tup []] := rfl
  rw [h0] at h1
  simp only [eN_s] at h1
  simp! only [M_sets_of, eN_s, b1, hr, h1]
end K22
end
section
set_option Elab.async false
set_option linter.all false
set_option maxRecDepth 100000
set_option maxHeartbeats 1000000
namespace DL
theorem lcF_ind {vs : List Nat} {g : FG} {t : FT} {fe : FE} (Inv : Nat → List D → Env → Prop) : ∀ (ys : List D) (j : Nat) {acc : List D} {δ : Env}, Inv j acc δ → (∀ i y xs acc δ, ys[i]? = some y → Inv (j + i) acc δ → ∃ acc' δ', lcF vs g t fe (y :: xs) acc δ = lcF vs g t fe xs acc' δ' ∧ Inv (j + i + 1) acc' δ') →
    ∃ acc' δ', lcF vs g t fe ys acc δ = some (acc', δ') ∧ Inv (j + ys.length) acc' δ'
  | [], j, acc, δ, h0, _ => ⟨acc, δ, rfl, h0⟩
  | y :: ys, j, acc, δ, h0, h => by
    obtain ⟨acc1, δ1, e1, i1⟩ := h 0 y ys acc δ rfl h0
    obtain ⟨acc2, δ2, e2, i2⟩ := lcF_ind Inv ys (j + 1) i1 fun i z xs acc δ hz hi => by
      have := h (i + 1) z xs acc δ (by simpa using hz) (by rw [show j + (i + 1) = j + 1 + i by omega]; exact hi)
      rwa [show j + (i + 1) + 1 = j + 1 + i + 1 by omega] at this
    exact ⟨acc2, δ2, by rw [e1, e2], by rw [List.length_cons, show j + (ys.length + 1) = j + 1 + ys.length by omega]; exact i2⟩
theorem fGet2_s {q : Bool} {fa fb fc : FE} {δ : Env} : fGet2 q fa fb fc δ = (fa δ).bind fun p => (keepF q p.1 p.2).bind fun p' => if isDctF (vw p'.2 p'.1) = true then (fb p'.2).bind fun a => (asImF a.1 a.2).bind fun b => (fc b.2).bind fun a' => (asImF a'.1 a'.2).bind fun b' => (gGet (vw b'.2 p'.1) b.1 b'.1).bind fun d => some (.im d, b'.2) else none := rfl
theorem isDctF_k {kvs : List (L2.Key × D)} : isDctF (some (.dK kvs)) = true := rfl
theorem gGet_k {kvs : List (L2.Key × D)} {i z : D} : gGet (some (.dK kvs)) i z = i.key.bind fun j => some ((kval kvs j).getD z) := rfl
end DL
namespace K22
open PySem L2 DL
local macro_rules | `(tactic| simp! only [$as,*]) => `(tactic| simp -implicitDefEqProofs only [$as,*, DL.fK_s, DL.fVar_s, DL.varSF_im, DL.varSF_ow, DL.asImF_im, DL.asImF_tm, DL.asImF_vr, DL.imOF_l, DL.imSF_im, DL.imSF_l, DL.some_bindF, DL.f1_s, DL.f2_s, DL.f2v_s, DL.fOp_s, DL.oI_s, DL.oI0_s, DL.oB0_s, DL.oEq_s, DL.oNe_s, DL.fV_s, DL.vw_im, DL.vw_tm, DL.vw_vr, DL.vw_at, DL.vwS_im, DL.vwS_ow, DL.toD_l, DL.toD_k, DL.toD_t, DL.gLen_l, DL.gLen_wl, DL.gLen_tup, DL.gLen_dK, DL.gSum_l, DL.gBs_l, DL.gAnyI_l, DL.gInt_i, DL.gInt_b, DL.gIsN_n, DL.gIsN_i, DL.gIsN_l, DL.gIsN_tup, DL.gIsN_s, DL.gIsN_b, DL.fVL_s, DL.gList_l, DL.gList_wl, DL.gList_tup, DL.gRev_l, DL.gTupl_l, DL.gTupl_t, DL.fTruT_s, DL.gTru_n, DL.gTru_b, DL.gTru_i, DL.gTru_l, DL.gTru_tup, DL.fAnd_s, DL.fOr_s, DL.fNot_s, DL.fIf_s, DL.fAndV_s, DL.fOrV_s, DL.fNotV_s, DL.onBlF_b, DL.fChain_s, DL.fTst_s, DL.blXF_b, DL.gIx_l, DL.gIx_wl, DL.gIx_tup, DL.gIx_dK, DL.gIx_dT, DL.keepF_im, DL.keepF_vr, DL.keepF_at, DL.keepF_tm, DL.fIxE_s, DL.fInE_s, DL.gIn_l, DL.gIn_tup, DL.gIn_dK, DL.gIn_dT, DL.fPlusE_s, DL.gPlus_i, DL.gPlus_l, DL.gPlus_t, DL.gPlus_s, DL.fTimesE_s, DL.gTimes_i, DL.gTimes_l, DL.faNil_s, DL.faCons_s, DL.fTup_s, DL.fLst_s, DL.fNewK_s, DL.fNewT_s, DL.foNo_s, DL.foAt_s, DL.onIntF_i, DL.fSlE_s, DL.gSl_l, DL.gSl_t, DL.fBits_s, DL.fNeg_s, DL.fMin2_s, DL.fMax2_s, DL.onPairF_i, DL.callF_s, DL.fCall_s, DL.resF_im, DL.resF_ow, DL.fvNil_s, DL.fvIm_s, DL.fvLn_s, DL.agF_im, DL.agF_vr, DL.fCallL_s, DL.callRF_s, DL.lendF_n, DL.lendF_i, DL.lendF_v, DL.lendSF_o, DL.lendSF_i, DL.joinF_n, DL.joinF_i, DL.joinF_o, DL.backF_n, DL.backF_i, DL.backF_vi, DL.backF_vo, DL.argS_n, DL.argS_i, DL.argS_o, DL.fMt_s, DL.staysB_v, DL.staysB_a, DL.okB_l, DL.okB_k, DL.okB_t, DL.obAt_v, DL.obAt_a, DL.obV_o, DL.obI_i, DL.obF_o, DL.setOb_v, DL.setOb_a, DL.setV_o, DL.setI_o, DL.gAppend_s, DL.gPop_s, DL.gPopAt_s, DL.gReverse_s, DL.gExtend_s, DL.fNext_s, DL.next_n, DL.next_r, DL.next_b, DL.next_c, DL.fSeq_s, DL.fBreak_s, DL.fCont_s, DL.fNever_s, DL.fDrop_s, DL.fIfS_s, DL.fRet_s, DL.retF_i, DL.retF_t, DL.retF_v, DL.retSF_i, DL.retSF_o, DL.fRetN_s, DL.fSet_s, DL.setF_t, DL.setF_i, DL.setF_v, DL.fgName_s, DL.fgNil_s, DL.fgCons_s, DL.fgTup_t, DL.fAsg_s, DL.fPar_s, DL.two_s, DL.fAug_s, DL.isImB_i, DL.augF_s, DL.fSub_s, DL.gPut_l, DL.gPut_k, DL.gPut_t, DL.fSeqI_s, DL.seqF_l, DL.seqF_wl, DL.seqF_t, DL.seqF_o, DL.seqF_v, DL.seqSlF_o, DL.fRg1_s, DL.fRg2_s, DL.fEnum_s, DL.fZip_s, DL.zipXs_l, DL.zipXs_t, DL.fFor_s, DL.finFor_n, DL.finFor_r, DL.finFor_g, DL.bkF_n, DL.bkF_g, DL.fLc_s, DL.fLc2_s, DL.fYes_s, DL.runB_s, DL.endF_n, DL.endF_r, DL.finF_n, DL.finF_i, DL.finF_o, DL.wipeE_n, DL.wipeE_c, DL.restE_n, DL.restE_c, DL.noOw_n, DL.noOw_c, DL.noOwS_u, DL.noOwS_i, DL.lcF_n, DL.lcF_c, DL.goForF_n, DL.goForF_c, DL.contF_n, DL.contF_c, DL.contF_b, DL.contF_r, DL.key_i, DL.key_s, DL.fItL_s, DL.dkOf_s, DL.fFld_s, DL.fXF_v, DL.fXF_d, DL.fXF_t, DL.vwAt_i, DL.vwF_s, DL.fvD_i, DL.fvD_o, DL.obD_k, DL.obD_l, DL.fSetF_s, DL.setFXF_d, DL.setFXF_o, DL.fMeth_s, DL.mXF_v, DL.mXF_d, DL.fMake_s, DL.mkRF_s, DL.mkXF_s, DL.fForItemsF_s, DL.fForItems_s, DL.plJ_a, DL.plJ_v, DL.itGF_s, DL.goItF_n, DL.goItF_c, DL.contI_n, DL.isVl_v, DL.bkF_v, DL.plusSub_1, DL.sl_0, DL.sl_1, DL.sl_2, DL.sl_3, DL.sl_4, DL.sl_5, DL.sl_6, DL.sl_7, DL.sl_8, DL.sl_9, DL.sx_0, DL.sx_1, DL.sx_2, DL.sx_3, DL.sx_4, DL.sx_5, DL.sx_6, DL.sx_7, DL.sx_8, DL.sx_9, List.getElem?_cons_zero, List.getElem?_cons_succ, List.set_cons_zero, List.set_cons_succ, List.nil_append, List.cons_append, List.append_nil, List.map_cons, List.map_nil, List.length_cons, List.length_nil, List.replicate_succ, List.replicate_zero, DL.ok_int, DL.eqv_int, DL.ok_bl, if_true, Bool.false_eq_true, if_false, true_and, and_true, and_self, List.length_map, Option.bind_none, Nat.zero_add, Option.getD_some, Bool.and_true, Bool.true_and, decide_eq_true_eq, Bool.not_true, Bool.not_false, ite_true, ite_false, Nat.reduceAdd, Int.reduceAdd, Nat.reduceEqDiff, eq_self, reduceIte, id_eq, Int.toNat_natCast, DL.ok_li, DL.ok_ti, DL.eqv_li, DL.eqv_ti, DL.ok_non, Nat.zero_le, decide_true, decide_false])
variable {aS : Addr}
def left (seeds places : List Nat) : List Nat := seeds.zipIdx.filterMap fun p => if places.contains p.2 then none else some p.1
theorem any_eN (places : List Nat) (i : Nat) : (places.map eN).any (fun z => z.eqv (.int (i : Int))) = places.contains i := by
  rw [List.any_map, List.contains_eq_any_beq]
  congr 1
  funext z
  show (eN z).eqv (.int (i : Int)) = _
  rw [eN_s, eqv_int]
  by_cases h : z = i
  · subst h; simp
  · have : ¬ ((z : Int) = i) := by omega
    have h' : ¬ i = z := fun e => h e.symm
    simp [this, h']
theorem flat_eN (places : List Nat) : (places.map eN).all D.flat = true := by simp [List.all_map]; intro x _; rfl
theorem left_len (seeds places : List Nat) : (left seeds places).length ≤ seeds.length := by
  unfold left
  exact Nat.le_trans (List.length_filterMap_le _ _) (by simp)
theorem left_mem {seeds places : List Nat} {s : Nat} (h : s ∈ left seeds places) : s ∈ seeds := by
  unfold left at h
  obtain ⟨p, hp, h⟩ := List.mem_filterMap.mp h
  split at h
  · cases h
  · cases h; exact List.fst_mem_of_mem_zipIdx hp
theorem m_loss (c : Nat) (seeds : List Nat) (ls : Nat) (h1 : 1 ≤ c) (h2 : c ≤ 24) (h3 : ∀ s ∈ seeds, s < 65536) (h0 : 1 ≤ seeds.length) (hl : seeds.length ≤ 20) (hls : ls ≤ seeds.length) (hl3 : ls ≤ 3) :
    (∃ p ∈ sets seeds.length ls, rk c (left seeds p) < c ∧ M_loss_against aS [.im (eN c), .im (eL seeds), .im (eN ls)] = some (.im (eT p), [.im (eN c), .im (eL seeds), .im (eN ls)])) ∨
    ((∀ p ∈ sets seeds.length ls, ¬ rk c (left seeds p) < c) ∧ M_loss_against aS [.im (eN c), .im (eL seeds), .im (eN ls)] = some (.im .non, [.im (eN c), .im (eL seeds), .im (eN ls)])) := by
  have hs := m_sets (aS := aS) seeds.length ls h0 (by omega) (by omega) (Nat.le_trans (Nat.pow_le_pow_left hl ls) (Nat.le_trans (Nat.pow_le_pow_right (by omega) hl3) (by decide)))
  have hk := m_lack (aS := aS) c seeds h1 h2 h3 (by omega)
  have comp : ∀ (p : List Nat) (tl : List Slot), lcF [4, 5] (fgTup 2 (fgCons (fgName 4) (fgCons (fgName 5) fgNil))) (fTst (fInE Bool.not (fVar 4) (fVar 3))) (fVar 5) (enumD 0 (seeds.map eN)) [] [.im (eN c), .im (eL seeds), .im (eN ls), .im (eT p), .un, .un] = some ((left seeds p).map eN, [.im (eN c), .im (eL seeds), .im (eN ls), .im (eT p), .un, .un]) := fun p _ => by
    have := lcF_filterMap (vs := [4, 5]) (g := fgTup 2 (fgCons (fgName 4) (fgCons (fgName 5) fgNil))) (ft := fTst (fInE Bool.not (fVar 4) (fVar 3))) (fe := fVar 5) (fun q : Nat × Nat => D.tup [.int (q.2 : Nat), eN q.1]) (fun q => if p.contains q.2 then none else some (eN q.1)) (δ := [.im (eN c), .im (eL seeds), .im (eN ls), .im (eT p), .un, .un]) (seeds.zipIdx 0) [] (fun q _ xs acc => by
      have f1 : (D.int (q.2 : Int)).flat = true := rfl
      by_cases hc : p.contains q.2 = true
      · rw [if_pos hc]
        simp! only [eN_s, eT, f1, flat_eN, any_eN, hc, Option.toList_none]
      · rw [if_neg hc]
        have hc : p.contains q.2 = false := by simpa using hc
        simp! only [eN_s, eT, f1, flat_eN, any_eN, hc, Option.toList_some])
    rw [← enumD_eq, List.nil_append] at this
    have e : (seeds.zipIdx 0).filterMap (fun q : Nat × Nat => if p.contains q.2 then none else some (eN q.1)) = (left seeds p).map eN := by
      unfold left
      rw [List.map_filterMap]
      refine congrArg (fun f => List.filterMap f seeds.zipIdx) (funext fun q => ?_)
      split <;> rfl
    rw [this, e]
  have turn : ∀ (p : List Nat), M_lack aS [.im (eN c), .im (eL (left seeds p))] = some (.im (.int ((c : Int) - rk c (left seeds p))), [.im (eN c), .im (eL (left seeds p))]) := fun p =>
    m_lack c _ h1 h2 (fun s hs => h3 s (left_mem hs)) (by have := left_len seeds p; omega)
  have hen : (enumD 0 (seeds.map eN)).length ≤ sizeLine := by rw [enumD_eq, List.length_map, List.length_zipIdx]; exact Nat.le_trans (show _ ≤ 1000 by omega) (by decide)
  have b0 : (0 : Int) ≤ ls := by omega
  have b1 : (ls : Int) ≤ seeds.length := by omega
  simp only [eN_s, eL, eT] at comp turn hk hs
  by_cases hex : ∃ p ∈ sets seeds.length ls, rk c (left seeds p) < c
  · left
    obtain ⟨p, hp, hpp, s, δ', hf, hpost⟩ := goForF_find (g := fgName 3) (r := fIfS (fTst (fOp oGt (fCall 2 (M_lack aS) (faCons (fVar 0) (faCons (fLc [4, 5] (fEnum (faCons (fVar 1) faNil)) (fgTup 2 (fgCons (fgName 4) (fgCons (fgName 5) fgNil))) (fTst (fInE Bool.not (fVar 4) (fVar 3))) (fVar 5)) faNil)) []) (fK (.int 0)))) (fRet (fVar 3)) fNext) eT
      (fun z : Slot => [.im (eN c), .im (eL seeds), .im (eN ls), z, .un, .un]) (fun p => rk c (left seeds p) < c) (fun p s δ' => s = .im (eT p) ∧ ∃ t1 t2 t3, δ' = [.im (eN c), .im (eL seeds), .im (eN ls), t1, t2, t3]) (sets seeds.length ls) .un hex
      (fun p hp hpp xs z => by
        have hd : decide ((0 : Int) < (c : Int) - rk c (left seeds p)) = true := decide_eq_true (by omega)
        refine ⟨.im (eT p), [.im (eN c), .im (eL seeds), .im (eN ls), .im (eT p), .un, .un], ?_, rfl, _, _, _, rfl⟩
        simp! only [goForF_c, eN_s, eT, eL, hen, comp p [], turn p, hd])
      (fun p hp hpp xs z => by
        have hd : decide ((0 : Int) < (c : Int) - rk c (left seeds p)) = false := decide_eq_false (by omega)
        refine ⟨.im (eT p), ?_⟩
        simp! only [goForF_c, eN_s, eT, eL, hen, comp p [], turn p, hd])
    obtain ⟨rfl, t1, t2, t3, rfl⟩ := hpost
    refine ⟨p, hp, hpp, ?_⟩
    simp only [eN_s, eL, eT] at hf
    simp! only [M_loss_against, eN_s, eL, eT, hk, hs, b0, b1, hf]
  · right
    have hall : ∀ p ∈ sets seeds.length ls, ¬ rk c (left seeds p) < c := fun p hp h => hex ⟨p, hp, h⟩
    obtain ⟨z, hf⟩ := goForF_fold (g := fgName 3) (r := fIfS (fTst (fOp oGt (fCall 2 (M_lack aS) (faCons (fVar 0) (faCons (fLc [4, 5] (fEnum (faCons (fVar 1) faNil)) (fgTup 2 (fgCons (fgName 4) (fgCons (fgName 5) fgNil))) (fTst (fInE Bool.not (fVar 4) (fVar 3))) (fVar 5)) faNil)) []) (fK (.int 0)))) (fRet (fVar 3)) fNext) eT
      (fun (_ : Unit) (z : Slot) => [.im (eN c), .im (eL seeds), .im (eN ls), z, .un, .un]) (fun _ _ => ()) (sets seeds.length ls) () .un
      (fun p hp xs _ z => by
        have hd : decide ((0 : Int) < (c : Int) - rk c (left seeds p)) = false := decide_eq_false (by have := hall p hp; omega)
        refine ⟨.im (eT p), ?_⟩
        simp! only [goForF_c, eN_s, eT, eL, hen, comp p [], turn p, hd])
    refine ⟨hall, ?_⟩
    simp only [eN_s, eL, eT] at hf
    simp! only [M_loss_against, eN_s, eL, eT, hk, hs, b0, b1, hf]
end K22
end
section
set_option Elab.async false
set_option linter.all false
set_option maxRecDepth 100000
set_option maxHeartbeats 1000000
namespace K22
open PySem L2 DL
local macro_rules | `(tactic| simp! only [$as,*]) => `(tactic| simp -implicitDefEqProofs only [$as,*, DL.fK_s, DL.fVar_s, DL.varSF_im, DL.varSF_ow, DL.asImF_im, DL.asImF_tm, DL.asImF_vr, DL.imOF_l, DL.imSF_im, DL.imSF_l, DL.some_bindF, DL.f1_s, DL.f2_s, DL.f2v_s, DL.fOp_s, DL.oI_s, DL.oI0_s, DL.oB0_s, DL.oEq_s, DL.oNe_s, DL.fV_s, DL.vw_im, DL.vw_tm, DL.vw_vr, DL.vw_at, DL.vwS_im, DL.vwS_ow, DL.toD_l, DL.toD_k, DL.toD_t, DL.gLen_l, DL.gLen_wl, DL.gLen_tup, DL.gLen_dK, DL.gSum_l, DL.gBs_l, DL.gAnyI_l, DL.gInt_i, DL.gInt_b, DL.gIsN_n, DL.gIsN_i, DL.gIsN_l, DL.gIsN_tup, DL.gIsN_s, DL.gIsN_b, DL.fVL_s, DL.gList_l, DL.gList_wl, DL.gList_tup, DL.gRev_l, DL.gTupl_l, DL.gTupl_t, DL.fTruT_s, DL.gTru_n, DL.gTru_b, DL.gTru_i, DL.gTru_l, DL.gTru_tup, DL.fAnd_s, DL.fOr_s, DL.fNot_s, DL.fIf_s, DL.fAndV_s, DL.fOrV_s, DL.fNotV_s, DL.onBlF_b, DL.fChain_s, DL.fTst_s, DL.blXF_b, DL.gIx_l, DL.gIx_wl, DL.gIx_tup, DL.gIx_dK, DL.gIx_dT, DL.keepF_im, DL.keepF_vr, DL.keepF_at, DL.keepF_tm, DL.fIxE_s, DL.fInE_s, DL.gIn_l, DL.gIn_tup, DL.gIn_dK, DL.gIn_dT, DL.fPlusE_s, DL.gPlus_i, DL.gPlus_l, DL.gPlus_t, DL.gPlus_s, DL.fTimesE_s, DL.gTimes_i, DL.gTimes_l, DL.faNil_s, DL.faCons_s, DL.fTup_s, DL.fLst_s, DL.fNewK_s, DL.fNewT_s, DL.foNo_s, DL.foAt_s, DL.onIntF_i, DL.fSlE_s, DL.gSl_l, DL.gSl_t, DL.fBits_s, DL.fNeg_s, DL.fMin2_s, DL.fMax2_s, DL.onPairF_i, DL.callF_s, DL.fCall_s, DL.resF_im, DL.resF_ow, DL.fvNil_s, DL.fvIm_s, DL.fvLn_s, DL.agF_im, DL.agF_vr, DL.fCallL_s, DL.callRF_s, DL.lendF_n, DL.lendF_i, DL.lendF_v, DL.lendSF_o, DL.lendSF_i, DL.joinF_n, DL.joinF_i, DL.joinF_o, DL.backF_n, DL.backF_i, DL.backF_vi, DL.backF_vo, DL.argS_n, DL.argS_i, DL.argS_o, DL.fMt_s, DL.staysB_v, DL.staysB_a, DL.okB_l, DL.okB_k, DL.okB_t, DL.obAt_v, DL.obAt_a, DL.obV_o, DL.obI_i, DL.obF_o, DL.setOb_v, DL.setOb_a, DL.setV_o, DL.setI_o, DL.gAppend_s, DL.gPop_s, DL.gPopAt_s, DL.gReverse_s, DL.gExtend_s, DL.fNext_s, DL.next_n, DL.next_r, DL.next_b, DL.next_c, DL.fSeq_s, DL.fBreak_s, DL.fCont_s, DL.fNever_s, DL.fDrop_s, DL.fIfS_s, DL.fRet_s, DL.retF_i, DL.retF_t, DL.retF_v, DL.retSF_i, DL.retSF_o, DL.fRetN_s, DL.fSet_s, DL.setF_t, DL.setF_i, DL.setF_v, DL.fgName_s, DL.fgNil_s, DL.fgCons_s, DL.fgTup_t, DL.fAsg_s, DL.fPar_s, DL.two_s, DL.fAug_s, DL.isImB_i, DL.augF_s, DL.fSub_s, DL.gPut_l, DL.gPut_k, DL.gPut_t, DL.fSeqI_s, DL.seqF_l, DL.seqF_wl, DL.seqF_t, DL.seqF_o, DL.seqF_v, DL.seqSlF_o, DL.fRg1_s, DL.fRg2_s, DL.fEnum_s, DL.fZip_s, DL.zipXs_l, DL.zipXs_t, DL.fFor_s, DL.finFor_n, DL.finFor_r, DL.finFor_g, DL.bkF_n, DL.bkF_g, DL.fLc_s, DL.fLc2_s, DL.fYes_s, DL.runB_s, DL.endF_n, DL.endF_r, DL.finF_n, DL.finF_i, DL.finF_o, DL.wipeE_n, DL.wipeE_c, DL.restE_n, DL.restE_c, DL.noOw_n, DL.noOw_c, DL.noOwS_u, DL.noOwS_i, DL.lcF_n, DL.lcF_c, DL.goForF_n, DL.goForF_c, DL.contF_n, DL.contF_c, DL.contF_b, DL.contF_r, DL.key_i, DL.key_s, DL.fItL_s, DL.dkOf_s, DL.fFld_s, DL.fXF_v, DL.fXF_d, DL.fXF_t, DL.vwAt_i, DL.vwF_s, DL.fvD_i, DL.fvD_o, DL.obD_k, DL.obD_l, DL.fSetF_s, DL.setFXF_d, DL.setFXF_o, DL.fMeth_s, DL.mXF_v, DL.mXF_d, DL.fMake_s, DL.mkRF_s, DL.mkXF_s, DL.fForItemsF_s, DL.fForItems_s, DL.plJ_a, DL.plJ_v, DL.itGF_s, DL.goItF_n, DL.goItF_c, DL.contI_n, DL.isVl_v, DL.bkF_v, DL.plusSub_1, DL.sl_0, DL.sl_1, DL.sl_2, DL.sl_3, DL.sl_4, DL.sl_5, DL.sl_6, DL.sl_7, DL.sl_8, DL.sl_9, DL.sx_0, DL.sx_1, DL.sx_2, DL.sx_3, DL.sx_4, DL.sx_5, DL.sx_6, DL.sx_7, DL.sx_8, DL.sx_9, List.getElem?_cons_zero, List.getElem?_cons_succ, List.set_cons_zero, List.set_cons_succ, List.nil_append, List.cons_append, List.append_nil, List.map_cons, List.map_nil, List.length_cons, List.length_nil, List.replicate_succ, List.replicate_zero, DL.ok_int, DL.eqv_int, DL.ok_bl, if_true, Bool.false_eq_true, if_false, true_and, and_true, and_self, List.length_map, Option.bind_none, Nat.zero_add, Option.getD_some, Bool.and_true, Bool.true_and, decide_eq_true_eq, Bool.not_true, Bool.not_false, ite_true, ite_false, Nat.reduceAdd, Int.reduceAdd, Nat.reduceEqDiff, eq_self, reduceIte, id_eq, Int.toNat_natCast, DL.ok_li, DL.ok_ti, DL.eqv_li, DL.eqv_ti, DL.ok_non, Nat.zero_le, decide_true, decide_false])
variable {aS : Addr}
theorem kval_rows (rows : List Row) (i : Nat) : kval (rows.map rowD) (.inl (i : Int)) = (rows.find? fun r => decide (r.1 = i)).map fun r => (rowD r).2 := by
  unfold kval
  rw [List.find?_map]
  have e : ((fun kv : Key × D => decide (kv.1 = Sum.inl (i : Int))) ∘ rowD) = fun r : Row => decide (r.1 = i) := funext fun r => by
    show decide ((Sum.inl (r.1 : Int) : Key) = Sum.inl (i : Int)) = _
    by_cases h : r.1 = i
    · subst h; simp
    · rw [decide_eq_false h, decide_eq_false (key_ne h)]
  rw [e, Option.map_map]
  rfl
def cell (rows : List Row) (i : Nat) : Option (List Nat) := match rows.find? fun r => decide (r.1 = i) with
  | some r => if r.2.1 = 2 ^ i then some r.2.2 else none
  | none => none
def oD (x : Option (List Nat)) : D := match x with
  | some o => eL o
  | none => .non
abbrev drD (p : Nat × List Nat) : D := .tup [eN p.1, eL p.2]
def Lof (c : Nat) (dr : List (Nat × List Nat)) : List (Nat × List Nat) := dr.map fun p => (mask c p.1, p.2)
theorem m_gath (c n : Nat) (dr : List (Nat × List Nat)) (h1 : 1 ≤ c) (h2 : c ≤ 24) (h3 : ∀ p ∈ dr, p.1 < 65536) (hn : ∀ p ∈ dr, p.2.length = n) (hn1 : n ≤ 1000) (hl : dr.length ≤ 400) (hok : ∀ i p, dr[i]? = some p → okA (rowsL (Lof c (dr.take i))) (mask c p.1) p.2 = true) :
    M_gathered_slices aS [.im (eN c), .im (.lst (dr.map drD))] = some (.ow .fresh (.ob (.lst ((List.range c).map fun i => oD (cell (rowsL (Lof c dr)) i)))), [.im (eN c), .im (.lst (dr.map drD))]) := by
  have hc := m_check (aS := aS) c h1 h2
  have hl2 : dr.length ≤ sizeLine := Nat.le_trans hl (by decide)
  have c1 : ∀ (z : Int) (kv : List (Key × D)), List.lookup ("rows" : Str) (fsS z kv) = some (.ob (.dK kv)) := fun _ _ => rfl
  have hlk : ∀ (z : Int) (kv : List (Key × D)), (List.lookup ("add" : Str) (fsS z kv)).isNone = true := fun _ _ => rfl
  -- the masks
  have km := lcF_map (vs := [3, 4]) (g := fgTup 2 (fgCons (fgName 3) (fgCons (fgName 4) fgNil))) (ft := fYes) (fe := fCall 2 (M_mask_of aS) (faCons (fVar 0) (faCons (fVar 3) faNil)) []) drD (fun p => eN (mask c p.1)) (δ := [.im (eN c), .im (.lst (dr.map drD)), .un, .un, .un, .un, .un, .un, .un, .un, .un]) dr [] (fun p hp xs acc => by
    have hm := m_mask (aS := aS) c p.1 h1 h2 (h3 p hp)
    simp only [eN_s] at hm
    simp! only [eN_s, eL, drD, hm])
  have km' : dr.map (fun p => eN (mask c p.1)) = ((Lof c dr).map (·.1)).map eN := by unfold Lof; rw [List.map_map, List.map_map]; rfl
  rw [km', List.nil_append] at km
  -- the lengths
  obtain ⟨m, hm0, hm1⟩ : ∃ m : Nat, (∀ p ∈ dr, p.2.length = m) ∧ (fIf (fTruT (fVar 1)) (fV gLen (fIxE true (fIxE true (fVar 1) (fK (.int 0))) (fK (.int 1)))) (fK (.int 0))) [.im (eN c), .im (.lst (dr.map drD)), .ow .fresh (.ob (.lst (((Lof c dr).map (·.1)).map eN))), .un, .un, .un, .un, .un, .un, .un, .un] = some (.im (eN m), [.im (eN c), .im (.lst (dr.map drD)), .ow .fresh (.ob (.lst (((Lof c dr).map (·.1)).map eN))), .un, .un, .un, .un, .un, .un, .un, .un]) := by
    cases dr with
    | nil =>
      refine ⟨0, fun p hp => (by cases hp), ?_⟩
      simp! only [List.isEmpty_nil, eN_s]
      rfl
    | cons p l =>
      refine ⟨n, hn, ?_⟩
      have e1 : ((p :: l).map drD).isEmpty = false := rfl
      have e3 : atI [eN p.1, eL p.2] 1 = some (eL p.2) := atI_nat (j := 1) rfl
      have e4 : p.2.length = n := hn p (by simp)
      simp only [eN_s, eL] at e3
      have e2' : atI (D.tup [D.int ↑p.1, D.lst (p.2.map eN)] :: l.map drD) 0 = some (D.tup [D.int ↑p.1, D.lst (p.2.map eN)]) := atI_nat (j := 0) rfl
      simp! only [e1, e2', e3, e4, eN_s, eL, drD, List.isEmpty_cons]
  have ka := lcF_map (vs := [4, 6]) (g := fgTup 2 (fgCons (fgName 4) (fgCons (fgName 6) fgNil))) (ft := fYes) (fe := fOp oNe (fV gLen (fVar 6)) (fVar 5)) drD (fun _ => D.bl false) (δ := [.im (eN c), .im (.lst (dr.map drD)), .ow .fresh (.ob (.lst (((Lof c dr).map (·.1)).map eN))), .un, .un, .im (eN m), .un, .un, .un, .un, .un]) dr [] (fun p hp xs acc => by
    have e4 : p.2.length = m := hm0 p hp
    simp! only [e4, eN_s, eL, drD])
  have ka' : (dr.map fun _ => D.bl false) = (dr.map fun _ => false).map D.bl := by rw [List.map_map]; rfl
  have ka2 : (dr.map fun _ => false).any id = false := by simp
  rw [ka', List.nil_append] at ka
  have hi := m_init (aS := aS) (m : Int)
  -- taken in
  obtain ⟨acc', δ', k1, k2, k3⟩ := lcF_ind (vs := [8, 4, 6]) (g := fgTup 2 (fgCons (fgName 8) (fgCons (fgTup 2 (fgCons (fgName 4) (fgCons (fgName 6) fgNil))) fgNil))) (t := fYes) (fe := fMeth aS "add" 3 (M_Sums_add aS) (fVar 7) (fvIm (fVar 8) (fvIm (fVar 6) fvNil)) [])
    (fun i acc δ => acc = (List.replicate i true).map D.bl ∧ δ = [.im (eN c), .im (.lst (dr.map drD)), .im (.lst (((Lof c dr).map (·.1)).map eN)), .un, .un, .im (eN m), .un, .ow .fresh (.ins aS (fsS m ((rowsL (Lof c (dr.take i))).map rowD))), .un, .un, .un]) (zipD (((Lof c dr).map (·.1)).map eN) (dr.map drD)) 0 ⟨rfl, rfl⟩ (by
    rintro i y xs acc δ hy ⟨rfl, rfl⟩
    rw [Nat.zero_add] at *
    rw [zipD_eq, List.getElem?_map] at hy
    obtain ⟨⟨q, p⟩, hq, rfl⟩ := Option.map_eq_some_iff.mp hy
    rw [List.getElem?_zip_eq_some] at hq
    obtain ⟨hq1, hq2⟩ := hq
    have hqe : q = mask c p.1 := by
      unfold Lof at hq1
      rw [List.map_map, List.getElem?_map, hq2] at hq1
      simpa using hq1.symm
    subst hqe
    have ek : Lof c (dr.take (i + 1)) = Lof c (dr.take i) ++ [(mask c p.1, p.2)] := by unfold Lof; rw [List.take_succ, hq2]; simp
    obtain ⟨j, l⟩ := rowsL_J (Lof c (dr.take i))
    have w := rowsL_W (Lof c (dr.take i)) (fun r hr => by
      obtain ⟨x, hx, rfl⟩ := List.mem_map.mp hr
      have := hn x (List.mem_of_mem_take hx)
      show x.2.length ≤ 1000
      omega)
    have ha := m_addJ (aS := aS) j w m (mask c p.1) p.2 (by
      have : (Lof c (dr.take i)).length ≤ dr.length := by unfold Lof; simp; omega
      omega)
    rw [hok i p hq2] at ha
    refine ⟨_, _, ?_, rfl, rfl⟩
    rw [ek, rowsL_app]
    simp only [eN_s, eL] at ha
    simp! only [eN_s, eL, drD, mSF_i (hlk _ _), ha, List.replicate_succ', List.map_append])
  have hzl : (zipD (((Lof c dr).map (·.1)).map eN) (dr.map drD)).length = dr.length := by rw [zip_len]; unfold Lof; simp
  rw [Nat.zero_add, hzl] at k2 k3
  rw [List.take_length] at k3
  subst k2 k3
  have kal : (List.replicate dr.length true).all id = true := by simp
  -- what is found
  generalize rowsL (Lof c dr) = R at k1 ⊢
  obtain ⟨δ', kf, z1, z2, z3, rfl⟩ := goForF_ind (g := fgName 10) (r := (fSeq (fAsg (fGet2 true (fFld aS "rows" (fVar 7)) (fVar 10) (fTup (faCons (fK (.int 0)) (faCons (fK .non) faNil)))) (fgTup 2 (fgCons (fgName 8) (fgCons (fgName 6) fgNil))))
      (fDrop (fMt .lst gAppend true (fVar 9) (faCons (fIf (fTst (fOp oEq (fVar 8) (fShlI (fK (.int 1)) (fVar 10)))) (fVar 6) (fK .non)) faNil)))))
    (fun i δ => ∃ z1 z2 z3, δ = [.im (eN c), .im (.lst (dr.map drD)), .im (.lst (((Lof c dr).map (·.1)).map eN)), .un, .un, .im (eN m), z1, .ow .fresh (.ins aS (fsS m (R.map rowD))), z2, .ow .fresh (.ob (.lst ((List.range i).map fun i => oD (cell R i)))), z3]) ((List.range c).map eN) 0 ⟨.un, .un, .un, rfl⟩ (by
    rintro i y xs δ hy ⟨z1, z2, z3, rfl⟩
    rw [Nat.zero_add] at *
    have hic : i < c := by have := (List.getElem?_eq_some_iff.mp hy).1; simpa using this
    rw [List.getElem?_map, List.getElem?_range hic] at hy
    cases hy
    have b1 : CPow 1 (i : Int) := ⟨by omega, by omega, by decide⟩
    have b2 : (1 : Int) * 2 ^ i = ((2 ^ i : Nat) : Int) := by rw [Int.one_mul]; exact (Int.natCast_pow 2 i).symm
    have b3 : ((List.range i).map fun i => oD (cell R i)).length < sizeLine := by rw [List.length_map, List.length_range]; exact Nat.lt_of_lt_of_le (show i < 1000 by omega) (by decide)
    rw [List.length_map] at b3
    have hk := kval_rows R i
    have hce : cell R i = match R.find? fun r => decide (r.1 = i) with
      | some r => if r.2.1 = 2 ^ i then some r.2.2 else none
      | none => none := rfl
    rw [List.range_succ, List.map_append, List.map_cons, List.map_nil]
    cases hf : R.find? fun r => decide (r.1 = i) with
    | none =>
      rw [hf] at hk hce
      have b4 : decide ((0 : Int) = ((2 ^ i : Nat) : Int)) = false := decide_eq_false (by have := Nat.two_pow_pos i; omega)
      refine ⟨_, ?_, .im .non, .im (.int 0), .im (eN i), rfl⟩
      rw [hce]
      have hk' : kval (R.map rowD) (Sum.inl (i : Int)) = none := hk
      simp! only [goForF_c, eN_s, fGet2_s, c1, fSF_i (c1 _ _), isDctF_k, gGet_k, hk', Option.getD_none, b1, b2, b3, b4, oD]
    | some r =>
      rw [hf] at hk hce
      have hk' : kval (R.map rowD) (Sum.inl (i : Int)) = some (.tup [eN r.2.1, eL r.2.2]) := hk
      by_cases hr : r.2.1 = 2 ^ i
      · have b4 : decide ((r.2.1 : Int) = ((2 ^ i : Nat) : Int)) = true := decide_eq_true (by rw [hr])
        refine ⟨_, ?_, .im (eL r.2.2), .im (eN r.2.1), .im (eN i), rfl⟩
        rw [hce]
        dsimp only
        rw [if_pos hr]
        simp only [eN_s, eL] at hk'
        simp! only [goForF_c, eN_s, eL, fGet2_s, c1, fSF_i (c1 _ _), isDctF_k, gGet_k, hk', b1, b2, b3, b4, oD]
      · have b4 : decide ((r.2.1 : Int) = ((2 ^ i : Nat) : Int)) = false := decide_eq_false (by intro h; exact hr (by omega))
        refine ⟨_, ?_, .im (eL r.2.2), .im (eN r.2.1), .im (eN i), rfl⟩
        rw [hce]
        dsimp only
        rw [if_neg hr]
        simp only [eN_s, eL] at hk'
        simp! only [goForF_c, eN_s, eL, fGet2_s, c1, fSF_i (c1 _ _), isDctF_k, gGet_k, hk', b1, b2, b3, b4, oD])
  rw [List.length_map, List.length_range, Nat.zero_add] at kf
  have b5 : -(2 ^ 62) ≤ (c : Int) ∧ (c : Int) < 2 ^ 62 := by omega
  have hr : rgD 0 c = (List.range c).map eN := rgD0 c
  have hz2 : (zipD (((Lof c dr).map (·.1)).map eN) (dr.map drD)).length ≤ sizeLine := by rw [hzl]; exact hl2
  unfold M_gathered_slices
  generalize (fIf (fTruT (fVar 1)) (fV gLen (fIxE true (fIxE true (fVar 1) (fK (.int 0))) (fK (.int 1)))) (fK (.int 0))) = E at hm1 ⊢
  have r0 : (rowsL (Lof c (dr.take 0))).map rowD = [] := rfl
  simp only [eN_s, List.range_zero, List.map_nil, List.replicate_zero, r0] at hc hm1 km ka k1 kf hi
  simp! only [eN_s, hc, hl2, km, hm1, ka, bls_map, ka2, hi, hz2, k1, kal, b5, hr, kf]
end K22
end
section
set_option Elab.async false
set_option linter.all false
set_option maxRecDepth 100000
set_option maxHeartbeats 1000000
namespace K22
open PySem L2 DL
local macro_rules | `(tactic| simp! only [$as,*]) => `(tactic| simp -implicitDefEqProofs only [$as,*, DL.fK_s, DL.fVar_s, DL.varSF_im, DL.varSF_ow, DL.asImF_im, DL.asImF_tm, DL.asImF_vr, DL.imOF_l, DL.imSF_im, DL.imSF_l, DL.some_bindF, DL.f1_s, DL.f2_s, DL.f2v_s, DL.fOp_s, DL.oI_s, DL.oI0_s, DL.oB0_s, DL.oEq_s, DL.oNe_s, DL.fV_s, DL.vw_im, DL.vw_tm, DL.vw_vr, DL.vw_at, DL.vwS_im, DL.vwS_ow, DL.toD_l, DL.toD_k, DL.toD_t, DL.gLen_l, DL.gLen_wl, DL.gLen_tup, DL.gLen_dK, DL.gSum_l, DL.gBs_l, DL.gAnyI_l, DL.gInt_i, DL.gInt_b, DL.gIsN_n, DL.gIsN_i, DL.gIsN_l, DL.gIsN_tup, DL.gIsN_s, DL.gIsN_b, DL.fVL_s, DL.gList_l, DL.gList_wl, DL.gList_tup, DL.gRev_l, DL.gTupl_l, DL.gTupl_t, DL.fTruT_s, DL.gTru_n, DL.gTru_b, DL.gTru_i, DL.gTru_l, DL.gTru_tup, DL.fAnd_s, DL.fOr_s, DL.fNot_s, DL.fIf_s, DL.fAndV_s, DL.fOrV_s, DL.fNotV_s, DL.onBlF_b, DL.fChain_s, DL.fTst_s, DL.blXF_b, DL.gIx_l, DL.gIx_wl, DL.gIx_tup, DL.gIx_dK, DL.gIx_dT, DL.keepF_im, DL.keepF_vr, DL.keepF_at, DL.keepF_tm, DL.fIxE_s, DL.fInE_s, DL.gIn_l, DL.gIn_tup, DL.gIn_dK, DL.gIn_dT, DL.fPlusE_s, DL.gPlus_i, DL.gPlus_l, DL.gPlus_t, DL.gPlus_s, DL.fTimesE_s, DL.gTimes_i, DL.gTimes_l, DL.faNil_s, DL.faCons_s, DL.fTup_s, DL.fLst_s, DL.fNewK_s, DL.fNewT_s, DL.foNo_s, DL.foAt_s, DL.onIntF_i, DL.fSlE_s, DL.gSl_l, DL.gSl_t, DL.fBits_s, DL.fNeg_s, DL.fMin2_s, DL.fMax2_s, DL.onPairF_i, DL.callF_s, DL.fCall_s, DL.resF_im, DL.resF_ow, DL.fvNil_s, DL.fvIm_s, DL.fvLn_s, DL.agF_im, DL.agF_vr, DL.fCallL_s, DL.callRF_s, DL.lendF_n, DL.lendF_i, DL.lendF_v, DL.lendSF_o, DL.lendSF_i, DL.joinF_n, DL.joinF_i, DL.joinF_o, DL.backF_n, DL.backF_i, DL.backF_vi, DL.backF_vo, DL.argS_n, DL.argS_i, DL.argS_o, DL.fMt_s, DL.staysB_v, DL.staysB_a, DL.okB_l, DL.okB_k, DL.okB_t, DL.obAt_v, DL.obAt_a, DL.obV_o, DL.obI_i, DL.obF_o, DL.setOb_v, DL.setOb_a, DL.setV_o, DL.setI_o, DL.gAppend_s, DL.gPop_s, DL.gPopAt_s, DL.gReverse_s, DL.gExtend_s, DL.fNext_s, DL.next_n, DL.next_r, DL.next_b, DL.next_c, DL.fSeq_s, DL.fBreak_s, DL.fCont_s, DL.fNever_s, DL.fDrop_s, DL.fIfS_s, DL.fRet_s, DL.retF_i, DL.retF_t, DL.retF_v, DL.retSF_i, DL.retSF_o, DL.fRetN_s, DL.fSet_s, DL.setF_t, DL.setF_i, DL.setF_v, DL.fgName_s, DL.fgNil_s, DL.fgCons_s, DL.fgTup_t, DL.fAsg_s, DL.fPar_s, DL.two_s, DL.fAug_s, DL.isImB_i, DL.augF_s, DL.fSub_s, DL.gPut_l, DL.gPut_k, DL.gPut_t, DL.fSeqI_s, DL.seqF_l, DL.seqF_wl, DL.seqF_t, DL.seqF_o, DL.seqF_v, DL.seqSlF_o, DL.fRg1_s, DL.fRg2_s, DL.fEnum_s, DL.fZip_s, DL.zipXs_l, DL.zipXs_t, DL.fFor_s, DL.finFor_n, DL.finFor_r, DL.finFor_g, DL.bkF_n, DL.bkF_g, DL.fLc_s, DL.fLc2_s, DL.fYes_s, DL.runB_s, DL.endF_n, DL.endF_r, DL.finF_n, DL.finF_i, DL.finF_o, DL.wipeE_n, DL.wipeE_c, DL.restE_n, DL.restE_c, DL.noOw_n, DL.noOw_c, DL.noOwS_u, DL.noOwS_i, DL.lcF_n, DL.lcF_c, DL.goForF_n, DL.goForF_c, DL.contF_n, DL.contF_c, DL.contF_b, DL.contF_r, DL.key_i, DL.key_s, DL.fItL_s, DL.dkOf_s, DL.fFld_s, DL.fXF_v, DL.fXF_d, DL.fXF_t, DL.vwAt_i, DL.vwF_s, DL.fvD_i, DL.fvD_o, DL.obD_k, DL.obD_l, DL.fSetF_s, DL.setFXF_d, DL.setFXF_o, DL.fMeth_s, DL.mXF_v, DL.mXF_d, DL.fMake_s, DL.mkRF_s, DL.mkXF_s, DL.fForItemsF_s, DL.fForItems_s, DL.plJ_a, DL.plJ_v, DL.itGF_s, DL.goItF_n, DL.goItF_c, DL.contI_n, DL.isVl_v, DL.bkF_v, DL.plusSub_1, DL.sl_0, DL.sl_1, DL.sl_2, DL.sl_3, DL.sl_4, DL.sl_5, DL.sl_6, DL.sl_7, DL.sl_8, DL.sl_9, DL.sx_0, DL.sx_1, DL.sx_2, DL.sx_3, DL.sx_4, DL.sx_5, DL.sx_6, DL.sx_7, DL.sx_8, DL.sx_9, List.getElem?_cons_zero, List.getElem?_cons_succ, List.set_cons_zero, List.set_cons_succ, List.nil_append, List.cons_append, List.append_nil, List.map_cons, List.map_nil, List.length_cons, List.length_nil, List.replicate_succ, List.replicate_zero, DL.ok_int, DL.eqv_int, DL.ok_bl, if_true, Bool.false_eq_true, if_false, true_and, and_true, and_self, List.length_map, Option.bind_none, Nat.zero_add, Option.getD_some, Bool.and_true, Bool.true_and, decide_eq_true_eq, Bool.not_true, Bool.not_false, ite_true, ite_false, Nat.reduceAdd, Int.reduceAdd, Nat.reduceEqDiff, eq_self, reduceIte, id_eq, Int.toNat_natCast, DL.ok_li, DL.ok_ti, DL.eqv_li, DL.eqv_ti, DL.ok_non, Nat.zero_le, decide_true, decide_false])
def ent (sl : List (List Nat)) (i j : Nat) : Nat := (sl.getD i []).getD j 0
def phi (sl : List (List Nat)) (n v : Nat) : List Nat := (List.range n).map fun j => xs ((List.range sl.length).map fun i => if v.testBit i then ent sl i j else 0)
theorem phi_len (sl : List (List Nat)) (n v : Nat) : (phi sl n v).length = n := by unfold phi; simp
theorem xs_xor {α : Type} (f g : α → Nat) : ∀ l : List α, xs (l.map fun i => f i ^^^ g i) = xs (l.map f) ^^^ xs (l.map g)
  | [] => by simp [xs]
  | a :: l => by
    simp only [List.map_cons, xs, xs_xor f g l]
    generalize f a = p; generalize g a = q; generalize xs (l.map f) = r; generalize xs (l.map g) = s
    rw [Nat.xor_assoc, Nat.xor_assoc, ← Nat.xor_assoc q r s, Nat.xor_comm q r, Nat.xor_assoc r q s]
theorem xorL_map {α : Type} (f g : α → Nat) (l : List α) : xorL (l.map f) (l.map g) = l.map fun i => f i ^^^ g i := by
  unfold xorL
  rw [List.zipWith_map_left, List.zipWith_map_right, List.zipWith_self]
theorem phi_xor (sl : List (List Nat)) (n v w : Nat) : phi sl n (v ^^^ w) = xorL (phi sl n v) (phi sl n w) := by
  unfold phi
  rw [xorL_map]
  refine List.map_congr_left fun j _ => ?_
  rw [← xs_xor]
  congr 1
  refine List.map_congr_left fun i _ => ?_
  rw [Nat.testBit_xor]
  cases v.testBit i <;> cases w.testBit i <;> simp
theorem xs_zero {α : Type} (f : α → Nat) : ∀ l : List α, (∀ a ∈ l, f a = 0) → xs (l.map f) = 0
  | [], _ => rfl
  | a :: l, h => by simp only [List.map_cons, xs, h a (by simp), xs_zero f l fun b hb => h b (by simp [hb])]; rfl
theorem phi_zero (sl : List (List Nat)) (n : Nat) : phi sl n 0 = List.replicate n 0 := by
  unfold phi
  rw [List.eq_replicate_iff]
  refine ⟨by simp, fun b hb => ?_⟩
  obtain ⟨j, _, rfl⟩ := List.mem_map.mp hb
  exact xs_zero _ _ fun i _ => by simp
/-- the rows' octets are sums of slices -/
def K (sl : List (List Nat)) (n : Nat) (rows : List Row) : Prop := ∀ r ∈ rows, r.2.2 = phi sl n r.2.1
theorem red_phi {sl : List (List Nat)} {n : Nat} : ∀ {rows : List Row} {m : Nat} {o : List Nat}, K sl n rows → o = phi sl n m → (red rows m o).2 = phi sl n (red rows m o).1
  | [], m, o, _, h => h
  | r :: l, m, o, k, h => by
    show (red l (redS (m, o) r).1 (redS (m, o) r).2).2 = phi sl n (red l (redS (m, o) r).1 (redS (m, o) r).2).1
    refine red_phi (fun q hq => k q (by simp [hq])) ?_
    unfold redS
    dsimp only
    split
    · show xorL o r.2.2 = phi sl n (m ^^^ r.2.1)
      rw [phi_xor, h, k r (by simp)]
    · exact h
theorem K.add {sl : List (List Nat)} {n : Nat} {rows : List Row} (k : K sl n rows) {m : Nat} {o : List Nat} (h : o = phi sl n m) : K sl n (addR rows m o) ∧ okA rows m o = true := by
  have hr := red_phi k h
  refine ⟨?_, ?_⟩
  · unfold addR
    split
    · exact k
    · intro r hr2
      rcases List.mem_append.mp hr2 with hr2 | hr2
      · obtain ⟨t, ht, rfl⟩ := List.mem_map.mp hr2
        unfold upd
        split
        · show xorL t.2.2 _ = phi sl n (t.2.1 ^^^ _)
          rw [phi_xor, ← hr, k t ht]
        · exact k t ht
      · rw [List.mem_singleton] at hr2; rw [hr2]; exact hr
  · unfold okA
    split
    · rename_i h0
      rw [hr, h0, phi_zero]
      simp
    · rfl
theorem rowsL_K {sl : List (List Nat)} {n : Nat} (L : List (Nat × List Nat)) (h : ∀ p ∈ L, p.2 = phi sl n p.1) : K sl n (rowsL L) := by
  revert h
  refine revInd (p := fun L => (∀ p ∈ L, p.2 = phi sl n p.1) → K sl n (rowsL L)) (fun _ r hr => by cases hr) (fun L p ih h => ?_) L
  rw [rowsL_app]
  exact ((ih fun q hq => h q (by simp [hq])).add (h p (by simp))).1
/-! droplets are sums -/
theorem xs_fold (f : Nat → Nat) : ∀ (l : List Nat) (a : Nat), l.foldl (fun acc i => acc ^^^ f i) a = a ^^^ xs (l.map f)
  | [], a => by simp [xs]
  | i :: l, a => by rw [List.foldl_cons, xs_fold f l, List.map_cons, xs, Nat.xor_assoc]
theorem getD_map_range (l : List Nat) {n : Nat} (h : l.length = n) : l = (List.range n).map fun j => l.getD j 0 := by
  refine List.ext_getElem (by simp [h]) fun i h1 h2 => ?_
  simp [List.getD_eq_getElem?_getD, List.getElem?_eq_getElem h1]
theorem drop_fold {sl : List (List Nat)} {n : Nat} (hr : ∀ r ∈ sl, r.length = n) : ∀ (l : List Nat) (a : Nat → Nat), (∀ i ∈ l, i < sl.length) → l.foldl (fun acc i => xorL acc (sl.getD i [])) ((List.range n).map a) = (List.range n).map fun j => l.foldl (fun acc i => acc ^^^ ent sl i j) (a j)
  | [], a, _ => rfl
  | i :: l, a, hi => by
    have h1 : (sl.getD i []).length = n := by
      have := hi i (by simp)
      rw [List.getD_eq_getElem?_getD, List.getElem?_eq_getElem this]
      exact hr _ (List.getElem_mem this)
    rw [List.foldl_cons]
    conv => lhs; rw [getD_map_range _ h1]
    rw [xorL_map, drop_fold hr l _ fun j hj => hi j (by simp [hj])]
    rfl
theorem xs_filter (f : Nat → Nat) (p : Nat → Bool) : ∀ l : List Nat, xs (l.map fun i => if p i then f i else 0) = xs ((l.filter p).map f)
  | [] => rfl
  | a :: l => by
    by_cases h : p a = true
    · simp only [List.map_cons, xs, List.filter_cons, h, if_true, xs_filter f p l]
    · simp only [List.map_cons, xs, List.filter_cons, h, if_false, xs_filter f p l, Nat.zero_xor]; simp
theorem sorted_eq {a b : List Nat} (ha : a.Pairwise (· < ·)) (hb : b.Pairwise (· < ·)) (h : ∀ x, x ∈ a ↔ x ∈ b) : a = b := by
  induction a generalizing b with
  | nil => cases b with
    | nil => rfl
    | cons y b => exact absurd ((h y).mpr (by simp)) (by simp)
  | cons x a ih => cases b with
    | nil => exact absurd ((h x).mp (by simp)) (by simp)
    | cons y b =>
      rw [List.pairwise_cons] at ha hb
      have hxy : x = y := by
        have h1 := (h x).mp (by simp)
        have h2 := (h y).mpr (by simp)
        rcases List.mem_cons.mp h1 with e | h1
        · exact e
        · rcases List.mem_cons.mp h2 with e | h2
          · exact e.symm
          · have := hb.1 x h1; have := ha.1 y h2; omega
      subst hxy
      rw [ih ha.2 hb.2 fun z => ?_]
      have hz := h z
      simp only [List.mem_cons] at hz
      constructor
      · intro q
        have := ha.1 z q
        rcases hz.mp (.inr q) with e | e
        · omega
        · exact e
      · intro q
        have := hb.1 z q
        rcases hz.mpr (.inr q) with e | e
        · omega
        · exact e
theorem sum_bits : ∀ (l : List Nat) (k : Nat), l.Pairwise (· < ·) → ((l.map fun i => 2 ^ i).sum).testBit k = decide (k ∈ l) ∧ ∀ b, (∀ i ∈ l, i < b) → (l.map fun i => 2 ^ i).sum < 2 ^ b := by
  intro l
  refine revInd (p := fun l => ∀ (k : Nat), l.Pairwise (· < ·) → ((l.map fun i => 2 ^ i).sum).testBit k = decide (k ∈ l) ∧ ∀ b, (∀ i ∈ l, i < b) → (l.map fun i => 2 ^ i).sum < 2 ^ b) (fun k _ => ⟨by simp, fun b _ => by simp; exact Nat.two_pow_pos b⟩) (fun l i ih k hp => ?_) l
  rw [List.pairwise_append] at hp
  have hlt : ∀ j ∈ l, j < i := fun j hj => hp.2.2 j hj i (by simp)
  have hs : (l.map fun i => 2 ^ i).sum < 2 ^ i := (ih k hp.1).2 i hlt
  have e : ((l ++ [i]).map fun i => 2 ^ i).sum = 2 ^ i + (l.map fun i => 2 ^ i).sum := by simp; omega
  rw [e]
  refine ⟨?_, fun b hb => ?_⟩
  · rcases Nat.lt_trichotomy k i with h | h | h
    · rw [Nat.testBit_two_pow_add_gt h, (ih k hp.1).1]
      have : ¬ k = i := by omega
      simp [this]
    · subst h
      rw [Nat.testBit_two_pow_add_eq, Nat.testBit_lt_two_pow hs]
      simp
    · rw [Nat.testBit_lt_two_pow (x := 2 ^ i + _) (Nat.lt_of_lt_of_le (show _ < 2 ^ (i + 1) by rw [Nat.pow_succ]; omega) (Nat.pow_le_pow_right (by omega) h))]
      have h1 : ¬ k = i := by omega
      have h2 : k ∉ l := fun hk => by have := hlt k hk; omega
      simp [h1, h2]
  · have hib : i < b := hb i (by simp)
    exact Nat.lt_of_lt_of_le (show _ < 2 ^ (i + 1) by rw [Nat.pow_succ]; omega) (Nat.pow_le_pow_right (by omega) hib)
theorem mask_bit {c s : Nat} (hc : 1 ≤ c) (k : Nat) : (mask c s).testBit k = decide (k ∈ dset c s) := (sum_bits _ k (dset_mem hc).2.2).1
theorem mask_lt {c s : Nat} (hc : 1 ≤ c) : mask c s < 2 ^ c := (sum_bits _ 0 (dset_mem hc).2.2).2 c (dset_mem hc).1
theorem range_sorted (n : Nat) : (List.range n).Pairwise (· < ·) := List.pairwise_lt_range
theorem drop_phi {sl : List (List Nat)} {n : Nat} (h1 : 1 ≤ sl.length) (hr : ∀ r ∈ sl, r.length = n) (s : Nat) : drop sl s = phi sl n (mask sl.length s) := by
  obtain ⟨g1, g2, g3⟩ := dset_mem (s := s) h1
  have h0 : (sl.getD 0 []).length = n := by cases sl with
    | nil => simp at h1
    | cons r l => exact hr r (by simp)
  unfold drop phi
  rw [h0]
  have e : List.replicate n 0 = (List.range n).map fun _ => 0 := by rw [List.map_const', List.length_range]
  rw [e, drop_fold hr _ _ g1]
  refine List.map_congr_left fun j _ => ?_
  rw [xs_fold, Nat.zero_xor, xs_filter]
  congr 1
  congr 1
  refine sorted_eq g3 ((range_sorted _).filter _) fun x => ?_
  rw [List.mem_filter, List.mem_range, mask_bit h1]
  constructor
  · intro h; exact ⟨g1 x h, by simpa using h⟩
  · intro h; simpa using h.2
theorem drop_len' {sl : List (List Nat)} {n : Nat} (h1 : 1 ≤ sl.length) (hr : ∀ r ∈ sl, r.length = n) (s : Nat) : (drop sl s).length = n := by rw [drop_phi h1 hr, phi_len]
theorem phi_unit {sl : List (List Nat)} {n : Nat} (hr : ∀ r ∈ sl, r.length = n) {i : Nat} (hi : i < sl.length) : phi sl n (2 ^ i) = sl.getD i [] := by
  have h1 : (sl.getD i []).length = n := by
    rw [List.getD_eq_getElem?_getD, List.getElem?_eq_getElem hi]; exact hr _ (List.getElem_mem hi)
  rw [getD_map_range _ h1]
  unfold phi
  refine List.map_congr_left fun j _ => ?_
  rw [xs_filter]
  have : (List.range sl.length).filter (fun k => (2 ^ i).testBit k) = [i] := by
    refine sorted_eq ((range_sorted _).filter _) (List.pairwise_singleton _ _) fun x => ?_
    rw [List.mem_filter, List.mem_range, Nat.testBit_two_pow, List.mem_singleton]
    constructor
    · intro h; have := of_decide_eq_true h.2; omega
    · intro h; subst h; exact ⟨hi, by simp⟩
  rw [this]
  simp [xs, ent]
/-! adding slices, bending one -/
def bothL (sl ot : List (List Nat)) : List (List Nat) := List.zipWith xorL sl ot
theorem both_ok {sl ot : List (List Nat)} {n : Nat} (h1 : 1 ≤ sl.length) (hl : ot.length = sl.length) (hr : ∀ r ∈ sl, r.length = n) (hr2 : ∀ r ∈ ot, r.length = n) (s : Nat) : drop (bothL sl ot) s = xorL (drop sl s) (drop ot s) := by
  have hb : (bothL sl ot).length = sl.length := by unfold bothL; rw [List.length_zipWith]; omega
  have get : ∀ i, i < sl.length → (bothL sl ot).getD i [] = xorL (sl.getD i []) (ot.getD i []) := fun i hi => by
    unfold bothL
    simp [List.getD_eq_getElem?_getD, List.getElem?_zipWith, List.getElem?_eq_getElem hi, List.getElem?_eq_getElem (show i < ot.length by omega)]
  have len : ∀ (l : List (List Nat)), (∀ r ∈ l, r.length = n) → ∀ i, i < l.length → (l.getD i []).length = n := fun l h i hi => by
    rw [List.getD_eq_getElem?_getD, List.getElem?_eq_getElem hi]; exact h _ (List.getElem_mem hi)
  have hrb : ∀ r ∈ bothL sl ot, r.length = n := fun r hr3 => by
    obtain ⟨i, hi, rfl⟩ := List.mem_iff_getElem.mp hr3
    have := get i (by omega)
    rw [List.getD_eq_getElem?_getD, List.getElem?_eq_getElem hi] at this
    simp only [Option.getD_some] at this
    rw [this, xorL_len, len sl hr i (by omega), len ot hr2 i (by omega), Nat.min_self]
  rw [drop_phi (n := n) (by omega) hrb, drop_phi h1 hr, drop_phi (n := n) (by omega) hr2, hb, hl]
  unfold phi
  rw [xorL_map, hb, hl]
  refine List.map_congr_left fun j hj => ?_
  rw [List.mem_range] at hj
  rw [← xs_xor]
  congr 1
  refine List.map_congr_left fun i hi => ?_
  rw [List.mem_range] at hi
  have e : ent (bothL sl ot) i j = ent sl i j ^^^ ent ot i j := by
    unfold ent
    rw [get i hi]
    unfold xorL
    have l1 := len sl hr i hi
    have l2 := len ot hr2 i (by omega)
    simp only [List.getD_eq_getElem?_getD, List.getElem?_zipWith] at *
    rw [List.getElem?_eq_getElem (show j < (sl[i]?.getD []).length by omega), List.getElem?_eq_getElem (show j < (ot[i]?.getD []).length by omega)]
    rfl
  rw [e]
  split <;> simp
end K22
end
section
set_option Elab.async false
set_option linter.all false
set_option maxRecDepth 100000
set_option maxHeartbeats 1000000
namespace K22
open PySem L2 DL
local macro_rules | `(tactic| simp! only [$as,*]) => `(tactic| simp -implicitDefEqProofs only [$as,*, DL.fK_s, DL.fVar_s, DL.varSF_im, DL.varSF_ow, DL.asImF_im, DL.asImF_tm, DL.asImF_vr, DL.imOF_l, DL.imSF_im, DL.imSF_l, DL.some_bindF, DL.f1_s, DL.f2_s, DL.f2v_s, DL.fOp_s, DL.oI_s, DL.oI0_s, DL.oB0_s, DL.oEq_s, DL.oNe_s, DL.fV_s, DL.vw_im, DL.vw_tm, DL.vw_vr, DL.vw_at, DL.vwS_im, DL.vwS_ow, DL.toD_l, DL.toD_k, DL.toD_t, DL.gLen_l, DL.gLen_wl, DL.gLen_tup, DL.gLen_dK, DL.gSum_l, DL.gBs_l, DL.gAnyI_l, DL.gInt_i, DL.gInt_b, DL.gIsN_n, DL.gIsN_i, DL.gIsN_l, DL.gIsN_tup, DL.gIsN_s, DL.gIsN_b, DL.fVL_s, DL.gList_l, DL.gList_wl, DL.gList_tup, DL.gRev_l, DL.gTupl_l, DL.gTupl_t, DL.fTruT_s, DL.gTru_n, DL.gTru_b, DL.gTru_i, DL.gTru_l, DL.gTru_tup, DL.fAnd_s, DL.fOr_s, DL.fNot_s, DL.fIf_s, DL.fAndV_s, DL.fOrV_s, DL.fNotV_s, DL.onBlF_b, DL.fChain_s, DL.fTst_s, DL.blXF_b, DL.gIx_l, DL.gIx_wl, DL.gIx_tup, DL.gIx_dK, DL.gIx_dT, DL.keepF_im, DL.keepF_vr, DL.keepF_at, DL.keepF_tm, DL.fIxE_s, DL.fInE_s, DL.gIn_l, DL.gIn_tup, DL.gIn_dK, DL.gIn_dT, DL.fPlusE_s, DL.gPlus_i, DL.gPlus_l, DL.gPlus_t, DL.gPlus_s, DL.fTimesE_s, DL.gTimes_i, DL.gTimes_l, DL.faNil_s, DL.faCons_s, DL.fTup_s, DL.fLst_s, DL.fNewK_s, DL.fNewT_s, DL.foNo_s, DL.foAt_s, DL.onIntF_i, DL.fSlE_s, DL.gSl_l, DL.gSl_t, DL.fBits_s, DL.fNeg_s, DL.fMin2_s, DL.fMax2_s, DL.onPairF_i, DL.callF_s, DL.fCall_s, DL.resF_im, DL.resF_ow, DL.fvNil_s, DL.fvIm_s, DL.fvLn_s, DL.agF_im, DL.agF_vr, DL.fCallL_s, DL.callRF_s, DL.lendF_n, DL.lendF_i, DL.lendF_v, DL.lendSF_o, DL.lendSF_i, DL.joinF_n, DL.joinF_i, DL.joinF_o, DL.backF_n, DL.backF_i, DL.backF_vi, DL.backF_vo, DL.argS_n, DL.argS_i, DL.argS_o, DL.fMt_s, DL.staysB_v, DL.staysB_a, DL.okB_l, DL.okB_k, DL.okB_t, DL.obAt_v, DL.obAt_a, DL.obV_o, DL.obI_i, DL.obF_o, DL.setOb_v, DL.setOb_a, DL.setV_o, DL.setI_o, DL.gAppend_s, DL.gPop_s, DL.gPopAt_s, DL.gReverse_s, DL.gExtend_s, DL.fNext_s, DL.next_n, DL.next_r, DL.next_b, DL.next_c, DL.fSeq_s, DL.fBreak_s, DL.fCont_s, DL.fNever_s, DL.fDrop_s, DL.fIfS_s, DL.fRet_s, DL.retF_i, DL.retF_t, DL.retF_v, DL.retSF_i, DL.retSF_o, DL.fRetN_s, DL.fSet_s, DL.setF_t, DL.setF_i, DL.setF_v, DL.fgName_s, DL.fgNil_s, DL.fgCons_s, DL.fgTup_t, DL.fAsg_s, DL.fPar_s, DL.two_s, DL.fAug_s, DL.isImB_i, DL.augF_s, DL.fSub_s, DL.gPut_l, DL.gPut_k, DL.gPut_t, DL.fSeqI_s, DL.seqF_l, DL.seqF_wl, DL.seqF_t, DL.seqF_o, DL.seqF_v, DL.seqSlF_o, DL.fRg1_s, DL.fRg2_s, DL.fEnum_s, DL.fZip_s, DL.zipXs_l, DL.zipXs_t, DL.fFor_s, DL.finFor_n, DL.finFor_r, DL.finFor_g, DL.bkF_n, DL.bkF_g, DL.fLc_s, DL.fLc2_s, DL.fYes_s, DL.runB_s, DL.endF_n, DL.endF_r, DL.finF_n, DL.finF_i, DL.finF_o, DL.wipeE_n, DL.wipeE_c, DL.restE_n, DL.restE_c, DL.noOw_n, DL.noOw_c, DL.noOwS_u, DL.noOwS_i, DL.lcF_n, DL.lcF_c, DL.goForF_n, DL.goForF_c, DL.contF_n, DL.contF_c, DL.contF_b, DL.contF_r, DL.key_i, DL.key_s, DL.fItL_s, DL.dkOf_s, DL.fFld_s, DL.fXF_v, DL.fXF_d, DL.fXF_t, DL.vwAt_i, DL.vwF_s, DL.fvD_i, DL.fvD_o, DL.obD_k, DL.obD_l, DL.fSetF_s, DL.setFXF_d, DL.setFXF_o, DL.fMeth_s, DL.mXF_v, DL.mXF_d, DL.fMake_s, DL.mkRF_s, DL.mkXF_s, DL.fForItemsF_s, DL.fForItems_s, DL.plJ_a, DL.plJ_v, DL.itGF_s, DL.goItF_n, DL.goItF_c, DL.contI_n, DL.isVl_v, DL.bkF_v, DL.plusSub_1, DL.sl_0, DL.sl_1, DL.sl_2, DL.sl_3, DL.sl_4, DL.sl_5, DL.sl_6, DL.sl_7, DL.sl_8, DL.sl_9, DL.sx_0, DL.sx_1, DL.sx_2, DL.sx_3, DL.sx_4, DL.sx_5, DL.sx_6, DL.sx_7, DL.sx_8, DL.sx_9, List.getElem?_cons_zero, List.getElem?_cons_succ, List.set_cons_zero, List.set_cons_succ, List.nil_append, List.cons_append, List.append_nil, List.map_cons, List.map_nil, List.length_cons, List.length_nil, List.replicate_succ, List.replicate_zero, DL.ok_int, DL.eqv_int, DL.ok_bl, if_true, Bool.false_eq_true, if_false, true_and, and_true, and_self, List.length_map, Option.bind_none, Nat.zero_add, Option.getD_some, Bool.and_true, Bool.true_and, decide_eq_true_eq, Bool.not_true, Bool.not_false, ite_true, ite_false, Nat.reduceAdd, Int.reduceAdd, Nat.reduceEqDiff, eq_self, reduceIte, id_eq, Int.toNat_natCast, DL.ok_li, DL.ok_ti, DL.eqv_li, DL.eqv_ti, DL.ok_non, Nat.zero_le, decide_true, decide_false])
def bentL (sl : List (List Nat)) (a n : Nat) : List (List Nat) := sl.set a (xorL (sl.getD a []) (List.replicate n 1))
theorem bent_ok {sl : List (List Nat)} {n a : Nat} (h1 : 1 ≤ sl.length) (hr : ∀ r ∈ sl, r.length = n) (ha : a < sl.length) (s : Nat) : drop (bentL sl a n) s = if a ∈ dset sl.length s then xorL (drop sl s) (List.replicate n 1) else drop sl s := by
  have hb : (bentL sl a n).length = sl.length := by unfold bentL; rw [List.length_set]
  have len : ∀ i, i < sl.length → (sl.getD i []).length = n := fun i hi => by
    rw [List.getD_eq_getElem?_getD, List.getElem?_eq_getElem hi]; exact hr _ (List.getElem_mem hi)
  have hrb : ∀ r ∈ bentL sl a n, r.length = n := fun r hr3 => by
    unfold bentL at hr3
    rcases List.mem_or_eq_of_mem_set hr3 with h | h
    · exact hr r h
    · rw [h, xorL_len, len a ha, List.length_replicate, Nat.min_self]
  have e1 : List.replicate n 1 = (List.range n).map fun _ => 1 := by rw [List.map_const', List.length_range]
  have he : ∀ i j, j < n → ent (bentL sl a n) i j = ent sl i j ^^^ (if i = a then 1 else 0) := fun i j hj => by
    unfold ent bentL
    by_cases hi : i = a
    · subst hi
      rw [if_pos rfl]
      simp only [List.getD_eq_getElem?_getD, List.getElem?_set_self ha, Option.getD_some]
      have l1 := len i ha
      rw [List.getD_eq_getElem?_getD] at l1
      unfold xorL
      rw [List.getElem?_zipWith, List.getElem?_eq_getElem (show j < (sl[i]?.getD []).length by omega), List.getElem?_eq_getElem (show j < (List.replicate n 1).length by simpa using hj)]
      simp
    · rw [if_neg hi]
      simp only [List.getD_eq_getElem?_getD, List.getElem?_set_ne (Ne.symm hi), Nat.xor_zero]
  have e2 : phi (bentL sl a n) n (mask sl.length s) = if a ∈ dset sl.length s then xorL (phi sl n (mask sl.length s)) (List.replicate n 1) else phi sl n (mask sl.length s) := by
    unfold phi
    rw [hb, e1, xorL_map]
    have key : ∀ j, j < n → xs ((List.range sl.length).map fun i => if (mask sl.length s).testBit i then ent (bentL sl a n) i j else 0) = xs ((List.range sl.length).map fun i => if (mask sl.length s).testBit i then ent sl i j else 0) ^^^ (if a ∈ dset sl.length s then 1 else 0) := fun j hj => by
      have e3 : ∀ i, (if (mask sl.length s).testBit i then ent (bentL sl a n) i j else 0) = (if (mask sl.length s).testBit i then ent sl i j else 0) ^^^ (if (fun k => decide (k = a) && (mask sl.length s).testBit k) i then 1 else 0) := fun i => by
        rw [he i j hj]
        by_cases hm : (mask sl.length s).testBit i = true
        · by_cases hi : i = a <;> simp [hm, hi]
          · subst hi; simp [hm]
        · simp [hm]
      simp only [e3]
      rw [xs_xor]
      congr 1
      rw [xs_filter (fun _ => 1) (fun k => decide (k = a) && (mask sl.length s).testBit k)]
      by_cases hd : a ∈ dset sl.length s
      · rw [if_pos hd]
        have : (List.range sl.length).filter (fun k => decide (k = a) && (mask sl.length s).testBit k) = [a] := by
          refine sorted_eq ((range_sorted _).filter _) (List.pairwise_singleton _ _) fun x => ?_
          rw [List.mem_filter, List.mem_range, List.mem_singleton, mask_bit h1]
          constructor
          · intro h; simp at h; exact h.2.1
          · intro h; subst h; simp [ha, hd]
        rw [this]; simp [xs]
      · rw [if_neg hd]
        have : (List.range sl.length).filter (fun k => decide (k = a) && (mask sl.length s).testBit k) = [] := by
          refine List.filter_eq_nil_iff.mpr fun x _ => ?_
          rw [mask_bit h1]
          intro h
          simp at h
          exact hd (h.1 ▸ h.2)
        rw [this]; rfl
    split
    · rename_i hd
      refine List.map_congr_left fun j hj => ?_
      rw [key j (List.mem_range.mp hj), if_pos hd]
    · rename_i hd
      refine List.map_congr_left fun j hj => ?_
      rw [key j (List.mem_range.mp hj), if_neg hd, Nat.xor_zero]
  rw [drop_phi (n := n) (by omega) hrb, drop_phi h1 hr, hb]
  exact e2
/-! ### ranks -/
def R0 (c : Nat) (seeds : List Nat) : List Row := rowsL (zp (seeds.map (mask c)))
abbrev ms (c : Nat) (seeds : List Nat) : List Nat := seeds.map (mask c)
theorem R0_J (c : Nat) (seeds : List Nat) : J (ms c seeds) (R0 c seeds) := by
  have := (rowsL_J (zp (seeds.map (mask c)))).1
  rwa [show (zp (seeds.map (mask c))).map (·.1) = seeds.map (mask c) by rw [List.map_map]; exact List.map_id _] at this
theorem J.rank {a b : List Nat} {ra rb : List Row} (ja : J a ra) (jb : J b rb) (h : ∀ m ∈ a, Sp b m) : ra.length ≤ rb.length := by
  have := rank_le ja.inv jb.inv (fun q hq => by
    obtain ⟨r, hr, rfl⟩ := List.mem_map.mp hq
    exact ((ja.sub r hr).trans h).trans jb.sup)
  simpa using this
theorem rk_mono {c : Nat} {a b : List Nat} (h : ∀ s ∈ a, s ∈ b) : rk c a ≤ rk c b := (R0_J c a).rank (R0_J c b) fun m hm => by
  obtain ⟨s, hs, rfl⟩ := List.mem_map.mp hm
  exact Sp.mem (List.mem_map_of_mem (h s hs))
theorem rk_app {c : Nat} (a : List Nat) (s : Nat) : rk c (a ++ [s]) = rk c a + (if redm ((R0 c a).map pr) (mask c s) = 0 then 0 else 1) := by
  have := ((R0_J c a).add (mask c s) []).2.1
  unfold rk
  rw [List.map_append, List.map_cons, List.map_nil]
  have e : zp (List.map (mask c) a ++ [mask c s]) = zp (List.map (mask c) a) ++ [(mask c s, [])] := by simp [zp]
  rw [e, rowsL_app]
  exact this
theorem rk_nil (c : Nat) : rk c [] = 0 := rfl
theorem leads {c : Nat} {b : List Nat} {rows : List Row} (j : J b rows) (hb : ∀ m ∈ b, m < 2 ^ c) : ∀ k ∈ rows.map (·.1), k < c := fun k hk => by
  obtain ⟨r, hr, rfl⟩ := List.mem_map.mp hk
  have h1 := (j.inv.top (pr r) (List.mem_map_of_mem hr)).1
  have h2 : r.2.1 < 2 ^ c := by
    obtain ⟨l, hl, e⟩ := j.sub r hr
    rw [← e]
    clear e
    induction l with
    | nil => exact Nat.two_pow_pos c
    | cons x l ih => exact Nat.xor_lt_two_pow (hb x (hl x (by simp))) (ih fun y hy => hl y (by simp [hy]))
  exact (Nat.pow_lt_pow_iff_right (by omega : 1 < 2)).mp (Nat.lt_of_le_of_lt (Nat.ge_two_pow_of_testBit h1) h2)
theorem ms_lt {c : Nat} (hc : 1 ≤ c) (a : List Nat) : ∀ m ∈ ms c a, m < 2 ^ c := fun m hm => by
  obtain ⟨s, _, rfl⟩ := List.mem_map.mp hm; exact mask_lt hc
theorem J.nd {b : List Nat} {rows : List Row} (j : J b rows) : (rows.map (·.1)).Nodup := by have := j.inv.nd; rwa [pr_fst] at this
theorem rk_le {c : Nat} (hc : 1 ≤ c) (a : List Nat) : rk c a ≤ c := by
  have j := R0_J c a
  have := nodup_le j.nd (b := List.range c) fun k hk => List.mem_range.mpr (leads j (ms_lt hc a) k hk)
  rw [List.length_map, List.length_range] at this
  exact this
theorem full {c : Nat} {b : List Nat} {rows : List Row} (j : J b rows) (hb : ∀ m ∈ b, m < 2 ^ c) (h : rows.length = c) (i : Nat) (hi : i < c) : ∃ r, rows.find? (fun r => decide (r.1 = i)) = some r ∧ r.2.1 = 2 ^ i := by
  have hall : ∀ k, k < c → k ∈ rows.map (·.1) := fun k hk => Classical.byContradiction fun hn => by
    have := nodup_le j.nd (b := (List.range c).erase k) fun x hx => (List.mem_erase_of_ne (fun e : x = k => hn (by rw [← e]; exact hx))).mpr (List.mem_range.mpr (leads j hb x hx))
    rw [List.length_erase_of_mem (List.mem_range.mpr hk), List.length_range, List.length_map] at this
    omega
  cases hf : rows.find? (fun r => decide (r.1 = i)) with
  | none =>
    obtain ⟨r, hr, e⟩ := List.mem_map.mp (hall i hi)
    have := List.find?_eq_none.mp hf r hr
    simp at this
    exact absurd e this
  | some r =>
    have hr := List.mem_of_find?_eq_some hf
    have he : r.1 = i := by have := List.find?_some hf; simpa using this
    refine ⟨r, rfl, Nat.eq_of_testBit_eq fun k => ?_⟩
    have ht := j.inv.top (pr r) (List.mem_map_of_mem hr)
    rw [Nat.testBit_two_pow]
    by_cases hk : i = k
    · subst hk
      have := ht.1
      rw [← he]
      simp
      exact this
    · rw [decide_eq_false hk]
      rcases Nat.lt_or_ge k c with hkc | hkc
      · obtain ⟨q, hq, eq⟩ := List.mem_map.mp (hall k hkc)
        have := j.inv.red (pr r) (List.mem_map_of_mem hr) (pr q) (List.mem_map_of_mem hq) (by show q.1 ≠ r.1; omega)
        have eq' : q.1 = k := eq
        show r.2.1.testBit k = false
        rw [← eq']
        exact this
      · have h2 : r.2.1 < 2 ^ (r.1 + 1) := ht.2
        exact Nat.testBit_lt_two_pow (Nat.lt_of_lt_of_le h2 (Nat.pow_le_pow_right (by omega) (by omega)))
theorem units : ∀ c, 1 ≤ c → c ≤ 7 → ∀ i, i < c → ∃ s, s < 65536 ∧ mask c s = 2 ^ i := by
  have h : ∀ c, c < 8 → ∀ i, i < c → ∃ s ∈ [0, 1, 2, 4, 11, 6, 25, 27, 40, 39], mask c s = 2 ^ i := by decide +kernel
  intro c _ h2 i hi
  obtain ⟨s, hs, e⟩ := h c (by omega) i hi
  refine ⟨s, ?_, e⟩
  simp at hs
  omega
theorem ex_seed {c : Nat} (h1 : 1 ≤ c) (h2 : c ≤ 7) (a : List Nat) (h : rk c a < c) : ∃ s, s < 65536 ∧ ¬ Sp (ms c a) (mask c s) := Classical.byContradiction fun hn => by
  have j := R0_J c a
  have hall : ∀ i, i < c → i ∈ (R0 c a).map (·.1) := fun i hi => by
    obtain ⟨s, hs, e⟩ := units c h1 h2 i hi
    have hsp : Sp (ms c a) (mask c s) := Classical.byContradiction fun q => hn ⟨s, hs, q⟩
    rw [e] at hsp
    have := sp_top j.inv (hsp.trans j.sup) (by have := Nat.two_pow_pos i; omega)
    rw [Nat.log2_two_pow, pr_fst] at this
    exact this
  have := nodup_le (List.nodup_range (n := c)) fun k hk => hall k (List.mem_range.mp hk)
  rw [List.length_range, List.length_map] at this
  exact absurd this (by have : (R0 c a).length = rk c a := rfl; omega)
theorem rk_new {c : Nat} {a : List Nat} {s : Nat} (h : ¬ Sp (ms c a) (mask c s)) : rk c (a ++ [s]) = rk c a + 1 := by
  rw [rk_app, if_neg fun e => h (((R0_J c a).in _).mp e)]
end K22
end
section
set_option Elab.async false
set_option linter.all false
set_option maxRecDepth 100000
set_option maxHeartbeats 1000000
namespace DL
theorem seq_nx {f g : FS} {δ δ' : Env} (h : f δ = some (.nx δ')) : fSeq f g δ = g δ' := by rw [fSeq_s, h]; rfl
theorem fBor_s {j : Nat} {fa : FE} {δ : Env} : fBor j fa δ = borF j fa δ δ[j]? := rfl
theorem borF_o {j : Nat} {fa : FE} {δ : Env} {p : Pin} {o : Ow} {x : Rd} (h : fa (δ.set j (.im o.toD)) = some (x, δ.set j (.im o.toD))) (hb : bareB x = true) : borF j fa δ (some (.ow p o)) = some (x, δ) := by
  show (fa (δ.set j (.im o.toD))).bind _ = _
  rw [h]
  exact if_pos ⟨hb, rfl⟩
theorem eqv_bl (a b : Bool) : (D.bl a).eqv (.bl b) = (a == b) := by
  show PySem.PyData.eqv (.bool a) (.bool b) = _
  simp only [PySem.PyData.eqv]
end DL
namespace K22
open PySem L2 DL
local macro_rules | `(tactic| simp! only [$as,*]) => `(tactic| simp -implicitDefEqProofs only [$as,*, DL.fK_s, DL.fVar_s, DL.varSF_im, DL.varSF_ow, DL.asImF_im, DL.asImF_tm, DL.asImF_vr, DL.imOF_l, DL.imSF_im, DL.imSF_l, DL.some_bindF, DL.f1_s, DL.f2_s, DL.f2v_s, DL.fOp_s, DL.oI_s, DL.oI0_s, DL.oB0_s, DL.oEq_s, DL.oNe_s, DL.fV_s, DL.vw_im, DL.vw_tm, DL.vw_vr, DL.vw_at, DL.vwS_im, DL.vwS_ow, DL.toD_l, DL.toD_k, DL.toD_t, DL.gLen_l, DL.gLen_wl, DL.gLen_tup, DL.gLen_dK, DL.gSum_l, DL.gBs_l, DL.gAnyI_l, DL.gInt_i, DL.gInt_b, DL.gIsN_n, DL.gIsN_i, DL.gIsN_l, DL.gIsN_tup, DL.gIsN_s, DL.gIsN_b, DL.fVL_s, DL.gList_l, DL.gList_wl, DL.gList_tup, DL.gRev_l, DL.gTupl_l, DL.gTupl_t, DL.fTruT_s, DL.gTru_n, DL.gTru_b, DL.gTru_i, DL.gTru_l, DL.gTru_tup, DL.fAnd_s, DL.fOr_s, DL.fNot_s, DL.fIf_s, DL.fAndV_s, DL.fOrV_s, DL.fNotV_s, DL.onBlF_b, DL.fChain_s, DL.fTst_s, DL.blXF_b, DL.gIx_l, DL.gIx_wl, DL.gIx_tup, DL.gIx_dK, DL.gIx_dT, DL.keepF_im, DL.keepF_vr, DL.keepF_at, DL.keepF_tm, DL.fIxE_s, DL.fInE_s, DL.gIn_l, DL.gIn_tup, DL.gIn_dK, DL.gIn_dT, DL.fPlusE_s, DL.gPlus_i, DL.gPlus_l, DL.gPlus_t, DL.gPlus_s, DL.fTimesE_s, DL.gTimes_i, DL.gTimes_l, DL.faNil_s, DL.faCons_s, DL.fTup_s, DL.fLst_s, DL.fNewK_s, DL.fNewT_s, DL.foNo_s, DL.foAt_s, DL.onIntF_i, DL.fSlE_s, DL.gSl_l, DL.gSl_t, DL.fBits_s, DL.fNeg_s, DL.fMin2_s, DL.fMax2_s, DL.onPairF_i, DL.callF_s, DL.fCall_s, DL.resF_im, DL.resF_ow, DL.fvNil_s, DL.fvIm_s, DL.fvLn_s, DL.agF_im, DL.agF_vr, DL.fCallL_s, DL.callRF_s, DL.lendF_n, DL.lendF_i, DL.lendF_v, DL.lendSF_o, DL.lendSF_i, DL.joinF_n, DL.joinF_i, DL.joinF_o, DL.backF_n, DL.backF_i, DL.backF_vi, DL.backF_vo, DL.argS_n, DL.argS_i, DL.argS_o, DL.fMt_s, DL.staysB_v, DL.staysB_a, DL.okB_l, DL.okB_k, DL.okB_t, DL.obAt_v, DL.obAt_a, DL.obV_o, DL.obI_i, DL.obF_o, DL.setOb_v, DL.setOb_a, DL.setV_o, DL.setI_o, DL.gAppend_s, DL.gPop_s, DL.gPopAt_s, DL.gReverse_s, DL.gExtend_s, DL.fNext_s, DL.next_n, DL.next_r, DL.next_b, DL.next_c, DL.fSeq_s, DL.fBreak_s, DL.fCont_s, DL.fNever_s, DL.fDrop_s, DL.fIfS_s, DL.fRet_s, DL.retF_i, DL.retF_t, DL.retF_v, DL.retSF_i, DL.retSF_o, DL.fRetN_s, DL.fSet_s, DL.setF_t, DL.setF_i, DL.setF_v, DL.fgName_s, DL.fgNil_s, DL.fgCons_s, DL.fgTup_t, DL.fAsg_s, DL.fPar_s, DL.two_s, DL.fAug_s, DL.isImB_i, DL.augF_s, DL.fSub_s, DL.gPut_l, DL.gPut_k, DL.gPut_t, DL.fSeqI_s, DL.seqF_l, DL.seqF_wl, DL.seqF_t, DL.seqF_o, DL.seqF_v, DL.seqSlF_o, DL.fRg1_s, DL.fRg2_s, DL.fEnum_s, DL.fZip_s, DL.zipXs_l, DL.zipXs_t, DL.fFor_s, DL.finFor_n, DL.finFor_r, DL.finFor_g, DL.bkF_n, DL.bkF_g, DL.fLc_s, DL.fLc2_s, DL.fYes_s, DL.runB_s, DL.endF_n, DL.endF_r, DL.finF_n, DL.finF_i, DL.finF_o, DL.wipeE_n, DL.wipeE_c, DL.restE_n, DL.restE_c, DL.noOw_n, DL.noOw_c, DL.noOwS_u, DL.noOwS_i, DL.lcF_n, DL.lcF_c, DL.goForF_n, DL.goForF_c, DL.contF_n, DL.contF_c, DL.contF_b, DL.contF_r, DL.key_i, DL.key_s, DL.fItL_s, DL.dkOf_s, DL.fFld_s, DL.fXF_v, DL.fXF_d, DL.fXF_t, DL.vwAt_i, DL.vwF_s, DL.fvD_i, DL.fvD_o, DL.obD_k, DL.obD_l, DL.fSetF_s, DL.setFXF_d, DL.setFXF_o, DL.fMeth_s, DL.mXF_v, DL.mXF_d, DL.fMake_s, DL.mkRF_s, DL.mkXF_s, DL.fForItemsF_s, DL.fForItems_s, DL.plJ_a, DL.plJ_v, DL.itGF_s, DL.goItF_n, DL.goItF_c, DL.contI_n, DL.isVl_v, DL.bkF_v, DL.plusSub_1, DL.sl_0, DL.sl_1, DL.sl_2, DL.sl_3, DL.sl_4, DL.sl_5, DL.sl_6, DL.sl_7, DL.sl_8, DL.sl_9, DL.sx_0, DL.sx_1, DL.sx_2, DL.sx_3, DL.sx_4, DL.sx_5, DL.sx_6, DL.sx_7, DL.sx_8, DL.sx_9, List.getElem?_cons_zero, List.getElem?_cons_succ, List.set_cons_zero, List.set_cons_succ, List.nil_append, List.cons_append, List.append_nil, List.map_cons, List.map_nil, List.length_cons, List.length_nil, List.replicate_succ, List.replicate_zero, DL.ok_int, DL.eqv_int, DL.ok_bl, if_true, Bool.false_eq_true, if_false, true_and, and_true, and_self, List.length_map, Option.bind_none, Nat.zero_add, Option.getD_some, Bool.and_true, Bool.true_and, decide_eq_true_eq, Bool.not_true, Bool.not_false, ite_true, ite_false, Nat.reduceAdd, Int.reduceAdd, Nat.reduceEqDiff, eq_self, reduceIte, id_eq, Int.toNat_natCast, DL.ok_li, DL.ok_ti, DL.eqv_li, DL.eqv_ti, DL.ok_non, Nat.zero_le, decide_true, decide_false])
variable {aS : Addr}
instance eqdN : EqD 0 eN := ⟨fun a => by show PyData.canLay0 (.int a) = true; simp only [PyData.canLay0], fun a => by show PyData.depth (.int a) ≤ 0; simp only [PyData.depth]; exact Nat.le_refl _, fun a b => by
  show PyData.eqv (.int a) (.int b) = true ↔ _; simp only [PyData.eqv, beq_iff_eq]; omega⟩
theorem natOf {z : Int} (h : 0 ≤ z) : ∃ n : Nat, z = n := ⟨z.toNat, by omega⟩
abbrev oI (ds : List Int) : Slot := .ow .fresh (.ob (.lst (ds.map D.int)))
noncomputable abbrev tk (lim : FE) (aS : Addr) : FE := fCallL 2 (M__law_take aS) (fvLn (fVar 1) (fvIm lim fvNil)) []
/-- a draw -/
theorem take_n (ds : List Int) (lim : Nat) (h : 0 < lim) : ∃ t : Nat, t < lim ∧ M__law_take aS [.ow (.arg 0) (.ob (.lst (ds.map D.int))), .im (.int lim)] = some (.im (.int (t : Nat)), [.ow (.arg 0) (.ob (.lst (ds.dropLast.map D.int))), .im (.int lim)]) := by
  have h0 : (0 : Int) < lim := by omega
  obtain ⟨t, ht⟩ := natOf (tkv_nonneg ds h0)
  refine ⟨t, by have := tkv_lt ds h0; omega, ?_⟩
  rw [← ht]
  exact m_take ds lim h0
theorem comp_rows {n : Nat} : ∀ {ds : List D}, (∀ d ∈ ds, ∃ o : List Nat, d = .lst (o.map eN) ∧ o.length = n) → ∃ sl : List (List Nat), ds = sl.map (fun r => D.lst (r.map eN)) ∧ ∀ r ∈ sl, r.length = n
  | [], _ => ⟨[], rfl, fun r h => by cases h⟩
  | d :: ds, h => by
    obtain ⟨o, rfl, ho⟩ := h d (by simp)
    obtain ⟨sl, rfl, hs⟩ := comp_rows (ds := ds) fun e he => h e (by simp [he])
    exact ⟨o :: sl, rfl, fun r hr => (List.mem_cons.mp hr).elim (fun e => e ▸ ho) (hs r)⟩
theorem comp_nats {b : Nat} : ∀ {ds : List D}, (∀ d ∈ ds, ∃ o : Nat, d = eN o ∧ o < b) → ∃ l : List Nat, ds = l.map eN ∧ ∀ r ∈ l, r < b
  | [], _ => ⟨[], rfl, fun r h => by cases h⟩
  | d :: ds, h => by
    obtain ⟨o, rfl, ho⟩ := h d (by simp)
    obtain ⟨sl, rfl, hs⟩ := comp_nats (b := b) (ds := ds) fun e he => h e (by simp [he])
    exact ⟨o :: sl, rfl, fun r hr => (List.mem_cons.mp hr).elim (fun e => e ▸ ho) (hs r)⟩
theorem inner (n : Nat) (hn : n ≤ 100) (ds : List Int) (s0 s2 s3 s5 s6 z7 : Slot) (tl : DL.Env) (hz : noOwS (some z7) = true) : ∃ (o : List Nat) (ds' : List Int), o.length = n ∧ (∀ x ∈ o, x < 256) ∧
    fLc [7] (fRg1 (faCons (fVar 4) faNil)) (fgName 7) fYes (tk (fK (.int 256)) aS) (s0 :: oI ds :: s2 :: s3 :: .im (eN n) :: s5 :: s6 :: z7 :: tl) = some (.tm (.ob (.lst (o.map eN))), s0 :: oI ds' :: s2 :: s3 :: .im (eN n) :: s5 :: s6 :: z7 :: tl) := by
  obtain ⟨l, ds', h1, h2, h3⟩ := lcF_ex (vs := [7]) (g := fgName 7) (ft := fYes) (fe := tk (fK (.int 256)) aS) (fun ds : List Int => s0 :: oI ds :: s2 :: s3 :: .im (eN n) :: s5 :: s6 :: .un :: tl) (fun d => ∃ o : Nat, d = eN o ∧ o < 256) ((List.range n).map eN) [] ds (by
    intro y _ xs acc ds
    obtain ⟨t, ht, hm⟩ := take_n (aS := aS) ds 256 (by omega)
    refine ⟨eN t, ds.dropLast, ⟨t, rfl, ht⟩, ?_⟩
    have hm' : M__law_take aS [.ow (.arg 0) (.ob (.lst (ds.map D.int))), .im (.int 256)] = some (.im (.int (t : Nat)), [.ow (.arg 0) (.ob (.lst (ds.dropLast.map D.int))), .im (.int 256)]) := hm
    simp! only [eN_s, oI, tk, hm'])
  obtain ⟨o, rfl, ho⟩ := comp_nats h2
  rw [List.length_map, List.length_map, List.length_range] at h1
  refine ⟨o, ds', h1, ho, ?_⟩
  have b1 : -(2 ^ 62) ≤ (n : Int) ∧ (n : Int) < 2 ^ 62 := by omega
  have hr : rgD 0 n = (List.range n).map eN := rgD0 n
  have hl : n ≤ sizeLine := Nat.le_trans hn (by decide)
  simp only [eN_s, oI, tk, List.nil_append] at h3
  simp! only [fLc_s, eN_s, oI, tk, b1, hr, hz, hl, List.length_range, h3]
theorem outer (c n : Nat) (hc : c ≤ 100) (hn : n ≤ 100) (ds : List Int) (s0 s2 s5 z6 z7 : Slot) (tl : DL.Env) (hz6 : noOwS (some z6) = true) (hz : noOwS (some z7) = true) : ∃ (sl : List (List Nat)) (ds' : List Int), sl.length = c ∧ (∀ r ∈ sl, r.length = n) ∧
    fLc [6] (fRg1 (faCons (fVar 3) faNil)) (fgName 6) fYes (fLc [7] (fRg1 (faCons (fVar 4) faNil)) (fgName 7) fYes (tk (fK (.int 256)) aS)) (s0 :: oI ds :: s2 :: .im (eN c) :: .im (eN n) :: s5 :: z6 :: z7 :: tl) = some (.tm (.ob (.lst (sl.map fun r => D.lst (r.map eN)))), s0 :: oI ds' :: s2 :: .im (eN c) :: .im (eN n) :: s5 :: z6 :: z7 :: tl) := by
  obtain ⟨l, ds', h1, h2, h3⟩ := lcF_ex (vs := [6]) (g := fgName 6) (ft := fYes) (fe := (fLc [7] (fRg1 (faCons (fVar 4) faNil)) (fgName 7) fYes (tk (fK (.int 256)) aS))) (fun ds : List Int => s0 :: oI ds :: s2 :: .im (eN c) :: .im (eN n) :: s5 :: .un :: z7 :: tl) (fun d => ∃ o : List Nat, d = .lst (o.map eN) ∧ o.length = n) ((List.range c).map eN) [] ds (by
    intro y _ xs acc ds
    obtain ⟨o, ds', ho, _, hi⟩ := inner (aS := aS) n hn ds s0 s2 (.im (eN c)) s5 (.im y) z7 tl hz
    refine ⟨.lst (o.map eN), ds', ⟨o, rfl, ho⟩, ?_⟩
    generalize fLc [7] (fRg1 (faCons (fVar 4) faNil)) (fgName 7) fYes (tk (fK (.int 256)) aS) = E at hi ⊢
    simp only [eN_s, oI] at hi
    simp! only [eN_s, oI, hi])
  obtain ⟨sl, rfl, hs⟩ := comp_rows h2
  rw [List.length_map, List.length_map, List.length_range] at h1
  refine ⟨sl, ds', h1, hs, ?_⟩
  have b1 : -(2 ^ 62) ≤ (c : Int) ∧ (c : Int) < 2 ^ 62 := by omega
  have hr : rgD 0 c = (List.range c).map eN := rgD0 c
  have hl : c ≤ sizeLine := Nat.le_trans hc (by decide)
  generalize fLc [7] (fRg1 (faCons (fVar 4) faNil)) (fgName 7) fYes (tk (fK (.int 256)) aS) = E at h3 ⊢
  simp only [eN_s, oI, List.nil_append] at h3
  simp! only [fLc_s, eN_s, oI, b1, hr, hz6, hl, List.length_range, h3]
theorem seeds_ok (ds : List Int) (s0 s2 s3 s4 s5 s6 z7 : Slot) (tl : DL.Env) (hz : noOwS (some z7) = true) : ∃ (o : List Nat) (ds' : List Int), o.length ≤ 6 ∧ (∀ x ∈ o, x < 65536) ∧
    fLc [7] (fRg1 (faCons (tk (fK (.int 7)) aS) faNil)) (fgName 7) fYes (fPlusE (fTimesE (tk (fK (.int 256)) aS) (fK (.int 256))) (tk (fK (.int 256)) aS)) (s0 :: oI ds :: s2 :: s3 :: s4 :: s5 :: s6 :: z7 :: tl) = some (.tm (.ob (.lst (o.map eN))), s0 :: oI ds' :: s2 :: s3 :: s4 :: s5 :: s6 :: z7 :: tl) := by
  obtain ⟨n, hn, hm0⟩ := take_n (aS := aS) ds 7 (by omega)
  have hm0' : M__law_take aS [.ow (.arg 0) (.ob (.lst (ds.map D.int))), .im (.int 7)] = some (.im (.int (n : Nat)), [.ow (.arg 0) (.ob (.lst (ds.dropLast.map D.int))), .im (.int 7)]) := hm0
  obtain ⟨l, ds', h1, h2, h3⟩ := lcF_ex (vs := [7]) (g := fgName 7) (ft := fYes) (fe := (fPlusE (fTimesE (tk (fK (.int 256)) aS) (fK (.int 256))) (tk (fK (.int 256)) aS))) (fun ds : List Int => s0 :: oI ds :: s2 :: s3 :: s4 :: s5 :: s6 :: .un :: tl) (fun d => ∃ o : Nat, d = eN o ∧ o < 65536) ((List.range n).map eN) [] ds.dropLast (by
    intro y _ xs acc ds
    obtain ⟨t, ht, hm⟩ := take_n (aS := aS) ds 256 (by omega)
    obtain ⟨t2, ht2, hm2⟩ := take_n (aS := aS) ds.dropLast 256 (by omega)
    have hm' : M__law_take aS [.ow (.arg 0) (.ob (.lst (ds.map D.int))), .im (.int 256)] = some (.im (.int (t : Nat)), [.ow (.arg 0) (.ob (.lst (ds.dropLast.map D.int))), .im (.int 256)]) := hm
    have hm2' : M__law_take aS [.ow (.arg 0) (.ob (.lst (ds.dropLast.map D.int))), .im (.int 256)] = some (.im (.int (t2 : Nat)), [.ow (.arg 0) (.ob (.lst (ds.dropLast.dropLast.map D.int))), .im (.int 256)]) := hm2
    have k1 : CMulX (t : Int) 256 := mulx_ok (a := 64) (b := 64) (by omega) (by omega) (by omega)
    have e : (t : Int) * 256 + (t2 : Int) = ((t * 256 + t2 : Nat) : Int) := by omega
    refine ⟨eN (t * 256 + t2), ds.dropLast.dropLast, ⟨_, rfl, by omega⟩, ?_⟩
    simp! only [eN_s, oI, tk, hm', hm2', k1, e])
  obtain ⟨o, rfl, ho⟩ := comp_nats h2
  rw [List.length_map, List.length_map, List.length_range] at h1
  refine ⟨o, ds', by omega, ho, ?_⟩
  have b1 : -(2 ^ 62) ≤ (n : Int) ∧ (n : Int) < 2 ^ 62 := by omega
  have hr : rgD 0 n = (List.range n).map eN := rgD0 n
  have hl : n ≤ sizeLine := Nat.le_trans (show n ≤ 100 by omega) (by decide)
  simp only [eN_s, oI, tk, List.nil_append] at h3
  simp! only [fLc_s, eN_s, oI, tk, hm0', b1, hr, hz, hl, List.length_range, h3]
end K22
end
section
set_option Elab.async false
set_option linter.all false
set_option maxRecDepth 100000
set_option maxHeartbeats 1000000
namespace K22
open PySem L2 DL
local macro_rules | `(tactic| simp! only [$as,*]) => `(tactic| simp -implicitDefEqProofs only [$as,*, DL.fK_s, DL.fVar_s, DL.varSF_im, DL.varSF_ow, DL.asImF_im, DL.asImF_tm, DL.asImF_vr, DL.imOF_l, DL.imSF_im, DL.imSF_l, DL.some_bindF, DL.f1_s, DL.f2_s, DL.f2v_s, DL.fOp_s, DL.oI_s, DL.oI0_s, DL.oB0_s, DL.oEq_s, DL.oNe_s, DL.fV_s, DL.vw_im, DL.vw_tm, DL.vw_vr, DL.vw_at, DL.vwS_im, DL.vwS_ow, DL.toD_l, DL.toD_k, DL.toD_t, DL.gLen_l, DL.gLen_wl, DL.gLen_tup, DL.gLen_dK, DL.gSum_l, DL.gBs_l, DL.gAnyI_l, DL.gInt_i, DL.gInt_b, DL.gIsN_n, DL.gIsN_i, DL.gIsN_l, DL.gIsN_tup, DL.gIsN_s, DL.gIsN_b, DL.fVL_s, DL.gList_l, DL.gList_wl, DL.gList_tup, DL.gRev_l, DL.gTupl_l, DL.gTupl_t, DL.fTruT_s, DL.gTru_n, DL.gTru_b, DL.gTru_i, DL.gTru_l, DL.gTru_tup, DL.fAnd_s, DL.fOr_s, DL.fNot_s, DL.fIf_s, DL.fAndV_s, DL.fOrV_s, DL.fNotV_s, DL.onBlF_b, DL.fChain_s, DL.fTst_s, DL.blXF_b, DL.gIx_l, DL.gIx_wl, DL.gIx_tup, DL.gIx_dK, DL.gIx_dT, DL.keepF_im, DL.keepF_vr, DL.keepF_at, DL.keepF_tm, DL.fIxE_s, DL.fInE_s, DL.gIn_l, DL.gIn_tup, DL.gIn_dK, DL.gIn_dT, DL.fPlusE_s, DL.gPlus_i, DL.gPlus_l, DL.gPlus_t, DL.gPlus_s, DL.fTimesE_s, DL.gTimes_i, DL.gTimes_l, DL.faNil_s, DL.faCons_s, DL.fTup_s, DL.fLst_s, DL.fNewK_s, DL.fNewT_s, DL.foNo_s, DL.foAt_s, DL.onIntF_i, DL.fSlE_s, DL.gSl_l, DL.gSl_t, DL.fBits_s, DL.fNeg_s, DL.fMin2_s, DL.fMax2_s, DL.onPairF_i, DL.callF_s, DL.fCall_s, DL.resF_im, DL.resF_ow, DL.fvNil_s, DL.fvIm_s, DL.fvLn_s, DL.agF_im, DL.agF_vr, DL.fCallL_s, DL.callRF_s, DL.lendF_n, DL.lendF_i, DL.lendF_v, DL.lendSF_o, DL.lendSF_i, DL.joinF_n, DL.joinF_i, DL.joinF_o, DL.backF_n, DL.backF_i, DL.backF_vi, DL.backF_vo, DL.argS_n, DL.argS_i, DL.argS_o, DL.fMt_s, DL.staysB_v, DL.staysB_a, DL.okB_l, DL.okB_k, DL.okB_t, DL.obAt_v, DL.obAt_a, DL.obV_o, DL.obI_i, DL.obF_o, DL.setOb_v, DL.setOb_a, DL.setV_o, DL.setI_o, DL.gAppend_s, DL.gPop_s, DL.gPopAt_s, DL.gReverse_s, DL.gExtend_s, DL.fNext_s, DL.next_n, DL.next_r, DL.next_b, DL.next_c, DL.fSeq_s, DL.fBreak_s, DL.fCont_s, DL.fNever_s, DL.fDrop_s, DL.fIfS_s, DL.fRet_s, DL.retF_i, DL.retF_t, DL.retF_v, DL.retSF_i, DL.retSF_o, DL.fRetN_s, DL.fSet_s, DL.setF_t, DL.setF_i, DL.setF_v, DL.fgName_s, DL.fgNil_s, DL.fgCons_s, DL.fgTup_t, DL.fAsg_s, DL.fPar_s, DL.two_s, DL.fAug_s, DL.isImB_i, DL.augF_s, DL.fSub_s, DL.gPut_l, DL.gPut_k, DL.gPut_t, DL.fSeqI_s, DL.seqF_l, DL.seqF_wl, DL.seqF_t, DL.seqF_o, DL.seqF_v, DL.seqSlF_o, DL.fRg1_s, DL.fRg2_s, DL.fEnum_s, DL.fZip_s, DL.zipXs_l, DL.zipXs_t, DL.fFor_s, DL.finFor_n, DL.finFor_r, DL.finFor_g, DL.bkF_n, DL.bkF_g, DL.fLc_s, DL.fLc2_s, DL.fYes_s, DL.runB_s, DL.endF_n, DL.endF_r, DL.finF_n, DL.finF_i, DL.finF_o, DL.wipeE_n, DL.wipeE_c, DL.restE_n, DL.restE_c, DL.noOw_n, DL.noOw_c, DL.noOwS_u, DL.noOwS_i, DL.lcF_n, DL.lcF_c, DL.goForF_n, DL.goForF_c, DL.contF_n, DL.contF_c, DL.contF_b, DL.contF_r, DL.key_i, DL.key_s, DL.fItL_s, DL.dkOf_s, DL.fFld_s, DL.fXF_v, DL.fXF_d, DL.fXF_t, DL.vwAt_i, DL.vwF_s, DL.fvD_i, DL.fvD_o, DL.obD_k, DL.obD_l, DL.fSetF_s, DL.setFXF_d, DL.setFXF_o, DL.fMeth_s, DL.mXF_v, DL.mXF_d, DL.fMake_s, DL.mkRF_s, DL.mkXF_s, DL.fForItemsF_s, DL.fForItems_s, DL.plJ_a, DL.plJ_v, DL.itGF_s, DL.goItF_n, DL.goItF_c, DL.contI_n, DL.isVl_v, DL.bkF_v, DL.plusSub_1, DL.sl_0, DL.sl_1, DL.sl_2, DL.sl_3, DL.sl_4, DL.sl_5, DL.sl_6, DL.sl_7, DL.sl_8, DL.sl_9, DL.sx_0, DL.sx_1, DL.sx_2, DL.sx_3, DL.sx_4, DL.sx_5, DL.sx_6, DL.sx_7, DL.sx_8, DL.sx_9, List.getElem?_cons_zero, List.getElem?_cons_succ, List.set_cons_zero, List.set_cons_succ, List.nil_append, List.cons_append, List.append_nil, List.map_cons, List.map_nil, List.length_cons, List.length_nil, List.replicate_succ, List.replicate_zero, DL.ok_int, DL.eqv_int, DL.ok_bl, if_true, Bool.false_eq_true, if_false, true_and, and_true, and_self, List.length_map, Option.bind_none, Nat.zero_add, Option.getD_some, Bool.and_true, Bool.true_and, decide_eq_true_eq, Bool.not_true, Bool.not_false, ite_true, ite_false, Nat.reduceAdd, Int.reduceAdd, Nat.reduceEqDiff, eq_self, reduceIte, id_eq, Int.toNat_natCast, DL.ok_li, DL.ok_ti, DL.eqv_li, DL.eqv_ti, DL.ok_non, Nat.zero_le, decide_true, decide_false])
variable {aS : Addr}
theorem ok_lN (a : List Nat) : (D.lst (a.map eN)).ok = True := okE (fun l : List Nat => D.lst (l.map eN)) (by decide) a
theorem eqv_lN (a b : List Nat) : (D.lst (a.map eN)).eqv (D.lst (b.map eN)) = decide (a = b) := eqvE (fun l : List Nat => D.lst (l.map eN)) a b
abbrev rowE (r : List Nat) : D := D.lst (r.map eN)
theorem ok_lR (a : List (List Nat)) : (D.lst (a.map rowE)).ok = True := okE (fun l : List (List Nat) => D.lst (l.map fun r : List Nat => D.lst (r.map eN))) (by decide) a
theorem eqv_lR (a b : List (List Nat)) : (D.lst (a.map rowE)).eqv (D.lst (b.map rowE)) = decide (a = b) := eqvE (fun l : List (List Nat) => D.lst (l.map fun r : List Nat => D.lst (r.map eN))) a b
theorem cut_take (xs : List D) (t : Nat) : cutD xs none (some (t : Int)) = xs.take t := by
  unfold cutD
  rw [HT.sIx_none, HT.sIx_nat]
  simp
theorem cut_drop (xs : List D) (t : Nat) : cutD xs (some (t : Int)) none = xs.drop t := by
  unfold cutD
  rw [HT.sIx_none, HT.sIx_nat]
  rcases Nat.le_total t xs.length with h | h
  · rw [Nat.min_eq_left h, List.take_of_length_le (by simp)]
  · rw [Nat.min_eq_right h, List.drop_eq_nil_of_le (Nat.le_refl _), List.drop_eq_nil_of_le h]; simp
/-- rows in a slot: owned or not -/
def sR (b : Bool) (rows : List (List Nat)) : Slot := if b then .ow .fresh (.ob (.lst (rows.map rowE))) else .im (.lst (rows.map rowE))
theorem sR_t (rows : List (List Nat)) : sR true rows = .ow .fresh (.ob (.lst (rows.map rowE))) := rfl
theorem sR_f (rows : List (List Nat)) : sR false rows = .im (.lst (rows.map rowE)) := rfl
theorem stA {sl ot : List (List Nat)} {n : Nat} (hs : ∀ r ∈ sl, r.length = n) (hn : n ≤ 1000) (hc : sl.length ≤ 1000) (b5 b8 : Bool) (s0 s1 s2 s3 s4 s6 s7 s9 s10 s11 z12 z13 : Slot) (tl : DL.Env) (h12 : noOwS (some z12) = true) (h13 : noOwS (some z13) = true) :
    (fSet 11 (fLc [12, 13] (fZip (faCons (fVar 5) (faCons (fVar 8) faNil))) (fgTup 2 (fgCons (fgName 12) (fgCons (fgName 13) fgNil))) fYes (fCall 2 (M__law_xor aS) (faCons (fVar 12) (faCons (fVar 13) faNil)) []))) (s0 :: s1 :: s2 :: s3 :: s4 :: sR b5 sl :: s6 :: s7 :: sR b8 ot :: s9 :: s10 :: s11 :: z12 :: z13 :: tl)
     = some (.nx (s0 :: s1 :: s2 :: s3 :: s4 :: sR false sl :: s6 :: s7 :: sR false ot :: s9 :: s10 :: sR true (bothL sl ot) :: z12 :: z13 :: tl)) := by
  have key := lcF_map (vs := [12, 13]) (g := fgTup 2 (fgCons (fgName 12) (fgCons (fgName 13) fgNil))) (ft := fYes) (fe := fCall 2 (M__law_xor aS) (faCons (fVar 12) (faCons (fVar 13) faNil)) []) (fun p : List Nat × List Nat => D.tup [rowE p.1, rowE p.2]) (fun p => rowE (xorL p.1 p.2)) (δ := s0 :: s1 :: s2 :: s3 :: s4 :: sR false sl :: s6 :: s7 :: sR false ot :: s9 :: s10 :: s11 :: .un :: .un :: tl) (List.zip sl ot) [] (fun p hp xs acc => by
    have hx := m_xor (aS := aS) p.1 p.2 (by rw [hs p.1 (List.of_mem_zip hp).1]; exact hn)
    simp only [eL, oL] at hx
    simp! only [rowE, hx])
  rw [← zipD_eq, List.nil_append] at key
  have e : (List.zip sl ot).map (fun p => rowE (xorL p.1 p.2)) = (bothL sl ot).map rowE := by
    unfold bothL
    rw [← List.map_uncurry_zip_eq_zipWith, List.map_map]
    rfl
  rw [e] at key
  have hl : (zipD (sl.map rowE) (ot.map rowE)).length ≤ sizeLine := Nat.le_trans (by rw [zip_len, List.length_map]; exact Nat.le_trans (Nat.min_le_left _ _) hc) (by decide)
  simp only [sR_f] at key
  cases b5 <;> cases b8 <;> simp! only [sR_t, sR_f, h12, h13, hl, key]
theorem stB {sl ot : List (List Nat)} {n s : Nat} (h1 : 1 ≤ sl.length) (hl : ot.length = sl.length) (h2 : sl.length ≤ 24) (hs : ∀ r ∈ sl, r.length = n) (ho : ∀ r ∈ ot, r.length = n) (hn : n ≤ 1000) (hss : s < 65536) (s0 s1 s2 s3 s4 s6 s7 s9 : Slot) (tl : DL.Env) (rest : FS) :
    (fIfS (fTst (fOp oNe (fCall 2 (M_droplet aS) (faCons (fVar 11) (faCons (fVar 10) faNil)) []) (fCall 2 (M__law_xor aS) (faCons (fCall 2 (M_droplet aS) (faCons (fVar 5) (faCons (fVar 10) faNil)) []) (faCons (fCall 2 (M_droplet aS) (faCons (fVar 8) (faCons (fVar 10) faNil)) []) faNil)) []))) rest fNext) (s0 :: s1 :: s2 :: s3 :: s4 :: sR false sl :: s6 :: s7 :: sR false ot :: s9 :: .im (eN s) :: sR true (bothL sl ot) :: tl)
     = some (.nx (s0 :: s1 :: s2 :: s3 :: s4 :: sR false sl :: s6 :: s7 :: sR false ot :: s9 :: .im (eN s) :: sR false (bothL sl ot) :: tl)) := by
  have hb : (bothL sl ot).length = sl.length := by unfold bothL; rw [List.length_zipWith]; omega
  have hbr : ∀ r ∈ bothL sl ot, r.length = n := fun r hr => by
    unfold bothL at hr
    rw [← List.map_uncurry_zip_eq_zipWith] at hr
    obtain ⟨p, hp, rfl⟩ := List.mem_map.mp hr
    show (xorL p.1 p.2).length = n
    rw [xorL_len, hs _ (List.of_mem_zip hp).1, ho _ (List.of_mem_zip hp).2, Nat.min_self]
  have d1 := m_drop (aS := aS) (bothL sl ot) s n (by omega) (by omega) hbr hn hss
  have d2 := m_drop (aS := aS) sl s n h1 h2 hs hn hss
  have d3 := m_drop (aS := aS) ot s n (by omega) (by omega) ho hn hss
  have d4 := m_xor (aS := aS) (drop sl s) (drop ot s) (by rw [drop_len' h1 hs]; exact hn)
  rw [both_ok h1 hl hs ho] at d1
  simp only [eL, oL, eR, eN_s] at d1 d2 d3 d4
  simp! only [sR_t, sR_f, rowE, eN_s, d1, d2, d3, d4, ok_lN, eqv_lN]
theorem ones_ok (n : Nat) (hn : n ≤ 1000) : (List.replicate n [D.int 1]).flatten = (List.replicate n 1).map eN ∧ (-(2 ^ 63) ≤ (n : Int) ∧ (n : Int) < 2 ^ 63) ∧ (1 * n ≤ sizeLine) = True := ⟨by simp [eN_s], by omega, eq_true (Nat.le_trans (show _ ≤ 1000 by omega) (by decide))⟩
theorem atR {sl : List (List Nat)} {t : Nat} (h : t < sl.length) : atI (sl.map rowE) (t : Int) = some (rowE (sl.getD t [])) := atI_nat (by
  rw [List.getElem?_map, List.getElem?_eq_getElem h]; simp [List.getElem?_eq_getElem h])
theorem stD {sl : List (List Nat)} {n t : Nat} (ht : t < sl.length) (h2 : sl.length ≤ 24) (hs : ∀ r ∈ sl, r.length = n) (hn : n ≤ 1000) (s0 s1 s2 s3 s6 s7 s8 s9 s10 s11 s12 s13 s15 : Slot) (tl : DL.Env) :
    (fSet 15 (fPlusE (fPlusE (fSlE true (fVar 5) foNo (foAt (fVar 14))) (fLst (faCons (fCall 2 (M__law_xor aS) (faCons (fIxE true (fVar 5) (fVar 14)) (faCons (fTimesE (fLst (faCons (fK (.int 1)) faNil)) (fVar 4)) faNil)) []) faNil))) (fSlE true (fVar 5) (foAt (fPlusE (fVar 14) (fK (.int 1)))) foNo))) (s0 :: s1 :: s2 :: s3 :: .im (eN n) :: sR false sl :: s6 :: s7 :: s8 :: s9 :: s10 :: s11 :: s12 :: s13 :: .im (eN t) :: s15 :: tl)
     = some (.nx (s0 :: s1 :: s2 :: s3 :: .im (eN n) :: sR false sl :: s6 :: s7 :: s8 :: s9 :: s10 :: s11 :: s12 :: s13 :: .im (eN t) :: sR true (bentL sl t n) :: tl)) := by
  obtain ⟨o1, ⟨o2, o3⟩, o4⟩ := ones_ok n hn
  have hlen : (sl.getD t []).length = n := by rw [List.getD_eq_getElem?_getD, List.getElem?_eq_getElem ht]; exact hs _ (List.getElem_mem ht)
  have hx := m_xor (aS := aS) (sl.getD t []) (List.replicate n 1) (by omega)
  simp only [eL, oL] at hx
  have e1 : (t : Int) + 1 = ((t + 1 : Nat) : Int) := by omega
  have e2 : List.take t (sl.map rowE) ++ [D.lst ((xorL (sl.getD t []) (List.replicate n 1)).map eN)] ++ List.drop (t + 1) (sl.map rowE) = (bentL sl t n).map rowE := by
    unfold bentL
    rw [List.set_eq_take_append_cons_drop, if_pos ht]
    simp
  have e3 : (List.take t (sl.map rowE)).length + 1 ≤ sizeLine := Nat.le_trans (by rw [List.length_take, List.length_map]; omega : _ ≤ 1000) (by decide)
  have e4 : (List.take t (sl.map rowE) ++ [D.lst ((xorL (sl.getD t []) (List.replicate n 1)).map eN)]).length + (List.drop (t + 1) (sl.map rowE)).length ≤ sizeLine := Nat.le_trans (by simp; omega : _ ≤ 1000) (by decide)
  have ha := atR ht
  simp! only [sR_t, sR_f, eN_s, cut_take, ha, rowE, o1, o2, o3, o4, hx, e1, cut_drop, e3, e4, e2]
theorem stE {sl : List (List Nat)} {n t s : Nat} (h1 : 1 ≤ sl.length) (ht : t < sl.length) (h2 : sl.length ≤ 24) (hs : ∀ r ∈ sl, r.length = n) (hn : n ≤ 1000) (hss : s < 65536) (s0 s1 s2 s6 s7 s8 s9 s11 s12 s13 : Slot) (tl : DL.Env) (rest : FS) :
    (fIfS (fTst (fOp oNe (fCall 2 (M_droplet aS) (faCons (fVar 15) (faCons (fVar 10) faNil)) []) (fIf (fTst (fInE id (fVar 14) (fCall 2 (M_droplet_set aS) (faCons (fVar 3) (faCons (fVar 10) faNil)) []))) (fCall 2 (M__law_xor aS) (faCons (fCall 2 (M_droplet aS) (faCons (fVar 5) (faCons (fVar 10) faNil)) []) (faCons (fTimesE (fLst (faCons (fK (.int 1)) faNil)) (fVar 4)) faNil)) []) (fCall 2 (M_droplet aS) (faCons (fVar 5) (faCons (fVar 10) faNil)) [])))) rest fNext) (s0 :: s1 :: s2 :: .im (eN sl.length) :: .im (eN n) :: sR false sl :: s6 :: s7 :: s8 :: s9 :: .im (eN s) :: s11 :: s12 :: s13 :: .im (eN t) :: sR true (bentL sl t n) :: tl)
     = some (.nx (s0 :: s1 :: s2 :: .im (eN sl.length) :: .im (eN n) :: sR false sl :: s6 :: s7 :: s8 :: s9 :: .im (eN s) :: s11 :: s12 :: s13 :: .im (eN t) :: sR false (bentL sl t n) :: tl)) := by
  obtain ⟨o1, ⟨o2, o3⟩, o4⟩ := ones_ok n hn
  have hb : (bentL sl t n).length = sl.length := by unfold bentL; rw [List.length_set]
  have hbr : ∀ r ∈ bentL sl t n, r.length = n := fun r hr3 => by
    unfold bentL at hr3
    rcases List.mem_or_eq_of_mem_set hr3 with h | h
    · exact hs r h
    · have hlen : (sl.getD t []).length = n := by rw [List.getD_eq_getElem?_getD, List.getElem?_eq_getElem ht]; exact hs _ (List.getElem_mem ht)
      rw [h, xorL_len, hlen, List.length_replicate, Nat.min_self]
  have d1 := m_drop (aS := aS) (bentL sl t n) s n (by omega) (by omega) hbr hn hss
  have d2 := m_drop (aS := aS) sl s n h1 h2 hs hn hss
  have d3 := m_dset (aS := aS) sl.length s h1 h2 hss
  have d4 := m_xor (aS := aS) (drop sl s) (List.replicate n 1) (by rw [drop_len' h1 hs]; exact hn)
  rw [bent_ok h1 hs ht] at d1
  simp only [eL, oL, eR, eN_s] at d1 d2 d3 d4
  have f1 : (D.int (t : Int)).flat = true := rfl
  by_cases hd : t ∈ dset sl.length s
  · rw [if_pos hd] at d1
    have hc : (dset sl.length s).contains t = true := by simpa using hd
    simp! only [sR_t, sR_f, rowE, eN_s, d1, d2, d3, d4, ok_lN, eqv_lN, f1, flat_eN, any_eN, hc, o1, o2, o3, o4]
  · rw [if_neg hd] at d1
    have hc : (dset sl.length s).contains t = false := by simpa using hd
    simp! only [sR_t, sR_f, rowE, eN_s, d1, d2, d3, d4, ok_lN, eqv_lN, f1, flat_eN, any_eN, hc, o1, o2, o3, o4]
end K22
end
section
set_option Elab.async false
set_option linter.all false
set_option maxRecDepth 100000
set_option maxHeartbeats 1000000
namespace K22
open PySem L2 DL
local macro_rules | `(tactic| simp! only [$as,*]) => `(tactic| simp -implicitDefEqProofs only [$as,*, DL.fK_s, DL.fVar_s, DL.varSF_im, DL.varSF_ow, DL.asImF_im, DL.asImF_tm, DL.asImF_vr, DL.imOF_l, DL.imSF_im, DL.imSF_l, DL.some_bindF, DL.f1_s, DL.f2_s, DL.f2v_s, DL.fOp_s, DL.oI_s, DL.oI0_s, DL.oB0_s, DL.oEq_s, DL.oNe_s, DL.fV_s, DL.vw_im, DL.vw_tm, DL.vw_vr, DL.vw_at, DL.vwS_im, DL.vwS_ow, DL.toD_l, DL.toD_k, DL.toD_t, DL.gLen_l, DL.gLen_wl, DL.gLen_tup, DL.gLen_dK, DL.gSum_l, DL.gBs_l, DL.gAnyI_l, DL.gInt_i, DL.gInt_b, DL.gIsN_n, DL.gIsN_i, DL.gIsN_l, DL.gIsN_tup, DL.gIsN_s, DL.gIsN_b, DL.fVL_s, DL.gList_l, DL.gList_wl, DL.gList_tup, DL.gRev_l, DL.gTupl_l, DL.gTupl_t, DL.fTruT_s, DL.gTru_n, DL.gTru_b, DL.gTru_i, DL.gTru_l, DL.gTru_tup, DL.fAnd_s, DL.fOr_s, DL.fNot_s, DL.fIf_s, DL.fAndV_s, DL.fOrV_s, DL.fNotV_s, DL.onBlF_b, DL.fChain_s, DL.fTst_s, DL.blXF_b, DL.gIx_l, DL.gIx_wl, DL.gIx_tup, DL.gIx_dK, DL.gIx_dT, DL.keepF_im, DL.keepF_vr, DL.keepF_at, DL.keepF_tm, DL.fIxE_s, DL.fInE_s, DL.gIn_l, DL.gIn_tup, DL.gIn_dK, DL.gIn_dT, DL.fPlusE_s, DL.gPlus_i, DL.gPlus_l, DL.gPlus_t, DL.gPlus_s, DL.fTimesE_s, DL.gTimes_i, DL.gTimes_l, DL.faNil_s, DL.faCons_s, DL.fTup_s, DL.fLst_s, DL.fNewK_s, DL.fNewT_s, DL.foNo_s, DL.foAt_s, DL.onIntF_i, DL.fSlE_s, DL.gSl_l, DL.gSl_t, DL.fBits_s, DL.fNeg_s, DL.fMin2_s, DL.fMax2_s, DL.onPairF_i, DL.callF_s, DL.fCall_s, DL.resF_im, DL.resF_ow, DL.fvNil_s, DL.fvIm_s, DL.fvLn_s, DL.agF_im, DL.agF_vr, DL.fCallL_s, DL.callRF_s, DL.lendF_n, DL.lendF_i, DL.lendF_v, DL.lendSF_o, DL.lendSF_i, DL.joinF_n, DL.joinF_i, DL.joinF_o, DL.backF_n, DL.backF_i, DL.backF_vi, DL.backF_vo, DL.argS_n, DL.argS_i, DL.argS_o, DL.fMt_s, DL.staysB_v, DL.staysB_a, DL.okB_l, DL.okB_k, DL.okB_t, DL.obAt_v, DL.obAt_a, DL.obV_o, DL.obI_i, DL.obF_o, DL.setOb_v, DL.setOb_a, DL.setV_o, DL.setI_o, DL.gAppend_s, DL.gPop_s, DL.gPopAt_s, DL.gReverse_s, DL.gExtend_s, DL.fNext_s, DL.next_n, DL.next_r, DL.next_b, DL.next_c, DL.fSeq_s, DL.fBreak_s, DL.fCont_s, DL.fNever_s, DL.fDrop_s, DL.fIfS_s, DL.fRet_s, DL.retF_i, DL.retF_t, DL.retF_v, DL.retSF_i, DL.retSF_o, DL.fRetN_s, DL.fSet_s, DL.setF_t, DL.setF_i, DL.setF_v, DL.fgName_s, DL.fgNil_s, DL.fgCons_s, DL.fgTup_t, DL.fAsg_s, DL.fPar_s, DL.two_s, DL.fAug_s, DL.isImB_i, DL.augF_s, DL.fSub_s, DL.gPut_l, DL.gPut_k, DL.gPut_t, DL.fSeqI_s, DL.seqF_l, DL.seqF_wl, DL.seqF_t, DL.seqF_o, DL.seqF_v, DL.seqSlF_o, DL.fRg1_s, DL.fRg2_s, DL.fEnum_s, DL.fZip_s, DL.zipXs_l, DL.zipXs_t, DL.fFor_s, DL.finFor_n, DL.finFor_r, DL.finFor_g, DL.bkF_n, DL.bkF_g, DL.fLc_s, DL.fLc2_s, DL.fYes_s, DL.runB_s, DL.endF_n, DL.endF_r, DL.finF_n, DL.finF_i, DL.finF_o, DL.wipeE_n, DL.wipeE_c, DL.restE_n, DL.restE_c, DL.noOw_n, DL.noOw_c, DL.noOwS_u, DL.noOwS_i, DL.lcF_n, DL.lcF_c, DL.goForF_n, DL.goForF_c, DL.contF_n, DL.contF_c, DL.contF_b, DL.contF_r, DL.key_i, DL.key_s, DL.fItL_s, DL.dkOf_s, DL.fFld_s, DL.fXF_v, DL.fXF_d, DL.fXF_t, DL.vwAt_i, DL.vwF_s, DL.fvD_i, DL.fvD_o, DL.obD_k, DL.obD_l, DL.fSetF_s, DL.setFXF_d, DL.setFXF_o, DL.fMeth_s, DL.mXF_v, DL.mXF_d, DL.fMake_s, DL.mkRF_s, DL.mkXF_s, DL.fForItemsF_s, DL.fForItems_s, DL.plJ_a, DL.plJ_v, DL.itGF_s, DL.goItF_n, DL.goItF_c, DL.contI_n, DL.isVl_v, DL.bkF_v, DL.plusSub_1, DL.sl_0, DL.sl_1, DL.sl_2, DL.sl_3, DL.sl_4, DL.sl_5, DL.sl_6, DL.sl_7, DL.sl_8, DL.sl_9, DL.sx_0, DL.sx_1, DL.sx_2, DL.sx_3, DL.sx_4, DL.sx_5, DL.sx_6, DL.sx_7, DL.sx_8, DL.sx_9, List.getElem?_cons_zero, List.getElem?_cons_succ, List.set_cons_zero, List.set_cons_succ, List.nil_append, List.cons_append, List.append_nil, List.map_cons, List.map_nil, List.length_cons, List.length_nil, List.replicate_succ, List.replicate_zero, DL.ok_int, DL.eqv_int, DL.ok_bl, if_true, Bool.false_eq_true, if_false, true_and, and_true, and_self, List.length_map, Option.bind_none, Nat.zero_add, Option.getD_some, Bool.and_true, Bool.true_and, decide_eq_true_eq, Bool.not_true, Bool.not_false, ite_true, ite_false, Nat.reduceAdd, Int.reduceAdd, Nat.reduceEqDiff, eq_self, reduceIte, id_eq, Int.toNat_natCast, DL.ok_li, DL.ok_ti, DL.eqv_li, DL.eqv_ti, DL.ok_non, Nat.zero_le, decide_true, decide_false])
variable {aS : Addr}
noncomputable abbrev B5 (aSums : Addr) : FS := (fSeq (fSet 11 (fLc [12, 13] (fZip (faCons (fVar 5) (faCons (fVar 8) faNil))) (fgTup 2 (fgCons (fgName 12) (fgCons (fgName 13) fgNil))) fYes (fCall 2 (M__law_xor aSums) (faCons (fVar 12) (faCons (fVar 13) faNil)) [])))
  (fSeq (fIfS (fTst (fOp oNe (fCall 2 (M_droplet aSums) (faCons (fVar 11) (faCons (fVar 10) faNil)) []) (fCall 2 (M__law_xor aSums) (faCons (fCall 2 (M_droplet aSums) (faCons (fVar 5) (faCons (fVar 10) faNil)) []) (faCons (fCall 2 (M_droplet aSums) (faCons (fVar 8) (faCons (fVar 10) faNil)) []) faNil)) [])))
  (fRet (fK (.bl false)))
  fNext)
  (fSeq (fSet 14 (fCallL 2 (M__law_take aSums) (fvLn (fVar 1) (fvIm (fVar 3) fvNil)) []))
  (fSeq (fSet 15 (fPlusE (fPlusE (fSlE true (fVar 5) foNo (foAt (fVar 14))) (fLst (faCons (fCall 2 (M__law_xor aSums) (faCons (fIxE true (fVar 5) (fVar 14)) (faCons (fTimesE (fLst (faCons (fK (.int 1)) faNil)) (fVar 4)) faNil)) []) faNil))) (fSlE true (fVar 5) (foAt (fPlusE (fVar 14) (fK (.int 1)))) foNo)))
  (fIfS (fTst (fOp oNe (fCall 2 (M_droplet aSums) (faCons (fVar 15) (faCons (fVar 10) faNil)) []) (fIf (fTst (fInE id (fVar 14) (fCall 2 (M_droplet_set aSums) (faCons (fVar 3) (faCons (fVar 10) faNil)) []))) (fCall 2 (M__law_xor aSums) (faCons (fCall 2 (M_droplet aSums) (faCons (fVar 5) (faCons (fVar 10) faNil)) []) (faCons (fTimesE (fLst (faCons (fK (.int 1)) faNil)) (fVar 4)) faNil)) []) (fCall 2 (M_droplet aSums) (faCons (fVar 5) (faCons (fVar 10) faNil)) []))))
  (fRet (fK (.bl false)))
  fNext)))))
theorem stC (ds : List Int) (c : Nat) (hc : 0 < c) (s0 s2 s4 s5 s6 s7 s8 s9 s10 s11 s12 s13 s14 : Slot) (tl : DL.Env) : ∃ t ds', t < c ∧ (fSet 14 (fCallL 2 (M__law_take aS) (fvLn (fVar 1) (fvIm (fVar 3) fvNil)) [])) (s0 :: oI ds :: s2 :: .im (eN c) :: s4 :: s5 :: s6 :: s7 :: s8 :: s9 :: s10 :: s11 :: s12 :: s13 :: s14 :: tl) = some (.nx (s0 :: oI ds' :: s2 :: .im (eN c) :: s4 :: s5 :: s6 :: s7 :: s8 :: s9 :: s10 :: s11 :: s12 :: s13 :: .im (eN t) :: tl)) := by
  obtain ⟨t, ht, hm⟩ := take_n (aS := aS) ds c hc
  refine ⟨t, ds.dropLast, ht, ?_⟩
  simp! only [oI, eN_s, hm]
theorem loop5 {sl ot : List (List Nat)} {n : Nat} (h1 : 1 ≤ sl.length) (hl : ot.length = sl.length) (h2 : sl.length ≤ 24) (hs : ∀ r ∈ sl, r.length = n) (ho : ∀ r ∈ ot, r.length = n) (hn : n ≤ 1000) (seeds : List Nat) (hse : ∀ s ∈ seeds, s < 65536) (ds : List Int) (s0 s2 s6 s7 s9 z10 z11 z12 z13 z14 z15 : Slot) (tl : DL.Env) (h12 : noOwS (some z12) = true) (h13 : noOwS (some z13) = true) :
    ∃ ds' b5 b8 y10 y11 y14 y15, goForF (fgName 10) (B5 aS) (seeds.map eN) (s0 :: oI ds :: s2 :: .im (eN sl.length) :: .im (eN n) :: sR true sl :: s6 :: s7 :: sR true ot :: s9 :: z10 :: z11 :: z12 :: z13 :: z14 :: z15 :: tl)
      = some (.nx (s0 :: oI ds' :: s2 :: .im (eN sl.length) :: .im (eN n) :: sR b5 sl :: s6 :: s7 :: sR b8 ot :: s9 :: y10 :: y11 :: z12 :: z13 :: y14 :: y15 :: tl)) := by
  obtain ⟨δ', h, ds', b5, b8, y10, y11, y14, y15, rfl⟩ := goForF_ind (g := fgName 10) (r := B5 aS) (fun i δ => ∃ ds b5 b8 z10 z11 z14 z15, δ = s0 :: oI ds :: s2 :: .im (eN sl.length) :: .im (eN n) :: sR b5 sl :: s6 :: s7 :: sR b8 ot :: s9 :: z10 :: z11 :: z12 :: z13 :: z14 :: z15 :: tl) (seeds.map eN) 0 ⟨ds, true, true, z10, z11, z14, z15, rfl⟩ (by
    rintro i y xs δ hy ⟨ds, b5, b8, z10, z11, z14, z15, rfl⟩
    rw [List.getElem?_map] at hy
    obtain ⟨s, hk, rfl⟩ := Option.map_eq_some_iff.mp hy
    have hss := hse s (List.mem_of_getElem? hk)
    have a1 := stA (aS := aS) (ot := ot) hs hn (by omega) b5 b8 s0 (oI ds) s2 (.im (eN sl.length)) (.im (eN n)) s6 s7 s9 (.im (eN s)) z11 z12 z13 (z14 :: z15 :: tl) h12 h13
    have a2 := stB (aS := aS) h1 hl h2 hs ho hn hss s0 (oI ds) s2 (.im (eN sl.length)) (.im (eN n)) s6 s7 s9 (z12 :: z13 :: z14 :: z15 :: tl) (fRet (fK (.bl false)))
    obtain ⟨t, ds', ht, a3⟩ := stC (aS := aS) ds sl.length (by omega) s0 s2 (.im (eN n)) (sR false sl) s6 s7 (sR false ot) s9 (.im (eN s)) (sR false (bothL sl ot)) z12 z13 z14 (z15 :: tl)
    have a4 := stD (aS := aS) ht h2 hs hn s0 (oI ds') s2 (.im (eN sl.length)) s6 s7 (sR false ot) s9 (.im (eN s)) (sR false (bothL sl ot)) z12 z13 z15 tl
    have a5 := stE (aS := aS) h1 ht h2 hs hn hss s0 (oI ds') s2 s6 s7 (sR false ot) s9 (sR false (bothL sl ot)) z12 z13 tl (fRet (fK (.bl false)))
    refine ⟨_, ?_, ds', false, false, .im (eN s), sR false (bothL sl ot), .im (eN t), sR false (bentL sl t n), rfl⟩
    rw [goForF_c]
    show ((fSeq _ _) (s0 :: oI ds :: s2 :: .im (eN sl.length) :: .im (eN n) :: sR b5 sl :: s6 :: s7 :: sR b8 ot :: s9 :: .im (eN s) :: z11 :: z12 :: z13 :: z14 :: z15 :: tl)).bind _ = _
    rw [seq_nx a1, seq_nx a2, seq_nx a3, seq_nx a4, a5]
    rfl)
  exact ⟨ds', b5, b8, y10, y11, y14, y15, h⟩
/-! lacks -/
theorem ok_non' : True := trivial
theorem lackS {c : Nat} {seeds : List Nat} (h1 : 1 ≤ c) (h2 : c ≤ 24) (h3 : ∀ s ∈ seeds, s < 65536) (hl : seeds.length ≤ 500) : M_lack aS [.im (.int c), .im (.lst (seeds.map eN))] = some (.im (.int ((c : Int) - rk c seeds)), [.im (.int c), .im (.lst (seeds.map eN))]) := m_lack c seeds h1 h2 h3 hl
theorem st7 {c : Nat} {seeds : List Nat} (h1 : 1 ≤ c) (h2 : c ≤ 7) (h3 : ∀ s ∈ seeds, s < 65536) (hl : seeds.length ≤ 100) (s0 s1 s2 s4 s5 s6 s7 s8 s10 s11 s12 s13 s14 s15 : Slot) (tl : DL.Env) (rest : FS) :
    (fIfS (fOr (fTst (fOp oGt (fVar 16) (fVar 3))) (fOr (fTst (fOp oNe (fCall 2 (M_lack aS) (faCons (fVar 3) (faCons (fLst faNil) faNil)) []) (fVar 3))) (fOr (fTst (fOp oNe (fCall 2 (M_lack aS) (faCons (fVar 3) (faCons (fPlusE (fVar 9) (fVar 9)) faNil)) []) (fVar 16))) (fTst (fOp oNe (fCall 2 (M_lack aS) (faCons (fVar 3) (faCons (fVL gRev (fVar 9)) faNil)) []) (fVar 16))))))
      rest fNext) (s0 :: s1 :: s2 :: .im (eN c) :: s4 :: s5 :: s6 :: s7 :: s8 :: .im (eL seeds) :: s10 :: s11 :: s12 :: s13 :: s14 :: s15 :: .im (.int ((c : Int) - rk c seeds)) :: tl) = some (.nx (s0 :: s1 :: s2 :: .im (eN c) :: s4 :: s5 :: s6 :: s7 :: s8 :: .im (eL seeds) :: s10 :: s11 :: s12 :: s13 :: s14 :: s15 :: .im (.int ((c : Int) - rk c seeds)) :: tl)) := by
  have r1 := rk_le h1 seeds
  have k1 := lackS (aS := aS) (c := c) (seeds := []) h1 (by omega) (fun s h => by cases h) (by simp)
  have k2 := lackS (aS := aS) (c := c) (seeds := seeds ++ seeds) h1 (by omega) (fun s h => (List.mem_append.mp h).elim (h3 s) (h3 s)) (by simp; omega)
  have k3 := lackS (aS := aS) (c := c) (seeds := seeds.reverse) h1 (by omega) (fun s h => h3 s (by simpa using h)) (by simp; omega)
  have e2 : rk c (seeds ++ seeds) = rk c seeds := Nat.le_antisymm (rk_mono (by simp)) (rk_mono (by simp))
  have e3 : rk c seeds.reverse = rk c seeds := Nat.le_antisymm (rk_mono (by simp)) (rk_mono (by simp))
  have e4 : (c : Int) - ((rk c [] : Nat) : Int) = c := by rw [rk_nil]; omega
  have d1 : decide ((c : Int) < (c : Int) - rk c seeds) = false := decide_eq_false (by omega)
  have hsz : seeds.length + seeds.length ≤ sizeLine := Nat.le_trans (show _ ≤ 1000 by omega) (by decide)
  rw [e2, List.map_append] at k2
  rw [e3, List.map_reverse] at k3
  rw [e4] at k1
  simp only [List.map_nil] at k1
  simp! only [eN_s, eL, d1, k1, k2, k3, hsz]
end K22
end
section
set_option Elab.async false
set_option linter.all false
set_option maxRecDepth 100000
set_option maxHeartbeats 1000000
namespace K22
open PySem L2 DL
local macro_rules | `(tactic| simp! only [$as,*]) => `(tactic| simp -implicitDefEqProofs only [$as,*, DL.fK_s, DL.fVar_s, DL.varSF_im, DL.varSF_ow, DL.asImF_im, DL.asImF_tm, DL.asImF_vr, DL.imOF_l, DL.imSF_im, DL.imSF_l, DL.some_bindF, DL.f1_s, DL.f2_s, DL.f2v_s, DL.fOp_s, DL.oI_s, DL.oI0_s, DL.oB0_s, DL.oEq_s, DL.oNe_s, DL.fV_s, DL.vw_im, DL.vw_tm, DL.vw_vr, DL.vw_at, DL.vwS_im, DL.vwS_ow, DL.toD_l, DL.toD_k, DL.toD_t, DL.gLen_l, DL.gLen_wl, DL.gLen_tup, DL.gLen_dK, DL.gSum_l, DL.gBs_l, DL.gAnyI_l, DL.gInt_i, DL.gInt_b, DL.gIsN_n, DL.gIsN_i, DL.gIsN_l, DL.gIsN_tup, DL.gIsN_s, DL.gIsN_b, DL.fVL_s, DL.gList_l, DL.gList_wl, DL.gList_tup, DL.gRev_l, DL.gTupl_l, DL.gTupl_t, DL.fTruT_s, DL.gTru_n, DL.gTru_b, DL.gTru_i, DL.gTru_l, DL.gTru_tup, DL.fAnd_s, DL.fOr_s, DL.fNot_s, DL.fIf_s, DL.fAndV_s, DL.fOrV_s, DL.fNotV_s, DL.onBlF_b, DL.fChain_s, DL.fTst_s, DL.blXF_b, DL.gIx_l, DL.gIx_wl, DL.gIx_tup, DL.gIx_dK, DL.gIx_dT, DL.keepF_im, DL.keepF_vr, DL.keepF_at, DL.keepF_tm, DL.fIxE_s, DL.fInE_s, DL.gIn_l, DL.gIn_tup, DL.gIn_dK, DL.gIn_dT, DL.fPlusE_s, DL.gPlus_i, DL.gPlus_l, DL.gPlus_t, DL.gPlus_s, DL.fTimesE_s, DL.gTimes_i, DL.gTimes_l, DL.faNil_s, DL.faCons_s, DL.fTup_s, DL.fLst_s, DL.fNewK_s, DL.fNewT_s, DL.foNo_s, DL.foAt_s, DL.onIntF_i, DL.fSlE_s, DL.gSl_l, DL.gSl_t, DL.fBits_s, DL.fNeg_s, DL.fMin2_s, DL.fMax2_s, DL.onPairF_i, DL.callF_s, DL.fCall_s, DL.resF_im, DL.resF_ow, DL.fvNil_s, DL.fvIm_s, DL.fvLn_s, DL.agF_im, DL.agF_vr, DL.fCallL_s, DL.callRF_s, DL.lendF_n, DL.lendF_i, DL.lendF_v, DL.lendSF_o, DL.lendSF_i, DL.joinF_n, DL.joinF_i, DL.joinF_o, DL.backF_n, DL.backF_i, DL.backF_vi, DL.backF_vo, DL.argS_n, DL.argS_i, DL.argS_o, DL.fMt_s, DL.staysB_v, DL.staysB_a, DL.okB_l, DL.okB_k, DL.okB_t, DL.obAt_v, DL.obAt_a, DL.obV_o, DL.obI_i, DL.obF_o, DL.setOb_v, DL.setOb_a, DL.setV_o, DL.setI_o, DL.gAppend_s, DL.gPop_s, DL.gPopAt_s, DL.gReverse_s, DL.gExtend_s, DL.fNext_s, DL.next_n, DL.next_r, DL.next_b, DL.next_c, DL.fSeq_s, DL.fBreak_s, DL.fCont_s, DL.fNever_s, DL.fDrop_s, DL.fIfS_s, DL.fRet_s, DL.retF_i, DL.retF_t, DL.retF_v, DL.retSF_i, DL.retSF_o, DL.fRetN_s, DL.fSet_s, DL.setF_t, DL.setF_i, DL.setF_v, DL.fgName_s, DL.fgNil_s, DL.fgCons_s, DL.fgTup_t, DL.fAsg_s, DL.fPar_s, DL.two_s, DL.fAug_s, DL.isImB_i, DL.augF_s, DL.fSub_s, DL.gPut_l, DL.gPut_k, DL.gPut_t, DL.fSeqI_s, DL.seqF_l, DL.seqF_wl, DL.seqF_t, DL.seqF_o, DL.seqF_v, DL.seqSlF_o, DL.fRg1_s, DL.fRg2_s, DL.fEnum_s, DL.fZip_s, DL.zipXs_l, DL.zipXs_t, DL.fFor_s, DL.finFor_n, DL.finFor_r, DL.finFor_g, DL.bkF_n, DL.bkF_g, DL.fLc_s, DL.fLc2_s, DL.fYes_s, DL.runB_s, DL.endF_n, DL.endF_r, DL.finF_n, DL.finF_i, DL.finF_o, DL.wipeE_n, DL.wipeE_c, DL.restE_n, DL.restE_c, DL.noOw_n, DL.noOw_c, DL.noOwS_u, DL.noOwS_i, DL.lcF_n, DL.lcF_c, DL.goForF_n, DL.goForF_c, DL.contF_n, DL.contF_c, DL.contF_b, DL.contF_r, DL.key_i, DL.key_s, DL.fItL_s, DL.dkOf_s, DL.fFld_s, DL.fXF_v, DL.fXF_d, DL.fXF_t, DL.vwAt_i, DL.vwF_s, DL.fvD_i, DL.fvD_o, DL.obD_k, DL.obD_l, DL.fSetF_s, DL.setFXF_d, DL.setFXF_o, DL.fMeth_s, DL.mXF_v, DL.mXF_d, DL.fMake_s, DL.mkRF_s, DL.mkXF_s, DL.fForItemsF_s, DL.fForItems_s, DL.plJ_a, DL.plJ_v, DL.itGF_s, DL.goItF_n, DL.goItF_c, DL.contI_n, DL.isVl_v, DL.bkF_v, DL.plusSub_1, DL.sl_0, DL.sl_1, DL.sl_2, DL.sl_3, DL.sl_4, DL.sl_5, DL.sl_6, DL.sl_7, DL.sl_8, DL.sl_9, DL.sx_0, DL.sx_1, DL.sx_2, DL.sx_3, DL.sx_4, DL.sx_5, DL.sx_6, DL.sx_7, DL.sx_8, DL.sx_9, List.getElem?_cons_zero, List.getElem?_cons_succ, List.set_cons_zero, List.set_cons_succ, List.nil_append, List.cons_append, List.append_nil, List.map_cons, List.map_nil, List.length_cons, List.length_nil, List.replicate_succ, List.replicate_zero, DL.ok_int, DL.eqv_int, DL.ok_bl, if_true, Bool.false_eq_true, if_false, true_and, and_true, and_self, List.length_map, Option.bind_none, Nat.zero_add, Option.getD_some, Bool.and_true, Bool.true_and, decide_eq_true_eq, Bool.not_true, Bool.not_false, ite_true, ite_false, Nat.reduceAdd, Int.reduceAdd, Nat.reduceEqDiff, eq_self, reduceIte, id_eq, Int.toNat_natCast, DL.ok_li, DL.ok_ti, DL.eqv_li, DL.eqv_ti, DL.ok_non, Nat.zero_le, decide_true, decide_false])
variable {aS : Addr}
theorem st8 (ds : List Int) (s0 s2 s3 s4 s5 s6 s7 s8 s9 s10 : Slot) (tl : DL.Env) : ∃ t ds', t < 65536 ∧ (fSet 10 (fTimesE (fCallL 2 (M__law_take aS) (fvLn (fVar 1) (fvIm (fK (.int 256)) fvNil)) []) (fK (.int 256)))) (s0 :: oI ds :: s2 :: s3 :: s4 :: s5 :: s6 :: s7 :: s8 :: s9 :: s10 :: tl) = some (.nx (s0 :: oI ds' :: s2 :: s3 :: s4 :: s5 :: s6 :: s7 :: s8 :: s9 :: .im (eN t) :: tl)) := by
  obtain ⟨t, ht, hm⟩ := take_n (aS := aS) ds 256 (by omega)
  have hm' : M__law_take aS [.ow (.arg 0) (.ob (.lst (ds.map D.int))), .im (.int 256)] = some (.im (.int (t : Nat)), [.ow (.arg 0) (.ob (.lst (ds.dropLast.map D.int))), .im (.int 256)]) := hm
  have k1 : CMulX (t : Int) 256 := mulx_ok (a := 64) (b := 64) (by omega) (by omega) (by omega)
  have e : (t : Int) * 256 = ((t * 256 : Nat) : Int) := by omega
  refine ⟨t * 256, ds.dropLast, by omega, ?_⟩
  simp! only [oI, eN_s, hm', k1, e]
theorem st9 {c : Nat} {seeds : List Nat} {t : Nat} (h1 : 1 ≤ c) (h2 : c ≤ 7) (h3 : ∀ s ∈ seeds, s < 65536) (ht : t < 65536) (hl : seeds.length ≤ 100) (s0 s1 s2 s4 s5 s6 s7 s8 s11 s12 s13 s14 s15 : Slot) (tl : DL.Env) (rest : FS) :
    (fIfS (fNot (fTst (fChain oLe oLe (fSubI (fVar 16) (fK (.int 1))) (fCall 2 (M_lack aS) (faCons (fVar 3) (faCons (fPlusE (fVar 9) (fLst (faCons (fVar 10) faNil))) faNil)) []) (fVar 16)))) rest fNext)
      (s0 :: s1 :: s2 :: .im (eN c) :: s4 :: s5 :: s6 :: s7 :: s8 :: .im (eL seeds) :: .im (eN t) :: s11 :: s12 :: s13 :: s14 :: s15 :: .im (.int ((c : Int) - rk c seeds)) :: tl) = some (.nx (s0 :: s1 :: s2 :: .im (eN c) :: s4 :: s5 :: s6 :: s7 :: s8 :: .im (eL seeds) :: .im (eN t) :: s11 :: s12 :: s13 :: s14 :: s15 :: .im (.int ((c : Int) - rk c seeds)) :: tl)) := by
  have k2 := lackS (aS := aS) (c := c) (seeds := seeds ++ [t]) h1 (by omega) (fun s h => (List.mem_append.mp h).elim (h3 s) fun h => by simp at h; omega) (by simp; omega)
  have hr := rk_app (c := c) seeds t
  have hb : rk c (seeds ++ [t]) ≤ rk c seeds + 1 ∧ rk c seeds ≤ rk c (seeds ++ [t]) := by rw [hr]; split <;> omega
  have d1 : (c : Int) - rk c seeds - 1 ≤ (c : Int) - rk c (seeds ++ [t]) := by omega
  have d2 : (c : Int) - rk c (seeds ++ [t]) ≤ (c : Int) - rk c seeds := by omega
  have hsz : seeds.length + 1 ≤ sizeLine := Nat.le_trans (show _ ≤ 1000 by omega) (by decide)
  rw [List.map_append, List.map_cons, List.map_nil] at k2
  simp only [eN_s] at k2
  simp! only [eN_s, eL, k2, hsz, d1, d2]
theorem st10 (seeds : List Nat) (s0 s1 s2 s3 s4 s5 s6 s7 s8 s10 s11 s12 s13 s14 s15 s16 s17 : Slot) (tl : DL.Env) : (fSet 17 (fVL gList (fVar 9))) (s0 :: s1 :: s2 :: s3 :: s4 :: s5 :: s6 :: s7 :: s8 :: .im (eL seeds) :: s10 :: s11 :: s12 :: s13 :: s14 :: s15 :: s16 :: s17 :: tl) = some (.nx (s0 :: s1 :: s2 :: s3 :: s4 :: s5 :: s6 :: s7 :: s8 :: .im (eL seeds) :: s10 :: s11 :: s12 :: s13 :: s14 :: s15 :: s16 :: oL seeds :: tl)) := by
  simp! only [eL, oL]
theorem bare_int {i : Int} : bareB (.im (.int i)) = true := rfl
theorem bare_non : bareB (.im .non) = true := rfl
theorem bare_l (l : List Nat) : bareB (.tm (.ob (.lst (l.map eN)))) = true := by
  show (l.map eN).all D.bare = true
  simp [List.all_map]
  intro x _; rfl
noncomputable abbrev B11 (aSums : Addr) : FS := (fSeq (fSet 18 (fBor 17 (fCall 2 (M_next_seed aSums) (faCons (fVar 3) (faCons (fVar 17) faNil)) [])))
  (fSeq (fIfS (fOr (fTst (fV (gIsN id) (fVar 18))) (fTst (fOp oNe (fCall 2 (M_lack aSums) (faCons (fVar 3) (faCons (fBor 17 (fPlusE (fVar 17) (fLst (faCons (fVar 18) faNil)))) faNil)) []) (fSubI (fSubI (fVar 16) (fVar 7)) (fK (.int 1))))))
  (fRet (fK (.bl false)))
  fNext)
  (fDrop (fMt .lst gAppend true (fVar 17) (faCons (fVar 18) faNil)))))
/-- next_seed of an owned list, borrowed -/
theorem borNext {more : List Nat} {c : Nat} {z : D} (hm : M_next_seed aS [.im (eN c), .im (eL more)] = some (.im z, [.im (eN c), .im (eL more)])) (hz : bareB (.im z) = true) (s0 s1 s2 s4 s5 s6 s7 s8 s9 s10 s11 s12 s13 s14 s15 s16 : Slot) (tl : DL.Env) :
    fBor 17 (fCall 2 (M_next_seed aS) (faCons (fVar 3) (faCons (fVar 17) faNil)) []) (s0 :: s1 :: s2 :: .im (eN c) :: s4 :: s5 :: s6 :: s7 :: s8 :: s9 :: s10 :: s11 :: s12 :: s13 :: s14 :: s15 :: s16 :: oL more :: tl) = some (.im z, s0 :: s1 :: s2 :: .im (eN c) :: s4 :: s5 :: s6 :: s7 :: s8 :: s9 :: s10 :: s11 :: s12 :: s13 :: s14 :: s15 :: s16 :: oL more :: tl) := by
  rw [fBor_s]
  refine borF_o (o := .ob (.lst (more.map eN))) ?_ hz
  simp only [eN_s, eL] at hm
  simp! only [eN_s, hm]
theorem borLack {more : List Nat} {c : Nat} {z : D} (hm : M_lack aS [.im (eN c), .im (eL more)] = some (.im z, [.im (eN c), .im (eL more)])) (hz : bareB (.im z) = true) (s0 s1 s2 s4 s5 s6 s7 s8 s9 s10 s11 s12 s13 s14 s15 s16 : Slot) (tl : DL.Env) :
    fBor 17 (fCall 2 (M_lack aS) (faCons (fVar 3) (faCons (fVar 17) faNil)) []) (s0 :: s1 :: s2 :: .im (eN c) :: s4 :: s5 :: s6 :: s7 :: s8 :: s9 :: s10 :: s11 :: s12 :: s13 :: s14 :: s15 :: s16 :: oL more :: tl) = some (.im z, s0 :: s1 :: s2 :: .im (eN c) :: s4 :: s5 :: s6 :: s7 :: s8 :: s9 :: s10 :: s11 :: s12 :: s13 :: s14 :: s15 :: s16 :: oL more :: tl) := by
  rw [fBor_s]
  refine borF_o (o := .ob (.lst (more.map eN))) ?_ hz
  simp only [eN_s, eL] at hm
  simp! only [eN_s, hm]
theorem borPlus {more : List Nat} {t : Nat} (hsz : more.length + 1 ≤ 1000) (s0 s1 s2 s3 s4 s5 s6 s7 s8 s9 s10 s11 s12 s13 s14 s15 s16 : Slot) (tl : DL.Env) :
    fBor 17 (fPlusE (fVar 17) (fLst (faCons (fVar 18) faNil))) (s0 :: s1 :: s2 :: s3 :: s4 :: s5 :: s6 :: s7 :: s8 :: s9 :: s10 :: s11 :: s12 :: s13 :: s14 :: s15 :: s16 :: oL more :: .im (eN t) :: tl) = some (.tm (.ob (.lst ((more ++ [t]).map eN))), s0 :: s1 :: s2 :: s3 :: s4 :: s5 :: s6 :: s7 :: s8 :: s9 :: s10 :: s11 :: s12 :: s13 :: s14 :: s15 :: s16 :: oL more :: .im (eN t) :: tl) := by
  rw [fBor_s]
  refine borF_o (o := .ob (.lst (more.map eN))) ?_ (bare_l _)
  have h : more.length + 1 ≤ sizeLine := Nat.le_trans hsz (by decide)
  simp! only [eN_s, h, List.map_append]
theorem loop11 {c : Nat} {seeds : List Nat} (h1 : 1 ≤ c) (h2 : c ≤ 7) (h3 : ∀ s ∈ seeds, s < 65536) (hl : seeds.length ≤ 100) (s0 s1 s2 s4 s5 s6 s7 s8 s9 s10 s11 s12 s13 s14 s15 s18 : Slot) (tl : DL.Env) :
    ∃ more y7 y18, (∀ s ∈ more, s < 65536) ∧ more.length ≤ seeds.length + 7 ∧ rk c more = c ∧ (∃ e, more = seeds ++ e) ∧ (noOwS (some s7) = true → noOwS (some y7) = true) ∧ goForF (fgName 7) (B11 aS) ((List.range (c - rk c seeds)).map eN) (s0 :: s1 :: s2 :: .im (eN c) :: s4 :: s5 :: s6 :: s7 :: s8 :: s9 :: s10 :: s11 :: s12 :: s13 :: s14 :: s15 :: .im (.int ((c : Int) - rk c seeds)) :: oL seeds :: s18 :: tl)
      = some (.nx (s0 :: s1 :: s2 :: .im (eN c) :: s4 :: s5 :: s6 :: y7 :: s8 :: s9 :: s10 :: s11 :: s12 :: s13 :: s14 :: s15 :: .im (.int ((c : Int) - rk c seeds)) :: oL more :: y18 :: tl)) := by
  have r1 := rk_le h1 seeds
  obtain ⟨δ', h, more, y7, y18, m1, m2, m3, m4, m5, rfl⟩ := goForF_ind (g := fgName 7) (r := B11 aS) (fun i δ => ∃ more y7 y18, (∀ s ∈ more, s < 65536) ∧ more.length = seeds.length + i ∧ rk c more = rk c seeds + i ∧ (∃ e, more = seeds ++ e) ∧ (noOwS (some s7) = true → noOwS (some y7) = true) ∧ δ = s0 :: s1 :: s2 :: .im (eN c) :: s4 :: s5 :: s6 :: y7 :: s8 :: s9 :: s10 :: s11 :: s12 :: s13 :: s14 :: s15 :: .im (.int ((c : Int) - rk c seeds)) :: oL more :: y18 :: tl)
    ((List.range (c - rk c seeds)).map eN) 0 ⟨seeds, s7, s18, h3, rfl, rfl, ⟨[], by simp⟩, id, rfl⟩ (by
    rintro i y xs δ hy ⟨more, y7, y18, m1, m2, m3, ⟨e, m4⟩, m5, rfl⟩
    rw [Nat.zero_add] at *
    have hi : i < c - rk c seeds := by have := (List.getElem?_eq_some_iff.mp hy).1; simpa using this
    rw [List.getElem?_map, List.getElem?_range hi] at hy
    cases hy
    have hlt : rk c more < c := by omega
    have hn := m_next (aS := aS) c more h1 (by omega) m1 (by omega)
    rw [if_pos hlt] at hn
    obtain ⟨t, ht, hsp, hm⟩ := hn (ex_seed h1 h2 more hlt)
    have hnew := rk_new hsp
    have k1 := lackS (aS := aS) (c := c) (seeds := more ++ [t]) h1 (by omega) (fun s h => (List.mem_append.mp h).elim (m1 s) fun h => by simp at h; omega) (by simp; omega)
    have b1 := borNext (aS := aS) hm bare_int s0 s1 s2 s4 s5 s6 (.im (eN i)) s8 s9 s10 s11 s12 s13 s14 s15 (.im (.int ((c : Int) - rk c seeds))) (y18 :: tl)
    have b2 := borPlus (more := more) (t := t) (by omega) s0 s1 s2 (.im (eN c)) s4 s5 s6 (.im (eN i)) s8 s9 s10 s11 s12 s13 s14 s15 (.im (.int ((c : Int) - rk c seeds))) tl
    have d1 : (c : Int) - rk c (more ++ [t]) = (c : Int) - rk c seeds - i - 1 := by omega
    rw [d1] at k1
    have hsz : more.length < sizeLine := Nat.lt_of_lt_of_le (show _ < 1000 by omega) (by decide)
    refine ⟨_, ?_, more ++ [t], .im (eN i), .im (eN t), fun s h => (List.mem_append.mp h).elim (m1 s) fun h => by simp at h; omega, by simp; omega, by omega, ⟨e ++ [t], by rw [m4]; simp⟩, fun _ => rfl, rfl⟩
    unfold B11
    generalize fBor 17 (fCall 2 (M_next_seed aS) (faCons (fVar 3) (faCons (fVar 17) faNil)) []) = E1 at b1 ⊢
    generalize fBor 17 (fPlusE (fVar 17) (fLst (faCons (fVar 18) faNil))) = E2 at b2 ⊢
    simp only [eN_s, oL, List.map_append, List.map_cons, List.map_nil] at b1 b2 k1
    simp! only [goForF_c, eN_s, oL, b1, b2, k1, hsz, List.map_append])
  rw [List.length_map, List.length_range, Nat.zero_add] at m2 m3
  exact ⟨more, y7, y18, m1, by omega, by omega, m4, m5, h⟩
theorem st12 {c : Nat} {more : List Nat} (h1 : 1 ≤ c) (h2 : c ≤ 7) (h3 : ∀ s ∈ more, s < 65536) (hl : more.length ≤ 200) (hr : rk c more = c) (s0 s1 s2 s4 s5 s6 s7 s8 s9 s10 s11 s12 s13 s14 s15 s16 : Slot) (tl : DL.Env) (rest : FS) :
    (fIfS (fOr (fTst (fV (gIsN Bool.not) (fBor 17 (fCall 2 (M_next_seed aS) (faCons (fVar 3) (faCons (fVar 17) faNil)) [])))) (fTst (fOp oNe (fBor 17 (fCall 2 (M_lack aS) (faCons (fVar 3) (faCons (fVar 17) faNil)) [])) (fK (.int 0))))) rest fNext)
      (s0 :: s1 :: s2 :: .im (eN c) :: s4 :: s5 :: s6 :: s7 :: s8 :: s9 :: s10 :: s11 :: s12 :: s13 :: s14 :: s15 :: s16 :: oL more :: tl) = some (.nx (s0 :: s1 :: s2 :: .im (eN c) :: s4 :: s5 :: s6 :: s7 :: s8 :: s9 :: s10 :: s11 :: s12 :: s13 :: s14 :: s15 :: s16 :: oL more :: tl)) := by
  have hn := m_next (aS := aS) c more h1 (by omega) h3 (by omega)
  rw [if_neg (by omega)] at hn
  have hk := m_lack (aS := aS) c more h1 (by omega) h3 (by omega)
  rw [show (c : Int) - rk c more = 0 by omega] at hk
  have b1 := borNext (aS := aS) hn bare_non s0 s1 s2 s4 s5 s6 s7 s8 s9 s10 s11 s12 s13 s14 s15 s16 tl
  have b2 := borLack (aS := aS) hk bare_int s0 s1 s2 s4 s5 s6 s7 s8 s9 s10 s11 s12 s13 s14 s15 s16 tl
  generalize fBor 17 (fCall 2 (M_next_seed aS) (faCons (fVar 3) (faCons (fVar 17) faNil)) []) = E1 at b1 ⊢
  generalize fBor 17 (fCall 2 (M_lack aS) (faCons (fVar 3) (faCons (fVar 17) faNil)) []) = E2 at b2 ⊢
  simp! only [b1, b2]
end K22
end
section
set_option Elab.async false
set_option linter.all false
set_option maxRecDepth 100000
set_option maxHeartbeats 1000000
namespace K22
open PySem L2 DL
local macro_rules | `(tactic| simp! only [$as,*]) => `(tactic| simp -implicitDefEqProofs only [$as,*, DL.fK_s, DL.fVar_s, DL.varSF_im, DL.varSF_ow, DL.asImF_im, DL.asImF_tm, DL.asImF_vr, DL.imOF_l, DL.imSF_im, DL.imSF_l, DL.some_bindF, DL.f1_s, DL.f2_s, DL.f2v_s, DL.fOp_s, DL.oI_s, DL.oI0_s, DL.oB0_s, DL.oEq_s, DL.oNe_s, DL.fV_s, DL.vw_im, DL.vw_tm, DL.vw_vr, DL.vw_at, DL.vwS_im, DL.vwS_ow, DL.toD_l, DL.toD_k, DL.toD_t, DL.gLen_l, DL.gLen_wl, DL.gLen_tup, DL.gLen_dK, DL.gSum_l, DL.gBs_l, DL.gAnyI_l, DL.gInt_i, DL.gInt_b, DL.gIsN_n, DL.gIsN_i, DL.gIsN_l, DL.gIsN_tup, DL.gIsN_s, DL.gIsN_b, DL.fVL_s, DL.gList_l, DL.gList_wl, DL.gList_tup, DL.gRev_l, DL.gTupl_l, DL.gTupl_t, DL.fTruT_s, DL.gTru_n, DL.gTru_b, DL.gTru_i, DL.gTru_l, DL.gTru_tup, DL.fAnd_s, DL.fOr_s, DL.fNot_s, DL.fIf_s, DL.fAndV_s, DL.fOrV_s, DL.fNotV_s, DL.onBlF_b, DL.fChain_s, DL.fTst_s, DL.blXF_b, DL.gIx_l, DL.gIx_wl, DL.gIx_tup, DL.gIx_dK, DL.gIx_dT, DL.keepF_im, DL.keepF_vr, DL.keepF_at, DL.keepF_tm, DL.fIxE_s, DL.fInE_s, DL.gIn_l, DL.gIn_tup, DL.gIn_dK, DL.gIn_dT, DL.fPlusE_s, DL.gPlus_i, DL.gPlus_l, DL.gPlus_t, DL.gPlus_s, DL.fTimesE_s, DL.gTimes_i, DL.gTimes_l, DL.faNil_s, DL.faCons_s, DL.fTup_s, DL.fLst_s, DL.fNewK_s, DL.fNewT_s, DL.foNo_s, DL.foAt_s, DL.onIntF_i, DL.fSlE_s, DL.gSl_l, DL.gSl_t, DL.fBits_s, DL.fNeg_s, DL.fMin2_s, DL.fMax2_s, DL.onPairF_i, DL.callF_s, DL.fCall_s, DL.resF_im, DL.resF_ow, DL.fvNil_s, DL.fvIm_s, DL.fvLn_s, DL.agF_im, DL.agF_vr, DL.fCallL_s, DL.callRF_s, DL.lendF_n, DL.lendF_i, DL.lendF_v, DL.lendSF_o, DL.lendSF_i, DL.joinF_n, DL.joinF_i, DL.joinF_o, DL.backF_n, DL.backF_i, DL.backF_vi, DL.backF_vo, DL.argS_n, DL.argS_i, DL.argS_o, DL.fMt_s, DL.staysB_v, DL.staysB_a, DL.okB_l, DL.okB_k, DL.okB_t, DL.obAt_v, DL.obAt_a, DL.obV_o, DL.obI_i, DL.obF_o, DL.setOb_v, DL.setOb_a, DL.setV_o, DL.setI_o, DL.gAppend_s, DL.gPop_s, DL.gPopAt_s, DL.gReverse_s, DL.gExtend_s, DL.fNext_s, DL.next_n, DL.next_r, DL.next_b, DL.next_c, DL.fSeq_s, DL.fBreak_s, DL.fCont_s, DL.fNever_s, DL.fDrop_s, DL.fIfS_s, DL.fRet_s, DL.retF_i, DL.retF_t, DL.retF_v, DL.retSF_i, DL.retSF_o, DL.fRetN_s, DL.fSet_s, DL.setF_t, DL.setF_i, DL.setF_v, DL.fgName_s, DL.fgNil_s, DL.fgCons_s, DL.fgTup_t, DL.fAsg_s, DL.fPar_s, DL.two_s, DL.fAug_s, DL.isImB_i, DL.augF_s, DL.fSub_s, DL.gPut_l, DL.gPut_k, DL.gPut_t, DL.fSeqI_s, DL.seqF_l, DL.seqF_wl, DL.seqF_t, DL.seqF_o, DL.seqF_v, DL.seqSlF_o, DL.fRg1_s, DL.fRg2_s, DL.fEnum_s, DL.fZip_s, DL.zipXs_l, DL.zipXs_t, DL.fFor_s, DL.finFor_n, DL.finFor_r, DL.finFor_g, DL.bkF_n, DL.bkF_g, DL.fLc_s, DL.fLc2_s, DL.fYes_s, DL.runB_s, DL.endF_n, DL.endF_r, DL.finF_n, DL.finF_i, DL.finF_o, DL.wipeE_n, DL.wipeE_c, DL.restE_n, DL.restE_c, DL.noOw_n, DL.noOw_c, DL.noOwS_u, DL.noOwS_i, DL.lcF_n, DL.lcF_c, DL.goForF_n, DL.goForF_c, DL.contF_n, DL.contF_c, DL.contF_b, DL.contF_r, DL.key_i, DL.key_s, DL.fItL_s, DL.dkOf_s, DL.fFld_s, DL.fXF_v, DL.fXF_d, DL.fXF_t, DL.vwAt_i, DL.vwF_s, DL.fvD_i, DL.fvD_o, DL.obD_k, DL.obD_l, DL.fSetF_s, DL.setFXF_d, DL.setFXF_o, DL.fMeth_s, DL.mXF_v, DL.mXF_d, DL.fMake_s, DL.mkRF_s, DL.mkXF_s, DL.fForItemsF_s, DL.fForItems_s, DL.plJ_a, DL.plJ_v, DL.itGF_s, DL.goItF_n, DL.goItF_c, DL.contI_n, DL.isVl_v, DL.bkF_v, DL.plusSub_1, DL.sl_0, DL.sl_1, DL.sl_2, DL.sl_3, DL.sl_4, DL.sl_5, DL.sl_6, DL.sl_7, DL.sl_8, DL.sl_9, DL.sx_0, DL.sx_1, DL.sx_2, DL.sx_3, DL.sx_4, DL.sx_5, DL.sx_6, DL.sx_7, DL.sx_8, DL.sx_9, List.getElem?_cons_zero, List.getElem?_cons_succ, List.set_cons_zero, List.set_cons_succ, List.nil_append, List.cons_append, List.append_nil, List.map_cons, List.map_nil, List.length_cons, List.length_nil, List.replicate_succ, List.replicate_zero, DL.ok_int, DL.eqv_int, DL.ok_bl, if_true, Bool.false_eq_true, if_false, true_and, and_true, and_self, List.length_map, Option.bind_none, Nat.zero_add, Option.getD_some, Bool.and_true, Bool.true_and, decide_eq_true_eq, Bool.not_true, Bool.not_false, ite_true, ite_false, Nat.reduceAdd, Int.reduceAdd, Nat.reduceEqDiff, eq_self, reduceIte, id_eq, Int.toNat_natCast, DL.ok_li, DL.ok_ti, DL.eqv_li, DL.eqv_ti, DL.ok_non, Nat.zero_le, decide_true, decide_false])
variable {aS : Addr}
def drs (sl : List (List Nat)) (l : List Nat) : List (Nat × List Nat) := l.map fun e => (e, drop sl e)
noncomputable abbrev cD (aS : Addr) : FE := fTup (faCons (fVar 20) (faCons (fCall 2 (M_droplet aS) (faCons (fVar 5) (faCons (fVar 20) faNil)) []) faNil))
/-- (each, droplet(slices, each)) for each of a list -/
theorem compD0 {sl : List (List Nat)} {n : Nat} (h1 : 1 ≤ sl.length) (h2 : sl.length ≤ 24) (hs : ∀ r ∈ sl, r.length = n) (hn : n ≤ 1000) (l : List Nat) (hl : ∀ s ∈ l, s < 65536) (acc : List D) (s0 s1 s2 s3 s4 s6 s7 s8 s9 s10 s11 s12 s13 s14 s15 s16 s17 s18 s19 : Slot) (tl : DL.Env) :
    lcF [20] (fgName 20) fYes (cD aS) (l.map eN) acc (s0 :: s1 :: s2 :: s3 :: s4 :: sR false sl :: s6 :: s7 :: s8 :: s9 :: s10 :: s11 :: s12 :: s13 :: s14 :: s15 :: s16 :: s17 :: s18 :: s19 :: .un :: tl) = some (acc ++ (drs sl l).map drD, s0 :: s1 :: s2 :: s3 :: s4 :: sR false sl :: s6 :: s7 :: s8 :: s9 :: s10 :: s11 :: s12 :: s13 :: s14 :: s15 :: s16 :: s17 :: s18 :: s19 :: .un :: tl) := by
  have := lcF_map (vs := [20]) (g := fgName 20) (ft := fYes) (fe := cD aS) eN (fun e => drD (e, drop sl e)) (δ := s0 :: s1 :: s2 :: s3 :: s4 :: sR false sl :: s6 :: s7 :: s8 :: s9 :: s10 :: s11 :: s12 :: s13 :: s14 :: s15 :: s16 :: s17 :: s18 :: s19 :: .un :: tl) l acc (fun e he xs acc => by
    have d2 := m_drop (aS := aS) sl e n h1 h2 hs hn (hl e he)
    simp only [eL, oL, eR, eN_s] at d2
    simp! only [cD, sR_f, rowE, eN_s, eL, drD, d2])
  rw [this]
  congr 2
  unfold drs
  rw [List.map_map]; rfl
theorem compD {sl : List (List Nat)} {n : Nat} (h1 : 1 ≤ sl.length) (h2 : sl.length ≤ 24) (hs : ∀ r ∈ sl, r.length = n) (hn : n ≤ 1000) (l : List Nat) (hl : ∀ s ∈ l, s < 65536) (b5 : Bool) (s0 s1 s2 s3 s4 s6 s7 s8 s9 s10 s11 s12 s13 s14 s15 s16 s17 s18 s19 : Slot) (tl : DL.Env) :
    ∃ b5', lcF [20] (fgName 20) fYes (cD aS) (l.map eN) [] (s0 :: s1 :: s2 :: s3 :: s4 :: sR b5 sl :: s6 :: s7 :: s8 :: s9 :: s10 :: s11 :: s12 :: s13 :: s14 :: s15 :: s16 :: s17 :: s18 :: s19 :: .un :: tl) = some ((drs sl l).map drD, s0 :: s1 :: s2 :: s3 :: s4 :: sR b5' sl :: s6 :: s7 :: s8 :: s9 :: s10 :: s11 :: s12 :: s13 :: s14 :: s15 :: s16 :: s17 :: s18 :: s19 :: .un :: tl) := by
  cases b5 with
  | false => exact ⟨false, compD0 h1 h2 hs hn l hl [] _ _ _ _ _ _ _ _ _ _ _ _ _ _ _ _ _ _ _ _⟩
  | true =>
    cases l with
    | nil => exact ⟨true, rfl⟩
    | cons e l =>
      refine ⟨false, ?_⟩
      have d2 := m_drop (aS := aS) sl e n h1 h2 hs hn (hl e (by simp))
      simp only [eL, oL, eR, eN_s] at d2
      have key := compD0 (aS := aS) h1 h2 hs hn l (fun s hs => hl s (by simp [hs])) [drD (e, drop sl e)] s0 s1 s2 s3 s4 s6 s7 s8 s9 s10 s11 s12 s13 s14 s15 s16 s17 s18 s19 tl
      have e1 : [drD (e, drop sl e)] ++ (drs sl l).map drD = (drs sl (e :: l)).map drD := rfl
      rw [e1] at key
      rw [← key]
      simp! only [cD, sR_f, sR_t, rowE, eN_s, eL, drD, d2]
theorem gath {sl : List (List Nat)} {n : Nat} (h1 : 1 ≤ sl.length) (h2 : sl.length ≤ 24) (hs : ∀ r ∈ sl, r.length = n) (hn : n ≤ 1000) (l : List Nat) (hl : ∀ s ∈ l, s < 65536) (hll : l.length ≤ 300) :
    M_gathered_slices aS [.im (eN sl.length), .im (.lst ((drs sl l).map drD))] = some (.ow .fresh (.ob (.lst ((List.range sl.length).map fun i => oD (cell (rowsL (Lof sl.length (drs sl l))) i)))), [.im (eN sl.length), .im (.lst ((drs sl l).map drD))]) := by
  refine m_gath sl.length n (drs sl l) h1 h2 (fun p hp => ?_) (fun p hp => ?_) hn (by unfold drs; simp; omega) fun i p hp => ?_
  · obtain ⟨e, he, rfl⟩ := List.mem_map.mp hp; exact hl e he
  · obtain ⟨e, he, rfl⟩ := List.mem_map.mp hp; exact drop_len' h1 hs e
  · obtain ⟨e, he, rfl⟩ := List.mem_map.mp (List.mem_of_getElem? hp)
    refine (K.add (sl := sl) (n := n) (rowsL_K _ fun q hq => ?_) (drop_phi h1 hs e)).2
    unfold Lof at hq
    obtain ⟨r, hr, rfl⟩ := List.mem_map.mp hq
    obtain ⟨e', he', rfl⟩ := List.mem_map.mp (List.mem_of_mem_take hr)
    exact drop_phi h1 hs e'
/-- what the rows of such droplets are -/
theorem rows_facts {sl : List (List Nat)} {n : Nat} (h1 : 1 ≤ sl.length) (hs : ∀ r ∈ sl, r.length = n) (l : List Nat) :
    J (ms sl.length l) (rowsL (Lof sl.length (drs sl l))) ∧ (rowsL (Lof sl.length (drs sl l))).length = rk sl.length l ∧ K sl n (rowsL (Lof sl.length (drs sl l))) := by
  have j := (rowsL_J (Lof sl.length (drs sl l))).1
  have e : (Lof sl.length (drs sl l)).map (·.1) = ms sl.length l := by unfold Lof drs; rw [List.map_map, List.map_map]; rfl
  rw [e] at j
  refine ⟨j, Nat.le_antisymm (j.rank (R0_J _ l) fun m hm => Sp.mem hm) ((R0_J _ l).rank j fun m hm => Sp.mem hm), rowsL_K _ fun q hq => ?_⟩
  unfold Lof at hq
  obtain ⟨r, hr, rfl⟩ := List.mem_map.mp hq
  obtain ⟨e', he', rfl⟩ := List.mem_map.mp hr
  exact drop_phi h1 hs e'
theorem cell_some {sl : List (List Nat)} {n : Nat} (hs : ∀ r ∈ sl, r.length = n) {rows : List Row} (k : K sl n rows) {i : Nat} (hi : i < sl.length) {o : List Nat} (h : cell rows i = some o) : o = sl.getD i [] := by
  unfold cell at h
  split at h
  · rename_i r hr
    split at h
    · rename_i hm
      cases h
      rw [k r (List.mem_of_find?_eq_some hr), hm, phi_unit hs hi]
    · cases h
  · cases h
theorem all_found {sl : List (List Nat)} {n : Nat} (h1 : 1 ≤ sl.length) (hs : ∀ r ∈ sl, r.length = n) {l : List Nat} (h : rk sl.length l = sl.length) : ((List.range sl.length).map fun i => oD (cell (rowsL (Lof sl.length (drs sl l))) i)) = sl.map rowE := by
  obtain ⟨j, e, k⟩ := rows_facts h1 hs l
  refine List.ext_getElem (by simp) fun i h3 h4 => ?_
  have hi : i < sl.length := by simpa using h4
  obtain ⟨r, hr, hm⟩ := full j (ms_lt h1 l) (by rw [e, h]) i hi
  have hc : cell (rowsL (Lof sl.length (drs sl l))) i = some r.2.2 := by unfold cell; rw [hr]; exact if_pos hm
  have := cell_some hs k hi hc
  simp only [List.getElem_map, List.getElem_range, hc]
  rw [this]
  show rowE (sl.getD i []) = rowE sl[i]
  rw [List.getD_eq_getElem?_getD, List.getElem?_eq_getElem hi]
  rfl
theorem none_iff {sl : List (List Nat)} {n : Nat} (h1 : 1 ≤ sl.length) (hs : ∀ r ∈ sl, r.length = n) (l : List Nat) : (∃ i, i < sl.length ∧ cell (rowsL (Lof sl.length (drs sl l))) i = none) ↔ rk sl.length l < sl.length := by
  obtain ⟨j, e, k⟩ := rows_facts h1 hs l
  constructor
  · rintro ⟨i, hi, hc⟩
    refine Classical.byContradiction fun hn => ?_
    have hle := rk_le h1 l
    obtain ⟨r, hr, hm⟩ := full j (ms_lt h1 l) (by omega) i hi
    unfold cell at hc
    rw [hr] at hc
    have hc' : (if r.2.1 = 2 ^ i then some r.2.2 else none) = none := hc
    rw [if_pos hm] at hc'
    cases hc'
  · intro hlt
    refine Classical.byContradiction fun hn => ?_
    have hall : ∀ i, i < sl.length → i ∈ (rowsL (Lof sl.length (drs sl l))).map (·.1) := fun i hi => by
      cases hf : (rowsL (Lof sl.length (drs sl l))).find? fun r => decide (r.1 = i) with
      | none => exact absurd ⟨i, hi, by unfold cell; rw [hf]⟩ hn
      | some r =>
        have he : r.1 = i := by have := List.find?_some hf; simpa using this
        exact he ▸ List.mem_map_of_mem (List.mem_of_find?_eq_some hf)
    have := nodup_le (List.nodup_range (n := sl.length)) fun k hk => hall k (List.mem_range.mp hk)
    rw [List.length_range, List.length_map, e] at this
    omega
instance eqdO : EqD 1 oD where
  lay := fun a => by
    cases a with
    | none => show PyData.canLay0 .none = true; simp only [PyData.canLay0]
    | some o => exact (eqdL (f := eN)).lay o
  dep := fun a => by
    cases a with
    | none => show PyData.depth .none ≤ 1; simp only [PyData.depth]; omega
    | some o => exact (eqdL (f := eN)).dep o
  eqv := fun a b => by
    cases a with
    | none => cases b with
      | none => show PyData.eqv .none .none = true ↔ _; simp only [PyData.eqv]
      | some o => show PyData.eqv .none (.list (D.pys (o.map eN))) = true ↔ _; simp [PyData.eqv]
    | some o => cases b with
      | none => show PyData.eqv (.list (D.pys (o.map eN))) .none = true ↔ _; simp [PyData.eqv]
      | some p =>
        have := (eqdL (f := eN)).eqv o p
        rw [Option.some.injEq]
        exact this
theorem ok_lO (a : List (Option (List Nat))) : (D.lst (a.map oD)).ok = True := okE (fun l : List (Option (List Nat)) => D.lst (l.map oD)) (by decide) a
theorem any_non (a : List (Option (List Nat))) : (a.map oD).any (fun z => z.eqv .non) = a.any fun x => x.isNone := by
  rw [List.any_map]
  congr 1
  funext x
  show (oD x).eqv (oD none) = _
  rw [eqvE oD]
  cases x <;> simp
end K22
end
section
set_option Elab.async false
set_option linter.all false
set_option maxRecDepth 100000
set_option maxHeartbeats 1000000
namespace K22
open PySem L2 DL
local macro_rules | `(tactic| simp! only [$as,*]) => `(tactic| simp -implicitDefEqProofs only [$as,*, DL.fK_s, DL.fVar_s, DL.varSF_im, DL.varSF_ow, DL.asImF_im, DL.asImF_tm, DL.asImF_vr, DL.imOF_l, DL.imSF_im, DL.imSF_l, DL.some_bindF, DL.f1_s, DL.f2_s, DL.f2v_s, DL.fOp_s, DL.oI_s, DL.oI0_s, DL.oB0_s, DL.oEq_s, DL.oNe_s, DL.fV_s, DL.vw_im, DL.vw_tm, DL.vw_vr, DL.vw_at, DL.vwS_im, DL.vwS_ow, DL.toD_l, DL.toD_k, DL.toD_t, DL.gLen_l, DL.gLen_wl, DL.gLen_tup, DL.gLen_dK, DL.gSum_l, DL.gBs_l, DL.gAnyI_l, DL.gInt_i, DL.gInt_b, DL.gIsN_n, DL.gIsN_i, DL.gIsN_l, DL.gIsN_tup, DL.gIsN_s, DL.gIsN_b, DL.fVL_s, DL.gList_l, DL.gList_wl, DL.gList_tup, DL.gRev_l, DL.gTupl_l, DL.gTupl_t, DL.fTruT_s, DL.gTru_n, DL.gTru_b, DL.gTru_i, DL.gTru_l, DL.gTru_tup, DL.fAnd_s, DL.fOr_s, DL.fNot_s, DL.fIf_s, DL.fAndV_s, DL.fOrV_s, DL.fNotV_s, DL.onBlF_b, DL.fChain_s, DL.fTst_s, DL.blXF_b, DL.gIx_l, DL.gIx_wl, DL.gIx_tup, DL.gIx_dK, DL.gIx_dT, DL.keepF_im, DL.keepF_vr, DL.keepF_at, DL.keepF_tm, DL.fIxE_s, DL.fInE_s, DL.gIn_l, DL.gIn_tup, DL.gIn_dK, DL.gIn_dT, DL.fPlusE_s, DL.gPlus_i, DL.gPlus_l, DL.gPlus_t, DL.gPlus_s, DL.fTimesE_s, DL.gTimes_i, DL.gTimes_l, DL.faNil_s, DL.faCons_s, DL.fTup_s, DL.fLst_s, DL.fNewK_s, DL.fNewT_s, DL.foNo_s, DL.foAt_s, DL.onIntF_i, DL.fSlE_s, DL.gSl_l, DL.gSl_t, DL.fBits_s, DL.fNeg_s, DL.fMin2_s, DL.fMax2_s, DL.onPairF_i, DL.callF_s, DL.fCall_s, DL.resF_im, DL.resF_ow, DL.fvNil_s, DL.fvIm_s, DL.fvLn_s, DL.agF_im, DL.agF_vr, DL.fCallL_s, DL.callRF_s, DL.lendF_n, DL.lendF_i, DL.lendF_v, DL.lendSF_o, DL.lendSF_i, DL.joinF_n, DL.joinF_i, DL.joinF_o, DL.backF_n, DL.backF_i, DL.backF_vi, DL.backF_vo, DL.argS_n, DL.argS_i, DL.argS_o, DL.fMt_s, DL.staysB_v, DL.staysB_a, DL.okB_l, DL.okB_k, DL.okB_t, DL.obAt_v, DL.obAt_a, DL.obV_o, DL.obI_i, DL.obF_o, DL.setOb_v, DL.setOb_a, DL.setV_o, DL.setI_o, DL.gAppend_s, DL.gPop_s, DL.gPopAt_s, DL.gReverse_s, DL.gExtend_s, DL.fNext_s, DL.next_n, DL.next_r, DL.next_b, DL.next_c, DL.fSeq_s, DL.fBreak_s, DL.fCont_s, DL.fNever_s, DL.fDrop_s, DL.fIfS_s, DL.fRet_s, DL.retF_i, DL.retF_t, DL.retF_v, DL.retSF_i, DL.retSF_o, DL.fRetN_s, DL.fSet_s, DL.setF_t, DL.setF_i, DL.setF_v, DL.fgName_s, DL.fgNil_s, DL.fgCons_s, DL.fgTup_t, DL.fAsg_s, DL.fPar_s, DL.two_s, DL.fAug_s, DL.isImB_i, DL.augF_s, DL.fSub_s, DL.gPut_l, DL.gPut_k, DL.gPut_t, DL.fSeqI_s, DL.seqF_l, DL.seqF_wl, DL.seqF_t, DL.seqF_o, DL.seqF_v, DL.seqSlF_o, DL.fRg1_s, DL.fRg2_s, DL.fEnum_s, DL.fZip_s, DL.zipXs_l, DL.zipXs_t, DL.fFor_s, DL.finFor_n, DL.finFor_r, DL.finFor_g, DL.bkF_n, DL.bkF_g, DL.fLc_s, DL.fLc2_s, DL.fYes_s, DL.runB_s, DL.endF_n, DL.endF_r, DL.finF_n, DL.finF_i, DL.finF_o, DL.wipeE_n, DL.wipeE_c, DL.restE_n, DL.restE_c, DL.noOw_n, DL.noOw_c, DL.noOwS_u, DL.noOwS_i, DL.lcF_n, DL.lcF_c, DL.goForF_n, DL.goForF_c, DL.contF_n, DL.contF_c, DL.contF_b, DL.contF_r, DL.key_i, DL.key_s, DL.fItL_s, DL.dkOf_s, DL.fFld_s, DL.fXF_v, DL.fXF_d, DL.fXF_t, DL.vwAt_i, DL.vwF_s, DL.fvD_i, DL.fvD_o, DL.obD_k, DL.obD_l, DL.fSetF_s, DL.setFXF_d, DL.setFXF_o, DL.fMeth_s, DL.mXF_v, DL.mXF_d, DL.fMake_s, DL.mkRF_s, DL.mkXF_s, DL.fForItemsF_s, DL.fForItems_s, DL.plJ_a, DL.plJ_v, DL.itGF_s, DL.goItF_n, DL.goItF_c, DL.contI_n, DL.isVl_v, DL.bkF_v, DL.plusSub_1, DL.sl_0, DL.sl_1, DL.sl_2, DL.sl_3, DL.sl_4, DL.sl_5, DL.sl_6, DL.sl_7, DL.sl_8, DL.sl_9, DL.sx_0, DL.sx_1, DL.sx_2, DL.sx_3, DL.sx_4, DL.sx_5, DL.sx_6, DL.sx_7, DL.sx_8, DL.sx_9, List.getElem?_cons_zero, List.getElem?_cons_succ, List.set_cons_zero, List.set_cons_succ, List.nil_append, List.cons_append, List.append_nil, List.map_cons, List.map_nil, List.length_cons, List.length_nil, List.replicate_succ, List.replicate_zero, DL.ok_int, DL.eqv_int, DL.ok_bl, if_true, Bool.false_eq_true, if_false, true_and, and_true, and_self, List.length_map, Option.bind_none, Nat.zero_add, Option.getD_some, Bool.and_true, Bool.true_and, decide_eq_true_eq, Bool.not_true, Bool.not_false, ite_true, ite_false, Nat.reduceAdd, Int.reduceAdd, Nat.reduceEqDiff, eq_self, reduceIte, id_eq, Int.toNat_natCast, DL.ok_li, DL.ok_ti, DL.eqv_li, DL.eqv_ti, DL.ok_non, Nat.zero_le, decide_true, decide_false])
variable {aS : Addr}
theorem st1 (ds : List Int) (s0 s2 s3 s4 : Slot) (tl : DL.Env) (h3 : noOwS (some s3) = true) (h4 : noOwS (some s4) = true) : ∃ c n ds', 1 ≤ c ∧ c ≤ 7 ∧ 1 ≤ n ∧ n ≤ 4 ∧ (fAsg (fTup (faCons (fPlusE (fK (.int 1)) (fCallL 2 (M__law_take aS) (fvLn (fVar 1) (fvIm (fK (.int 7)) fvNil)) [])) (faCons (fPlusE (fK (.int 1)) (fCallL 2 (M__law_take aS) (fvLn (fVar 1) (fvIm (fK (.int 4)) fvNil)) [])) faNil))) (fgTup 2 (fgCons (fgName 3) (fgCons (fgName 4) fgNil)))) (s0 :: oI ds :: s2 :: s3 :: s4 :: tl) = some (.nx (s0 :: oI ds' :: s2 :: .im (eN c) :: .im (eN n) :: tl)) := by
  obtain ⟨t, ht, hm⟩ := take_n (aS := aS) ds 7 (by omega)
  obtain ⟨t2, ht2, hm2⟩ := take_n (aS := aS) ds.dropLast 4 (by omega)
  have hm' : M__law_take aS [.ow (.arg 0) (.ob (.lst (ds.map D.int))), .im (.int 7)] = some (.im (.int (t : Nat)), [.ow (.arg 0) (.ob (.lst (ds.dropLast.map D.int))), .im (.int 7)]) := hm
  have hm2' : M__law_take aS [.ow (.arg 0) (.ob (.lst (ds.dropLast.map D.int))), .im (.int 4)] = some (.im (.int (t2 : Nat)), [.ow (.arg 0) (.ob (.lst (ds.dropLast.dropLast.map D.int))), .im (.int 4)]) := hm2
  have e1 : (1 : Int) + t = ((1 + t : Nat) : Int) := by omega
  have e2 : (1 : Int) + t2 = ((1 + t2 : Nat) : Int) := by omega
  refine ⟨1 + t, 1 + t2, ds.dropLast.dropLast, by omega, by omega, by omega, by omega, ?_⟩
  simp! only [oI, eN_s, hm', hm2', e1, e2]
theorem st6 {c : Nat} {seeds : List Nat} (h1 : 1 ≤ c) (h2 : c ≤ 24) (h3 : ∀ s ∈ seeds, s < 65536) (hl : seeds.length ≤ 400) (s0 s1 s2 s4 s5 s6 s7 s8 s10 s11 s12 s13 s14 s15 s16 : Slot) (tl : DL.Env) :
    (fSet 16 (fCall 2 (M_lack aS) (faCons (fVar 3) (faCons (fVar 9) faNil)) [])) (s0 :: s1 :: s2 :: .im (eN c) :: s4 :: s5 :: s6 :: s7 :: s8 :: oL seeds :: s10 :: s11 :: s12 :: s13 :: s14 :: s15 :: s16 :: tl) = some (.nx (s0 :: s1 :: s2 :: .im (eN c) :: s4 :: s5 :: s6 :: s7 :: s8 :: .im (eL seeds) :: s10 :: s11 :: s12 :: s13 :: s14 :: s15 :: .im (.int ((c : Int) - rk c seeds)) :: tl)) := by
  have k := lackS (aS := aS) (c := c) (seeds := seeds) h1 h2 h3 (by omega)
  simp! only [eN_s, oL, eL, k]
theorem st13 {sl : List (List Nat)} {n : Nat} {more : List Nat} (h1 : 1 ≤ sl.length) (h2 : sl.length ≤ 24) (hs : ∀ r ∈ sl, r.length = n) (hn : n ≤ 1000) (hm : ∀ s ∈ more, s < 65536) (hml : more.length ≤ 200) (hr : rk sl.length more = sl.length) (b5 : Bool) (s0 s1 s2 s4 s6 s7 s8 s9 s10 s11 s12 s13 s14 s15 s16 s18 s19 z20 : Slot) (tl : DL.Env) (h20 : noOwS (some z20) = true) :
    ∃ b5', (fSet 19 (fCall 2 (M_gathered_slices aS) (faCons (fVar 3) (faCons (fLc [20] (fSeqI (fVar 17)) (fgName 20) fYes (cD aS)) faNil)) [])) (s0 :: s1 :: s2 :: .im (eN sl.length) :: s4 :: sR b5 sl :: s6 :: s7 :: s8 :: s9 :: s10 :: s11 :: s12 :: s13 :: s14 :: s15 :: s16 :: oL more :: s18 :: s19 :: z20 :: tl)
      = some (.nx (s0 :: s1 :: s2 :: .im (eN sl.length) :: s4 :: sR b5' sl :: s6 :: s7 :: s8 :: s9 :: s10 :: s11 :: s12 :: s13 :: s14 :: s15 :: s16 :: oL more :: s18 :: sR true sl :: z20 :: tl)) := by
  obtain ⟨b5', hc⟩ := compD (aS := aS) h1 h2 hs hn more hm b5 s0 s1 s2 (.im (eN sl.length)) s4 s6 s7 s8 s9 s10 s11 s12 s13 s14 s15 s16 (.vl .non) s18 s19 tl
  have hg := gath (aS := aS) h1 h2 hs hn more hm (by omega)
  rw [all_found h1 hs hr] at hg
  have hl : more.length ≤ sizeLine := Nat.le_trans (show _ ≤ 1000 by omega) (by decide)
  refine ⟨b5', ?_⟩
  generalize cD aS = E at hc ⊢
  generalize sR b5 sl = S5 at hc ⊢
  generalize sR b5' sl = S5' at hc ⊢
  generalize (drs sl more).map drD = DD at hc hg
  simp only [eN_s, rowE] at hg hc
  simp! only [eN_s, oL, hl, h20, hc, hg, sR_t, rowE]
theorem st14 {sl : List (List Nat)} (b5 : Bool) (s0 s1 s2 s3 s4 s6 s7 s8 s9 s10 s11 s12 s13 s14 s15 s16 s17 s18 : Slot) (tl : DL.Env) (rest : FS) : (fIfS (fTst (fOp oNe (fVar 19) (fVar 5))) rest fNext) (s0 :: s1 :: s2 :: s3 :: s4 :: sR b5 sl :: s6 :: s7 :: s8 :: s9 :: s10 :: s11 :: s12 :: s13 :: s14 :: s15 :: s16 :: s17 :: s18 :: sR true sl :: tl)
     = some (.nx (s0 :: s1 :: s2 :: s3 :: s4 :: sR false sl :: s6 :: s7 :: s8 :: s9 :: s10 :: s11 :: s12 :: s13 :: s14 :: s15 :: s16 :: s17 :: s18 :: sR false sl :: tl)) := by
  have o := ok_lR sl
  have e := eqv_lR sl sl
  cases b5 <;> simp! only [sR_t, sR_f, o, e]
def somes (sl : List (List Nat)) (l : List Nat) : List (Option (List Nat)) := (List.range sl.length).map fun i => cell (rowsL (Lof sl.length (drs sl l))) i
theorem st15 {sl : List (List Nat)} {n : Nat} {seeds : List Nat} (h1 : 1 ≤ sl.length) (h2 : sl.length ≤ 24) (hs : ∀ r ∈ sl, r.length = n) (hn : n ≤ 1000) (hm : ∀ s ∈ seeds, s < 65536) (hml : seeds.length ≤ 200) (s0 s1 s2 s4 s6 s7 s8 s10 s11 s12 s13 s14 s15 s16 s17 s18 s19 z20 s21 : Slot) (tl : DL.Env) (h20 : noOwS (some z20) = true) :
    (fSet 21 (fCall 2 (M_gathered_slices aS) (faCons (fVar 3) (faCons (fLc [20] (fSeqI (fVar 9)) (fgName 20) fYes (cD aS)) faNil)) [])) (s0 :: s1 :: s2 :: .im (eN sl.length) :: s4 :: sR false sl :: s6 :: s7 :: s8 :: .im (eL seeds) :: s10 :: s11 :: s12 :: s13 :: s14 :: s15 :: s16 :: s17 :: s18 :: s19 :: z20 :: s21 :: tl)
      = some (.nx (s0 :: s1 :: s2 :: .im (eN sl.length) :: s4 :: sR false sl :: s6 :: s7 :: s8 :: .im (eL seeds) :: s10 :: s11 :: s12 :: s13 :: s14 :: s15 :: s16 :: s17 :: s18 :: s19 :: z20 :: .ow .fresh (.ob (.lst ((somes sl seeds).map oD))) :: tl)) := by
  have hc := compD0 (aS := aS) h1 h2 hs hn seeds hm [] s0 s1 s2 (.im (eN sl.length)) s4 s6 s7 s8 (.im (eL seeds)) s10 s11 s12 s13 s14 s15 s16 s17 s18 s19 (s21 :: tl)
  have hg := gath (aS := aS) h1 h2 hs hn seeds hm (by omega)
  have e : ((List.range sl.length).map fun i => oD (cell (rowsL (Lof sl.length (drs sl seeds))) i)) = (somes sl seeds).map oD := by unfold somes; rw [List.map_map]; rfl
  rw [e] at hg
  have hl : seeds.length ≤ sizeLine := Nat.le_trans (show _ ≤ 1000 by omega) (by decide)
  rw [List.nil_append] at hc
  generalize cD aS = E at hc ⊢
  generalize sR false sl = S5 at hc ⊢
  generalize (drs sl seeds).map drD = DD at hc hg
  generalize (somes sl seeds).map oD = OO at hg ⊢
  simp only [eN_s, eL] at hg hc
  simp! only [eN_s, eL, hl, h20, hc, hg]
theorem somes_len (sl : List (List Nat)) (l : List Nat) : (somes sl l).length = sl.length := by unfold somes; simp
theorem st16 {sl : List (List Nat)} {n : Nat} {seeds : List Nat} (h1 : 1 ≤ sl.length) (h2 : sl.length ≤ 24) (hs : ∀ r ∈ sl, r.length = n) (s0 s1 s2 s4 s6 s8 s9 s10 s11 s12 s13 s14 s15 s17 s18 s19 s20 z7 : Slot) (tl : DL.Env) (rest : FS) (h7 : noOwS (some z7) = true) :
    (fIfS (fOr (fTst (fOp oGt (fV gLen (fLc [7] (fRg1 (faCons (fVar 3) faNil)) (fgName 7) (fAnd (fTst (fV (gIsN Bool.not) (fIxE true (fVar 21) (fVar 7)))) (fTst (fOp oNe (fIxE true (fVar 21) (fVar 7)) (fIxE true (fVar 5) (fVar 7))))) (fK (.int 1)))) (fK (.int 0)))) (fTst (fOp oNe (fInE id (fK .non) (fVar 21)) (fOp oGt (fVar 16) (fK (.int 0)))))) rest fNext) (s0 :: s1 :: s2 :: .im (eN sl.length) :: s4 :: sR false sl :: s6 :: z7 :: s8 :: s9 :: s10 :: s11 :: s12 :: s13 :: s14 :: s15 :: .im (.int ((sl.length : Int) - rk sl.length seeds)) :: s17 :: s18 :: s19 :: s20 :: .ow .fresh (.ob (.lst ((somes sl seeds).map oD))) :: tl)
      = some (.nx (s0 :: s1 :: s2 :: .im (eN sl.length) :: s4 :: sR false sl :: s6 :: z7 :: s8 :: s9 :: s10 :: s11 :: s12 :: s13 :: s14 :: s15 :: .im (.int ((sl.length : Int) - rk sl.length seeds)) :: s17 :: s18 :: s19 :: s20 :: .ow .fresh (.ob (.lst ((somes sl seeds).map oD))) :: tl)) := by
  obtain ⟨j, e, k⟩ := rows_facts h1 hs seeds
  have hi := none_iff h1 hs seeds
  have hle := rk_le h1 seeds
  have key := lcF_filterMap (vs := [7]) (g := fgName 7) (ft := (fAnd (fTst (fV (gIsN Bool.not) (fIxE true (fVar 21) (fVar 7)))) (fTst (fOp oNe (fIxE true (fVar 21) (fVar 7)) (fIxE true (fVar 5) (fVar 7)))))) (fe := fK (.int 1)) eN (fun _ => none) (δ := (s0 :: s1 :: s2 :: .im (eN sl.length) :: s4 :: sR false sl :: s6 :: .un :: s8 :: s9 :: s10 :: s11 :: s12 :: s13 :: s14 :: s15 :: .im (.int ((sl.length : Int) - rk sl.length seeds)) :: s17 :: s18 :: s19 :: s20 :: .ow .fresh (.ob (.lst ((somes sl seeds).map oD))) :: tl)) (List.range sl.length) [] (fun i hi xs acc => by
    have hi : i < sl.length := List.mem_range.mp hi
    have ha : atI ((somes sl seeds).map oD) (i : Int) = some (oD (cell (rowsL (Lof sl.length (drs sl seeds))) i)) := atI_nat (by
      unfold somes
      rw [List.getElem?_map, List.getElem?_map, List.getElem?_range hi]; rfl)
    have hb := atR hi
    cases hcc : cell (rowsL (Lof sl.length (drs sl seeds))) i with
    | none =>
      rw [hcc] at ha
      have ha : atI ((somes sl seeds).map oD) (i : Int) = some .non := ha
      simp! only [eN_s, sR_f, ha, Option.toList_none]
    | some o =>
      rw [hcc] at ha
      have ho := cell_some hs k hi hcc
      rw [← ho] at hb
      have ha : atI ((somes sl seeds).map oD) (i : Int) = some (.lst (o.map eN)) := ha
      simp only [rowE] at hb
      have q1 := ok_lN o
      have q2 := eqv_lN o o
      simp! only [eN_s, sR_f, ha, hb, q1, q2, Option.toList_none])
  have e0 : (List.range sl.length).filterMap (fun _ => (none : Option D)) = [] := by simp
  rw [e0, List.append_nil] at key
  have b1 : -(2 ^ 62) ≤ (sl.length : Int) ∧ (sl.length : Int) < 2 ^ 62 := by omega
  have hr : rgD 0 sl.length = (List.range sl.length).map eN := rgD0 _
  have hl : sl.length ≤ sizeLine := Nat.le_trans (show _ ≤ 1000 by omega) (by decide)
  have o := ok_lO (somes sl seeds)
  have an : (somes sl seeds).any (fun x => x.isNone) = decide ((0 : Int) < (sl.length : Int) - rk sl.length seeds) := by
    rw [Bool.eq_iff_iff, decide_eq_true_iff, List.any_eq_true]
    unfold somes
    constructor
    · rintro ⟨x, hx, hn⟩
      obtain ⟨i, hi', rfl⟩ := List.mem_map.mp hx
      have := hi.mp ⟨i, List.mem_range.mp hi', by simpa using hn⟩
      omega
    · intro h
      obtain ⟨i, hi', hn⟩ := hi.mpr (by omega)
      exact ⟨_, List.mem_map_of_mem (List.mem_range.mpr hi'), by rw [hn]; rfl⟩
  have on : D.non.ok = True := by simp [D.ok]; decide
  have n0 : ((0 : Nat) : Int) = 0 := rfl
  generalize hft : (fAnd (fTst (fV (gIsN Bool.not) (fIxE true (fVar 21) (fVar 7)))) (fTst (fOp oNe (fIxE true (fVar 21) (fVar 7)) (fIxE true (fVar 5) (fVar 7))))) = FT1 at key ⊢
  simp only [eN_s] at key
  simp! only [eN_s, b1, hr, h7, hl, List.length_range, key, o, on, any_non, an, eqv_bl, n0, Int.lt_irrefl, beq_self_eq_true]
end K22
end
section
set_option Elab.async false
set_option linter.all false
set_option maxRecDepth 100000
set_option maxHeartbeats 1000000
namespace K22
open PySem L2 DL
local macro_rules | `(tactic| simp! only [$as,*]) => `(tactic| simp -implicitDefEqProofs only [$as,*, DL.fK_s, DL.fVar_s, DL.varSF_im, DL.varSF_ow, DL.asImF_im, DL.asImF_tm, DL.asImF_vr, DL.imOF_l, DL.imSF_im, DL.imSF_l, DL.some_bindF, DL.f1_s, DL.f2_s, DL.f2v_s, DL.fOp_s, DL.oI_s, DL.oI0_s, DL.oB0_s, DL.oEq_s, DL.oNe_s, DL.fV_s, DL.vw_im, DL.vw_tm, DL.vw_vr, DL.vw_at, DL.vwS_im, DL.vwS_ow, DL.toD_l, DL.toD_k, DL.toD_t, DL.gLen_l, DL.gLen_wl, DL.gLen_tup, DL.gLen_dK, DL.gSum_l, DL.gBs_l, DL.gAnyI_l, DL.gInt_i, DL.gInt_b, DL.gIsN_n, DL.gIsN_i, DL.gIsN_l, DL.gIsN_tup, DL.gIsN_s, DL.gIsN_b, DL.fVL_s, DL.gList_l, DL.gList_wl, DL.gList_tup, DL.gRev_l, DL.gTupl_l, DL.gTupl_t, DL.fTruT_s, DL.gTru_n, DL.gTru_b, DL.gTru_i, DL.gTru_l, DL.gTru_tup, DL.fAnd_s, DL.fOr_s, DL.fNot_s, DL.fIf_s, DL.fAndV_s, DL.fOrV_s, DL.fNotV_s, DL.onBlF_b, DL.fChain_s, DL.fTst_s, DL.blXF_b, DL.gIx_l, DL.gIx_wl, DL.gIx_tup, DL.gIx_dK, DL.gIx_dT, DL.keepF_im, DL.keepF_vr, DL.keepF_at, DL.keepF_tm, DL.fIxE_s, DL.fInE_s, DL.gIn_l, DL.gIn_tup, DL.gIn_dK, DL.gIn_dT, DL.fPlusE_s, DL.gPlus_i, DL.gPlus_l, DL.gPlus_t, DL.gPlus_s, DL.fTimesE_s, DL.gTimes_i, DL.gTimes_l, DL.faNil_s, DL.faCons_s, DL.fTup_s, DL.fLst_s, DL.fNewK_s, DL.fNewT_s, DL.foNo_s, DL.foAt_s, DL.onIntF_i, DL.fSlE_s, DL.gSl_l, DL.gSl_t, DL.fBits_s, DL.fNeg_s, DL.fMin2_s, DL.fMax2_s, DL.onPairF_i, DL.callF_s, DL.fCall_s, DL.resF_im, DL.resF_ow, DL.fvNil_s, DL.fvIm_s, DL.fvLn_s, DL.agF_im, DL.agF_vr, DL.fCallL_s, DL.callRF_s, DL.lendF_n, DL.lendF_i, DL.lendF_v, DL.lendSF_o, DL.lendSF_i, DL.joinF_n, DL.joinF_i, DL.joinF_o, DL.backF_n, DL.backF_i, DL.backF_vi, DL.backF_vo, DL.argS_n, DL.argS_i, DL.argS_o, DL.fMt_s, DL.staysB_v, DL.staysB_a, DL.okB_l, DL.okB_k, DL.okB_t, DL.obAt_v, DL.obAt_a, DL.obV_o, DL.obI_i, DL.obF_o, DL.setOb_v, DL.setOb_a, DL.setV_o, DL.setI_o, DL.gAppend_s, DL.gPop_s, DL.gPopAt_s, DL.gReverse_s, DL.gExtend_s, DL.fNext_s, DL.next_n, DL.next_r, DL.next_b, DL.next_c, DL.fSeq_s, DL.fBreak_s, DL.fCont_s, DL.fNever_s, DL.fDrop_s, DL.fIfS_s, DL.fRet_s, DL.retF_i, DL.retF_t, DL.retF_v, DL.retSF_i, DL.retSF_o, DL.fRetN_s, DL.fSet_s, DL.setF_t, DL.setF_i, DL.setF_v, DL.fgName_s, DL.fgNil_s, DL.fgCons_s, DL.fgTup_t, DL.fAsg_s, DL.fPar_s, DL.two_s, DL.fAug_s, DL.isImB_i, DL.augF_s, DL.fSub_s, DL.gPut_l, DL.gPut_k, DL.gPut_t, DL.fSeqI_s, DL.seqF_l, DL.seqF_wl, DL.seqF_t, DL.seqF_o, DL.seqF_v, DL.seqSlF_o, DL.fRg1_s, DL.fRg2_s, DL.fEnum_s, DL.fZip_s, DL.zipXs_l, DL.zipXs_t, DL.fFor_s, DL.finFor_n, DL.finFor_r, DL.finFor_g, DL.bkF_n, DL.bkF_g, DL.fLc_s, DL.fLc2_s, DL.fYes_s, DL.runB_s, DL.endF_n, DL.endF_r, DL.finF_n, DL.finF_i, DL.finF_o, DL.wipeE_n, DL.wipeE_c, DL.restE_n, DL.restE_c, DL.noOw_n, DL.noOw_c, DL.noOwS_u, DL.noOwS_i, DL.lcF_n, DL.lcF_c, DL.goForF_n, DL.goForF_c, DL.contF_n, DL.contF_c, DL.contF_b, DL.contF_r, DL.key_i, DL.key_s, DL.fItL_s, DL.dkOf_s, DL.fFld_s, DL.fXF_v, DL.fXF_d, DL.fXF_t, DL.vwAt_i, DL.vwF_s, DL.fvD_i, DL.fvD_o, DL.obD_k, DL.obD_l, DL.fSetF_s, DL.setFXF_d, DL.setFXF_o, DL.fMeth_s, DL.mXF_v, DL.mXF_d, DL.fMake_s, DL.mkRF_s, DL.mkXF_s, DL.fForItemsF_s, DL.fForItems_s, DL.plJ_a, DL.plJ_v, DL.itGF_s, DL.goItF_n, DL.goItF_c, DL.contI_n, DL.isVl_v, DL.bkF_v, DL.plusSub_1, DL.sl_0, DL.sl_1, DL.sl_2, DL.sl_3, DL.sl_4, DL.sl_5, DL.sl_6, DL.sl_7, DL.sl_8, DL.sl_9, DL.sx_0, DL.sx_1, DL.sx_2, DL.sx_3, DL.sx_4, DL.sx_5, DL.sx_6, DL.sx_7, DL.sx_8, DL.sx_9, List.getElem?_cons_zero, List.getElem?_cons_succ, List.set_cons_zero, List.set_cons_succ, List.nil_append, List.cons_append, List.append_nil, List.map_cons, List.map_nil, List.length_cons, List.length_nil, List.replicate_succ, List.replicate_zero, DL.ok_int, DL.eqv_int, DL.ok_bl, if_true, Bool.false_eq_true, if_false, true_and, and_true, and_self, List.length_map, Option.bind_none, Nat.zero_add, Option.getD_some, Bool.and_true, Bool.true_and, decide_eq_true_eq, Bool.not_true, Bool.not_false, ite_true, ite_false, Nat.reduceAdd, Int.reduceAdd, Nat.reduceEqDiff, eq_self, reduceIte, id_eq, Int.toNat_natCast, DL.ok_li, DL.ok_ti, DL.eqv_li, DL.eqv_ti, DL.ok_non, Nat.zero_le, decide_true, decide_false])
variable {aS : Addr}
/-! ### sets -/
theorem sets_in (n : Nat) : ∀ (k : Nat) {p : List Nat}, p ∈ sets n k → p.length = k ∧ ∀ x ∈ p, x < n
  | 0, p, h => by
    simp [sets] at h
    subst h
    exact ⟨rfl, fun x h => by cases h⟩
  | k + 1, p, h => by
    unfold sets setS at h
    simp only [List.mem_flatMap, List.mem_map] at h
    obtain ⟨q, hq, z, hz, rfl⟩ := h
    obtain ⟨h1, h2⟩ := sets_in n k hq
    refine ⟨by rw [List.length_append, h1]; rfl, fun x hx => ?_⟩
    rcases List.mem_append.mp hx with hx | hx
    · exact h2 x hx
    · rw [List.mem_singleton] at hx
      rw [List.mem_range'_1] at hz
      omega
theorem sets_mem (n : Nat) : ∀ (k : Nat) {p : List Nat}, p.Pairwise (· < ·) → (∀ x ∈ p, x < n) → p.length = k → p ∈ sets n k
  | 0, p, _, _, h => by rw [List.length_eq_zero_iff.mp h]; simp [sets]
  | k + 1, p, hs, hb, h => by
    rcases List.eq_nil_or_concat p with rfl | ⟨q, z, rfl⟩
    · cases h
    · rw [List.concat_eq_append] at *
      obtain ⟨hq, _, hqz⟩ := List.pairwise_append.mp hs
      unfold sets setS
      simp only [List.mem_flatMap, List.mem_map]
      refine ⟨q, sets_mem n k hq (fun x hx => hb x (by simp [hx])) (by simpa using h), z, ?_, rfl⟩
      rw [List.mem_range'_1]
      have hz := hb z (by simp)
      have hn : nxt q ≤ z := by
        unfold nxt
        cases hl : q.getLast? with
        | none => exact Nat.zero_le _
        | some y => exact hqz y (List.mem_of_getLast? hl) z (by simp)
      omega
theorem grow (n k : Nat) (hk : k ≤ n) : ∀ (d : Nat) (G : List Nat), G.Nodup → (∀ x ∈ G, x < n) → G.length + d = k → ∃ H : List Nat, H.Nodup ∧ (∀ x ∈ H, x < n) ∧ H.length = k ∧ ∀ x ∈ G, x ∈ H
  | 0, G, h1, h2, h3 => ⟨G, h1, h2, h3, fun _ h => h⟩
  | d + 1, G, h1, h2, h3 => by
    have : ∃ x, x < n ∧ x ∉ G := Classical.byContradiction fun hn => by
      have := nodup_le (List.nodup_range (n := n)) (b := G) fun x hx => Classical.byContradiction fun hg => hn ⟨x, List.mem_range.mp hx, hg⟩
      rw [List.length_range] at this
      omega
    obtain ⟨x, hx, hg⟩ := this
    obtain ⟨H, a, b, c, e⟩ := grow n k hk d (x :: G) (List.nodup_cons.mpr ⟨hg, h1⟩) (fun y hy => (List.mem_cons.mp hy).elim (fun e => e ▸ hx) (h2 y)) (by rw [List.length_cons]; omega)
    exact ⟨H, a, b, c, fun y hy => e y (by simp [hy])⟩
/-- every few places lie in a set of k places -/
theorem sets_over {n k : Nat} (hk : k ≤ n) (G : List Nat) (hb : ∀ x ∈ G, x < n) (hl : G.length ≤ k) : ∃ p ∈ sets n k, ∀ x ∈ G, x ∈ p := by
  have f1 : ((List.range n).filter fun x => G.contains x).Nodup := List.nodup_range.filter _
  have f2 : ((List.range n).filter fun x => G.contains x).length ≤ G.length := nodup_le f1 fun x hx => by have := (List.mem_filter.mp hx).2; simpa using this
  obtain ⟨H, a, b, c, e⟩ := grow n k hk (k - ((List.range n).filter fun x => G.contains x).length) _ f1 (fun x hx => List.mem_range.mp (List.mem_filter.mp hx).1) (by omega)
  have g1 : ((List.range n).filter fun x => H.contains x).Nodup := List.nodup_range.filter _
  refine ⟨(List.range n).filter fun x => H.contains x, sets_mem n k ((range_sorted n).filter _) (fun x hx => List.mem_range.mp (List.mem_filter.mp hx).1) ?_, fun x hx => ?_⟩
  · have l1 := nodup_le g1 (b := H) fun x hx => by have := (List.mem_filter.mp hx).2; simpa using this
    have l2 := nodup_le a (b := (List.range n).filter fun x => H.contains x) fun x hx => List.mem_filter.mpr ⟨List.mem_range.mpr (b x hx), by simpa using hx⟩
    omega
  · have := e x (List.mem_filter.mpr ⟨List.mem_range.mpr (hb x hx), by simpa using hx⟩)
    exact List.mem_filter.mpr ⟨List.mem_range.mpr (hb x hx), by simpa using this⟩
theorem left_sub {rows : List Nat} {G p : List Nat} (h : ∀ x ∈ G, x ∈ p) : ∀ s ∈ left rows p, s ∈ left rows G := fun s hs => by
  unfold left at *
  obtain ⟨q, hq, hs⟩ := List.mem_filterMap.mp hs
  refine List.mem_filterMap.mpr ⟨q, hq, ?_⟩
  split at hs
  · cases hs
  · rename_i hc
    rw [if_neg fun hg => hc (by have := h q.2 (by simpa using hg); simpa using this)]
    exact hs
theorem left_range (rows G : List Nat) : ((List.range rows.length).filterMap fun k => if G.contains k then none else some (rows.getD k 0)) = left rows G := by
  unfold left
  have e : rows.zipIdx = (List.range rows.length).map fun k => (rows.getD k 0, k) := by
    refine List.ext_getElem (by simp) fun i h1 h2 => ?_
    simp at h1
    simp [h1]
  rw [e, List.filterMap_map]
  rfl
/-! ### the dict of the places that go -/
theorem kput_len1 {A : List (Key × D)} {k : Key} {v : D} : (kput A k v).length ≤ A.length + 1 := by
  unfold kput
  split
  · rw [List.length_map]; omega
  · simp
theorem kput_key {A : List (Key × D)} {k : Key} {v : D} {x : Key × D} (h : x ∈ kput A k v) : x.1 = k ∨ ∃ y ∈ A, y.1 = x.1 := by
  unfold kput at h
  split at h
  · obtain ⟨y, hy, rfl⟩ := List.mem_map.mp h
    split
    · rename_i he
      exact .inl he
    · exact .inr ⟨y, hy, rfl⟩
  · rcases List.mem_append.mp h with h | h
    · exact .inr ⟨x, h, rfl⟩
    · exact .inl (by rw [List.mem_singleton.mp h])
theorem kmerge_ok {n : Nat} : ∀ (ts : List Nat) (A : List (Key × D)), (∀ x ∈ A, ∃ t : Nat, t < n ∧ x.1 = .inl (t : Int)) → (∀ t ∈ ts, t < n) → (kmerge A (ts.map fun t => ((.inl ((t : Nat) : Int) : Key), D.bl true))).length ≤ A.length + ts.length ∧ ∀ x ∈ kmerge A (ts.map fun t => ((.inl ((t : Nat) : Int) : Key), D.bl true)), ∃ t : Nat, t < n ∧ x.1 = .inl (t : Int)
  | [], A, hA, _ => ⟨Nat.le_refl _, hA⟩
  | t :: ts, A, hA, h => by
    have := kmerge_ok ts (kput A (.inl (t : Int)) (D.bl true)) (fun x hx => by
      rcases kput_key hx with e | ⟨y, hy, e⟩
      · exact ⟨t, h t (by simp), e⟩
      · rw [← e]; exact hA y hy) fun t ht => h t (by simp [ht])
    refine ⟨Nat.le_trans this.1 ?_, this.2⟩
    have := kput_len1 (A := A) (k := Sum.inl (t : Int)) (v := D.bl true)
    rw [List.length_cons]
    omega
theorem keysI_ok {n : Nat} : ∀ (A : List (Key × D)), (∀ x ∈ A, ∃ t : Nat, t < n ∧ x.1 = .inl (t : Int)) → ∃ ks : List Int, keysI A = some ks ∧ ks.length = A.length ∧ ∀ i ∈ ks, ∃ t : Nat, t < n ∧ i = t
  | [], _ => ⟨[], rfl, rfl, fun i h => by cases h⟩
  | (k, v) :: A, h => by
    obtain ⟨t, ht, e⟩ := h (k, v) (by simp)
    have e : k = .inl (t : Int) := e
    subst e
    obtain ⟨ks, h1, h2, h3⟩ := keysI_ok A fun x hx => h x (by simp [hx])
    refine ⟨(t : Int) :: ks, by simp only [keysI, h1, Option.map_some], by simp [h2], fun i hi => ?_⟩
    rcases List.mem_cons.mp hi with rfl | hi
    · exact ⟨t, ht, rfl⟩
    · exact h3 i hi
theorem pairs_ok : ∀ (ts : List Nat), pairsD (ts.map fun t => D.tup [.int (t : Nat), .bl true]) = some (ts.map fun t => ((.inl ((t : Nat) : Int) : Key), D.bl true))
  | [] => rfl
  | t :: ts => by
    have ih := pairs_ok ts
    rw [List.map_cons, List.map_cons]
    simp only [pairsD, D.key, ih]
theorem gone_ok {n : Nat} (ts : List Nat) (h : ∀ t ∈ ts, t < n) (hl : ts.length < 64) : ∃ G : List Nat, (∀ x ∈ G, x < n) ∧ G.length ≤ ts.length ∧ gSort (some (.dK (kmerge [] (ts.map fun t => ((.inl ((t : Nat) : Int) : Key), D.bl true))))) = some (G.map eN) := by
  obtain ⟨l1, l2⟩ := kmerge_ok (n := n) ts [] (fun x hx => by cases hx) h
  obtain ⟨ks, k1, k2, k3⟩ := keysI_ok _ l2
  have k4 : ∀ d ∈ (isort ks).map D.int, ∃ t : Nat, d = eN t ∧ t < n := fun d hd => by
    obtain ⟨i, hi, rfl⟩ := List.mem_map.mp hd
    obtain ⟨t, ht, rfl⟩ := k3 i ((isort_perm ks).mem_iff.mp hi)
    exact ⟨t, rfl, ht⟩
  obtain ⟨G, g1, g2⟩ := comp_nats k4
  have gl : G.length = ks.length := by
    have := congrArg List.length g1
    rw [List.length_map, List.length_map, isort_length] at this
    omega
  refine ⟨G, g2, by simp at l1; omega, ?_⟩
  show (keysI _).bind _ = _
  rw [k1]
  show (if ks.length < 64 then some ((isort ks).map D.int) else none) = _
  rw [if_pos (by simp at l1; omega), g1]
end K22
end
section
set_option Elab.async false
set_option linter.all false
set_option maxRecDepth 100000
set_option maxHeartbeats 1000000
namespace DL
theorem borF_im {j : Nat} {fa : FE} {δ : Env} {d : D} : borF j fa δ (some (.im d)) = fa δ := rfl
theorem gDict_l {xs : List D} : gDict (some (.lst xs)) = (pairsD xs).bind fun kvs => some (.ob (.dK (kmerge [] kvs))) := rfl
theorem fDictOf_s {fa : FE} {δ : Env} : fDictOf fa δ = (fa δ).bind fun p => (gDict (vw p.2 p.1)).bind fun o => some (.tm o, p.2) := rfl
end DL
namespace K22
open PySem L2 DL
local macro_rules | `(tactic| simp! only [$as,*]) => `(tactic| simp -implicitDefEqProofs only [$as,*, DL.fK_s, DL.fVar_s, DL.varSF_im, DL.varSF_ow, DL.asImF_im, DL.asImF_tm, DL.asImF_vr, DL.imOF_l, DL.imSF_im, DL.imSF_l, DL.some_bindF, DL.f1_s, DL.f2_s, DL.f2v_s, DL.fOp_s, DL.oI_s, DL.oI0_s, DL.oB0_s, DL.oEq_s, DL.oNe_s, DL.fV_s, DL.vw_im, DL.vw_tm, DL.vw_vr, DL.vw_at, DL.vwS_im, DL.vwS_ow, DL.toD_l, DL.toD_k, DL.toD_t, DL.gLen_l, DL.gLen_wl, DL.gLen_tup, DL.gLen_dK, DL.gSum_l, DL.gBs_l, DL.gAnyI_l, DL.gInt_i, DL.gInt_b, DL.gIsN_n, DL.gIsN_i, DL.gIsN_l, DL.gIsN_tup, DL.gIsN_s, DL.gIsN_b, DL.fVL_s, DL.gList_l, DL.gList_wl, DL.gList_tup, DL.gRev_l, DL.gTupl_l, DL.gTupl_t, DL.fTruT_s, DL.gTru_n, DL.gTru_b, DL.gTru_i, DL.gTru_l, DL.gTru_tup, DL.fAnd_s, DL.fOr_s, DL.fNot_s, DL.fIf_s, DL.fAndV_s, DL.fOrV_s, DL.fNotV_s, DL.onBlF_b, DL.fChain_s, DL.fTst_s, DL.blXF_b, DL.gIx_l, DL.gIx_wl, DL.gIx_tup, DL.gIx_dK, DL.gIx_dT, DL.keepF_im, DL.keepF_vr, DL.keepF_at, DL.keepF_tm, DL.fIxE_s, DL.fInE_s, DL.gIn_l, DL.gIn_tup, DL.gIn_dK, DL.gIn_dT, DL.fPlusE_s, DL.gPlus_i, DL.gPlus_l, DL.gPlus_t, DL.gPlus_s, DL.fTimesE_s, DL.gTimes_i, DL.gTimes_l, DL.faNil_s, DL.faCons_s, DL.fTup_s, DL.fLst_s, DL.fNewK_s, DL.fNewT_s, DL.foNo_s, DL.foAt_s, DL.onIntF_i, DL.fSlE_s, DL.gSl_l, DL.gSl_t, DL.fBits_s, DL.fNeg_s, DL.fMin2_s, DL.fMax2_s, DL.onPairF_i, DL.callF_s, DL.fCall_s, DL.resF_im, DL.resF_ow, DL.fvNil_s, DL.fvIm_s, DL.fvLn_s, DL.agF_im, DL.agF_vr, DL.fCallL_s, DL.callRF_s, DL.lendF_n, DL.lendF_i, DL.lendF_v, DL.lendSF_o, DL.lendSF_i, DL.joinF_n, DL.joinF_i, DL.joinF_o, DL.backF_n, DL.backF_i, DL.backF_vi, DL.backF_vo, DL.argS_n, DL.argS_i, DL.argS_o, DL.fMt_s, DL.staysB_v, DL.staysB_a, DL.okB_l, DL.okB_k, DL.okB_t, DL.obAt_v, DL.obAt_a, DL.obV_o, DL.obI_i, DL.obF_o, DL.setOb_v, DL.setOb_a, DL.setV_o, DL.setI_o, DL.gAppend_s, DL.gPop_s, DL.gPopAt_s, DL.gReverse_s, DL.gExtend_s, DL.fNext_s, DL.next_n, DL.next_r, DL.next_b, DL.next_c, DL.fSeq_s, DL.fBreak_s, DL.fCont_s, DL.fNever_s, DL.fDrop_s, DL.fIfS_s, DL.fRet_s, DL.retF_i, DL.retF_t, DL.retF_v, DL.retSF_i, DL.retSF_o, DL.fRetN_s, DL.fSet_s, DL.setF_t, DL.setF_i, DL.setF_v, DL.fgName_s, DL.fgNil_s, DL.fgCons_s, DL.fgTup_t, DL.fAsg_s, DL.fPar_s, DL.two_s, DL.fAug_s, DL.isImB_i, DL.augF_s, DL.fSub_s, DL.gPut_l, DL.gPut_k, DL.gPut_t, DL.fSeqI_s, DL.seqF_l, DL.seqF_wl, DL.seqF_t, DL.seqF_o, DL.seqF_v, DL.seqSlF_o, DL.fRg1_s, DL.fRg2_s, DL.fEnum_s, DL.fZip_s, DL.zipXs_l, DL.zipXs_t, DL.fFor_s, DL.finFor_n, DL.finFor_r, DL.finFor_g, DL.bkF_n, DL.bkF_g, DL.fLc_s, DL.fLc2_s, DL.fYes_s, DL.runB_s, DL.endF_n, DL.endF_r, DL.finF_n, DL.finF_i, DL.finF_o, DL.wipeE_n, DL.wipeE_c, DL.restE_n, DL.restE_c, DL.noOw_n, DL.noOw_c, DL.noOwS_u, DL.noOwS_i, DL.lcF_n, DL.lcF_c, DL.goForF_n, DL.goForF_c, DL.contF_n, DL.contF_c, DL.contF_b, DL.contF_r, DL.key_i, DL.key_s, DL.fItL_s, DL.dkOf_s, DL.fFld_s, DL.fXF_v, DL.fXF_d, DL.fXF_t, DL.vwAt_i, DL.vwF_s, DL.fvD_i, DL.fvD_o, DL.obD_k, DL.obD_l, DL.fSetF_s, DL.setFXF_d, DL.setFXF_o, DL.fMeth_s, DL.mXF_v, DL.mXF_d, DL.fMake_s, DL.mkRF_s, DL.mkXF_s, DL.fForItemsF_s, DL.fForItems_s, DL.plJ_a, DL.plJ_v, DL.itGF_s, DL.goItF_n, DL.goItF_c, DL.contI_n, DL.isVl_v, DL.bkF_v, DL.plusSub_1, DL.sl_0, DL.sl_1, DL.sl_2, DL.sl_3, DL.sl_4, DL.sl_5, DL.sl_6, DL.sl_7, DL.sl_8, DL.sl_9, DL.sx_0, DL.sx_1, DL.sx_2, DL.sx_3, DL.sx_4, DL.sx_5, DL.sx_6, DL.sx_7, DL.sx_8, DL.sx_9, List.getElem?_cons_zero, List.getElem?_cons_succ, List.set_cons_zero, List.set_cons_succ, List.nil_append, List.cons_append, List.append_nil, List.map_cons, List.map_nil, List.length_cons, List.length_nil, List.replicate_succ, List.replicate_zero, DL.ok_int, DL.eqv_int, DL.ok_bl, if_true, Bool.false_eq_true, if_false, true_and, and_true, and_self, List.length_map, Option.bind_none, Nat.zero_add, Option.getD_some, Bool.and_true, Bool.true_and, decide_eq_true_eq, Bool.not_true, Bool.not_false, ite_true, ite_false, Nat.reduceAdd, Int.reduceAdd, Nat.reduceEqDiff, eq_self, reduceIte, id_eq, Int.toNat_natCast, DL.ok_li, DL.ok_ti, DL.eqv_li, DL.eqv_ti, DL.ok_non, Nat.zero_le, decide_true, decide_false])
variable {aS : Addr}
theorem st17 {c : Nat} {more : List Nat} (h1 : 1 ≤ c) (h2 : c ≤ 7) (h3 : ∀ s ∈ more, s < 65536) (hl : more.length ≤ 200) (s0 s1 s2 s4 s5 s6 s7 s8 s9 s10 s11 s12 s13 s14 s15 s16 s18 s19 s20 s21 s22 : Slot) (tl : DL.Env) :
    ∃ rows : List Nat, (∀ s ∈ rows, s < 65536) ∧ 1 ≤ rows.length ∧ rows.length ≤ 9 ∧ (fSet 22 (fSlE true (fBor 17 (fPlusE (fBor 17 (fPlusE (fVar 17) (fLst (faCons (fIf (fTst (fOp oGt (fVar 3) (fK (.int 0)))) (fCall 2 (M_next_seed aS) (faCons (fVar 3) (faCons (fLst faNil) faNil)) []) (fK (.int 0))) faNil)))) (fVar 17))) foNo (foAt (fK (.int 9))))) (s0 :: s1 :: s2 :: .im (eN c) :: s4 :: s5 :: s6 :: s7 :: s8 :: s9 :: s10 :: s11 :: s12 :: s13 :: s14 :: s15 :: s16 :: oL more :: s18 :: s19 :: s20 :: s21 :: s22 :: tl)
      = some (.nx (s0 :: s1 :: s2 :: .im (eN c) :: s4 :: s5 :: s6 :: s7 :: s8 :: s9 :: s10 :: s11 :: s12 :: s13 :: s14 :: s15 :: s16 :: oL more :: s18 :: s19 :: s20 :: s21 :: oL rows :: tl)) := by
  have hn := m_next (aS := aS) c [] h1 (by omega) (fun s h => by cases h) (by simp)
  rw [rk_nil, if_pos (by omega)] at hn
  obtain ⟨t, ht, _, hm⟩ := hn (ex_seed h1 h2 [] (by rw [rk_nil]; omega))
  refine ⟨(more ++ [t] ++ more).take 9, fun s hs => ?_, by simp; omega, by simp; omega, ?_⟩
  · have := List.mem_of_mem_take hs
    simp at this
    rcases this with h | h | h
    · exact h3 s h
    · omega
    · exact h3 s h
  have b1 : more.length + 1 ≤ sizeLine := Nat.le_trans (show _ ≤ 1000 by omega) (by decide)
  have b2 : (List.map eN more ++ [D.int (t : Int)]).length + more.length ≤ sizeLine := Nat.le_trans (show _ ≤ 1000 by simp; omega) (by decide)
  have dc : decide ((0 : Int) < (c : Int)) = true := decide_eq_true (by omega)
  have e1 : ∀ s4 s5 s6 s7 s8 s9 s10 s11 s12 s13 s14 s15 s16 s18, (fBor 17 (fPlusE (fBor 17 (fPlusE (fVar 17) (fLst (faCons (fIf (fTst (fOp oGt (fVar 3) (fK (.int 0)))) (fCall 2 (M_next_seed aS) (faCons (fVar 3) (faCons (fLst faNil) faNil)) []) (fK (.int 0))) faNil)))) (fVar 17))) (s0 :: s1 :: s2 :: .im (eN c) :: s4 :: s5 :: s6 :: s7 :: s8 :: s9 :: s10 :: s11 :: s12 :: s13 :: s14 :: s15 :: s16 :: oL more :: s18 :: s19 :: s20 :: s21 :: s22 :: tl) = some (.tm (.ob (.lst ((more ++ [t] ++ more).map eN))), (s0 :: s1 :: s2 :: .im (eN c) :: s4 :: s5 :: s6 :: s7 :: s8 :: s9 :: s10 :: s11 :: s12 :: s13 :: s14 :: s15 :: s16 :: oL more :: s18 :: s19 :: s20 :: s21 :: s22 :: tl)) := by
    intros
    rw [fBor_s]
    refine borF_o (o := .ob (.lst (more.map eN))) ?_ (bare_l _)
    simp only [eN_s, eL, List.map_nil] at hm
    simp! only [eN_s, fBor_s, borF_im, hm, b1, b2, dc, List.map_append]
  have e2 : cutD ((more ++ [t] ++ more).map eN) none (some 9) = ((more ++ [t] ++ more).take 9).map eN := by rw [List.map_take]; exact cut_take _ 9
  have e1 := e1 s4 s5 s6 s7 s8 s9 s10 s11 s12 s13 s14 s15 s16 s18
  generalize (fBor 17 (fPlusE (fBor 17 (fPlusE (fVar 17) (fLst (faCons (fIf (fTst (fOp oGt (fVar 3) (fK (.int 0)))) (fCall 2 (M_next_seed aS) (faCons (fVar 3) (faCons (fLst faNil) faNil)) []) (fK (.int 0))) faNil)))) (fVar 17))) = E1 at e1 ⊢
  generalize (more ++ [t] ++ more) = R at e1 e2 ⊢
  simp only [oL] at e1
  simp! only [oL, e1, e2]
/-- frozen or not -/
def sL (b : Bool) (l : List Nat) : Slot := if b then oL l else .im (eL l)
theorem st18a {c i : Nat} {rows : List Nat} (h1 : 1 ≤ c) (h2 : c ≤ 24) (h3 : ∀ s ∈ rows, s < 65536) (h0 : 1 ≤ rows.length) (hl : rows.length ≤ 20) (hi : i ≤ rows.length) (hi3 : i ≤ 3) (ds : List Int) (b : Bool) (s0 s2 s4 s5 s6 s8 s9 s10 s11 s12 s13 s14 s15 s16 s17 s18 s19 s20 s21 z7 r24 r25 r26 : Slot) (tl : DL.Env) :
    (∃ p ∈ sets rows.length i, rk c (left rows p) < c ∧ (fSet 24 (fCall 3 (M_loss_against aS) (faCons (fVar 3) (faCons (fVar 22) (faCons (fVar 23) faNil))) [])) (s0 :: oI ds :: s2 :: .im (eN c) :: s4 :: s5 :: s6 :: z7 :: s8 :: s9 :: s10 :: s11 :: s12 :: s13 :: s14 :: s15 :: s16 :: s17 :: s18 :: s19 :: s20 :: s21 :: sL b rows :: .im (eN i) :: r24 :: r25 :: r26 :: tl) = some (.nx (s0 :: oI ds :: s2 :: .im (eN c) :: s4 :: s5 :: s6 :: z7 :: s8 :: s9 :: s10 :: s11 :: s12 :: s13 :: s14 :: s15 :: s16 :: s17 :: s18 :: s19 :: s20 :: s21 :: .im (eL rows) :: .im (eN i) :: .im (eT p) :: r25 :: r26 :: tl))) ∨
    ((∀ p ∈ sets rows.length i, ¬ rk c (left rows p) < c) ∧ (fSet 24 (fCall 3 (M_loss_against aS) (faCons (fVar 3) (faCons (fVar 22) (faCons (fVar 23) faNil))) [])) (s0 :: oI ds :: s2 :: .im (eN c) :: s4 :: s5 :: s6 :: z7 :: s8 :: s9 :: s10 :: s11 :: s12 :: s13 :: s14 :: s15 :: s16 :: s17 :: s18 :: s19 :: s20 :: s21 :: sL b rows :: .im (eN i) :: r24 :: r25 :: r26 :: tl) = some (.nx (s0 :: oI ds :: s2 :: .im (eN c) :: s4 :: s5 :: s6 :: z7 :: s8 :: s9 :: s10 :: s11 :: s12 :: s13 :: s14 :: s15 :: s16 :: s17 :: s18 :: s19 :: s20 :: s21 :: .im (eL rows) :: .im (eN i) :: .im .non :: r25 :: r26 :: tl))) := by
  rcases m_loss (aS := aS) c rows i h1 h2 h3 h0 hl hi hi3 with ⟨p, hp, hr, hm⟩ | ⟨hp, hm⟩
  · refine .inl ⟨p, hp, hr, ?_⟩
    simp only [eN_s, eL] at hm
    cases b <;> simp! only [sL, eN_s, eL, oL, hm, if_true, Bool.false_eq_true, if_false]
  · refine .inr ⟨hp, ?_⟩
    simp only [eN_s, eL] at hm
    cases b <;> simp! only [sL, eN_s, eL, oL, hm, if_true, Bool.false_eq_true, if_false]
theorem atN {rows : List Nat} {k : Nat} (h : k < rows.length) : atI (rows.map eN) (k : Int) = some (eN (rows.getD k 0)) := atI_nat (by
  rw [List.getElem?_map, List.getElem?_eq_getElem h]; simp [List.getElem?_eq_getElem h])
/-- the rows that stay -/
theorem st18b {c : Nat} {rows : List Nat} (hl : rows.length ≤ 20) (p : List Nat) (ds : List Int) (s0 s2 s4 s5 s6 s8 s9 s10 s11 s12 s13 s14 s15 s16 s17 s18 s19 s20 s21 z7 r23 r25 r26 : Slot) (tl : DL.Env) (h7 : noOwS (some z7) = true) :
    (fSet 26 (fLc [7] (fRg1 (faCons (fV gLen (fVar 22)) faNil)) (fgName 7) (fTst (fInE Bool.not (fVar 7) (fVar 24))) (fIxE true (fVar 22) (fVar 7)))) (s0 :: oI ds :: s2 :: .im (eN c) :: s4 :: s5 :: s6 :: z7 :: s8 :: s9 :: s10 :: s11 :: s12 :: s13 :: s14 :: s15 :: s16 :: s17 :: s18 :: s19 :: s20 :: s21 :: .im (eL rows) :: r23 :: .im (eT p) :: r25 :: r26 :: tl) = some (.nx (s0 :: oI ds :: s2 :: .im (eN c) :: s4 :: s5 :: s6 :: z7 :: s8 :: s9 :: s10 :: s11 :: s12 :: s13 :: s14 :: s15 :: s16 :: s17 :: s18 :: s19 :: s20 :: s21 :: .im (eL rows) :: r23 :: .im (eT p) :: r25 :: oL (left rows p) :: tl)) := by
  have key := lcF_filterMap (vs := [7]) (g := fgName 7) (ft := fTst (fInE Bool.not (fVar 7) (fVar 24))) (fe := fIxE true (fVar 22) (fVar 7)) eN (fun k => if p.contains k then none else some (eN (rows.getD k 0))) (δ := (s0 :: oI ds :: s2 :: .im (eN c) :: s4 :: s5 :: s6 :: .un :: s8 :: s9 :: s10 :: s11 :: s12 :: s13 :: s14 :: s15 :: s16 :: s17 :: s18 :: s19 :: s20 :: s21 :: .im (eL rows) :: r23 :: .im (eT p) :: r25 :: r26 :: tl)) (List.range rows.length) [] (fun k hk xs acc => by
    have hk : k < rows.length := List.mem_range.mp hk
    have ha := atN hk
    have f1 : (D.int (k : Int)).flat = true := rfl
    by_cases hc : p.contains k = true
    · rw [if_pos hc]
      simp! only [eN_s, eT, eL, f1, flat_eN, any_eN, hc, Option.toList_none]
    · rw [if_neg hc]
      have hc : p.contains k = false := by simpa using hc
      simp! only [eN_s, eT, eL, f1, flat_eN, any_eN, hc, ha, Option.toList_some])
  have e : (List.range rows.length).filterMap (fun k => if p.contains k then none else some (eN (rows.getD k 0))) = (left rows p).map eN := by
    rw [← left_range, List.map_filterMap]
    refine congrArg (fun f => List.filterMap f _) (funext fun q => ?_)
    split <;> rfl
  rw [e, List.nil_append] at key
  have b1 : -(2 ^ 62) ≤ (rows.length : Int) ∧ (rows.length : Int) < 2 ^ 62 := by omega
  have hr : rgD 0 rows.length = (List.range rows.length).map eN := rgD0 _
  have hl : rows.length ≤ sizeLine := Nat.le_trans (show _ ≤ 1000 by omega) (by decide)
  simp only [eN_s, eL, eT] at key
  simp! only [eN_s, oL, eL, eT, b1, hr, h7, hl, List.length_range, key]
theorem st18b' {c : Nat} {rows : List Nat} (hl : rows.length ≤ 20) (p : List Nat) (ds : List Int) (s0 s2 s4 s5 s6 s8 s9 s10 s11 s12 s13 s14 s15 s16 s17 s18 s19 s20 s21 z7 r23 r24 r26 : Slot) (tl : DL.Env) (h7 : noOwS (some z7) = true) :
    (fSet 26 (fLc [7] (fRg1 (faCons (fV gLen (fVar 22)) faNil)) (fgName 7) (fTst (fInE Bool.not (fVar 7) (fVar 25))) (fIxE true (fVar 22) (fVar 7)))) (s0 :: oI ds :: s2 :: .im (eN c) :: s4 :: s5 :: s6 :: z7 :: s8 :: s9 :: s10 :: s11 :: s12 :: s13 :: s14 :: s15 :: s16 :: s17 :: s18 :: s19 :: s20 :: s21 :: .im (eL rows) :: r23 :: r24 :: .im (eT p) :: r26 :: tl) = some (.nx (s0 :: oI ds :: s2 :: .im (eN c) :: s4 :: s5 :: s6 :: z7 :: s8 :: s9 :: s10 :: s11 :: s12 :: s13 :: s14 :: s15 :: s16 :: s17 :: s18 :: s19 :: s20 :: s21 :: .im (eL rows) :: r23 :: r24 :: .im (eT p) :: oL (left rows p) :: tl)) := by
  have key := lcF_filterMap (vs := [7]) (g := fgName 7) (ft := fTst (fInE Bool.not (fVar 7) (fVar 25))) (fe := fIxE true (fVar 22) (fVar 7)) eN (fun k => if p.contains k then none else some (eN (rows.getD k 0))) (δ := (s0 :: oI ds :: s2 :: .im (eN c) :: s4 :: s5 :: s6 :: .un :: s8 :: s9 :: s10 :: s11 :: s12 :: s13 :: s14 :: s15 :: s16 :: s17 :: s18 :: s19 :: s20 :: s21 :: .im (eL rows) :: r23 :: r24 :: .im (eT p) :: r26 :: tl)) (List.range rows.length) [] (fun k hk xs acc => by
    have hk : k < rows.length := List.mem_range.mp hk
    have ha := atN hk
    have f1 : (D.int (k : Int)).flat = true := rfl
    by_cases hc : p.contains k = true
    · rw [if_pos hc]
      simp! only [eN_s, eT, eL, f1, flat_eN, any_eN, hc, Option.toList_none]
    · rw [if_neg hc]
      have hc : p.contains k = false := by simpa using hc
      simp! only [eN_s, eT, eL, f1, flat_eN, any_eN, hc, ha, Option.toList_some])
  have e : (List.range rows.length).filterMap (fun k => if p.contains k then none else some (eN (rows.getD k 0))) = (left rows p).map eN := by
    rw [← left_range, List.map_filterMap]
    refine congrArg (fun f => List.filterMap f _) (funext fun q => ?_)
    split <;> rfl
  rw [e, List.nil_append] at key
  have b1 : -(2 ^ 62) ≤ (rows.length : Int) ∧ (rows.length : Int) < 2 ^ 62 := by omega
  have hr : rgD 0 rows.length = (List.range rows.length).map eN := rgD0 _
  have hl : rows.length ≤ sizeLine := Nat.le_trans (show _ ≤ 1000 by omega) (by decide)
  simp only [eN_s, eL, eT] at key
  simp! only [eN_s, oL, eL, eT, b1, hr, h7, hl, List.length_range, key]
/-- told: a set of that many places, and the rest lacks -/
theorem st18e {c i : Nat} {rows : List Nat} (h1 : 1 ≤ c) (h2 : c ≤ 24) (h3 : ∀ s ∈ rows, s < 65536) (hl : rows.length ≤ 20) {p : List Nat} (hp : p.length = i) (hr : rk c (left rows p) < c) (ds : List Int) (s0 s2 s4 s5 s6 s8 s9 s10 s11 s12 s13 s14 s15 s16 s17 s18 s19 s20 s21 z7 r25 : Slot) (tl : DL.Env) (rest : FS) :
    (fIfS (fOr (fTst (fOp oNe (fV gLen (fVar 24)) (fVar 23))) (fTst (fOp oEq (fCall 2 (M_lack aS) (faCons (fVar 3) (faCons (fVar 26) faNil)) []) (fK (.int 0))))) rest fNext) (s0 :: oI ds :: s2 :: .im (eN c) :: s4 :: s5 :: s6 :: z7 :: s8 :: s9 :: s10 :: s11 :: s12 :: s13 :: s14 :: s15 :: s16 :: s17 :: s18 :: s19 :: s20 :: s21 :: .im (eL rows) :: .im (eN i) :: .im (eT p) :: r25 :: oL (left rows p) :: tl) = some (.nx (s0 :: oI ds :: s2 :: .im (eN c) :: s4 :: s5 :: s6 :: z7 :: s8 :: s9 :: s10 :: s11 :: s12 :: s13 :: s14 :: s15 :: s16 :: s17 :: s18 :: s19 :: s20 :: s21 :: .im (eL rows) :: .im (eN i) :: .im (eT p) :: r25 :: .im (eL (left rows p)) :: tl)) := by
  have k := lackS (aS := aS) (c := c) (seeds := left rows p) h1 h2 (fun s hs => h3 s (left_mem hs)) (by have := left_len rows p; omega)
  have d1 : decide ((c : Int) - rk c (left rows p) = 0) = false := decide_eq_false (by omega)
  simp! only [eN_s, oL, eL, eT, k, hp, eqv_int, d1]
/-- the places that go -/
theorem st18c {c i : Nat} {rows : List Nat} (h0 : 1 ≤ rows.length) (hl : rows.length ≤ 20) (hi3 : i ≤ 3) (ds : List Int) (s0 s2 s4 s5 s6 s8 s9 s10 s11 s12 s13 s14 s15 s16 s17 s18 s19 s20 s21 z7 r24 r25 r26 : Slot) (tl : DL.Env) (h7 : noOwS (some z7) = true) :
    ∃ (G : List Nat) (ds' : List Int), (∀ x ∈ G, x < rows.length) ∧ G.length ≤ i ∧ (fSet 25 (fV gTupl (fVL gSort (fDictOf (fLc [7] (fRg1 (faCons (fVar 23) faNil)) (fgName 7) fYes (fTup (faCons (fCallL 2 (M__law_take aS) (fvLn (fVar 1) (fvIm (fV gLen (fVar 22)) fvNil)) []) (faCons (fK (.bl true)) faNil)))))))) (s0 :: oI ds :: s2 :: .im (eN c) :: s4 :: s5 :: s6 :: z7 :: s8 :: s9 :: s10 :: s11 :: s12 :: s13 :: s14 :: s15 :: s16 :: s17 :: s18 :: s19 :: s20 :: s21 :: .im (eL rows) :: .im (eN i) :: r24 :: r25 :: r26 :: tl) = some (.nx (s0 :: oI ds' :: s2 :: .im (eN c) :: s4 :: s5 :: s6 :: z7 :: s8 :: s9 :: s10 :: s11 :: s12 :: s13 :: s14 :: s15 :: s16 :: s17 :: s18 :: s19 :: s20 :: s21 :: .im (eL rows) :: .im (eN i) :: r24 :: .im (eT G) :: r26 :: tl)) := by
  obtain ⟨l, ds', q1, q2, q3⟩ := lcF_ex (vs := [7]) (g := fgName 7) (ft := fYes) (fe := fTup (faCons (fCallL 2 (M__law_take aS) (fvLn (fVar 1) (fvIm (fV gLen (fVar 22)) fvNil)) []) (faCons (fK (.bl true)) faNil))) (fun ds : List Int => (s0 :: oI ds :: s2 :: .im (eN c) :: s4 :: s5 :: s6 :: .un :: s8 :: s9 :: s10 :: s11 :: s12 :: s13 :: s14 :: s15 :: s16 :: s17 :: s18 :: s19 :: s20 :: s21 :: .im (eL rows) :: .im (eN i) :: r24 :: r25 :: r26 :: tl)) (fun d => ∃ t : Nat, d = D.tup [.int (t : Nat), .bl true] ∧ t < rows.length) ((List.range i).map eN) [] ds (by
    intro y _ xs acc ds
    obtain ⟨t, ht, hm⟩ := take_n (aS := aS) ds rows.length (by omega)
    refine ⟨_, ds.dropLast, ⟨t, rfl, ht⟩, ?_⟩
    simp! only [eN_s, oI, eL, hm])
  have ts : ∃ ts : List Nat, l = ts.map (fun t => D.tup [.int (t : Nat), .bl true]) ∧ ∀ t ∈ ts, t < rows.length := by
    clear q1 q3
    induction l with
    | nil => exact ⟨[], rfl, fun t h => by cases h⟩
    | cons d l ih =>
      obtain ⟨ts, rfl, h⟩ := ih fun d hd => q2 d (by simp [hd])
      obtain ⟨t, rfl, ht⟩ := q2 d (by simp)
      exact ⟨t :: ts, rfl, fun x hx => (List.mem_cons.mp hx).elim (fun e => e ▸ ht) (h x)⟩
  obtain ⟨ts, rfl, hts⟩ := ts
  rw [List.length_map, List.length_map, List.length_range] at q1
  obtain ⟨G, g1, g2, g3⟩ := gone_ok ts hts (by omega)
  refine ⟨G, ds', g1, by omega, ?_⟩
  have b1 : -(2 ^ 62) ≤ (i : Int) ∧ (i : Int) < 2 ^ 62 := by omega
  have hr : rgD 0 i = (List.range i).map eN := rgD0 _
  have hl : i ≤ sizeLine := Nat.le_trans (show _ ≤ 1000 by omega) (by decide)
  have hp := pairs_ok ts
  simp only [eN_s, eL, oI, List.nil_append] at q3
  generalize (ts.map fun t => D.tup [.int (t : Nat), .bl true]) = L1 at q3 hp
  generalize (ts.map fun t => ((.inl ((t : Nat) : Int) : Key), D.bl true)) = L2' at g3 hp
  simp! only [eN_s, oI, eL, eT, b1, hr, h7, hl, List.length_range, q3, fDictOf_s, gDict_l, hp, g3]
theorem st18d {c i : Nat} {rows : List Nat} (h1 : 1 ≤ c) (h2 : c ≤ 24) (h3 : ∀ s ∈ rows, s < 65536) (h0 : 1 ≤ rows.length) (hl : rows.length ≤ 20) (hi : i ≤ rows.length) (hi3 : i ≤ 3) {G : List Nat} (hG : ∀ x ∈ G, x < rows.length) (hGl : G.length ≤ i) (hp : ∀ p ∈ sets rows.length i, ¬ rk c (left rows p) < c) (ds : List Int) (s0 s2 s4 s5 s6 s8 s9 s10 s11 s12 s13 s14 s15 s16 s17 s18 s19 s20 s21 z7 r24 : Slot) (tl : DL.Env) (rest : FS) :
    (fIfS (fOr (fTst (fOp oNe (fCall 2 (M_lack aS) (faCons (fVar 3) (faCons (fVar 26) faNil)) []) (fK (.int 0)))) (fAnd (fTst (fOp oGt (fVar 23) (fK (.int 0)))) (fTst (fV (gIsN Bool.not) (fCall 3 (M_loss_against aS) (faCons (fVar 3) (faCons (fVar 22) (faCons (fSubI (fVar 23) (fK (.int 1))) faNil))) []))))) rest fNext) (s0 :: oI ds :: s2 :: .im (eN c) :: s4 :: s5 :: s6 :: z7 :: s8 :: s9 :: s10 :: s11 :: s12 :: s13 :: s14 :: s15 :: s16 :: s17 :: s18 :: s19 :: s20 :: s21 :: .im (eL rows) :: .im (eN i) :: r24 :: .im (eT G) :: oL (left rows G) :: tl) = some (.nx (s0 :: oI ds :: s2 :: .im (eN c) :: s4 :: s5 :: s6 :: z7 :: s8 :: s9 :: s10 :: s11 :: s12 :: s13 :: s14 :: s15 :: s16 :: s17 :: s18 :: s19 :: s20 :: s21 :: .im (eL rows) :: .im (eN i) :: r24 :: .im (eT G) :: .im (eL (left rows G)) :: tl)) := by
  have full : ∀ G : List Nat, (∀ x ∈ G, x < rows.length) → G.length ≤ i → rk c (left rows G) = c := fun G hG hGl => by
    obtain ⟨p, hp1, hp2⟩ := sets_over hi G hG hGl
    have q1 := hp p hp1
    have q2 : rk c (left rows p) ≤ rk c (left rows G) := rk_mono (left_sub hp2)
    have q3 := rk_le h1 (left rows G)
    omega
  have hf := full G hG hGl
  have k := lackS (aS := aS) (c := c) (seeds := left rows G) h1 h2 (fun s hs => h3 s (left_mem hs)) (by have := left_len rows G; omega)
  rw [show (c : Int) - rk c (left rows G) = 0 by omega] at k
  by_cases hi0 : i = 0
  · have d1 : decide ((0 : Int) < (i : Int)) = false := decide_eq_false (by omega)
    simp! only [eN_s, oL, eL, eT, k, eqv_int, d1]
  · have d1 : decide ((0 : Int) < (i : Int)) = true := decide_eq_true (by omega)
    have e1 : (i : Int) - 1 = ((i - 1 : Nat) : Int) := by omega
    rcases m_loss (aS := aS) c rows (i - 1) h1 h2 h3 h0 hl (by omega) (by omega) with ⟨p, hp', hr, hm⟩ | ⟨_, hm⟩
    · obtain ⟨a, b⟩ := sets_in _ _ hp'
      have := full p b (by omega)
      omega
    · simp only [eN_s, eL] at hm
      simp! only [eN_s, oL, eL, eT, k, eqv_int, d1, e1, hm]
end K22
end
section
set_option Elab.async false
set_option linter.all false
set_option maxRecDepth 100000
set_option maxHeartbeats 1000000
namespace K22
open PySem L2 DL
local macro_rules | `(tactic| simp! only [$as,*]) => `(tactic| simp -implicitDefEqProofs only [$as,*, DL.fK_s, DL.fVar_s, DL.varSF_im, DL.varSF_ow, DL.asImF_im, DL.asImF_tm, DL.asImF_vr, DL.imOF_l, DL.imSF_im, DL.imSF_l, DL.some_bindF, DL.f1_s, DL.f2_s, DL.f2v_s, DL.fOp_s, DL.oI_s, DL.oI0_s, DL.oB0_s, DL.oEq_s, DL.oNe_s, DL.fV_s, DL.vw_im, DL.vw_tm, DL.vw_vr, DL.vw_at, DL.vwS_im, DL.vwS_ow, DL.toD_l, DL.toD_k, DL.toD_t, DL.gLen_l, DL.gLen_wl, DL.gLen_tup, DL.gLen_dK, DL.gSum_l, DL.gBs_l, DL.gAnyI_l, DL.gInt_i, DL.gInt_b, DL.gIsN_n, DL.gIsN_i, DL.gIsN_l, DL.gIsN_tup, DL.gIsN_s, DL.gIsN_b, DL.fVL_s, DL.gList_l, DL.gList_wl, DL.gList_tup, DL.gRev_l, DL.gTupl_l, DL.gTupl_t, DL.fTruT_s, DL.gTru_n, DL.gTru_b, DL.gTru_i, DL.gTru_l, DL.gTru_tup, DL.fAnd_s, DL.fOr_s, DL.fNot_s, DL.fIf_s, DL.fAndV_s, DL.fOrV_s, DL.fNotV_s, DL.onBlF_b, DL.fChain_s, DL.fTst_s, DL.blXF_b, DL.gIx_l, DL.gIx_wl, DL.gIx_tup, DL.gIx_dK, DL.gIx_dT, DL.keepF_im, DL.keepF_vr, DL.keepF_at, DL.keepF_tm, DL.fIxE_s, DL.fInE_s, DL.gIn_l, DL.gIn_tup, DL.gIn_dK, DL.gIn_dT, DL.fPlusE_s, DL.gPlus_i, DL.gPlus_l, DL.gPlus_t, DL.gPlus_s, DL.fTimesE_s, DL.gTimes_i, DL.gTimes_l, DL.faNil_s, DL.faCons_s, DL.fTup_s, DL.fLst_s, DL.fNewK_s, DL.fNewT_s, DL.foNo_s, DL.foAt_s, DL.onIntF_i, DL.fSlE_s, DL.gSl_l, DL.gSl_t, DL.fBits_s, DL.fNeg_s, DL.fMin2_s, DL.fMax2_s, DL.onPairF_i, DL.callF_s, DL.fCall_s, DL.resF_im, DL.resF_ow, DL.fvNil_s, DL.fvIm_s, DL.fvLn_s, DL.agF_im, DL.agF_vr, DL.fCallL_s, DL.callRF_s, DL.lendF_n, DL.lendF_i, DL.lendF_v, DL.lendSF_o, DL.lendSF_i, DL.joinF_n, DL.joinF_i, DL.joinF_o, DL.backF_n, DL.backF_i, DL.backF_vi, DL.backF_vo, DL.argS_n, DL.argS_i, DL.argS_o, DL.fMt_s, DL.staysB_v, DL.staysB_a, DL.okB_l, DL.okB_k, DL.okB_t, DL.obAt_v, DL.obAt_a, DL.obV_o, DL.obI_i, DL.obF_o, DL.setOb_v, DL.setOb_a, DL.setV_o, DL.setI_o, DL.gAppend_s, DL.gPop_s, DL.gPopAt_s, DL.gReverse_s, DL.gExtend_s, DL.fNext_s, DL.next_n, DL.next_r, DL.next_b, DL.next_c, DL.fSeq_s, DL.fBreak_s, DL.fCont_s, DL.fNever_s, DL.fDrop_s, DL.fIfS_s, DL.fRet_s, DL.retF_i, DL.retF_t, DL.retF_v, DL.retSF_i, DL.retSF_o, DL.fRetN_s, DL.fSet_s, DL.setF_t, DL.setF_i, DL.setF_v, DL.fgName_s, DL.fgNil_s, DL.fgCons_s, DL.fgTup_t, DL.fAsg_s, DL.fPar_s, DL.two_s, DL.fAug_s, DL.isImB_i, DL.augF_s, DL.fSub_s, DL.gPut_l, DL.gPut_k, DL.gPut_t, DL.fSeqI_s, DL.seqF_l, DL.seqF_wl, DL.seqF_t, DL.seqF_o, DL.seqF_v, DL.seqSlF_o, DL.fRg1_s, DL.fRg2_s, DL.fEnum_s, DL.fZip_s, DL.zipXs_l, DL.zipXs_t, DL.fFor_s, DL.finFor_n, DL.finFor_r, DL.finFor_g, DL.bkF_n, DL.bkF_g, DL.fLc_s, DL.fLc2_s, DL.fYes_s, DL.runB_s, DL.endF_n, DL.endF_r, DL.finF_n, DL.finF_i, DL.finF_o, DL.wipeE_n, DL.wipeE_c, DL.restE_n, DL.restE_c, DL.noOw_n, DL.noOw_c, DL.noOwS_u, DL.noOwS_i, DL.lcF_n, DL.lcF_c, DL.goForF_n, DL.goForF_c, DL.contF_n, DL.contF_c, DL.contF_b, DL.contF_r, DL.key_i, DL.key_s, DL.fItL_s, DL.dkOf_s, DL.fFld_s, DL.fXF_v, DL.fXF_d, DL.fXF_t, DL.vwAt_i, DL.vwF_s, DL.fvD_i, DL.fvD_o, DL.obD_k, DL.obD_l, DL.fSetF_s, DL.setFXF_d, DL.setFXF_o, DL.fMeth_s, DL.mXF_v, DL.mXF_d, DL.fMake_s, DL.mkRF_s, DL.mkXF_s, DL.fForItemsF_s, DL.fForItems_s, DL.plJ_a, DL.plJ_v, DL.itGF_s, DL.goItF_n, DL.goItF_c, DL.contI_n, DL.isVl_v, DL.bkF_v, DL.plusSub_1, DL.sl_0, DL.sl_1, DL.sl_2, DL.sl_3, DL.sl_4, DL.sl_5, DL.sl_6, DL.sl_7, DL.sl_8, DL.sl_9, DL.sx_0, DL.sx_1, DL.sx_2, DL.sx_3, DL.sx_4, DL.sx_5, DL.sx_6, DL.sx_7, DL.sx_8, DL.sx_9, List.getElem?_cons_zero, List.getElem?_cons_succ, List.set_cons_zero, List.set_cons_succ, List.nil_append, List.cons_append, List.append_nil, List.map_cons, List.map_nil, List.length_cons, List.length_nil, List.replicate_succ, List.replicate_zero, DL.ok_int, DL.eqv_int, DL.ok_bl, if_true, Bool.false_eq_true, if_false, true_and, and_true, and_self, List.length_map, Option.bind_none, Nat.zero_add, Option.getD_some, Bool.and_true, Bool.true_and, decide_eq_true_eq, Bool.not_true, Bool.not_false, ite_true, ite_false, Nat.reduceAdd, Int.reduceAdd, Nat.reduceEqDiff, eq_self, reduceIte, id_eq, Int.toNat_natCast, DL.ok_li, DL.ok_ti, DL.eqv_li, DL.eqv_ti, DL.ok_non, Nat.zero_le, decide_true, decide_false])
variable {aS : Addr}
noncomputable abbrev B18 (aSums : Addr) : FS := (fSeq (fSet 24 (fCall 3 (M_loss_against aSums) (faCons (fVar 3) (faCons (fVar 22) (faCons (fVar 23) faNil))) []))
  (fIfS (fTst (fV (gIsN id) (fVar 24)))
  (fSeq (fSet 25 (fV gTupl (fVL gSort (fDictOf (fLc [7] (fRg1 (faCons (fVar 23) faNil)) (fgName 7) fYes (fTup (faCons (fCallL 2 (M__law_take aSums) (fvLn (fVar 1) (fvIm (fV gLen (fVar 22)) fvNil)) []) (faCons (fK (.bl true)) faNil))))))))
  (fSeq (fSet 26 (fLc [7] (fRg1 (faCons (fV gLen (fVar 22)) faNil)) (fgName 7) (fTst (fInE Bool.not (fVar 7) (fVar 25))) (fIxE true (fVar 22) (fVar 7))))
  (fIfS (fOr (fTst (fOp oNe (fCall 2 (M_lack aSums) (faCons (fVar 3) (faCons (fVar 26) faNil)) []) (fK (.int 0)))) (fAnd (fTst (fOp oGt (fVar 23) (fK (.int 0)))) (fTst (fV (gIsN Bool.not) (fCall 3 (M_loss_against aSums) (faCons (fVar 3) (faCons (fVar 22) (faCons (fSubI (fVar 23) (fK (.int 1))) faNil))) [])))))
  (fRet (fK (.bl false)))
  fNext)))
  (fSeq (fSet 26 (fLc [7] (fRg1 (faCons (fV gLen (fVar 22)) faNil)) (fgName 7) (fTst (fInE Bool.not (fVar 7) (fVar 24))) (fIxE true (fVar 22) (fVar 7))))
  (fIfS (fOr (fTst (fOp oNe (fV gLen (fVar 24)) (fVar 23))) (fTst (fOp oEq (fCall 2 (M_lack aSums) (faCons (fVar 3) (faCons (fVar 26) faNil)) []) (fK (.int 0)))))
  (fRet (fK (.bl false)))
  fNext))))
noncomputable def BT (aSums : Addr) : FS := (fSeq (fAsg (fTup (faCons (fPlusE (fK (.int 1)) (fCallL 2 (M__law_take aSums) (fvLn (fVar 1) (fvIm (fK (.int 7)) fvNil)) [])) (faCons (fPlusE (fK (.int 1)) (fCallL 2 (M__law_take aSums) (fvLn (fVar 1) (fvIm (fK (.int 4)) fvNil)) [])) faNil))) (fgTup 2 (fgCons (fgName 3) (fgCons (fgName 4) fgNil))))
  (fSeq (fSet 5 (fLc [6] (fRg1 (faCons (fVar 3) faNil)) (fgName 6) fYes (fLc [7] (fRg1 (faCons (fVar 4) faNil)) (fgName 7) fYes (fCallL 2 (M__law_take aSums) (fvLn (fVar 1) (fvIm (fK (.int 256)) fvNil)) []))))
  (fSeq (fSet 8 (fLc [6] (fRg1 (faCons (fVar 3) faNil)) (fgName 6) fYes (fLc [7] (fRg1 (faCons (fVar 4) faNil)) (fgName 7) fYes (fCallL 2 (M__law_take aSums) (fvLn (fVar 1) (fvIm (fK (.int 256)) fvNil)) []))))
  (fSeq (fSet 9 (fLc [7] (fRg1 (faCons (fCallL 2 (M__law_take aSums) (fvLn (fVar 1) (fvIm (fK (.int 7)) fvNil)) []) faNil)) (fgName 7) fYes (fPlusE (fTimesE (fCallL 2 (M__law_take aSums) (fvLn (fVar 1) (fvIm (fK (.int 256)) fvNil)) []) (fK (.int 256))) (fCallL 2 (M__law_take aSums) (fvLn (fVar 1) (fvIm (fK (.int 256)) fvNil)) []))))
  (fSeq (fFor (fSeqI (fSlE true (fVar 9) foNo (foAt (fK (.int 3))))) (fgName 10)
  (B5 aSums))
  (fSeq (fSet 16 (fCall 2 (M_lack aSums) (faCons (fVar 3) (faCons (fVar 9) faNil)) []))
  (fSeq (fIfS (fOr (fTst (fOp oGt (fVar 16) (fVar 3))) (fOr (fTst (fOp oNe (fCall 2 (M_lack aSums) (faCons (fVar 3) (faCons (fLst faNil) faNil)) []) (fVar 3))) (fOr (fTst (fOp oNe (fCall 2 (M_lack aSums) (faCons (fVar 3) (faCons (fPlusE (fVar 9) (fVar 9)) faNil)) []) (fVar 16))) (fTst (fOp oNe (fCall 2 (M_lack aSums) (faCons (fVar 3) (faCons (fVL gRev (fVar 9)) faNil)) []) (fVar 16))))))
  (fRet (fK (.bl false)))
  fNext)
  (fSeq (fSet 10 (fTimesE (fCallL 2 (M__law_take aSums) (fvLn (fVar 1) (fvIm (fK (.int 256)) fvNil)) []) (fK (.int 256))))
  (fSeq (fIfS (fNot (fTst (fChain oLe oLe (fSubI (fVar 16) (fK (.int 1))) (fCall 2 (M_lack aSums) (faCons (fVar 3) (faCons (fPlusE (fVar 9) (fLst (faCons (fVar 10) faNil))) faNil)) []) (fVar 16))))
  (fRet (fK (.bl false)))
  fNext)
  (fSeq (fSet 17 (fVL gList (fVar 9)))
  (fSeq (fFor (fRg1 (faCons (fVar 16) faNil)) (fgName 7)
  (B11 aSums))
  (fSeq (fIfS (fOr (fTst (fV (gIsN Bool.not) (fBor 17 (fCall 2 (M_next_seed aSums) (faCons (fVar 3) (faCons (fVar 17) faNil)) [])))) (fTst (fOp oNe (fBor 17 (fCall 2 (M_lack aSums) (faCons (fVar 3) (faCons (fVar 17) faNil)) [])) (fK (.int 0)))))
  (fRet (fK (.bl false)))
  fNext)
  (fSeq (fSet 19 (fCall 2 (M_gathered_slices aSums) (faCons (fVar 3) (faCons (fLc [20] (fSeqI (fVar 17)) (fgName 20) fYes (cD aSums)) faNil)) []))
  (fSeq (fIfS (fTst (fOp oNe (fVar 19) (fVar 5)))
  (fRet (fK (.bl false)))
  fNext)
  (fSeq (fSet 21 (fCall 2 (M_gathered_slices aSums) (faCons (fVar 3) (faCons (fLc [20] (fSeqI (fVar 9)) (fgName 20) fYes (cD aSums)) faNil)) []))
  (fSeq (fIfS (fOr (fTst (fOp oGt (fV gLen (fLc [7] (fRg1 (faCons (fVar 3) faNil)) (fgName 7) (fAnd (fTst (fV (gIsN Bool.not) (fIxE true (fVar 21) (fVar 7)))) (fTst (fOp oNe (fIxE true (fVar 21) (fVar 7)) (fIxE true (fVar 5) (fVar 7))))) (fK (.int 1)))) (fK (.int 0)))) (fTst (fOp oNe (fInE id (fK .non) (fVar 21)) (fOp oGt (fVar 16) (fK (.int 0))))))
  (fRet (fK (.bl false)))
  fNext)
  (fSeq (fSet 22 (fSlE true (fBor 17 (fPlusE (fBor 17 (fPlusE (fVar 17) (fLst (faCons (fIf (fTst (fOp oGt (fVar 3) (fK (.int 0)))) (fCall 2 (M_next_seed aSums) (faCons (fVar 3) (faCons (fLst faNil) faNil)) []) (fK (.int 0))) faNil)))) (fVar 17))) foNo (foAt (fK (.int 9)))))
  (fFor (fRg1 (faCons (fPlusE (fMin2 (faCons (fK (.int 3)) (faCons (fV gLen (fVar 22)) faNil))) (fK (.int 1))) faNil)) (fgName 23)
  (B18 aSums)))))))))))))))))))
theorem f_law_eq (aSums : Addr) : f_law aSums = (fSeq (fSet 1 (fCall 2 (M__law_draws aSums) (faCons (fVar 0) (faCons (fK (.int 400)) faNil)) []))
  (fSeq (fFor (fRg1 (faCons (fK (.int 2)) faNil)) (fgName 2)
  (BT aSums))
  (fRet (fK (.bl true))))) := rfl
theorem loop18 {c : Nat} {rows : List Nat} (h1 : 1 ≤ c) (h2 : c ≤ 7) (h3 : ∀ s ∈ rows, s < 65536) (h0 : 1 ≤ rows.length) (hl : rows.length ≤ 20) (ds : List Int) (s0 s2 s4 s5 s6 s8 s9 s10 s11 s12 s13 s14 s15 s16 s17 s18 s19 s20 s21 z7 s23 s24 s25 s26 : Slot) (tl : DL.Env) (h7 : noOwS (some z7) = true) :
    ∃ ds' r22 r23 r24 r25 r26, (fFor (fRg1 (faCons (fPlusE (fMin2 (faCons (fK (.int 3)) (faCons (fV gLen (fVar 22)) faNil))) (fK (.int 1))) faNil)) (fgName 23) (B18 aS)) (s0 :: oI ds :: s2 :: .im (eN c) :: s4 :: s5 :: s6 :: z7 :: s8 :: s9 :: s10 :: s11 :: s12 :: s13 :: s14 :: s15 :: s16 :: s17 :: s18 :: s19 :: s20 :: s21 :: oL rows :: s23 :: s24 :: s25 :: s26 :: tl) = some (.nx (s0 :: oI ds' :: s2 :: .im (eN c) :: s4 :: s5 :: s6 :: z7 :: s8 :: s9 :: s10 :: s11 :: s12 :: s13 :: s14 :: s15 :: s16 :: s17 :: s18 :: s19 :: s20 :: s21 :: r22 :: r23 :: r24 :: r25 :: r26 :: tl)) := by
  have hm : ∃ m : Nat, (if ((rows.length : Nat) : Int) < 3 then ((rows.length : Nat) : Int) else 3) + 1 = ((m + 1 : Nat) : Int) ∧ m ≤ 3 ∧ m ≤ rows.length := by
    by_cases h : rows.length < 3
    · exact ⟨rows.length, by rw [if_pos (by omega)]; omega, by omega, by omega⟩
    · exact ⟨3, by rw [if_neg (by omega)]; omega, by omega, by omega⟩
  obtain ⟨m, hm, m3, ml⟩ := hm
  obtain ⟨δ', h, b, ds', r22, r23, r24, r25, r26, _, rfl⟩ := goForF_ind (g := fgName 23) (r := B18 aS) (fun i δ => ∃ b ds r22 r23 r24 r25 r26, r22 = sL b rows ∧ δ = (s0 :: oI ds :: s2 :: .im (eN c) :: s4 :: s5 :: s6 :: z7 :: s8 :: s9 :: s10 :: s11 :: s12 :: s13 :: s14 :: s15 :: s16 :: s17 :: s18 :: s19 :: s20 :: s21 :: r22 :: r23 :: r24 :: r25 :: r26 :: tl)) ((List.range (m + 1)).map eN) 0 ⟨true, ds, oL rows, s23, s24, s25, s26, rfl, rfl⟩ (by
    rintro i y xs δ hy ⟨b, ds, r22, r23, r24, r25, r26, rfl, rfl⟩
    have hi : i < m + 1 := by have := (List.getElem?_eq_some_iff.mp hy).1; simpa using this
    rw [List.getElem?_map, List.getElem?_range hi] at hy
    cases hy
    have il : i ≤ rows.length := by omega
    have i3 : i ≤ 3 := by omega
    rcases st18a (aS := aS) h1 (show c ≤ 24 by omega) h3 h0 hl il i3 ds b s0 s2 s4 s5 s6 s8 s9 s10 s11 s12 s13 s14 s15 s16 s17 s18 s19 s20 s21 z7 r24 r25 r26 tl with ⟨p, hp, hr, a1⟩ | ⟨hp, a1⟩
    · have a2 := st18b (c := c) hl p ds s0 s2 s4 s5 s6 s8 s9 s10 s11 s12 s13 s14 s15 s16 s17 s18 s19 s20 s21 z7 (.im (eN i)) r25 r26 tl h7
      have a3 := st18e (aS := aS) h1 (show c ≤ 24 by omega) h3 hl (sets_in _ _ hp).1 hr ds s0 s2 s4 s5 s6 s8 s9 s10 s11 s12 s13 s14 s15 s16 s17 s18 s19 s20 s21 z7 r25 tl (fRet (fK (.bl false)))
      refine ⟨_, ?_, false, ds, .im (eL rows), .im (eN i), .im (eT p), r25, .im (eL (left rows p)), rfl, rfl⟩
      rw [goForF_c]
      show ((fSeq _ _) (s0 :: oI ds :: s2 :: .im (eN c) :: s4 :: s5 :: s6 :: z7 :: s8 :: s9 :: s10 :: s11 :: s12 :: s13 :: s14 :: s15 :: s16 :: s17 :: s18 :: s19 :: s20 :: s21 :: sL b rows :: .im (eN i) :: r24 :: r25 :: r26 :: tl)).bind _ = _
      rw [seq_nx a1]
      generalize (fSet 26 (fLc [7] (fRg1 (faCons (fV gLen (fVar 22)) faNil)) (fgName 7) (fTst (fInE Bool.not (fVar 7) (fVar 24))) (fIxE true (fVar 22) (fVar 7)))) = A2 at a2 ⊢
      generalize (fIfS (fOr (fTst (fOp oNe (fV gLen (fVar 24)) (fVar 23))) (fTst (fOp oEq (fCall 2 (M_lack aS) (faCons (fVar 3) (faCons (fVar 26) faNil)) []) (fK (.int 0))))) (fRet (fK (.bl false))) fNext) = A3 at a3 ⊢
      have a4 := (seq_nx (g := A3) a2).trans a3
      generalize (fSeq A2 A3) = A4 at a4 ⊢
      simp only [eT] at a4
      simp! only [eT, a4]
    · obtain ⟨G, ds', g1, g2, b1⟩ := st18c (aS := aS) (c := c) h0 hl i3 ds s0 s2 s4 s5 s6 s8 s9 s10 s11 s12 s13 s14 s15 s16 s17 s18 s19 s20 s21 z7 (.im .non) r25 r26 tl h7
      have b2 := st18b' (c := c) hl G ds' s0 s2 s4 s5 s6 s8 s9 s10 s11 s12 s13 s14 s15 s16 s17 s18 s19 s20 s21 z7 (.im (eN i)) (.im .non) r26 tl h7
      have b3 := st18d (aS := aS) h1 (show c ≤ 24 by omega) h3 h0 hl il i3 g1 g2 hp ds' s0 s2 s4 s5 s6 s8 s9 s10 s11 s12 s13 s14 s15 s16 s17 s18 s19 s20 s21 z7 (.im .non) tl (fRet (fK (.bl false)))
      refine ⟨_, ?_, false, ds', .im (eL rows), .im (eN i), .im .non, .im (eT G), .im (eL (left rows G)), rfl, rfl⟩
      rw [goForF_c]
      show ((fSeq _ _) (s0 :: oI ds :: s2 :: .im (eN c) :: s4 :: s5 :: s6 :: z7 :: s8 :: s9 :: s10 :: s11 :: s12 :: s13 :: s14 :: s15 :: s16 :: s17 :: s18 :: s19 :: s20 :: s21 :: sL b rows :: .im (eN i) :: r24 :: r25 :: r26 :: tl)).bind _ = _
      rw [seq_nx a1]
      generalize (fSet 25 (fV gTupl (fVL gSort (fDictOf (fLc [7] (fRg1 (faCons (fVar 23) faNil)) (fgName 7) fYes (fTup (faCons (fCallL 2 (M__law_take aS) (fvLn (fVar 1) (fvIm (fV gLen (fVar 22)) fvNil)) []) (faCons (fK (.bl true)) faNil)))))))) = A1 at b1 ⊢
      generalize (fSet 26 (fLc [7] (fRg1 (faCons (fV gLen (fVar 22)) faNil)) (fgName 7) (fTst (fInE Bool.not (fVar 7) (fVar 25))) (fIxE true (fVar 22) (fVar 7)))) = A2 at b2 ⊢
      generalize (fIfS (fOr (fTst (fOp oNe (fCall 2 (M_lack aS) (faCons (fVar 3) (faCons (fVar 26) faNil)) []) (fK (.int 0)))) (fAnd (fTst (fOp oGt (fVar 23) (fK (.int 0)))) (fTst (fV (gIsN Bool.not) (fCall 3 (M_loss_against aS) (faCons (fVar 3) (faCons (fVar 22) (faCons (fSubI (fVar 23) (fK (.int 1))) faNil))) []))))) (fRet (fK (.bl false))) fNext) = A3 at b3 ⊢
      have b4 := ((seq_nx (g := fSeq A2 A3) b1).trans (seq_nx (g := A3) b2)).trans b3
      generalize fSeq A1 (fSeq A2 A3) = A4 at b4 ⊢
      simp only [eT] at b4
      simp! only [eT, b4])
  refine ⟨ds', r22, r23, r24, r25, r26, ?_⟩
  have b1 : -(2 ^ 62) ≤ ((m + 1 : Nat) : Int) ∧ ((m + 1 : Nat) : Int) < 2 ^ 62 := by omega
  have hr : rgD 0 (m + 1) = (List.range (m + 1)).map eN := rgD0 _
  generalize B18 aS = R at h ⊢
  simp only [oI, oL] at h
  simp! only [oI, oL, hm, b1, hr, h]
theorem st2 (c n : Nat) (hc : c ≤ 100) (hn : n ≤ 100) (ds : List Int) (s0 s2 s5 z6 z7 : Slot) (tl : DL.Env) (hz6 : noOwS (some z6) = true) (hz : noOwS (some z7) = true) : ∃ (sl : List (List Nat)) (ds' : List Int), sl.length = c ∧ (∀ r ∈ sl, r.length = n) ∧
    (fSet 5 (fLc [6] (fRg1 (faCons (fVar 3) faNil)) (fgName 6) fYes (fLc [7] (fRg1 (faCons (fVar 4) faNil)) (fgName 7) fYes (fCallL 2 (M__law_take aS) (fvLn (fVar 1) (fvIm (fK (.int 256)) fvNil)) [])))) (s0 :: oI ds :: s2 :: .im (eN c) :: .im (eN n) :: s5 :: z6 :: z7 :: tl) = some (.nx (s0 :: oI ds' :: s2 :: .im (eN c) :: .im (eN n) :: sR true sl :: z6 :: z7 :: tl)) := by
  obtain ⟨sl, ds', a, b, h⟩ := outer (aS := aS) c n hc hn ds s0 s2 s5 z6 z7 tl hz6 hz
  refine ⟨sl, ds', a, b, ?_⟩
  generalize (fLc [6] (fRg1 (faCons (fVar 3) faNil)) (fgName 6) fYes (fLc [7] (fRg1 (faCons (fVar 4) faNil)) (fgName 7) fYes (fCallL 2 (M__law_take aS) (fvLn (fVar 1) (fvIm (fK (.int 256)) fvNil)) []))) = E at h ⊢
  simp only [oI] at h
  simp! only [oI, h, sR_t]
theorem st3 (c n : Nat) (hc : c ≤ 100) (hn : n ≤ 100) (ds : List Int) (s0 s2 s5 z6 z7 s8 : Slot) (tl : DL.Env) (hz6 : noOwS (some z6) = true) (hz : noOwS (some z7) = true) : ∃ (sl : List (List Nat)) (ds' : List Int), sl.length = c ∧ (∀ r ∈ sl, r.length = n) ∧
    (fSet 8 (fLc [6] (fRg1 (faCons (fVar 3) faNil)) (fgName 6) fYes (fLc [7] (fRg1 (faCons (fVar 4) faNil)) (fgName 7) fYes (fCallL 2 (M__law_take aS) (fvLn (fVar 1) (fvIm (fK (.int 256)) fvNil)) [])))) (s0 :: oI ds :: s2 :: .im (eN c) :: .im (eN n) :: s5 :: z6 :: z7 :: s8 :: tl) = some (.nx (s0 :: oI ds' :: s2 :: .im (eN c) :: .im (eN n) :: s5 :: z6 :: z7 :: sR true sl :: tl)) := by
  obtain ⟨sl, ds', a, b, h⟩ := outer (aS := aS) c n hc hn ds s0 s2 s5 z6 z7 (s8 :: tl) hz6 hz
  refine ⟨sl, ds', a, b, ?_⟩
  generalize (fLc [6] (fRg1 (faCons (fVar 3) faNil)) (fgName 6) fYes (fLc [7] (fRg1 (faCons (fVar 4) faNil)) (fgName 7) fYes (fCallL 2 (M__law_take aS) (fvLn (fVar 1) (fvIm (fK (.int 256)) fvNil)) []))) = E at h ⊢
  simp only [oI] at h
  simp! only [oI, h, sR_t]
theorem st4 (ds : List Int) (s0 s2 s3 s4 s5 s6 z7 s8 s9 : Slot) (tl : DL.Env) (hz : noOwS (some z7) = true) : ∃ (o : List Nat) (ds' : List Int), o.length ≤ 6 ∧ (∀ x ∈ o, x < 65536) ∧
    (fSet 9 (fLc [7] (fRg1 (faCons (fCallL 2 (M__law_take aS) (fvLn (fVar 1) (fvIm (fK (.int 7)) fvNil)) []) faNil)) (fgName 7) fYes (fPlusE (fTimesE (fCallL 2 (M__law_take aS) (fvLn (fVar 1) (fvIm (fK (.int 256)) fvNil)) []) (fK (.int 256))) (fCallL 2 (M__law_take aS) (fvLn (fVar 1) (fvIm (fK (.int 256)) fvNil)) [])))) (s0 :: oI ds :: s2 :: s3 :: s4 :: s5 :: s6 :: z7 :: s8 :: s9 :: tl) = some (.nx (s0 :: oI ds' :: s2 :: s3 :: s4 :: s5 :: s6 :: z7 :: s8 :: oL o :: tl)) := by
  obtain ⟨o, ds', a, b, h⟩ := seeds_ok (aS := aS) ds s0 s2 s3 s4 s5 s6 z7 (s8 :: s9 :: tl) hz
  refine ⟨o, ds', a, b, ?_⟩
  generalize (fLc [7] (fRg1 (faCons (tk (fK (.int 7)) aS) faNil)) (fgName 7) fYes (fPlusE (fTimesE (tk (fK (.int 256)) aS) (fK (.int 256))) (tk (fK (.int 256)) aS))) = E at h ⊢
  simp only [oI] at h
  simp! only [oI, oL, h]
theorem st5 {sl ot : List (List Nat)} {n : Nat} (h1 : 1 ≤ sl.length) (hl : ot.length = sl.length) (h2 : sl.length ≤ 24) (hs : ∀ r ∈ sl, r.length = n) (ho : ∀ r ∈ ot, r.length = n) (hn : n ≤ 1000) (seeds : List Nat) (hse : ∀ s ∈ seeds, s < 65536) (ds : List Int) (s0 s2 s6 s7 z10 z11 z12 z13 z14 z15 : Slot) (tl : DL.Env) (h12 : noOwS (some z12) = true) (h13 : noOwS (some z13) = true) :
    ∃ ds' b5 b8 y10 y11 y14 y15, (fFor (fSeqI (fSlE true (fVar 9) foNo (foAt (fK (.int 3))))) (fgName 10) (B5 aS)) (s0 :: oI ds :: s2 :: .im (eN sl.length) :: .im (eN n) :: sR true sl :: s6 :: s7 :: sR true ot :: oL seeds :: z10 :: z11 :: z12 :: z13 :: z14 :: z15 :: tl)
      = some (.nx (s0 :: oI ds' :: s2 :: .im (eN sl.length) :: .im (eN n) :: sR b5 sl :: s6 :: s7 :: sR b8 ot :: oL seeds :: y10 :: y11 :: z12 :: z13 :: y14 :: y15 :: tl)) := by
  obtain ⟨ds', b5, b8, y10, y11, y14, y15, h⟩ := loop5 (aS := aS) h1 hl h2 hs ho hn (seeds.take 3) (fun s hs => hse s (List.mem_of_mem_take hs)) ds s0 s2 s6 s7 (oL seeds) z10 z11 z12 z13 z14 z15 tl h12 h13
  refine ⟨ds', b5, b8, y10, y11, y14, y15, ?_⟩
  have e : cutD (seeds.map eN) none (some 3) = (seeds.take 3).map eN := by rw [List.map_take]; exact cut_take _ 3
  generalize B5 aS = R at h ⊢
  generalize sR true sl = S5 at h ⊢
  generalize sR true ot = S8 at h ⊢
  generalize sR b5 sl = S5' at h ⊢
  generalize sR b8 ot = S8' at h ⊢
  generalize seeds.take 3 = L at h e
  simp only [oI, oL, eN_s] at h e
  simp! only [oI, oL, eN_s, e, h]
theorem st11 {c : Nat} {seeds : List Nat} (h1 : 1 ≤ c) (h2 : c ≤ 7) (h3 : ∀ s ∈ seeds, s < 65536) (hl : seeds.length ≤ 100) (s0 s1 s2 s4 s5 s6 s7 s8 s9 s10 s11 s12 s13 s14 s15 s18 : Slot) (tl : DL.Env) :
    ∃ more y7 y18, (∀ s ∈ more, s < 65536) ∧ more.length ≤ seeds.length + 7 ∧ rk c more = c ∧ (noOwS (some s7) = true → noOwS (some y7) = true) ∧ (fFor (fRg1 (faCons (fVar 16) faNil)) (fgName 7) (B11 aS)) (s0 :: s1 :: s2 :: .im (eN c) :: s4 :: s5 :: s6 :: s7 :: s8 :: s9 :: s10 :: s11 :: s12 :: s13 :: s14 :: s15 :: .im (.int ((c : Int) - rk c seeds)) :: oL seeds :: s18 :: tl)
      = some (.nx (s0 :: s1 :: s2 :: .im (eN c) :: s4 :: s5 :: s6 :: y7 :: s8 :: s9 :: s10 :: s11 :: s12 :: s13 :: s14 :: s15 :: .im (.int ((c : Int) - rk c seeds)) :: oL more :: y18 :: tl)) := by
  obtain ⟨more, y7, y18, m1, m2, m3, _, m5, h⟩ := loop11 (aS := aS) h1 h2 h3 hl s0 s1 s2 s4 s5 s6 s7 s8 s9 s10 s11 s12 s13 s14 s15 s18 tl
  refine ⟨more, y7, y18, m1, m2, m3, m5, ?_⟩
  have r1 := rk_le h1 seeds
  have e : (c : Int) - rk c seeds = ((c - rk c seeds : Nat) : Int) := by omega
  rw [e] at h ⊢
  generalize c - rk c seeds = m at *
  have b1 : -(2 ^ 62) ≤ (m : Int) ∧ (m : Int) < 2 ^ 62 := by omega
  have hr : rgD 0 m = (List.range m).map eN := rgD0 _
  generalize B11 aS = R at h ⊢
  simp only [oL] at h
  simp! only [oL, b1, hr, h]
def Good (δ : DL.Env) : Prop := ∃ s0 ds s2 s3 s4 s5 s6 s7 s8 s9 s10 s11 s12 s13 s14 s15 s16 s17 s18 s19 s20 s21 s22 s23 s24 s25 s26, noOwS (some s3) = true ∧ noOwS (some s4) = true ∧ noOwS (some s6) = true ∧ noOwS (some s7) = true ∧ noOwS (some s12) = true ∧ noOwS (some s13) = true ∧ noOwS (some s20) = true ∧ δ = [s0, oI ds, s2, s3, s4, s5, s6, s7, s8, s9, s10, s11, s12, s13, s14, s15, s16, s17, s18, s19, s20, s21, s22, s23, s24, s25, s26]
theorem turn_ok (δ : DL.Env) (h : Good δ) : ∃ δ', BT aS δ = some (.nx δ') ∧ Good δ' := by
  obtain ⟨s0, ds, s2, s3, s4, s5, s6, s7, s8, s9, s10, s11, s12, s13, s14, s15, s16, s17, s18, s19, s20, s21, s22, s23, s24, s25, s26, h3, h4, h6, h7, h12, h13, h20, rfl⟩ := h
  obtain ⟨c, n, ds1, c1, c7, n1, n4, a1⟩ := st1 (aS := aS) ds s0 s2 s3 s4 [s5, s6, s7, s8, s9, s10, s11, s12, s13, s14, s15, s16, s17, s18, s19, s20, s21, s22, s23, s24, s25, s26] h3 h4
  obtain ⟨sl, ds2, rfl, hsl, a2⟩ := st2 (aS := aS) c n (by omega) (by omega) ds1 s0 s2 s5 s6 s7 [s8, s9, s10, s11, s12, s13, s14, s15, s16, s17, s18, s19, s20, s21, s22, s23, s24, s25, s26] h6 h7
  obtain ⟨ot, ds3, hol, hot, a3⟩ := st3 (aS := aS) sl.length n (by omega) (by omega) ds2 s0 s2 (sR true sl) s6 s7 s8 [s9, s10, s11, s12, s13, s14, s15, s16, s17, s18, s19, s20, s21, s22, s23, s24, s25, s26] h6 h7
  obtain ⟨seeds, ds4, sd6, sd, a4⟩ := st4 (aS := aS) ds3 s0 s2 (.im (eN sl.length)) (.im (eN n)) (sR true sl) s6 s7 (sR true ot) s9 [s10, s11, s12, s13, s14, s15, s16, s17, s18, s19, s20, s21, s22, s23, s24, s25, s26] h7
  obtain ⟨ds5, b5, b8, y10, y11, y14, y15, a5⟩ := st5 (aS := aS) c1 hol (by omega) hsl hot (by omega) seeds sd ds4 s0 s2 s6 s7 s10 s11 s12 s13 s14 s15 [s16, s17, s18, s19, s20, s21, s22, s23, s24, s25, s26] h12 h13
  have a6 := st6 (aS := aS) c1 (by omega) sd (by omega) s0 (oI ds5) s2 (.im (eN n)) (sR b5 sl) s6 s7 (sR b8 ot) y10 y11 s12 s13 y14 y15 s16 [s17, s18, s19, s20, s21, s22, s23, s24, s25, s26]
  have a7 := st7 (aS := aS) c1 c7 sd (by omega) s0 (oI ds5) s2 (.im (eN n)) (sR b5 sl) s6 s7 (sR b8 ot) y10 y11 s12 s13 y14 y15 [s17, s18, s19, s20, s21, s22, s23, s24, s25, s26] (fRet (fK (.bl false)))
  obtain ⟨t, ds6, ht, a8⟩ := st8 (aS := aS) ds5 s0 s2 (.im (eN sl.length)) (.im (eN n)) (sR b5 sl) s6 s7 (sR b8 ot) (.im (eL seeds)) y10 (y11 :: s12 :: s13 :: y14 :: y15 :: .im (.int ((sl.length : Int) - rk sl.length seeds)) :: [s17, s18, s19, s20, s21, s22, s23, s24, s25, s26])
  have a9 := st9 (aS := aS) c1 c7 sd ht (by omega) s0 (oI ds6) s2 (.im (eN n)) (sR b5 sl) s6 s7 (sR b8 ot) y11 s12 s13 y14 y15 [s17, s18, s19, s20, s21, s22, s23, s24, s25, s26] (fRet (fK (.bl false)))
  have a10 := st10 seeds s0 (oI ds6) s2 (.im (eN sl.length)) (.im (eN n)) (sR b5 sl) s6 s7 (sR b8 ot) (.im (eN t)) y11 s12 s13 y14 y15 (.im (.int ((sl.length : Int) - rk sl.length seeds))) s17 [s18, s19, s20, s21, s22, s23, s24, s25, s26]
  obtain ⟨more, y7, y18, m1, m2, m3, m5, a11⟩ := st11 (aS := aS) c1 c7 sd (by omega) s0 (oI ds6) s2 (.im (eN n)) (sR b5 sl) s6 s7 (sR b8 ot) (.im (eL seeds)) (.im (eN t)) y11 s12 s13 y14 y15 s18 [s19, s20, s21, s22, s23, s24, s25, s26]
  have h7' := m5 h7
  have a12 := st12 (aS := aS) c1 c7 m1 (by omega) m3 s0 (oI ds6) s2 (.im (eN n)) (sR b5 sl) s6 y7 (sR b8 ot) (.im (eL seeds)) (.im (eN t)) y11 s12 s13 y14 y15 (.im (.int ((sl.length : Int) - rk sl.length seeds))) (y18 :: [s19, s20, s21, s22, s23, s24, s25, s26]) (fRet (fK (.bl false)))
  obtain ⟨b5', a13⟩ := st13 (aS := aS) c1 (by omega) hsl (by omega) m1 (by omega) m3 b5 s0 (oI ds6) s2 (.im (eN n)) s6 y7 (sR b8 ot) (.im (eL seeds)) (.im (eN t)) y11 s12 s13 y14 y15 (.im (.int ((sl.length : Int) - rk sl.length seeds))) y18 s19 s20 [s21, s22, s23, s24, s25, s26] h20
  have a14 := st14 (sl := sl) b5' s0 (oI ds6) s2 (.im (eN sl.length)) (.im (eN n)) s6 y7 (sR b8 ot) (.im (eL seeds)) (.im (eN t)) y11 s12 s13 y14 y15 (.im (.int ((sl.length : Int) - rk sl.length seeds))) (oL more) y18 [s20, s21, s22, s23, s24, s25, s26] (fRet (fK (.bl false)))
  have a15 := st15 (aS := aS) c1 (by omega) hsl (by omega) sd (by omega) s0 (oI ds6) s2 (.im (eN n)) s6 y7 (sR b8 ot) (.im (eN t)) y11 s12 s13 y14 y15 (.im (.int ((sl.length : Int) - rk sl.length seeds))) (oL more) y18 (sR false sl) s20 s21 [s22, s23, s24, s25, s26] h20
  have a16 := st16 (seeds := seeds) c1 (by omega) hsl s0 (oI ds6) s2 (.im (eN n)) s6 (sR b8 ot) (.im (eL seeds)) (.im (eN t)) y11 s12 s13 y14 y15 (oL more) y18 (sR false sl) s20 y7 [s22, s23, s24, s25, s26] (fRet (fK (.bl false))) h7'
  obtain ⟨rows, r1, r2, r3, a17⟩ := st17 (aS := aS) c1 c7 m1 (by omega) s0 (oI ds6) s2 (.im (eN n)) (sR false sl) s6 y7 (sR b8 ot) (.im (eL seeds)) (.im (eN t)) y11 s12 s13 y14 y15 (.im (.int ((sl.length : Int) - rk sl.length seeds))) y18 (sR false sl) s20 (.ow .fresh (.ob (.lst ((somes sl seeds).map oD)))) s22 [s23, s24, s25, s26]
  obtain ⟨ds7, w22, w23, w24, w25, w26, a18⟩ := loop18 (aS := aS) c1 c7 r1 r2 (by omega) ds6 s0 s2 (.im (eN n)) (sR false sl) s6 (sR b8 ot) (.im (eL seeds)) (.im (eN t)) y11 s12 s13 y14 y15 (.im (.int ((sl.length : Int) - rk sl.length seeds))) (oL more) y18 (sR false sl) s20 (.ow .fresh (.ob (.lst ((somes sl seeds).map oD)))) y7 s23 s24 s25 s26 [] h7'
  refine ⟨_, ?_, s0, ds7, s2, .im (eN sl.length), .im (eN n), sR false sl, s6, y7, sR b8 ot, .im (eL seeds), .im (eN t), y11, s12, s13, y14, y15, .im (.int ((sl.length : Int) - rk sl.length seeds)), oL more, y18, sR false sl, s20, .ow .fresh (.ob (.lst ((somes sl seeds).map oD))), w22, w23, w24, w25, w26, rfl, rfl, h6, h7', h12, h13, h20, rfl⟩
  unfold BT
  rw [seq_nx a1, seq_nx a2, seq_nx a3, seq_nx a4, seq_nx a5, seq_nx a6, seq_nx a7, seq_nx a8, seq_nx a9, seq_nx a10, seq_nx a11, seq_nx a12, seq_nx a13, seq_nx a14, seq_nx a15, seq_nx a16, seq_nx a17]
  exact a18
end K22
end
section
set_option Elab.async false
set_option linter.all false
set_option maxRecDepth 100000
set_option maxHeartbeats 1000000
namespace K22
open PySem L2 DL
local macro_rules | `(tactic| simp! only [$as,*]) => `(tactic| simp -implicitDefEqProofs only [$as,*, DL.fK_s, DL.fVar_s, DL.varSF_im, DL.varSF_ow, DL.asImF_im, DL.asImF_tm, DL.asImF_vr, DL.imOF_l, DL.imSF_im, DL.imSF_l, DL.some_bindF, DL.f1_s, DL.f2_s, DL.f2v_s, DL.fOp_s, DL.oI_s, DL.oI0_s, DL.oB0_s, DL.oEq_s, DL.oNe_s, DL.fV_s, DL.vw_im, DL.vw_tm, DL.vw_vr, DL.vw_at, DL.vwS_im, DL.vwS_ow, DL.toD_l, DL.toD_k, DL.toD_t, DL.gLen_l, DL.gLen_wl, DL.gLen_tup, DL.gLen_dK, DL.gSum_l, DL.gBs_l, DL.gAnyI_l, DL.gInt_i, DL.gInt_b, DL.gIsN_n, DL.gIsN_i, DL.gIsN_l, DL.gIsN_tup, DL.gIsN_s, DL.gIsN_b, DL.fVL_s, DL.gList_l, DL.gList_wl, DL.gList_tup, DL.gRev_l, DL.gTupl_l, DL.gTupl_t, DL.fTruT_s, DL.gTru_n, DL.gTru_b, DL.gTru_i, DL.gTru_l, DL.gTru_tup, DL.fAnd_s, DL.fOr_s, DL.fNot_s, DL.fIf_s, DL.fAndV_s, DL.fOrV_s, DL.fNotV_s, DL.onBlF_b, DL.fChain_s, DL.fTst_s, DL.blXF_b, DL.gIx_l, DL.gIx_wl, DL.gIx_tup, DL.gIx_dK, DL.gIx_dT, DL.keepF_im, DL.keepF_vr, DL.keepF_at, DL.keepF_tm, DL.fIxE_s, DL.fInE_s, DL.gIn_l, DL.gIn_tup, DL.gIn_dK, DL.gIn_dT, DL.fPlusE_s, DL.gPlus_i, DL.gPlus_l, DL.gPlus_t, DL.gPlus_s, DL.fTimesE_s, DL.gTimes_i, DL.gTimes_l, DL.faNil_s, DL.faCons_s, DL.fTup_s, DL.fLst_s, DL.fNewK_s, DL.fNewT_s, DL.foNo_s, DL.foAt_s, DL.onIntF_i, DL.fSlE_s, DL.gSl_l, DL.gSl_t, DL.fBits_s, DL.fNeg_s, DL.fMin2_s, DL.fMax2_s, DL.onPairF_i, DL.callF_s, DL.fCall_s, DL.resF_im, DL.resF_ow, DL.fvNil_s, DL.fvIm_s, DL.fvLn_s, DL.agF_im, DL.agF_vr, DL.fCallL_s, DL.callRF_s, DL.lendF_n, DL.lendF_i, DL.lendF_v, DL.lendSF_o, DL.lendSF_i, DL.joinF_n, DL.joinF_i, DL.joinF_o, DL.backF_n, DL.backF_i, DL.backF_vi, DL.backF_vo, DL.argS_n, DL.argS_i, DL.argS_o, DL.fMt_s, DL.staysB_v, DL.staysB_a, DL.okB_l, DL.okB_k, DL.okB_t, DL.obAt_v, DL.obAt_a, DL.obV_o, DL.obI_i, DL.obF_o, DL.setOb_v, DL.setOb_a, DL.setV_o, DL.setI_o, DL.gAppend_s, DL.gPop_s, DL.gPopAt_s, DL.gReverse_s, DL.gExtend_s, DL.fNext_s, DL.next_n, DL.next_r, DL.next_b, DL.next_c, DL.fSeq_s, DL.fBreak_s, DL.fCont_s, DL.fNever_s, DL.fDrop_s, DL.fIfS_s, DL.fRet_s, DL.retF_i, DL.retF_t, DL.retF_v, DL.retSF_i, DL.retSF_o, DL.fRetN_s, DL.fSet_s, DL.setF_t, DL.setF_i, DL.setF_v, DL.fgName_s, DL.fgNil_s, DL.fgCons_s, DL.fgTup_t, DL.fAsg_s, DL.fPar_s, DL.two_s, DL.fAug_s, DL.isImB_i, DL.augF_s, DL.fSub_s, DL.gPut_l, DL.gPut_k, DL.gPut_t, DL.fSeqI_s, DL.seqF_l, DL.seqF_wl, DL.seqF_t, DL.seqF_o, DL.seqF_v, DL.seqSlF_o, DL.fRg1_s, DL.fRg2_s, DL.fEnum_s, DL.fZip_s, DL.zipXs_l, DL.zipXs_t, DL.fFor_s, DL.finFor_n, DL.finFor_r, DL.finFor_g, DL.bkF_n, DL.bkF_g, DL.fLc_s, DL.fLc2_s, DL.fYes_s, DL.runB_s, DL.endF_n, DL.endF_r, DL.finF_n, DL.finF_i, DL.finF_o, DL.wipeE_n, DL.wipeE_c, DL.restE_n, DL.restE_c, DL.noOw_n, DL.noOw_c, DL.noOwS_u, DL.noOwS_i, DL.lcF_n, DL.lcF_c, DL.goForF_n, DL.goForF_c, DL.contF_n, DL.contF_c, DL.contF_b, DL.contF_r, DL.key_i, DL.key_s, DL.fItL_s, DL.dkOf_s, DL.fFld_s, DL.fXF_v, DL.fXF_d, DL.fXF_t, DL.vwAt_i, DL.vwF_s, DL.fvD_i, DL.fvD_o, DL.obD_k, DL.obD_l, DL.fSetF_s, DL.setFXF_d, DL.setFXF_o, DL.fMeth_s, DL.mXF_v, DL.mXF_d, DL.fMake_s, DL.mkRF_s, DL.mkXF_s, DL.fForItemsF_s, DL.fForItems_s, DL.plJ_a, DL.plJ_v, DL.itGF_s, DL.goItF_n, DL.goItF_c, DL.contI_n, DL.isVl_v, DL.bkF_v, DL.plusSub_1, DL.sl_0, DL.sl_1, DL.sl_2, DL.sl_3, DL.sl_4, DL.sl_5, DL.sl_6, DL.sl_7, DL.sl_8, DL.sl_9, DL.sx_0, DL.sx_1, DL.sx_2, DL.sx_3, DL.sx_4, DL.sx_5, DL.sx_6, DL.sx_7, DL.sx_8, DL.sx_9, List.getElem?_cons_zero, List.getElem?_cons_succ, List.set_cons_zero, List.set_cons_succ, List.nil_append, List.cons_append, List.append_nil, List.map_cons, List.map_nil, List.length_cons, List.length_nil, List.replicate_succ, List.replicate_zero, DL.ok_int, DL.eqv_int, DL.ok_bl, if_true, Bool.false_eq_true, if_false, true_and, and_true, and_self, List.length_map, Option.bind_none, Nat.zero_add, Option.getD_some, Bool.and_true, Bool.true_and, decide_eq_true_eq, Bool.not_true, Bool.not_false, ite_true, ite_false, Nat.reduceAdd, Int.reduceAdd, Nat.reduceEqDiff, eq_self, reduceIte, id_eq, Int.toNat_natCast, DL.ok_li, DL.ok_ti, DL.eqv_li, DL.eqv_ti, DL.ok_non, Nat.zero_le, decide_true, decide_false])
theorem pure (K : PySem.W.Frag) (ns : List Int) (h : ns.length ≤ 63) : ∃ bs, (M_law (He.ga K "Sums")) [.im (.wl (ns.map D.int))] = some (.im (.bl true), bs) := by
  generalize He.ga K "Sums" = aS
  obtain ⟨ds, bs, hd⟩ := draws_ok ns 400 (by omega)
  have hd : M__law_draws aS [.im (.wl (ns.map D.int)), .im (.int 400)] = some (.ow .fresh (.ob (.lst (ds.map D.int))), bs) := hd
  obtain ⟨δ', hf, g⟩ := goForF_ind (g := fgName 2) (r := BT aS) (fun _ δ => Good δ) ((List.range 2).map eN) 0 (δ := [.im (.wl (ns.map D.int)), oI ds, .un, .un, .un, .un, .un, .un, .un, .un, .un, .un, .un, .un, .un, .un, .un, .un, .un, .un, .un, .un, .un, .un, .un, .un, .un]) ⟨_, ds, _, _, _, _, _, _, _, _, _, _, _, _, _, _, _, _, _, _, _, _, _, _, _, _, _, rfl, rfl, rfl, rfl, rfl, rfl, rfl, rfl⟩ (by
    rintro i y xs δ _ ⟨s0, ds, s2, s3, s4, s5, s6, s7, s8, s9, s10, s11, s12, s13, s14, s15, s16, s17, s18, s19, s20, s21, s22, s23, s24, s25, s26, h3, h4, h6, h7, h12, h13, h20, rfl⟩
    obtain ⟨δ', ht, hg⟩ := turn_ok (aS := aS) [s0, oI ds, .im y, s3, s4, s5, s6, s7, s8, s9, s10, s11, s12, s13, s14, s15, s16, s17, s18, s19, s20, s21, s22, s23, s24, s25, s26] ⟨s0, ds, _, s3, s4, s5, s6, s7, s8, s9, s10, s11, s12, s13, s14, s15, s16, s17, s18, s19, s20, s21, s22, s23, s24, s25, s26, h3, h4, h6, h7, h12, h13, h20, rfl⟩
    refine ⟨δ', ?_, hg⟩
    rw [goForF_c]
    show (BT aS [s0, oI ds, .im y, s3, s4, s5, s6, s7, s8, s9, s10, s11, s12, s13, s14, s15, s16, s17, s18, s19, s20, s21, s22, s23, s24, s25, s26]).bind _ = _
    rw [ht]
    rfl)
  obtain ⟨s0, ds', s2, s3, s4, s5, s6, s7, s8, s9, s10, s11, s12, s13, s14, s15, s16, s17, s18, s19, s20, s21, s22, s23, s24, s25, s26, _, _, _, _, _, _, _, rfl⟩ := g
  have b1 : -(2 ^ 62) ≤ (2 : Int) ∧ (2 : Int) < 2 ^ 62 := by omega
  have hr : rgD 0 2 = (List.range 2).map eN := rgD0 _
  have ht : (2 : Int).toNat = 2 := rfl
  refine ⟨[.im (.wl (ns.map D.int))], ?_⟩
  simp only [M_law, f_law_eq]
  generalize BT aS = R at hf ⊢
  generalize (List.range 2).map eN = L at hf hr
  simp only [oI] at hf
  simp! only [hd, b1, hr, ht, hf]
end K22
end
section
set_option Elab.async false
set_option linter.all false
set_option maxRecDepth 100000
set_option maxHeartbeats 0
namespace K22
open PySem PySem.Spec PyProof.Rows L2
abbrev hk : PySem.W.Hook := He.hookD 4 fa fn
def ob (s : PySem.W.SharedT) : He.AlD := He.obsDG 4 fa fn (HandSHeadRun.getT s)
theorem ob_eq (s : PySem.W.SharedT) : ob s = hk.obs s.abs := He.obsDG_eq (HandSHeadRun.getT_eq s)
theorem run (w : World) : HandSHeadRun.RunEq R (PySem.W.view R.prog [lawAt]) hk ob 3000 names w := by
  intro os
  kernel_rfl
end K22
open PySem PySem.W PySem.Calls PyProof.Rows
theorem PySem.Challenge.cw_paperark_k22_whole_droplets_gathered_holds : PySem.Challenge.rw_paperark_k22_whole_droplets_gathered.Holds := by
  w_on; o_law
  refine HandSHeadRun.head_any (r := OpenLaw.row PySem.Challenge.rw_paperark_k22_whole_droplets_gathered) (q := view (OpenLaw.row PySem.Challenge.rw_paperark_k22_whole_droplets_gathered).prog [K22.lawAt]) (H := K22.hk) (ob := K22.ob) (M := 3000) (loose := K22.names) (d := HandSHeadRun.topDef (OpenLaw.row PySem.Challenge.rw_paperark_k22_whole_droplets_gathered).prog K22.lawAt) (kwd := []) K22.ob_eq
    (by kernel_rfl) (fun s => by kernel_rfl) K22.run (by kernel_rfl) (by kernel_rfl) (by kernel_rfl) (by rfl) (by first | assumption | decide +kernel) (by decide +kernel) ⟨rfl, rfl, rfl, rfl, rfl, by decide +kernel⟩ ?hw ?hc
  case hw => w_witness2
  case hc =>
    refine DL.law_end (l := PySem.Challenge.rw_paperark_k22_whole_droplets_gathered) (k := K22.lawLv) rfl (by kernel_rfl) ⟨rfl, by decide, by decide⟩ ?F
    intro w mg fa h Y G hmg0
    obtain ⟨K, KX, c⟩ := Y
    have hmg : mg ("law" : PySem.Str) = some (.ref fa) := by
      have e : (HandSHeadRun.topDef (OpenLaw.row PySem.Challenge.rw_paperark_k22_whole_droplets_gathered).prog K22.lawAt).name = ("law" : PySem.Str) := by kernel_rfl
      rw [← e]
      exact hmg0
    obtain ⟨fd, hb, hF⟩ := K22.facts K22.pure (P := (PySem.Challenge.rw_paperark_k22_whole_droplets_gathered).prog) (w := w) KX G hmg c
    exact ⟨K, fd, KX, hb, hF⟩
end
