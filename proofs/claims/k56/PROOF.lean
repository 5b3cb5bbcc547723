import PyProof.Rows.All
import Wide.All
import OpenK.AllK
import Wide.FinOn
import KE.KStateDown
import HandS.ForMost
import HandS.HeadHook1
import HandS.Flow
import HandS.Exc
import HandS.Conv
import HandS.Zip
import HandS.TupAny
import KE.SortData
import HandS.ExcInit
import HandS.Deep
import HandS.RaiseMore
import HandS.TryOnly
import HandS.WordsExc
import HandS.Defaults
import HandS.Ends
import HandS.HeadEnd
import HandS.Head0
import HandS.Head1
import HandS.Head2
import HandS.HeadHook2
import PyProof.StrLawsRepr
import HandS.Property
import HandS.Strs
import HandS.Text
import HandS.IsInst
import HandS.More
import KE.KExcInit
import HandS.ClsMeth
import HandS.ExcField
import KE.KExcIs
import PySem.Challenge.RW_dispatchers_k56_errors_by_hand
set_option Elab.async false
set_option linter.all false
set_option maxRecDepth 100000
set_option maxHeartbeats 0
/-! D1: deep values, abstract states, and the predicate transformer of a state function. -/
namespace D
open PySem PySem.Spec PyProof.Rows L2

abbrev St := L2.St
/-- deep values: tuples and constant lists are carried by value, mutable objects by their number -/
inductive PV where
  | non
  | bl (b : Bool)
  | int (i : Int)
  | str (x : Str)
  | tup (xs : List PV)
  | tpx (xs : List PV)
  | cl (xs : List PV)
  | ref (i : Nat)
  | wr (a : Addr)
  | ty (n : String)
  | exn (c : Str) (ns : List Str) (xs : List PV)
  | gl (x : Str)

inductive PObj where
  | lst (xs : List PV)
  | dct (kvs : List (Key × PV))
  | ins (c : Str) (fs : List (Str × PV))

abbrev Hs := List PObj

/-- a list that is never written: frozen, or one of the module's -/
def FrzL (K : PySem.W.Frag) (H : Hp) (a : Addr) (xs : List V) : Prop :=
  (∃ o, H a = some (.frz o (.lst xs))) ∨
    ∃ (o : Obj) (its : Array Value) (n : Nat), K.lookup a = some o ∧ o.cls = .type "list" ∧ o.dict = none ∧ o.data = .seq its n ∧ its.size ≤ sizeLine ∧ Vals xs its.toList
theorem FrzL.sq {K : PySem.W.Frag} {H : Hp} {a : Addr} {xs : List V} (h : FrzL K H a xs) : SqL K H a xs := by
  rcases h with ⟨o, h⟩ | h
  · exact .inl (.inr ⟨o, h⟩)
  · exact .inr h

/-- a tuple whose object is known: it has no dict -/
def TupO (K : PySem.W.Frag) (H : Hp) (a : Addr) (vs : List V) : Prop :=
  (∃ o : Obj, H a = some (.frz o (.tup vs)) ∧ o.dict = none) ∨
    ∃ (o : Obj) (its : Array Value) (n : Nat), K.lookup a = some o ∧ o.cls = .type "tuple" ∧ o.dict = none ∧ o.data = .seq its n ∧ its.size ≤ sizeLine ∧ Vals vs its.toList
theorem TupO.sq {K : PySem.W.Frag} {H : Hp} {a : Addr} {vs : List V} (h : TupO K H a vs) : SqT K H a vs := by
  rcases h with ⟨o, h, _⟩ | ⟨o, its, n, h1, h2, h3, h4, h5, h6⟩
  · exact .inl (.inr ⟨o, h⟩)
  · exact .inr ⟨o, its, n, h1, h2, h4, h5, h6⟩
/-- an own error that was made, its fields -/
def ExnO (K : PySem.W.Frag) (H : Hp) (a : Addr) (c : Str) (ns : List Str) (vs : List V) : Prop :=
  ∃ d : Addr, H a = some (exo a (He.ga K c) (some d)) ∧ H d = some (exd d (ns.zip vs))
/-- what may be written -/
def MutP : Option HO → Prop
  | some (.lst _) => True
  | some (.dK _) => True
  | some (.ins _ _ _) => True
  | _ => False
theorem MutP.mut {u : Option HO} (h : MutP u) : Mut u := by
  match u, h with
  | some (.lst _), _ => exact trivial
  | some (.dK _), _ => exact trivial
  | some (.ins _ _ _), _ => exact trivial
  | none, h => exact h.elim
  | some (.tup _), h => exact h.elim
  | some (.dT _), h => exact h.elim
  | some (.set _ _), h => exact h.elim
  | some (.own _), h => exact h.elim
  | some (.xd _), h => exact h.elim
  | some (.met _ _), h => exact h.elim
  | some (.rng _ _), h => exact h.elim
  | some (.frz _ _), h => exact h.elim
  | some (.tbl _), h => exact h.elim
  | some (.ext _), h => exact h.elim
theorem MutP.exo {e C : Addr} {d : Option Addr} (h : MutP (some (exo e C d))) : False := h
theorem MutP.exd {e : Addr} {fs : List (Str × V)} (h : MutP (some (exd e fs))) : False := h
mutual
inductive Rep (K : PySem.W.Frag) (loc : List Addr) (H : Hp) : PV → V → Prop
  | non : Rep K loc H .non .non
  | bl (b : Bool) : Rep K loc H (.bl b) (.bl b)
  | int (i : Int) : Rep K loc H (.int i) (.int i)
  | str (x : Str) : Rep K loc H (.str x) (.str x)
  | tup {a : Addr} {xs : List PV} {vs : List V} : TupO K H a vs → Reps K loc H xs vs → Rep K loc H (.tup xs) (.ref a)
  | tpx {a : Addr} {xs : List PV} {vs : List V} : SqT K H a vs → Reps K loc H xs vs → Rep K loc H (.tpx xs) (.ref a)
  | cl {a : Addr} {xs : List PV} {vs : List V} : FrzL K H a vs → Reps K loc H xs vs → Rep K loc H (.cl xs) (.ref a)
  | ref {i : Nat} {a : Addr} : loc[i]? = some a → Rep K loc H (.ref i) (.ref a)
  | wr (a : Addr) : Rep K loc H (.wr a) (.ref a)
  | ty (n : String) : Rep K loc H (.ty n) (.ty n)
  | exn {a : Addr} {c : Str} {ns : List Str} {xs : List PV} {vs : List V} : ExnO K H a c ns vs → Reps K loc H xs vs → Rep K loc H (.exn c ns xs) (.ref a)
  | gl (x : Str) : Rep K loc H (.gl x) (.ref (He.ga K x))
inductive Reps (K : PySem.W.Frag) (loc : List Addr) (H : Hp) : List PV → List V → Prop
  | nil : Reps K loc H [] []
  | cons {p : PV} {ps : List PV} {v : V} {vs : List V} : Rep K loc H p v → Reps K loc H ps vs → Reps K loc H (p :: ps) (v :: vs)
end

structure Up (K : PySem.W.Frag) (loc : List Addr) (H : Hp) (loc' : List Addr) (H' : Hp) : Prop where
  pre : ∀ (i : Nat) (a : Addr), loc[i]? = some a → loc'[i]? = some a
  tup : ∀ a vs, TupO K H a vs → TupO K H' a vs
  tpx : ∀ a vs, SqT K H a vs → SqT K H' a vs
  frz : ∀ a vs, FrzL K H a vs → FrzL K H' a vs
  exn : ∀ a c ns vs, ExnO K H a c ns vs → ExnO K H' a c ns vs
structure Grow (K : PySem.W.Frag) (loc : List Addr) (H : Hp) (loc' : List Addr) (H' : Hp) : Prop extends Up K loc H loc' H' where
  fra : ∀ a u, H a = some u → a ∉ loc → H' a = some u
  new : ∀ a, a ∈ loc' → a ∈ loc ∨ H a = none

section
variable {K : PySem.W.Frag} {loc loc' loc'' : List Addr} {H H' H'' : Hp}
theorem Up.refl : Up K loc H loc H := ⟨fun _ _ h => h, fun _ _ h => h, fun _ _ h => h, fun _ _ h => h, fun _ _ _ _ h => h⟩
theorem Up.trans (g : Up K loc H loc' H') (k : Up K loc' H' loc'' H'') : Up K loc H loc'' H'' :=
  ⟨fun i a h => k.pre i a (g.pre i a h), fun a vs h => k.tup a vs (g.tup a vs h), fun a vs h => k.tpx a vs (g.tpx a vs h), fun a vs h => k.frz a vs (g.frz a vs h), fun a c ns vs h => k.exn a c ns vs (g.exn a c ns vs h)⟩
theorem Grow.refl : Grow K loc H loc H := ⟨⟨fun _ _ h => h, fun _ _ h => h, fun _ _ h => h, fun _ _ h => h, fun _ _ _ _ h => h⟩, fun _ _ h _ => h, fun _ h => .inl h⟩
theorem Grow.out (g : Grow K loc H loc' H') {a : Addr} {u : HO} (e : H a = some u) (n : a ∉ loc) : a ∉ loc' := fun z => by
  rcases g.new a z with q | q
  · exact n q
  · rw [e] at q; cases q
theorem Grow.trans (g : Grow K loc H loc' H') (k : Grow K loc' H' loc'' H'') : Grow K loc H loc'' H'' :=
  ⟨⟨fun i a h => k.pre i a (g.pre i a h), fun a vs h => k.tup a vs (g.tup a vs h), fun a vs h => k.tpx a vs (g.tpx a vs h), fun a vs h => k.frz a vs (g.frz a vs h), fun a c ns vs h => k.exn a c ns vs (g.exn a c ns vs h)⟩,
    fun a u e n => k.fra a u (g.fra a u e n) (g.out e n), fun a h => by
      rcases k.new a h with q | q
      · exact g.new a q
      · by_cases hl : a ∈ loc
        · exact .inl hl
        · cases e : H a with
          | none => exact .inr rfl
          | some u => rw [g.fra a u e hl] at q; cases q⟩

mutual
theorem Rep.upU (g : Up K loc H loc' H') : ∀ (p : PV) (v : V), Rep K loc H p v → Rep K loc' H' p v
  | .non, _, h => by cases h; exact .non
  | .bl b, _, h => by cases h; exact .bl b
  | .int i, _, h => by cases h; exact .int i
  | .str x, _, h => by cases h; exact .str x
  | .tup xs, _, h => by
    cases h with
    | tup h1 h2 => exact .tup (g.tup _ _ h1) (Reps.upU g xs _ h2)
  | .tpx xs, _, h => by
    cases h with
    | tpx h1 h2 => exact .tpx (g.tpx _ _ h1) (Reps.upU g xs _ h2)
  | .cl xs, _, h => by
    cases h with
    | cl h1 h2 => exact .cl (g.frz _ _ h1) (Reps.upU g xs _ h2)
  | .ref i, _, h => by
    cases h with
    | ref h1 => exact .ref (g.pre _ _ h1)
  | .wr a, _, h => by cases h; exact .wr a
  | .ty n, _, h => by cases h; exact .ty n
  | .exn c ns xs, _, h => by
    cases h with
    | exn h1 h2 => exact .exn (g.exn _ _ _ _ h1) (Reps.upU g xs _ h2)
  | .gl x, _, h => by cases h; exact .gl x
theorem Reps.upU (g : Up K loc H loc' H') : ∀ (ps : List PV) (vs : List V), Reps K loc H ps vs → Reps K loc' H' ps vs
  | [], _, h => by cases h; exact .nil
  | p :: ps, _, h => by
    cases h with
    | cons h1 h2 => exact .cons (Rep.upU g p _ h1) (Reps.upU g ps _ h2)
end
theorem Rep.up (g : Grow K loc H loc' H') (p : PV) (v : V) (h : Rep K loc H p v) : Rep K loc' H' p v := Rep.upU g.toUp p v h
theorem Reps.up (g : Grow K loc H loc' H') (ps : List PV) (vs : List V) (h : Reps K loc H ps vs) : Reps K loc' H' ps vs := Reps.upU g.toUp ps vs h

theorem Reps.length : ∀ {ps : List PV} {vs : List V}, Reps K loc H ps vs → ps.length = vs.length
  | [], _, h => by cases h; rfl
  | _ :: ps, _, h => by
    cases h with
    | cons h1 h2 => rw [List.length_cons, List.length_cons, Reps.length h2]
theorem Reps.get : ∀ {ps : List PV} {vs : List V} {i : Nat} {p : PV}, Reps K loc H ps vs → ps[i]? = some p → ∃ v, vs[i]? = some v ∧ Rep K loc H p v
  | [], _, _, _, _, e => by simp at e
  | _ :: ps, _, 0, _, h, e => by
    cases h with
    | cons h1 h2 => simp at e; subst e; exact ⟨_, rfl, h1⟩
  | _ :: ps, _, i + 1, p, h, e => by
    cases h with
    | cons h1 h2 =>
      obtain ⟨v, q1, q2⟩ := Reps.get (i := i) (p := p) h2 (by simpa using e)
      exact ⟨v, by simpa using q1, q2⟩
theorem Reps.got : ∀ {ps : List PV} {vs : List V} {i : Nat} {v : V}, Reps K loc H ps vs → vs[i]? = some v → ∃ p, ps[i]? = some p ∧ Rep K loc H p v
  | [], _, _, _, h, e => by cases h; simp at e
  | _ :: ps, _, 0, _, h, e => by
    cases h with
    | cons h1 h2 => simp at e; subst e; exact ⟨_, rfl, h1⟩
  | _ :: ps, _, i + 1, v, h, e => by
    cases h with
    | cons h1 h2 =>
      obtain ⟨p, q1, q2⟩ := Reps.got (i := i) (v := v) h2 (by simpa using e)
      exact ⟨p, by simpa using q1, q2⟩
theorem Reps.append : ∀ {ps qs : List PV} {vs us : List V}, Reps K loc H ps vs → Reps K loc H qs us → Reps K loc H (ps ++ qs) (vs ++ us)
  | [], _, _, _, h, k => by cases h; exact k
  | _ :: ps, _, _, _, h, k => by
    cases h with
    | cons h1 h2 => exact .cons h1 (Reps.append h2 k)
theorem Reps.take : ∀ {ps : List PV} {vs : List V} (n : Nat), Reps K loc H ps vs → Reps K loc H (ps.take n) (vs.take n)
  | _, _, 0, _ => .nil
  | [], _, _ + 1, h => by cases h; exact .nil
  | _ :: ps, _, n + 1, h => by
    cases h with
    | cons h1 h2 => exact .cons h1 (Reps.take n h2)
theorem Reps.drop : ∀ {ps : List PV} {vs : List V} (n : Nat), Reps K loc H ps vs → Reps K loc H (ps.drop n) (vs.drop n)
  | _, _, 0, h => h
  | [], _, _ + 1, h => by cases h; exact .nil
  | _ :: ps, _, n + 1, h => by
    cases h with
    | cons h1 h2 => exact Reps.drop n h2
theorem Reps.set : ∀ {ps : List PV} {vs : List V} (n : Nat) {p : PV} {v : V}, Reps K loc H ps vs → Rep K loc H p v → Reps K loc H (ps.set n p) (vs.set n v)
  | [], _, _, _, _, h, _ => by cases h; exact .nil
  | _ :: ps, _, 0, _, _, h, k => by
    cases h with
    | cons h1 h2 => exact .cons k h2
  | _ :: ps, _, n + 1, _, _, h, k => by
    cases h with
    | cons h1 h2 => exact .cons h1 (Reps.set n h2 k)
end

/-- pairs with a tag -/
def TRep (K : PySem.W.Frag) (loc : List Addr) (H : Hp) {κ : Type} : List (κ × PV) → List (κ × V) → Prop :=
  Paired fun (p : κ × PV) (q : κ × V) => p.1 = q.1 ∧ Rep K loc H p.2 q.2
theorem TRep.upU {K : PySem.W.Frag} {loc loc' : List Addr} {H H' : Hp} {κ : Type} (g : Up K loc H loc' H') {ps : List (κ × PV)} {qs : List (κ × V)} (h : TRep K loc H ps qs) : TRep K loc' H' ps qs :=
  Paired.mapP h fun p q r => ⟨r.1, Rep.upU g _ _ r.2⟩
theorem TRep.up {K : PySem.W.Frag} {loc loc' : List Addr} {H H' : Hp} {κ : Type} (g : Grow K loc H loc' H') {ps : List (κ × PV)} {qs : List (κ × V)} (h : TRep K loc H ps qs) : TRep K loc' H' ps qs :=
  Paired.mapP h fun p q r => ⟨r.1, Rep.up g _ _ r.2⟩

def ORep (K : PySem.W.Frag) (loc : List Addr) (H : Hp) (a : Addr) : PObj → Prop
  | .lst xs => ∃ vs, H a = some (.lst vs) ∧ Reps K loc H xs vs
  | .dct kvs => ∃ qs, H a = some (.dK qs) ∧ TRep K loc H kvs qs
  | .ins c fs => ∃ dx qs, H a = some (.ins (He.ga K c) dx qs) ∧ TRep K loc H fs qs
structure StR (K : PySem.W.Frag) (loc : List Addr) (S : Hs) (H : Hp) : Prop where
  len : loc.length = S.length
  nd : loc.Nodup
  obj : ∀ (i : Nat) (o : PObj) (a : Addr), S[i]? = some o → loc[i]? = some a → ORep K loc H a o

section
variable {K : PySem.W.Frag} {loc loc' : List Addr} {S S' : Hs} {H H' : Hp}
theorem ORep.some {a : Addr} {o : PObj} (h : ORep K loc H a o) : ∃ u, H a = some u ∧ MutP (some u) := by
  cases o with
  | lst xs => obtain ⟨vs, e, _⟩ := h; exact ⟨_, e, trivial⟩
  | dct kvs => obtain ⟨vs, e, _⟩ := h; exact ⟨_, e, trivial⟩
  | ins C fs => obtain ⟨dx, vs, e, _⟩ := h; exact ⟨_, e, trivial⟩
theorem ORep.keepU {a : Addr} {o : PObj} (g : Up K loc H loc' H') (e : H' a = H a) (h : ORep K loc H a o) : ORep K loc' H' a o := by
  cases o with
  | lst xs => obtain ⟨vs, e1, r⟩ := h; exact ⟨vs, e.trans e1, r.upU g⟩
  | dct kvs => obtain ⟨vs, e1, r⟩ := h; exact ⟨vs, e.trans e1, r.upU g⟩
  | ins C fs => obtain ⟨dx, vs, e1, r⟩ := h; exact ⟨dx, vs, e.trans e1, r.upU g⟩
theorem ORep.keep {a : Addr} {o : PObj} (g : Grow K loc H loc' H') (e : H' a = H a) (h : ORep K loc H a o) : ORep K loc' H' a o := ORep.keepU g.toUp e h
theorem StR.live (h : StR K loc S H) {i : Nat} {a : Addr} (e : loc[i]? = some a) : ∃ o u, S[i]? = some o ∧ H a = some u ∧ MutP (some u) := by
  have hi : i < S.length := by rw [← h.len]; exact (List.getElem?_eq_some_iff.mp e).1
  obtain ⟨u, e1, m⟩ := (h.obj i S[i] a (List.getElem?_eq_getElem hi) e).some
  exact ⟨S[i], u, List.getElem?_eq_getElem hi, e1, m⟩
theorem StR.ne (h : StR K loc S H) {i j : Nat} {a b : Addr} (e : loc[i]? = some a) (e' : loc[j]? = some b) (n : i ≠ j) : a ≠ b := fun z => by
  subst z
  obtain ⟨h1, q1⟩ := List.getElem?_eq_some_iff.mp e
  obtain ⟨h2, q2⟩ := List.getElem?_eq_some_iff.mp e'
  exact n ((List.getElem_inj h.nd).mp (q1.trans q2.symm))

/-- a tracked thing is laid at a free address: tuples and frozen lists stay -/
theorem grow_new {p : Addr} {u : HO} (n : H p = none) (pre : ∀ (i : Nat) (a : Addr), loc[i]? = some a → loc'[i]? = some a) (nw : ∀ a, a ∈ loc' → a ∈ loc ∨ a = p := by exact fun _ h => .inl h) : Grow K loc H loc' (upd H p u) := by
  refine ⟨⟨pre, fun a vs h => ?_, fun a vs h => ?_, fun a vs h => ?_, fun a c ns vs ⟨d, h1, h2⟩ => ⟨d, by rw [upd_ne (ne_of_none h1 n)]; exact h1, by rw [upd_ne (ne_of_none h2 n)]; exact h2⟩⟩, fun a v e _ => (upd_ne (ne_of_none e n)).trans e, fun a h => (nw a h).imp id fun (e : a = p) => by rw [e]; exact n⟩
  · rcases h with ⟨o, h, d⟩ | h
    · exact .inl ⟨o, by rw [upd_ne (ne_of_none h n)]; exact h, d⟩
    · exact .inr h
  · rcases h with (h | ⟨o, h⟩) | h
    · exact .inl (.inl (by rw [upd_ne (ne_of_none h n)]; exact h))
    · exact .inl (.inr ⟨o, by rw [upd_ne (ne_of_none h n)]; exact h⟩)
    · exact .inr h
  · rcases h with ⟨o, h⟩ | h
    · exact .inl ⟨o, by rw [upd_ne (ne_of_none h n)]; exact h⟩
    · exact .inr h
/-- a mutable thing is written: tuples and frozen lists stay -/
theorem up_write {p : Addr} {u : HO} (m : MutP (H p)) (pre : ∀ (i : Nat) (a : Addr), loc[i]? = some a → loc'[i]? = some a) : Up K loc H loc' (upd H p u) := by
  refine ⟨pre, fun a vs h => ?_, fun a vs h => ?_, fun a vs h => ?_, fun a c ns vs ⟨d, h1, h2⟩ => ⟨d, by rw [upd_ne (fun z => by subst z; rw [h1] at m; exact m.exo)]; exact h1, by rw [upd_ne (fun z => by subst z; rw [h2] at m; exact m.exd)]; exact h2⟩⟩
  · rcases h with ⟨o, h, d⟩ | h
    · exact .inl ⟨o, by rw [upd_ne (fun z => by subst z; rw [h] at m; exact m)]; exact h, d⟩
    · exact .inr h
  · rcases h with (h | ⟨o, h⟩) | h
    · exact .inl (.inl (by rw [upd_ne (fun z => by subst z; rw [h] at m; exact m)]; exact h))
    · exact .inl (.inr ⟨o, by rw [upd_ne (fun z => by subst z; rw [h] at m; exact m)]; exact h⟩)
    · exact .inr h
  · rcases h with ⟨o, h⟩ | h
    · exact .inl ⟨o, by rw [upd_ne (fun z => by subst z; rw [h] at m; exact m)]; exact h⟩
    · exact .inr h

theorem grow_write {p : Addr} {u : HO} (m : MutP (H p)) (hl : p ∈ loc) : Grow K loc H loc (upd H p u) :=
  ⟨up_write m fun _ _ h => h, fun a v e na => (upd_ne fun (z : a = p) => na (by rw [z]; exact hl)).trans e, fun a h => .inl h⟩

/-- a value (a tuple, say) is laid: the state is as it was -/
theorem StR.lay {p : Addr} {u : HO} (h : StR K loc S H) (n : H p = none) : StR K loc S (upd H p u) := by
  refine ⟨h.len, h.nd, fun i o a e1 e2 => ?_⟩
  have r := h.obj i o a e1 e2
  obtain ⟨v, e3, _⟩ := r.some
  exact r.keep (grow_new n fun _ _ z => z) (upd_ne (ne_of_none e3 n))
/-- a new object -/
theorem StR.new {p : Addr} {u : HO} {o : PObj} (h : StR K loc S H) (n : H p = none) (r : ORep K (loc ++ [p]) (upd H p u) p o) : StR K (loc ++ [p]) (S ++ [o]) (upd H p u) := by
  have pre : ∀ (i : Nat) (a : Addr), loc[i]? = some a → (loc ++ [p])[i]? = some a := fun i a e => by
    rw [List.getElem?_append_left (List.getElem?_eq_some_iff.mp e).1]; exact e
  refine ⟨by simp [h.len], ?_, fun i o' a e1 e2 => ?_⟩
  · refine List.nodup_append.mpr ⟨h.nd, by simp, fun x hx y hy => ?_⟩
    have e : y = p := by simpa using hy
    subst e
    obtain ⟨i, hi⟩ := List.getElem?_of_mem hx
    obtain ⟨_, v, _, e3, _⟩ := h.live hi
    exact ne_of_none e3 n
  · by_cases hi : i < S.length
    · rw [List.getElem?_append_left hi] at e1
      rw [List.getElem?_append_left (by rw [h.len]; exact hi)] at e2
      have q := h.obj i o' a e1 e2
      obtain ⟨v, e3, _⟩ := q.some
      exact q.keep (grow_new n pre fun x hx => by simpa using hx) (upd_ne (ne_of_none e3 n))
    · have e : i = S.length := by
        have := (List.getElem?_eq_some_iff.mp e1).1
        rw [List.length_append] at this
        simp at this
        omega
      subst e
      rw [List.getElem?_append_right (Nat.le_refl _)] at e1
      rw [← h.len, List.getElem?_append_right (Nat.le_refl _)] at e2
      simp at e1 e2
      subst e1; subst e2
      exact r
theorem StR.grow_new (h : StR K loc S H) {p : Addr} {u : HO} (n : H p = none) : Grow K loc H (loc ++ [p]) (upd H p u) :=
  D.grow_new n (fun i a e => by rw [List.getElem?_append_left (List.getElem?_eq_some_iff.mp e).1]; exact e) fun x hx => by simpa using hx
/-- a mutable thing, laid apart so far, becomes an object of the state -/
theorem StR.adopt {p : Addr} {u0 u : HO} {o : PObj} (h : StR K loc S H) (e : H p = some u0) (m : MutP (some u0)) (nl : p ∉ loc) (r : ORep K (loc ++ [p]) (upd H p u) p o) : StR K (loc ++ [p]) (S ++ [o]) (upd H p u) := by
  have up : Up K loc H (loc ++ [p]) (upd H p u) := up_write (by rw [e]; exact m) fun i a e => by rw [List.getElem?_append_left (List.getElem?_eq_some_iff.mp e).1]; exact e
  refine ⟨by simp [h.len], ?_, fun i o' a e1 e2 => ?_⟩
  · refine List.nodup_append.mpr ⟨h.nd, by simp, fun x hx y hy z => ?_⟩
    have e : y = p := by simpa using hy
    subst e; subst z
    exact nl hx
  · by_cases hi : i < S.length
    · rw [List.getElem?_append_left hi] at e1
      rw [List.getElem?_append_left (by rw [h.len]; exact hi)] at e2
      exact (h.obj i o' a e1 e2).keepU up (upd_ne fun z => nl (by rw [← z]; exact List.mem_of_getElem? e2))
    · have e : i = S.length := by
        have := (List.getElem?_eq_some_iff.mp e1).1
        rw [List.length_append] at this
        simp at this
        omega
      subst e
      rw [List.getElem?_append_right (Nat.le_refl _)] at e1
      rw [← h.len, List.getElem?_append_right (Nat.le_refl _)] at e2
      simp at e1 e2
      subst e1; subst e2
      exact r
/-- .. seen from where it was not laid yet -/
theorem Grow.adopt {loc0 : List Addr} {H0 : Hp} {p : Addr} {u0 u u' : HO} (n : H0 p = none) (nl : p ∉ loc0) (g : Grow K loc0 (upd H0 p u') loc H) (e : H p = some u0) (m : MutP (some u0)) : Grow K loc0 H0 (loc ++ [p]) (upd H p u) := by
  have g1 : Grow K loc0 H0 loc0 (upd H0 p u') := grow_new n fun _ _ z => z
  have g2 := g1.trans g
  have up : Up K loc H (loc ++ [p]) (upd H p u) := up_write (by rw [e]; exact m) fun i a e => by rw [List.getElem?_append_left (List.getElem?_eq_some_iff.mp e).1]; exact e
  refine ⟨⟨fun i a h => up.pre i a (g2.pre i a h), fun a vs h => up.tup a vs (g2.tup a vs h), fun a vs h => up.tpx a vs (g2.tpx a vs h), fun a vs h => up.frz a vs (g2.frz a vs h), fun a c ns vs h => up.exn a c ns vs (g2.exn a c ns vs h)⟩, fun a v e na => ?_, fun a h => ?_⟩
  · rw [upd_ne (ne_of_none e n)]
    exact g2.fra a v e na
  · rcases List.mem_append.mp h with h | h
    · exact g2.new a h
    · have e : a = p := by simpa using h
      subst e
      exact .inr n
theorem StR.last (h : StR K loc S H) (p : Addr) : (loc ++ [p])[S.length]? = some p := by
  rw [← h.len, List.getElem?_append_right (Nat.le_refl _)]; simp
/-- an object is written -/
theorem StR.put {i : Nat} {a : Addr} {u : HO} {o : PObj} (h : StR K loc S H) (e : loc[i]? = some a) (r : ORep K loc (upd H a u) a o) : StR K loc (S.set i o) (upd H a u) := by
  obtain ⟨o0, v, e0, e3, m⟩ := h.live e
  refine ⟨by simp [h.len], h.nd, fun j o' b e1 e2 => ?_⟩
  by_cases hj : i = j
  · subst hj
    rw [e] at e2; cases e2
    rw [List.getElem?_set_self (List.getElem?_eq_some_iff.mp e0).1] at e1
    cases e1
    exact r
  · rw [List.getElem?_set_ne hj] at e1
    exact (h.obj j o' b e1 e2).keep (grow_write (by rw [e3]; exact m) (List.mem_of_getElem? e)) (upd_ne (h.ne e2 e (Ne.symm hj)))
theorem StR.grow_put (h : StR K loc S H) {i : Nat} {a : Addr} {u : HO} (e : loc[i]? = some a) : Grow K loc H loc (upd H a u) := by
  obtain ⟨o0, v, e0, e3, m⟩ := h.live e
  exact grow_write (by rw [e3]; exact m) (List.mem_of_getElem? e)
end

/-! ### results -/
/-- an exception's class: an own one by its name, or a built-in one -/
inductive EC where
  | own (x : Str)
  | blt (t : String)
  deriving DecidableEq
def ecV (K : PySem.W.Frag) : EC → Value
  | .own x => .ref (He.ga K x)
  | .blt t => .type t
inductive Res (α : Type) where
  | ok (a : α) (S : Hs)
  | exc (c : EC) (fs : List (Str × PV)) (S : Hs)
  | bad
abbrev Sl := List (Option PV)
abbrev EM := Sl → Hs → Res PV
abbrev TM := Sl → Hs → Res Bool
abbrev AM := Sl → Hs → Res (List PV)
def Res.bind {α β : Type} (r : Res α) (k : α → Hs → Res β) : Res β :=
  match r with
  | .ok a S => k a S
  | .exc c fs S => .exc c fs S
  | .bad => .bad
@[simp] theorem Res.bind_ok {α β : Type} (a : α) (S : Hs) (k : α → Hs → Res β) : (Res.ok a S).bind k = k a S := (rfl : k a S = k a S).trans rfl
@[simp] theorem Res.bind_exc {α β : Type} (c : EC) (fs : List (Str × PV)) (S : Hs) (k : α → Hs → Res β) : (Res.exc c fs S : Res α).bind k = .exc c fs S := (rfl : (Res.exc c fs S : Res β) = _).trans rfl
@[simp] theorem Res.bind_bad {α β : Type} (k : α → Hs → Res β) : (Res.bad : Res α).bind k = .bad := (rfl : (Res.bad : Res β) = _).trans rfl

def SlR (K : PySem.W.Frag) (loc : List Addr) (H : Hp) (env : Sl) (σ : St) : Prop :=
  env.length = σ.length ∧ ∀ (i : Nat) (p : PV), env[i]? = some (some p) → ∃ v, σ[i]? = some (some v) ∧ Rep K loc H p v
theorem SlR.up {K : PySem.W.Frag} {loc loc' : List Addr} {H H' : Hp} {env : Sl} {σ : St} (h : SlR K loc H env σ) (g : Grow K loc H loc' H') : SlR K loc' H' env σ :=
  ⟨h.1, fun i p e => let ⟨v, e1, r⟩ := h.2 i p e; ⟨v, e1, Rep.up g _ _ r⟩⟩
theorem SlR.set {K : PySem.W.Frag} {loc : List Addr} {H : Hp} {env : Sl} {σ : St} (h : SlR K loc H env σ) (i : Nat) {p : PV} {v : V} (r : Rep K loc H p v) : SlR K loc H (env.set i (some p)) (σ.set i (some v)) := by
  refine ⟨by simp [h.1], fun j q e => ?_⟩
  by_cases hj : i = j
  · subst hj
    by_cases hi : i < env.length
    · rw [List.getElem?_set_self hi] at e
      cases e
      exact ⟨v, List.getElem?_set_self (by rw [← h.1]; exact hi), r⟩
    · rw [List.getElem?_eq_none (by simpa using hi)] at e; cases e
  · rw [List.getElem?_set_ne hj] at e
    rw [List.getElem?_set_ne hj]
    exact h.2 j q e
/-- an exception's own dict -/
def XR (K : PySem.W.Frag) (loc : List Addr) (H : Hp) (fs : List (Str × PV)) (d : Option Addr) : Prop :=
  (fs = [] ∧ d = none) ∨ ∃ a qs, d = some a ∧ H a = some (.xd qs) ∧ TRep K loc H fs qs

section
variable (K : PySem.W.Frag) (W : WX)
/-- what is wanted of a result -/
def PostR {α β : Type} (R : List Addr → Hp → α → β → Prop) (σ : St) (Q : β → Hp → Prop) (loc : List Addr) (H : Hp) : Res α → Prop
  | .ok a S => ∀ loc' H' x, Grow K loc H loc' H' → StR K loc' S H' → R loc' H' a x → Q x H'
  | .exc c fs S => ∀ loc' H' d, Grow K loc H loc' H' → StR K loc' S H' → XR K loc' H' fs d → W (ecV K c) d σ H'
  | .bad => False
abbrev Post (σ : St) (Q : VK) (loc : List Addr) (H : Hp) (r : Res PV) : Prop := PostR K W (fun l h p v => Rep K l h p v) σ Q loc H r
def tG {α β : Type} (R : List Addr → Hp → α → β → Prop) (m : Sl → Hs → Res α) : St → Hp → (β → Hp → Prop) → Prop := fun σ H Q =>
  ∃ loc S env, StR K loc S H ∧ SlR K loc H env σ ∧ PostR K W R σ Q loc H (m env S)
/-- .. where some values are known -/
def tGv {α β : Type} (R : List Addr → Hp → α → β → Prop) (ps : List PV) (xs : List V) (m : Sl → Hs → Res α) : St → Hp → (β → Hp → Prop) → Prop := fun σ H Q =>
  ∃ loc S env, StR K loc S H ∧ SlR K loc H env σ ∧ Reps K loc H ps xs ∧ PostR K W R σ Q loc H (m env S)
abbrev RV (l : List Addr) (h : Hp) (p : PV) (v : V) : Prop := Rep K l h p v
abbrev RB (_ : List Addr) (_ : Hp) (p : Bool) (v : Bool) : Prop := p = v
abbrev RL (l : List Addr) (h : Hp) (p : List PV) (v : List V) : Prop := Reps K l h p v
abbrev tM (m : EM) : TE := tG K W (RV K) m
abbrev tB (m : TM) : TT := tG K W RB m
abbrev tA (m : AM) : TA := tG K W (RL K) m
end

section
variable {K : PySem.W.Frag} {W : WX} {α β γ δ : Type} {R : List Addr → Hp → α → β → Prop} {R' : List Addr → Hp → γ → δ → Prop} {σ : St} {H H' : Hp} {loc loc' : List Addr} {ps : List PV} {xs : List V}
theorem PostR.up {Q : β → Hp → Prop} {r : Res α} (g : Grow K loc H loc' H') (h : PostR K W R σ Q loc H r) : PostR K W R σ Q loc' H' r := by
  cases r with
  | ok a S => exact fun l2 h2 x g2 => h l2 h2 x (g.trans g2)
  | exc c fs S => exact fun l2 h2 d g2 => h l2 h2 d (g.trans g2)
  | bad => exact h
theorem PostR.imp {Q Q' : β → Hp → Prop} {r : Res α} (f : ∀ x h, Q x h → Q' x h) (h : PostR K W R σ Q loc H r) : PostR K W R σ Q' loc H r := by
  cases r with
  | ok a S => exact fun l2 h2 x g2 s r => f x h2 (h l2 h2 x g2 s r)
  | exc c fs S => exact h
  | bad => exact h
theorem tG.imp {m : Sl → Hs → Res α} {Q Q' : β → Hp → Prop} (f : ∀ x h, Q x h → Q' x h) (h : tG K W R m σ H Q) : tG K W R m σ H Q' := by
  obtain ⟨loc, S, env, s, e, p⟩ := h
  exact ⟨loc, S, env, s, e, p.imp f⟩
theorem tG.v {m : Sl → Hs → Res α} {Q : β → Hp → Prop} (h : tG K W R m σ H Q) : tGv K W R [] [] m σ H Q := by
  obtain ⟨loc, S, env, s, e, p⟩ := h
  exact ⟨loc, S, env, s, e, .nil, p⟩
def bindE (m : Sl → Hs → Res γ) (k : γ → Sl → Hs → Res α) : Sl → Hs → Res α := fun env S => (m env S).bind fun v S' => k v env S'
/-- the first of two: what is wanted of it, then the second with its value known -/
theorem tGv.bind {m : EM} {k : PV → Sl → Hs → Res α} {Q : β → Hp → Prop} (h : tGv K W R ps xs (bindE m k) σ H Q) :
    tM K W m σ H fun y H2 => ∃ u, tGv K W R (u :: ps) (y :: xs) (k u) σ H2 Q := by
  obtain ⟨loc, S, env, s, e, rs, p⟩ := h
  refine ⟨loc, S, env, s, e, ?_⟩
  unfold bindE at p
  cases hm : m env S with
  | ok v S1 =>
    rw [hm] at p
    exact fun l2 h2 x g2 s2 r2 => ⟨v, l2, S1, env, s2, e.up g2, .cons r2 (rs.up g2), PostR.up g2 p⟩
  | exc c fs S1 =>
    rw [hm] at p
    exact p
  | bad =>
    rw [hm] at p
    exact p
/-- .. where the first one is a list, a test -/
theorem tGv.bindB {m : TM} {k : Bool → Sl → Hs → Res α} {Q : β → Hp → Prop} (h : tGv K W R ps xs (bindE m k) σ H Q) :
    tB K W m σ H fun b H2 => tGv K W R ps xs (k b) σ H2 Q := by
  obtain ⟨loc, S, env, s, e, rs, p⟩ := h
  refine ⟨loc, S, env, s, e, ?_⟩
  unfold bindE at p
  cases hm : m env S with
  | ok v S1 =>
    rw [hm] at p
    intro l2 h2 x g2 s2 r2
    subst r2
    exact ⟨l2, S1, env, s2, e.up g2, rs.up g2, PostR.up g2 p⟩
  | exc c fs S1 =>
    rw [hm] at p
    exact p
  | bad =>
    rw [hm] at p
    exact p
theorem tGv.bindA {m : AM} {k : List PV → Sl → Hs → Res α} {Q : β → Hp → Prop} (h : tGv K W R ps xs (bindE m k) σ H Q) :
    tA K W m σ H fun ys H2 => ∃ us, tGv K W R (us ++ ps) (ys ++ xs) (k us) σ H2 Q := by
  obtain ⟨loc, S, env, s, e, rs, p⟩ := h
  refine ⟨loc, S, env, s, e, ?_⟩
  unfold bindE at p
  cases hm : m env S with
  | ok v S1 =>
    rw [hm] at p
    exact fun l2 h2 x g2 s2 r2 => ⟨v, l2, S1, env, s2, e.up g2, Reps.append r2 (rs.up g2), PostR.up g2 p⟩
  | exc c fs S1 =>
    rw [hm] at p
    exact p
  | bad =>
    rw [hm] at p
    exact p
end

/-! ### judgements -/
def DE (X : Cx) (e : Expr) (m : EM) : Prop := ∀ W, Takes X W → PE X e (tM X.K W m)
def DT (X : Cx) (e : Expr) (m : TM) : Prop := ∀ W, Takes X W → PT X e (tB X.K W m)
def DA (X : Cx) (es : List Expr) (m : AM) : Prop := ∀ W, Takes X W → PA X es (tA X.K W m)
theorem _root_.L2.PE.imp {X : Cx} {e : Expr} {t t' : TE} (h : PE X e t) (f : ∀ σ H Q, t' σ H Q → t σ H Q) : PE X e t' := ⟨fun pins s σ H Q I q => h.run pins s σ H Q I (f σ H Q q)⟩
theorem _root_.L2.PT.imp {X : Cx} {e : Expr} {t t' : TT} (h : PT X e t) (f : ∀ σ H Q, t' σ H Q → t σ H Q) : PT X e t' := ⟨fun pins s σ H Q I q => h.run pins s σ H Q I (f σ H Q q)⟩
theorem _root_.L2.PA.imp {X : Cx} {e : List Expr} {t t' : TA} (h : PA X e t) (f : ∀ σ H Q, t' σ H Q → t σ H Q) : PA X e t' := ⟨fun pos pins s σ H Q I q => h.run pos pins s σ H Q I (f σ H Q q)⟩
end D

/-! D2: operations on deep values, and that the machine does them. -/
namespace D
open PySem PySem.Spec PyProof.Rows L2

/-! ### judgements by values -/
def DOp (X : Cx) (g : Value → Value → Sem Value) (f : PV → PV → Hs → Res PV) : Prop :=
  ∀ W, Takes X W → ∀ (pins : List (Addr × Obj)) (s : Shared) (σ : St) (H : Hp) (x y : V) (v u : Value) (Q : VK) (loc : List Addr) (S : Hs) (p q : PV),
    Inv X pins σ H s → RelV x v → RelV y u → StR X.K loc S H → Rep X.K loc H p x → Rep X.K loc H q y → Post X.K W σ Q loc H (f p q S) →
    wpAny (model X.prog X.w) X.A (g v u) (EP X pins σ Q) X.xe s
def DUn (X : Cx) (g : Value → Sem Value) (f : PV → Hs → Res PV) : Prop :=
  ∀ W, Takes X W → ∀ (pins : List (Addr × Obj)) (s : Shared) (σ : St) (H : Hp) (x : V) (v : Value) (Q : VK) (loc : List Addr) (S : Hs) (p : PV),
    Inv X pins σ H s → RelV x v → StR X.K loc S H → Rep X.K loc H p x → Post X.K W σ Q loc H (f p S) →
    wpAny (model X.prog X.w) X.A (g v) (EP X pins σ Q) X.xe s
def DTr (X : Cx) (f : PV → Hs → Res Bool) : Prop :=
  ∀ W, Takes X W → ∀ (pins : List (Addr × Obj)) (s : Shared) (σ : St) (H : Hp) (x : V) (v : Value) (Q : Bool → Hp → Prop) (loc : List Addr) (S : Hs) (p : PV),
    Inv X pins σ H s → RelV x v → StR X.K loc S H → Rep X.K loc H p x → PostR X.K W RB σ Q loc H (f p S) →
    wpAny (model X.prog X.w) X.A (truthy v) (TP X pins σ Q) X.xe s
def DCl (X : Cx) (c : Value) (f : List PV → Hs → Res PV) : Prop :=
  ∀ W, Takes X W → ∀ (pins : List (Addr × Obj)) (s : Shared) (σ : St) (H : Hp) (xs : List V) (us : List Value) (Q : VK) (loc : List Addr) (S : Hs) (ps : List PV),
    Inv X pins σ H s → Vals xs us → StR X.K loc S H → Reps X.K loc H ps xs → Post X.K W σ Q loc H (f ps S) →
    wpAny (model X.prog X.w) X.A (call c us) (EP X pins σ Q) X.xe s
section
variable {X : Cx}
theorem DOp.of {g : Value → Value → Sem Value} {f : PV → PV → Hs → Res PV} {r : R2} (h : OpR X g r)
    (b : ∀ (W : WX) (σ : St) (H : Hp) (x y : V) (Q : VK) (loc : List Addr) (S : Hs) (p q : PV), StR X.K loc S H → Rep X.K loc H p x → Rep X.K loc H q y → Post X.K W σ Q loc H (f p q S) → r x y H Q) : DOp X g f :=
  fun W _ pins s σ H x y v u Q loc S p q I rx ry hS hp hq hP => h pins s σ H x y v u Q I rx ry (b W σ H x y Q loc S p q hS hp hq hP)
theorem DUn.of {g : Value → Sem Value} {f : PV → Hs → Res PV} {r : V → Hp → VK → Prop} (h : UnR X g r)
    (b : ∀ (W : WX) (σ : St) (H : Hp) (x : V) (Q : VK) (loc : List Addr) (S : Hs) (p : PV), StR X.K loc S H → Rep X.K loc H p x → Post X.K W σ Q loc H (f p S) → r x H Q) : DUn X g f :=
  fun W _ pins s σ H x v Q loc S p I rx hS hp hP => h pins s σ H x v Q I rx (b W σ H x Q loc S p hS hp hP)
theorem DCl.of {c : Value} {f : List PV → Hs → Res PV} {r : List V → Hp → VK → Prop} (h : CallR X c r)
    (b : ∀ (W : WX) (σ : St) (H : Hp) (xs : List V) (Q : VK) (loc : List Addr) (S : Hs) (ps : List PV), StR X.K loc S H → Reps X.K loc H ps xs → Post X.K W σ Q loc H (f ps S) → r xs H Q) : DCl X c f :=
  fun W _ pins s σ H xs us Q loc S ps I rx hS hp hP => h pins s σ H xs us Q I rx (b W σ H xs Q loc S ps hS hp hP)
end

/-! ### what stands in a list -/
def lstAt (S : Hs) (i : Nat) : Option (List PV) := match S[i]? with
  | some (.lst xs) => some xs
  | _ => none
theorem lstAt_eq {S : Hs} {i : Nat} {xs : List PV} (h : lstAt S i = some xs) : S[i]? = some (.lst xs) := by
  unfold lstAt at h
  split at h
  · cases h; assumption
  · cases h
@[simp] theorem lstAt_of {S : Hs} {i : Nat} {xs : List PV} (h : S[i]? = some (.lst xs)) : lstAt S i = some xs := by unfold lstAt; rw [h]
theorem lst_rep {K : PySem.W.Frag} {loc : List Addr} {S : Hs} {H : Hp} {i : Nat} {xs : List PV} {x : V} (hS : StR K loc S H) (e : lstAt S i = some xs) (r : Rep K loc H (.ref i) x) :
    ∃ a vs, x = .ref a ∧ loc[i]? = some a ∧ H a = some (.lst vs) ∧ Reps K loc H xs vs := by
  cases r with
  | ref q =>
    obtain ⟨vs, e1, r1⟩ := hS.obj _ _ _ (lstAt_eq e) q
    exact ⟨_, vs, rfl, q, e1, r1⟩
/-- a sequence that is read -/
def seqOf (S : Hs) : PV → Option (List PV)
  | .cl xs => some xs
  | .ref i => lstAt S i
  | _ => none
theorem seq_rep {K : PySem.W.Frag} {loc : List Addr} {S : Hs} {H : Hp} {p : PV} {xs : List PV} {x : V} (hS : StR K loc S H) (e : seqOf S p = some xs) (r : Rep K loc H p x) :
    ∃ a vs, x = .ref a ∧ SqL K H a vs ∧ Reps K loc H xs vs := by
  cases p with
  | cl ys =>
    cases e
    cases r with
    | cl h1 h2 => exact ⟨_, _, rfl, h1.sq, h2⟩
  | ref i =>
    obtain ⟨a, vs, e1, _, e2, e3⟩ := lst_rep hS (show lstAt S i = some xs from e) r
    exact ⟨a, vs, e1, SqL.of e2, e3⟩
  | _ => cases e

def newL (xs : List PV) (S : Hs) : Res PV := if xs.length ≤ sizeLine then .ok (.ref S.length) (S ++ [.lst xs]) else .bad
theorem newL_post {K : PySem.W.Frag} {W : WX} {σ : St} {Q : VK} {loc loc0 : List Addr} {S : Hs} {H H0 : Hp} {xs : List PV} {vs : List V} (hS : StR K loc S H) (hr : Reps K loc H xs vs) (g0 : Grow K loc0 H0 loc H) (h : Post K W σ Q loc0 H0 (newL xs S)) :
    vs.length ≤ sizeLine ∧ ∀ p, H p = none → Q (.ref p) (upd H p (.lst vs)) := by
  unfold newL at h
  split at h
  · rename_i hz
    refine ⟨by rw [← hr.length]; exact hz, fun p n => ?_⟩
    have g := hS.grow_new (u := .lst vs) n
    exact h _ _ _ (g0.trans g) (hS.new n ⟨vs, upd_same, hr.up g⟩) (.ref (hS.last p))
  · exact h.elim

theorem newT_post {K : PySem.W.Frag} {W : WX} {σ : St} {Q : VK} {loc loc0 : List Addr} {S : Hs} {H H0 : Hp} {xs : List PV} {vs : List V} (hS : StR K loc S H) (hr : Reps K loc H xs vs) (g0 : Grow K loc0 H0 loc H) (h : Post K W σ Q loc0 H0 (.ok (.tup xs) S)) :
    ∀ (p : Addr) (o : Obj), H p = none → o.dict = none → Q (.ref p) (upd H p (.frz o (.tup vs))) := fun p o n d => by
  have g : Grow K loc H loc (upd H p (.frz o (.tup vs))) := grow_new n fun _ _ z => z
  exact h _ _ _ (g0.trans g) (hS.lay n) (.tup (.inl ⟨o, upd_same, d⟩) (hr.up g))
section
variable {X : Cx}
/-- a new tuple, its object known -/
theorem layT {pins : List (Addr × Obj)} {σ : St} {H : Hp} {s : Shared} {xs : List V} {its : List Value} (I : Inv X pins σ H s) (hz : xs.length ≤ sizeLine) (r : Vals xs its) :
    Inv X pins σ (upd H s.heap.objs.size (.frz { cls := .type "tuple", data := .seq its.toArray } (.tup xs))) { s with heap := s.heap.push { cls := .type "tuple", data := .seq its.toArray } } :=
  I.laid (t' := s.toks) (fun b u e => Heap.get?_push_of_some _ e) (Nat.le_refl _) ⟨Heap.get?_push_size _ rfl, hz, its, r, _, Heap.get?_push_size _ rfl, rfl, _, rfl⟩
def rCatF (K : PySem.W.Frag) : R2 := fun x y H Q => ∃ a b xs ys, x = .ref a ∧ y = .ref b ∧ SqT K H a xs ∧ SqT K H b ys ∧ xs.length + ys.length ≤ sizeLine ∧
  (xs = [] → Q (.ref b) H) ∧ (xs ≠ [] → ys = [] → Q (.ref a) H) ∧ (xs ≠ [] → ys ≠ [] → ∀ (p : Addr) (o : Obj), H p = none → o.dict = none → Q (.ref p) (upd H p (.frz o (.tup (xs ++ ys)))))
theorem op_catF : OpR X (binaryOp .Add) (rCatF X.K) := by
  intro pins s σ H x y v u Q I rx ry h
  obtain ⟨a, b, xs, ys, rfl, rfl, ha, hb, hz, q0, q1, q2⟩ := h
  cases rx
  cases ry
  obtain ⟨its, r1, p1, _⟩ := I.tuple ha
  obtain ⟨its2, r2, p2, _⟩ := I.tuple hb
  by_cases hx : xs = []
  · subst hx
    cases r1
    exact cat_tup0 p1 p2 ⟨.ref b, H, I, rfl, q0 rfl⟩
  · refine HT.cat_tup p1 p2 (fun z => hx (r1.nil_iff.mp z)) (fun z => ⟨.ref a, H, I, rfl, q1 hx (r2.nil_iff.mp z)⟩) (fun z => ?_) (by rw [← r1.length, ← r2.length]; exact hz)
    exact ⟨.ref s.heap.objs.size, _, layT I (by rw [List.length_append]; exact hz) (r1.append r2), rfl, q2 hx (fun w => z (r2.nil_iff.mpr w)) _ _ (I.hok.fresh (Nat.le_refl _)) rfl⟩
theorem call_tupleF : CallR X (.type "tuple") (fun xs H Q => ∃ p ys, xs = [.ref p] ∧ ((SqL X.K H p ys ∧ ∀ (l : Addr) (o : Obj), H l = none → o.dict = none → Q (.ref l) (upd H l (.frz o (.tup ys)))) ∨ (SqT X.K H p ys ∧ Q (.ref p) H))) := by
  intro pins s σ H xs us Q I r h
  obtain ⟨p, ys, rfl, h⟩ := h
  obtain ⟨u, rfl, rx⟩ := vals1 r
  cases rx
  rcases h with ⟨hq, q⟩ | ⟨hq, q⟩
  · obtain ⟨its, r', pl, hz⟩ := I.list hq
    have hlen := r'.length
    refine call_tuple_list pl.isList (fun h' kp => ?_) (by simp only [List.size_toArray] <;> omega)
    have I1 : Inv X pins σ H { s with heap := h' } := I.kept (t' := s.toks) kp
    exact ⟨.ref h'.objs.size, _, layT I1 hz r', rfl, q _ _ (I1.hok.fresh (Nat.le_refl _)) rfl⟩
  · obtain ⟨its, r', pl, hz⟩ := I.tuple hq
    exact call_tuple_same pl ⟨.ref p, H, I, rfl, q⟩
def tTupF (t : TA) : TE := fun σ H Q => t σ H fun xs H1 => xs.length ≤ sizeLine ∧ ∀ (p : Addr) (o : Obj), H1 p = none → o.dict = none → Q (.ref p) (upd H1 p (.frz o (.tup xs)))
theorem pe_tupF {es : List Expr} {t : TA} {k : Nat} {pos : Pos} (h : PA X es t) : PE X (.Tuple es k pos) (tTupF t) := by
  refine ⟨fun pins s σ H Q I hq => ?_⟩
  refine wpAny_Tuple_spliced (thn (h.run pos pins s σ H _ I hq) fun us s1 ⟨xs, H1, I1, r, z, q⟩ => ⟨by rw [← r.length]; exact z, ?_⟩)
  exact ⟨.ref s1.heap.objs.size, _, layT I1 z r, rfl, q _ _ (I1.hok.fresh (Nat.le_refl _)) rfl⟩
def rSlF (K : PySem.W.Frag) : V → Option Int → Option Int → Hp → VK → Prop := fun x lo hi H Q => ∃ a xs, x = .ref a ∧ SqT K H a xs ∧
  (HT.sIx xs.length 0 lo = 0 ∧ HT.sIx xs.length xs.length hi = xs.length → Q (.ref a) H) ∧ (¬ (HT.sIx xs.length 0 lo = 0 ∧ HT.sIx xs.length xs.length hi = xs.length) → ∀ (p : Addr) (o : Obj), H p = none → o.dict = none → Q (.ref p) (upd H p (.frz o (.tup (cutV xs lo hi)))))
theorem sl_tupF : L2.SlR X (rSlF X.K) := by
  intro pins s σ H x v vl vu lo hi sl Q I rx hs pl pu h
  obtain ⟨a, xs, rfl, hx, q1, q2⟩ := h
  cases rx
  obtain ⟨its, r, ht, hz⟩ := I.tuple hx
  have hlen : its.toArray.size = xs.length := by rw [List.size_toArray]; exact r.length.symm
  refine ⟨"tuple", _, PyProof.Rows.slot_tuple_getitem.lookup, ht.typeIs, ?_⟩
  by_cases hw : HT.sIx xs.length 0 lo = 0 ∧ HT.sIx xs.length xs.length hi = xs.length
  · exact getItem_tuple_whole ht hs pl pu (by rw [hlen]; exact hw) ⟨.ref a, H, I, rfl, q1 hw⟩
  · refine HT.getItem_tuple_cut ht hs pl pu (by rw [hlen]; exact hw) ?_ (by rw [hlen]; exact hz)
    rw [hlen]
    exact ⟨.ref s.heap.objs.size, _, layT I (Nat.le_trans (cutV_length xs lo hi) hz) ((r.drop (HT.sIx xs.length 0 lo)).take (HT.sIx xs.length xs.length hi - HT.sIx xs.length 0 lo)), rfl, q2 hw _ _ (I.hok.fresh (Nat.le_refl _)) rfl⟩
end

/-! ### + - * // % ** -/
def addP : PV → PV → Hs → Res PV
  | .int i, .int j, S => .ok (.int (i + j)) S
  | .str a, .str b, S => if a.length + b.length ≤ sizeLine then .ok (.str (a ++ b)) S else .bad
  | .tup xs, .tup ys, S => if xs.length + ys.length ≤ sizeLine then .ok (.tup (xs ++ ys)) S else .bad
  | .ref i, .ref j, S => match lstAt S i, lstAt S j with
    | some xs, some ys => newL (xs ++ ys) S
    | _, _ => .bad
  | .cl xs, .ref j, S => match lstAt S j with
    | some ys => newL (xs ++ ys) S
    | _ => .bad
  | _, _, _ => .bad
def subP : PV → PV → Hs → Res PV
  | .int i, .int j, S => .ok (.int (i - j)) S
  | _, _, _ => .bad
def mulP : PV → PV → Hs → Res PV
  | .int i, .int j, S => if i.natAbs < 2 ^ 64 ∨ j.natAbs < 2 ^ 64 then .ok (.int (i * j)) S else .bad
  | .ref i, .int k, S => match lstAt S i with
    | some xs => if 0 ≤ k ∧ k < 2 ^ 63 then newL (List.replicate k.toNat xs).flatten S else .bad
    | _ => .bad
  | _, _, _ => .bad
def fdivP : PV → PV → Hs → Res PV
  | .int i, .int j, S => if 0 < j ∧ j < 1073741824 then .ok (.int (i / j)) S else .bad
  | _, _, _ => .bad
def modP : PV → PV → Hs → Res PV
  | .int i, .int j, S => if 0 < j then .ok (.int (i % j)) S else .bad
  | _, _, _ => .bad
def powP : PV → PV → Hs → Res PV
  | .int i, .int j, S => if 0 ≤ j ∧ j ≤ 1000000 ∧ i.natAbs < 2 ^ 64 then .ok (.int (i ^ j.toNat)) S else .bad
  | _, _, _ => .bad
def binP : Operator → PV → PV → Hs → Res PV
  | .Add => addP | .Sub => subP | .Mult => mulP | .FloorDiv => fdivP | .Mod => modP | .Pow => powP
  | _ => fun _ _ _ => .bad

section
variable {X : Cx}
/-- lists, never written ones too -/
def rCatL (K : PySem.W.Frag) : R2 := fun x y H Q => ∃ l b xs zs, x = .ref l ∧ y = .ref b ∧ SqL K H l xs ∧ SqL K H b zs ∧ xs.length + zs.length ≤ sizeLine ∧ ∀ p, H p = none → Q (.ref p) (upd H p (.lst (xs ++ zs)))
theorem op_catL : OpR X (binaryOp .Add) (rCatL X.K) := by
  intro pins s σ H x y v u Q I rx ry h
  obtain ⟨l, b, xs, zs, rfl, rfl, hH, hB, hz, q⟩ := h
  cases rx
  cases ry
  obtain ⟨its, r, ⟨⟨c1, d1, dt1, sl1⟩, n, e1, c, dd, e2⟩, z⟩ := I.list hH
  obtain ⟨its2, r2, ⟨⟨c2, d2, dt2, sl2⟩, n2, f1, f2, f3, f4⟩, z2⟩ := I.list hB
  simp only at c dd e2 f2 f3 f4
  subst c dd e2 f2 f3 f4
  have hl := r.length
  have hl2 := r2.length
  refine PySem.concat_meets ⟨_, e1, rfl⟩ ⟨_, f1, rfl⟩ PySem.noFill_list_add PySem.seq_list_add PySem.F.slot_list_add PySem.F.entry_list_add (PySem.F.args_list_add_2 _ _) (PyProof.Rows.list_addW l b its.toArray its2.toArray n n2 none none sl1 sl2 (by rw [List.size_toArray, List.size_toArray]; omega)) ⟨e1, f1, ?_⟩
  have ea : its.toArray ++ its2.toArray = (its ++ its2).toArray := by simp
  rw [ea]
  exact ⟨.ref _, _, I.lnew (t' := s.toks) (r.append r2) (by rw [List.length_append]; omega), rfl, q _ I.fresh⟩
theorem d_add : DOp X (binaryOp .Add) addP := by
  refine DOp.of (op_add.or (op_add_str.or (op_catF.or (op_cat.or op_catL)))) fun W σ H x y Q loc S p q hS hp hq h => ?_
  unfold addP at h
  split at h
  · cases hp; cases hq
    exact .inl ⟨_, _, rfl, rfl, h _ _ _ .refl hS (.int _)⟩
  · split at h
    · cases hp; cases hq
      exact .inr (.inl ⟨_, _, rfl, rfl, by assumption, h _ _ _ .refl hS (.str _)⟩)
    · exact h.elim
  · split at h
    · rename_i hz
      cases hp with
      | tup h1 r1 =>
        cases hq with
        | tup h2 r2 =>
          refine .inr (.inr (.inl ⟨_, _, _, _, rfl, rfl, h1.sq, h2.sq, by rw [← r1.length, ← r2.length]; exact hz, fun e => ?_, fun _ e => ?_, fun _ _ t n => ?_⟩))
          · subst e
            cases r1
            exact h _ _ _ .refl hS (.tup h2 r2)
          · subst e
            cases r2
            rw [List.append_nil] at h
            exact h _ _ _ .refl hS (.tup h1 r1)
          · exact newT_post hS (r1.append r2) .refl h t n
    · exact h.elim
  · split at h
    · rename_i e1 e2
      obtain ⟨a, vs, rfl, _, ha, ra⟩ := lst_rep hS e1 hp
      obtain ⟨b, us, rfl, _, hb, rb⟩ := lst_rep hS e2 hq
      obtain ⟨z, k⟩ := newL_post hS (ra.append rb) .refl h
      rw [List.length_append] at z
      exact .inr (.inr (.inr (.inl ⟨a, b, vs, us, rfl, rfl, ha, hb, z, k⟩)))
    · exact h.elim
  · split at h
    · rename_i e2
      cases hp with
      | cl h1 r1 =>
        obtain ⟨b, us, rfl, _, hb, rb⟩ := lst_rep hS e2 hq
        obtain ⟨z, k⟩ := newL_post hS (r1.append rb) .refl h
        rw [List.length_append] at z
        exact .inr (.inr (.inr (.inr ⟨_, b, _, us, rfl, rfl, h1.sq, SqL.of hb, z, k⟩)))
    · exact h.elim
  · exact h.elim
theorem d_int {g : Value → Value → Sem Value} {C : Int → Int → Prop} {D' : Int → Int → Prop} [∀ i j, Decidable (D' i j)] {k : Int → Int → Int} {f : PV → PV → Hs → Res PV} (h : OpR X g (rI C fun i j => .int (k i j))) (hc : ∀ i j, D' i j → C i j)
    (hf : ∀ i j S, f (.int i) (.int j) S = if D' i j then .ok (.int (k i j)) S else .bad) (hb : ∀ p q S, (∀ i j, ¬ (p = .int i ∧ q = .int j)) → f p q S = .bad) : DOp X g f := by
  refine DOp.of h fun W σ H x y Q loc S p q hS hp hq h => ?_
  by_cases e : ∃ i j, p = .int i ∧ q = .int j
  · obtain ⟨i, j, rfl, rfl⟩ := e
    cases hp; cases hq
    rw [hf] at h
    split at h
    · exact ⟨i, j, rfl, rfl, hc i j (by assumption), h _ _ _ .refl hS (.int _)⟩
    · exact h.elim
  · rw [hb p q S fun i j z => e ⟨i, j, z⟩] at h
    exact h.elim
theorem d_sub : DOp X (binaryOp .Sub) subP := by
  refine DOp.of op_sub fun W σ H x y Q loc S p q hS hp hq h => ?_
  unfold subP at h
  split at h
  · cases hp; cases hq
    exact ⟨_, _, rfl, rfl, h _ _ _ .refl hS (.int _)⟩
  · exact h.elim
theorem reps_rep {K : PySem.W.Frag} {loc : List Addr} {H : Hp} {ps : List PV} {vs : List V} (r : Reps K loc H ps vs) : ∀ n : Nat, Reps K loc H (List.replicate n ps).flatten (List.replicate n vs).flatten
  | 0 => .nil
  | n + 1 => by
    rw [List.replicate_succ, List.replicate_succ, List.flatten_cons, List.flatten_cons]
    exact r.append (reps_rep r n)
theorem d_mul : DOp X (binaryOp .Mult) mulP := by
  refine DOp.of (op_mul.or op_rep) fun W σ H x y Q loc S p q hS hp hq h => ?_
  unfold mulP at h
  split at h
  · split at h
    · rename_i hc
      cases hp; cases hq
      refine .inl ⟨_, _, rfl, rfl, ?_, h _ _ _ .refl hS (.int _)⟩
      unfold CMul
      omega
    · exact h.elim
  · split at h
    · split at h
      · rename_i e1 hk
        cases hq
        obtain ⟨a, vs, rfl, _, ha, ra⟩ := lst_rep hS e1 hp
        obtain ⟨z, k⟩ := newL_post hS (reps_rep ra _) .refl h
        refine .inr ⟨a, _, vs, rfl, rfl, ha, by omega, hk.2, ?_, k⟩
        rw [List.length_flatten, List.map_replicate, List.sum_replicate_nat] at z
        rw [Nat.mul_comm]
        exact z
      · exact h.elim
    · exact h.elim
  · exact h.elim
theorem d_fdiv : DOp X (binaryOp .FloorDiv) fdivP := by
  refine d_int (D' := fun i j => 0 < j ∧ j < 1073741824) op_fdiv (fun i j h => h) (fun i j S => rfl) fun p q S h => ?_
  unfold fdivP
  split
  · exact absurd ⟨rfl, rfl⟩ (h _ _)
  · rfl
theorem d_mod : DOp X (binaryOp .Mod) modP := by
  refine d_int (D' := fun i j => 0 < j) op_mod (fun i j h => h) (fun i j S => rfl) fun p q S h => ?_
  unfold modP
  split
  · exact absurd ⟨rfl, rfl⟩ (h _ _)
  · rfl
theorem d_pow : DOp X (binaryOp .Pow) powP := by
  refine d_int (D' := fun i j => 0 ≤ j ∧ j ≤ 1000000 ∧ i.natAbs < 2 ^ 64) op_pow (fun i j h => h) (fun i j S => rfl) fun p q S h => ?_
  unfold powP
  split
  · exact absurd ⟨rfl, rfl⟩ (h _ _)
  · rfl
theorem d_bad {g : Value → Value → Sem Value} : DOp X g (fun _ _ _ => .bad) := fun _ _ _ _ _ _ _ _ _ _ _ _ _ _ _ _ _ _ _ _ _ h => h.elim
theorem d_bin (op : Operator) : DOp X (binaryOp op) (binP op) := by
  cases op <;> first | exact d_add | exact d_sub | exact d_mul | exact d_fdiv | exact d_mod | exact d_pow | exact d_bad
end

/-! ### data -/
def omap {α β : Type} (f : α → Option β) : List α → Option (List β)
  | [] => some []
  | x :: xs => match f x, omap f xs with
    | some y, some ys => some (y :: ys)
    | _, _ => none
def toD : Nat → Hs → PV → Option PyData
  | 0, _, _ => none
  | n + 1, S, p => match p with
    | .non => some .none
    | .bl b => some (.bool b)
    | .int i => some (.int i)
    | .str x => some (.str x)
    | .tup xs => (omap (toD n S) xs).map .tuple
    | .cl xs => (omap (toD n S) xs).map .list
    | .ref i => match lstAt S i with
      | some xs => (omap (toD n S) xs).map .list
      | none => none
    | _ => none
theorem toD_dp {K : PySem.W.Frag} {loc : List Addr} {S : Hs} {H : Hp} (hS : StR K loc S H) : ∀ (n : Nat) (p : PV) (d : PyData) (x : V), toD n S p = some d → Rep K loc H p x → Dp K H x d
  | 0, _, _, _, e, _ => by cases e
  | n + 1, p, d, x, e, r => by
    have ih := toD_dp hS n
    have all : ∀ (ps : List PV) (ds : List PyData) (xs : List V), omap (toD n S) ps = some ds → Reps K loc H ps xs → DpAll K H xs ds := by
      intro ps
      induction ps with
      | nil =>
        intro ds xs e r
        cases e; cases r
        exact .nil
      | cons p ps ih2 =>
        intro ds xs e r
        cases r with
        | cons r1 r2 =>
          unfold omap at e
          split at e
          · rename_i y ys e1 e2
            cases e
            exact .cons (ih _ _ _ e1 r1) (ih2 _ _ e2 r2)
          · cases e
    unfold toD at e
    split at e
    · cases e; cases r; exact .non
    · cases e; cases r; exact .bl _
    · cases e; cases r; exact .int _
    · cases e; cases r; exact .str _
    · rename_i xs
      cases r with
      | tup h1 h2 =>
        cases q : omap (toD n S) xs with
        | none => rw [q] at e; cases e
        | some ds => rw [q] at e; cases e; exact .tup h1.sq (all _ _ _ q h2)
    · rename_i xs
      cases r with
      | cl h1 h2 =>
        cases q : omap (toD n S) xs with
        | none => rw [q] at e; cases e
        | some ds => rw [q] at e; cases e; exact .lst h1.sq (all _ _ _ q h2)
    · split at e
      · rename_i i xs q1
        obtain ⟨a, vs, rfl, _, ha, ra⟩ := lst_rep hS q1 r
        cases q : omap (toD n S) xs with
        | none => rw [q] at e; cases e
        | some ds => rw [q] at e; cases e; exact .lst (SqL.of ha) (all _ _ _ q ra)
      · cases e
    · cases e
def datP (S : Hs) (p : PV) : Option PyData := match toD 66 S p with
  | some d => if SeqAt.shaped d = true then some d else none
  | none => none
theorem datP_dp {K : PySem.W.Frag} {loc : List Addr} {S : Hs} {H : Hp} (hS : StR K loc S H) {p : PV} {d : PyData} {x : V} (e : datP S p = some d) (r : Rep K loc H p x) : Dp K H x d ∧ SeqAt.shaped d = true := by
  unfold datP at e
  split at e
  · split at e
    · cases e
      exact ⟨toD_dp hS 66 p _ x (by assumption) r, by assumption⟩
    · cases e
  · cases e

/-! ### comparisons -/
def eqDP (p q : PV) (S : Hs) : Res PV := match datP S p, datP S q with
  | some d, some e => .ok (.bl (PyData.eqv d e)) S
  | _, _ => .bad
def neDP (p q : PV) (S : Hs) : Res PV := match datP S p, datP S q with
  | some d, some e => .ok (.bl (!PyData.eqv d e)) S
  | _, _ => .bad
/-- texts as they are, all else as data -/
def eqP (p q : PV) (S : Hs) : Res PV := match p, q with
  | .str a, .str b => .ok (.bl (decide (a = b))) S
  | p, q => eqDP p q S
def neP (p q : PV) (S : Hs) : Res PV := match p, q with
  | .str a, .str b => .ok (.bl (!decide (a = b))) S
  | p, q => neDP p q S
def ltP : PV → PV → Hs → Res PV
  | .int i, .int j, S => .ok (.bl (decide (i < j))) S
  | _, _, _ => .bad
def leP : PV → PV → Hs → Res PV
  | .int i, .int j, S => .ok (.bl (decide (i ≤ j))) S
  | _, _, _ => .bad
def gtP : PV → PV → Hs → Res PV
  | .int i, .int j, S => .ok (.bl (decide (j < i))) S
  | _, _, _ => .bad
def geP : PV → PV → Hs → Res PV
  | .int i, .int j, S => .ok (.bl (decide (j ≤ i))) S
  | _, _, _ => .bad
def isNon : PV → Bool
  | .non => true
  | _ => false
def isP (p q : PV) (S : Hs) : Res PV := if isNon q then .ok (.bl (isNon p)) S else .bad
def isnotP (p q : PV) (S : Hs) : Res PV := if isNon q then .ok (.bl (!isNon p)) S else .bad
/-- the data of a sequence's items -/
def seqD : PyData → Option (List PyData)
  | .list ds => some ds
  | .tuple ds => some ds
  | _ => none
def inB (S : Hs) (p q : PV) : Option Bool := match datP S p, datP S q with
  | some d, some e => (seqD e).map fun ds => ds.any fun z => PyData.eqv z d
  | _, _ => none
def inP (p q : PV) (S : Hs) : Res PV := match inB S p q with
  | some b => .ok (.bl b) S
  | none => .bad
def ninP (p q : PV) (S : Hs) : Res PV := match inB S p q with
  | some b => .ok (.bl (!b)) S
  | none => .bad
def cmpP : CmpOp → PV → PV → Hs → Res PV
  | .Eq => eqP | .NotEq => neP | .Lt => ltP | .LtE => leP | .Gt => gtP | .GtE => geP | .Is => isP | .IsNot => isnotP | .In => inP | .NotIn => ninP

section
variable {X : Cx}
theorem d_eqD (hu : X.A.units + 64 < cLine) : DOp X (compareOp .Eq) eqDP := by
  refine DOp.of (op_eqD hu) fun W σ H x y Q loc S p q hS hp hq h => ?_
  unfold eqDP at h
  split at h
  · obtain ⟨h1, h2⟩ := datP_dp hS (by assumption) hp
    obtain ⟨h3, h4⟩ := datP_dp hS (by assumption) hq
    exact ⟨_, _, h1, h3, h2, h4, h _ _ _ .refl hS (.bl _)⟩
  · exact h.elim
theorem d_neD (hu : X.A.units + 64 < cLine) : DOp X (compareOp .NotEq) neDP := by
  refine DOp.of (op_neD hu) fun W σ H x y Q loc S p q hS hp hq h => ?_
  unfold neDP at h
  split at h
  · obtain ⟨h1, h2⟩ := datP_dp hS (by assumption) hp
    obtain ⟨h3, h4⟩ := datP_dp hS (by assumption) hq
    exact ⟨_, _, h1, h3, h2, h4, h _ _ _ .refl hS (.bl _)⟩
  · exact h.elim
theorem str_dec {a b : Str} : decide (V.str a = V.str b) = decide (a = b) := by
  by_cases h : a = b
  · subst h; simp
  · rw [decide_eq_false h, decide_eq_false fun z => h (V.str.inj z)]
theorem d_eq (hu : X.A.units + 64 < cLine) : DOp X (compareOp .Eq) eqP := by
  intro W tk pins s σ H x y v u Q loc S p q I rx ry hS hp hq h
  unfold eqP at h
  split at h
  · cases hp; cases hq
    exact op_eq pins s σ H _ _ v u Q I rx ry ⟨rfl, by rw [str_dec]; exact h _ _ _ .refl hS (.bl _)⟩
  · exact d_eqD hu W tk pins s σ H x y v u Q loc S _ _ I rx ry hS hp hq h
theorem d_ne (hu : X.A.units + 64 < cLine) : DOp X (compareOp .NotEq) neP := by
  intro W tk pins s σ H x y v u Q loc S p q I rx ry hS hp hq h
  unfold neP at h
  split at h
  · cases hp; cases hq
    exact op_ne pins s σ H _ _ v u Q I rx ry ⟨rfl, by rw [str_dec]; exact h _ _ _ .refl hS (.bl _)⟩
  · exact d_neD hu W tk pins s σ H x y v u Q loc S _ _ I rx ry hS hp hq h
theorem d_icmp {g : Value → Value → Sem Value} {k : Int → Int → Bool} {f : PV → PV → Hs → Res PV} (h : OpR X g (rI0 fun i j => .bl (k i j)))
    (hf : ∀ i j S, f (.int i) (.int j) S = .ok (.bl (k i j)) S) (hb : ∀ p q S, (∀ i j, ¬ (p = .int i ∧ q = .int j)) → f p q S = .bad) : DOp X g f := by
  refine DOp.of h fun W σ H x y Q loc S p q hS hp hq h => ?_
  by_cases e : ∃ i j, p = .int i ∧ q = .int j
  · obtain ⟨i, j, rfl, rfl⟩ := e
    cases hp; cases hq
    rw [hf] at h
    exact ⟨i, j, rfl, rfl, h _ _ _ .refl hS (.bl _)⟩
  · rw [hb p q S fun i j z => e ⟨i, j, z⟩] at h
    exact h.elim
theorem d_lt : DOp X (compareOp .Lt) ltP := by
  refine d_icmp op_lt (fun _ _ _ => rfl) fun p q S h => ?_
  unfold ltP
  split
  · exact absurd ⟨rfl, rfl⟩ (h _ _)
  · rfl
theorem d_le : DOp X (compareOp .LtE) leP := by
  refine d_icmp op_le (fun _ _ _ => rfl) fun p q S h => ?_
  unfold leP
  split
  · exact absurd ⟨rfl, rfl⟩ (h _ _)
  · rfl
theorem d_gt : DOp X (compareOp .Gt) gtP := by
  refine d_icmp op_gt (fun _ _ _ => rfl) fun p q S h => ?_
  unfold gtP
  split
  · exact absurd ⟨rfl, rfl⟩ (h _ _)
  · rfl
theorem d_ge : DOp X (compareOp .GtE) geP := by
  refine d_icmp op_ge (fun _ _ _ => rfl) fun p q S h => ?_
  unfold geP
  split
  · exact absurd ⟨rfl, rfl⟩ (h _ _)
  · rfl
theorem isNon_iff {K : PySem.W.Frag} {loc : List Addr} {H : Hp} {p : PV} {x : V} (r : Rep K loc H p x) : isNon p = decide (x = .non) := by
  cases r <;> rfl
theorem isNon_eq {K : PySem.W.Frag} {loc : List Addr} {H : Hp} {p : PV} {x : V} (r : Rep K loc H p x) (h : isNon p = true) : x = .non := by
  cases r <;> first | rfl | cases h
theorem d_is : DOp X (compareOp .Is) isP := by
  refine DOp.of op_isN fun W σ H x y Q loc S p q hS hp hq h => ?_
  unfold isP at h
  split at h
  · rename_i e
    rw [isNon_iff hp] at h
    exact ⟨isNon_eq hq e, h _ _ _ .refl hS (.bl _)⟩
  · exact h.elim
theorem d_isnot : DOp X (compareOp .IsNot) isnotP := by
  refine DOp.of op_notN fun W σ H x y Q loc S p q hS hp hq h => ?_
  unfold isnotP at h
  split at h
  · rename_i e
    rw [isNon_iff hp] at h
    exact ⟨isNon_eq hq e, h _ _ _ .refl hS (.bl _)⟩
  · exact h.elim
theorem d_in (hu : X.A.units + 65 < cLine) : DOp X (compareOp .In) inP := by
  intro W tk pins s σ H x y v u Q loc S p q I rx ry hS hp hq h
  unfold inP inB at h
  cases e1 : datP S p with
  | none => rw [e1] at h; exact h.elim
  | some d =>
    cases e2 : datP S q with
    | none => rw [e1, e2] at h; exact h.elim
    | some e =>
      rw [e1, e2] at h
      obtain ⟨h1, h2⟩ := datP_dp hS e1 hp
      obtain ⟨h3, h4⟩ := datP_dp hS e2 hq
      obtain ⟨as, r1⟩ := Dp.reads I d x v h1 rx
      obtain ⟨bs, r2⟩ := Dp.reads I e y u h3 ry
      cases e with
      | list ds => exact SeqAt.in_list_reads r2 r1 (SeqAt.canLay_of_shaped h4) (SeqAt.canLay_of_shaped h2) (room_in_shaped h2 hu) ⟨.bl _, H, I, rfl, h _ _ _ .refl hS (.bl _)⟩
      | tuple ds => exact SeqAt.in_tuple_reads r2 r1 (SeqAt.canLay_of_shaped h4) (SeqAt.canLay_of_shaped h2) (room_in_shaped h2 hu) ⟨.bl _, H, I, rfl, h _ _ _ .refl hS (.bl _)⟩
      | _ => exact h.elim
theorem d_notin (hu : X.A.units + 65 < cLine) : DOp X (compareOp .NotIn) ninP := by
  intro W tk pins s σ H x y v u Q loc S p q I rx ry hS hp hq h
  unfold ninP inB at h
  cases e1 : datP S p with
  | none => rw [e1] at h; exact h.elim
  | some d =>
    cases e2 : datP S q with
    | none => rw [e1, e2] at h; exact h.elim
    | some e =>
      rw [e1, e2] at h
      obtain ⟨h1, h2⟩ := datP_dp hS e1 hp
      obtain ⟨h3, h4⟩ := datP_dp hS e2 hq
      obtain ⟨as, r1⟩ := Dp.reads I d x v h1 rx
      obtain ⟨bs, r2⟩ := Dp.reads I e y u h3 ry
      cases e with
      | list ds => exact SeqAt.notIn_list_reads r2 r1 (SeqAt.canLay_of_shaped h4) (SeqAt.canLay_of_shaped h2) (room_in_shaped h2 hu) ⟨.bl _, H, I, rfl, h _ _ _ .refl hS (.bl _)⟩
      | tuple ds => exact SeqAt.notIn_tuple_reads r2 r1 (SeqAt.canLay_of_shaped h4) (SeqAt.canLay_of_shaped h2) (room_in_shaped h2 hu) ⟨.bl _, H, I, rfl, h _ _ _ .refl hS (.bl _)⟩
      | _ => exact h.elim
theorem d_cmp {k : Nat} (hr : Room k X.A) (op : CmpOp) : DOp X (compareOp op) (cmpP op) := by
  have hu := hr.units
  have hu5 : X.A.units + 65 < cLine := by have := hr.un; omega
  cases op with
  | Eq => exact d_eq hu
  | NotEq => exact d_ne hu
  | Lt => exact d_lt
  | LtE => exact d_le
  | Gt => exact d_gt
  | GtE => exact d_ge
  | Is => exact d_is
  | IsNot => exact d_isnot
  | In => exact d_in hu5
  | NotIn => exact d_notin hu5
end

/-! ### truth -/
def truP : PV → Hs → Res Bool
  | .non, S => .ok false S
  | .bl b, S => .ok b S
  | .int i, S => .ok (i != 0) S
  | .str x, S => if x.length ≤ sizeLine then .ok ((x.length : Int) != 0) S else .bad
  | .tup xs, S => .ok (!xs.isEmpty) S
  | .cl xs, S => .ok (!xs.isEmpty) S
  | .ref i, S => match lstAt S i with
    | some xs => .ok (!xs.isEmpty) S
    | none => .bad
  | _, _ => .bad
theorem Reps.empty {K : PySem.W.Frag} {loc : List Addr} {H : Hp} {ps : List PV} {vs : List V} (r : Reps K loc H ps vs) : vs.isEmpty = ps.isEmpty := by cases r <;> rfl
section
variable {X : Cx}
theorem d_tru : DTr X truP := by
  intro W tk pins s σ H x v Q loc S p I rx hS hp h
  refine tru_ok pins s σ H x v Q I rx ?_
  unfold truP at h
  split at h
  · cases hp; exact ⟨_, rfl, h _ _ _ .refl hS rfl⟩
  · cases hp; exact ⟨_, rfl, h _ _ _ .refl hS rfl⟩
  · cases hp; exact ⟨_, rfl, h _ _ _ .refl hS rfl⟩
  · split at h
    · cases hp; exact ⟨_, ⟨by assumption, rfl⟩, h _ _ _ .refl hS rfl⟩
    · exact h.elim
  · cases hp with
    | tup h1 h2 => exact ⟨_, .inr (.inl ⟨_, h1.sq, by rw [h2.empty]⟩), h _ _ _ .refl hS rfl⟩
  · cases hp with
    | cl h1 h2 => exact ⟨_, .inl ⟨_, h1.sq, by rw [h2.empty]⟩, h _ _ _ .refl hS rfl⟩
  · split at h
    · obtain ⟨a, vs, rfl, _, ha, ra⟩ := lst_rep hS (by assumption) hp
      exact ⟨_, .inl ⟨_, SqL.of ha, by rw [ra.empty]⟩, h _ _ _ .refl hS rfl⟩
    · exact h.elim
  · exact h.elim
end
end D

/-! D3: built-in functions and types called with deep values. -/
namespace D
open PySem PySem.Spec PyProof.Rows L2

theorem Reps.one {K : PySem.W.Frag} {loc : List Addr} {H : Hp} {p : PV} {xs : List V} (r : Reps K loc H [p] xs) : ∃ x, xs = [x] ∧ Rep K loc H p x := by
  cases r with
  | cons a b => cases b; exact ⟨_, rfl, a⟩
theorem Reps.two {K : PySem.W.Frag} {loc : List Addr} {H : Hp} {p q : PV} {xs : List V} (r : Reps K loc H [p, q] xs) : ∃ x y, xs = [x, y] ∧ Rep K loc H p x ∧ Rep K loc H q y := by
  cases r with
  | cons a b =>
    cases b with
    | cons c d => cases d; exact ⟨_, _, rfl, a, c⟩

/-! ### len -/
def lenP : List PV → Hs → Res PV
  | [.str x], S => if x.length ≤ sizeLine then .ok (.int x.length) S else .bad
  | [.tup xs], S => .ok (.int xs.length) S
  | [.cl xs], S => .ok (.int xs.length) S
  | [.ref i], S => match S[i]? with
    | some (.lst xs) => .ok (.int xs.length) S
    | some (.dct kvs) => .ok (.int kvs.length) S
    | _ => .bad
  | _, _ => .bad
section
variable {X : Cx}
theorem d_len : DCl X (.builtin "len") lenP := by
  refine DCl.of (CallR.or call_len call_lenD) fun W σ H xs Q loc S ps hS hp h => ?_
  unfold lenP at h
  split at h
  · obtain ⟨x, rfl, r⟩ := hp.one
    split at h
    · cases r
      exact .inl ⟨_, _, rfl, ⟨by assumption, rfl⟩, h _ _ _ .refl hS (.int _)⟩
    · exact h.elim
  · obtain ⟨x, rfl, r⟩ := hp.one
    cases r with
    | tup h1 h2 => exact .inl ⟨_, _, rfl, .inr ⟨_, h1.sq, rfl⟩, by rw [← h2.length]; exact h _ _ _ .refl hS (.int _)⟩
  · obtain ⟨x, rfl, r⟩ := hp.one
    cases r with
    | cl h1 h2 => exact .inl ⟨_, _, rfl, .inl ⟨_, h1.sq, rfl⟩, by rw [← h2.length]; exact h _ _ _ .refl hS (.int _)⟩
  · obtain ⟨x, rfl, r⟩ := hp.one
    cases r with
    | ref q =>
      split at h
      · rename_i e
        obtain ⟨vs, e1, r1⟩ := hS.obj _ _ _ e q
        exact .inl ⟨_, _, rfl, .inl ⟨_, SqL.of e1, rfl⟩, by rw [← r1.length]; exact h _ _ _ .refl hS (.int _)⟩
      · rename_i e
        obtain ⟨vs, e1, r1⟩ := hS.obj _ _ _ e q
        exact .inr ⟨_, _, rfl, e1, by rw [← Paired.length r1]; exact h _ _ _ .refl hS (.int _)⟩
      · exact h.elim
  · exact h.elim
end

/-! ### max, min of two ints; tuple, list -/
def max2P : List PV → Hs → Res PV
  | [.int i, .int j], S => .ok (.int (if j > i then j else i)) S
  | _, _ => .bad
def min2P : List PV → Hs → Res PV
  | [.int i, .int j], S => .ok (.int (if j < i then j else i)) S
  | _, _ => .bad
def tupleP : List PV → Hs → Res PV
  | [.tup xs], S => .ok (.tup xs) S
  | [p], S => match seqOf S p with
    | some xs => .ok (.tup xs) S
    | none => .bad
  | _, _ => .bad
def listP : List PV → Hs → Res PV
  | [.tup xs], S => newL xs S
  | [p], S => match seqOf S p with
    | some xs => newL xs S
    | none => .bad
  | _, _ => .bad
section
variable {X : Cx}
theorem d_max2 (hc : X.calm = true) : DCl X (.builtin "max") max2P := by
  refine DCl.of (call_max2 hc) fun W σ H xs Q loc S ps hS hp h => ?_
  unfold max2P at h
  split at h
  · obtain ⟨x, y, rfl, r1, r2⟩ := hp.two
    cases r1; cases r2
    exact ⟨_, _, rfl, h _ _ _ .refl hS (.int _)⟩
  · exact h.elim
theorem d_min2 (hc : X.calm = true) : DCl X (.builtin "min") min2P := by
  refine DCl.of (call_min2 hc) fun W σ H xs Q loc S ps hS hp h => ?_
  unfold min2P at h
  split at h
  · obtain ⟨x, y, rfl, r1, r2⟩ := hp.two
    cases r1; cases r2
    exact ⟨_, _, rfl, h _ _ _ .refl hS (.int _)⟩
  · exact h.elim
theorem d_tuple : DCl X (.type "tuple") tupleP := by
  refine DCl.of call_tupleF fun W σ H xs Q loc S ps hS hp h => ?_
  unfold tupleP at h
  split at h
  · obtain ⟨x, rfl, r⟩ := hp.one
    cases r with
    | tup h1 h2 => exact ⟨_, _, rfl, .inr ⟨h1.sq, h _ _ _ .refl hS (.tup h1 h2)⟩⟩
  · obtain ⟨x, rfl, r⟩ := hp.one
    split at h
    · obtain ⟨a, vs, rfl, ha, ra⟩ := seq_rep hS (by assumption) r
      exact ⟨_, _, rfl, .inl ⟨ha, newT_post hS ra .refl h⟩⟩
    · exact h.elim
  · exact h.elim
theorem d_list : DCl X (.type "list") listP := by
  refine DCl.of call_list_of fun W σ H xs Q loc S ps hS hp h => ?_
  unfold listP at h
  split at h
  · obtain ⟨x, rfl, r⟩ := hp.one
    cases r with
    | tup h1 h2 => exact ⟨_, _, rfl, .inr h1.sq, (newL_post hS h2 .refl h).2⟩
  · obtain ⟨x, rfl, r⟩ := hp.one
    split at h
    · obtain ⟨a, vs, rfl, ha, ra⟩ := seq_rep hS (by assumption) r
      exact ⟨_, _, rfl, .inl ha, (newL_post hS ra .refl h).2⟩
    · exact h.elim
  · exact h.elim
end

/-! ### sorted -/
def encD (S : Hs) (p : PV) : PyData := (toD 66 S p).getD .none
def alikeB (ds : List PyData) : Bool := ds.all fun d => ds.all fun e => PySem.W.alike d e
def tup1 : PyData → Bool
  | .tuple (_ :: _) => true
  | _ => false
def notTup : PyData → Bool
  | .tuple _ => false
  | .none => false
  | _ => true
def sortB (ds : List PyData) : Bool := ds.all tup1 || ds.all notTup
def sortP : List PV → Hs → Res PV
  | [p], S => match seqOf S p with
    | some xs => if (omap (toD 66 S) xs).isSome = true ∧ alikeB (xs.map (encD S)) = true ∧ sortB (xs.map (encD S)) = true ∧ (xs.all fun q => decide ((encD S q).depth ≤ 64)) = true
        then newL (xs.mergeSort (PySem.W.dataLe false (encD S))) S else .bad
    | none => .bad
  | _, _ => .bad
theorem omap_get {α β : Type} {f : α → Option β} : ∀ {xs : List α}, (omap f xs).isSome = true → ∀ x ∈ xs, ∃ y, f x = some y
  | [], _, x, hx => by cases hx
  | a :: xs, h, x, hx => by
    unfold omap at h
    split at h
    · rename_i y ys e1 e2
      rcases List.mem_cons.mp hx with rfl | hx
      · exact ⟨_, e1⟩
      · exact omap_get (by rw [e2]; rfl) x hx
    · cases h
theorem each_of {K : PySem.W.Frag} {loc : List Addr} {H : Hp} : ∀ {ps : List PV} {vs : List V} {us : List Value}, Reps K loc H ps vs → Vals vs us → PySem.W.EachIs (fun (u : Value) (p : PV) => ∃ x, RelV x u ∧ Rep K loc H p x) us ps
  | [], _, _, r, v => by cases r; cases v; exact .nil
  | p :: ps, _, _, r, v => by
    cases r with
    | cons r1 r2 =>
      cases v with
      | cons v1 v2 => exact .cons ⟨_, v1, r1⟩ (each_of r2 v2)
theorem of_each {K : PySem.W.Frag} {loc : List Addr} {H : Hp} : ∀ {ps : List PV} {us : List Value}, PySem.W.EachIs (fun (u : Value) (p : PV) => ∃ x, RelV x u ∧ Rep K loc H p x) us ps → ∃ vs, Reps K loc H ps vs ∧ Vals vs us
  | [], _, e => by cases e; exact ⟨[], .nil, .nil⟩
  | p :: ps, _, e => by
    cases e with
    | cons a b =>
      obtain ⟨x, h1, h2⟩ := a
      obtain ⟨vs, h3, h4⟩ := of_each b
      exact ⟨x :: vs, .cons h2 h3, .cons h1 h4⟩
section
variable {X : Cx}
theorem each_reads {pins : List (Addr × Obj)} {s : Shared} {σ : St} {H : Hp} {loc : List Addr} {S : Hs} (I : Inv X pins σ H s) (hS : StR X.K loc S H) : ∀ {ps : List PV} {vs : List V} {us : List Value}, (∀ p ∈ ps, ∃ d, toD 66 S p = some d) → Reps X.K loc H ps vs → Vals vs us →
    PySem.W.EachIs (fun (u : Value) (p : PV) => ∃ as, Reads s.heap u (encD S p) as) us ps
  | [], _, _, _, r, v => by cases r; cases v; exact .nil
  | p :: ps, _, _, h, r, v => by
    cases r with
    | cons r1 r2 =>
      cases v with
      | cons v1 v2 =>
        refine .cons ?_ (each_reads I hS (fun q hq => h q (List.mem_cons_of_mem _ hq)) r2 v2)
        obtain ⟨d, e⟩ := h p List.mem_cons_self
        have e' : encD S p = d := by unfold encD; rw [e]; rfl
        rw [e']
        exact Dp.reads I d _ _ (toD_dp hS 66 p d _ e r1) v1
theorem d_sorted {k : Nat} (hr : Room k X.A) : DCl X (.builtin "sorted") sortP := by
  intro W tk pins s σ H xs us Q loc S ps I rv hS hp h
  unfold sortP at h
  split at h
  · rename_i p S'
    obtain ⟨x, rfl, r⟩ := hp.one
    split at h
    · rename_i ys e
      split at h
      · rename_i c
        obtain ⟨c1, c2, c3, c4⟩ := c
        obtain ⟨a, vs, rfl, ha, ra⟩ := seq_rep hS e r
        obtain ⟨its, rits, hl, _⟩ := I.list ha
        rw [Vals.ref1 rv]
        have hlen : (ys.mergeSort (PySem.W.dataLe false (encD S))).length = ys.length := List.length_mergeSort ys
        have hz : ys.length ≤ sizeLine := by
          unfold newL at h
          split at h
          · rw [← hlen]; assumption
          · exact h.elim
        refine PySem.W.sorted_data (enc := encD S) (R := fun (u : Value) (p : PV) => ∃ x, RelV x u ∧ Rep X.K loc H p x) hl.isList (each_of ra rits) (each_reads I hS (omap_get c1) ra rits) ?_ ?_ hz ?_ fun out hout hE => ?_
        · intro d hd e he
          exact List.all_eq_true.mp (List.all_eq_true.mp c2 d hd) e he
        · unfold sortB at c3
          rcases Bool.or_eq_true_iff.mp c3 with c3 | c3
          · refine .inl fun d hd => ?_
            have q := List.all_eq_true.mp c3 d hd
            unfold tup1 at q
            split at q
            · exact ⟨_, _, rfl⟩
            · cases q
          · refine .inr fun d hd => ?_
            have q := List.all_eq_true.mp c3 d hd
            refine ⟨fun z => ?_, fun zs z => ?_⟩ <;> (subst z; cases q)
        · intro b hb
          have q := of_decide_eq_true (List.all_eq_true.mp c4 b hb)
          have := hr.un
          omega
        · obtain ⟨ws, rw1, vw⟩ := of_each hE
          obtain ⟨ep, he'⟩ := PyProof.Rows.sortedAll_at s.heap its (List.toArray out)
          obtain ⟨z, kq⟩ := newL_post hS rw1 .refl h
          refine ⟨.ref _, upd H (s.heap.objs.size + 1) (.lst ws), I.laid (t' := s.toks) (fun _ _ => PyProof.Rows.sortedAll_old) (Nat.le_succ _) ⟨z, out, ep, vw, ?_⟩, rfl, kq _ (I.hok.fresh (Nat.le_succ _))⟩
          rw [he']
      · exact h.elim
    · exact h.elim
  · exact h.elim
end

/-! ### repr -/
def reprP : List PV → Hs → Res PV
  | [.tup xs], S => match toD 66 S (.tup xs) with
    | some d => if d.showable = true ∧ d.hasDict = false ∧ d.shown.length ≤ sizeLine ∧ d.depth ≤ 66 then .ok (.str d.shown) S else .bad
    | none => .bad
  | [.cl xs], S => match toD 66 S (.cl xs) with
    | some d => if d.showable = true ∧ d.hasDict = false ∧ d.shown.length ≤ sizeLine ∧ d.depth ≤ 66 then .ok (.str d.shown) S else .bad
    | none => .bad
  | [.ref i], S => match toD 66 S (.ref i) with
    | some d => if d.showable = true ∧ d.hasDict = false ∧ d.shown.length ≤ sizeLine ∧ d.depth ≤ 66 then .ok (.str d.shown) S else .bad
    | none => .bad
  | _, _ => .bad
section
variable {X : Cx}
theorem repr_go {k : Nat} {W : WX} {pins : List (Addr × Obj)} {s : Shared} {σ : St} {H : Hp} {a : Addr} {Q : VK} {loc : List Addr} {S : Hs} {p : PV} (hr : Room k X.A) (hg : X.A.guards = some []) (I : Inv X pins σ H s) (hS : StR X.K loc S H) (hp : Rep X.K loc H p (.ref a))
    (h : Post X.K W σ Q loc H (match toD 66 S p with
    | some d => if d.showable = true ∧ d.hasDict = false ∧ d.shown.length ≤ sizeLine ∧ d.depth ≤ 66 then .ok (.str d.shown) S else .bad
    | none => .bad)) : wpAny (model X.prog X.w) X.A (call (.builtin "repr") [.ref a]) (EP X pins σ Q) X.xe s := by
  split at h
  · rename_i d e
    split at h
    · rename_i c
      obtain ⟨c1, c2, c3, c4⟩ := c
      obtain ⟨as, rd⟩ := Dp.reads I d _ _ (toD_dp hS 66 p d _ e hp) (show RelV (.ref a) (.ref a) from rfl)
      refine repr_of_reads' rd c1 (fun z => by rw [c2] at z; cases z) hg (by have := hr.un; omega) (fun _ _ q => q) (fun h' u tk kk => ?_) c3
      exact ⟨.str _, H, I.kept kk, ⟨_, rfl⟩, h _ _ _ .refl hS (.str _)⟩
    · exact h.elim
  · exact h.elim
theorem d_repr {k : Nat} (hr : Room k X.A) (hg : X.A.guards = some []) : DCl X (.builtin "repr") reprP := by
  intro W tk pins s σ H xs us Q loc S ps I rv hS hp h
  unfold reprP at h
  split at h
  · obtain ⟨x, rfl, r⟩ := hp.one
    cases r with
    | tup h1 h2 =>
      rw [Vals.ref1 rv]
      exact repr_go hr hg I hS (.tup h1 h2) h
  · obtain ⟨x, rfl, r⟩ := hp.one
    cases r with
    | cl h1 h2 =>
      rw [Vals.ref1 rv]
      exact repr_go hr hg I hS (.cl h1 h2) h
  · obtain ⟨x, rfl, r⟩ := hp.one
    cases r with
    | ref h1 =>
      rw [Vals.ref1 rv]
      exact repr_go hr hg I hS (.ref h1) h
  · exact h.elim
end
end D

/-! D4: rules for expressions and tests. -/
namespace D
open PySem PySem.Spec PyProof.Rows L2

def retE (f : Hs → Res PV) : EM := fun _ S => f S
def varM (i : Nat) : EM := fun env S => match env[i]? with
  | some (some p) => .ok p S
  | _ => .bad
def pureM (p : PV) : EM := fun _ S => .ok p S
section
variable {X : Cx}
theorem de_var {i : Nat} {x : Str} {pos : Pos} (hN : X.N[i]? = some x) (hv : Vis X.env.scope x) (hd : (x == ("__debug__" : Str)) = false) (hcd : (x == ("__classdict__" : Str)) = false) : DE X (.Name x pos) (varM i) := fun W tk =>
  (pe_var hN hv hd hcd).imp fun σ H Q h => by
    obtain ⟨loc, S, env, hS, hE, p⟩ := h
    unfold varM at p
    split at p
    · rename_i q e
      obtain ⟨v, e1, r⟩ := hE.2 i q e
      exact ⟨v, e1, p _ _ _ .refl hS r⟩
    · exact p.elim
theorem de_pure {e : Expr} {v : V} {p : PV} (h : PE X e (tC v)) (r : ∀ loc H, Rep X.K loc H p v) : DE X e (pureM p) := fun W tk =>
  h.imp fun σ H Q q => by
    obtain ⟨loc, S, env, hS, hE, k⟩ := q
    exact k _ _ _ .refl hS (r _ _)
theorem de_int {i : Int} {j : Nat} {pos : Pos} : DE X (.Constant (.int i) j pos) (pureM (.int i)) := de_pure pe_int fun _ _ => .int i
theorem de_bl {b : Bool} {j : Nat} {pos : Pos} : DE X (.Constant (.bool b) j pos) (pureM (.bl b)) := de_pure pe_bl fun _ _ => .bl b
theorem de_non {j : Nat} {pos : Pos} : DE X (.Constant .none j pos) (pureM .non) := de_pure pe_non fun _ _ => .non
theorem de_str {x : Str} {j : Nat} {pos : Pos} : DE X (.Constant (.str x) j pos) (pureM (.str x)) := de_pure pe_str fun _ _ => .str x

/-- two values known -/
theorem two_known {K : PySem.W.Frag} {loc : List Addr} {H : Hp} {p q : PV} {x y : V} {ps : List PV} {xs : List V} (r : Reps K loc H (q :: p :: ps) (y :: x :: xs)) : Rep K loc H p x ∧ Rep K loc H q y := by
  cases r with
  | cons a b =>
    cases b with
    | cons c d => exact ⟨c, a⟩

def op2 (f : PV → PV → Hs → Res PV) (ma mb : EM) : EM := bindE ma fun p => bindE mb fun q => retE (f p q)
def op1 (f : PV → Hs → Res PV) (ma : EM) : EM := bindE ma fun p => retE (f p)
variable {a b c : Expr} {ma mb mc : EM} {pos : Pos}
theorem de_bin {op : Operator} {f : PV → PV → Hs → Res PV} (ho : DOp X (binaryOp op) f) (ha : DE X a ma) (hb : DE X b mb) : DE X (.BinOp a op b pos) (op2 f ma mb) := fun W tk => by
  refine ⟨fun pins s σ H Q I h => ?_⟩
  refine wpAny_BinOp (thn ((ha W tk).run pins s σ H _ I (tGv.bind (tG.v h))) fun v s1 ⟨x, H1, I1, r1, p, h1⟩ => thn ((hb W tk).run pins s1 σ H1 _ I1 (tGv.bind h1)) fun u s2 ⟨y, H2, I2, r2, q, h2⟩ => ?_)
  obtain ⟨loc, S, env, hS, hE, rs, k⟩ := h2
  obtain ⟨rp, rq⟩ := two_known rs
  exact ho W tk pins s2 σ H2 x y v u Q loc S p q I2 r1 r2 hS rp rq k
theorem de_un {op : UnaryOp} {f : PV → Hs → Res PV} (ho : DUn X (unaryOp op) f) (ha : DE X a ma) : DE X (.UnaryOp op a pos) (op1 f ma) := fun W tk => by
  refine ⟨fun pins s σ H Q I h => ?_⟩
  refine UnaryOp_ (thn ((ha W tk).run pins s σ H _ I (tGv.bind (tG.v h))) fun v s1 ⟨x, H1, I1, r1, p, h1⟩ => ?_)
  obtain ⟨loc, S, env, hS, hE, rs, k⟩ := h1
  cases rs with
  | cons rp _ => exact ho W tk pins s1 σ H1 x v Q loc S p I1 r1 hS rp k
def negP : PV → Hs → Res PV
  | .int i, S => .ok (.int (-i)) S
  | _, _ => .bad
theorem d_neg : DUn X (unaryOp .USub) negP := by
  refine DUn.of un_neg fun W σ H x Q loc S p hS hp h => ?_
  unfold negP at h
  split at h
  · cases hp; exact ⟨_, rfl, h _ _ _ .refl hS (.int _)⟩
  · exact h.elim

/-! ### comparisons -/
theorem de_cmp {op : CmpOp} {f : PV → PV → Hs → Res PV} (ho : DOp X (compareOp op) f) (ha : DE X a ma) (hb : DE X b mb) (hm : behindInMarks op b = false) : DE X (.Compare a [op] [b] pos) (op2 f ma mb) := fun W tk => by
  refine ⟨fun pins s σ H Q I h => ?_⟩
  refine wpAny_Compare1 (thn ((ha W tk).run pins s σ H _ I (tGv.bind (tG.v h))) fun v s1 ⟨x, H1, I1, r1, p, h1⟩ => thn ((hb W tk).run pins s1 σ H1 _ I1 (tGv.bind h1)) fun u s2 ⟨y, H2, I2, r2, q, h2⟩ => ?_) hm
  obtain ⟨loc, S, env, hS, hE, rs, k⟩ := h2
  obtain ⟨rp, rq⟩ := two_known rs
  exact ho W tk pins s2 σ H2 x y v u Q loc S p q I2 r1 r2 hS rp rq k
/-- a value's truth -/
def truM (m : EM) : TM := bindE m fun p _ S => truP p S
theorem Post.tru {K : PySem.W.Frag} {W : WX} {σ : St} {Q : Bool → Hp → Prop} {loc : List Addr} {H : Hp} {r : Res PV} (h : PostR K W RB σ Q loc H (r.bind fun p S => truP p S)) :
    PostR K W (RV K) σ (fun x H1 => ∃ loc1 S1 p, StR K loc1 S1 H1 ∧ Rep K loc1 H1 p x ∧ PostR K W RB σ Q loc1 H1 (truP p S1)) loc H r := by
  cases r with
  | ok p S => exact fun l2 h2 x g2 s2 r2 => ⟨l2, S, p, s2, r2, PostR.up g2 h⟩
  | exc c fs S => exact h
  | bad => exact h
theorem dt_cmp {op : CmpOp} {f : PV → PV → Hs → Res PV} (ho : DOp X (compareOp op) f) (ha : DE X a ma) (hb : DE X b mb) (hm : behindInMarks op b = false) : DT X (.Compare a [op] [b] pos) (truM (op2 f ma mb)) := fun W tk => by
  refine ⟨fun pins s σ H Q I h => ?_⟩
  have h' : tG X.K W RB (bindE ma fun p => bindE mb fun q => fun _ S => (f p q S).bind fun z S' => truP z S') σ H Q := by
    obtain ⟨loc, S, env, hS, hE, k⟩ := h
    refine ⟨loc, S, env, hS, hE, ?_⟩
    unfold truM op2 bindE retE at k
    unfold bindE
    cases e : ma env S with
    | bad => rw [e] at k; exact k
    | exc _ _ _ => rw [e] at k; exact k
    | ok p S1 =>
      rw [e] at k
      show PostR _ _ _ _ _ _ _ ((mb env S1).bind _)
      cases e2 : mb env S1 with
      | bad => rw [show (Res.bind (Res.ok p S1) fun v S' => Res.bind (mb env S') fun q S2 => f v q S2) = Res.bind (mb env S1) fun q S2 => f p q S2 from rfl, e2] at k; exact k
      | exc _ _ _ => rw [show (Res.bind (Res.ok p S1) fun v S' => Res.bind (mb env S') fun q S2 => f v q S2) = Res.bind (mb env S1) fun q S2 => f p q S2 from rfl, e2] at k; exact k
      | ok q S2 => rw [show (Res.bind (Res.ok p S1) fun v S' => Res.bind (mb env S') fun q S2 => f v q S2) = Res.bind (mb env S1) fun q S2 => f p q S2 from rfl, e2] at k; exact k
  refine wpAny_isTrue_Compare1 (thn ((ha W tk).run pins s σ H _ I (tGv.bind (tG.v h'))) fun v s1 ⟨x, H1, I1, r1, p, h1⟩ => thn ((hb W tk).run pins s1 σ H1 _ I1 (tGv.bind h1)) fun u s2 ⟨y, H2, I2, r2, q, h2⟩ => ?_) hm
  obtain ⟨loc, S, env, hS, hE, rs, k⟩ := h2
  obtain ⟨rp, rq⟩ := two_known rs
  refine thn (ho W tk pins s2 σ H2 x y v u _ loc S p q I2 r1 r2 hS rp rq (Post.tru k)) fun z s3 ⟨zv, H3, I3, r3, loc3, S3, pz, hS3, rz, k3⟩ => ?_
  exact d_tru W tk pins s3 σ H3 zv z Q loc3 S3 pz I3 r3 hS3 rz k3
/-- an expression as a test -/
theorem dt_val {e : Expr} {m : EM} (h : DE X e m) (he : ∀ whole, isTrue e X.env whole = (do let v ← whole; standAt e.pos; holding [v] (truthy v))) : DT X e (truM m) := fun W tk => by
  refine ⟨fun pins s σ H Q I hq => ?_⟩
  refine isTrue_plain (thn ((h W tk).run pins s σ H _ I (tGv.bind (tG.v hq))) fun v s1 ⟨x, H1, I1, r1, p, h1⟩ => ?_) (he _)
  obtain ⟨loc, S, env, hS, hE, rs, k⟩ := h1
  cases rs with
  | cons rp _ => exact d_tru W tk pins s1 σ H1 x v Q loc S p I1 r1 hS rp k

/-! ### not, and, or, if -/
def notM (m : TM) : TM := bindE m fun b _ S => .ok (!b) S
theorem dt_not {m : TM} (h : DT X a m) : DT X (.UnaryOp .Not a pos) (notM m) := fun W tk =>
  (pt_not (h W tk)).imp fun σ H Q q => by
    refine tG.imp (fun b h k => ?_) (tGv.bindB (tG.v q))
    obtain ⟨loc, S, env, hS, hE, _, k⟩ := k
    exact k _ _ _ .refl hS rfl
def notE (m : EM) : EM := bindE (truM m) fun b _ S => .ok (.bl (!b)) S
theorem de_not {m : EM} (h : DE X a m) : DE X (.UnaryOp .Not a pos) (notE m) := fun W tk => by
  refine ⟨fun pins s σ H Q I hq => ?_⟩
  have h' : tG X.K W (RV X.K) (bindE m fun p _ S => (truP p S).bind fun b S' => .ok (.bl (!b)) S') σ H Q := by
    obtain ⟨loc, S, env, hS, hE, k⟩ := hq
    refine ⟨loc, S, env, hS, hE, ?_⟩
    unfold notE truM bindE at k
    unfold bindE
    cases e : m env S with
    | bad => rw [e] at k; exact k
    | exc _ _ _ => rw [e] at k; exact k
    | ok p S1 => rw [e] at k; exact k
  refine UnaryOp_ (thn ((h W tk).run pins s σ H _ I (tGv.bind (tG.v h'))) fun v s1 ⟨x, H1, I1, r1, p, h1⟩ => ?_)
  obtain ⟨loc, S, env, hS, hE, rs, k⟩ := h1
  cases rs with
  | cons rp _ =>
    dsimp only at k
    refine not_of (thn (d_tru W tk pins s1 σ H1 x v (fun c H2 => Q (.bl (!c)) H2) loc S p I1 r1 hS rp ?_) fun c s2 ⟨H2, I2, q2⟩ => ⟨.bl (!c), H2, I2, rfl, q2⟩)
    cases e : truP p S with
    | bad => rw [e] at k; exact k
    | exc _ _ _ => rw [e] at k; exact k
    | ok d S1 =>
      rw [e] at k
      intro l2 h2 z g2 s2 r2
      subst r2
      exact k l2 h2 _ g2 s2 (.bl _)
def DW (X : Cx) (e : Expr) (m : TM) : Prop := ∀ W, Takes X W → PW X e (tB X.K W m)
theorem DW.dt {e : Expr} {m : TM} (h : DW X e m) : DT X e m := fun W tk => (h W tk).pt
def andM (m n : TM) : TM := bindE m fun b env S => if b = true then n env S else .ok false S
def orM (m n : TM) : TM := bindE m fun b env S => if b = true then .ok true S else n env S
theorem _root_.L2.PW.imp {X : Cx} {e : Expr} {t t' : TT} (h : PW X e t) (f : ∀ σ H Q, t' σ H Q → t σ H Q) : PW X e t' := ⟨fun wh pins s σ H Q I q => h.run wh pins s σ H Q I (f σ H Q q)⟩
variable {rest : List Expr} {m n : TM}
theorem dw_and1 (h : DT X a m) : DW X (.BoolOp .And [a] pos) m := fun W tk => pw_and1 (h W tk)
theorem dw_or1 (h : DT X a m) : DW X (.BoolOp .Or [a] pos) m := fun W tk => pw_or1 (h W tk)
theorem dw_and (h : DT X a m) (hb : DW X (.BoolOp .And (b :: rest) pos) n) : DW X (.BoolOp .And (a :: b :: rest) pos) (andM m n) := fun W tk =>
  (pw_and (h W tk) (hb W tk)).imp fun σ H Q q => by
    refine tG.imp (fun b h k => ?_) (tGv.bindB (tG.v q))
    obtain ⟨loc, S, env, hS, hE, _, k⟩ := k
    cases b with
    | true => exact ⟨loc, S, env, hS, hE, k⟩
    | false => exact k _ _ _ .refl hS rfl
theorem dw_or (h : DT X a m) (hb : DW X (.BoolOp .Or (b :: rest) pos) n) : DW X (.BoolOp .Or (a :: b :: rest) pos) (orM m n) := fun W tk =>
  (pw_or (h W tk) (hb W tk)).imp fun σ H Q q => by
    refine tG.imp (fun b h k => ?_) (tGv.bindB (tG.v q))
    obtain ⟨loc, S, env, hS, hE, _, k⟩ := k
    cases b with
    | false => exact ⟨loc, S, env, hS, hE, k⟩
    | true => exact k _ _ _ .refl hS rfl
def andE (m n : EM) : EM := bindE m fun p env S => (truP p S).bind fun b S' => if b = true then n env S' else .ok p S'
def orE (m n : EM) : EM := bindE m fun p env S => (truP p S).bind fun b S' => if b = true then .ok p S' else n env S'
theorem truP_same {p : PV} {S S' : Hs} {b : Bool} (h : truP p S = .ok b S') : S' = S := by
  unfold truP at h
  split at h <;> (try split at h) <;> first | (cases h; rfl) | cases h
theorem truP_noexc {p : PV} {S S' : Hs} {c : EC} {fs : List (Str × PV)} : truP p S ≠ .exc c fs S' := fun h => by
  unfold truP at h
  split at h <;> (try split at h) <;> cases h
theorem de_one {op : BoolOp} {m : EM} (h : DE X a m) : DE X (.BoolOp op [a] pos) m := fun W tk => pe_one (h W tk)
theorem de_and {m n : EM} (h : DE X a m) (hb : DE X (.BoolOp .And (b :: rest) pos) n) : DE X (.BoolOp .And (a :: b :: rest) pos) (andE m n) := fun W tk => by
  refine ⟨fun pins s σ H Q I hq => ?_⟩
  refine BoolOp_and (thn ((h W tk).run pins s σ H _ I (tGv.bind (tG.v hq))) fun v s1 ⟨x, H1, I1, r1, p, h1⟩ => ?_)
  obtain ⟨loc, S, env, hS, hE, rs, k⟩ := h1
  cases rs with
  | cons rp _ =>
    dsimp only at k
    cases e : truP p S with
    | bad => rw [e] at k; exact k.elim
    | exc c fs S' => exact absurd e truP_noexc
    | ok d S1 =>
      have es := truP_same e
      subst es
      rw [e] at k
      refine thn (d_tru W tk pins s1 σ H1 x v (fun c H2 => c = d ∧ ∃ loc', StR X.K loc' S1 H2 ∧ Grow X.K loc H1 loc' H2) loc S1 p I1 r1 hS rp ?_) fun c s2 ⟨H2, I2, ec, loc', hS2, g2⟩ => ?_
      · rw [e]
        intro l2 h2 z g2 s2 r2
        exact ⟨r2.symm, l2, s2, g2⟩
      · subst ec
        cases c with
        | true => exact (hb W tk).run pins s2 σ H2 Q I2 ⟨loc', S1, env, hS2, hE.up g2, PostR.up g2 k⟩
        | false => exact ⟨x, H2, I2, r1, k loc' H2 x g2 hS2 (Rep.up g2 _ _ rp)⟩
theorem de_or {m n : EM} (h : DE X a m) (hb : DE X (.BoolOp .Or (b :: rest) pos) n) : DE X (.BoolOp .Or (a :: b :: rest) pos) (orE m n) := fun W tk => by
  refine ⟨fun pins s σ H Q I hq => ?_⟩
  refine BoolOp_or (thn ((h W tk).run pins s σ H _ I (tGv.bind (tG.v hq))) fun v s1 ⟨x, H1, I1, r1, p, h1⟩ => ?_)
  obtain ⟨loc, S, env, hS, hE, rs, k⟩ := h1
  cases rs with
  | cons rp _ =>
    dsimp only at k
    cases e : truP p S with
    | bad => rw [e] at k; exact k.elim
    | exc c fs S' => exact absurd e truP_noexc
    | ok d S1 =>
      have es := truP_same e
      subst es
      rw [e] at k
      refine thn (d_tru W tk pins s1 σ H1 x v (fun c H2 => c = d ∧ ∃ loc', StR X.K loc' S1 H2 ∧ Grow X.K loc H1 loc' H2) loc S1 p I1 r1 hS rp ?_) fun c s2 ⟨H2, I2, ec, loc', hS2, g2⟩ => ?_
      · rw [e]
        intro l2 h2 z g2 s2 r2
        exact ⟨r2.symm, l2, s2, g2⟩
      · subst ec
        cases c with
        | false => exact (hb W tk).run pins s2 σ H2 Q I2 ⟨loc', S1, env, hS2, hE.up g2, PostR.up g2 k⟩
        | true => exact ⟨x, H2, I2, r1, k loc' H2 x g2 hS2 (Rep.up g2 _ _ rp)⟩
def ifE (t : TM) (m n : EM) : EM := bindE t fun b env S => if b = true then m env S else n env S
theorem de_if {t : TM} {m n : EM} (hc : DT X c t) (ha : DE X a m) (hb : DE X b n) : DE X (.IfExp c a b pos) (ifE t m n) := fun W tk =>
  (pe_ifExp (hc W tk) (ha W tk) (hb W tk)).imp fun σ H Q q => by
    refine tG.imp (fun b h k => ?_) (tGv.bindB (tG.v q))
    obtain ⟨loc, S, env, hS, hE, _, k⟩ := k
    cases b with
    | true => exact ⟨loc, S, env, hS, hE, k⟩
    | false => exact ⟨loc, S, env, hS, hE, k⟩

/-! ### arguments, displays -/
def NoStar (e : Expr) : Prop := ∀ es env, starEach (e :: es) env = (false, eval e env) :: starEach es env
def nilA : AM := fun _ S => .ok [] S
def consA (m : EM) (n : AM) : AM := bindE m fun p => bindE n fun ps _ S => .ok (p :: ps) S
theorem da_nil : DA X [] nilA := fun W tk => pa_nil.imp fun σ H Q q => by
  obtain ⟨loc, S, env, hS, hE, k⟩ := q
  exact k _ _ _ .refl hS .nil
theorem da_cons {e : Expr} {es : List Expr} {m : EM} {n : AM} (he : NoStar e) (h : DE X e m) (hs : DA X es n) : DA X (e :: es) (consA m n) := fun W tk =>
  (pa_cons (h W tk) (hs W tk) (he _ _)).imp fun σ H Q q => by
    refine tG.imp (fun x H1 k => ?_) (tGv.bind (tG.v q))
    obtain ⟨p, k⟩ := k
    refine tG.imp (fun xs H2 k2 => ?_) (tGv.bindA k)
    obtain ⟨ps, loc, S, env, hS, hE, rs, k3⟩ := k2
    refine k3 _ _ _ .refl hS ?_
    have h1 : ∀ {ps : List PV} {xs : List V} {qs : List PV} {ys : List V}, ps.length = xs.length → Reps X.K loc H2 (ps ++ qs) (xs ++ ys) → Reps X.K loc H2 ps xs ∧ Reps X.K loc H2 qs ys := by
      intro ps
      induction ps with
      | nil =>
        intro xs qs ys e r
        cases xs with
        | nil => exact ⟨.nil, r⟩
        | cons _ _ => cases e
      | cons p ps ih =>
        intro xs qs ys e r
        cases xs with
        | nil => cases e
        | cons x xs =>
          cases r with
          | cons r1 r2 =>
            obtain ⟨h1, h2⟩ := ih (Nat.succ.inj e) r2
            exact ⟨.cons r1 h1, h2⟩
    have hl : (ps ++ [p]).length = (xs ++ [x]).length := rs.length
    obtain ⟨g1, g2⟩ := h1 (by simpa using hl) rs
    cases g2 with
    | cons g2 _ => exact .cons g2 g1
def tupE (n : AM) : EM := bindE n fun ps _ S => if ps.length ≤ sizeLine then .ok (.tup ps) S else .bad
def lstE (n : AM) : EM := bindE n fun ps _ S => newL ps S
theorem de_tup {es : List Expr} {n : AM} {k : Nat} (h : DA X es n) : DE X (.Tuple es k pos) (tupE n) := fun W tk =>
  (pe_tupF (h W tk)).imp fun σ H Q q => by
    refine tG.imp (fun xs H1 k => ?_) (tGv.bindA (tG.v q))
    obtain ⟨ps, loc, S, env, hS, hE, rs, k3⟩ := k
    rw [List.append_nil, List.append_nil] at rs
    split at k3
    · exact ⟨by rw [← rs.length]; assumption, newT_post hS rs .refl k3⟩
    · exact k3.elim
theorem de_lst {es : List Expr} {n : AM} (h : DA X es n) : DE X (.List es pos) (lstE n) := fun W tk =>
  (pe_lst (h W tk)).imp fun σ H Q q => by
    refine tG.imp (fun xs H1 k => ?_) (tGv.bindA (tG.v q))
    obtain ⟨ps, loc, S, env, hS, hE, rs, k3⟩ := k
    rw [List.append_nil, List.append_nil] at rs
    exact newL_post hS rs .refl k3

/-! ### calls of built-ins -/
def NoStars (es : List Expr) : Prop := ∀ e ∈ es, NoStar e
theorem any_plain {env : Env} {pos : Pos} : ∀ {es : List Expr}, NoStars es → (backTo pos (starEach es env)).any (·.1) = false
  | [], _ => rfl
  | e :: es, h => by
    rw [h e List.mem_cons_self]
    show ((false : Bool) || (backTo pos (starEach es env)).any (·.1)) = false
    rw [any_plain fun x hx => h x (List.mem_cons_of_mem _ hx)]
    rfl
def callM (f : List PV → Hs → Res PV) (n : AM) : EM := bindE n fun ps _ S => f ps S
theorem de_callB {id : String} {x : Str} {p : Pos} {e : Expr} {es : List Expr} {n : AM} {f : List PV → Hs → Res PV} (hf : DCl X (.builtin id) f) (hg : Gl X x) (hm : X.mg x = none) (hv : bootBuiltins x = some (.builtin id)) (hs : NoStars (e :: es)) (ha : DA X (e :: es) n)
    (hn : x ≠ "__name__") (hdb : (x == ("__debug__" : Str)) = false) : DE X (.Call (.Name x p) (e :: es) [] pos) (callM f n) := fun W tk => by
  refine ⟨fun pins s σ H Q I h => ?_⟩
  refine wpAny_Call_Name_kw (ld_blt I hg hm hv ?_ hn hdb)
  refine PyProof.Rows.callWith_builtin1 (thn ((ha W tk).run pos pins s σ H _ I (tGv.bindA (tG.v h))) fun us s1 ⟨vs, H1, I1, r1, ps, h1⟩ => ?_) (hs e List.mem_cons_self _ _) (any_plain fun x hx => hs x (List.mem_cons_of_mem _ hx))
  obtain ⟨loc, S, env, hS, hE, rs, k⟩ := h1
  rw [List.append_nil, List.append_nil] at rs
  exact hf W tk pins s1 σ H1 vs us Q loc S ps I1 r1 hS rs k
theorem de_callTy {T : String} {x : Str} {p : Pos} {e : Expr} {es : List Expr} {n : AM} {f : List PV → Hs → Res PV} (hf : DCl X (.type T) f) (hg : Gl X x) (hm : X.mg x = none) (hv : bootBuiltins x = some (.type T)) (hs : NoStars (e :: es)) (ha : DA X (e :: es) n)
    (hn : x ≠ "__name__") (hdb : (x == ("__debug__" : Str)) = false) : DE X (.Call (.Name x p) (e :: es) [] pos) (callM f n) := fun W tk => by
  refine ⟨fun pins s σ H Q I h => ?_⟩
  refine wpAny_Call_Name_kw (ld_blt I hg hm hv ?_ hn hdb)
  refine PyProof.Rows.callWith_type1 (thn ((ha W tk).run pos pins s σ H _ I (tGv.bindA (tG.v h))) fun us s1 ⟨vs, H1, I1, r1, ps, h1⟩ => ?_) (hs e List.mem_cons_self _ _) (any_plain fun x hx => hs x (List.mem_cons_of_mem _ hx))
  obtain ⟨loc, S, env, hS, hE, rs, k⟩ := h1
  rw [List.append_nil, List.append_nil] at rs
  exact hf W tk pins s1 σ H1 vs us Q loc S ps I1 r1 hS rs k

/-! ### subscripts -/
def DIx (X : Cx) (f : PV → PV → Hs → Res PV) : Prop :=
  ∀ W, Takes X W → ∀ (σ : St) (H : Hp) (x y : V) (Q : VK) (loc : List Addr) (S : Hs) (p q : PV), StR X.K loc S H → Rep X.K loc H p x → Rep X.K loc H q y → Post X.K W σ Q loc H (f p q S) → rIx X.K x y H Q
def atP {α : Type} (xs : List α) (i : Int) : Option α := atI xs i
def ixP : PV → PV → Hs → Res PV
  | .tup xs, .int i, S => match atI xs i with
    | some p => .ok p S
    | none => .bad
  | .str z, .int i, S => match atI z.cps.toList i with
    | some c => if z.length ≤ sizeLine then .ok (.str ⟨#[c]⟩) S else .bad
    | none => .bad
  | p, .int i, S => match seqOf S p with
    | some xs => match atI xs i with
      | some q => .ok q S
      | none => .bad
    | none => .bad
  | _, _, _ => .bad
theorem Reps.at {K : PySem.W.Frag} {loc : List Addr} {H : Hp} {ps : List PV} {vs : List V} (r : Reps K loc H ps vs) {i : Int} {p : PV} (e : atI ps i = some p) : ∃ v, atI vs i = some v ∧ Rep K loc H p v := by
  unfold atI at e ⊢
  rw [← r.length]
  cases q : ixN ps.length i with
  | none => rw [q] at e; cases e
  | some j =>
    rw [q] at e
    obtain ⟨v, e1, e2⟩ := r.get (show ps[j]? = some p from e)
    exact ⟨v, e1, e2⟩
theorem d_ix : DIx X ixP := by
  intro W tk σ H x y Q loc S p q hS hp hq h
  unfold ixP at h
  split at h
  · split at h
    · rename_i e
      cases hq
      cases hp with
      | tup h1 h2 =>
        obtain ⟨v, e1, e2⟩ := h2.at e
        exact .inr (.inl ⟨_, _, _, _, rfl, rfl, h1.sq, e1, h _ _ _ .refl hS e2⟩)
    · exact h.elim
  · split at h
    · split at h
      · cases hp; cases hq
        exact .inr (.inr ⟨_, _, _, rfl, rfl, by assumption, by assumption, h _ _ _ .refl hS (.str _)⟩)
      · exact h.elim
    · exact h.elim
  · split at h
    · split at h
      · cases hq
        obtain ⟨a, vs, rfl, ha, ra⟩ := seq_rep hS (by assumption) hp
        obtain ⟨v, e1, e2⟩ := ra.at (by assumption)
        exact .inl ⟨_, _, _, _, rfl, rfl, ha, e1, h _ _ _ .refl hS e2⟩
      · exact h.elim
    · exact h.elim
  · exact h.elim
theorem de_ix (ha : DE X a ma) (hb : DE X b mb) (hs : PlainIx b) : DE X (.Subscript a b pos) (op2 ixP ma mb) := fun W tk =>
  (pe_ix ix_seq (ha W tk) (hb W tk) hs).imp fun σ H Q q => by
    refine tG.imp (fun x H1 k => ?_) (tGv.bind (tG.v q))
    obtain ⟨p, k⟩ := k
    refine tG.imp (fun y H2 k2 => ?_) (tGv.bind k)
    obtain ⟨q, loc, S, env, hS, hE, rs, k3⟩ := k2
    obtain ⟨rp, rq⟩ := two_known rs
    exact d_ix W tk σ H2 x y Q loc S p q hS rp rq k3
end
end D

/-! D5: dicts, subscripts, stores by subscript. -/
namespace D
open PySem PySem.Spec PyProof.Rows L2

section
variable {κ : Type} [DecidableEq κ]
def dval (kvs : List (κ × PV)) (k : κ) : Option PV := (kvs.find? fun kv => decide (kv.1 = k)).map (·.2)
def dput (kvs : List (κ × PV)) (k : κ) (p : PV) : List (κ × PV) :=
  if (kvs.any fun kv => decide (kv.1 = k)) = true then kvs.map (fun kv => if kv.1 = k then (kv.1, p) else kv) else kvs ++ [(k, p)]
def ddrop (kvs : List (κ × PV)) (k : κ) : List (κ × PV) := kvs.filter fun kv => decide (kv.1 ≠ k)
variable {K : PySem.W.Frag} {loc : List Addr} {H : Hp}
theorem TRep.val {kvs : List (κ × PV)} {qs : List (κ × V)} (r : TRep K loc H kvs qs) (k : κ) : match dval kvs k with
    | some p => ∃ v, valV qs k = some v ∧ Rep K loc H p v
    | none => valV qs k = none := by
  unfold TRep at r
  induction r with
  | nil => rfl
  | @cons p q ps qs h t ih =>
    by_cases e : p.1 = k
    · have e1 : dval (p :: ps) k = some p.2 := by simp [dval, List.find?_cons, e]
      rw [e1]
      exact ⟨q.2, valV_pos (by rw [← h.1]; exact e), h.2⟩
    · have e1 : dval (p :: ps) k = dval ps k := by simp [dval, List.find?_cons, e]
      rw [e1, valV_neg (by rw [← h.1]; exact e)]
      exact ih
theorem TRep.any {kvs : List (κ × PV)} {qs : List (κ × V)} (r : TRep K loc H kvs qs) (k : κ) : (kvs.any fun kv => decide (kv.1 = k)) = qs.any fun kv => decide (kv.1 = k) := by
  unfold TRep at r
  induction r with
  | nil => rfl
  | cons h t ih => simp only [List.any_cons, h.1, ih]
theorem TRep.repl {kvs : List (κ × PV)} {qs : List (κ × V)} (r : TRep K loc H kvs qs) (k : κ) {p : PV} {v : V} (rv : Rep K loc H p v) :
    TRep K loc H (kvs.map fun kv => if kv.1 = k then (kv.1, p) else kv) (qs.map fun kv => if kv.1 = k then (kv.1, v) else kv) := by
  unfold TRep at r ⊢
  induction r with
  | nil => exact .nil
  | @cons p' q ps qs h t ih =>
    refine .cons ?_ ih
    dsimp only
    by_cases e : p'.1 = k
    · rw [if_pos e, if_pos (show q.1 = k by rw [← h.1]; exact e)]; exact ⟨h.1, rv⟩
    · rw [if_neg e, if_neg (show ¬ q.1 = k by rw [← h.1]; exact e)]; exact h
theorem TRep.snoc {kvs : List (κ × PV)} {qs : List (κ × V)} (r : TRep K loc H kvs qs) (k : κ) {p : PV} {v : V} (rv : Rep K loc H p v) : TRep K loc H (kvs ++ [(k, p)]) (qs ++ [(k, v)]) := by
  unfold TRep at r ⊢
  induction r with
  | nil => exact .cons ⟨rfl, rv⟩ .nil
  | cons h t ih => exact .cons h ih
theorem TRep.put {kvs : List (κ × PV)} {qs : List (κ × V)} (r : TRep K loc H kvs qs) (k : κ) {p : PV} {v : V} (rv : Rep K loc H p v) : TRep K loc H (dput kvs k p) (putK qs k v) := by
  unfold dput putK
  rw [r.any k]
  split
  · exact r.repl k rv
  · exact r.snoc k rv
theorem TRep.drop {kvs : List (κ × PV)} {qs : List (κ × V)} (r : TRep K loc H kvs qs) (k : κ) : TRep K loc H (ddrop kvs k) (dropK qs k) := by
  unfold TRep at r ⊢
  unfold ddrop dropK
  induction r with
  | nil => exact .nil
  | @cons p q ps qs h t ih =>
    by_cases e : p.1 = k
    · rw [List.filter_cons_of_neg (by simp [e]), List.filter_cons_of_neg (by simp [← h.1, e])]; exact ih
    · rw [List.filter_cons_of_pos (by simp [e]), List.filter_cons_of_pos (by simp [← h.1, e])]; exact .cons h ih
end
theorem dput_length {κ : Type} [DecidableEq κ] (kvs : List (κ × PV)) (k : κ) (p : PV) : (dput kvs k p).length ≤ kvs.length + 1 := by
  unfold dput
  split
  · simp
  · simp

def keyP : PV → Option Key
  | .int i => some (.inl i)
  | .str x => some (.inr x)
  | _ => none
theorem keyP_rep {K : PySem.W.Frag} {loc : List Addr} {H : Hp} {p : PV} {x : V} {k : Key} (e : keyP p = some k) (r : Rep K loc H p x) : x = kV k := by
  cases r <;> first | (cases e; rfl) | cases e
def dctAt (S : Hs) (i : Nat) : Option (List (Key × PV)) := match S[i]? with
  | some (.dct kvs) => some kvs
  | _ => none
theorem dctAt_eq {S : Hs} {i : Nat} {kvs : List (Key × PV)} (h : dctAt S i = some kvs) : S[i]? = some (.dct kvs) := by
  unfold dctAt at h
  split at h
  · cases h; assumption
  · cases h
@[simp] theorem dctAt_of {S : Hs} {i : Nat} {kvs : List (Key × PV)} (h : S[i]? = some (.dct kvs)) : dctAt S i = some kvs := by unfold dctAt; rw [h]
theorem dct_rep {K : PySem.W.Frag} {loc : List Addr} {S : Hs} {H : Hp} {i : Nat} {kvs : List (Key × PV)} {x : V} (hS : StR K loc S H) (e : dctAt S i = some kvs) (r : Rep K loc H (.ref i) x) :
    ∃ a qs, x = .ref a ∧ loc[i]? = some a ∧ H a = some (.dK qs) ∧ TRep K loc H kvs qs := by
  cases r with
  | ref q =>
    obtain ⟨vs, e1, r1⟩ := hS.obj _ _ _ (dctAt_eq e) q
    exact ⟨_, vs, rfl, q, e1, r1⟩

/-! ### a[b] -/
def getP : PV → PV → Hs → Res PV
  | .ref i, q, S => match dctAt S i with
    | some kvs => match keyP q with
      | some k => match dval kvs k with
        | some p => .ok p S
        | none => .bad
      | none => .bad
    | none => ixP (.ref i) q S
  | p, q, S => ixP p q S
section
variable {X : Cx} {a b : Expr} {ma mb : EM} {pos : Pos}
theorem de_get {k : Nat} (hr : Room k X.A) (ha : DE X a ma) (hb : DE X b mb) (hs : PlainIx b) : DE X (.Subscript a b pos) (op2 getP ma mb) := fun W tk => by
  refine ⟨fun pins s σ H Q I h => ?_⟩
  refine Subscript_ (thn ((ha W tk).run pins s σ H _ I (tGv.bind (tG.v h))) fun v s1 ⟨x, H1, I1, r1, p, h1⟩ => thn ((hb W tk).run pins s1 σ H1 _ I1 (tGv.bind h1)) fun u s2 ⟨y, H2, I2, r2, q, h2⟩ => ?_)
  obtain ⟨loc, S, env, hS, hE, rs, k3⟩ := h2
  obtain ⟨rp, rq⟩ := two_known rs
  have k2 : Post X.K W σ Q loc H2 (getP p q S) := k3
  have seq : Post X.K W σ Q loc H2 (ixP p q S) → wpAny (model X.prog X.w) X.A (subscriptTail a b v u) (EP X pins σ Q) X.xe s2 := fun h =>
    ix_seq a b pins s2 σ H2 x y v u Q I2 r1 r2 (d_ix W tk σ H2 x y Q loc S p q hS rp rq h) (hs _ _)
  unfold getP at k2
  split at k2
  · split at k2
    · split at k2
      · split at k2
        · rename_i e1 _ kk e2 _ pv e3
          obtain ⟨aa, qs, rfl, _, hd, rt⟩ := dct_rep hS e1 rp
          have ek := keyP_rep e2 rq
          subst ek
          have q1 := rt.val kk
          rw [e3] at q1
          obtain ⟨z, ez, rz⟩ := q1
          cases r1
          have g : DGet H2 aa (kV kk) (some z) := by rw [← ez]; exact DGet.k hd
          exact tail_any (dict_typeIs I2 g) PySem.F.slot_dict_getitem.lookup (d_getItem (hu_of hr) I2 g r2 fun w' s3 I3 rw' => ⟨z, H2, I3, rw', k2 _ _ _ .refl hS rz⟩) (hs _ _)
        · exact k2.elim
      · exact k2.elim
    · exact seq k2
  · exact seq k2
end

/-! ### a[b] = c -/
def setP : PV → PV → PV → Hs → Res Unit
  | .ref i, q, v, S => match S[i]? with
    | some (.lst xs) => match q with
      | .int k => match ixN xs.length k with
        | some j => .ok () (S.set i (.lst (xs.set j v)))
        | none => .bad
      | _ => .bad
    | some (.dct kvs) => match keyP q with
      | some k => if kvs.length < sizeLine then .ok () (S.set i (.dct (dput kvs k v))) else .bad
      | none => .bad
    | _ => .bad
  | _, _, _, _ => .bad
def PostU (K : PySem.W.Frag) (Q : Hp → Prop) (loc : List Addr) (H : Hp) : Res Unit → Prop
  | .ok _ S => ∀ loc' H', Grow K loc H loc' H' → StR K loc' S H' → Q H'
  | _ => False
section
variable {X : Cx}
theorem d_set {k : Nat} (hr : Room k X.A) {pins : List (Addr × Obj)} {s : Shared} {σ : St} {H : Hp} {o i v : V} {ov iv u : Value} {Q : Hp → Prop} {loc : List Addr} {S : Hs} {po pi pv : PV} (I : Inv X pins σ H s) (ro : RelV o ov) (ri : RelV i iv) (rv : RelV v u)
    (hS : StR X.K loc S H) (ho : Rep X.K loc H po o) (hi : Rep X.K loc H pi i) (hv : Rep X.K loc H pv v) (h : PostU X.K Q loc H (setP po pi pv S)) : wpAny (model X.prog X.w) X.A (setItem ov iv u) (fun _ s' => ∃ H', Inv X pins σ H' s' ∧ Q H') X.xe s := by
  unfold setP at h
  split at h
  · rename_i ii q vv SS
    cases ho with
    | @ref _ aa eq =>
      split at h
      · rename_i xs e1
        split at h
        · split at h
          · rename_i j e2
            obtain ⟨vs, e3, rs⟩ := hS.obj _ _ _ e1 eq
            cases hi
            have g := hS.grow_put (u := .lst (vs.set j v)) eq
            refine set_list pins s σ H _ _ v ov iv u Q I ro ri rv ⟨aa, vs, _, j, rfl, rfl, e3, by rw [← rs.length]; exact e2, ?_⟩
            exact h loc _ g (hS.put eq ⟨_, upd_same, (rs.set j hv).up g⟩)
          · exact h.elim
        · exact h.elim
      · rename_i kvs e1
        split at h
        · rename_i kk e2
          split at h
          · rename_i hz
            obtain ⟨qs, e3, rs⟩ := hS.obj _ _ _ e1 eq
            have ek := keyP_rep e2 hi
            subst ek
            cases ro
            have g := hS.grow_put (u := .dK (putK qs kk v)) eq
            refine d_setItem (hu_of hr) I (DPut.k e3 (by rw [← Paired.length rs]; exact hz)) ri rv fun s4 I4 => ⟨_, I4, ?_⟩
            exact h loc _ g (hS.put eq ⟨_, upd_same, (rs.put kk hv).up g⟩)
          · exact h.elim
        · exact h.elim
      · exact h.elim
  · exact h.elim
end

/-! ### {k: v, ..} -/
/-- pairs of values -/
abbrev PM := Sl → Hs → Res (List (PV × PV))
def nilP : PM := fun _ S => .ok [] S
def consP (mk mv : EM) (r : PM) : PM := bindE mk fun p => bindE mv fun q => bindE r fun ps _ S => .ok ((p, q) :: ps) S
def RP (K : PySem.W.Frag) (l : List Addr) (h : Hp) (ps : List (PV × PV)) (xs : List (V × V)) : Prop := Paired (fun (p : PV × PV) (x : V × V) => Rep K l h p.1 x.1 ∧ Rep K l h p.2 x.2) ps xs
def DP (X : Cx) (pos : Pos) (keys : List (Option Expr)) (values : List Expr) (m : PM) : Prop := ∀ W, Takes X W → ∃ trs, PPs X pos keys values trs ∧ ∀ σ H Q, tG X.K W (RP X.K) m σ H Q → tPairs trs σ H Q
def keysP : List (PV × PV) → Option (List (Key × PV))
  | [] => some []
  | (k, v) :: r => match keyP k, keysP r with
    | some kk, some rr => some ((kk, v) :: rr)
    | _, _ => none
def dmerge (kvs more : List (Key × PV)) : List (Key × PV) := more.foldl (fun acc kv => dput acc kv.1 kv.2) kvs
def dispE (m : PM) : EM := bindE m fun ps _ S => match keysP ps with
  | some kvs => if kvs.length ≤ 15 then .ok (.ref S.length) (S ++ [.dct (dmerge [] kvs)]) else .bad
  | none => .bad
theorem keysP_rep {K : PySem.W.Frag} {loc : List Addr} {H : Hp} : ∀ {ps : List (PV × PV)} {xs : List (V × V)} {kvs : List (Key × PV)}, keysP ps = some kvs → RP K loc H ps xs → ∃ qs, xs = qs.map (fun kv => (kV kv.1, kv.2)) ∧ TRep K loc H kvs qs
  | [], _, _, e, r => by
    cases e; cases r
    exact ⟨[], rfl, .nil⟩
  | (k, v) :: ps, _, _, e, r => by
    unfold keysP at e
    cases r with
    | @cons _ x _ xs h t =>
      split at e
      · rename_i kk rr e1 e2
        cases e
        obtain ⟨qs, e3, r3⟩ := keysP_rep e2 t
        have ek := keyP_rep e1 h.1
        refine ⟨(kk, x.2) :: qs, ?_, .cons ⟨rfl, h.2⟩ r3⟩
        rw [List.map_cons, ← e3, ← ek]
      · cases e
theorem TRep.merge {K : PySem.W.Frag} {loc : List Addr} {H : Hp} {more : List (Key × PV)} {ms : List (Key × V)} (r : TRep K loc H more ms) : ∀ {kvs : List (Key × PV)} {qs : List (Key × V)}, TRep K loc H kvs qs → TRep K loc H (dmerge kvs more) (mergeK qs ms) := by
  unfold TRep at r
  induction r with
  | nil => exact fun q => q
  | @cons p q ps qs h t ih =>
    intro kvs qs' r2
    have e : mergeK qs' (q :: qs) = mergeK (putK qs' q.1 q.2) qs := rfl
    have e2 : dmerge kvs (p :: ps) = dmerge (dput kvs p.1 p.2) ps := rfl
    rw [e, e2, ← h.1]
    exact ih (r2.put p.1 h.2)
section
variable {X : Cx} {pos : Pos}
theorem dp_nil : DP X pos [] [] nilP := fun W tk => ⟨[], pps_nil, fun σ H Q q => by
  obtain ⟨loc, S, env, hS, hE, k⟩ := q
  exact k _ _ _ .refl hS .nil⟩
theorem dp_cons {k v : Expr} {ks : List (Option Expr)} {vs : List Expr} {mk mv : EM} {r : PM} (hk : DE X k mk) (hv : DE X v mv) (hr : DP X pos ks vs r) : DP X pos (some k :: ks) (v :: vs) (consP mk mv r) := fun W tk => by
  obtain ⟨trs, h1, h2⟩ := hr W tk
  refine ⟨_, pps_cons (hk W tk) (hv W tk) h1, fun σ H Q q => ?_⟩
  refine tG.imp (fun x H1 k => ?_) (tGv.bind (tG.v q))
  obtain ⟨p, k⟩ := k
  refine tG.imp (fun y H2 k2 => ?_) (tGv.bind k)
  obtain ⟨pq, loc, S, env, hS, hE, rs, k3⟩ := k2
  obtain ⟨rp, rq⟩ := two_known rs
  refine h2 σ H2 _ ⟨loc, S, env, hS, hE, ?_⟩
  have k4 : PostR X.K W (RP X.K) σ Q loc H2 ((r env S).bind fun ps S' => .ok ((p, pq) :: ps) S') := k3
  cases e : r env S with
  | bad => rw [e] at k4; exact k4
  | exc c fs S1 => rw [e] at k4; exact k4
  | ok ps S1 =>
    rw [e] at k4
    intro l3 H3 xs g3 s3 r3
    exact k4 l3 H3 _ g3 s3 (.cons ⟨Rep.up g3 _ _ rp, Rep.up g3 _ _ rq⟩ r3)
theorem de_disp {keys : List (Option Expr)} {values : List Expr} {m : PM} (h : DP X pos keys values m) (hall : keys.all (·.isSome) = true) (hl : keys.length = values.length) (h0 : keys ≠ []) (h15 : keys.length ≤ 15) : DE X (.Dict keys values pos) (dispE m) := fun W tk => by
  obtain ⟨trs, h1, h2⟩ := h W tk
  refine (pe_disp h1 hall hl h0 h15).imp fun σ H Q q => ?_
  intro p np
  obtain ⟨loc, S, env, hS, hE, k⟩ := q
  have nl : p ∉ loc := fun hm => by
    obtain ⟨i, hi⟩ := List.getElem?_of_mem hm
    obtain ⟨_, v, _, e3, _⟩ := hS.live hi
    exact ne_of_none e3 np rfl
  have g1 : Grow X.K loc H loc (upd H p (.dK [])) := grow_new np fun _ _ z => z
  refine h2 σ _ _ ⟨loc, S, env, hS.lay np, hE.up g1, ?_⟩
  unfold dispE bindE at k
  cases e : m env S with
  | bad => rw [e] at k; exact k
  | exc c fs S1 =>
    rw [e] at k
    intro l3 H3 d g3 s3 r3
    exact k l3 H3 d (g1.trans g3) s3 r3
  | ok ps S1 =>
    rw [e, Res.bind_ok] at k
    dsimp only at k
    intro l3 H3 xs g3 s3 r3
    have hp3 : H3 p = some (.dK []) := g3.fra p _ upd_same nl
    have nl3 : p ∉ l3 := g3.out (upd_same : upd H p (.dK []) p = some (.dK [])) nl
    split at k
    · rename_i kvs ek
      split at k
      · rename_i hz
        obtain ⟨qs, ex, rt⟩ := keysP_rep ek r3
        refine ⟨hp3, qs, ex, by rw [← Paired.length rt]; exact hz, ?_⟩
        have g4 := Grow.adopt (u := .dK (mergeK [] qs)) np nl g3 hp3 trivial
        have up : Up X.K l3 H3 (l3 ++ [p]) (upd H3 p (.dK (mergeK [] qs))) := up_write (by rw [hp3]; trivial) fun i a e => by rw [List.getElem?_append_left (List.getElem?_eq_some_iff.mp e).1]; exact e
        exact k _ _ _ g4 (s3.adopt hp3 trivial nl3 ⟨_, upd_same, (rt.merge .nil).upU up⟩) (.ref (s3.last p))
      · exact k.elim
    · exact k.elim
end
end D

/-! D6: statements, targets, what is walked, for, while. -/
namespace D
open PySem PySem.Spec PyProof.Rows L2

inductive SR where
  | nx (env : Sl) (S : Hs)
  | rt (p : PV) (S : Hs)
  | bk (env : Sl) (S : Hs)
  | ct (env : Sl) (S : Hs)
  | exc (c : EC) (fs : List (Str × PV)) (env : Sl) (S : Hs)
  | bad
abbrev SM := Sl → Hs → SR
def PostS (K : PySem.W.Frag) (W : WX) (D : Ends) (loc : List Addr) (H : Hp) : SR → Prop
  | .nx env S => ∀ loc' H' σ', Grow K loc H loc' H' → StR K loc' S H' → SlR K loc' H' env σ' → D.nx σ' H'
  | .rt p S => ∀ loc' H' x, Grow K loc H loc' H' → StR K loc' S H' → Rep K loc' H' p x → D.rt x H'
  | .bk env S => ∀ loc' H' σ', Grow K loc H loc' H' → StR K loc' S H' → SlR K loc' H' env σ' → D.bk σ' H'
  | .ct env S => ∀ loc' H' σ', Grow K loc H loc' H' → StR K loc' S H' → SlR K loc' H' env σ' → D.ct σ' H'
  | .exc c fs env S => ∀ loc' H' σ' d, Grow K loc H loc' H' → StR K loc' S H' → SlR K loc' H' env σ' → XR K loc' H' fs d → W (ecV K c) d σ' H'
  | .bad => False
theorem PostS.up {K : PySem.W.Frag} {W : WX} {D : Ends} {loc loc' : List Addr} {H H' : Hp} {r : SR} (g : Grow K loc H loc' H') (h : PostS K W D loc H r) : PostS K W D loc' H' r := by
  cases r with
  | nx env S => exact fun l2 h2 x g2 => h l2 h2 x (g.trans g2)
  | rt p S => exact fun l2 h2 x g2 => h l2 h2 x (g.trans g2)
  | bk env S => exact fun l2 h2 x g2 => h l2 h2 x (g.trans g2)
  | ct env S => exact fun l2 h2 x g2 => h l2 h2 x (g.trans g2)
  | exc c fs env S => exact fun l2 h2 x d g2 => h l2 h2 x d (g.trans g2)
  | bad => exact h
def tS (K : PySem.W.Frag) (W : WX) (m : SM) : TS := fun D σ H => ∃ loc S env, StR K loc S H ∧ SlR K loc H env σ ∧ PostS K W D loc H (m env S)
def DS (X : Cx) (st : Stmt) (m : SM) : Prop := ∀ W, Takes X W → PS X st (tS X.K W m)
def DSs (X : Cx) (st : List Stmt) (m : SM) : Prop := ∀ W, Takes X W → PSs X st (tS X.K W m)
theorem _root_.L2.PS.imp {X : Cx} {e : Stmt} {t t' : TS} (h : PS X e t) (f : ∀ D σ H, t' D σ H → t D σ H) : PS X e t' := ⟨fun pins s σ H D I q => h.run pins s σ H D I (f D σ H q)⟩
theorem _root_.L2.PSs.imp {X : Cx} {e : List Stmt} {t t' : TS} (h : PSs X e t) (f : ∀ D σ H, t' D σ H → t D σ H) : PSs X e t' := ⟨fun pins s σ H D I q => h.run pins s σ H D I (f D σ H q)⟩

def liftS {α : Type} (m : Sl → Hs → Res α) (k : α → Sl → Hs → SR) : SM := fun env S => match m env S with
  | .ok a S' => k a env S'
  | .exc c fs S' => .exc c fs env S'
  | .bad => .bad
section
variable {K : PySem.W.Frag} {W : WX} {D : Ends} {σ : St} {H : Hp}
/-- an expression, then the rest -/
theorem tS.lift {m : EM} {k : PV → Sl → Hs → SR} (h : tS K W (liftS m k) D σ H) : tM K W m σ H fun x H1 => ∃ loc S env p, StR K loc S H1 ∧ SlR K loc H1 env σ ∧ Rep K loc H1 p x ∧ PostS K W D loc H1 (k p env S) := by
  obtain ⟨loc, S, env, hS, hE, q⟩ := h
  refine ⟨loc, S, env, hS, hE, ?_⟩
  unfold liftS at q
  cases e : m env S with
  | bad => rw [e] at q; exact q
  | exc c fs S1 => rw [e] at q; exact fun l2 h2 d g2 s2 r2 => q l2 h2 σ d g2 s2 (hE.up g2) r2
  | ok p S1 => rw [e] at q; exact fun l2 h2 x g2 s2 r2 => ⟨l2, S1, env, p, s2, hE.up g2, r2, PostS.up g2 q⟩
theorem tS.liftB {m : TM} {k : Bool → Sl → Hs → SR} (h : tS K W (liftS m k) D σ H) : tB K W m σ H fun b H1 => tS K W (k b) D σ H1 := by
  obtain ⟨loc, S, env, hS, hE, q⟩ := h
  refine ⟨loc, S, env, hS, hE, ?_⟩
  unfold liftS at q
  cases e : m env S with
  | bad => rw [e] at q; exact q
  | exc c fs S1 => rw [e] at q; exact fun l2 h2 d g2 s2 r2 => q l2 h2 σ d g2 s2 (hE.up g2) r2
  | ok p S1 =>
    rw [e] at q
    intro l2 h2 x g2 s2 r2
    subst r2
    exact ⟨l2, S1, env, s2, hE.up g2, PostS.up g2 q⟩
theorem tS.liftA {m : AM} {k : List PV → Sl → Hs → SR} (h : tS K W (liftS m k) D σ H) : tA K W m σ H fun xs H1 => ∃ loc S env ps, StR K loc S H1 ∧ SlR K loc H1 env σ ∧ Reps K loc H1 ps xs ∧ PostS K W D loc H1 (k ps env S) := by
  obtain ⟨loc, S, env, hS, hE, q⟩ := h
  refine ⟨loc, S, env, hS, hE, ?_⟩
  unfold liftS at q
  cases e : m env S with
  | bad => rw [e] at q; exact q
  | exc c fs S1 => rw [e] at q; exact fun l2 h2 d g2 s2 r2 => q l2 h2 σ d g2 s2 (hE.up g2) r2
  | ok p S1 => rw [e] at q; exact fun l2 h2 x g2 s2 r2 => ⟨l2, S1, env, p, s2, hE.up g2, r2, PostS.up g2 q⟩
end

/-! ### blocks and plain statements -/
def nxS : SM := fun env S => .nx env S
def seqS (m n : SM) : SM := fun env S => match m env S with
  | .nx env' S' => n env' S'
  | r => r
def exprS (m : EM) : SM := liftS m fun _ env S => .nx env S
def retS (m : EM) : SM := liftS m fun p _ S => .rt p S
def retN : SM := fun _ S => .rt .non S
def ifS (t : TM) (m n : SM) : SM := liftS t fun b => if b = true then m else n
section
variable {X : Cx} {st : Stmt} {rest : List Stmt} {m n : SM} {e c : Expr} {me : EM} {t : TM} {pos : Pos}
theorem dss_nil : DSs X [] nxS := fun W tk => pss_nil.imp fun D σ H q => by
  obtain ⟨loc, S, env, hS, hE, k⟩ := q
  exact k _ _ _ .refl hS hE
theorem dss_cons (h : DS X st m) (hr : DSs X rest n) : DSs X (st :: rest) (seqS m n) := fun W tk => (pss_cons (h W tk) (hr W tk)).imp fun D σ H q => by
  obtain ⟨loc, S, env, hS, hE, k⟩ := q
  refine ⟨loc, S, env, hS, hE, ?_⟩
  unfold seqS at k
  cases e : m env S with
  | nx env' S' => rw [e] at k; exact fun l2 h2 σ2 g2 s2 r2 => ⟨l2, S', env', s2, r2, PostS.up g2 k⟩
  | rt p S' => rw [e] at k; exact k
  | bk _ _ => rw [e] at k; exact k
  | ct _ _ => rw [e] at k; exact k
  | exc _ _ _ _ => rw [e] at k; exact k
  | bad => rw [e] at k; exact k
theorem dss_one (h : DS X st m) : DSs X [st] m := fun W tk => pss_one (h W tk)
theorem ds_pass : DS X (.Pass pos) nxS := fun W tk => ps_pass.imp fun D σ H q => by
  obtain ⟨loc, S, env, hS, hE, k⟩ := q
  exact k _ _ _ .refl hS hE
theorem ds_break : DS X (.Break pos) (fun env S => .bk env S) := fun W tk => ps_break.imp fun D σ H q => by
  obtain ⟨loc, S, env, hS, hE, k⟩ := q
  exact k _ _ _ .refl hS hE
theorem ds_continue : DS X (.Continue pos) (fun env S => .ct env S) := fun W tk => ps_continue.imp fun D σ H q => by
  obtain ⟨loc, S, env, hS, hE, k⟩ := q
  exact k _ _ _ .refl hS hE
theorem ds_expr (h : DE X e me) (hs : swapsWith e none pos.line X.env = pure false) : DS X (.Expr e pos) (exprS me) := fun W tk => (ps_expr (h W tk) hs).imp fun D σ H q => by
  refine tG.imp (fun x H1 k => ?_) (tS.lift q)
  obtain ⟨loc, S, env, p, hS, hE, r, k⟩ := k
  exact k _ _ _ .refl hS hE
theorem ds_ret (h : DE X e me) : DS X (.Return (some e) pos) (retS me) := fun W tk => (ps_ret (h W tk)).imp fun D σ H q => by
  refine tG.imp (fun x H1 k => ?_) (tS.lift q)
  obtain ⟨loc, S, env, p, hS, hE, r, k⟩ := k
  exact k _ _ _ .refl hS r
theorem ds_retN : DS X (.Return none pos) retN := fun W tk => ps_retN.imp fun D σ H q => by
  obtain ⟨loc, S, env, hS, hE, k⟩ := q
  exact k _ _ _ .refl hS .non
theorem ds_if {a b : List Stmt} (hc : DT X c t) (ha : DSs X a m) (hb : DSs X b n) : DS X (.If c a b pos) (ifS t m n) := fun W tk => (ps_if (hc W tk) (ha W tk) (hb W tk)).imp fun D σ H q => by
  refine tG.imp (fun x H1 k => ?_) (tS.liftB q)
  cases x with
  | true => exact k
  | false => exact k
end

/-! ### targets -/
abbrev GM := PV → Sl → Hs → Res Sl
/-- the slots ts alone are written -/
def Tch (ts : List Nat) (σ σ' : St) : Prop := σ'.length = σ.length ∧ ∀ i, i ∉ ts → σ'[i]? = σ[i]?
theorem Tch.refl {ts : List Nat} {σ : St} : Tch ts σ σ := ⟨rfl, fun _ _ => rfl⟩
theorem Tch.trans {ts us : List Nat} {σ σ1 σ2 : St} (h : Tch ts σ σ1) (k : Tch us σ1 σ2) : Tch (ts ++ us) σ σ2 :=
  ⟨k.1.trans h.1, fun i hi => (k.2 i fun z => hi (List.mem_append_right _ z)).trans (h.2 i fun z => hi (List.mem_append_left _ z))⟩
def tGt (K : PySem.W.Frag) (t : GM) (ts : List Nat) : TG := fun v σ H Q => ∃ loc S env p, StR K loc S H ∧ SlR K loc H env σ ∧ Rep K loc H p v ∧ match t p env S with
  | .ok env' S' => ∀ loc' H' σ', Grow K loc H loc' H' → StR K loc' S' H' → SlR K loc' H' env' σ' → Tch ts σ σ' → Q σ' H'
  | _ => False
def DG (X : Cx) (tg : Expr) (t : GM) (ts : List Nat) : Prop := PG X tg (tGt X.K t ts)
theorem _root_.L2.PG.imp {X : Cx} {tg : Expr} {t t' : TG} (h : PG X tg t) (f : ∀ v σ H Q, t' v σ H Q → t v σ H Q) : PG X tg t' := ⟨fun pins s σ H v u Q I r q => h.run pins s σ H v u Q I r (f v σ H Q q)⟩
def setG (i : Nat) : GM := fun p env S => .ok (env.set i (some p)) S
section
variable {X : Cx} {pos : Pos}
theorem dg_name {i : Nat} {x : Str} (hN : X.N.Nodup) (hi : X.N[i]? = some x) (hx : Loc X.env.scope x) (hf : X.fn x = true ∨ X.env.scope.names.lookup x = some .local) : DG X (.Name x pos) (setG i) [i] :=
  (pg_name hN hi hx hf).imp fun v σ H Q q => by
    obtain ⟨loc, S, env, p, hS, hE, r, k⟩ := q
    exact k _ _ _ .refl hS (hE.set i r) ⟨by simp, fun j hj => List.getElem?_set_ne fun z => hj (by simp [z])⟩
/-- several, one after the other -/
abbrev GsM := List PV → Sl → Hs → Res Sl
def tGts (K : PySem.W.Frag) (t : GsM) (ts : List Nat) : TGs := fun vs σ H Q => ∃ loc S env ps, StR K loc S H ∧ SlR K loc H env σ ∧ Reps K loc H ps vs ∧ match t ps env S with
  | .ok env' S' => ∀ loc' H' σ', Grow K loc H loc' H' → StR K loc' S' H' → SlR K loc' H' env' σ' → Tch ts σ σ' → Q σ' H'
  | _ => False
def DGs (X : Cx) (es : List Expr) (t : GsM) (ts : List Nat) : Prop := PGs X es (tGts X.K t ts)
theorem _root_.L2.PGs.imp {X : Cx} {tg : List Expr} {t t' : TGs} (h : PGs X tg t) (f : ∀ v σ H Q, t' v σ H Q → t v σ H Q) : PGs X tg t' := ⟨fun pins s σ H v u Q I r q => h.run pins s σ H v u Q I r (f v σ H Q q)⟩
def nilG : GsM := fun ps env S => match ps with
  | [] => .ok env S
  | _ => .bad
def consG (t : GM) (u : GsM) : GsM := fun ps env S => match ps with
  | p :: r => (t p env S).bind fun env' S' => u r env' S'
  | _ => .bad
theorem dgs_nil : DGs X [] nilG [] := pgs_nil.imp fun vs σ H Q q => by
  obtain ⟨loc, S, env, ps, hS, hE, r, k⟩ := q
  unfold nilG at k
  split at k
  · rename_i env' S' e
    split at e
    · cases e; cases r
      exact ⟨rfl, k _ _ _ .refl hS hE .refl⟩
    · cases e
  · exact k.elim
theorem dgs_cons {e : Expr} {es : List Expr} {t : GM} {u : GsM} {ts us : List Nat} (h : DG X e t ts) (hs : DGs X es u us) (hst : (assignEach (e :: es) X.env).map (·.2) = assign e X.env :: (assignEach es X.env).map (·.2)) : DGs X (e :: es) (consG t u) (ts ++ us) :=
  (pgs_cons h hs hst).imp fun vs σ H Q q => by
    obtain ⟨loc, S, env, ps, hS, hE, r, k⟩ := q
    cases r with
    | nil => exact k.elim
    | @cons p ps v vs r1 r2 =>
      refine ⟨v, vs, rfl, loc, S, env, p, hS, hE, r1, ?_⟩
      have k2 : match (t p env S).bind fun env' S' => u ps env' S' with
        | .ok env' S' => ∀ loc' H' σ', Grow X.K loc H loc' H' → StR X.K loc' S' H' → SlR X.K loc' H' env' σ' → Tch (ts ++ us) σ σ' → Q σ' H'
        | _ => False := k
      cases e1 : t p env S with
      | bad => rw [e1] at k2; exact k2.elim
      | exc _ _ _ => rw [e1] at k2; exact k2.elim
      | ok env1 S1 =>
        rw [e1] at k2
        intro l2 h2 σ2 g2 s2 e2 t2
        refine ⟨l2, S1, env1, ps, s2, e2, r2.up g2, ?_⟩
        have k3 : match u ps env1 S1 with
          | .ok env' S' => ∀ loc' H' σ', Grow X.K loc H loc' H' → StR X.K loc' S' H' → SlR X.K loc' H' env' σ' → Tch (ts ++ us) σ σ' → Q σ' H'
          | _ => False := k2
        cases e3 : u ps env1 S1 with
        | bad => rw [e3] at k3; exact k3.elim
        | exc _ _ _ => rw [e3] at k3; exact k3.elim
        | ok env2 S2 =>
          rw [e3] at k3
          exact fun l4 h4 σ4 g4 s4 r4 t4 => k3 l4 h4 σ4 (g2.trans g4) s4 r4 (t2.trans t4)
def tupG (n : Nat) (u : GsM) : GM := fun p env S => match p with
  | .tup ps => if ps.length = n then u ps env S else .bad
  | .tpx ps => if ps.length = n then u ps env S else .bad
  | .ref r => match lstAt S r with
    | some ps => if ps.length = n then u ps env S else .bad
    | none => .bad
  | _ => .bad
theorem _root_.L2.PG.or {X : Cx} {tg : Expr} {t t' : TG} (h : PG X tg t) (h' : PG X tg t') : PG X tg (fun v σ H Q => t v σ H Q ∨ t' v σ H Q) :=
  ⟨fun pins s σ H v u Q I r q => q.elim (h.run pins s σ H v u Q I r) (h'.run pins s σ H v u Q I r)⟩
theorem dg_tup {es : List Expr} {k : Nat} {u : GsM} {n : Nat} {ts : List Nat} (hc : X.calm = true) (h : DGs X es u ts) (hn : (assignEach es X.env).length = n) (hst : (assignEach es X.env).findIdx? (·.1) = none) : DG X (.Tuple es k pos) (tupG n u) ts :=
  ((pg_tup hc h hn hst).or (pg_lst hc h hn hst)).imp fun v σ H Q q => by
    obtain ⟨loc, S, env, p, hS, hE, r, k⟩ := q
    unfold tupG at k
    cases p with
    | tup ps =>
      cases r with
      | @tup a _ vs h1 h2 =>
        dsimp only at k
        by_cases hz : ps.length = n
        · rw [if_pos hz] at k
          exact .inl ⟨a, vs, rfl, h1.sq, by rw [← h2.length]; exact hz, loc, S, env, ps, hS, hE, h2, k⟩
        · rw [if_neg hz] at k
          exact k.elim
    | tpx ps =>
      cases r with
      | @tpx a _ vs h1 h2 =>
        dsimp only at k
        by_cases hz : ps.length = n
        · rw [if_pos hz] at k
          exact .inl ⟨a, vs, rfl, h1, by rw [← h2.length]; exact hz, loc, S, env, ps, hS, hE, h2, k⟩
        · rw [if_neg hz] at k
          exact k.elim
    | ref i =>
      dsimp only at k
      cases e1 : lstAt S i with
      | none => rw [e1] at k; exact k.elim
      | some ps =>
        rw [e1] at k
        obtain ⟨a, vs, rfl, _, ha, ra⟩ := lst_rep hS e1 r
        dsimp only at k
        by_cases hz : ps.length = n
        · rw [if_pos hz] at k
          exact .inr ⟨a, vs, rfl, SqL.of ha, by rw [← ra.length]; exact hz, loc, S, env, ps, hS, hE, ra, k⟩
        · rw [if_neg hz] at k
          exact k.elim
    | _ => exact k.elim
/-- o[i] as a target -/
def subG (mo mi : EM) : GM := fun p env S => (mo env S).bind fun o S1 => (mi env S1).bind fun i S2 => (setP o i p S2).bind fun _ S3 => .ok env S3
theorem dg_sub {k : Nat} {o i : Expr} {mo mi : EM} (hr : Room k X.A) (ho : DE X o mo) (hi : DE X i mi)
    (ha : ∀ v, assign (.Subscript o i pos) X.env v = (do
      let ov ← holding [v] (eval o X.env)
      let iv ← holding [v, ov] (eval i X.env)
      standAt pos
      holding [v, ov, iv] (setItem ov iv v)
      release [v, ov, iv] [])) : DG X (.Subscript o i pos) (subG mo mi) [] := by
  refine ⟨fun pins s σ H v u Q I r h => ?_⟩
  obtain ⟨loc, S, env, p, hS, hE, rp, q⟩ := h
  have tk : Takes X (fun _ _ _ _ => False) := fun u s' ⟨_, _, _, _, _, _, _, _, _, _, _, _, _, _, _, _, z⟩ => z.elim
  rw [ha]
  unfold subG at q
  have q1 : tM X.K (fun _ _ _ _ => False) mo σ H fun x H1 => ∃ loc1 S1 o, Grow X.K loc H loc1 H1 ∧ StR X.K loc1 S1 H1 ∧ Rep X.K loc1 H1 o x ∧ match (mi env S1).bind fun i S2 => (setP o i p S2).bind fun _ S3 => .ok env S3 with
      | .ok env' S' => ∀ loc' H' σ', Grow X.K loc H loc' H' → StR X.K loc' S' H' → SlR X.K loc' H' env' σ' → Tch [] σ σ' → Q σ' H'
      | _ => False := by
    refine ⟨loc, S, env, hS, hE, ?_⟩
    cases e : mo env S with
    | bad => rw [e] at q; exact q
    | exc c fs S1 => rw [e] at q; exact q.elim
    | ok o S1 => rw [e] at q; exact fun l2 h2 x g2 s2 r2 => ⟨l2, S1, o, g2, s2, r2, q⟩
  refine wpAny_bind (wpAny_holding (thn ((ho _ tk).run pins s σ H _ I q1) fun ov s1 ⟨x, H1, I1, r1, loc1, S1, po, g1, hS1, rpo, k1⟩ => ?_))
  have q2 : tM X.K (fun _ _ _ _ => False) mi σ H1 fun y H2 => ∃ loc2 S2 i, Grow X.K loc1 H1 loc2 H2 ∧ StR X.K loc2 S2 H2 ∧ Rep X.K loc2 H2 i y ∧ match (setP po i p S2).bind fun _ S3 => .ok env S3 with
      | .ok env' S' => ∀ loc' H' σ', Grow X.K loc H loc' H' → StR X.K loc' S' H' → SlR X.K loc' H' env' σ' → Tch [] σ σ' → Q σ' H'
      | _ => False := by
    refine ⟨loc1, S1, env, hS1, hE.up g1, ?_⟩
    cases e : mi env S1 with
    | bad => rw [e] at k1; exact k1
    | exc c fs S2 => rw [e] at k1; exact k1.elim
    | ok o S2 => rw [e] at k1; exact fun l2 h2 x g2 s2 r2 => ⟨l2, S2, o, g2, s2, r2, k1⟩
  refine wpAny_bind (wpAny_holding (thn ((hi _ tk).run pins s1 σ H1 _ I1 q2) fun iv s2 ⟨y, H2, I2, r2, loc2, S2, pi, g2, hS2, rpi, k2⟩ => ?_))
  have g12 := g1.trans g2
  refine wpAny_bind (wpAny_standAt (wpAny_bind (wpAny_holding (thn (d_set hr (Q := fun H3 => Q σ H3) I2 r1 r2 r hS2 (Rep.up g2 _ _ rpo) rpi (Rep.up g12 _ _ rp) ?_) fun _ s3 ⟨H3, I3, q3⟩ => ?_))))
  · cases e : setP po pi p S2 with
    | bad => rw [e] at k2; exact k2
    | exc c fs S3 => rw [e] at k2; exact k2.elim
    | ok _ S3 =>
      rw [e] at k2
      intro l3 h3 g3 s3
      exact k2 l3 h3 σ (g12.trans g3) s3 (hE.up (g12.trans g3)) .refl
  · exact wpAny_release ⟨σ, H3, I3, q3⟩
/-- target = value -/
def asgS (m : EM) (t : GM) : SM := liftS m fun p env S => match t p env S with
  | .ok env' S' => .nx env' S'
  | _ => .bad
theorem tS.asg {K : PySem.W.Frag} {W : WX} {D : Ends} {σ : St} {H : Hp} {m : EM} {t : GM} {ts : List Nat} (q : tS K W (asgS m t) D σ H) : tAsg (tM K W m) (tGt K t ts) D σ H := by
  refine tG.imp (fun x H1 k => ?_) (tS.lift q)
  obtain ⟨loc, S, env, p, hS, hE, r, k⟩ := k
  refine ⟨loc, S, env, p, hS, hE, r, ?_⟩
  cases e : t p env S with
  | bad => rw [e] at k; exact k
  | exc c fs S3 => rw [e] at k; exact k
  | ok env' S' => rw [e] at k; exact fun l2 h2 σ2 g2 s2 e2 _ => k l2 h2 σ2 g2 s2 e2
theorem ds_asg {tg e : Expr} {m : EM} {t : GM} {ts : List Nat} (he : DE X e m) (hg : DG X tg t ts) (hs : swapsWithSole [tg] e pos.line X.env = pure false) (hw : swappedStores [tg] e X.env = pure none) (h1 : (assignEach [tg] X.env).map (·.2) = [assign tg X.env]) :
    DS X (.Assign [tg] e pos) (asgS m t) := fun W tk => (ps_asg (he W tk) hg hs hw h1).imp fun D σ H q => q.asg
theorem ds_set {i : Nat} {x : Str} {e : Expr} {m : EM} {pos' : Pos} (hN : X.N.Nodup) (hi : X.N[i]? = some x) (hx : Loc X.env.scope x) (he : DE X e m) (hs : swapsWith e (some (.Name x pos')) pos.line X.env = pure false) (hf : X.fn x = true ∨ X.env.scope.names.lookup x = some .local) :
    DS X (.Assign [.Name x pos'] e pos) (asgS m (setG i)) := fun W tk => (ps_set hN hi hx (he W tk) hs hf).imp fun D σ H q => by
  refine tG.imp (fun v H1 k => ?_) (tS.asg (ts := [i]) q)
  obtain ⟨loc, S, env, p, hS, hE, r, k⟩ := k
  exact k _ _ _ .refl hS (hE.set i r) ⟨by simp, fun j hj => List.getElem?_set_ne fun z => hj (by simp [z])⟩
/-- a, b = x, y by swapped stores -/
def parS (i j : Nat) (n : AM) : SM := liftS n fun ps env S => match ps with
  | [p, q] => .nx ((env.set i (some p)).set j (some q)) S
  | _ => .bad
theorem ds_par {i j : Nat} {x y : Str} {a b : Expr} {n : AM} {px py pt : Pos} {kt k2 : Nat} {pt2 : Pos} (hc : X.calm = true) (hN : X.N.Nodup) (hi : X.N[i]? = some x) (hj : X.N[j]? = some y) (hij : i ≠ j) (hx : X.env.scope.names.lookup x = some .local) (hy : X.env.scope.names.lookup y = some .local) (ha : DA X [a, b] n)
    (hw : swappedStores [.Tuple [.Name x px, .Name y py] kt pt] (.Tuple [a, b] k2 pt2) X.env = pure (some [x, y])) :
    DS X (.Assign [.Tuple [.Name x px, .Name y py] kt pt] (.Tuple [a, b] k2 pt2) pos) (parS i j n) := fun W tk => (ps_par hc hN hi hj hij hx hy (ha W tk) hw).imp fun D σ H q => by
  refine tG.imp (fun xs H1 k => ?_) (tS.liftA q)
  obtain ⟨loc, S, env, ps, hS, hE, r, k⟩ := k
  match ps, r, k with
  | [p, q], r, k =>
    obtain ⟨x, y, rfl, r1, r2⟩ := r.two
    exact ⟨x, y, rfl, k _ _ _ .refl hS ((hE.set i r1).set j r2)⟩
  | [], _, k => exact k.elim
  | [_], _, k => exact k.elim
  | _ :: _ :: _ :: _, _, k => exact k.elim
end

/-! ### what is walked -/
inductive ItD where
  | sq (xs : List PV)
  | lst (i : Nat)
  | rng (lo : Int) (n : Nat)
  | zip (xs ys : List PV)
  | enum (xs : List PV)
  | enumL (i : Nat)
def nxt : ItD → Nat → Hs → Option (Option PV)
  | .sq xs, i, _ => some xs[i]?
  | .lst r, i, S => (lstAt S r).map fun xs => xs[i]?
  | .rng lo n, i, _ => if i < n then some (some (.int (lo + i))) else some none
  | .zip xs ys, i, _ => match xs[i]?, ys[i]? with
    | some a, some b => some (some (.tpx [a, b]))
    | _, _ => some none
  | .enum xs, i, _ => match xs[i]? with
    | some a => some (some (.tpx [.int i, a]))
    | none => some none
  | .enumL r, i, S => (lstAt S r).map fun xs => xs[i]?.map fun a => .tpx [.int i, a]
def ItR (K : PySem.W.Frag) (loc : List Addr) (H : Hp) (J : It) (d : ItD) : Prop :=
  ∀ loc' H' S i, Up K loc H loc' H' → StR K loc' S H' → (nxt d i S = some none → J.stop i H') ∧
    ∀ p, nxt d i S = some (some p) → J.go i H' ∧ ∀ x H'', J.yld i H' x H'' → Grow K loc' H' loc' H'' ∧ StR K loc' S H'' ∧ Rep K loc' H'' p x
theorem ItR.up {K : PySem.W.Frag} {loc loc' : List Addr} {H H' : Hp} {J : It} {d : ItD} (g : Grow K loc H loc' H') (h : ItR K loc H J d) : ItR K loc' H' J d := fun l h2 S i g2 s => h l h2 S i (g.toUp.trans g2) s
abbrev IM := Sl → Hs → Res ItD
def tI (K : PySem.W.Frag) (W : WX) (m : IM) : TI := fun σ H R => tG K W (fun l h d J => ItR K l h J d) m σ H R
def DI (X : Cx) (tg iter : Expr) (m : IM) : Prop := ∀ W, Takes X W → PI X tg iter (tI X.K W m)
theorem _root_.L2.PI.imp {X : Cx} {tg e : Expr} {t t' : TI} (h : PI X tg e t) (f : ∀ σ H R, t' σ H R → t σ H R) : PI X tg e t' := ⟨fun pins s σ H R I q => h.run pins s σ H R I (f σ H R q)⟩
def iterP (S : Hs) : PV → Option ItD
  | .tup xs => some (.sq xs)
  | .cl xs => some (.sq xs)
  | .ref i => (lstAt S i).map fun _ => .lst i
  | _ => none
section
variable {K : PySem.W.Frag} {loc : List Addr} {H : Hp} {a b : Addr}
theorem itr_list {xs : List PV} {vs : List V} (h : FrzL K H a vs) (r : Reps K loc H xs vs) : ItR K loc H (Itl K a) (.sq xs) := fun l2 h2 S i g s => by
  have q := g.frz a vs h
  have r2 := r.upU g
  refine ⟨fun e => ?_, fun p e => ?_⟩
  · have e1 : xs[i]? = none := Option.some.inj e
    exact ⟨vs, q.sq, by rw [← r2.length]; exact List.getElem?_eq_none_iff.mp e1⟩
  · obtain ⟨v, e2, r3⟩ := r2.get (Option.some.inj e)
    refine ⟨⟨vs, v, q.sq, e2⟩, fun x h3 y => ?_⟩
    obtain ⟨rfl, y⟩ := y
    have e3 := y vs q.sq
    rw [e2] at e3; cases e3
    exact ⟨.refl, s, r3⟩
theorem itr_tup {xs : List PV} {vs : List V} (h : TupO K H a vs) (r : Reps K loc H xs vs) : ItR K loc H (Itt K a) (.sq xs) := fun l2 h2 S i g s => by
  have q := (g.tup a vs h).sq
  have r2 := r.upU g
  refine ⟨fun e => ?_, fun p e => ?_⟩
  · have e1 : xs[i]? = none := Option.some.inj e
    exact ⟨vs, q, by rw [← r2.length]; exact List.getElem?_eq_none_iff.mp e1⟩
  · obtain ⟨v, e2, r3⟩ := r2.get (Option.some.inj e)
    refine ⟨⟨vs, v, q, e2⟩, fun x h3 y => ?_⟩
    obtain ⟨rfl, y⟩ := y
    have e3 := y vs q
    rw [e2] at e3; cases e3
    exact ⟨.refl, s, r3⟩
theorem itr_lst {i : Nat} (h : loc[i]? = some a) : ItR K loc H (Itl K a) (.lst i) := fun l2 h2 S j g s => by
  have q := g.pre i a h
  refine ⟨fun e => ?_, fun p e => ?_⟩
  · dsimp only [nxt] at e
    cases e1 : lstAt S i with
    | none => rw [e1] at e; cases e
    | some xs =>
      rw [e1] at e
      obtain ⟨vs, e2, r2⟩ := s.obj _ _ _ (lstAt_eq e1) q
      have e3 : xs[j]? = none := Option.some.inj e
      exact ⟨vs, SqL.of e2, by rw [← r2.length]; exact List.getElem?_eq_none_iff.mp e3⟩
  · dsimp only [nxt] at e
    cases e1 : lstAt S i with
    | none => rw [e1] at e; cases e
    | some xs =>
      rw [e1] at e
      obtain ⟨vs, e2, r2⟩ := s.obj _ _ _ (lstAt_eq e1) q
      obtain ⟨v, e4, r3⟩ := r2.get (show xs[j]? = some p from Option.some.inj e)
      refine ⟨⟨vs, v, SqL.of e2, e4⟩, fun x h3 y => ?_⟩
      obtain ⟨rfl, y⟩ := y
      have e3 := y vs (SqL.of e2)
      rw [e4] at e3; cases e3
      exact ⟨.refl, s, r3⟩
theorem itr_rng {lo : Int} {n : Nat} : ItR K loc H (Itr lo n) (.rng lo n) := fun l2 h2 S i g s => by
  refine ⟨fun e => ?_, fun p e => ?_⟩
  · dsimp only [nxt] at e
    split at e
    · cases e
    · show n ≤ i; omega
  · dsimp only [nxt] at e
    split at e
    · cases e
      refine ⟨by assumption, fun x h3 y => ?_⟩
      obtain ⟨rfl, rfl⟩ := y
      exact ⟨.refl, s, .int _⟩
    · cases e
theorem new_pair {l2 : List Addr} {h2 : Hp} {S : Hs} {T : Addr} {p q : PV} {x y : V} (s : StR K l2 S h2) (n : h2 T = none) (r1 : Rep K l2 h2 p x) (r2 : Rep K l2 h2 q y) :
    Grow K l2 h2 l2 (upd h2 T (.tup [x, y])) ∧ StR K l2 S (upd h2 T (.tup [x, y])) ∧ Rep K l2 (upd h2 T (.tup [x, y])) (.tpx [p, q]) (.ref T) := by
  have g : Grow K l2 h2 l2 (upd h2 T (.tup [x, y])) := grow_new n fun _ _ z => z
  exact ⟨g, s.lay n, .tpx (SqT.of upd_same) (.cons (Rep.up g _ _ r1) (.cons (Rep.up g _ _ r2) .nil))⟩
theorem itr_zipT {xs ys : List PV} {vs us : List V} (h : TupO K H a vs) (r : Reps K loc H xs vs) (h' : TupO K H b us) (r' : Reps K loc H ys us) : ItR K loc H (RZ.ItzT K a b) (.zip xs ys) := fun l2 h2 S i g s => by
  have q := (g.tup a vs h).sq
  have q' := (g.tup b us h').sq
  have r2 := r.upU g
  have r2' := r'.upU g
  refine ⟨fun e => ?_, fun p e => ?_⟩
  · refine ⟨vs, us, q, q', ?_⟩
    rw [← r2.length, ← r2'.length]
    dsimp only [nxt] at e
    cases e1 : xs[i]? with
    | none => exact .inl (List.getElem?_eq_none_iff.mp e1)
    | some x =>
      cases e2 : ys[i]? with
      | none => exact .inr (List.getElem?_eq_none_iff.mp e2)
      | some y => rw [e1, e2] at e; cases e
  · dsimp only [nxt] at e
    cases e1 : xs[i]? with
    | none => rw [e1] at e; cases e
    | some x =>
      cases e2 : ys[i]? with
      | none => rw [e1, e2] at e; cases e
      | some y =>
        rw [e1, e2] at e
        cases e
        obtain ⟨v, e3, r3⟩ := r2.get e1
        obtain ⟨u, e4, r4⟩ := r2'.get e2
        refine ⟨⟨vs, us, v, u, q, q', e3, e4⟩, fun z h3 yl => ?_⟩
        obtain ⟨T, x', y', rfl, nT, rfl, k1, k2⟩ := yl
        have z1 := k1 vs q
        rw [e3] at z1; cases z1
        have z2 := k2 us q'
        rw [e4] at z2; cases z2
        exact new_pair s nT r3 r4
theorem itr_zipL {xs ys : List PV} {vs us : List V} (h : FrzL K H a vs) (r : Reps K loc H xs vs) (h' : FrzL K H b us) (r' : Reps K loc H ys us) : ItR K loc H (Itz K a b) (.zip xs ys) := fun l2 h2 S i g s => by
  have q := (g.frz a vs h).sq
  have q' := (g.frz b us h').sq
  have r2 := r.upU g
  have r2' := r'.upU g
  refine ⟨fun e => ?_, fun p e => ?_⟩
  · refine ⟨vs, us, q, q', ?_⟩
    rw [← r2.length, ← r2'.length]
    dsimp only [nxt] at e
    cases e1 : xs[i]? with
    | none => exact .inl (List.getElem?_eq_none_iff.mp e1)
    | some x =>
      cases e2 : ys[i]? with
      | none => exact .inr (List.getElem?_eq_none_iff.mp e2)
      | some y => rw [e1, e2] at e; cases e
  · dsimp only [nxt] at e
    cases e1 : xs[i]? with
    | none => rw [e1] at e; cases e
    | some x =>
      cases e2 : ys[i]? with
      | none => rw [e1, e2] at e; cases e
      | some y =>
        rw [e1, e2] at e
        cases e
        obtain ⟨v, e3, r3⟩ := r2.get e1
        obtain ⟨u, e4, r4⟩ := r2'.get e2
        refine ⟨⟨vs, us, v, u, q, q', e3, e4⟩, fun z h3 yl => ?_⟩
        obtain ⟨T, x', y', rfl, nT, rfl, k1, k2⟩ := yl
        have z1 := k1 vs q
        rw [e3] at z1; cases z1
        have z2 := k2 us q'
        rw [e4] at z2; cases z2
        exact new_pair s nT r3 r4
theorem itr_enum {xs : List PV} {vs : List V} (h : FrzL K H a vs) (r : Reps K loc H xs vs) : ItR K loc H (Ite K a) (.enum xs) := fun l2 h2 S i g s => by
  have q := (g.frz a vs h).sq
  have r2 := r.upU g
  refine ⟨fun e => ?_, fun p e => ?_⟩
  · refine ⟨vs, q, ?_⟩
    rw [← r2.length]
    dsimp only [nxt] at e
    cases e1 : xs[i]? with
    | none => exact List.getElem?_eq_none_iff.mp e1
    | some x => rw [e1] at e; cases e
  · dsimp only [nxt] at e
    cases e1 : xs[i]? with
    | none => rw [e1] at e; cases e
    | some x =>
      rw [e1] at e
      cases e
      obtain ⟨v, e3, r3⟩ := r2.get e1
      refine ⟨⟨vs, v, q, e3⟩, fun z h3 yl => ?_⟩
      obtain ⟨T, x', rfl, nT, rfl, k1⟩ := yl
      have z1 := k1 vs q
      rw [e3] at z1; cases z1
      exact new_pair s nT (.int _) r3
theorem itr_enumL {i : Nat} (h : loc[i]? = some a) : ItR K loc H (Ite K a) (.enumL i) := fun l2 h2 S j g s => by
  have q := g.pre i a h
  refine ⟨fun e => ?_, fun p e => ?_⟩
  · dsimp only [nxt] at e
    cases e1 : lstAt S i with
    | none => rw [e1] at e; cases e
    | some xs =>
      rw [e1] at e
      obtain ⟨vs, e2, r2⟩ := s.obj _ _ _ (lstAt_eq e1) q
      have e3 : xs[j]?.map (fun a => PV.tpx [.int j, a]) = none := Option.some.inj e
      refine ⟨vs, SqL.of e2, ?_⟩
      rw [← r2.length]
      cases e4 : xs[j]? with
      | none => exact List.getElem?_eq_none_iff.mp e4
      | some x => rw [e4] at e3; cases e3
  · dsimp only [nxt] at e
    cases e1 : lstAt S i with
    | none => rw [e1] at e; cases e
    | some xs =>
      rw [e1] at e
      obtain ⟨vs, e2, r2⟩ := s.obj _ _ _ (lstAt_eq e1) q
      have e3 : xs[j]?.map (fun a => PV.tpx [.int j, a]) = some p := Option.some.inj e
      cases e4 : xs[j]? with
      | none => rw [e4] at e3; cases e3
      | some x =>
        rw [e4] at e3
        cases e3
        obtain ⟨v, e5, r3⟩ := r2.get e4
        refine ⟨⟨vs, v, SqL.of e2, e5⟩, fun z h3 yl => ?_⟩
        obtain ⟨T, x', rfl, nT, rfl, k1⟩ := yl
        have z1 := k1 vs (SqL.of e2)
        rw [e5] at z1; cases z1
        exact new_pair s nT (.int _) r3
end
def itM (m : EM) : IM := bindE m fun p _ S => match iterP S p with
  | some d => .ok d S
  | none => .bad
def rng1M (n : AM) : IM := bindE n fun ps _ S => match ps with
  | [.int j] => if -(2 ^ 62) ≤ j ∧ j < 2 ^ 62 then .ok (.rng 0 j.toNat) S else .bad
  | _ => .bad
def rng2M (n : AM) : IM := bindE n fun ps _ S => match ps with
  | [.int i, .int j] => if (-(2 ^ 62) ≤ i ∧ i < 2 ^ 62) ∧ -(2 ^ 62) ≤ j ∧ j < 2 ^ 62 then .ok (.rng i (j - i).toNat) S else .bad
  | _ => .bad
def zipM (n : AM) : IM := bindE n fun ps _ S => match ps with
  | [.tup xs, .tup ys] => .ok (.zip xs ys) S
  | [.cl xs, .cl ys] => .ok (.zip xs ys) S
  | _ => .bad
def enumM (n : AM) : IM := bindE n fun ps _ S => match ps with
  | [.cl xs] => .ok (.enum xs) S
  | [.ref r] => match lstAt S r with
    | some _ => .ok (.enumL r) S
    | none => .bad
  | _ => .bad
section
variable {X : Cx} {tg e : Expr} {p pos tpos : Pos} {elts : List Expr} {kk : Nat}
/-- pi_list and pi_tup in one: by what comes -/
theorem di_seq {m : EM} (he : DE X e m) : DI X tg e (itM m) := fun W tk => by
  refine ⟨fun pins s σ H R I h => ?_⟩
  have h1 : tM X.K W m σ H fun x H1 => ∃ loc S env p, StR X.K loc S H1 ∧ SlR X.K loc H1 env σ ∧ Rep X.K loc H1 p x ∧ PostR X.K W (fun l h d J => ItR X.K l h J d) σ R loc H1 (match iterP S p with
      | some d => .ok d S
      | none => .bad) := by
    refine tG.imp (fun x H1 k => ?_) (tGv.bind (tG.v h))
    obtain ⟨p, loc, S, env, hS, hE, rs, k⟩ := k
    cases rs with
    | cons r _ => exact ⟨loc, S, env, p, hS, hE, r, k⟩
  refine thn ((he W tk).run pins s σ H _ I h1) fun v s1 ⟨x, H1, I1, r1, loc, S, env, p, hS, hE, rp, k⟩ => ?_
  have viaL : ∀ {a : Addr} {vs : List V}, v = .ref a → SqL X.K H1 a vs → R (Itl X.K a) H1 → wpAny (model X.prog X.w) X.A (pyIter v) (PIE X pins σ tg R) X.xe s1 := fun {a vs} ev hq hR => by
    subst ev
    obtain ⟨its, rv, pl, hz⟩ := I1.list hq
    refine wpAny_pyIter_list pl.isList ?_
    refine ⟨s1.heap.objs.size, [s1.heap.objs.size], _, _, H1, rfl, I1.kept (t' := s1.toks) fun b o e => Heap.get?_push_of_some _ e, turn_list a _, ⟨_, Heap.get?_push_size _ rfl, rfl, rfl⟩, fun b hb => ?_, hR⟩
    have e : b = s1.heap.objs.size := by simpa using hb
    subst e
    exact I1.fpOk (Nat.le_refl _) (I1.hok.fresh (Nat.le_refl _))
  have viaT : ∀ {a : Addr} {vs : List V}, v = .ref a → SqT X.K H1 a vs → R (Itt X.K a) H1 → wpAny (model X.prog X.w) X.A (pyIter v) (PIE X pins σ tg R) X.xe s1 := fun {a vs} ev hq hR => by
    subst ev
    obtain ⟨its, rv, pl, hz⟩ := I1.tuple hq
    refine wpAny_pyIter_tuple (show s1.heap.IsTuple a its.toArray from pl) ?_
    refine ⟨s1.heap.objs.size, [s1.heap.objs.size], _, _, H1, rfl, I1.kept (t' := s1.toks) fun b o e => Heap.get?_push_of_some _ e, turn_tuple a _, ⟨_, Heap.get?_push_size _ rfl, rfl, rfl⟩, fun b hb => ?_, hR⟩
    have e : b = s1.heap.objs.size := by simpa using hb
    subst e
    exact I1.fpOk (Nat.le_refl _) (I1.hok.fresh (Nat.le_refl _))
  cases p with
  | tup xs =>
    cases rp with
    | tup h1 h2 => exact viaT r1 h1.sq (k _ _ _ .refl hS (itr_tup h1 h2))
  | cl xs =>
    cases rp with
    | cl h1 h2 => exact viaL r1 h1.sq (k _ _ _ .refl hS (itr_list h1 h2))
  | ref i =>
    cases rp with
    | @ref _ a h1 =>
      dsimp only [iterP] at k
      cases e1 : lstAt S i with
      | none => rw [e1] at k; exact k.elim
      | some xs =>
        rw [e1] at k
        obtain ⟨vs, e3, _⟩ := hS.obj _ _ _ (lstAt_eq e1) h1
        exact viaL r1 (SqL.of e3) (k _ _ _ .refl hS (itr_lst h1))
  | _ => exact k.elim
end
end D

/-! D7: range, zip, enumerate; for and while; list comprehensions. -/
namespace D
open PySem PySem.Spec PyProof.Rows L2

section
variable {X : Cx} {tg e e2 : Expr} {p pos tpos : Pos} {elts : List Expr} {kk : Nat} {n : AM}
theorem tI.args {K : PySem.W.Frag} {W : WX} {σ : St} {H : Hp} {R : It → Hp → Prop} {k : List PV → Sl → Hs → Res ItD} (h : tI K W (bindE n k) σ H R) :
    tA K W n σ H fun xs H1 => ∃ loc S env ps, StR K loc S H1 ∧ SlR K loc H1 env σ ∧ Reps K loc H1 ps xs ∧ PostR K W (fun l h d J => ItR K l h J d) σ R loc H1 (k ps env S) := by
  refine tG.imp (fun xs H1 q => ?_) (tGv.bindA (tG.v h))
  obtain ⟨ps, loc, S, env, hS, hE, rs, q⟩ := q
  rw [List.append_nil, List.append_nil] at rs
  exact ⟨loc, S, env, ps, hS, hE, rs, q⟩
theorem di_range1 (hg : Gl X "range") (hm : X.mg "range" = none) (hs : NoStar e) (ha : DA X [e] n) : DI X tg (.Call (.Name "range" p) [e] [] pos) (rng1M n) := fun W tk =>
  (pi_range1 hg hm (ha W tk) (hs _ _)).imp fun σ H R q => by
    refine tG.imp (fun xs H1 k => ?_) (tI.args q)
    obtain ⟨loc, S, env, ps, hS, hE, rs, k⟩ := k
    split at k
    · split at k
      · rename_i c
        obtain ⟨x, rfl, r⟩ := rs.one
        cases r
        exact ⟨_, rfl, c.1, c.2, k _ _ _ .refl hS itr_rng⟩
      · exact k.elim
    · exact k.elim
theorem di_range2 (hg : Gl X "range") (hm : X.mg "range" = none) (hs : NoStar e) (hs2 : NoStar e2) (ha : DA X [e, e2] n) : DI X tg (.Call (.Name "range" p) [e, e2] [] pos) (rng2M n) := fun W tk =>
  (pi_range2 hg hm (ha W tk) ((hs _ _).trans (congrArg _ (hs2 _ _))) (hs2 _ _)).imp fun σ H R q => by
    refine tG.imp (fun xs H1 k => ?_) (tI.args q)
    obtain ⟨loc, S, env, ps, hS, hE, rs, k⟩ := k
    split at k
    · split at k
      · rename_i c
        obtain ⟨x, y, rfl, r, r'⟩ := rs.two
        cases r; cases r'
        exact ⟨_, _, rfl, ⟨c.1.1, c.1.2, c.2.1, c.2.2⟩, k _ _ _ .refl hS itr_rng⟩
      · exact k.elim
    · exact k.elim
theorem di_zip (hg : Gl X "zip") (hm : X.mg "zip" = none) (hs : NoStar e) (hs2 : NoStar e2) (ha : DA X [e, e2] n) : DI X (.Tuple elts kk tpos) (.Call (.Name "zip" p) [e, e2] [] pos) (zipM n) := fun W tk =>
  (RZ.pi_zipA hg hm (ha W tk) (hs _ _) (any_plain fun x hx => by have z : x = e2 := by simpa using hx
                                                                 rw [z]; exact hs2)).imp fun σ H R q => by
    refine tG.imp (fun xs H1 k => ?_) (tI.args q)
    obtain ⟨loc, S, env, ps, hS, hE, rs, k⟩ := k
    split at k
    · obtain ⟨x, y, rfl, r, r'⟩ := rs.two
      cases r with
      | tup h1 h2 =>
        cases r' with
        | tup h3 h4 => exact ⟨_, _, _, _, rfl, .inr ⟨h1.sq, h3.sq, k _ _ _ .refl hS (itr_zipT h1 h2 h3 h4)⟩⟩
    · obtain ⟨x, y, rfl, r, r'⟩ := rs.two
      cases r with
      | cl h1 h2 =>
        cases r' with
        | cl h3 h4 => exact ⟨_, _, _, _, rfl, .inl ⟨h1.sq, h3.sq, k _ _ _ .refl hS (itr_zipL h1 h2 h3 h4)⟩⟩
    · exact k.elim
theorem di_enum (hg : Gl X "enumerate") (hm : X.mg "enumerate" = none) (hs : NoStar e) (ha : DA X [e] n) : DI X (.Tuple elts kk tpos) (.Call (.Name "enumerate" p) [e] [] pos) (enumM n) := fun W tk =>
  (pi_enum hg hm (ha W tk) (hs _ _)).imp fun σ H R q => by
    refine tG.imp (fun xs H1 k => ?_) (tI.args q)
    obtain ⟨loc, S, env, ps, hS, hE, rs, k⟩ := k
    split at k
    · obtain ⟨x, rfl, r⟩ := rs.one
      cases r with
      | cl h1 h2 => exact ⟨_, _, rfl, h1.sq, k _ _ _ .refl hS (itr_enum h1 h2)⟩
    · obtain ⟨x, rfl, r⟩ := rs.one
      split at k
      · rename_i e1
        obtain ⟨a, vs, rfl, ql, ha, ra⟩ := lst_rep hS e1 r
        exact ⟨_, _, rfl, SqL.of ha, k _ _ _ .refl hS (itr_enumL ql)⟩
      · exact k.elim
    · exact k.elim
end

/-! ### for -/
def FUEL : Nat := 20000000
def forGo (nx : Nat → Hs → Option (Option PV)) (t : GM) (body : SM) : Nat → Nat → Sl → Hs → SR
  | 0, _, _, _ => .bad
  | f + 1, i, env, S => match nx i S with
    | none => .bad
    | some none => .nx env S
    | some (some p) => match t p env S with
      | .ok env1 S1 => match body env1 S1 with
        | .nx env2 S2 => forGo nx t body f (i + 1) env2 S2
        | .ct env2 S2 => forGo nx t body f (i + 1) env2 S2
        | .bk env2 S2 => .nx env2 S2
        | r => r
      | _ => .bad
def forS (it : IM) (t : GM) (body : SM) : SM := liftS it fun d env S => forGo (nxt d) t body FUEL 0 env S
section
variable {X : Cx} {tg iter c : Expr} {body : List Stmt} {it : IM} {t : GM} {ts : List Nat} {mb : SM} {pos : Pos}
theorem ds_for (hp : PassesOwn (model X.prog X.w) X.A X.env X.xe) (hc : X.calm = true) (hi : DI X tg iter it) (hg : DG X tg t ts) (hb : DSs X body mb) (hs : ∀ x, foldedSetIterable iter X.env x = pure x) :
    DS X (.For tg iter body [] pos) (forS it t mb) := fun W tk => (ps_for hp hc (hi W tk) hg (hb W tk) hs).imp fun D σ H q => by
  have q1 : tI X.K W it σ H fun J H1 => ∃ loc S env d, StR X.K loc S H1 ∧ SlR X.K loc H1 env σ ∧ ItR X.K loc H1 J d ∧ PostS X.K W D loc H1 (forGo (nxt d) t mb FUEL 0 env S) := by
    obtain ⟨loc, S, env, hS, hE, k⟩ := q
    refine ⟨loc, S, env, hS, hE, ?_⟩
    unfold forS liftS at k
    cases e : it env S with
    | bad => rw [e] at k; exact k
    | exc c fs S1 => rw [e] at k; exact fun l2 h2 d g2 s2 r2 => k l2 h2 σ d g2 s2 (hE.up g2) r2
    | ok d S1 => rw [e] at k; exact fun l2 h2 J g2 s2 r2 => ⟨l2, S1, env, d, s2, hE.up g2, r2, PostS.up g2 k⟩
  refine tG.imp (fun J H1 k => ?_) q1
  obtain ⟨loc, S, env, d, hS, hE, hJ, k⟩ := k
  refine ⟨fun i m σ' H' => ∃ loc' S' env', Grow X.K loc H1 loc' H' ∧ StR X.K loc' S' H' ∧ SlR X.K loc' H' env' σ' ∧ PostS X.K W D loc' H' (forGo (nxt d) t mb m i env' S'), ⟨FUEL, loc, S, env, .refl, hS, hE, k⟩, ?_⟩
  rintro i m σ1 H2 ⟨l1, S1, env1, g1, s1, e1, k1⟩
  cases m with
  | zero => exact k1.elim
  | succ m =>
    obtain ⟨j1, j2⟩ := hJ l1 H2 S1 i g1.toUp s1
    unfold forGo at k1
    cases en : nxt d i S1 with
    | none => rw [en] at k1; exact k1.elim
    | some o =>
      cases o with
      | none =>
        rw [en] at k1
        exact .inl ⟨j1 en, k1 _ _ _ .refl s1 e1⟩
      | some p =>
        rw [en] at k1
        obtain ⟨jg, jy⟩ := j2 p en
        refine .inr ⟨jg, fun σ' H' => ∃ loc' S' env', Grow X.K loc H1 loc' H' ∧ StR X.K loc' S' H' ∧ SlR X.K loc' H' env' σ' ∧ PostS X.K W D loc' H' (forGo (nxt d) t mb m (i + 1) env' S'), fun σ' H' h => ⟨m, Nat.lt_succ_self m, h⟩, fun x H' y => ?_⟩
        obtain ⟨gy, sy, ry⟩ := jy x H' y
        refine ⟨l1, S1, env1, p, sy, e1.up gy, ry, ?_⟩
        dsimp only at k1
        cases et : t p env1 S1 with
        | bad => rw [et] at k1; exact k1
        | exc _ _ _ => rw [et] at k1; exact k1
        | ok env3 S3 =>
          rw [et] at k1
          intro l3 h3 σ3 g3 s3 e3 _
          refine ⟨l3, S3, env3, s3, e3, ?_⟩
          dsimp only at k1
          have gg : Grow X.K l1 H2 l3 h3 := gy.trans g3
          cases eb : mb env3 S3 with
          | nx env4 S4 => rw [eb] at k1; exact fun l5 h5 σ5 g5 s5 e5 => ⟨l5, S4, env4, g1.trans (gg.trans g5), s5, e5, PostS.up (gg.trans g5) k1⟩
          | ct env4 S4 => rw [eb] at k1; exact fun l5 h5 σ5 g5 s5 e5 => ⟨l5, S4, env4, g1.trans (gg.trans g5), s5, e5, PostS.up (gg.trans g5) k1⟩
          | bk env4 S4 => rw [eb] at k1; exact fun l5 h5 σ5 g5 s5 e5 => k1 l5 h5 σ5 (gg.trans g5) s5 e5
          | rt p4 S4 => rw [eb] at k1; exact fun l5 h5 σ5 g5 s5 e5 => k1 l5 h5 σ5 (gg.trans g5) s5 e5
          | exc c4 f4 env4 S4 => rw [eb] at k1; exact fun l5 h5 σ5 d5 g5 s5 e5 => k1 l5 h5 σ5 d5 (gg.trans g5) s5 e5
          | bad => rw [eb] at k1; exact k1

/-! ### while -/
def whileGo (t : TM) (body : SM) : Nat → Sl → Hs → SR
  | 0, _, _ => .bad
  | f + 1, env, S => match t env S with
    | .ok true S1 => match body env S1 with
      | .nx env2 S2 => whileGo t body f env2 S2
      | .ct env2 S2 => whileGo t body f env2 S2
      | .bk env2 S2 => .nx env2 S2
      | r => r
    | .ok false S1 => .nx env S1
    | .exc c fs S1 => .exc c fs env S1
    | .bad => .bad
def whileS (t : TM) (body : SM) : SM := fun env S => whileGo t body FUEL env S
theorem ds_while {mt : TM} (hp : PassesOwn (model X.prog X.w) X.A X.env X.xe) (hc : DT X c mt) (hb : DSs X body mb) : DS X (.While c body [] pos) (whileS mt mb) := fun W tk => (ps_while hp (hc W tk) (hb W tk)).imp fun D σ H q => by
  obtain ⟨loc, S, env, hS, hE, k⟩ := q
  refine ⟨fun m σ' H' => ∃ loc' S' env', StR X.K loc' S' H' ∧ SlR X.K loc' H' env' σ' ∧ PostS X.K W D loc' H' (whileGo mt mb m env' S'), ⟨FUEL, loc, S, env, hS, hE, k⟩, ?_⟩
  rintro m σ1 H2 ⟨l1, S1, env1, s1, e1, k1⟩
  cases m with
  | zero => exact k1.elim
  | succ m =>
    unfold whileGo at k1
    refine ⟨l1, S1, env1, s1, e1, ?_⟩
    cases et : mt env1 S1 with
    | bad => rw [et] at k1; exact k1
    | exc c fs S3 => rw [et] at k1; exact fun l2 h2 d g2 s2 r2 => k1 l2 h2 σ1 d g2 s2 (e1.up g2) r2
    | ok b S3 =>
      rw [et] at k1
      intro l3 h3 b' g3 s3 eb'
      have eb' : b = b' := eb'
      subst eb'
      cases b with
      | false => exact k1 l3 h3 σ1 g3 s3 (e1.up g3)
      | true =>
        refine ⟨fun σ' H' => ∃ loc' S' env', StR X.K loc' S' H' ∧ SlR X.K loc' H' env' σ' ∧ PostS X.K W D loc' H' (whileGo mt mb m env' S'), fun σ' H' h => ⟨m, Nat.lt_succ_self m, h⟩, l3, S3, env1, s3, e1.up g3, ?_⟩
        dsimp only at k1
        cases eb : mb env1 S3 with
        | nx env4 S4 => rw [eb] at k1; exact fun l5 h5 σ5 g5 s5 e5 => ⟨l5, S4, env4, s5, e5, PostS.up (g3.trans g5) k1⟩
        | ct env4 S4 => rw [eb] at k1; exact fun l5 h5 σ5 g5 s5 e5 => ⟨l5, S4, env4, s5, e5, PostS.up (g3.trans g5) k1⟩
        | bk env4 S4 => rw [eb] at k1; exact fun l5 h5 σ5 g5 s5 e5 => k1 l5 h5 σ5 (g3.trans g5) s5 e5
        | rt p4 S4 => rw [eb] at k1; exact fun l5 h5 σ5 g5 s5 e5 => k1 l5 h5 σ5 (g3.trans g5) s5 e5
        | exc c4 f4 env4 S4 => rw [eb] at k1; exact fun l5 h5 σ5 d5 g5 s5 e5 => k1 l5 h5 σ5 d5 (g3.trans g5) s5 e5
        | bad => rw [eb] at k1; exact k1
end

/-! ### list comprehensions -/
def wipeE (env : Sl) : List Nat → Sl
  | [] => env
  | v :: vs => (wipeE env vs).set v none
theorem SlR.unset {K : PySem.W.Frag} {loc : List Addr} {H : Hp} {env : Sl} {σ : St} (h : SlR K loc H env σ) (i : Nat) : SlR K loc H (env.set i none) (σ.set i none) := by
  refine ⟨by simp [h.1], fun j q e => ?_⟩
  by_cases hj : i = j
  · subst hj
    by_cases hi : i < env.length
    · rw [List.getElem?_set_self hi] at e; cases e
    · rw [List.getElem?_eq_none (by simpa using hi)] at e; cases e
  · rw [List.getElem?_set_ne hj] at e
    rw [List.getElem?_set_ne hj]
    exact h.2 j q e
theorem SlR.wipe {K : PySem.W.Frag} {loc : List Addr} {H : Hp} {env : Sl} {σ : St} (h : SlR K loc H env σ) : ∀ vs : List Nat, SlR K loc H (wipeE env vs) (L2.wipe σ vs)
  | [] => h
  | v :: vs => (SlR.wipe h vs).unset v
theorem wipe_congr : ∀ {vs : List Nat} {a b : St}, a.length = b.length → (∀ i, i ∉ vs → a[i]? = b[i]?) → L2.wipe a vs = L2.wipe b vs := by
  intro vs
  have key : ∀ (vs : List Nat) (a : St) (i : Nat), (L2.wipe a vs)[i]? = if i ∈ vs then (if i < a.length then some none else none) else a[i]? := by
    intro vs
    induction vs with
    | nil => intro a i; simp [L2.wipe]
    | cons v vs ih =>
      intro a i
      unfold L2.wipe
      rw [List.getElem?_set, ih, wipe_length]
      by_cases h1 : v = i
      · subst h1
        simp
      · have h2 : ¬ i = v := fun z => h1 z.symm
        simp [h1, h2]
  intro a b hl h
  refine List.ext_getElem? fun i => ?_
  rw [key, key, hl]
  by_cases hi : i ∈ vs
  · rw [if_pos hi, if_pos hi]
  · rw [if_neg hi, if_neg hi, h i hi]
def lcGo (nx : Nat → Hs → Option (Option PV)) (turn : PV → Hs → Res (Option PV)) : Nat → Nat → List PV → Hs → Res (List PV)
  | 0, _, _, _ => .bad
  | f + 1, i, acc, S => match nx i S with
    | none => .bad
    | some none => .ok acc S
    | some (some p) => match turn p S with
      | .ok (some y) S' => lcGo nx turn f (i + 1) (acc ++ [y]) S'
      | .ok none S' => lcGo nx turn f (i + 1) acc S'
      | _ => .bad
def lcTurn (t : GM) (tt : TM) (te : EM) (env : Sl) : PV → Hs → Res (Option PV) := fun p S =>
  (t p env S).bind fun env1 S1 => (tt env1 S1).bind fun b S2 => if b = true then (te env1 S2).bind fun y S3 => .ok (some y) S3 else .ok none S2
def lcM (it : IM) (t : GM) (tt : TM) (te : EM) (vs : List Nat) : EM := fun env S =>
  (it env S).bind fun d S1 => (lcGo (nxt d) (lcTurn t tt te (wipeE env vs)) FUEL 0 [] S1).bind fun ys S2 => newL ys S2
theorem lcGo_len {nx : Nat → Hs → Option (Option PV)} {turn : PV → Hs → Res (Option PV)} : ∀ (f i : Nat) (acc ys : List PV) (S S' : Hs), lcGo nx turn f i acc S = .ok ys S' → acc.length ≤ ys.length
  | 0, _, _, _, _, _, h => by cases h
  | f + 1, i, acc, ys, S, S', h => by
    unfold lcGo at h
    split at h
    · cases h
    · cases h; exact Nat.le_refl _
    · split at h
      · have := lcGo_len f _ _ _ _ _ h
        rw [List.length_append] at this
        simp at this
        omega
      · exact lcGo_len f _ _ _ _ _ h
      · cases h
def DTs (X : Cx) (ifs : List Expr) (m : TM) : Prop := ∀ W, Takes X W → PTs X ifs (tB X.K W m)
def yesM : TM := fun _ S => .ok true S
theorem dts_nil {X : Cx} : DTs X [] yesM := fun W tk => ⟨fun pins s σ H Q I h => pts_nil.run pins s σ H Q I (by
  obtain ⟨loc, S, env, hS, hE, k⟩ := h
  exact k _ _ _ .refl hS rfl)⟩
theorem dts_one {X : Cx} {c : Expr} {m : TM} (h : DT X c m) : DTs X [c] m := fun W tk => pts_one (h W tk)
theorem takes_never {X : Cx} : Takes X (fun _ _ _ _ => False) := fun u s' ⟨_, _, _, _, _, _, _, _, _, _, _, _, _, _, _, _, z⟩ => z.elim
section
variable {X : Cx} {elt tg iter : Expr} {ifs : List Expr} {scope : Scope} {own : List (Str × Nat)} {pos : Pos} {it : IM} {t : GM} {ts : List Nat} {tt : TM} {te : EM}
/-- without A -/
def del (A : Addr) (H : Hp) : Hp := fun b => if b = A then none else H b
theorem del_ne {A b : Addr} {H : Hp} (h : b ≠ A) : del A H b = H b := if_neg h
theorem del_some {A b : Addr} {H : Hp} {u : HO} (h : del A H b = some u) : b ≠ A ∧ H b = some u := by
  unfold del at h
  split at h
  · cases h
  · exact ⟨by assumption, h⟩
theorem tupO_del {K : PySem.W.Frag} {A a : Addr} {H : Hp} {vs : List V} (h : TupO K (del A H) a vs) : TupO K H a vs := by
  rcases h with ⟨o, h, d⟩ | h
  · exact .inl ⟨o, (del_some h).2, d⟩
  · exact .inr h
theorem tupO_undel {K : PySem.W.Frag} {A a : Addr} {H : Hp} {vs : List V} (m : MutP (H A)) (h : TupO K H a vs) : TupO K (del A H) a vs := by
  rcases h with ⟨o, h, d⟩ | h
  · exact .inl ⟨o, (del_ne fun z => by rw [z] at h; rw [h] at m; exact m).trans h, d⟩
  · exact .inr h
theorem sqT_del {K : PySem.W.Frag} {A a : Addr} {H : Hp} {vs : List V} (h : SqT K (del A H) a vs) : SqT K H a vs := by
  rcases h with (h | ⟨o, h⟩) | h
  · exact .inl (.inl (del_some h).2)
  · exact .inl (.inr ⟨o, (del_some h).2⟩)
  · exact .inr h
theorem sqT_undel {K : PySem.W.Frag} {A a : Addr} {H : Hp} {vs : List V} (m : MutP (H A)) (h : SqT K H a vs) : SqT K (del A H) a vs := by
  rcases h with (h | ⟨o, h⟩) | h
  · exact .inl (.inl ((del_ne fun z => by rw [z] at h; rw [h] at m; exact m).trans h))
  · exact .inl (.inr ⟨o, (del_ne fun z => by rw [z] at h; rw [h] at m; exact m).trans h⟩)
  · exact .inr h
theorem frz_del {K : PySem.W.Frag} {A a : Addr} {H : Hp} {vs : List V} (h : FrzL K (del A H) a vs) : FrzL K H a vs := by
  rcases h with ⟨o, h⟩ | h
  · exact .inl ⟨o, (del_some h).2⟩
  · exact .inr h
theorem frz_undel {K : PySem.W.Frag} {A a : Addr} {H : Hp} {vs : List V} (m : MutP (H A)) (h : FrzL K H a vs) : FrzL K (del A H) a vs := by
  rcases h with ⟨o, h⟩ | h
  · exact .inl ⟨o, (del_ne fun z => by rw [z] at h; rw [h] at m; exact m).trans h⟩
  · exact .inr h
theorem exn_del {K : PySem.W.Frag} {A a : Addr} {H : Hp} {c : Str} {ns : List Str} {vs : List V} (h : ExnO K (del A H) a c ns vs) : ExnO K H a c ns vs := by
  obtain ⟨d, h1, h2⟩ := h
  exact ⟨d, (del_some h1).2, (del_some h2).2⟩
theorem exn_undel {K : PySem.W.Frag} {A a : Addr} {H : Hp} {c : Str} {ns : List Str} {vs : List V} (m : MutP (H A)) (h : ExnO K H a c ns vs) : ExnO K (del A H) a c ns vs := by
  obtain ⟨d, h1, h2⟩ := h
  exact ⟨d, (del_ne fun z => by subst z; rw [h1] at m; exact m.exo).trans h1, (del_ne fun z => by subst z; rw [h2] at m; exact m.exd).trans h2⟩
theorem Grow.undel {K : PySem.W.Frag} {loc loc' : List Addr} {H H' : Hp} {A : Addr} (n : H A = none) (g : Grow K loc H loc' (del A H')) : Grow K loc H loc' H' :=
  ⟨⟨g.pre, fun a vs h => tupO_del (g.tup a vs h), fun a vs h => sqT_del (g.tpx a vs h), fun a vs h => frz_del (g.frz a vs h), fun a c ns vs h => exn_del (g.exn a c ns vs h)⟩, fun a u e na => (del_some (g.fra a u e na)).2, g.new⟩
theorem Grow.dels {K : PySem.W.Frag} {loc loc' : List Addr} {H H' : Hp} {A : Addr} (m' : MutP (H' A)) (g : Grow K loc H loc' H') : Grow K loc (del A H) loc' (del A H') :=
  ⟨⟨g.pre, fun a vs h => tupO_undel m' (g.tup a vs (tupO_del h)), fun a vs h => sqT_undel m' (g.tpx a vs (sqT_del h)), fun a vs h => frz_undel m' (g.frz a vs (frz_del h)), fun a c ns vs h => exn_undel m' (g.exn a c ns vs (exn_del h))⟩, fun a u e na => by
    obtain ⟨n1, e1⟩ := del_some e
    rw [del_ne n1]
    exact g.fra a u e1 na, fun a h => by
    rcases g.new a h with q | q
    · exact .inl q
    · right
      unfold del
      split
      · rfl
      · exact q⟩
theorem del_upd {A : Addr} {H : Hp} {u : HO} : del A (upd H A u) = del A H := by
  funext b
  unfold del upd
  by_cases h : b = A
  · rw [if_pos h, if_pos h]
  · rw [if_neg h, if_neg h, if_neg h]
theorem upd_self {A : Addr} {H : Hp} {u : HO} (h : H A = some u) : upd H A u = H := by
  funext b
  unfold upd
  by_cases e : b = A
  · rw [if_pos e, e, h]
  · rw [if_neg e]
/-- the list made apart becomes an object -/
theorem StR.adopt' {K : PySem.W.Frag} {loc : List Addr} {S : Hs} {H : Hp} {A : Addr} {vs : List V} {acc : List PV} (h : StR K loc S H) (e : H A = some (.lst vs)) (nl : A ∉ loc) (r : Reps K loc H acc vs) : StR K (loc ++ [A]) (S ++ [.lst acc]) H := by
  have up : Up K loc H (loc ++ [A]) (upd H A (.lst vs)) := up_write (by rw [e]; trivial) fun i a e => by rw [List.getElem?_append_left (List.getElem?_eq_some_iff.mp e).1]; exact e
  have q := h.adopt (u := .lst vs) (o := .lst acc) e trivial nl ⟨vs, upd_same, r.upU up⟩
  rw [upd_self e] at q
  exact q
theorem Grow.adopt' {K : PySem.W.Frag} {loc loc' : List Addr} {H H' : Hp} {A : Addr} (n : H A = none) (g : Grow K loc H loc' (del A H')) : Grow K loc H (loc' ++ [A]) H' := by
  have g2 := g.undel n
  refine ⟨⟨fun i a e => ?_, g2.tup, g2.tpx, g2.frz, g2.exn⟩, g2.fra, fun a h => ?_⟩
  · have q := g2.pre i a e
    rw [List.getElem?_append_left (List.getElem?_eq_some_iff.mp q).1]; exact q
  · rcases List.mem_append.mp h with h | h
    · exact g2.new a h
    · have e : a = A := by simpa using h
      subst e
      exact .inr n
/-- what the rule for a comprehension asks, from the function -/
theorem lc_tM {W : WX} (tsv : ∀ i ∈ ts, i ∈ own.map (·.2)) {σ : St} {H : Hp} {Q : VK} (q : tM X.K W (lcM it t tt te (own.map (·.2))) σ H Q) :
    tLc (tI X.K W it) (tGt X.K t ts) (tB X.K (fun _ _ _ _ => False) tt) (tM X.K (fun _ _ _ _ => False) te) (own.map (·.2)) σ H Q := by
  have q1 : tI X.K W it σ H fun J H1 => ∃ loc S env d, StR X.K loc S H1 ∧ SlR X.K loc H1 env σ ∧ ItR X.K loc H1 J d ∧ Post X.K W σ Q loc H1 ((lcGo (nxt d) (lcTurn t tt te (wipeE env (own.map (·.2)))) FUEL 0 [] S).bind fun ys S2 => newL ys S2) := by
    obtain ⟨loc, S, env, hS, hE, k⟩ := q
    refine ⟨loc, S, env, hS, hE, ?_⟩
    unfold lcM at k
    cases e : it env S with
    | bad => rw [e] at k; exact k
    | exc c fs S1 => rw [e] at k; exact k
    | ok d S1 => rw [e] at k; exact fun l2 h2 J g2 s2 r2 => ⟨l2, S1, env, d, s2, hE.up g2, r2, PostR.up g2 k⟩
  refine tG.imp (fun J H1 k => ?_) q1
  obtain ⟨loc, S, env, d, hS, hE, hJ, k⟩ := k
  intro A nA
  have nl : A ∉ loc := fun hm => by
    obtain ⟨i, hi⟩ := List.getElem?_of_mem hm
    obtain ⟨_, v, _, e3, _⟩ := hS.live hi
    exact ne_of_none e3 nA rfl
  have g0 : Grow X.K loc H1 loc (del A (upd H1 A (.lst []))) := by
    rw [del_upd, show del A H1 = H1 from by
      funext b
      unfold del
      split
      · rename_i e; rw [e, nA]
      · rfl]
    exact .refl
  -- the list at A holds what was made; the state does not know it yet
  refine ⟨fun i m H' => ∃ loc' S' acc vs, Grow X.K loc H1 loc' (del A H') ∧ StR X.K loc' S' H' ∧ A ∉ loc' ∧ H' A = some (.lst vs) ∧ Reps X.K loc' H' acc vs ∧
      Post X.K W σ Q loc H1 ((lcGo (nxt d) (lcTurn t tt te (wipeE env (own.map (·.2)))) m i acc S').bind fun ys S2 => newL ys S2), ⟨FUEL, loc, S, [], [], g0, hS.lay nA, nl, upd_same, .nil, k⟩, ?_⟩
  rintro i m H2 ⟨l1, S1, acc, vs, g1, s1, n1, ha, ra, k1⟩
  cases m with
  | zero => exact k1.elim
  | succ m =>
    have g1' := g1.undel nA
    obtain ⟨j1, j2⟩ := hJ l1 H2 S1 i g1'.toUp s1
    unfold lcGo at k1
    cases en : nxt d i S1 with
    | none => rw [en] at k1; exact k1.elim
    | some o =>
      cases o with
      | none =>
        rw [en] at k1
        refine .inl ⟨j1 en, ?_⟩
        have k2 : Post X.K W σ Q loc H1 (newL acc S1) := k1
        unfold newL at k2
        split at k2
        · exact k2 _ _ _ (g1.adopt' nA) (s1.adopt' ha n1 ra) (.ref (s1.last A))
        · exact k2.elim
      | some p =>
        rw [en] at k1
        obtain ⟨jg, jy⟩ := j2 p en
        refine .inr ⟨jg, fun H' => ∃ loc' S' acc vs, Grow X.K loc H1 loc' (del A H') ∧ StR X.K loc' S' H' ∧ A ∉ loc' ∧ H' A = some (.lst vs) ∧ Reps X.K loc' H' acc vs ∧
          Post X.K W σ Q loc H1 ((lcGo (nxt d) (lcTurn t tt te (wipeE env (own.map (·.2)))) m (i + 1) acc S').bind fun ys S2 => newL ys S2), fun H' h => ⟨m, Nat.lt_succ_self m, h⟩, fun x H' y => ?_⟩
        obtain ⟨gy, sy, ry⟩ := jy x H' y
        refine ⟨l1, S1, wipeE env (own.map (·.2)), p, sy, ((hE.up g1').up gy).wipe _, ry, ?_⟩
        dsimp only [lcTurn] at k1
        cases et : t p (wipeE env (own.map (·.2))) S1 with
        | bad => rw [et] at k1; exact k1
        | exc _ _ _ => rw [et] at k1; exact k1
        | ok env3 S3 =>
          rw [et] at k1
          intro l3 h3 σ3 g3 s3 e3 t3
          have w3 : L2.wipe σ3 (own.map (·.2)) = L2.wipe σ (own.map (·.2)) := by
            refine wipe_congr (t3.1.trans (wipe_length _ _)) fun j hj => ?_
            rw [t3.2 j fun z => hj (tsv j z), wipe_out hj]
          refine ⟨w3, l3, S3, env3, s3, e3, ?_⟩
          have gg : Grow X.K l1 H2 l3 h3 := gy.trans g3
          rw [Res.bind_ok] at k1
          cases eb : tt env3 S3 with
          | bad => rw [eb] at k1; exact k1
          | exc _ _ _ => rw [eb] at k1; exact k1.elim
          | ok b S4 =>
            rw [eb, Res.bind_ok] at k1
            intro l4 h4 b' g4 s4 e4
            have e4 : b = b' := e4
            subst e4
            have gg4 := gg.trans g4
            cases b with
            | false =>
              have a4 : h4 A = some (.lst vs) := gg4.fra A _ ha n1
              exact ⟨l4, S4, acc, vs, g1.trans (gg4.dels (by rw [a4]; trivial)), s4, gg4.out ha n1, a4, ra.up gg4, k1⟩
            | true =>
              refine ⟨l4, S4, env3, s4, e3.up g4, ?_⟩
              rw [if_pos rfl] at k1
              cases ee : te env3 S4 with
              | bad => rw [ee] at k1; exact k1
              | exc _ _ _ => rw [ee] at k1; exact k1.elim
              | ok y S5 =>
                rw [ee, Res.bind_ok] at k1
                intro l5 h5 z g5 s5 r5
                have gg5 := gg4.trans g5
                have a5 : h5 A = some (.lst vs) := gg5.fra A _ ha n1
                have n5 := gg5.out ha n1
                have r5' : Reps X.K l5 h5 (acc ++ [y]) (vs ++ [z]) := (ra.up gg5).append (.cons r5 .nil)
                have up5 : Up X.K l5 h5 l5 (upd h5 A (.lst (vs ++ [z]))) := up_write (by rw [a5]; trivial) fun _ _ h => h
                have hz : vs.length < sizeLine := by
                  rw [← ra.length]
                  have k2 : Post X.K W σ Q loc H1 ((lcGo (nxt d) (lcTurn t tt te (wipeE env (own.map (·.2)))) m (i + 1) (acc ++ [y]) S5).bind fun ys S2 => newL ys S2) := k1
                  cases el : lcGo (nxt d) (lcTurn t tt te (wipeE env (own.map (·.2)))) m (i + 1) (acc ++ [y]) S5 with
                  | bad => rw [el] at k2; exact k2.elim
                  | exc c fs S6 => 
                    exfalso
                    have noexc : ∀ (f i : Nat) (acc : List PV) (S : Hs), lcGo (nxt d) (lcTurn t tt te (wipeE env (own.map (·.2)))) f i acc S ≠ .exc c fs S6 := by
                      intro f
                      induction f with
                      | zero => intro i acc S h; cases h
                      | succ f ih =>
                        intro i acc S h
                        unfold lcGo at h
                        split at h
                        · cases h
                        · cases h
                        · split at h
                          · exact ih _ _ _ h
                          · exact ih _ _ _ h
                          · cases h
                    exact noexc _ _ _ _ el
                  | ok ys S6 =>
                    rw [el, Res.bind_ok] at k2
                    have hl := lcGo_len _ _ _ _ _ _ el
                    rw [List.length_append] at hl
                    unfold newL at k2
                    split at k2
                    · rename_i hq
                      have hl2 : acc.length + 1 ≤ ys.length := by simpa using hl
                      omega
                    · exact k2.elim
                refine ⟨vs, a5, hz, l5, S5, acc ++ [y], vs ++ [z], ?_, ⟨s5.len, s5.nd, fun j o b e1 e2 => (s5.obj j o b e1 e2).keepU up5 (upd_ne fun zz => n5 (by rw [← zz]; exact List.mem_of_getElem? e2))⟩, n5, upd_same, r5'.upU up5, k1⟩
                rw [del_upd]
                exact g1.trans (gg5.dels (by rw [a5]; trivial))
theorem de_lc (hc : X.calm = true) (hN : X.N.Nodup) (hi : DI X tg iter it) (ok : BlkOk X.N X.env.scope scope own) (tsv : ∀ i ∈ ts, i ∈ own.map (·.2))
    (hg : ∀ (s : Shared) (H : Hp) (C : Addr) (cl : List (Str × Addr)) (fp : List Addr), DG (X.blk s H scope (compEnvC scope cl C X.env) fp) tg t ts) (ht : ∀ (s : Shared) (H : Hp) (C : Addr) (cl : List (Str × Addr)) (fp : List Addr), DTs (X.blk s H scope (compEnvC scope cl C X.env) fp) ifs tt)
    (he : ∀ (s : Shared) (H : Hp) (C : Addr) (cl : List (Str × Addr)) (fp : List Addr), DE (X.blk s H scope (compEnvC scope cl C X.env) fp) elt te) (hs : ∀ x, foldedSetIterable iter X.env x = pure x) :
    DE X (.ListComp elt [⟨tg, iter, ifs, 0⟩] scope pos) (lcM it t tt te (own.map (·.2))) := fun W tk =>
  (pe_lc (g := tGt X.K t ts) (tt := tB X.K (fun _ _ _ _ => False) tt) (te := tM X.K (fun _ _ _ _ => False) te) hc hN (hi W tk) ok (fun s H C cl fp => hg s H C cl fp) (fun s H C cl fp => ht s H C cl fp _ takes_never) (fun s H C cl fp => he s H C cl fp _ takes_never) hs).imp fun σ H Q q => lc_tM tsv q
theorem ds_setLc {i : Nat} {y : Str} {py spos : Pos} (hc : X.calm = true) (hN : X.N.Nodup) (hy : X.N[i]? = some y) (hyl : X.env.scope.names.lookup y = some .local) (hsw : swapsWith (.ListComp elt [⟨tg, iter, ifs, 0⟩] scope pos) (some (.Name y py)) spos.line X.env = pure true)
    (hi : DI X tg iter it) (ok : BlkOk X.N X.env.scope scope own) (tsv : ∀ i ∈ ts, i ∈ own.map (·.2))
    (hg : ∀ (s : Shared) (H : Hp) (C : Addr) (cl : List (Str × Addr)) (fp : List Addr), DG (X.blk s H scope (compEnvC scope cl C X.env) fp) tg t ts) (ht : ∀ (s : Shared) (H : Hp) (C : Addr) (cl : List (Str × Addr)) (fp : List Addr), DTs (X.blk s H scope (compEnvC scope cl C X.env) fp) ifs tt)
    (he : ∀ (s : Shared) (H : Hp) (C : Addr) (cl : List (Str × Addr)) (fp : List Addr), DE (X.blk s H scope (compEnvC scope cl C X.env) fp) elt te) (hs : ∀ x, foldedSetIterable iter X.env x = pure x) :
    DS X (.Assign [.Name y py] (.ListComp elt [⟨tg, iter, ifs, 0⟩] scope pos) spos) (asgS (lcM it t tt te (own.map (·.2))) (setG i)) := fun W tk =>
  (ps_setLc (g := tGt X.K t ts) (tt := tB X.K (fun _ _ _ _ => False) tt) (te := tM X.K (fun _ _ _ _ => False) te) hc hN hy hyl hsw (hi W tk) ok (fun s H C cl fp => hg s H C cl fp) (fun s H C cl fp => ht s H C cl fp _ takes_never) (fun s H C cl fp => he s H C cl fp _ takes_never) hs).imp fun D σ H q => by
    refine lc_tM (W := W) tsv (tG.imp (fun v H1 k => ?_) (tS.asg (ts := [i]) q))
    obtain ⟨loc, S, env, p, hS, hE, r, k⟩ := k
    exact k _ _ _ .refl hS (hE.set i r) ⟨by simp, fun j hj => List.getElem?_set_ne fun z => hj (by simp [z])⟩
end
end D

/-! D8: list comprehensions with two clauses. -/
namespace D
open PySem PySem.Spec PyProof.Rows L2

def lc2Go (nx : Nat → Hs → Option (Option PV)) (turn : PV → List PV → Hs → Res (List PV)) : Nat → Nat → List PV → Hs → Res (List PV)
  | 0, _, _, _ => .bad
  | f + 1, i, acc, S => match nx i S with
    | none => .bad
    | some none => .ok acc S
    | some (some p) => match turn p acc S with
      | .ok acc' S' => lc2Go nx turn f (i + 1) acc' S'
      | _ => .bad
def lc2Turn (t : GM) (tt : TM) (it1 : IM) (t1 : GM) (tt1 : TM) (te : EM) (vs1 : List Nat) (env : Sl) : PV → List PV → Hs → Res (List PV) := fun p acc S =>
  (t p env S).bind fun env1 S1 => (tt env1 S1).bind fun b S2 => if b = true then (it1 env1 S2).bind fun d1 S3 => lcGo (nxt d1) (lcTurn t1 tt1 te (wipeE env1 vs1)) FUEL 0 acc S3 else .ok acc S2
def lc2M (it : IM) (t : GM) (tt : TM) (it1 : IM) (t1 : GM) (tt1 : TM) (te : EM) (vs vs1 : List Nat) : EM := fun env S =>
  (it env S).bind fun d S1 => (lc2Go (nxt d) (lc2Turn t tt it1 t1 tt1 te vs1 (wipeE env vs)) FUEL 0 [] S1).bind fun ys S2 => newL ys S2
theorem lcGo_noexc {nx : Nat → Hs → Option (Option PV)} {turn : PV → Hs → Res (Option PV)} {c : EC} {fs : List (Str × PV)} {S6 : Hs} : ∀ (f i : Nat) (acc : List PV) (S : Hs), lcGo nx turn f i acc S ≠ .exc c fs S6
  | 0, _, _, _, h => by cases h
  | f + 1, i, acc, S, h => by
    unfold lcGo at h
    split at h
    · cases h
    · cases h
    · split at h
      · exact lcGo_noexc f _ _ _ h
      · exact lcGo_noexc f _ _ _ h
      · cases h
theorem lc2Go_noexc {nx : Nat → Hs → Option (Option PV)} {turn : PV → List PV → Hs → Res (List PV)} {c : EC} {fs : List (Str × PV)} {S6 : Hs} : ∀ (f i : Nat) (acc : List PV) (S : Hs), lc2Go nx turn f i acc S ≠ .exc c fs S6
  | 0, _, _, _, h => by cases h
  | f + 1, i, acc, S, h => by
    unfold lc2Go at h
    split at h
    · cases h
    · cases h
    · split at h
      · exact lc2Go_noexc f _ _ _ h
      · cases h
theorem lc2Go_len {nx : Nat → Hs → Option (Option PV)} {turn : PV → List PV → Hs → Res (List PV)} (ht : ∀ p acc S ys S', turn p acc S = .ok ys S' → acc.length ≤ ys.length) : ∀ (f i : Nat) (acc ys : List PV) (S S' : Hs), lc2Go nx turn f i acc S = .ok ys S' → acc.length ≤ ys.length
  | 0, _, _, _, _, _, h => by cases h
  | f + 1, i, acc, ys, S, S', h => by
    unfold lc2Go at h
    split at h
    · cases h
    · cases h; exact Nat.le_refl _
    · split at h
      · rename_i e
        exact Nat.le_trans (ht _ _ _ _ _ e) (lc2Go_len ht f _ _ _ _ _ h)
      · cases h
theorem lc2Turn_len {t : GM} {tt : TM} {it1 : IM} {t1 : GM} {tt1 : TM} {te : EM} {vs1 : List Nat} {env : Sl} (p : PV) (acc : List PV) (S : Hs) (ys : List PV) (S' : Hs) (h : lc2Turn t tt it1 t1 tt1 te vs1 env p acc S = .ok ys S') : acc.length ≤ ys.length := by
  unfold lc2Turn at h
  cases e1 : t p env S with
  | bad => rw [e1] at h; cases h
  | exc _ _ _ => rw [e1] at h; cases h
  | ok env1 S1 =>
    rw [e1, Res.bind_ok] at h
    cases e2 : tt env1 S1 with
    | bad => rw [e2] at h; cases h
    | exc _ _ _ => rw [e2] at h; cases h
    | ok b S2 =>
      rw [e2, Res.bind_ok] at h
      cases b with
      | false => cases h; exact Nat.le_refl _
      | true =>
        rw [if_pos rfl] at h
        cases e3 : it1 env1 S2 with
        | bad => rw [e3] at h; cases h
        | exc _ _ _ => rw [e3] at h; cases h
        | ok d1 S3 =>
          rw [e3, Res.bind_ok] at h
          exact lcGo_len _ _ _ _ _ _ h
section
variable {X : Cx} {elt tg iter tg1 iter1 : Expr} {ifs ifs1 : List Expr} {scope : Scope} {own : List (Str × Nat)} {vs1 : List Nat} {pos : Pos} {it it1 : IM} {t t1 : GM} {ts ts1 : List Nat} {tt tt1 : TM} {te : EM}
theorem lc2_tM {W : WX} (tsv : ∀ i ∈ ts, i ∈ own.map (fun z : Str × Nat => z.2)) (tsv1 : ∀ i ∈ ts1, i ∈ vs1) {σ : St} {H : Hp} {Q : VK} (q : tM X.K W (lc2M it t tt it1 t1 tt1 te (own.map (fun z : Str × Nat => z.2)) vs1) σ H Q) :
    tLc2 (tI X.K W it) (tGt X.K t ts) (tB X.K (fun _ _ _ _ => False) tt) (tI X.K (fun _ _ _ _ => False) it1) (tGt X.K t1 ts1) (tB X.K (fun _ _ _ _ => False) tt1) (tM X.K (fun _ _ _ _ => False) te) (own.map (fun z : Str × Nat => z.2)) vs1 σ H Q := by
  have q1 : tI X.K W it σ H fun J H1 => ∃ loc S env d, StR X.K loc S H1 ∧ SlR X.K loc H1 env σ ∧ ItR X.K loc H1 J d ∧ Post X.K W σ Q loc H1 ((lc2Go (nxt d) (lc2Turn t tt it1 t1 tt1 te vs1 (wipeE env (own.map (fun z : Str × Nat => z.2)))) FUEL 0 [] S).bind fun ys S2 => newL ys S2) := by
    obtain ⟨loc, S, env, hS, hE, k⟩ := q
    refine ⟨loc, S, env, hS, hE, ?_⟩
    unfold lc2M at k
    cases e : it env S with
    | bad => rw [e] at k; exact k
    | exc c fs S1 => rw [e] at k; exact k
    | ok d S1 => rw [e] at k; exact fun l2 h2 J g2 s2 r2 => ⟨l2, S1, env, d, s2, hE.up g2, r2, PostR.up g2 k⟩
  refine tG.imp (fun J H1 k => ?_) q1
  obtain ⟨loc, S, env, d, hS, hE, hJ, k⟩ := k
  intro A nA
  have nl : A ∉ loc := fun hm => by
    obtain ⟨i, hi⟩ := List.getElem?_of_mem hm
    obtain ⟨_, v, _, e3, _⟩ := hS.live hi
    exact ne_of_none e3 nA rfl
  have g0 : Grow X.K loc H1 loc (del A (upd H1 A (.lst []))) := by
    rw [del_upd, show del A H1 = H1 from by
      funext b
      unfold del
      split
      · rename_i e; rw [e, nA]
      · rfl]
    exact .refl
  have room : ∀ {r : Res (List PV)} {acc : List PV} {y : PV}, (∀ ys S', r = .ok ys S' → acc.length + 1 ≤ ys.length) → (∀ c fs S', r ≠ .exc c fs S') → Post X.K W σ Q loc H1 (r.bind fun ys S2 => newL ys S2) → acc.length < sizeLine := fun {r acc y} h1 h2 h3 => by
    cases r with
    | bad => exact h3.elim
    | exc c fs S' => exact absurd rfl (h2 c fs S')
    | ok ys S' =>
      have := h1 ys S' rfl
      have k2 : Post X.K W σ Q loc H1 (newL ys S') := h3
      unfold newL at k2
      split at k2
      · omega
      · exact k2.elim
  refine ⟨fun i m H' => ∃ loc' S' acc vs, Grow X.K loc H1 loc' (del A H') ∧ StR X.K loc' S' H' ∧ A ∉ loc' ∧ H' A = some (.lst vs) ∧ Reps X.K loc' H' acc vs ∧
      Post X.K W σ Q loc H1 ((lc2Go (nxt d) (lc2Turn t tt it1 t1 tt1 te vs1 (wipeE env (own.map (fun z : Str × Nat => z.2)))) m i acc S').bind fun ys S2 => newL ys S2), ⟨FUEL, loc, S, [], [], g0, hS.lay nA, nl, upd_same, .nil, k⟩, ?_⟩
  rintro i m H2 ⟨l1, S1, acc, vs, g1, s1, n1, ha, ra, k1⟩
  cases m with
  | zero => exact k1.elim
  | succ m =>
    have g1' := g1.undel nA
    obtain ⟨j1, j2⟩ := hJ l1 H2 S1 i g1'.toUp s1
    unfold lc2Go at k1
    cases en : nxt d i S1 with
    | none => rw [en] at k1; exact k1.elim
    | some o =>
      cases o with
      | none =>
        rw [en] at k1
        refine .inl ⟨j1 en, ?_⟩
        have k2 : Post X.K W σ Q loc H1 (newL acc S1) := k1
        unfold newL at k2
        split at k2
        · exact k2 _ _ _ (g1.adopt' nA) (s1.adopt' ha n1 ra) (.ref (s1.last A))
        · exact k2.elim
      | some p =>
        rw [en] at k1
        obtain ⟨jg, jy⟩ := j2 p en
        refine .inr ⟨jg, fun H' => ∃ loc' S' acc vs, Grow X.K loc H1 loc' (del A H') ∧ StR X.K loc' S' H' ∧ A ∉ loc' ∧ H' A = some (.lst vs) ∧ Reps X.K loc' H' acc vs ∧
          Post X.K W σ Q loc H1 ((lc2Go (nxt d) (lc2Turn t tt it1 t1 tt1 te vs1 (wipeE env (own.map (fun z : Str × Nat => z.2)))) m (i + 1) acc S').bind fun ys S2 => newL ys S2), fun H' h => ⟨m, Nat.lt_succ_self m, h⟩, fun x H' y => ?_⟩
        obtain ⟨gy, sy, ry⟩ := jy x H' y
        refine ⟨l1, S1, wipeE env (own.map (fun z : Str × Nat => z.2)), p, sy, ((hE.up g1').up gy).wipe _, ry, ?_⟩
        dsimp only [lc2Turn] at k1
        cases et : t p (wipeE env (own.map (fun z : Str × Nat => z.2))) S1 with
        | bad => rw [et] at k1; exact k1
        | exc _ _ _ => rw [et] at k1; exact k1
        | ok env3 S3 =>
          rw [et] at k1
          intro l3 h3 σ3 g3 s3 e3 t3
          have w3 : L2.wipe σ3 (own.map (fun z : Str × Nat => z.2)) = L2.wipe σ (own.map (fun z : Str × Nat => z.2)) := by
            refine wipe_congr (t3.1.trans (wipe_length _ _)) fun j hj => ?_
            rw [t3.2 j fun z => hj (tsv j z), wipe_out hj]
          refine ⟨w3, l3, S3, env3, s3, e3, ?_⟩
          have gg : Grow X.K l1 H2 l3 h3 := gy.trans g3
          rw [Res.bind_ok] at k1
          cases eb : tt env3 S3 with
          | bad => rw [eb] at k1; exact k1
          | exc _ _ _ => rw [eb] at k1; exact k1.elim
          | ok b S4 =>
            rw [eb, Res.bind_ok] at k1
            intro l4 h4 b' g4 s4 e4
            have e4 : b = b' := e4
            subst e4
            have gg4 := gg.trans g4
            cases b with
            | false =>
              have a4 : h4 A = some (.lst vs) := gg4.fra A _ ha n1
              exact ⟨l4, S4, acc, vs, g1.trans (gg4.dels (by rw [a4]; trivial)), s4, gg4.out ha n1, a4, ra.up gg4, k1⟩
            | true =>
              rw [if_pos rfl] at k1
              show tI X.K (fun _ _ _ _ => False) it1 σ3 h4 _
              refine ⟨l4, S4, env3, s4, e3.up g4, ?_⟩
              cases ei : it1 env3 S4 with
              | bad => rw [ei] at k1; exact k1
              | exc _ _ _ => rw [ei] at k1; exact k1.elim
              | ok d1 S5 =>
                rw [ei, Res.bind_ok] at k1
                intro l5 h5 J1 g5 s5 hJ1
                have gg5 := gg4.trans g5
                have a5 : h5 A = some (.lst vs) := gg5.fra A _ ha n1
                have n5 := gg5.out ha n1
                have e5 : SlR X.K l5 h5 env3 σ3 := (e3.up g4).up g5
                -- the inner loop
                refine ⟨fun j f H' => ∃ loc' S' acc vs, Up X.K l5 h5 loc' H' ∧ Grow X.K loc H1 loc' (del A H') ∧ StR X.K loc' S' H' ∧ A ∉ loc' ∧ H' A = some (.lst vs) ∧ Reps X.K loc' H' acc vs ∧
                  Post X.K W σ Q loc H1 ((match lcGo (nxt d1) (lcTurn t1 tt1 te (wipeE env3 vs1)) f j acc S' with
                    | .ok acc' S'' => lc2Go (nxt d) (lc2Turn t tt it1 t1 tt1 te vs1 (wipeE env (own.map (fun z : Str × Nat => z.2)))) m (i + 1) acc' S''
                    | _ => .bad).bind fun ys S2 => newL ys S2), ⟨FUEL, l5, S5, acc, vs, .refl, g1.trans (gg5.dels (by rw [a5]; trivial)), s5, n5, a5, ra.up gg5, k1⟩, ?_⟩
                rintro j f H6 ⟨l6, S6, acc6, vs6, u6, g6, s6, n6, a6, r6, k6⟩
                cases f with
                | zero => exact k6.elim
                | succ f =>
                  obtain ⟨i1, i2⟩ := hJ1 l6 H6 S6 j u6 s6
                  unfold lcGo at k6
                  cases en1 : nxt d1 j S6 with
                  | none => rw [en1] at k6; exact k6.elim
                  | some o1 =>
                    cases o1 with
                    | none =>
                      rw [en1] at k6
                      exact .inl ⟨i1 en1, l6, S6, acc6, vs6, g6, s6, n6, a6, r6, k6⟩
                    | some p1 =>
                      rw [en1] at k6
                      obtain ⟨ig, iy⟩ := i2 p1 en1
                      refine .inr ⟨ig, fun H' => ∃ loc' S' acc vs, Up X.K l5 h5 loc' H' ∧ Grow X.K loc H1 loc' (del A H') ∧ StR X.K loc' S' H' ∧ A ∉ loc' ∧ H' A = some (.lst vs) ∧ Reps X.K loc' H' acc vs ∧
                        Post X.K W σ Q loc H1 ((match lcGo (nxt d1) (lcTurn t1 tt1 te (wipeE env3 vs1)) f (j + 1) acc S' with
                          | .ok acc' S'' => lc2Go (nxt d) (lc2Turn t tt it1 t1 tt1 te vs1 (wipeE env (own.map (fun z : Str × Nat => z.2)))) m (i + 1) acc' S''
                          | _ => .bad).bind fun ys S2 => newL ys S2), fun H' h => ⟨f, Nat.lt_succ_self f, h⟩, fun x1 H7 y1 => ?_⟩
                      obtain ⟨g7, s7, r7⟩ := iy x1 H7 y1
                      have e7 : SlR X.K l6 H7 env3 σ3 := ⟨e5.1, fun ii pp ee => let ⟨v, e1, r⟩ := e5.2 ii pp ee; ⟨v, e1, Rep.upU (u6.trans g7.toUp) _ _ r⟩⟩
                      refine ⟨l6, S6, wipeE env3 vs1, p1, s7, e7.wipe _, r7, ?_⟩
                      dsimp only [lcTurn] at k6
                      cases et1 : t1 p1 (wipeE env3 vs1) S6 with
                      | bad => rw [et1] at k6; exact k6
                      | exc _ _ _ => rw [et1] at k6; exact k6
                      | ok env8 S8 =>
                        rw [et1] at k6
                        intro l8 h8 σ8 g8 s8 e8 t8
                        have w8 : L2.wipe σ8 vs1 = L2.wipe σ3 vs1 := by
                          refine wipe_congr (t8.1.trans (wipe_length _ _)) fun j hj => ?_
                          rw [t8.2 j fun z => hj (tsv1 j z), wipe_out hj]
                        refine ⟨w8, l8, S8, env8, s8, e8, ?_⟩
                        have gg8 : Grow X.K l6 H6 l8 h8 := g7.trans g8
                        rw [Res.bind_ok] at k6
                        cases eb1 : tt1 env8 S8 with
                        | bad => rw [eb1] at k6; exact k6
                        | exc _ _ _ => rw [eb1] at k6; exact k6.elim
                        | ok b1 S9 =>
                          rw [eb1, Res.bind_ok] at k6
                          intro l9 h9 b9 g9 s9 e9
                          have e9 : b1 = b9 := e9
                          subst e9
                          have gg9 := gg8.trans g9
                          cases b1 with
                          | false =>
                            have a9 : h9 A = some (.lst vs6) := gg9.fra A _ a6 n6
                            exact ⟨l9, S9, acc6, vs6, u6.trans gg9.toUp, g6.trans (gg9.dels (by rw [a9]; trivial)), s9, gg9.out a6 n6, a9, r6.up gg9, k6⟩
                          | true =>
                            refine ⟨l9, S9, env8, s9, e8.up g9, ?_⟩
                            rw [if_pos rfl] at k6
                            cases ee : te env8 S9 with
                            | bad => rw [ee] at k6; exact k6
                            | exc _ _ _ => rw [ee] at k6; exact k6.elim
                            | ok y S10 =>
                              rw [ee, Res.bind_ok] at k6
                              intro l10 h10 z g10 s10 r10
                              have gg10 := gg9.trans g10
                              have a10 : h10 A = some (.lst vs6) := gg10.fra A _ a6 n6
                              have n10 := gg10.out a6 n6
                              have r10' : Reps X.K l10 h10 (acc6 ++ [y]) (vs6 ++ [z]) := (r6.up gg10).append (.cons r10 .nil)
                              have up10 : Up X.K l10 h10 l10 (upd h10 A (.lst (vs6 ++ [z]))) := up_write (by rw [a10]; trivial) fun _ _ h => h
                              have hz : vs6.length < sizeLine := by
                                rw [← r6.length]
                                refine room (acc := acc6) (y := y) (fun ys S' e => ?_) (fun c fs S' e => ?_) k6
                                · dsimp only at e
                                  split at e
                                  · rename_i acc' S'' el
                                    have h1 := lcGo_len _ _ _ _ _ _ el
                                    have h2 := lc2Go_len lc2Turn_len _ _ _ _ _ _ e
                                    rw [List.length_append] at h1
                                    have h3 : acc6.length + 1 ≤ acc'.length := by simpa using h1
                                    omega
                                  · cases e
                                · dsimp only at e
                                  split at e
                                  · exact lc2Go_noexc _ _ _ _ e
                                  · cases e
                              refine ⟨vs6, a10, hz, l10, S10, acc6 ++ [y], vs6 ++ [z], (u6.trans gg10.toUp).trans up10, ?_, ⟨s10.len, s10.nd, fun j o b e1 e2 => (s10.obj j o b e1 e2).keepU up10 (upd_ne fun zz => n10 (by rw [← zz]; exact List.mem_of_getElem? e2))⟩, n10, upd_same, r10'.upU up10, k6⟩
                              rw [del_upd]
                              exact g6.trans (gg10.dels (by rw [a10]; trivial))
theorem de_lc2 (hc : X.calm = true) (hN : X.N.Nodup) (hi : DI X tg iter it) (ok : BlkOk X.N X.env.scope scope own) (hv : ∀ i ∈ vs1, i ∈ own.map (fun z : Str × Nat => z.2)) (tsv : ∀ i ∈ ts, i ∈ own.map (fun z : Str × Nat => z.2)) (tsv1 : ∀ i ∈ ts1, i ∈ vs1)
    (hg : ∀ (s : Shared) (H : Hp) (C : Addr) (cl : List (Str × Addr)) (fp : List Addr), DG (X.blk s H scope (compEnvC scope cl C X.env) fp) tg t ts) (ht : ∀ (s : Shared) (H : Hp) (C : Addr) (cl : List (Str × Addr)) (fp : List Addr), DTs (X.blk s H scope (compEnvC scope cl C X.env) fp) ifs tt)
    (hi1 : ∀ (s : Shared) (H : Hp) (C : Addr) (cl : List (Str × Addr)) (fp : List Addr), DI (X.blk s H scope (compEnvC scope cl C X.env) fp) tg1 iter1 it1)
    (hg1 : ∀ (s : Shared) (H : Hp) (C : Addr) (cl : List (Str × Addr)) (fp : List Addr), DG (X.blk s H scope (compEnvC scope cl C X.env) fp) tg1 t1 ts1) (ht1 : ∀ (s : Shared) (H : Hp) (C : Addr) (cl : List (Str × Addr)) (fp : List Addr), DTs (X.blk s H scope (compEnvC scope cl C X.env) fp) ifs1 tt1)
    (he : ∀ (s : Shared) (H : Hp) (C : Addr) (cl : List (Str × Addr)) (fp : List Addr), DE (X.blk s H scope (compEnvC scope cl C X.env) fp) elt te) (hs : ∀ x, foldedSetIterable iter X.env x = pure x) (hs1 : ∀ env x, foldedSetIterable iter1 env x = pure x) :
    DE X (.ListComp elt [⟨tg, iter, ifs, 0⟩, ⟨tg1, iter1, ifs1, 0⟩] scope pos) (lc2M it t tt it1 t1 tt1 te (own.map (fun z : Str × Nat => z.2)) vs1) := fun W tk =>
  (pe_lc2 (g := tGt X.K t ts) (tt := tB X.K (fun _ _ _ _ => False) tt) (wi1 := tI X.K (fun _ _ _ _ => False) it1) (g1 := tGt X.K t1 ts1) (tt1 := tB X.K (fun _ _ _ _ => False) tt1) (te := tM X.K (fun _ _ _ _ => False) te) hc hN (hi W tk) ok hv (fun s H C cl fp => hg s H C cl fp) (fun s H C cl fp => ht s H C cl fp _ takes_never)
    (fun s H C cl fp => hi1 s H C cl fp _ takes_never) (fun s H C cl fp => hg1 s H C cl fp) (fun s H C cl fp => ht1 s H C cl fp _ takes_never) (fun s H C cl fp => he s H C cl fp _ takes_never) hs hs1).imp fun σ H Q q => lc2_tM tsv tsv1 q
theorem ds_setLc2 {i : Nat} {y : Str} {py spos : Pos} (hc : X.calm = true) (hN : X.N.Nodup) (hy : X.N[i]? = some y) (hyl : X.env.scope.names.lookup y = some .local) (hsw : swapsWith (.ListComp elt [⟨tg, iter, ifs, 0⟩, ⟨tg1, iter1, ifs1, 0⟩] scope pos) (some (.Name y py)) spos.line X.env = pure true)
    (hi : DI X tg iter it) (ok : BlkOk X.N X.env.scope scope own) (hv : ∀ i ∈ vs1, i ∈ own.map (fun z : Str × Nat => z.2)) (tsv : ∀ i ∈ ts, i ∈ own.map (fun z : Str × Nat => z.2)) (tsv1 : ∀ i ∈ ts1, i ∈ vs1)
    (hg : ∀ (s : Shared) (H : Hp) (C : Addr) (cl : List (Str × Addr)) (fp : List Addr), DG (X.blk s H scope (compEnvC scope cl C X.env) fp) tg t ts) (ht : ∀ (s : Shared) (H : Hp) (C : Addr) (cl : List (Str × Addr)) (fp : List Addr), DTs (X.blk s H scope (compEnvC scope cl C X.env) fp) ifs tt)
    (hi1 : ∀ (s : Shared) (H : Hp) (C : Addr) (cl : List (Str × Addr)) (fp : List Addr), DI (X.blk s H scope (compEnvC scope cl C X.env) fp) tg1 iter1 it1)
    (hg1 : ∀ (s : Shared) (H : Hp) (C : Addr) (cl : List (Str × Addr)) (fp : List Addr), DG (X.blk s H scope (compEnvC scope cl C X.env) fp) tg1 t1 ts1) (ht1 : ∀ (s : Shared) (H : Hp) (C : Addr) (cl : List (Str × Addr)) (fp : List Addr), DTs (X.blk s H scope (compEnvC scope cl C X.env) fp) ifs1 tt1)
    (he : ∀ (s : Shared) (H : Hp) (C : Addr) (cl : List (Str × Addr)) (fp : List Addr), DE (X.blk s H scope (compEnvC scope cl C X.env) fp) elt te) (hs : ∀ x, foldedSetIterable iter X.env x = pure x) (hs1 : ∀ env x, foldedSetIterable iter1 env x = pure x) :
    DS X (.Assign [.Name y py] (.ListComp elt [⟨tg, iter, ifs, 0⟩, ⟨tg1, iter1, ifs1, 0⟩] scope pos) spos) (asgS (lc2M it t tt it1 t1 tt1 te (own.map (fun z : Str × Nat => z.2)) vs1) (setG i)) := fun W tk =>
  (ps_setLc2 (g := tGt X.K t ts) (tt := tB X.K (fun _ _ _ _ => False) tt) (wi1 := tI X.K (fun _ _ _ _ => False) it1) (g1 := tGt X.K t1 ts1) (tt1 := tB X.K (fun _ _ _ _ => False) tt1) (te := tM X.K (fun _ _ _ _ => False) te) hc hN hy hyl hsw (hi W tk) ok hv (fun s H C cl fp => hg s H C cl fp) (fun s H C cl fp => ht s H C cl fp _ takes_never)
    (fun s H C cl fp => hi1 s H C cl fp _ takes_never) (fun s H C cl fp => hg1 s H C cl fp) (fun s H C cl fp => ht1 s H C cl fp _ takes_never) (fun s H C cl fp => he s H C cl fp _ takes_never) hs hs1).imp fun D σ H q => by
    refine lc2_tM (W := W) tsv tsv1 (tG.imp (fun v H1 k => ?_) (tS.asg (ts := [i]) q))
    obtain ⟨loc, S, env, p, hS, hE, r, k⟩ := k
    exact k _ _ _ .refl hS (hE.set i r) ⟨by simp, fun j hj => List.getElem?_set_ne fun z => hj (by simp [z])⟩
end
end D

/-! D9: defs: what a call of a def means, its body, its call. -/
namespace D
open PySem PySem.Spec PyProof.Rows L2

/-- a place from which a def is called: its name, how many values come by position, the names of those by keyword -/
structure CallT where
  name : Str
  n : Nat
  ks : List Str

abbrev WE (E : XK) : WX := fun c d _ H => E c d H
def CallRun (P : Program) (w : World) (K : PySem.W.Frag) (mg : Str → Option Value) (base : Heap) (k : Nat) (f : Addr) (n : Nat) (ks : List Str) (φ : List PV → Hs → Res PV) : Prop :=
  ∀ (A : Around) (outer : List Env) (s : Shared) (H : Hp) (us ws : List Value) (vs zs : List V) (Q : VK) (E : XK) (loc : List Addr) (S : Hs) (ps qs : List PV),
    Room k A → A.guards = some [] → Env0 P w K mg base A outer s H → Vals vs us → Vals zs ws → us.length = n → ws.length = ks.length → StR K loc S H → Reps K loc H ps vs → Reps K loc H qs zs →
    PostR K (WE E) (RV K) [] Q loc H (φ (ps ++ qs) S) → codeAny (model P w) A (.call (.ref f) ⟨us, ks.zip ws⟩) (CR (CX P w) outer P w H s Q E) s
structure CallOk (P : Program) (w : World) (K : PySem.W.Frag) (mg : Str → Option Value) (base : Heap) (k : Nat) (t : CallT) (φ : List PV → Hs → Res PV) : Prop where
  ex : ∃ f, mg t.name = some (.ref f) ∧ PySem.W.keepIn K (.ref f) = true ∧ CallRun P w K mg base k f t.n t.ks φ

/-! ### a def by its body -/
def startE (n : Nat) (ps : List PV) : Sl := ps.map some ++ List.replicate (n - ps.length) none
theorem startE_rel {K : PySem.W.Frag} {loc : List Addr} {H : Hp} {N : List Str} : ∀ {ps : List PV} {vs : List V}, Reps K loc H ps vs → SlR K loc H (startE N.length ps) (L2.start N vs) := by
  intro ps vs r
  have hl := r.length
  unfold startE L2.start
  refine ⟨by simp [hl], fun i p e => ?_⟩
  by_cases hi : i < ps.length
  · rw [List.getElem?_append_left (by simpa using hi), List.getElem?_map] at e
    cases q : ps[i]? with
    | none => rw [q] at e; cases e
    | some p' =>
      rw [q] at e
      cases e
      obtain ⟨v, e1, r1⟩ := r.get q
      refine ⟨v, ?_, r1⟩
      rw [List.getElem?_append_left (by simpa [← hl] using hi), List.getElem?_map, e1]
      rfl
  · rw [List.getElem?_append_right (by simpa using hi), List.getElem?_replicate] at e
    split at e <;> cases e
def bodyM (n : Nat) (mb : SM) : List PV → Hs → Res PV := fun ps S => match mb (startE n ps) S with
  | .nx _ S' => .ok .non S'
  | .rt p S' => .ok p S'
  | .exc c fs _ S' => .exc c fs S'
  | _ => .bad
/-- where a parameter's value comes from -/
def pick {α : Type} (idx : List Nat) (xs : List α) : List α := idx.filterMap fun j => xs[j]?
theorem pick_vals {idx : List Nat} {xs : List V} {us : List Value} (r : Vals xs us) : Vals (pick idx xs) (pick idx us) := by
  unfold pick
  induction idx with
  | nil => exact .nil
  | cons j idx ih =>
    rw [List.filterMap_cons, List.filterMap_cons]
    cases e : xs[j]? with
    | none => rw [r.none_of e]; exact ih
    | some x =>
      obtain ⟨u, e1, r1⟩ := r.get e
      rw [e1]
      exact .cons r1 ih
theorem pick_reps {K : PySem.W.Frag} {loc : List Addr} {H : Hp} {idx : List Nat} {ps : List PV} {vs : List V} (r : Reps K loc H ps vs) : Reps K loc H (pick idx ps) (pick idx vs) := by
  unfold pick
  induction idx with
  | nil => exact .nil
  | cons j idx ih =>
    rw [List.filterMap_cons, List.filterMap_cons]
    cases e : ps[j]? with
    | none =>
      have e1 : vs[j]? = none := List.getElem?_eq_none_iff.mpr (by rw [← r.length]; exact List.getElem?_eq_none_iff.mp e)
      rw [e1]; exact ih
    | some x =>
      obtain ⟨u, e1, r1⟩ := r.get e
      rw [e1]
      exact .cons r1 ih
/-- how the given values come to the parameters ps: idx among those by position, those by keyword, the defaults -/
def ShOk (K : PySem.W.Frag) (fd : FuncData) (ps : List Str) (n : Nat) (ks : List Str) (idx : List Nat) (ds : List Value) : Prop :=
  ∀ (s : Shared) (us ws : List Value), K.In s.heap → us.length = n → ws.length = ks.length → BindsTo s fd ⟨us, ks.zip ws⟩ (ps.zip (pick idx (us ++ ws ++ ds)))
section
variable {P : Program} {w : World} {K : PySem.W.Frag} {mg : Str → Option Value} {base : Heap}
theorem fn_run {k : Nat} {f : Addr} {name qual : Str} {params : Arguments} {body : List Stmt} {scope : Scope} {dV kV doc pm cdv ct oc : Value} {an od : Option Addr} {osl : Array (Option Value)} {N ps : List Str} {mb : SM} {n : Nat} {ks : List Str} {idx : List Nat} {ds : List Value} {dvs : List V} {dps : List PV}
    (lk : K.lookup f = some ⟨oc, od, .func (PySem.W.fnOf name qual params body scope dV kV doc pm an cdv ct), osl⟩) (hcd : PySem.W.codeIn K cdv qual = true) (hs : FnScope N ps scope)
    (sh : ShOk K (PySem.W.fnOf name qual params body scope dV kV doc pm an cdv ct) ps n ks idx ds) (hd : Vals dvs ds) (hdp : ∀ loc H, Reps K loc H dps dvs) (hidx : idx.length = ps.length) (hin : ∀ j ∈ idx, j < n + ks.length + ds.length)
    (hb : ∀ (A : Around) (outer : List Env) (s : Shared) (H : Hp) (E : XK), Room k (A.deeper (envOfC qual scope s.heap.objs.size f cdv)) → A.guards = some [] → DSs (cxOf (CX P w) P w K mg base N qual scope f cdv A outer s H E) body mb) :
    CallRun P w K mg base (k + 1) f n ks fun args S => bodyM N.length mb (pick idx (args ++ dps)) S := by
  intro A outer s H us ws vs zs Q E loc S pvs qvs hr hg e0 rv rz hn hk hS rp rq post
  have KX : K.In s.heap := e0.mod.kin.keeps fun b o e => (e0.bs b o e).1
  have lim : s.heap.NoLimit := e0.mod.nolimit.keeps fun b o e => (e0.bs b o e).1
  have bnd := sh s us ws KX hn hk
  have vals : Vals (pick idx (vs ++ zs ++ dvs)) (pick idx (us ++ ws ++ ds)) := pick_vals ((rv.append rz).append hd)
  have reps : Reps K loc H (pick idx (pvs ++ qvs ++ dps)) (pick idx (vs ++ zs ++ dvs)) := pick_reps ((rp.append rq).append (hdp loc H))
  have tot : (us ++ ws ++ ds).length = n + ks.length + ds.length := by rw [List.length_append, List.length_append, hn, hk]
  have pl : ∀ (ix : List Nat), (∀ j ∈ ix, j < n + ks.length + ds.length) → (pick ix (us ++ ws ++ ds)).length = ix.length := by
    intro ix
    induction ix with
    | nil => intro _; rfl
    | cons j ix ih =>
      intro h
      have hj : j < (us ++ ws ++ ds).length := by rw [tot]; exact h j List.mem_cons_self
      unfold pick at ih ⊢
      rw [List.filterMap_cons, List.getElem?_eq_getElem hj]
      show (_ :: _ : List Value).length = _
      rw [List.length_cons, List.length_cons, ih fun i hi => h i (List.mem_cons_of_mem _ hi)]
  have len : (pick idx (vs ++ zs ++ dvs)).length = ps.length := by rw [vals.length, pl idx hin, hidx]
  have kinds : ∀ y ∈ ps.zip (pick idx (us ++ ws ++ ds)), scope.names.lookup y.1 = some .local ∨ (scope.names.lookup y.1 = some .cell ∧ ((cellsFrom (s.heap.objs.size + 1) scope.names []).lookup y.1).isSome = true) := by
    rintro ⟨x, v⟩ hy
    rcases hs.par x (List.of_mem_zip hy).1 with q | q
    · exact .inl q
    · exact .inr ⟨q, PySem.W.cellsFrom_some _ _ _ (.inl q)⟩
  refine codeAny_call_function hr.depth (KX _ _ lk) rfl hs.co hs.gen rfl (PySem.W.codeRec_of KX hcd) (bnd _ _ _ _ ?_)
  refine wpAny_newFunctionEnv_cells hs.kind kinds ?_
  intro env he s1 x
  subst he
  refine ⟨lim.keeps x.toInCall.keep, codeAny_func ?_⟩
  have I : Inv (cxOf (CX P w) P w K mg base N qual scope f cdv A outer s H E) [] (L2.start N (pick idx (vs ++ zs ++ dvs))) H s1 := inv_start hs hr.hd e0 len vals x
  have tk : Takes (cxOf (CX P w) P w K mg base N qual scope f cdv A outer s H E) (WE E) := takes_of rfl rfl rfl rfl
  have go : tS K (WE E) mb { nx := fun _ H' => Q .non H', rt := Q } (L2.start N (pick idx (vs ++ zs ++ dvs))) H := by
    refine ⟨loc, S, startE N.length (pick idx (pvs ++ qvs ++ dps)), hS, startE_rel reps, ?_⟩
    unfold bodyM at post
    dsimp only at post
    cases e : mb (startE N.length (pick idx (pvs ++ qvs ++ dps))) S with
    | nx env' S' => rw [e] at post; exact fun l2 h2 σ2 g2 s2 _ => post l2 h2 .non g2 s2 .non
    | rt p S' => rw [e] at post; exact fun l2 h2 x2 g2 s2 r2 => post l2 h2 x2 g2 s2 r2
    | exc c fs env' S' => rw [e] at post; exact fun l2 h2 σ2 d g2 s2 _ r2 => post l2 h2 d g2 s2 r2
    | bk _ _ => rw [e] at post; exact post.elim
    | ct _ _ => rw [e] at post; exact post.elim
    | bad => rw [e] at post; exact post.elim
  refine wpAny_mono ((hb A outer s H E (hr.deeper _) hg (WE E) tk).run [] s1 _ H _ I go) (fun fl s' hq => ?_) fun e s' hq => hq
  cases fl with
  | ret u =>
    obtain ⟨v, σ', H', J, r', q⟩ := hq
    exact ⟨v, H', J.os, J.bare, J.base, J.hok, r', q⟩
  | next =>
    obtain ⟨σ', H', J, q⟩ := hq
    exact ⟨.non, H', J.os, J.bare, J.base, J.hok, rfl, q⟩
  | brk =>
    obtain ⟨_, _, _, q⟩ := hq
    exact False.elim q
  | cont =>
    obtain ⟨_, _, _, q⟩ := hq
    exact False.elim q
end

/-! ### calls -/
def callF (φ : List PV → Hs → Res PV) (n nk : AM) : EM := bindE n fun ps => bindE nk fun qs _ S => φ (ps ++ qs) S
def DK (X : Cx) (kws : List Keyword) (m : AM) : Prop := ∀ W, Takes X W → PK X kws (tA X.K W m)
theorem _root_.L2.PK.imp {X : Cx} {e : List Keyword} {t t' : TA} (h : PK X e t) (f : ∀ σ H Q, t' σ H Q → t σ H Q) : PK X e t' := ⟨fun pos pins s σ H Q I q => h.run pos pins s σ H Q I (f σ H Q q)⟩
section
variable {X : Cx} {pos p : Pos}
theorem cons_go {m : EM} {n : AM} {W : WX} {σ : St} {H : Hp} {Q : List V → Hp → Prop} (q : tA X.K W (consA m n) σ H Q) : tM X.K W m σ H fun x H1 => tA X.K W n σ H1 fun xs H2 => Q (x :: xs) H2 := by
  obtain ⟨loc, S, env, hS, hE, k⟩ := q
  refine ⟨loc, S, env, hS, hE, ?_⟩
  unfold consA bindE at k
  cases e : m env S with
  | bad => rw [e] at k; exact k
  | exc c fs S1 => rw [e] at k; exact k
  | ok v S1 =>
    rw [e, Res.bind_ok] at k
    dsimp only at k
    intro l1 h1 x g1 s1 r1
    refine ⟨l1, S1, env, s1, hE.up g1, ?_⟩
    cases e2 : n env S1 with
    | bad => rw [e2] at k; exact k
    | exc c fs S2 => rw [e2] at k; exact fun l2 h2 d g2 s2 r2 => k l2 h2 d (g1.trans g2) s2 r2
    | ok vs S2 =>
      rw [e2, Res.bind_ok] at k
      exact fun l2 h2 xs g2 s2 r2 => k l2 h2 (x :: xs) (g1.trans g2) s2 (.cons (Rep.up g2 _ _ r1) r2)
theorem dk_nil : DK X [] nilA := fun W tk => pk_nil.imp fun σ H Q q => by
  obtain ⟨loc, S, env, hS, hE, k⟩ := q
  exact k _ _ _ .refl hS .nil
theorem dk_cons {e : Expr} {kws : List Keyword} {nm : Option Str} {kpos : Pos} {m : EM} {n : AM} (h : DE X e m) (hr : DK X kws n) : DK X (⟨nm, e, kpos⟩ :: kws) (consA m n) := fun W tk =>
  (pk_cons (h W tk) (hr W tk)).imp fun σ H Q q => cons_go q
/-- the callee runs -/
theorem run_call {k : Nat} {f : Addr} {nn : Nat} {ks : List Str} {φ : List PV → Hs → Res PV} {W : WX} (tk : Takes X W) (hr : Room k X.A) (hg : X.A.guards = some []) (F : CallRun X.prog X.w X.K X.mg X.base k f nn ks φ) {pins : List (Addr × Obj)} {s : Shared} {σ : St} {H : Hp} {Q : VK} {us ws : List Value} {vs zs : List V} {loc : List Addr} {S : Hs} {ps qs : List PV}
    (I : Inv X pins σ H s) (rv : Vals vs us) (rz : Vals zs ws) (h1 : us.length = nn) (h2 : ws.length = ks.length) (hS : StR X.K loc S H) (rp : Reps X.K loc H ps vs) (rq : Reps X.K loc H qs zs) (post : Post X.K W σ Q loc H (φ (ps ++ qs) S)) :
    wpAny (model X.prog X.w) X.A (call (.ref f) us (ks.zip ws)) (EP X pins σ Q) X.xe s := by
  refine wpAny_call (codeAny_mono (F X.A X.stack s H us ws vs zs Q (fun c d H' => W c d σ H') loc S ps qs hr hg I.env0 rv rz h1 h2 hS rp rq ?_) fun r s' hq => ?_)
  · cases e : φ (ps ++ qs) S with
    | bad => rw [e] at post; exact post
    | ok v S1 => rw [e] at post; exact post
    | exc c fs S1 => rw [e] at post; exact post
  · cases r with
    | error e => exact tk e s' (XE.of_call I (fun cls d H' h => h) hq)
    | ok fl =>
      cases fl with
      | ret u => exact I.after hq
      | next => exact False.elim hq
      | brk => exact False.elim hq
      | cont => exact False.elim hq
theorem kw_names {env : Env} : ∀ (kws : List Keyword) (ks : List Str), kws.map (·.arg) = ks.map some → (backToKw pos (keywordEach kws env)).all (·.1.isSome) = true ∧ (backToKw pos (keywordEach kws env)).filterMap (·.1) = ks ∧ (backToKw pos (keywordEach kws env)).any (·.1.isNone) = false
  | [], [], _ => ⟨rfl, rfl, rfl⟩
  | [], _ :: _, h => by cases h
  | _ :: _, [], h => by cases h
  | ⟨nm, e, kp⟩ :: kws, k :: ks, h => by
    rw [List.map_cons, List.map_cons] at h
    have h1 : nm = some k := (List.cons.inj h).1
    obtain ⟨i1, i2, i3⟩ := kw_names kws ks (List.cons.inj h).2
    subst h1
    refine ⟨?_, ?_, ?_⟩
    · show (true && (backToKw pos (keywordEach kws env)).all (·.1.isSome)) = true
      rw [i1]; rfl
    · show k :: (backToKw pos (keywordEach kws env)).filterMap (·.1) = k :: ks
      rw [i2]
    · show (false || (backToKw pos (keywordEach kws env)).any (·.1.isNone)) = false
      rw [i3]; rfl
/-- the values of a call, with their numbers -/
theorem call_vals {φ : List PV → Hs → Res PV} {n nk : AM} {W : WX} {σ : St} {H : Hp} {Q : VK} {a b : Nat} (hnl : ∀ env S ps S', n env S = .ok ps S' → ps.length = a) (hkl : ∀ env S ps S', nk env S = .ok ps S' → ps.length = b) (h : tM X.K W (callF φ n nk) σ H Q) :
    tA X.K W n σ H fun xs H1 => xs.length = a ∧ tA X.K W nk σ H1 fun zs H2 => zs.length = b ∧ ∃ loc S ps qs, StR X.K loc S H2 ∧ Reps X.K loc H2 ps xs ∧ Reps X.K loc H2 qs zs ∧ Post X.K W σ Q loc H2 (φ (ps ++ qs) S) := by
  obtain ⟨loc, S, env, hS, hE, q⟩ := h
  refine ⟨loc, S, env, hS, hE, ?_⟩
  unfold callF bindE at q
  cases e : n env S with
  | bad => rw [e] at q; exact q
  | exc c fs S1 => rw [e] at q; exact q
  | ok ps S1 =>
    rw [e, Res.bind_ok] at q
    dsimp only at q
    intro l1 H1 xs g1 s1 r1
    refine ⟨by rw [← r1.length, hnl _ _ _ _ e], l1, S1, env, s1, hE.up g1, ?_⟩
    cases e2 : nk env S1 with
    | bad => rw [e2] at q; exact q
    | exc c fs S2 => rw [e2] at q; exact fun l2 h2 d g2 s2 r2 => q l2 h2 d (g1.trans g2) s2 r2
    | ok qs S2 =>
      rw [e2, Res.bind_ok] at q
      intro l2 H2 zs g2 s2 r2
      exact ⟨by rw [← r2.length, hkl _ _ _ _ e2], l2, S2, ps, qs, s2, r1.up g2, r2, PostR.up (g1.trans g2) q⟩
theorem nilA_go {W : WX} {σ : St} {H : Hp} {Q : List V → Hp → Prop} (h : tA X.K W nilA σ H Q) : Q [] H := by
  obtain ⟨loc, S, env, hS, hE, q⟩ := h
  exact q _ _ _ .refl hS .nil
theorem nilA_len {env : Sl} {S S' : Hs} {ps : List PV} (h : nilA env S = .ok ps S') : ps.length = 0 := by cases h; rfl
theorem consA_len {m : EM} {n : AM} {a : Nat} (hn : ∀ env S ps S', n env S = .ok ps S' → ps.length = a) : ∀ env S ps S', consA m n env S = .ok ps S' → ps.length = a + 1 := fun env S ps S' h => by
  unfold consA bindE at h
  cases e : m env S with
  | bad => rw [e] at h; cases h
  | exc _ _ _ => rw [e] at h; cases h
  | ok v S1 =>
    rw [e, Res.bind_ok] at h
    dsimp only at h
    cases e2 : n env S1 with
    | bad => rw [e2] at h; cases h
    | exc _ _ _ => rw [e2] at h; cases h
    | ok vs S2 =>
      rw [e2, Res.bind_ok] at h
      cases h
      rw [List.length_cons, hn _ _ _ _ e2]
section
variable {k : Nat} {t : CallT} {φ : List PV → Hs → Res PV} {e : Expr} {es : List Expr} {kw : Keyword} {kws : List Keyword} {n nk : AM}
theorem de_call0 (hr : Room k X.A) (hgd : X.A.guards = some []) (C : CallOk X.prog X.w X.K X.mg X.base k t φ) (hg : Gl X t.name) (hdb : (t.name == ("__debug__" : Str)) = false) (hn : t.n = 0) (hks : t.ks = []) : DE X (.Call (.Name t.name p) [] [] pos) (callF φ nilA nilA) := fun W tk => by
  obtain ⟨f, hm, hkp, F⟩ := C.ex
  refine ⟨fun pins s σ H Q I h => ?_⟩
  refine wpAny_Call_Name_kw (ld_glob I hg hm ?_ hdb)
  refine PySem.W.callWith_K0 I.kIn hkp ?_
  obtain ⟨_, q⟩ := nilA_go (call_vals (fun _ _ _ _ => nilA_len) (fun _ _ _ _ => nilA_len) h)
  obtain ⟨_, loc, S, ps, qs, hS, rp, rq, post⟩ := nilA_go q
  have q := run_call (us := []) (ws := []) tk hr hgd F I .nil .nil hn.symm (by rw [hks]; rfl) hS rp rq post
  rw [hks] at q
  exact q
theorem de_callP (hr : Room k X.A) (hgd : X.A.guards = some []) (C : CallOk X.prog X.w X.K X.mg X.base k t φ) (hg : Gl X t.name) (hdb : (t.name == ("__debug__" : Str)) = false) (hs : NoStars (e :: es)) (ha : DA X (e :: es) n) (hnl : ∀ env S ps S', n env S = .ok ps S' → ps.length = t.n) (hks : t.ks = []) :
    DE X (.Call (.Name t.name p) (e :: es) [] pos) (callF φ n nilA) := fun W tk => by
  obtain ⟨f, hm, hkp, F⟩ := C.ex
  refine ⟨fun pins s σ H Q I h => ?_⟩
  refine wpAny_Call_Name_kw (ld_glob I hg hm ?_ hdb)
  refine PySem.W.callWith_K (h₀ := X.base) I.ok.mod.kin hkp (thn ((ha W tk).run pos pins s σ H _ I (call_vals hnl (fun _ _ _ _ => nilA_len) h)) fun us s1 ⟨xs, H1, I1, r1, q1⟩ => ⟨I1.kIn, ?_⟩) (hs e List.mem_cons_self _ _) (any_plain fun x hx => hs x (List.mem_cons_of_mem _ hx))
  obtain ⟨_, loc, S, ps, qs, hS, rp, rq, post⟩ := nilA_go q1.2
  have q := run_call (ws := []) tk hr hgd F I1 r1 .nil (by rw [← r1.length]; exact q1.1) (by rw [hks]; rfl) hS rp rq post
  rw [hks] at q
  exact q
theorem de_callK0 (hr : Room k X.A) (hgd : X.A.guards = some []) (C : CallOk X.prog X.w X.K X.mg X.base k t φ) (hg : Gl X t.name) (hdb : (t.name == ("__debug__" : Str)) = false) (hk : DK X kws nk) (hn : t.n = 0) (hks : kws.map (·.arg) = t.ks.map some) (hkl : ∀ env S ps S', nk env S = .ok ps S' → ps.length = t.ks.length) :
    DE X (.Call (.Name t.name p) [] kws pos) (callF φ nilA nk) := fun W tk => by
  obtain ⟨f, hm, hkp, F⟩ := C.ex
  refine ⟨fun pins s σ H Q I h => ?_⟩
  refine wpAny_Call_Name_kw (ld_glob I hg hm ?_ hdb)
  obtain ⟨kn1, kn2, kn3⟩ := kw_names (pos := pos) (env := X.env) kws t.ks hks
  obtain ⟨_, q0⟩ := nilA_go (call_vals (fun _ _ _ _ => nilA_len) hkl h)
  refine PySem.W.callWith_KW0 (h₀ := X.base) I.ok.mod.kin hkp kn1 (thn ((hk W tk).run pos pins s σ H _ I q0) fun ws s2 ⟨zs, H2, I2, rz, lz, loc, S, ps, qs, hS, rp, rq, post⟩ => ⟨I2.kIn, ?_⟩) (by rw [kn3]; rfl)
  rw [kn2]
  exact run_call (us := []) tk hr hgd F I2 .nil rz hn.symm (by rw [← rz.length]; exact lz) hS rp rq post
theorem de_callK (hr : Room k X.A) (hgd : X.A.guards = some []) (C : CallOk X.prog X.w X.K X.mg X.base k t φ) (hg : Gl X t.name) (hdb : (t.name == ("__debug__" : Str)) = false) (hs : NoStars (e :: es)) (ha : DA X (e :: es) n) (hk : DK X kws nk) (hnl : ∀ env S ps S', n env S = .ok ps S' → ps.length = t.n) (hks : kws.map (·.arg) = t.ks.map some) (hkl : ∀ env S ps S', nk env S = .ok ps S' → ps.length = t.ks.length) :
    DE X (.Call (.Name t.name p) (e :: es) kws pos) (callF φ n nk) := fun W tk => by
  obtain ⟨f, hm, hkp, F⟩ := C.ex
  refine ⟨fun pins s σ H Q I h => ?_⟩
  refine wpAny_Call_Name_kw (ld_glob I hg hm ?_ hdb)
  obtain ⟨kn1, kn2, kn3⟩ := kw_names (pos := pos) (env := X.env) kws t.ks hks
  refine PySem.W.callWith_KW (h₀ := X.base) I.ok.mod.kin hkp kn1 (thn ((ha W tk).run pos pins s σ H _ I (call_vals hnl hkl h)) fun us s1 ⟨xs, H1, I1, r1, q1⟩ => thn ((hk W tk).run pos pins s1 σ H1 _ I1 q1.2) fun ws s2 ⟨zs, H2, I2, rz, lz, loc, S, ps, qs, hS, rp, rq, post⟩ => ⟨I2.kIn, ?_⟩) (by rw [kn3, any_plain hs]; rfl) (hs e List.mem_cons_self _ _)
  rw [kn2]
  exact run_call (us := us) tk hr hgd F I2 r1 rz (by rw [← r1.length]; exact q1.1) (by rw [← rz.length]; exact lz) hS rp rq post
end
end
end D

/-! D10: the law's end; a def by its record; small rules for the printer. -/
namespace D
open PySem PySem.Spec PyProof.Rows L2

theorem reps_ints {K : PySem.W.Frag} {loc : List Addr} {H : Hp} : ∀ ns : List Int, Reps K loc H (ns.map PV.int) (ns.map V.int)
  | [] => .nil
  | n :: ns => .cons (.int n) (reps_ints ns)
theorem onlyFrz {K : PySem.W.Frag} {H : Hp} {a : Addr} {vs : List V} (hO : Only H) (h : SqL K H a vs) : FrzL K H a vs := by
  rcases h with (h | h) | h
  · rcases hO a with z | ⟨o, xs, z⟩
    · rw [h] at z; cases z
    · rw [h] at z; cases z
  · exact .inl h
  · exact .inr h
/-- the law's call, where the promise wants plain guards -/
theorem law_end {P : Program} {w : World} {K : PySem.W.Frag} {mg mb : Str → Option Value} {k : Nat} {f a : Addr} {t : Shared} {us : List Value} {ns : List Int} {φ : List PV → Hs → Res PV} {S' : Hs}
    (KX : K.In t.heap) (hn : t.heap.Ns mainGlobals mg) (hb : t.heap.Ns builtinsNs mb) (hx : ∀ x : Str, x ≠ "__name__" → mb x = bootBuiltins x) (hlim : t.heap.NoLimit) (hg : t.gens = #[])
    (ha : t.heap.get? a = some { cls := .type "list", data := .seq us.toArray }) (hi : IntsAre us ns) (hl : ns.length ≤ sizeLine) (hr : Room k callerA)
    (F : ∀ base : Heap, K.In base → base.Ns mainGlobals mg → CallRun P w K mg base k f 1 [] φ) (hφ : φ [.cl (ns.map PV.int)] [] = .ok (.bl true) S') :
    codeAny (model P w) callerA (.call (.ref f) ⟨[.ref a], []⟩) (fun r t' => r = .ok (.ret (.bool true)) ∧ OldK t.heap t'.heap ∧ t'.os = t.os ∧ AllBare t'.gens) t := by
  have go : ∀ H : Hp, Only H → SqL K H a (ns.map V.int) → HOk P w H t.heap → (∀ b u, H b = some u → b = a ∧ K.lookup a = none) →
      codeAny (model P w) callerA (.call (.ref f) ⟨[.ref a], []⟩) (fun r t' => r = .ok (.ret (.bool true)) ∧ OldK t.heap t'.heap ∧ t'.os = t.os ∧ AllBare t'.gens) t := by
    intro H hO hS hok only
    have free : ∀ {b : Addr}, (H b = none → False) → b = a ∧ K.lookup a = none := fun {b} h => by
      cases q : H b with
      | none => exact (h q).elim
      | some u => exact only b u q
    have dict : ∀ {b : Addr} {m : Str → Option Value}, t.heap.Ns b m → (hidT t.heap H).Ns b m := fun {b m} ⟨o, es, ep, e, d, r⟩ => by
      refine ⟨o, es, ep, hidT_get e ?_, d, r⟩
      refine Decidable.byContradiction fun n => ?_
      obtain ⟨rfl, _⟩ := free n
      rw [ha] at e
      cases e
      cases (show Data.seq us.toArray _ = Data.dict es ep from d)
    have kin : K.In (hidT t.heap H) := fun b o e => hidT_get (KX b o e) (Decidable.byContradiction fun n => by
      obtain ⟨rfl, z⟩ := free n
      rw [z] at e; cases e)
    have md : Mod K mg (hidT t.heap H) := ⟨kin, dict hn, ⟨mb, dict hb, hx⟩, let ⟨mc, h1, h2⟩ := hlim; ⟨mc, dict h1, h2⟩⟩
    have env0 : Env0 P w K mg (hidT t.heap H) callerA [] t H := ⟨rfl, md, fun b o e => of_hidT e, Nat.le_of_eq (hidT_size _ _), trivial, fun b hb => (by cases hb), hok, .of_eq hg⟩
    have post : PostR K (WE fun _ _ _ => False) (RV K) [] (fun v _ => v = .bl true) [] H (φ ([.cl (ns.map PV.int)] ++ []) []) := by
      rw [List.append_nil, hφ]
      intro l2 h2 x _ _ r
      cases r
      rfl
    have run := F _ kin (dict hn) callerA [] t H [.ref a] [] [.ref a] [] (fun v _ => v = .bl true) (fun _ _ _ => False) [] [] [.cl (ns.map PV.int)] [] hr rfl env0 (.cons rfl .nil) .nil rfl rfl ⟨rfl, List.nodup_nil, fun i o b e _ => by cases e⟩ (.cons (.cl (onlyFrz hO hS) (reps_ints ns)) .nil) .nil post
    refine codeAny_mono run fun r t' h => ?_
    cases r with
    | error e =>
      obtain ⟨_, _, _, _, _, _, _, _, _, _, _, _, z⟩ := h
      exact z.elim
    | ok fl =>
      cases fl with
      | ret u =>
        obtain ⟨v, H', os, bare, un, hok', r', q⟩ := h
        cases (show v = .bl true from q)
        cases (show u = Value.bool true from r')
        refine ⟨rfl, OldK.of_keep fun b o e => ?_, os, bare⟩
        cases q : H b with
        | none => exact un.keep b o e q (by intro z; cases z) (by simp)
        | some u =>
          rcases hO b with z | ⟨ob, xs, z⟩
          · rw [q] at z; cases z
          · have e2 := (hok' b _ (un.frzs b ob _ z)).1
            have e1 := (hok b _ z).1
            rw [e] at e1; cases e1
            exact e2
      | _ => exact False.elim h
  have vv := vals_ints hi
  have ll := hi.length
  cases hk : K.lookup a with
  | some o =>
    have e := KX a o hk
    rw [ha] at e
    cases e
    exact go (fun _ => none) (fun _ => .inl rfl) (.inr ⟨_, us.toArray, _, hk, rfl, rfl, rfl, by rw [List.size_toArray, ll]; exact hl, by simpa using vv⟩) (fun b u z => by cases (show (none : Option HO) = some u from z)) fun b u z => by cases (show (none : Option HO) = some u from z)
  | none =>
    refine go (fun b => if b = a then some (.frz { cls := .type "list", data := .seq us.toArray } (.lst (ns.map V.int))) else none) (fun b => ?_) (.inl (.inr ⟨_, if_pos rfl⟩)) (fun b u z => ?_) fun b u z => ?_
    · by_cases hb : b = a
      · exact .inr ⟨_, _, if_pos hb⟩
      · exact .inl (if_neg hb)
    · by_cases hb : b = a
      · cases (if_pos hb).symm.trans z
        subst hb
        exact ⟨ha, by rw [List.length_map]; exact hl, us, _, vv, ha⟩
      · cases (if_neg hb).symm.trans z
    · by_cases hb : b = a
      · exact ⟨hb, hk⟩
      · cases (if_neg hb).symm.trans z
/-- what the head leaves, by the law's own value -/
theorem walk_end {l : PySem.W.OpenLaw} {n k : Nat} {q : Program} {loose : List Str} {XP : (Str → Option Value) → Heap → Prop} {YP : World → Heap → Prop} {d : DefRec} (φ : List PV → Hs → Res PV)
    (hn : l.most = some n) (hn2 : n ≤ sizeLine) (hdf : d.params.defaults = []) (hr : Room k callerA)
    (F : ∀ (w : World) (mg : Str → Option Value) (f : Addr) (h : Heap), YP w h → h.Ns mainGlobals mg → mg d.name = some (.ref f) →
      ∃ K : PySem.W.Frag, K.In h ∧ ∀ base : Heap, K.In base → base.Ns mainGlobals mg → CallRun l.prog w K mg base k f 1 [] φ)
    (hφ : ∀ ns : List Int, ns.length ≤ n → ∃ S', φ [.cl (ns.map PV.int)] [] = .ok (.bl true) S') :
    PySem.W.WalkO q loose XP YP l.row.toRowW d [] (fun f vs => PySem.call f vs) := by
  refine Att.attach_call hn hdf fun w s0 t mg mb f o pm cd doc a us ns G Y ho hd hcd hmg hobj hints hlen hg => ?_
  obtain ⟨K, KX, hF⟩ := F w mg f _ Y G.T.g hmg
  obtain ⟨S', e⟩ := hφ ns hlen
  exact law_end KX G.T.g G.T.b G.T.builtins G.T.nolimit hg hobj hints (Nat.le_trans hlen hn2) hr hF e

/-! ### the context of a def, and of its blocks -/
/-- what the rules ask of a context -/
structure Gd (k : Nat) (N : List Str) (X : Cx) : Prop where
  hN : X.N = N
  nd : N.Nodup
  calm : X.calm = true
  room : Room k X.A
  gd : X.A.guards = some []
  po : PassesOwn (model X.prog X.w) X.A X.env X.xe
theorem Gd.blk {k : Nat} {N : List Str} {X : Cx} (g : Gd k N X) {s : Shared} {H : Hp} {scope : Scope} {cenv : Env} {fp : List Addr} : Gd k N (X.blk s H scope cenv fp) :=
  ⟨g.hN, g.nd, g.calm, g.room, g.gd, PassesOwn.never⟩
section
variable {P : Program} {w : World} {K : PySem.W.Frag} {mg : Str → Option Value} {base : Heap}
theorem gd_of {N : List Str} {qual : Str} {scope : Scope} {f : Addr} {cdv : Value} {A : Around} {outer : List Env} {s : Shared} {H : Hp} {E : XK} {k : Nat} (hN : N.Nodup) (hr : Room k (A.deeper (envOfC qual scope s.heap.objs.size f cdv))) (hg : A.guards = some []) :
    Gd k N (cxOf (CX P w) P w K mg base N qual scope f cdv A outer s H E) := ⟨rfl, hN, rfl, hr, hg, passes_of rfl⟩
/-- a def without defaults, all values by position or by name -/
theorem fn_ok {k : Nat} {x qual : Str} {params : Arguments} {body : List Stmt} {scope : Scope} {f : Addr} {fd : FuncData} {N ps : List Str} {mb : SM} {n : Nat} {ks : List Str} {idx : List Nat} (F : FunD K x qual params body scope [] [] f fd) (hm : mg x = some (.ref f)) (hs : FnScope N ps scope)
    (sh : ∀ (kV doc pm : Value) (an : Option Addr) (cdv ct : Value) (s : Shared) (us ws : List Value), us.length = n → ws.length = ks.length → BindsTo s (PySem.W.fnOf x qual params body scope .none kV doc pm an cdv ct) ⟨us, ks.zip ws⟩ (ps.zip (pick idx (us ++ ws))))
    (hidx : idx.length = ps.length) (hin : ∀ j ∈ idx, j < n + ks.length)
    (hb : ∀ X : Cx, X.prog = P → X.w = w → X.K = K → X.mg = mg → X.base = base → X.env.scope = scope → (∀ y, X.fn y = true) → Gd k N X → DSs X body mb) :
    CallOk P w K mg base (k + 1) ⟨x, n, ks⟩ fun args S => bodyM N.length mb (pick idx args) S := by
  obtain ⟨oc, od, dV, kV, doc, pm, an, cdv, ct, osl, rfl, lk, hcd, hD, _⟩ := F.ex
  obtain rfl : dV = .none := hD.elim (fun z => z.2) fun z => absurd rfl z.1
  refine ⟨f, hm, F.kp, ?_⟩
  have q := fn_run (P := P) (w := w) (mg := mg) (base := base) (k := k) (mb := mb) (n := n) (ks := ks) (idx := idx) (ds := []) (dvs := []) (dps := []) lk hcd hs (fun s us ws _ h1 h2 => by rw [List.append_nil]; exact sh kV doc pm an cdv ct s us ws h1 h2) .nil (fun _ _ => .nil) hidx (by simpa using hin)
    (fun A outer s H E hr hg => hb _ rfl rfl rfl rfl rfl rfl (fun _ => rfl) (gd_of hs.nd hr hg))
  simpa using q
end
end D

/-! D11: the rules as the printer writes them: over a context that is known by its scope. -/
namespace D
open PySem PySem.Spec PyProof.Rows L2

structure Pg where
  P : Program
  w : World
  K : PySem.W.Frag
  mg : Str → Option Value
  base : Heap
abbrev CO (G : Pg) (k : Nat) (t : CallT) (φ : List PV → Hs → Res PV) : Prop := CallOk G.P G.w G.K G.mg G.base k t φ
def bltL : List Str := ["len", "max", "min", "tuple", "list", "sorted", "repr", "range", "zip", "enumerate", "isinstance", "any", "all", "sum", "int", "str", "bool", "dict", "set", "ValueError", "RuntimeError", "TypeError", "IndexError", "KeyError"]
structure Ct (G : Pg) (k : Nat) (N : List Str) (sc : Scope) (fb : Str → Bool) (X : Cx) : Prop extends Gd k N X where
  hP : X.prog = G.P
  hw : X.w = G.w
  hK : X.K = G.K
  hm : X.mg = G.mg
  hb : X.base = G.base
  hs : X.env.scope = sc
  kd : sc.kind = .function
  fn : ∀ y, fb y = true → X.fn y = true
  bl : ∀ x ∈ bltL, X.mg x = none
abbrev allB : Str → Bool := fun _ => true
abbrev blkB (scope : Scope) : Str → Bool := fun x => scope.names.lookup x == some .cell

/-! ### names, checked -/
def vB (N : List Str) (sc : Scope) (i : Nat) (x : Str) : Bool :=
  decide (N[i]? = some x) && (match sc.names.lookup x with
    | some .local => true
    | some .cell => true
    | some .free => true
    | _ => false) && !(x == ("__debug__" : Str)) && !(x == ("__classdict__" : Str))
def tB' (N : List Str) (sc : Scope) (fb : Str → Bool) (i : Nat) (x : Str) : Bool :=
  decide (N[i]? = some x) && (match sc.names.lookup x with
    | some .local => true
    | some .cell => fb x
    | _ => false)
def lB (N : List Str) (sc : Scope) (i : Nat) (x : Str) : Bool :=
  decide (N[i]? = some x) && decide (sc.names.lookup x = some .local)
def gB (sc : Scope) (x : Str) : Bool := decide (sc.names.lookup x = some .globalImplicit) && !(x == ("__debug__" : Str))
section
variable {G : Pg} {k : Nat} {N : List Str} {sc : Scope} {fb : Str → Bool} {X : Cx} {pos p : Pos}
theorem vB.ok {i : Nat} {x : Str} (h : vB N sc i x = true) : N[i]? = some x ∧ Vis sc x ∧ (x == ("__debug__" : Str)) = false ∧ (x == ("__classdict__" : Str)) = false := by
  unfold vB at h
  simp only [Bool.and_eq_true, decide_eq_true_eq, Bool.not_eq_true'] at h
  obtain ⟨⟨⟨h1, h2⟩, h3⟩, h4⟩ := h
  refine ⟨h1, ?_, h3, h4⟩
  split at h2
  · exact .inl (by assumption)
  · exact .inr (.inl (by assumption))
  · exact .inr (.inr (by assumption))
  · cases h2
theorem tB'.ok {i : Nat} {x : Str} (h : tB' N sc fb i x = true) : N[i]? = some x ∧ Loc sc x ∧ (fb x = true ∨ sc.names.lookup x = some .local) := by
  unfold tB' at h
  simp only [Bool.and_eq_true, decide_eq_true_eq] at h
  obtain ⟨h1, h2⟩ := h
  refine ⟨h1, ?_⟩
  split at h2
  · exact ⟨.inl (by assumption), .inr (by assumption)⟩
  · exact ⟨.inr (by assumption), .inl h2⟩
  · cases h2
theorem lB.ok {i : Nat} {x : Str} (h : lB N sc i x = true) : N[i]? = some x ∧ sc.names.lookup x = some .local := by
  unfold lB at h
  simpa using h
theorem Ct.gl (c : Ct G k N sc fb X) {x : Str} (h : gB sc x = true) : Gl X x ∧ (x == ("__debug__" : Str)) = false := by
  unfold gB at h
  simp only [Bool.and_eq_true, decide_eq_true_eq, Bool.not_eq_true'] at h
  refine ⟨?_, h.2⟩
  show X.env.scope.names.lookup x = _
  rw [c.hs]
  exact h.1
theorem Ct.blk (c : Ct G k N sc fb X) {s : Shared} {H : Hp} {scope : Scope} {cl : List (Str × Addr)} {C : Addr} {fp : List Addr} (hk : scope.kind = .function) : Ct G k N (relS scope sc) (blkB scope) (X.blk s H scope (compEnvC scope cl C X.env) fp) :=
  ⟨c.toGd.blk, c.hP, c.hw, c.hK, c.hm, c.hb, by rw [← c.hs]; rfl, hk, fun y h => h, c.bl⟩
theorem Ct.co (c : Ct G k N sc fb X) {t : CallT} {φ : List PV → Hs → Res PV} (h : CO G k t φ) : CallOk X.prog X.w X.K X.mg X.base k t φ := by
  rw [c.hP, c.hw, c.hK, c.hm, c.hb]; exact h

/-! ### expressions -/
theorem e_var (c : Ct G k N sc fb X) {i : Nat} {x : Str} (h : vB N sc i x = true) : DE X (.Name x pos) (varM i) := by
  obtain ⟨h1, h2, h3, h4⟩ := vB.ok h
  exact de_var (by rw [c.hN]; exact h1) (by rw [c.hs]; exact h2) h3 h4
variable {a b e : Expr} {ma mb me : EM} {es : List Expr} {ms : AM}
theorem ns {e : Expr} (h : ∀ es env, starEach (e :: es) env = (false, eval e env) :: starEach es env) : NoStar e := h
theorem nss_nil : NoStars [] := fun _ h => by cases h
theorem nss_cons (h : NoStar e) (hs : NoStars es) : NoStars (e :: es) := fun x hx => by
  rcases List.mem_cons.mp hx with rfl | hx
  · exact h
  · exact hs x hx
/-- arguments with their form -/
structure DAs (X : Cx) (es : List Expr) (m : AM) (n : Nat) : Prop where
  da : DA X es m
  ns : NoStars es
  ln : ∀ env S ps S', m env S = .ok ps S' → ps.length = n
theorem a_nil : DAs X [] nilA 0 := ⟨da_nil, nss_nil, fun _ _ _ _ => nilA_len⟩
theorem a_cons {n : Nat} (he : DE X e me) (hs : DAs X es ms n) (h : ∀ es env, starEach (e :: es) env = (false, eval e env) :: starEach es env := by exact fun _ _ => rfl) : DAs X (e :: es) (consA me ms) (n + 1) :=
  ⟨da_cons h he hs.da, nss_cons h hs.ns, consA_len hs.ln⟩
structure DKs (X : Cx) (kws : List Keyword) (m : AM) (ks : List Str) : Prop where
  dk : DK X kws m
  nm : kws.map (·.arg) = ks.map some
  ln : ∀ env S ps S', m env S = .ok ps S' → ps.length = ks.length
theorem k_nil : DKs X [] nilA [] := ⟨dk_nil, rfl, fun _ _ _ _ => nilA_len⟩
theorem k_cons {nm : Str} {kws : List Keyword} {ks : List Str} {kpos : Pos} (he : DE X e me) (hs : DKs X kws ms ks) : DKs X (⟨some nm, e, kpos⟩ :: kws) (consA me ms) (nm :: ks) :=
  ⟨dk_cons he hs.dk, by rw [List.map_cons, List.map_cons, hs.nm], consA_len hs.ln⟩
theorem e_tup {n kk : Nat} (h : DAs X es ms n) : DE X (.Tuple es kk pos) (tupE ms) := de_tup h.da
theorem e_lst {n : Nat} (h : DAs X es ms n) : DE X (.List es pos) (lstE ms) := de_lst h.da
theorem e_bin (c : Ct G k N sc fb X) {op : Operator} (ha : DE X a ma) (hb : DE X b mb) : DE X (.BinOp a op b pos) (op2 (binP op) ma mb) := de_bin (d_bin op) ha hb
theorem e_neg (ha : DE X a ma) : DE X (.UnaryOp .USub a pos) (op1 negP ma) := de_un d_neg ha
theorem e_cmp (c : Ct G k N sc fb X) {op : CmpOp} (ha : DE X a ma) (hb : DE X b mb) (hm : behindInMarks op b = false := by rfl) : DE X (.Compare a [op] [b] pos) (op2 (cmpP op) ma mb) := de_cmp (d_cmp c.room op) ha hb hm
theorem t_cmp (c : Ct G k N sc fb X) {op : CmpOp} (ha : DE X a ma) (hb : DE X b mb) (hm : behindInMarks op b = false := by rfl) : DT X (.Compare a [op] [b] pos) (truM (op2 (cmpP op) ma mb)) := dt_cmp (d_cmp c.room op) ha hb hm
theorem e_get (c : Ct G k N sc fb X) (ha : DE X a ma) (hb : DE X b mb) (h : PlainIx b := by exact fun _ _ => rfl) : DE X (.Subscript a b pos) (op2 getP ma mb) := de_get c.room ha hb h
theorem t_val (he : DE X e me) (h : ∀ whole, isTrue e X.env whole = (do let v ← whole; standAt e.pos; holding [v] (truthy v)) := by exact fun _ => rfl) : DT X e (truM me) := dt_val he h
section
variable {n : Nat} (c : Ct G k N sc fb X) (h : DAs X (e :: es) ms n)
include c h
theorem e_len (hg : gB sc "len" = true) : DE X (.Call (.Name "len" p) (e :: es) [] pos) (callM lenP ms) := de_callB d_len (c.gl hg).1 (c.bl _ (by decide)) (by decide +kernel) h.ns h.da (by decide) (c.gl hg).2
theorem e_max (hg : gB sc "max" = true) : DE X (.Call (.Name "max" p) (e :: es) [] pos) (callM max2P ms) := de_callB (d_max2 c.calm) (c.gl hg).1 (c.bl _ (by decide)) (by decide +kernel) h.ns h.da (by decide) (c.gl hg).2
theorem e_min (hg : gB sc "min" = true) : DE X (.Call (.Name "min" p) (e :: es) [] pos) (callM min2P ms) := de_callB (d_min2 c.calm) (c.gl hg).1 (c.bl _ (by decide)) (by decide +kernel) h.ns h.da (by decide) (c.gl hg).2
theorem e_tuple (hg : gB sc "tuple" = true) : DE X (.Call (.Name "tuple" p) (e :: es) [] pos) (callM tupleP ms) := de_callTy d_tuple (c.gl hg).1 (c.bl _ (by decide)) (by decide +kernel) h.ns h.da (by decide) (c.gl hg).2
theorem e_list (hg : gB sc "list" = true) : DE X (.Call (.Name "list" p) (e :: es) [] pos) (callM listP ms) := de_callTy d_list (c.gl hg).1 (c.bl _ (by decide)) (by decide +kernel) h.ns h.da (by decide) (c.gl hg).2
theorem e_sorted (hg : gB sc "sorted" = true) : DE X (.Call (.Name "sorted" p) (e :: es) [] pos) (callM sortP ms) := de_callB (d_sorted c.room) (c.gl hg).1 (c.bl _ (by decide)) (by decide +kernel) h.ns h.da (by decide) (c.gl hg).2
theorem e_repr (hg : gB sc "repr" = true) : DE X (.Call (.Name "repr" p) (e :: es) [] pos) (callM reprP ms) := de_callB (d_repr c.room c.gd) (c.gl hg).1 (c.bl _ (by decide)) (by decide +kernel) h.ns h.da (by decide) (c.gl hg).2
end
section
variable {t : CallT} {φ : List PV → Hs → Res PV} {kw : Keyword} {kws : List Keyword} {mk : AM}
theorem e_call0 (c : Ct G k N sc fb X) (C : CO G k t φ) (hg : gB sc t.name = true) (hn : t.n = 0 := by rfl) (hks : t.ks = [] := by rfl) : DE X (.Call (.Name t.name p) [] [] pos) (callF φ nilA nilA) :=
  de_call0 c.room c.gd (c.co C) (c.gl hg).1 (c.gl hg).2 hn hks
theorem e_callP (c : Ct G k N sc fb X) (C : CO G k t φ) (hg : gB sc t.name = true) (h : DAs X (e :: es) ms t.n) (hks : t.ks = [] := by rfl) : DE X (.Call (.Name t.name p) (e :: es) [] pos) (callF φ ms nilA) :=
  de_callP c.room c.gd (c.co C) (c.gl hg).1 (c.gl hg).2 h.ns h.da h.ln hks
theorem e_callK0 (c : Ct G k N sc fb X) (C : CO G k t φ) (hg : gB sc t.name = true) (h : DKs X kws mk t.ks) (hn : t.n = 0 := by rfl) : DE X (.Call (.Name t.name p) [] kws pos) (callF φ nilA mk) :=
  de_callK0 c.room c.gd (c.co C) (c.gl hg).1 (c.gl hg).2 h.dk hn h.nm h.ln
theorem e_callK (c : Ct G k N sc fb X) (C : CO G k t φ) (hg : gB sc t.name = true) (h : DAs X (e :: es) ms t.n) (hk : DKs X kws mk t.ks) : DE X (.Call (.Name t.name p) (e :: es) kws pos) (callF φ ms mk) :=
  de_callK c.room c.gd (c.co C) (c.gl hg).1 (c.gl hg).2 h.ns h.da hk.dk h.ln hk.nm hk.ln
end
theorem p_nil : DP X pos [] [] nilP := dp_nil
theorem e_dict {keys : List (Option Expr)} {values : List Expr} {m : PM} (h : DP X pos keys values m) (h1 : keys.all (·.isSome) = true := by rfl) (h2 : keys.length = values.length := by rfl) (h3 : keys ≠ [] := by exact List.cons_ne_nil _ _) (h4 : keys.length ≤ 15 := by exact (by decide)) : DE X (.Dict keys values pos) (dispE m) := de_disp h h1 h2 h3 h4

/-! ### what is walked -/
variable {tg e2 : Expr} {elts : List Expr} {kk : Nat} {tpos : Pos}
theorem i_seq (he : DE X e me) : DI X tg e (itM me) := di_seq he
theorem i_range1 {n : Nat} (c : Ct G k N sc fb X) (hg : gB sc "range" = true) (h : DAs X [e] ms n) : DI X tg (.Call (.Name "range" p) [e] [] pos) (rng1M ms) := di_range1 (c.gl hg).1 (c.bl _ (by decide)) (h.ns e (by simp)) h.da
theorem i_range2 {n : Nat} (c : Ct G k N sc fb X) (hg : gB sc "range" = true) (h : DAs X [e, e2] ms n) : DI X tg (.Call (.Name "range" p) [e, e2] [] pos) (rng2M ms) := di_range2 (c.gl hg).1 (c.bl _ (by decide)) (h.ns e (by simp)) (h.ns e2 (by simp)) h.da
theorem i_zip {n : Nat} (c : Ct G k N sc fb X) (hg : gB sc "zip" = true) (h : DAs X [e, e2] ms n) : DI X (.Tuple elts kk tpos) (.Call (.Name "zip" p) [e, e2] [] pos) (zipM ms) := di_zip (c.gl hg).1 (c.bl _ (by decide)) (h.ns e (by simp)) (h.ns e2 (by simp)) h.da
theorem i_enum {n : Nat} (c : Ct G k N sc fb X) (hg : gB sc "enumerate" = true) (h : DAs X [e] ms n) : DI X (.Tuple elts kk tpos) (.Call (.Name "enumerate" p) [e] [] pos) (enumM ms) := di_enum (c.gl hg).1 (c.bl _ (by decide)) (h.ns e (by simp)) h.da

/-! ### targets -/
variable {t : GM} {ts us : List Nat} {u : GsM}
theorem g_nm (c : Ct G k N sc fb X) {i : Nat} {x : Str} (h : tB' N sc fb i x = true) : DG X (.Name x pos) (setG i) [i] := by
  obtain ⟨h1, h2, h3⟩ := tB'.ok h
  exact dg_name (by rw [c.hN]; exact c.nd) (by rw [c.hN]; exact h1) (by rw [c.hs]; exact h2) (h3.imp (c.fn x) fun z => by rw [c.hs]; exact z)
theorem gs_nil : DGs X [] nilG [] := dgs_nil
theorem gs_cons (h : DG X e t ts) (hs : DGs X es u us) (hst : (assignEach (e :: es) X.env).map (·.2) = assign e X.env :: (assignEach es X.env).map (·.2) := by rfl) : DGs X (e :: es) (consG t u) (ts ++ us) := dgs_cons h hs hst
theorem g_tup {n : Nat} (c : Ct G k N sc fb X) (h : DGs X es u ts) (hn : (assignEach es X.env).length = n := by rfl) (hst : (assignEach es X.env).findIdx? (·.1) = none := by rfl) : DG X (.Tuple es kk pos) (tupG n u) ts := dg_tup c.calm h hn hst
theorem g_sub {o i : Expr} {mo mi : EM} (c : Ct G k N sc fb X) (ho : DE X o mo) (hi : DE X i mi)
    (ha : ∀ v, assign (.Subscript o i pos) X.env v = (do
      let ov ← holding [v] (eval o X.env)
      let iv ← holding [v, ov] (eval i X.env)
      standAt pos
      holding [v, ov, iv] (setItem ov iv v)
      release [v, ov, iv] []) := by exact fun _ => rfl) : DG X (.Subscript o i pos) (subG mo mi) [] := dg_sub c.room ho hi ha

/-! ### comprehensions -/
section
variable {elt iter iter1 tg1 : Expr} {ifs ifs1 : List Expr} {scope : Scope} {own : List (Str × Nat)} {it it1 : IM} {t1 : GM} {ts1 vs1 : List Nat} {tt tt1 : TM} {te : EM}
def subB (ts vs : List Nat) : Bool := ts.all fun i => vs.contains i
theorem subB.ok {ts vs : List Nat} (h : subB ts vs = true) : ∀ i ∈ ts, i ∈ vs := fun i hi => by
  have := List.all_eq_true.mp h i hi
  simpa using this
theorem blk_kind {N : List Str} {sc scope : Scope} {own : List (Str × Nat)} (h : blkC N sc scope own = true) : scope.kind = .function := (blkOk_by h).kind
theorem e_lc (c : Ct G k N sc fb X) (own : List (Str × Nat)) (ok : blkC N sc scope own = true) (hi : DI X tg iter it) (tsv : subB ts (own.map (·.2)) = true)
    (hg : ∀ Y, Ct G k N (relS scope sc) (blkB scope) Y → DG Y tg t ts) (ht : ∀ Y, Ct G k N (relS scope sc) (blkB scope) Y → DTs Y ifs tt) (he : ∀ Y, Ct G k N (relS scope sc) (blkB scope) Y → DE Y elt te) (hs : ∀ x, foldedSetIterable iter X.env x = pure x := by exact fun _ => rfl) :
    DE X (.ListComp elt [⟨tg, iter, ifs, 0⟩] scope pos) (lcM it t tt te (own.map (·.2))) :=
  de_lc c.calm (by rw [c.hN]; exact c.nd) hi (by rw [c.hN, c.hs]; exact blkOk_by ok) (subB.ok tsv) (fun s H C cl fp => hg _ (c.blk (blk_kind ok))) (fun s H C cl fp => ht _ (c.blk (blk_kind ok))) (fun s H C cl fp => he _ (c.blk (blk_kind ok))) hs
theorem e_lc2 (c : Ct G k N sc fb X) (own : List (Str × Nat)) (vs1 : List Nat) (ok : blkC N sc scope own = true) (hi : DI X tg iter it) (hv : subB vs1 (own.map (·.2)) = true) (tsv : subB ts (own.map (·.2)) = true) (tsv1 : subB ts1 vs1 = true)
    (hg : ∀ Y, Ct G k N (relS scope sc) (blkB scope) Y → DG Y tg t ts) (ht : ∀ Y, Ct G k N (relS scope sc) (blkB scope) Y → DTs Y ifs tt) (hi1 : ∀ Y, Ct G k N (relS scope sc) (blkB scope) Y → DI Y tg1 iter1 it1) (hg1 : ∀ Y, Ct G k N (relS scope sc) (blkB scope) Y → DG Y tg1 t1 ts1)
    (ht1 : ∀ Y, Ct G k N (relS scope sc) (blkB scope) Y → DTs Y ifs1 tt1) (he : ∀ Y, Ct G k N (relS scope sc) (blkB scope) Y → DE Y elt te) (hs : ∀ x, foldedSetIterable iter X.env x = pure x := by exact fun _ => rfl) (hs1 : ∀ env x, foldedSetIterable iter1 env x = pure x := by exact fun _ _ => rfl) :
    DE X (.ListComp elt [⟨tg, iter, ifs, 0⟩, ⟨tg1, iter1, ifs1, 0⟩] scope pos) (lc2M it t tt it1 t1 tt1 te (own.map (·.2)) vs1) :=
  de_lc2 c.calm (by rw [c.hN]; exact c.nd) hi (by rw [c.hN, c.hs]; exact blkOk_by ok) (subB.ok hv) (subB.ok tsv) (subB.ok tsv1) (fun s H C cl fp => hg _ (c.blk (blk_kind ok))) (fun s H C cl fp => ht _ (c.blk (blk_kind ok)))
    (fun s H C cl fp => hi1 _ (c.blk (blk_kind ok))) (fun s H C cl fp => hg1 _ (c.blk (blk_kind ok))) (fun s H C cl fp => ht1 _ (c.blk (blk_kind ok))) (fun s H C cl fp => he _ (c.blk (blk_kind ok))) hs hs1
/-- does a comprehension's value trade places with a name at once -/
def swB (sc scope : Scope) (y : Str) (l1 l2 : Nat) : Bool := sc.names.lookup y == some .local && l1 == l2 && !(scope.names.any fun (n, q) => n == y && (q == .local || q == .cell))
theorem Ct.swaps (c : Ct G k N sc fb X) {y : Str} {py : Pos} {l : Nat} {gens : List Comprehension} : swapsWith (.ListComp elt gens scope pos) (some (.Name y py)) l X.env = pure (swB sc scope y py.line pos.line) := by
  have e1 : X.env.blockKind = .function := by
    unfold Env.blockKind
    rw [c.hs, c.kd]
    rfl
  have e2 : X.env.kindOf y = sc.names.lookup y := by rw [← c.hs]; rfl
  show (pure (X.env.blockKind == .function && X.env.kindOf y == some .local && py.line == pos.line && _) : Sem Bool) = _
  rw [e1, e2]
  rfl
theorem swB.loc {sc scope : Scope} {y : Str} {l1 l2 : Nat} (h : swB sc scope y l1 l2 = true) : sc.names.lookup y = some .local := by
  unfold swB at h
  simp only [Bool.and_eq_true] at h
  exact eq_of_beq h.1.1
theorem s_setLc {i : Nat} {y : Str} {py spos : Pos} (c : Ct G k N sc fb X) (own : List (Str × Nat)) (hy : tB' N sc fb i y = true) (ok : blkC N sc scope own = true) (hi : DI X tg iter it) (tsv : subB ts (own.map (·.2)) = true)
    (hg : ∀ Y, Ct G k N (relS scope sc) (blkB scope) Y → DG Y tg t ts) (ht : ∀ Y, Ct G k N (relS scope sc) (blkB scope) Y → DTs Y ifs tt) (he : ∀ Y, Ct G k N (relS scope sc) (blkB scope) Y → DE Y elt te) (hs : ∀ x, foldedSetIterable iter X.env x = pure x := by exact fun _ => rfl) :
    DS X (.Assign [.Name y py] (.ListComp elt [⟨tg, iter, ifs, 0⟩] scope pos) spos) (asgS (lcM it t tt te (own.map (·.2))) (setG i)) := by
  obtain ⟨h1, h2, h3⟩ := tB'.ok hy
  have sw := c.swaps (elt := elt) (scope := scope) (pos := pos) (y := y) (py := py) (l := spos.line) (gens := [⟨tg, iter, ifs, 0⟩])
  cases q : swB sc scope y py.line pos.line with
  | true =>
    rw [q] at sw
    have h2' := swB.loc q
    exact ds_setLc c.calm (by rw [c.hN]; exact c.nd) (by rw [c.hN]; exact h1) (by rw [c.hs]; exact h2') sw hi (by rw [c.hN, c.hs]; exact blkOk_by ok) (subB.ok tsv) (fun s H C cl fp => hg _ (c.blk (blk_kind ok))) (fun s H C cl fp => ht _ (c.blk (blk_kind ok))) (fun s H C cl fp => he _ (c.blk (blk_kind ok))) hs
  | false =>
    rw [q] at sw
    exact ds_set (by rw [c.hN]; exact c.nd) (by rw [c.hN]; exact h1) (by rw [c.hs]; exact h2) (e_lc c own ok hi tsv hg ht he hs) sw (h3.imp (c.fn y) fun z => by rw [c.hs]; exact z)
theorem s_setLc2 {i : Nat} {y : Str} {py spos : Pos} (c : Ct G k N sc fb X) (own : List (Str × Nat)) (vs1 : List Nat) (hy : tB' N sc fb i y = true) (ok : blkC N sc scope own = true) (hi : DI X tg iter it) (hv : subB vs1 (own.map (·.2)) = true) (tsv : subB ts (own.map (·.2)) = true) (tsv1 : subB ts1 vs1 = true)
    (hg : ∀ Y, Ct G k N (relS scope sc) (blkB scope) Y → DG Y tg t ts) (ht : ∀ Y, Ct G k N (relS scope sc) (blkB scope) Y → DTs Y ifs tt) (hi1 : ∀ Y, Ct G k N (relS scope sc) (blkB scope) Y → DI Y tg1 iter1 it1) (hg1 : ∀ Y, Ct G k N (relS scope sc) (blkB scope) Y → DG Y tg1 t1 ts1)
    (ht1 : ∀ Y, Ct G k N (relS scope sc) (blkB scope) Y → DTs Y ifs1 tt1) (he : ∀ Y, Ct G k N (relS scope sc) (blkB scope) Y → DE Y elt te) (hs : ∀ x, foldedSetIterable iter X.env x = pure x := by exact fun _ => rfl) (hs1 : ∀ env x, foldedSetIterable iter1 env x = pure x := by exact fun _ _ => rfl) :
    DS X (.Assign [.Name y py] (.ListComp elt [⟨tg, iter, ifs, 0⟩, ⟨tg1, iter1, ifs1, 0⟩] scope pos) spos) (asgS (lc2M it t tt it1 t1 tt1 te (own.map (·.2)) vs1) (setG i)) := by
  obtain ⟨h1, h2, h3⟩ := tB'.ok hy
  have sw := c.swaps (elt := elt) (scope := scope) (pos := pos) (y := y) (py := py) (l := spos.line) (gens := [⟨tg, iter, ifs, 0⟩, ⟨tg1, iter1, ifs1, 0⟩])
  cases q : swB sc scope y py.line pos.line with
  | true =>
    rw [q] at sw
    have h2' := swB.loc q
    exact ds_setLc2 c.calm (by rw [c.hN]; exact c.nd) (by rw [c.hN]; exact h1) (by rw [c.hs]; exact h2') sw hi (by rw [c.hN, c.hs]; exact blkOk_by ok) (subB.ok hv) (subB.ok tsv) (subB.ok tsv1) (fun s H C cl fp => hg _ (c.blk (blk_kind ok))) (fun s H C cl fp => ht _ (c.blk (blk_kind ok)))
      (fun s H C cl fp => hi1 _ (c.blk (blk_kind ok))) (fun s H C cl fp => hg1 _ (c.blk (blk_kind ok))) (fun s H C cl fp => ht1 _ (c.blk (blk_kind ok))) (fun s H C cl fp => he _ (c.blk (blk_kind ok))) hs hs1
  | false =>
    rw [q] at sw
    exact ds_set (by rw [c.hN]; exact c.nd) (by rw [c.hN]; exact h1) (by rw [c.hs]; exact h2) (e_lc2 c own vs1 ok hi hv tsv tsv1 hg ht hi1 hg1 ht1 he hs hs1) sw (h3.imp (c.fn y) fun z => by rw [c.hs]; exact z)
end

/-! ### statements -/
variable {body orelse rest : List Stmt} {m n : SM} {tm : TM}
theorem s_set {i : Nat} {x : Str} {pos' : Pos} (c : Ct G k N sc fb X) (h : tB' N sc fb i x = true) (he : DE X e me) (hs : swapsWith e (some (.Name x pos')) pos.line X.env = pure false := by rfl) : DS X (.Assign [.Name x pos'] e pos) (asgS me (setG i)) := by
  obtain ⟨h1, h2, h3⟩ := tB'.ok h
  exact ds_set (by rw [c.hN]; exact c.nd) (by rw [c.hN]; exact h1) (by rw [c.hs]; exact h2) he hs (h3.imp (c.fn x) fun z => by rw [c.hs]; exact z)
theorem s_asg (he : DE X e me) (hg : DG X tg t ts) (hw : swappedStores [tg] e X.env = pure none) (hs : swapsWithSole [tg] e pos.line X.env = pure false := by rfl) (h1 : (assignEach [tg] X.env).map (·.2) = [assign tg X.env] := by rfl) : DS X (.Assign [tg] e pos) (asgS me t) := ds_asg he hg hs hw h1
/-- not all of the targets are names of the frame -/
def farB (sc : Scope) : List Expr → Bool
  | [] => false
  | .Name x _ :: r => sc.names.lookup x != some .local || farB sc r
  | _ :: _ => true
theorem far_names {sc : Scope} {line : Nat} {f : Expr → Option Str} (hf : ∀ x p, f (.Name x p) = if sc.names.lookup x == some .local && p.line == line then some x else none) (hf2 : ∀ e, (∀ x p, e ≠ .Name x p) → f e = none) : ∀ ts : List Expr, farB sc ts = true → (ts.filterMap f).length < ts.length
  | [], h => by cases h
  | t :: r, h => by
    have le : (r.filterMap f).length ≤ r.length := List.length_filterMap_le _ _
    by_cases ht : ∃ x p, t = .Name x p
    · obtain ⟨x, p, rfl⟩ := ht
      rw [List.filterMap_cons, hf]
      unfold farB at h
      by_cases q : sc.names.lookup x == some .local
      · have h' : farB sc r = true := by
          rcases Bool.or_eq_true_iff.mp h with z | z
          · rw [bne, q] at z; cases z
          · exact z
        have ih := far_names hf hf2 r h'
        split
        · show _ < r.length + 1; omega
        · show (_ :: _ : List Str).length < r.length + 1
          rw [List.length_cons]; omega
      · have q' : (sc.names.lookup x == some NameKind.local) = false := by simpa using q
        rw [q', Bool.false_and]
        show (r.filterMap f).length < r.length + 1
        omega
    · rw [List.filterMap_cons, hf2 t fun x p z => ht ⟨x, p, z⟩]
      show (r.filterMap f).length < r.length + 1
      omega
theorem Ct.far (c : Ct G k N sc fb X) {tes ves : List Expr} {k1 k2 : Nat} {p1 p2 : Pos} (h : farB sc tes = true) : swappedStores [.Tuple tes k1 p1] (.Tuple ves k2 p2) X.env = pure none := by
  unfold swappedStores
  dsimp only
  have hlt := fun line f hf hf2 => far_names (sc := sc) (line := line) (f := f) hf hf2 tes h
  split
  · rfl
  · split
    · rfl
    · rw [if_pos]
      simp only [Bool.or_eq_true, bne_iff_ne, ne_eq]
      refine .inl (Nat.ne_of_lt (hlt ((tes.head?.map (·.pos.line)).getD 0) _ (fun x p => ?_) fun e he => ?_))
      · rw [← c.hs]; rfl
      · split
        · rename_i x p; exact absurd rfl (he x p)
        · rfl
theorem s_expr (he : DE X e me) (hs : swapsWith e none pos.line X.env = pure false := by rfl) : DS X (.Expr e pos) (exprS me) := ds_expr he hs
theorem s_for (c : Ct G k N sc fb X) {it : IM} (hi : DI X tg e it) (hg : DG X tg t ts) (hb : DSs X body m) (hs : ∀ x, foldedSetIterable e X.env x = pure x := by exact fun _ => rfl) : DS X (.For tg e body [] pos) (forS it t m) := ds_for c.po c.calm hi hg hb hs
theorem s_while (c : Ct G k N sc fb X) (hc : DT X e tm) (hb : DSs X body m) : DS X (.While e body [] pos) (whileS tm m) := ds_while c.po hc hb
def nearB (sc : Scope) (x y : Str) (px py : Pos) (a b : Expr) : Bool := decide (sc.names.lookup x = some .local) && decide (sc.names.lookup y = some .local) && px.line == py.line && !(x == y) && !(foldedForSure 8 a && foldedForSure 8 b) && !(constantsAlone 8 a && constantsAlone 8 b) &&
  (match a with | .Starred .. => false | _ => true) && (match b with | .Starred .. => false | _ => true)
theorem Ct.near (c : Ct G k N sc fb X) {x y : Str} {px py pt pt2 : Pos} {kt k2 : Nat} (h : nearB sc x y px py a b = true) : swappedStores [.Tuple [.Name x px, .Name y py] kt pt] (.Tuple [a, b] k2 pt2) X.env = pure (some [x, y]) := by
  unfold nearB at h
  simp only [Bool.and_eq_true, decide_eq_true_eq, Bool.not_eq_true', beq_iff_eq] at h
  obtain ⟨⟨⟨⟨⟨⟨⟨h1, h2⟩, h3⟩, h4⟩, h5⟩, h6⟩, h7⟩, h8⟩ := h
  have e1 : X.env.blockKind = .function := by
    unfold Env.blockKind
    rw [c.hs, c.kd]
    rfl
  have e2 : X.env.kindOf x = some .local := by
    show X.env.scope.names.lookup x = _
    rw [c.hs]; exact h1
  have e3 : X.env.kindOf y = some .local := by
    show X.env.scope.names.lookup y = _
    rw [c.hs]; exact h2
  have st : ([a, b].any fun (z : Expr) => match z with | .Starred .. => true | _ => false) = false := by
    have hh : ∀ z : Expr, (match z with | .Starred .. => false | _ => true) = true → (match z with | .Starred .. => true | _ => false) = false := fun z hz => by
      cases z <;> first | rfl | exact (Bool.false_ne_true hz).elim
    rw [List.any_cons, List.any_cons, List.any_nil, hh a h7, hh b h8]
    rfl
  have nm : [Expr.Name x px, Expr.Name y py].filterMap (fun (z : Expr) => match z with | .Name id pos => if X.env.kindOf id == some .local && pos.line == (([Expr.Name x px, Expr.Name y py].head?.map (·.pos.line)).getD 0) then some id else none | _ => none) = [x, y] := by
    rw [List.filterMap_cons, List.filterMap_cons, List.filterMap_nil]
    dsimp only
    rw [e2, e3]
    have l1 : (Option.map (fun (z : Expr) => z.pos.line) [Expr.Name x px, Expr.Name y py].head?).getD 0 = px.line := rfl
    rw [l1, ← h3]
    simp
  unfold swappedStores
  dsimp only
  rw [if_neg (by rw [e1]; simp), if_neg]
  case hnc => exact fun z => Bool.false_ne_true (st.symm.trans z)
  erw [nm]
  have dd : ([x, y] : List Str).eraseDups = [x, y] := by
    have h4' : (y == x) = false := by
      have : ¬ y = x := fun z => by subst z; simp at h4
      simpa using this
    simp [List.eraseDups_cons, List.filter_cons, h4']
  rw [dd]
  rw [if_neg (by simp), if_neg, if_neg]
  · simp only [List.all_cons, List.all_nil, Bool.and_true]
    simp [h6]
  · simp only [List.all_cons, List.all_nil, Bool.and_true]
    simp [h5]
theorem s_par {i j : Nat} {x y : Str} {px py pt pt2 : Pos} {kt k2 nn : Nat} (c : Ct G k N sc fb X) (hi : lB N sc i x = true) (hj : lB N sc j y = true) (h : nearB sc x y px py a b = true) (ha : DAs X [a, b] ms nn) : DS X (.Assign [.Tuple [.Name x px, .Name y py] kt pt] (.Tuple [a, b] k2 pt2) pos) (parS i j ms) := by
  obtain ⟨h1, h2⟩ := lB.ok hi
  obtain ⟨h3, h4⟩ := lB.ok hj
  refine ds_par c.calm (by rw [c.hN]; exact c.nd) (by rw [c.hN]; exact h1) (by rw [c.hN]; exact h3) (fun z => ?_) (by rw [c.hs]; exact h2) (by rw [c.hs]; exact h4) ha.da (c.near h)
  subst z
  rw [h1] at h3
  cases h3
  unfold nearB at h
  simp at h
/-- a def, by its record -/
theorem c_fn {x qual : Str} {params : Arguments} {body : List Stmt} {scope : Scope} {f : Addr} {fd : FuncData} {ps : List Str} {mb : SM} {n : Nat} {ks : List Str} {idx : List Nat} (F : FunD G.K x qual params body scope [] [] f fd) (hm : G.mg x = some (.ref f)) (bl : ∀ x ∈ bltL, G.mg x = none) (hs : FnScope N ps scope)
    (sh : ∀ (kV doc pm : Value) (an : Option Addr) (cdv ct : Value) (s : Shared) (us ws : List Value), us.length = n → ws.length = ks.length → BindsTo s (PySem.W.fnOf x qual params body scope .none kV doc pm an cdv ct) ⟨us, ks.zip ws⟩ (ps.zip (pick idx (us ++ ws))))
    (hidx : idx.length = ps.length) (hin : ∀ j ∈ idx, j < n + ks.length) (hb : ∀ X : Cx, Ct G k N scope allB X → DSs X body mb) :
    CO G (k + 1) ⟨x, n, ks⟩ fun args S => bodyM N.length mb (pick idx args) S :=
  fn_ok F hm hs sh hidx hin fun X hP hw hK hm' hbs hsc hfn g => hb X ⟨g, hP, hw, hK, hm', hbs, hsc, hs.kind, fun y _ => hfn y, by rw [hm']; exact bl⟩
end
theorem free_all {K : PySem.W.Frag} {h : Heap} {mg : Str → Option Value} {more : List He.Fa} {fn : List He.DefD} (X : K.In h) (M : h.Ns mainGlobals mg) (c : He.SaysD (bltL.map He.Fa.free ++ more) fn K) : ∀ x ∈ bltL, mg x = none := fun x hx => by
  obtain ⟨i, hi⟩ := List.getElem?_of_mem hx
  refine He.free_ok X M (c.fact i (f := .free x) ?_)
  rw [List.getElem?_append_left (by rw [List.length_map]; exact (List.getElem?_eq_some_iff.mp hi).1), List.getElem?_map, hi]
  rfl
theorem glo_at {K : PySem.W.Frag} {h : Heap} {mg : Str → Option Value} {more : List He.Fa} {fn : List He.DefD} (X : K.In h) (M : h.Ns mainGlobals mg) (c : He.SaysD (bltL.map He.Fa.free ++ more) fn K) (j : Nat) {x : Str} (hj : more[j]? = some (.glo x)) : mg x = some (.ref (He.ga K x)) := by
  refine He.glo_ok X M (c.fact ((bltL.map He.Fa.free).length + j) (f := .glo x) ?_)
  rw [List.getElem?_append_right (Nat.le_add_right _ _), Nat.add_sub_cancel_left]
  exact hj
end D

/-! D12: plain: how a meaning is worked out; loops. -/
namespace D
open PySem PySem.Spec PyProof.Rows L2

theorem nr {α : Sort _} {a b : α} (h : a = b) : a = b := h
def SR.thn (r : SR) (k : Sl → Hs → SR) : SR := match r with
  | .nx env S => k env S
  | r => r
def Res.toS {α : Type} (r : Res α) (env : Sl) (k : α → Hs → SR) : SR := match r with
  | .ok a S => k a S
  | .exc c fs S => .exc c fs env S
  | .bad => .bad
def Res.toG (r : Res Sl) : SR := match r with
  | .ok env S => .nx env S
  | _ => .bad
def SR.toR (r : SR) : Res PV := match r with
  | .nx _ S' => .ok .non S'
  | .rt p S' => .ok p S'
  | .exc c fs _ S' => .exc c fs S'
  | _ => .bad
section
variable {α : Type} {env env' : Sl} {S S' : Hs} {c : EC} {fs : List (Str × PV)} {p : PV} {k : Sl → Hs → SR}
theorem thn_nx : (SR.nx env S).thn k = k env S := nr rfl
theorem thn_rt : (SR.rt p S).thn k = .rt p S := nr rfl
theorem thn_bk : (SR.bk env S).thn k = .bk env S := nr rfl
theorem thn_ct : (SR.ct env S).thn k = .ct env S := nr rfl
theorem thn_exc : (SR.exc c fs env S).thn k = .exc c fs env S := nr rfl
theorem toS_ok {a : α} {k : α → Hs → SR} : (Res.ok a S).toS env k = k a S := nr rfl
theorem toS_exc {k : α → Hs → SR} : (Res.exc c fs S : Res α).toS env k = .exc c fs env S := nr rfl
theorem toG_ok : (Res.ok env S).toG = .nx env S := nr rfl
theorem toR_nx : (SR.nx env S).toR = .ok .non S := nr rfl
theorem toR_rt : (SR.rt p S).toR = .ok p S := nr rfl
theorem toR_exc : (SR.exc c fs env S).toR = .exc c fs S := nr rfl

/-! expressions -/
theorem w_var {i : Nat} : varM i env S = (match env[i]? with | some (some p) => .ok p S | _ => .bad) := nr rfl
theorem w_pure : pureM p env S = .ok p S := nr rfl
theorem w_op2 {f : PV → PV → Hs → Res PV} {a b : EM} : op2 f a b env S = (a env S).bind fun p S1 => (b env S1).bind fun q S2 => f p q S2 := nr rfl
theorem w_op1 {f : PV → Hs → Res PV} {a : EM} : op1 f a env S = (a env S).bind fun p S1 => f p S1 := nr rfl
theorem w_notE {a : EM} : notE a env S = (truM a env S).bind fun b S1 => .ok (.bl (!b)) S1 := nr rfl
theorem w_andE {a b : EM} : andE a b env S = (a env S).bind fun p S1 => (truP p S1).bind fun z S2 => if z = true then b env S2 else .ok p S2 := nr rfl
theorem w_orE {a b : EM} : orE a b env S = (a env S).bind fun p S1 => (truP p S1).bind fun z S2 => if z = true then .ok p S2 else b env S2 := nr rfl
theorem w_ifE {t : TM} {a b : EM} : ifE t a b env S = (t env S).bind fun z S1 => if z = true then a env S1 else b env S1 := nr rfl
theorem w_nil : nilA env S = .ok [] S := nr rfl
theorem w_cons {m : EM} {n : AM} : consA m n env S = (m env S).bind fun p S1 => (n env S1).bind fun ps S2 => .ok (p :: ps) S2 := nr rfl
theorem w_tup {n : AM} : tupE n env S = (n env S).bind fun ps S1 => if ps.length ≤ sizeLine then .ok (.tup ps) S1 else .bad := nr rfl
theorem w_lst {n : AM} : lstE n env S = (n env S).bind fun ps S1 => newL ps S1 := nr rfl
theorem w_call {f : List PV → Hs → Res PV} {n : AM} : callM f n env S = (n env S).bind fun ps S1 => f ps S1 := nr rfl
theorem w_callF {f : List PV → Hs → Res PV} {n nk : AM} : callF f n nk env S = (n env S).bind fun ps S1 => (nk env S1).bind fun qs S2 => f (ps ++ qs) S2 := nr rfl
theorem w_tru {m : EM} : truM m env S = (m env S).bind fun p S1 => truP p S1 := nr rfl
theorem w_notM {m : TM} : notM m env S = (m env S).bind fun b S1 => .ok (!b) S1 := nr rfl
theorem w_andM {m n : TM} : D.andM m n env S = (m env S).bind fun b S1 => if b = true then n env S1 else .ok false S1 := nr rfl
theorem w_orM {m n : TM} : D.orM m n env S = (m env S).bind fun b S1 => if b = true then .ok true S1 else n env S1 := nr rfl
theorem w_yes : yesM env S = .ok true S := nr rfl
theorem w_nilP : nilP env S = .ok [] S := nr rfl
theorem w_consP {mk mv : EM} {r : PM} : consP mk mv r env S = (mk env S).bind fun p S1 => (mv env S1).bind fun q S2 => (r env S2).bind fun ps S3 => .ok ((p, q) :: ps) S3 := nr rfl
def dispR (ps : List (PV × PV)) (S : Hs) : Res PV := match keysP ps with
  | some kvs => if kvs.length ≤ 15 then .ok (.ref S.length) (S ++ [.dct (dmerge [] kvs)]) else .bad
  | none => .bad
theorem w_disp {m : PM} : dispE m env S = (m env S).bind fun ps S1 => dispR ps S1 := nr rfl

/-! statements -/
theorem w_seq {m n : SM} : seqS m n env S = (m env S).thn n := by
  unfold seqS SR.thn
  cases m env S <;> rfl
theorem w_asg {m : EM} {t : GM} : asgS m t env S = (m env S).toS env fun p S1 => (t p env S1).toG := by
  unfold asgS liftS Res.toS
  cases m env S with
  | ok a S1 =>
    dsimp only
    cases t a env S1 <;> rfl
  | exc _ _ _ => rfl
  | bad => rfl
theorem w_ret {m : EM} : retS m env S = (m env S).toS env fun p S1 => .rt p S1 := by
  unfold retS liftS Res.toS
  cases m env S <;> rfl
theorem w_retN : retN env S = .rt .non S := nr rfl
theorem w_expr {m : EM} : exprS m env S = (m env S).toS env fun _ S1 => .nx env S1 := by
  unfold exprS liftS Res.toS
  cases m env S <;> rfl
theorem w_if {t : TM} {m n : SM} : ifS t m n env S = (t env S).toS env fun b S1 => if b = true then m env S1 else n env S1 := by
  unfold ifS liftS Res.toS
  cases e : t env S with
  | ok b S1 => cases b <;> rfl
  | exc _ _ _ => rfl
  | bad => rfl
theorem w_nx : nxS env S = .nx env S := nr rfl
theorem w_par {i j : Nat} {n : AM} : parS i j n env S = (n env S).toS env fun ps S1 => match ps with
    | [p, q] => .nx ((env.set i (some p)).set j (some q)) S1
    | _ => .bad := by
  unfold parS liftS Res.toS
  cases n env S <;> rfl
theorem w_for {it : IM} {t : GM} {m : SM} : forS it t m env S = (it env S).toS env fun d S1 => forGo (nxt d) t m FUEL 0 env S1 := by
  unfold forS liftS Res.toS
  cases it env S <;> rfl
theorem w_while {t : TM} {m : SM} : whileS t m env S = whileGo t m FUEL env S := nr rfl
theorem w_body {n : Nat} {m : SM} {ps : List PV} : bodyM n m ps S = (m (startE n ps) S).toR := by
  unfold bodyM SR.toR
  cases m (startE n ps) S <;> rfl
theorem w_set {i : Nat} : setG i p env S = .ok (env.set i (some p)) S := nr rfl
theorem w_tupG {n : Nat} {u : GsM} {ps : List PV} : tupG n u (.tup ps) env S = if ps.length = n then u ps env S else .bad := nr rfl
theorem w_tpxG {n : Nat} {u : GsM} {ps : List PV} : tupG n u (.tpx ps) env S = if ps.length = n then u ps env S else .bad := nr rfl
theorem w_consG {t : GM} {u : GsM} {r : List PV} : consG t u (p :: r) env S = (t p env S).bind fun env1 S1 => u r env1 S1 := nr rfl
theorem w_nilG : nilG [] env S = .ok env S := nr rfl
theorem w_sub {mo mi : EM} : subG mo mi p env S = (mo env S).bind fun o S1 => (mi env S1).bind fun i S2 => (setP o i p S2).bind fun _ S3 => .ok env S3 := nr rfl

/-! walks -/
theorem w_it {m : EM} : itM m env S = (m env S).bind fun p S1 => match iterP S1 p with
    | some d => .ok d S1
    | none => .bad := nr rfl
def rngR : List PV → Hs → Res ItD := fun ps S => match ps with
  | [.int j] => if -(2 ^ 62) ≤ j ∧ j < 2 ^ 62 then .ok (.rng 0 j.toNat) S else .bad
  | _ => .bad
theorem w_rng1 {n : AM} : rng1M n env S = (n env S).bind fun ps S1 => rngR ps S1 := nr rfl
theorem rngR_int {j : Int} (h : -(2 ^ 62) ≤ j ∧ j < 2 ^ 62) : rngR [.int j] S = .ok (.rng 0 j.toNat) S := if_pos h
def zipR : List PV → Hs → Res ItD := fun ps S1 => match ps with
    | [.tup xs, .tup ys] => .ok (.zip xs ys) S1
    | [.cl xs, .cl ys] => .ok (.zip xs ys) S1
    | _ => .bad
theorem w_zip {n : AM} : zipM n env S = (n env S).bind fun ps S1 => zipR ps S1 := nr rfl
theorem zipR_tup {xs ys : List PV} : zipR [.tup xs, .tup ys] S = .ok (.zip xs ys) S := nr rfl
theorem w_enum {n : AM} : enumM n env S = (n env S).bind fun ps S1 => match ps with
    | [.cl xs] => .ok (.enum xs) S1
    | [.ref r] => (match lstAt S1 r with
      | some _ => .ok (.enumL r) S1
      | none => .bad)
    | _ => .bad := nr rfl
theorem w_lc {it : IM} {t : GM} {tt : TM} {te : EM} {vs : List Nat} : lcM it t tt te vs env S = (it env S).bind fun d S1 => (lcGo (nxt d) (lcTurn t tt te (wipeE env vs)) FUEL 0 [] S1).bind fun ys S2 => newL ys S2 := nr rfl
theorem w_lc2 {it : IM} {t : GM} {tt : TM} {it1 : IM} {t1 : GM} {tt1 : TM} {te : EM} {vs vs1 : List Nat} : lc2M it t tt it1 t1 tt1 te vs vs1 env S = (it env S).bind fun d S1 => (lc2Go (nxt d) (lc2Turn t tt it1 t1 tt1 te vs1 (wipeE env vs)) FUEL 0 [] S1).bind fun ys S2 => newL ys S2 := nr rfl
theorem w_turn {t : GM} {tt : TM} {te : EM} : lcTurn t tt te env p S = (t p env S).bind fun env1 S1 => (tt env1 S1).bind fun b S2 => if b = true then (te env1 S2).bind fun y S3 => .ok (some y) S3 else .ok none S2 := nr rfl
theorem w_turn2 {t : GM} {tt : TM} {it1 : IM} {t1 : GM} {tt1 : TM} {te : EM} {vs1 : List Nat} {acc : List PV} : lc2Turn t tt it1 t1 tt1 te vs1 env p acc S = (t p env S).bind fun env1 S1 => (tt env1 S1).bind fun b S2 => if b = true then (it1 env1 S2).bind fun d1 S3 => lcGo (nxt d1) (lcTurn t1 tt1 te (wipeE env1 vs1)) FUEL 0 acc S3 else .ok acc S2 := nr rfl
end

/-! ### what the primitives give -/
section
variable {S : Hs} {i j : Int} {x y : Str} {xs ys : List PV} {r q : Nat} {p : PV}
theorem p_addI : addP (.int i) (.int j) S = .ok (.int (i + j)) S := nr rfl
theorem p_subI : subP (.int i) (.int j) S = .ok (.int (i - j)) S := nr rfl
theorem p_mulR (h : j.natAbs < 2 ^ 64) : mulP (.int i) (.int j) S = .ok (.int (i * j)) S := if_pos (.inr h)
theorem p_mulL (h : i.natAbs < 2 ^ 64) : mulP (.int i) (.int j) S = .ok (.int (i * j)) S := if_pos (.inl h)
theorem p_div (h : 0 < j ∧ j < 1073741824) : fdivP (.int i) (.int j) S = .ok (.int (i / j)) S := if_pos h
theorem p_mod (h : 0 < j) : modP (.int i) (.int j) S = .ok (.int (i % j)) S := if_pos h
theorem p_addT (h : xs.length + ys.length ≤ sizeLine) : addP (.tup xs) (.tup ys) S = .ok (.tup (xs ++ ys)) S := if_pos h
theorem p_addS (h : x.length + y.length ≤ sizeLine) : addP (.str x) (.str y) S = .ok (.str (x ++ y)) S := if_pos h
theorem p_addL (h1 : S[r]? = some (.lst xs)) (h2 : S[q]? = some (.lst ys)) : addP (.ref r) (.ref q) S = newL (xs ++ ys) S := by
  simp only [addP, lstAt, h1, h2]
theorem p_new (h : xs.length ≤ sizeLine) : newL xs S = .ok (.ref S.length) (S ++ [.lst xs]) := if_pos h
theorem p_lt : ltP (.int i) (.int j) S = .ok (.bl (decide (i < j))) S := nr rfl
theorem p_le : leP (.int i) (.int j) S = .ok (.bl (decide (i ≤ j))) S := nr rfl
theorem p_gt : gtP (.int i) (.int j) S = .ok (.bl (decide (j < i))) S := nr rfl
theorem p_ge : geP (.int i) (.int j) S = .ok (.bl (decide (j ≤ i))) S := nr rfl
theorem p_neg : negP (.int i) S = .ok (.int (-i)) S := nr rfl
theorem p_truB {b : Bool} : truP (.bl b) S = .ok b S := nr rfl
theorem p_truT : truP (.tup xs) S = .ok (!xs.isEmpty) S := nr rfl
theorem p_lenT : lenP [.tup xs] S = .ok (.int xs.length) S := nr rfl
theorem p_lenC : lenP [.cl xs] S = .ok (.int xs.length) S := nr rfl
theorem p_lenL (h : S[r]? = some (.lst xs)) : lenP [.ref r] S = .ok (.int xs.length) S := by
  simp only [lenP, h]
theorem p_max : max2P [.int i, .int j] S = .ok (.int (if j > i then j else i)) S := nr rfl
theorem p_min : min2P [.int i, .int j] S = .ok (.int (if j < i then j else i)) S := nr rfl
theorem p_tupT : tupleP [.tup xs] S = .ok (.tup xs) S := nr rfl
theorem p_tupL (h : S[r]? = some (.lst xs)) : tupleP [.ref r] S = .ok (.tup xs) S := by
  simp only [tupleP, seqOf, lstAt, h]
theorem p_getL (h : S[r]? = some (.lst xs)) : getP (.ref r) (.int i) S = (match atI xs i with | some p => .ok p S | none => .bad) := by
  have e1 : dctAt S r = none := by unfold dctAt; rw [h]
  have e2 : lstAt S r = some xs := by unfold lstAt; rw [h]
  simp only [getP, e1, ixP, seqOf, e2] <;> cases atI xs i <;> rfl
theorem p_getT : getP (.tup xs) (.int i) S = (match atI xs i with | some p => .ok p S | none => .bad) := nr rfl
theorem p_setL (h : S[r]? = some (.lst xs)) : setP (.ref r) (.int i) p S = (match ixN xs.length i with | some j => .ok () (S.set r (.lst (xs.set j p))) | none => .bad) := by
  simp only [setP, h] <;> cases ixN xs.length i <;> rfl
theorem p_iterT : iterP S (.tup xs) = some (.sq xs) := nr rfl
theorem p_iterC : iterP S (.cl xs) = some (.sq xs) := nr rfl
theorem p_iterL (h : S[r]? = some (.lst xs)) : iterP S (.ref r) = some (.lst r) := by
  simp only [iterP, lstAt, h, Option.map]
theorem atI_lt {α : Type} {zs : List α} {k : Int} (h0 : 0 ≤ k) (h : k.toNat < zs.length) : atI zs k = some zs[k.toNat] := by
  obtain ⟨n, rfl⟩ := Int.eq_ofNat_of_zero_le h0
  have h' : n < zs.length := by simpa using h
  exact atI_nat (j := n) (List.getElem?_eq_getElem h')
end
/-! ### loops -/
theorem forGo_inv {nx : Nat → Hs → Option (Option PV)} {t : GM} {body : SM} (I : Nat → Sl → Hs → Prop) (n : Nat) (hend : ∀ env S, I n env S → nx n S = some none)
    (hstep : ∀ i env S, i < n → I i env S → ∃ p env1 S1 env2 S2, nx i S = some (some p) ∧ t p env S = .ok env1 S1 ∧ (body env1 S1 = .nx env2 S2 ∨ body env1 S1 = .ct env2 S2) ∧ I (i + 1) env2 S2) :
    ∀ (f i : Nat) (env : Sl) (S : Hs), i ≤ n → n - i < f → I i env S → ∃ env' S', forGo nx t body f i env S = .nx env' S' ∧ I n env' S' := by
  intro f
  induction f with
  | zero => intro i env S _ h; omega
  | succ f ih =>
    intro i env S hi hf hI
    by_cases e : i = n
    · subst e
      refine ⟨env, S, ?_, hI⟩
      unfold forGo
      rw [hend env S hI]
    · obtain ⟨p, env1, S1, env2, S2, h1, h2, h3, h4⟩ := hstep i env S (by omega) hI
      obtain ⟨env', S', h5, h6⟩ := ih (i + 1) env2 S2 (by omega) (by omega) h4
      refine ⟨env', S', ?_, h6⟩
      unfold forGo
      rw [h1]
      dsimp only
      rw [h2]
      dsimp only
      rcases h3 with h3 | h3 <;> rw [h3] <;> exact h5
/-- the turn goes on, so that J holds -/
def Nx (J : Sl → Hs → Prop) : SR → Prop
  | .nx env S => J env S
  | .ct env S => J env S
  | _ => False
theorem nx_nx {J : Sl → Hs → Prop} {env : Sl} {S : Hs} : Nx J (.nx env S) = J env S := nr rfl
theorem nx_ct {J : Sl → Hs → Prop} {env : Sl} {S : Hs} : Nx J (.ct env S) = J env S := nr rfl
theorem Nx.ex {J : Sl → Hs → Prop} {r : SR} (h : Nx J r) : ∃ env S, (r = .nx env S ∨ r = .ct env S) ∧ J env S := by
  cases r with
  | nx env S => exact ⟨env, S, .inl rfl, h⟩
  | ct env S => exact ⟨env, S, .inr rfl, h⟩
  | _ => exact h.elim
theorem for_inv {nx : Nat → Hs → Option (Option PV)} {t : GM} {body : SM} (I : Nat → Sl → Hs → Prop) (n : Nat) (hn : n < 10000000) (hend : ∀ env S, I n env S → nx n S = some none)
    (hstep : ∀ i env S, i < n → I i env S → ∃ p, nx i S = some (some p) ∧ Nx (I (i + 1)) ((t p env S).toG.thn body)) {env : Sl} {S : Hs} (h0 : I 0 env S) : ∃ env' S', forGo nx t body FUEL 0 env S = .nx env' S' ∧ I n env' S' := by
  refine forGo_inv I n hend (fun i env S hi hI => ?_) FUEL 0 env S (Nat.zero_le _) (by show n - 0 < 20000000; omega) h0
  obtain ⟨p, h1, h2⟩ := hstep i env S hi hI
  cases e : t p env S with
  | ok env1 S1 =>
    rw [e, toG_ok, thn_nx] at h2
    obtain ⟨env2, S2, h3, h4⟩ := h2.ex
    exact ⟨p, env1, S1, env2, S2, h1, e, h3, h4⟩
  | exc _ _ _ => rw [e] at h2; exact h2.elim
  | bad => rw [e] at h2; exact h2.elim
/-- a result, so that Q holds -/
def OkR {α : Type} (Q : α → Hs → Prop) : Res α → Prop
  | .ok a S => Q a S
  | _ => False
theorem okR_ok {α : Type} {Q : α → Hs → Prop} {a : α} {S : Hs} : OkR Q (.ok a S) = Q a S := nr rfl
theorem OkR.ex {α : Type} {Q : α → Hs → Prop} {r : Res α} (h : OkR Q r) : ∃ a S, r = .ok a S ∧ Q a S := by
  cases r with
  | ok a S => exact ⟨a, S, rfl, h⟩
  | _ => exact h.elim
theorem fuel_ok {n : Nat} (h : n < 10000000) : n - 0 < FUEL := by
  show n - 0 < 20000000
  omega
/-- a walk that gathers -/
theorem lcGo_inv {nx : Nat → Hs → Option (Option PV)} {turn : PV → Hs → Res (Option PV)} (I : Nat → List PV → Hs → Prop) (n : Nat) (hend : ∀ acc S, I n acc S → nx n S = some none)
    (hstep : ∀ i acc S, i < n → I i acc S → ∃ p S1, nx i S = some (some p) ∧ ((∃ y, turn p S = .ok (some y) S1 ∧ I (i + 1) (acc ++ [y]) S1) ∨ (turn p S = .ok none S1 ∧ I (i + 1) acc S1))) :
    ∀ (f i : Nat) (acc : List PV) (S : Hs), i ≤ n → n - i < f → I i acc S → ∃ ys S', lcGo nx turn f i acc S = .ok ys S' ∧ I n ys S' := by
  intro f
  induction f with
  | zero => intro i acc S _ h; omega
  | succ f ih =>
    intro i acc S hi hf hI
    by_cases e : i = n
    · subst e
      refine ⟨acc, S, ?_, hI⟩
      unfold lcGo
      rw [hend acc S hI]
    · obtain ⟨p, S1, h1, h2⟩ := hstep i acc S (by omega) hI
      rcases h2 with ⟨y, h2, h3⟩ | ⟨h2, h3⟩
      · obtain ⟨ys, S', h5, h6⟩ := ih (i + 1) _ S1 (by omega) (by omega) h3
        refine ⟨ys, S', ?_, h6⟩
        unfold lcGo
        rw [h1]
        dsimp only
        rw [h2]
        exact h5
      · obtain ⟨ys, S', h5, h6⟩ := ih (i + 1) _ S1 (by omega) (by omega) h3
        refine ⟨ys, S', ?_, h6⟩
        unfold lcGo
        rw [h1]
        dsimp only
        rw [h2]
        exact h5
theorem lc_inv {nx : Nat → Hs → Option (Option PV)} {turn : PV → Hs → Res (Option PV)} (I : Nat → List PV → Hs → Prop) (n : Nat) (hn : n < 10000000) (hend : ∀ acc S, I n acc S → nx n S = some none)
    (hstep : ∀ i acc S, i < n → I i acc S → ∃ p, nx i S = some (some p) ∧ OkR (fun o S1 => I (i + 1) (acc ++ o.toList) S1) (turn p S)) {S : Hs} {acc : List PV} (h0 : I 0 acc S) : ∃ ys S', lcGo nx turn FUEL 0 acc S = .ok ys S' ∧ I n ys S' := by
  refine lcGo_inv I n hend (fun i acc S hi hI => ?_) FUEL 0 acc S (Nat.zero_le _) (by show n - 0 < 20000000; omega) h0
  obtain ⟨p, h1, h2⟩ := hstep i acc S hi hI
  obtain ⟨o, S1, h3, h4⟩ := h2.ex
  cases o with
  | none => exact ⟨p, S1, h1, .inr ⟨h3, by simpa using h4⟩⟩
  | some y => exact ⟨p, S1, h1, .inl ⟨y, h3, h4⟩⟩
/-- a walk over known values whose turns write nothing -/
theorem lcGo_pure {nx : Nat → Hs → Option (Option PV)} {turn : PV → Hs → Res (Option PV)} {S : Hs} {xs : List PV} {g : PV → Option PV} (hx : ∀ i, nx i S = some xs[i]?) (ht : ∀ p ∈ xs, turn p S = .ok (g p) S) (hl : xs.length < 10000000) (acc : List PV) :
    lcGo nx turn FUEL 0 acc S = .ok (acc ++ xs.filterMap g) S := by
  have key : ∀ (f i : Nat) (acc : List PV), xs.length - i < f → lcGo nx turn f i acc S = .ok (acc ++ (xs.drop i).filterMap g) S := by
    intro f
    induction f with
    | zero => intro i acc h; omega
    | succ f ih =>
      intro i acc hf
      unfold lcGo
      rw [hx]
      by_cases hi : i < xs.length
      · rw [List.getElem?_eq_getElem hi]
        dsimp only
        rw [ht _ (List.getElem_mem hi), List.drop_eq_getElem_cons hi, List.filterMap_cons]
        cases e : g xs[i] with
        | none => dsimp only; rw [ih (i + 1) acc (by omega)]
        | some y => dsimp only; rw [ih (i + 1) _ (by omega), List.append_assoc]; rfl
      · rw [List.getElem?_eq_none (by omega)]
        dsimp only
        rw [List.drop_eq_nil_of_le (by omega)]
        simp
  have h := key FUEL 0 acc (by show xs.length - 0 < 20000000; omega)
  simpa using h
theorem lc2Go_pure {nx : Nat → Hs → Option (Option PV)} {turn : PV → List PV → Hs → Res (List PV)} {S : Hs} {xs : List PV} {g : PV → List PV} (hx : ∀ i, nx i S = some xs[i]?) (ht : ∀ p ∈ xs, ∀ acc, turn p acc S = .ok (acc ++ g p) S) (hl : xs.length < 10000000) :
    lc2Go nx turn FUEL 0 [] S = .ok (xs.flatMap g) S := by
  have key : ∀ (f i : Nat) (acc : List PV), xs.length - i < f → lc2Go nx turn f i acc S = .ok (acc ++ (xs.drop i).flatMap g) S := by
    intro f
    induction f with
    | zero => intro i acc h; omega
    | succ f ih =>
      intro i acc hf
      unfold lc2Go
      rw [hx]
      by_cases hi : i < xs.length
      · rw [List.getElem?_eq_getElem hi]
        dsimp only
        rw [ht _ (List.getElem_mem hi), List.drop_eq_getElem_cons hi, List.flatMap_cons]
        dsimp only
        rw [ih (i + 1) _ (by omega), List.append_assoc]
      · rw [List.getElem?_eq_none (by omega)]
        dsimp only
        rw [List.drop_eq_nil_of_le (by omega)]
        simp
  have h := key FUEL 0 [] (by show xs.length - 0 < 20000000; omega)
  simpa using h
theorem lcGo_map {α : Type} {nx : Nat → Hs → Option (Option PV)} {turn : PV → Hs → Res (Option PV)} {S : Hs} {xs : List α} {f : α → PV} {g : α → Option PV} (hx : ∀ i, nx i S = some (xs.map f)[i]?) (ht : ∀ a ∈ xs, turn (f a) S = .ok (g a) S) (hl : xs.length < 10000000) (acc : List PV) :
    lcGo nx turn FUEL 0 acc S = .ok (acc ++ xs.filterMap g) S := by
  have key : ∀ (k i : Nat) (acc : List PV), xs.length - i < k → lcGo nx turn k i acc S = .ok (acc ++ (xs.drop i).filterMap g) S := by
    intro k
    induction k with
    | zero => intro i acc h; omega
    | succ k ih =>
      intro i acc hf
      unfold lcGo
      rw [hx, List.getElem?_map]
      by_cases hi : i < xs.length
      · rw [List.getElem?_eq_getElem hi]
        dsimp only [Option.map]
        rw [ht _ (List.getElem_mem hi), List.drop_eq_getElem_cons hi, List.filterMap_cons]
        cases e : g xs[i] with
        | none => dsimp only; rw [ih (i + 1) acc (by omega)]
        | some y => dsimp only; rw [ih (i + 1) _ (by omega), List.append_assoc]; rfl
      · rw [List.getElem?_eq_none (by omega)]
        dsimp only [Option.map]
        rw [List.drop_eq_nil_of_le (by omega)]
        simp
  have h := key FUEL 0 acc (by show xs.length - 0 < 20000000; omega)
  simpa using h
theorem lc2Go_map {α : Type} {nx : Nat → Hs → Option (Option PV)} {turn : PV → List PV → Hs → Res (List PV)} {S : Hs} {xs : List α} {f : α → PV} {g : α → List PV} (hx : ∀ i, nx i S = some (xs.map f)[i]?) (ht : ∀ a ∈ xs, ∀ acc, turn (f a) acc S = .ok (acc ++ g a) S) (hl : xs.length < 10000000) :
    lc2Go nx turn FUEL 0 [] S = .ok (xs.flatMap g) S := by
  have key : ∀ (k i : Nat) (acc : List PV), xs.length - i < k → lc2Go nx turn k i acc S = .ok (acc ++ (xs.drop i).flatMap g) S := by
    intro k
    induction k with
    | zero => intro i acc h; omega
    | succ k ih =>
      intro i acc hf
      unfold lc2Go
      rw [hx, List.getElem?_map]
      by_cases hi : i < xs.length
      · rw [List.getElem?_eq_getElem hi]
        dsimp only [Option.map]
        rw [ht _ (List.getElem_mem hi), List.drop_eq_getElem_cons hi, List.flatMap_cons]
        dsimp only
        rw [ih (i + 1) _ (by omega), List.append_assoc]
      · rw [List.getElem?_eq_none (by omega)]
        dsimp only [Option.map]
        rw [List.drop_eq_nil_of_le (by omega)]
        simp
  have h := key FUEL 0 [] (by show xs.length - 0 < 20000000; omega)
  simpa using h
theorem nxt_sq {xs : List PV} {S : Hs} (i : Nat) : nxt (.sq xs) i S = some xs[i]? := rfl
theorem nxt_lst {r : Nat} {xs : List PV} {S : Hs} (h : S[r]? = some (.lst xs)) (i : Nat) : nxt (.lst r) i S = some xs[i]? := by
  show (lstAt S r).map _ = _
  unfold lstAt
  rw [h]
  rfl
theorem nxt_rng {n : Nat} {S : Hs} (i : Nat) : nxt (.rng 0 n) i S = some ((List.range n).map fun (j : Nat) => PV.int j)[i]? := by
  dsimp only [nxt]
  by_cases h : i < n
  · rw [if_pos h, List.getElem?_map, List.getElem?_range h]; simp
  · rw [if_neg h, List.getElem?_eq_none (by simpa using h)]
theorem nxt_zip {xs ys : List PV} {S : Hs} (i : Nat) : nxt (.zip xs ys) i S = some ((xs.zip ys).map fun z => PV.tpx [z.1, z.2])[i]? := by
  dsimp only [nxt]
  rw [List.getElem?_map, List.zip, List.getElem?_zipWith]
  cases xs[i]? <;> cases ys[i]? <;> rfl
theorem nxt_enum {xs : List PV} {S : Hs} (i : Nat) : nxt (.enum xs) i S = some (xs[i]?.map fun z => PV.tpx [.int i, z]) := by
  dsimp only [nxt]
  cases xs[i]? <;> rfl

/-! ### states -/
structure Keeps (S S' : Hs) (ex : List Nat) : Prop where
  len : S.length ≤ S'.length
  same : ∀ i, i < S.length → i ∉ ex → S'[i]? = S[i]?
section
variable {S S' S'' : Hs} {ex : List Nat} {o : PObj} {i j : Nat}
theorem Keeps.refl : Keeps S S ex := ⟨Nat.le_refl _, fun _ _ _ => rfl⟩
theorem Keeps.trans (h : Keeps S S' ex) (k : Keeps S' S'' ex) : Keeps S S'' ex :=
  ⟨Nat.le_trans h.len k.len, fun i hi hx => (k.same i (Nat.lt_of_lt_of_le hi h.len) hx).trans (h.same i hi hx)⟩
theorem Keeps.new : Keeps S (S ++ [o]) ex := ⟨by simp, fun i hi _ => List.getElem?_append_left hi⟩
theorem Keeps.set (h : j ∈ ex) : Keeps S (S.set j o) ex := ⟨by simp, fun i hi hx => List.getElem?_set_ne fun z => hx (by rw [← z]; exact h)⟩
theorem Keeps.at (h : Keeps S S' ex) (e : S[i]? = some o) (hx : i ∉ ex) : S'[i]? = some o := (h.same i (List.getElem?_eq_some_iff.mp e).1 hx).trans e
theorem at_new (e : S[i]? = some o) {o' : PObj} : (S ++ [o'])[i]? = some o := (List.getElem?_append_left (List.getElem?_eq_some_iff.mp e).1).trans e
theorem at_last : (S ++ [o])[S.length]? = some o := by simp
theorem at_set (e : S[i]? = some o) {o' : PObj} : (S.set i o')[i]? = some o' := List.getElem?_set_self (List.getElem?_eq_some_iff.mp e).1
theorem at_else (e : S[i]? = some o) {o' : PObj} (h : j ≠ i) : (S.set j o')[i]? = some o := (List.getElem?_set_ne h).trans e
theorem lt_of_at (e : S[i]? = some o) : i < S.length := (List.getElem?_eq_some_iff.mp e).1
end
end D

/-! D13: plain data: equality, order, sorting, text. -/
namespace D
open PySem PySem.Spec PyProof.Rows L2

/-- how a kind of plain data is written as values -/
structure Enc (α : Type) [DecidableEq α] where
  pv : α → PV
  dt : α → PyData
  dep : Nat
  ok : α → Prop
  sh : α → Prop
  sl : α → Nat
  toD : ∀ S a, D.toD (dep + 1) S (pv a) = some (dt a)
  lay : ∀ a, ok a → (dt a).canLay0 = true
  depth : ∀ a, (dt a).depth ≤ dep
  eqv : ∀ a b, PyData.eqv (dt a) (dt b) = decide (a = b)
  alike : ∀ a b, PySem.W.alike (dt a) (dt b) = true
  show_ : ∀ a, sh a → (dt a).showable = true ∧ (dt a).hasDict = false ∧ (dt a).shown.length ≤ sl a
  inj : ∀ a b, PySem.W.keyToks (dt a) = PySem.W.keyToks (dt b) → a = b

theorem omap_map {α β γ : Type} {f : β → Option γ} {g : α → β} {h : α → γ} : ∀ (xs : List α), (∀ x ∈ xs, f (g x) = some (h x)) → omap f (xs.map g) = some (xs.map h)
  | [], _ => rfl
  | x :: xs, e => by
    rw [List.map_cons, omap, e x List.mem_cons_self, omap_map xs fun y hy => e y (List.mem_cons_of_mem _ hy)]
    rfl
theorem toD_mono {S : Hs} : ∀ (n : Nat) (p : PV) (d : PyData), toD n S p = some d → toD (n + 1) S p = some d
  | 0, _, _, h => by cases h
  | n + 1, p, d, h => by
    have all : ∀ (ps : List PV) (ds : List PyData), omap (toD n S) ps = some ds → omap (toD (n + 1) S) ps = some ds := by
      intro ps
      induction ps with
      | nil => intro ds h; exact h
      | cons p ps ih =>
        intro ds h
        unfold omap at h ⊢
        split at h
        · rename_i y ys e1 e2
          rw [toD_mono n _ _ e1, ih _ e2]
          exact h
        · cases h
    unfold toD at h ⊢
    cases p with
    | tup xs =>
      dsimp only at h ⊢
      cases q : omap (toD n S) xs with
      | none => rw [q] at h; cases h
      | some ds => rw [q] at h; rw [all _ _ q]; exact h
    | cl xs =>
      dsimp only at h ⊢
      cases q : omap (toD n S) xs with
      | none => rw [q] at h; cases h
      | some ds => rw [q] at h; rw [all _ _ q]; exact h
    | ref i =>
      dsimp only at h ⊢
      cases q0 : lstAt S i with
      | none => rw [q0] at h; cases h
      | some xs =>
        rw [q0] at h
        dsimp only at h ⊢
        cases q : omap (toD n S) xs with
        | none => rw [q] at h; cases h
        | some ds => rw [q] at h; rw [all _ _ q]; exact h
    | _ => exact h
theorem toD_le {S : Hs} {n m : Nat} {p : PV} {d : PyData} (hnm : n ≤ m) (h : toD n S p = some d) : toD m S p = some d := by
  induction hnm with
  | refl => exact h
  | step _ ih => exact toD_mono _ _ _ ih

/-! ### kinds of data -/
def eInt : Enc Int where
  pv := .int
  dt := .int
  dep := 0
  ok _ := True
  sh i := i.natAbs.log2 < 1920
  sl i := (toString i : Str).length
  toD _ _ := rfl
  lay _ _ := rfl
  depth _ := by simp [PyData.depth]
  eqv a b := by
    simp only [PyData.eqv]
    by_cases h : a = b <;> simp [h]
  alike _ _ := rfl
  show_ a h := ⟨by simp only [PyData.showable]; exact decide_eq_true h, rfl, Nat.le_of_eq (by simp only [PyData.shown])⟩
  inj a b h := by
    simp only [PySem.W.keyToks] at h
    injection h with h _
    injection h
def eStr : Enc Str where
  pv := .str
  dt := .str
  dep := 0
  ok x := PyData.strOk x = true
  sh x := PyData.strOk x = true
  sl x := 10 * x.length + 2
  toD _ _ := rfl
  lay _ h := by simp only [PyData.canLay0]; exact h
  depth _ := by simp [PyData.depth]
  eqv a b := by
    simp only [PyData.eqv]
    by_cases h : a = b <;> simp [h]
  alike _ _ := rfl
  show_ x h := ⟨rfl, rfl, by
    simp only [PyData.shown]
    refine PySem.StrLaws.reprText_len x fun c hc => ?_
    have h1 := h
    unfold PyData.strOk at h1
    rw [← Array.all_toList] at h1
    have := List.all_eq_true.mp h1 c hc
    have h2 : c < 0x110000 := by simpa using this
    exact Nat.lt_trans h2 (by decide)⟩
  inj a b h := by
    simp only [PySem.W.keyToks] at h
    injection h with h _
    injection h with h
    exact PySem.W.str_of_cps h
section
variable {α : Type} [DecidableEq α] (e : Enc α)
theorem Enc.canAll {xs : List α} (h : ∀ x ∈ xs, e.ok x) : PyData.canLayAll0 (xs.map e.dt) = true := by
  induction xs with
  | nil => rfl
  | cons x xs ih =>
    rw [List.map_cons, PyData.canLayAll0, e.lay x (h x List.mem_cons_self), ih fun y hy => h y (List.mem_cons_of_mem _ hy)]
    rfl
theorem Enc.depAll (xs : List α) : PyData.depthAll (xs.map e.dt) ≤ e.dep := by
  induction xs with
  | nil => simp [PyData.depthAll]
  | cons x xs ih =>
    rw [List.map_cons, PyData.depthAll]
    exact Nat.max_le.mpr ⟨e.depth x, ih⟩
theorem Enc.eqvAll : ∀ xs ys : List α, PyData.eqvAll (xs.map e.dt) (ys.map e.dt) = decide (xs = ys)
  | [], [] => by simp [PyData.eqvAll]
  | [], _ :: _ => by simp [PyData.eqvAll]
  | _ :: _, [] => by simp [PyData.eqvAll]
  | x :: xs, y :: ys => by
    rw [List.map_cons, List.map_cons, PyData.eqvAll, e.eqv, Enc.eqvAll xs ys]
    by_cases h1 : x = y <;> by_cases h2 : xs = ys <;> simp [h1, h2]
theorem Enc.alikeAll : ∀ xs ys : List α, PySem.W.alikeAll (xs.map e.dt) (ys.map e.dt) = true
  | [], _ => by simp [PySem.W.alikeAll]
  | _ :: _, [] => by simp [PySem.W.alikeAll]
  | x :: xs, y :: ys => by
    rw [List.map_cons, List.map_cons, PySem.W.alikeAll, e.alike, Enc.alikeAll xs ys]
    rfl
def slAll {α : Type} (f : α → Nat) : List α → Nat
  | [] => 0
  | x :: xs => f x + 2 + slAll f xs
theorem slAll_le {α : Type} {f : α → Nat} {b : Nat} : ∀ {xs : List α}, (∀ x ∈ xs, f x ≤ b) → slAll f xs ≤ xs.length * (b + 2)
  | [], _ => by simp [slAll]
  | x :: xs, h => by
    have h1 := h x List.mem_cons_self
    have h2 := slAll_le (xs := xs) fun y hy => h y (List.mem_cons_of_mem _ hy)
    rw [slAll, List.length_cons, Nat.succ_mul]
    omega
theorem Enc.shAll {xs : List α} (h : ∀ x ∈ xs, e.sh x) : PyData.showableAll (xs.map e.dt) = true ∧ PyData.hasDictAll (xs.map e.dt) = false ∧ piled (PyData.shownAll (xs.map e.dt)) ≤ slAll e.sl xs := by
  induction xs with
  | nil => exact ⟨rfl, rfl, Nat.le_of_eq (by simp [PyData.shownAll, piled, slAll])⟩
  | cons x xs ih =>
    obtain ⟨i1, i2, i3⟩ := ih fun y hy => h y (List.mem_cons_of_mem _ hy)
    obtain ⟨h1, h2, h3⟩ := e.show_ x (h x List.mem_cons_self)
    refine ⟨?_, ?_, ?_⟩
    · rw [List.map_cons, PyData.showableAll, h1, i1]; rfl
    · rw [List.map_cons, PyData.hasDictAll, h2, i2]; rfl
    · rw [List.map_cons, PyData.shownAll, piled_cons, slAll]
      omega
theorem tupleText_le (ts : List Str) : (tupleText ts).length ≤ piled ts + 3 := by
  unfold tupleText
  rw [strLen_append, strLen_append]
  have e1 : (("(" : String) : Str).length = 1 := rfl
  have e2 : ((if ts.length == 1 then ",)" else ")" : String) : Str).length ≤ 2 := by split <;> decide
  cases ts with
  | nil =>
    have e3 : (Str.join ", " []).length = 0 := rfl
    rw [e1, e3]
    omega
  | cons t ts =>
    have := join_length_add (t :: ts) (by simp)
    rw [e1]
    omega
theorem textFrom_le : ∀ (ts : List Str) (k : Nat) (acc : Str), (textFrom k acc ts).length ≤ acc.length + piled ts
  | [], k, acc => by show acc.length ≤ _; omega
  | t :: r, k, acc => by
    have ih := textFrom_le r (k + 1) (acc ++ (if k > 0 then ", " else "" : String) ++ t)
    have e : (acc ++ (if k > 0 then ", " else "" : String) ++ t).length = acc.length + (if k > 0 then 2 else 0) + t.length := by
      rw [strLen_append, strLen_append]
      split <;> rfl
    rw [piled_cons]
    show (textFrom (k + 1) _ r).length ≤ _
    have : (if k > 0 then 2 else 0 : Nat) ≤ 2 := by split <;> omega
    omega
theorem listText_le (ts : List Str) : (listText ts).length ≤ piled ts + 2 := by
  unfold listText
  rw [strLen_append]
  have := textFrom_le ts 0 "["
  have e1 : (("[" : String) : Str).length = 1 := rfl
  have e2 : (("]" : String) : Str).length = 1 := rfl
  omega
/-- tuples of such -/
def eTup : Enc (List α) where
  pv xs := .tup (xs.map e.pv)
  dt xs := .tuple (xs.map e.dt)
  dep := e.dep + 1
  ok xs := ∀ x ∈ xs, e.ok x
  sh xs := ∀ x ∈ xs, e.sh x
  sl xs := slAll e.sl xs + 3
  toD S xs := by
    show (omap (D.toD (e.dep + 1) S) (xs.map e.pv)).map PyData.tuple = _
    rw [omap_map xs fun x _ => e.toD S x]
    rfl
  lay xs h := by simp only [PyData.canLay0]; exact e.canAll h
  depth xs := by
    simp only [PyData.depth]
    exact Nat.succ_le_succ (e.depAll xs)
  eqv a b := by simp only [PyData.eqv]; exact e.eqvAll a b
  alike a b := by simp only [PySem.W.alike]; exact e.alikeAll a b
  show_ xs h := by
    obtain ⟨h1, h2, h3⟩ := e.shAll h
    refine ⟨by simp only [PyData.showable]; exact h1, by simp only [PyData.hasDict]; exact h2, ?_⟩
    simp only [PyData.shown]
    exact Nat.le_trans (tupleText_le _) (by omega)
  inj a b h := by
    have he : PyData.eqv (.tuple (a.map e.dt)) (.tuple (b.map e.dt)) = decide (a = b) := by simp only [PyData.eqv]; exact e.eqvAll a b
    have ha : PySem.W.alike (.tuple (a.map e.dt)) (.tuple (b.map e.dt)) = true := by simp only [PySem.W.alike]; exact e.alikeAll a b
    by_cases hab : a = b
    · exact hab
    · have hf := (PySem.W.toks_eqv _ _ ha).2 (by rw [he]; exact decide_eq_false hab) [] [.inl 0]
      rw [List.append_nil, h] at hf
      have h1 : lexLt itemOrd (PySem.W.keyToks (.tuple (b.map e.dt))) (PySem.W.keyToks (.tuple (b.map e.dt)) ++ [.inl 0]) = true := by
        have := PySem.W.lex_pre (PySem.W.keyToks (.tuple (b.map e.dt))) [] [.inl 0]
        rw [List.append_nil] at this
        rw [this]
        rfl
      rw [h1] at hf
      have h2 : lexLt itemOrd (PySem.W.keyToks (.tuple (b.map e.dt))) (PySem.W.keyToks (.tuple (b.map e.dt))) = false := lex_irrefl _
      rw [h2] at hf
      cases hf
/-! ### what the primitives give on them -/
variable {S : Hs} {r q : Nat}
theorem Enc.toD66 (hd : e.dep ≤ 64) (a : α) : D.toD 66 S (e.pv a) = some (e.dt a) := toD_le (by omega) (e.toD S a)
theorem Enc.dat (hd : e.dep ≤ 64) {a : α} (h : e.ok a) : datP S (e.pv a) = some (e.dt a) := by
  have h1 : SeqAt.shaped (e.dt a) = true := by
    unfold SeqAt.shaped
    rw [e.lay a h, Bool.true_and]
    exact decide_eq_true (Nat.le_trans (e.depth a) hd)
  unfold datP
  rw [e.toD66 hd a]
  exact if_pos h1
theorem Enc.datL (hd : e.dep ≤ 63) {xs : List α} (h : ∀ x ∈ xs, e.ok x) (hr : S[r]? = some (.lst (xs.map e.pv))) : datP S (.ref r) = some (.list (xs.map e.dt)) := by
  have h0 : D.toD 66 S (.ref r) = some (.list (xs.map e.dt)) := by
    have e1 : lstAt S r = some (xs.map e.pv) := by unfold lstAt; rw [hr]
    show (match lstAt S r with | some xs => (omap (D.toD 65 S) xs).map PyData.list | none => none) = _
    rw [e1]
    show (omap (D.toD 65 S) (xs.map e.pv)).map PyData.list = _
    rw [omap_map xs fun x _ => toD_le (by omega) (e.toD S x)]
    rfl
  have h1 : SeqAt.shaped (.list (xs.map e.dt)) = true := by
    unfold SeqAt.shaped
    have c : (PyData.list (xs.map e.dt)).canLay0 = true := by simp only [PyData.canLay0]; exact e.canAll h
    rw [c, Bool.true_and]
    refine decide_eq_true ?_
    simp only [PyData.depth]
    have := e.depAll xs
    omega
  unfold datP
  rw [h0]
  exact if_pos h1
theorem datP_str {x : Str} {d : PyData} (h : datP S (.str x) = some d) : d = .str x := by
  unfold datP at h
  have e : D.toD 66 S (.str x) = some (.str x) := rfl
  rw [e] at h
  dsimp only at h
  split at h
  · cases h; rfl
  · cases h
theorem eqv_str {a b : Str} : PyData.eqv (.str a) (.str b) = decide (a = b) := eStr.eqv a b
theorem eqP_dat {p z : PV} {d d' : PyData} (h1 : datP S p = some d) (h2 : datP S z = some d') : eqP p z S = .ok (.bl (PyData.eqv d d')) S := by
  unfold eqP
  split
  · rw [datP_str h1, datP_str h2, eqv_str]
  · unfold eqDP; rw [h1, h2]
theorem neP_dat {p z : PV} {d d' : PyData} (h1 : datP S p = some d) (h2 : datP S z = some d') : neP p z S = .ok (.bl (!PyData.eqv d d')) S := by
  unfold neP
  split
  · rw [datP_str h1, datP_str h2, eqv_str]
  · unfold neDP; rw [h1, h2]
theorem p_eqB {a b : Bool} : eqP (.bl a) (.bl b) S = .ok (.bl (a == b)) S := by
  rw [eqP_dat (d := .bool a) (d' := .bool b) rfl rfl]
  simp only [PyData.eqv]
theorem p_neB {a b : Bool} : neP (.bl a) (.bl b) S = .ok (.bl (!(a == b))) S := by
  rw [neP_dat (d := .bool a) (d' := .bool b) rfl rfl]
  simp only [PyData.eqv]
theorem p_eqS {a b : Str} : eqP (.str a) (.str b) S = .ok (.bl (decide (a = b))) S := nr rfl
theorem p_neS {a b : Str} : neP (.str a) (.str b) S = .ok (.bl (!decide (a = b))) S := nr rfl
theorem Enc.eq_ (hd : e.dep ≤ 64) {a b : α} (ha : e.ok a) (hb : e.ok b) : eqP (e.pv a) (e.pv b) S = .ok (.bl (decide (a = b))) S := by
  rw [eqP_dat (e.dat hd ha) (e.dat hd hb), e.eqv]
theorem Enc.ne_ (hd : e.dep ≤ 64) {a b : α} (ha : e.ok a) (hb : e.ok b) : neP (e.pv a) (e.pv b) S = .ok (.bl (!decide (a = b))) S := by
  rw [neP_dat (e.dat hd ha) (e.dat hd hb), e.eqv]
theorem p_eqI {a b : Int} : eqP (.int a) (.int b) S = .ok (.bl (decide (a = b))) S := eInt.eq_ (by decide) trivial trivial
theorem p_neI {a b : Int} : neP (.int a) (.int b) S = .ok (.bl (!decide (a = b))) S := eInt.ne_ (by decide) trivial trivial
theorem Enc.eqL (hd : e.dep ≤ 63) {xs ys : List α} (ha : ∀ x ∈ xs, e.ok x) (hb : ∀ x ∈ ys, e.ok x) (h1 : S[r]? = some (.lst (xs.map e.pv))) (h2 : S[q]? = some (.lst (ys.map e.pv))) : eqP (.ref r) (.ref q) S = .ok (.bl (decide (xs = ys))) S := by
  rw [eqP_dat (e.datL hd ha h1) (e.datL hd hb h2)]
  simp only [PyData.eqv, e.eqvAll]
theorem Enc.neL (hd : e.dep ≤ 63) {xs ys : List α} (ha : ∀ x ∈ xs, e.ok x) (hb : ∀ x ∈ ys, e.ok x) (h1 : S[r]? = some (.lst (xs.map e.pv))) (h2 : S[q]? = some (.lst (ys.map e.pv))) : neP (.ref r) (.ref q) S = .ok (.bl (!decide (xs = ys))) S := by
  rw [neP_dat (e.datL hd ha h1) (e.datL hd hb h2)]
  simp only [PyData.eqv, e.eqvAll]
theorem Enc.anyD (a : α) : ∀ ys : List α, ((ys.map e.dt).any fun z => PyData.eqv z (e.dt a)) = decide (a ∈ ys)
  | [] => by simp
  | y :: ys => by
    rw [List.map_cons, List.any_cons, e.eqv, Enc.anyD a ys]
    by_cases h1 : y = a
    · subst h1; simp
    · have : ¬ a = y := fun z => h1 z.symm
      simp [h1, this]
theorem Enc.inT (hd : e.dep ≤ 63) {a : α} {ys : List α} [dec : Decidable (a ∈ ys)] (ha : e.ok a) (hb : ∀ x ∈ ys, e.ok x) : inP (e.pv a) (.tup (ys.map e.pv)) S = .ok (.bl (decide (a ∈ ys))) S := by
  have h2 : datP S (.tup (ys.map e.pv)) = some (.tuple (ys.map e.dt)) := (eTup e).dat (show e.dep + 1 ≤ 64 by omega) hb
  unfold inP inB
  rw [e.dat (by omega) ha, h2]
  dsimp only
  show (match (some ((ys.map e.dt).any fun z => PyData.eqv z (e.dt a)) : Option Bool) with | some b => Res.ok (PV.bl b) S | none => .bad) = _
  rw [e.anyD]
  dsimp only
  congr
def Enc.le (a b : α) : Bool := PySem.W.dataLe false e.dt a b
theorem Enc.sort (hd : e.dep ≤ 64) {xs : List α} (hl : xs.length ≤ sizeLine) (hs : sortB (xs.map e.dt) = true) (hr : S[r]? = some (.lst (xs.map e.pv))) : sortP [.ref r] S = .ok (.ref S.length) (S ++ [.lst ((xs.mergeSort e.le).map e.pv)]) := by
  have e0 : ∀ a : α, encD S (e.pv a) = e.dt a := fun a => by unfold encD; rw [e.toD66 hd a]; rfl
  have e1 : lstAt S r = some (xs.map e.pv) := by unfold lstAt; rw [hr]
  have e2 : (xs.map e.pv).map (encD S) = xs.map e.dt := by
    rw [List.map_map]
    exact List.map_congr_left fun a _ => e0 a
  have c1 : (omap (D.toD 66 S) (xs.map e.pv)).isSome = true := by
    rw [omap_map xs fun x _ => e.toD66 hd x]
    rfl
  have c2 : alikeB (xs.map e.dt) = true := by
    unfold alikeB
    rw [List.all_eq_true]
    intro d hd'
    rw [List.all_eq_true]
    intro d2 hd2
    obtain ⟨a, _, rfl⟩ := List.mem_map.mp hd'
    obtain ⟨b, _, rfl⟩ := List.mem_map.mp hd2
    exact e.alike a b
  have c4 : ((xs.map e.pv).all fun q => decide ((encD S q).depth ≤ 64)) = true := by
    rw [List.all_eq_true]
    intro p hp
    obtain ⟨a, _, rfl⟩ := List.mem_map.mp hp
    rw [e0]
    exact decide_eq_true (Nat.le_trans (e.depth a) hd)
  have c5 : (xs.mergeSort e.le).map e.pv = (xs.map e.pv).mergeSort (PySem.W.dataLe false (encD S)) := by
    refine List.map_mergeSort fun a _ b _ => ?_
    show PySem.W.dataLe false e.dt a b = PySem.W.dataLe false (encD S) (e.pv a) (e.pv b)
    show PySem.W.sortLe (listOrd itemOrd) false (fun b => PySem.W.keyToks (e.dt b)) a b = PySem.W.sortLe (listOrd itemOrd) false (fun b => PySem.W.keyToks (encD S b)) (e.pv a) (e.pv b)
    unfold PySem.W.sortLe
    simp only [e0]
  show (match lstAt S r with | some xs => (if (omap (D.toD 66 S) xs).isSome = true ∧ alikeB (xs.map (encD S)) = true ∧ sortB (xs.map (encD S)) = true ∧ (xs.all fun q => decide ((encD S q).depth ≤ 64)) = true then newL (xs.mergeSort (PySem.W.dataLe false (encD S))) S else .bad) | none => .bad) = _
  rw [e1]
  dsimp only
  rw [e2, if_pos ⟨c1, c2, hs, c4⟩, ← c5]
  exact p_new (by rw [List.length_map, List.length_mergeSort]; exact hl)
theorem sorted_unique {α : Type} {le : α → α → Bool} (anti : ∀ a b, le a b = true → le b a = true → a = b) : ∀ {xs ys : List α}, xs.Pairwise (fun a b => le a b = true) → ys.Pairwise (fun a b => le a b = true) → xs.Perm ys → xs = ys
  | [], ys, _, _, h => (List.Perm.nil_eq h)
  | x :: xs, [], _, _, h => by have := h.length_eq; simp at this
  | x :: xs, y :: ys, h1, h2, h => by
    obtain ⟨a1, a2⟩ := List.pairwise_cons.mp h1
    obtain ⟨b1, b2⟩ := List.pairwise_cons.mp h2
    have exy : x = y := by
      have hx : x ∈ y :: ys := h.subset List.mem_cons_self
      have hy : y ∈ x :: xs := h.symm.subset List.mem_cons_self
      rcases List.mem_cons.mp hx with e | hx
      · exact e
      · rcases List.mem_cons.mp hy with e | hy
        · exact e.symm
        · exact anti x y (a1 y hy) (b1 x hx)
    subst exy
    rw [sorted_unique anti a2 b2 (List.Perm.cons_inv h)]
theorem Enc.le_total : PySem.W.TotalLe e.le := PySem.W.sortLe_total (listOrd itemOrd) false fun b => PySem.W.keyToks (e.dt b)
theorem Enc.le_anti (a b : α) (h1 : e.le a b = true) (h2 : e.le b a = true) : a = b := by
  have h1' : (!lexLt itemOrd (PySem.W.keyToks (e.dt b)) (PySem.W.keyToks (e.dt a))) = true := h1
  have h2' : (!lexLt itemOrd (PySem.W.keyToks (e.dt a)) (PySem.W.keyToks (e.dt b))) = true := h2
  refine e.inj a b ?_
  rw [Bool.not_eq_true'] at h1' h2'
  exact (listOrd itemOrd).total _ _ h2' h1'
theorem Enc.sort_perm {xs ys : List α} (h : xs.Perm ys) : xs.mergeSort e.le = ys.mergeSort e.le := by
  have tr : ∀ a b c, e.le a b = true → e.le b c = true → e.le a c = true := e.le_total.trans
  have to : ∀ a b, (e.le a b || e.le b a) = true := fun a b => Bool.or_eq_true_iff.mpr (e.le_total.total a b)
  refine sorted_unique e.le_anti (List.pairwise_mergeSort tr to xs) (List.pairwise_mergeSort tr to ys) ?_
  exact (List.mergeSort_perm xs e.le).trans (h.trans (List.mergeSort_perm ys e.le).symm)
theorem Enc.reprL (hd : e.dep ≤ 63) {xs : List α} (h : ∀ x ∈ xs, e.sh x) (hb : slAll e.sl xs + 2 ≤ sizeLine) (hr : S[r]? = some (.lst (xs.map e.pv))) : reprP [.ref r] S = .ok (.str (PyData.shown (.list (xs.map e.dt)))) S := by
  have h0 : D.toD 66 S (.ref r) = some (.list (xs.map e.dt)) := by
    have e1 : lstAt S r = some (xs.map e.pv) := by unfold lstAt; rw [hr]
    show (match lstAt S r with | some xs => (omap (D.toD 65 S) xs).map PyData.list | none => none) = _
    rw [e1]
    show (omap (D.toD 65 S) (xs.map e.pv)).map PyData.list = _
    rw [omap_map xs fun x _ => toD_le (by omega) (e.toD S x)]
    rfl
  obtain ⟨h1, h2, h3⟩ := e.shAll h
  show (match D.toD 66 S (.ref r) with | some d => (if d.showable = true ∧ d.hasDict = false ∧ d.shown.length ≤ sizeLine ∧ d.depth ≤ 66 then Res.ok (PV.str d.shown) S else .bad) | none => .bad) = _
  rw [h0]
  dsimp only
  refine if_pos ⟨by simp only [PyData.showable]; exact h1, by simp only [PyData.hasDict]; exact h2, ?_, ?_⟩
  · simp only [PyData.shown]
    exact Nat.le_trans (listText_le _) (by omega)
  · simp only [PyData.depth]
    have := e.depAll xs
    omega
end
end D

/-! D14: instances: fields, methods, properties, new ones. -/
namespace D
open PySem PySem.Spec PyProof.Rows L2

def pputF (f : Str) (v : PV) : List (Str × PV) → List (Str × PV)
  | [] => [(f, v)]
  | (g, x) :: r => if g = f then (g, v) :: r else (g, x) :: pputF f v r
section
variable {K : PySem.W.Frag} {loc : List Addr} {H : Hp} {S : Hs}
theorem TRep.look {fs : List (Str × PV)} {qs : List (Str × V)} (r : TRep K loc H fs qs) (f : Str) : match fs.lookup f with
    | some p => ∃ v, qs.lookup f = some v ∧ Rep K loc H p v
    | none => qs.lookup f = none := by
  unfold TRep at r
  induction r with
  | nil => rfl
  | @cons p q ps qs h t ih =>
    obtain ⟨g, x⟩ := p
    obtain ⟨g', y⟩ := q
    obtain ⟨rfl, h2⟩ := h
    by_cases e : (f == g) = true
    · simp only [List.lookup_cons, e]
      exact ⟨y, rfl, h2⟩
    · have e' : (f == g) = false := by simpa using e
      simp only [List.lookup_cons, e']
      exact ih
theorem TRep.putF {fs : List (Str × PV)} {qs : List (Str × V)} (r : TRep K loc H fs qs) (f : Str) {p : PV} {v : V} (rv : Rep K loc H p v) : TRep K loc H (pputF f p fs) (L2.putF f v qs) := by
  unfold TRep at r ⊢
  induction r with
  | nil => exact .cons ⟨rfl, rv⟩ .nil
  | @cons a b as bs h t ih =>
    obtain ⟨g, x⟩ := a
    obtain ⟨g', y⟩ := b
    obtain ⟨rfl, h2⟩ := h
    unfold pputF L2.putF
    by_cases e : g = f
    · rw [if_pos e, if_pos e]
      exact .cons ⟨rfl, rv⟩ t
    · rw [if_neg e, if_neg e]
      exact .cons ⟨rfl, h2⟩ ih
theorem ins_rep {i : Nat} {c : Str} {fs : List (Str × PV)} {x : V} (hS : StR K loc S H) (e : S[i]? = some (.ins c fs)) (r : Rep K loc H (.ref i) x) :
    ∃ a dx qs, x = .ref a ∧ loc[i]? = some a ∧ H a = some (.ins (He.ga K c) dx qs) ∧ TRep K loc H fs qs := by
  cases r with
  | ref q =>
    obtain ⟨dx, vs, e1, r1⟩ := hS.obj _ _ _ e q
    exact ⟨_, dx, vs, rfl, q, e1, r1⟩
end

/-! ### fields -/
def fldP (cs : List Str) (f : Str) : PV → Hs → Res PV
  | .ref i, S => match S[i]? with
    | some (.ins c fs) => if c ∈ cs then (match fs.lookup f with
      | some p => .ok p S
      | none => .bad) else .bad
    | _ => .bad
  | _, _ => .bad
def FldOk (K : PySem.W.Frag) (cs : List Str) (f : Str) : Prop := ∀ c ∈ cs, Cls K (He.ga K c) ∧ NoAttr K (He.ga K c) f
def setFP (cs : List Str) (f : Str) : PV → PV → Hs → Res Unit
  | .ref i, v, S => match S[i]? with
    | some (.ins c fs) => if c ∈ cs ∧ fs.length < 1000 then .ok () (S.set i (.ins c (pputF f v fs))) else .bad
    | _ => .bad
  | _, _, _ => .bad
def fldG (cs : List Str) (f : Str) (mo : EM) : GM := fun p env S => (mo env S).bind fun o S1 => (setFP cs f o p S1).bind fun _ S2 => .ok env S2
section
variable {X : Cx} {a o value : Expr} {ma mo mv : EM} {pos pos' : Pos} {f : Str} {cs : List Str}
theorem de_fld (hF : FldOk X.K cs f) (he : DE X a ma) (hb : attributeBase a f X.env (eval a X.env) = eval a X.env) : DE X (.Attribute a f pos) (op1 (fldP cs f) ma) := fun W tk => by
  refine ⟨fun pins s σ H Q I h => ?_⟩
  refine attr_of hb (thn ((he W tk).run pins s σ H _ I (tGv.bind (tG.v h))) fun u s1 ⟨x, H1, I1, r1, p, h1⟩ => ?_)
  obtain ⟨loc, S, env, hS, hE, rs, k⟩ := h1
  cases rs with
  | cons rp _ =>
    have k2 : Post X.K W σ Q loc H1 (fldP cs f p S) := k
    unfold fldP at k2
    split at k2
    · split at k2
      · split at k2
        · split at k2
          · rename_i c fs e1 hc _ q e2
            obtain ⟨aa, dx, qs, rfl, _, ha, rt⟩ := ins_rep hS e1 rp
            have hl := rt.look f
            rw [e2] at hl
            obtain ⟨v, hv, rv⟩ := hl
            obtain rfl : u = Value.ref aa := r1
            exact getattr_ok I1 ha (hF c hc).1 (hF c hc).2 hv fun u' s2 I2 ru => ⟨v, H1, I2, ru, k2 _ _ _ .refl hS rv⟩
          · exact k2.elim
        · exact k2.elim
      · exact k2.elim
    · exact k2.elim
theorem ds_fld (hF : FldOk X.K cs f) (ho : DE X o mo) (hv : DE X value mv) (hs : swapsWith value (some (.Attribute o f pos')) pos.line X.env = pure false) : DS X (.Assign [.Attribute o f pos'] value pos) (asgS mv (fldG cs f mo)) := fun W tk => by
  refine ⟨fun pins s σ H D I h => ?_⟩
  have h1 := tS.lift (show tS X.K W (liftS mv fun p env S => match fldG cs f mo p env S with | .ok env' S' => .nx env' S' | _ => .bad) D σ H from h)
  refine plainObj_wpAny_Assign_Attribute (thn ((hv W tk).run pins s σ H _ I h1) fun u s1 ⟨y, H1, I1, ry, loc, S, env, p, hS, hE, rp, k⟩ => ?_) hs
  have q1 : tM X.K W mo σ H1 fun x H2 => ∃ loc2 S2 po, Grow X.K loc H1 loc2 H2 ∧ StR X.K loc2 S2 H2 ∧ Rep X.K loc2 H2 po x ∧ PostS X.K W D loc H1 (match (setFP cs f po p S2).bind fun _ S3 => Res.ok env S3 with | .ok env' S' => .nx env' S' | _ => .bad) := by
    refine ⟨loc, S, env, hS, hE, ?_⟩
    unfold fldG at k
    cases e : mo env S with
    | bad => rw [e] at k; exact k
    | exc c fs S2 => rw [e] at k; exact k.elim
    | ok po S2 =>
      rw [e, Res.bind_ok] at k
      exact fun l2 h2 x g2 s2 r2 => ⟨l2, S2, po, g2, s2, r2, k⟩
  refine thn ((ho W tk).run pins s1 σ H1 _ I1 q1) fun ov s2 ⟨x, H2, I2, rx, loc2, S2, po, g2, hS2, rpo, k2⟩ => ?_
  cases e : setFP cs f po p S2 with
  | bad => rw [e] at k2; exact k2.elim
  | exc _ _ _ => rw [e] at k2; exact k2.elim
  | ok _ S3 =>
    rw [e, Res.bind_ok] at k2
    unfold setFP at e
    split at e
    · split at e
      · split at e
        · rename_i c fs e1 hc
          cases e
          obtain ⟨aa, dx, qs, rfl, hl, ha, rt⟩ := ins_rep hS2 e1 rpo
          obtain rfl : ov = Value.ref aa := rx
          have hln : qs.length < 1000 := by rw [← Paired.length rt]; exact hc.2
          refine setattr_ok I2 ha (hF c hc.1).1 (hF c hc.1).2 hln ry fun s3 I3 => ⟨σ, _, I3, ?_⟩
          have g := hS2.grow_put (u := .ins (He.ga X.K c) dx (L2.putF f y qs)) hl
          exact k2 loc2 _ σ (g2.trans g) (hS2.put hl ⟨dx, _, upd_same, (rt.putF f (Rep.up g2 _ _ rp)).up g⟩) (hE.up (g2.trans g))
        · cases e
      · cases e
    · cases e
end

/-! ### methods -/
abbrev Fun1 := List PV → Hs → Res PV
def pickM (tb : List (Str × Fun1)) (m : Str) : PV → Hs → Option Fun1
  | .ref i, S => match S[i]? with
    | some (.ins c fs) => if fs.lookup m = none then tb.lookup c else none
    | _ => none
  | _, _ => none
def methE (tb : List (Str × Fun1)) (m : Str) (mo : EM) (n nk : AM) : EM := bindE mo fun o env S => match pickM tb m o S with
  | some φ => callF (fun ps => φ (o :: ps)) n nk env S
  | none => .bad
structure MOk (P : Program) (w : World) (K : PySem.W.Frag) (mg : Str → Option Value) (base : Heap) (k : Nat) (c m : Str) (n : Nat) (ks : List Str) (φ : Fun1) : Prop where
  cls : Cls K (He.ga K c)
  ex : ∃ f, Meth K (He.ga K c) m f ∧ CallRun P w K mg base k f (n + 1) ks φ
def MTb (P : Program) (w : World) (K : PySem.W.Frag) (mg : Str → Option Value) (base : Heap) (k : Nat) (m : Str) (n : Nat) (ks : List Str) (tb : List (Str × Fun1)) : Prop := ∀ c φ, tb.lookup c = some φ → MOk P w K mg base k c m n ks φ
section
variable {X : Cx} {k : Nat} {o e : Expr} {es : List Expr} {kws : List Keyword} {mo : EM} {n nk : AM} {m : Str} {tb : List (Str × Fun1)} {nn : Nat} {ks : List Str} {pos apos : Pos} {pl : Sem Bool}
/-- the receiver is known: the rest of the call -/
theorem meth_go {W : WX} {σ : St} {H : Hp} {Q : VK} (h : tM X.K W (methE tb m mo n nk) σ H Q) : tM X.K W mo σ H fun x H1 => ∃ c φ a dx qs loc S env i, x = .ref a ∧ H1 a = some (.ins (He.ga X.K c) dx qs) ∧ qs.lookup m = none ∧ tb.lookup c = some φ ∧ StR X.K loc S H1 ∧ SlR X.K loc H1 env σ ∧ Rep X.K loc H1 (.ref i) (.ref a) ∧ PostR X.K W (RV X.K) σ Q loc H1 (callF (fun ps => φ (.ref i :: ps)) n nk env S) := by
  refine tG.imp (fun x H1 q => ?_) (tGv.bind (tG.v h))
  obtain ⟨p, loc, S, env, hS, hE, rs, q⟩ := q
  cases rs with
  | cons rp _ =>
    dsimp only at q
    cases e : pickM tb m p S with
    | none => rw [e] at q; exact q.elim
    | some φ =>
      rw [e] at q
      unfold pickM at e
      split at e
      · split at e
        · split at e
          · rename_i i _ c fs e1 e2
            obtain ⟨a, dx, qs, rfl, hl, ha, rt⟩ := ins_rep hS e1 rp
            have hq := rt.look m
            rw [e2] at hq
            exact ⟨c, φ, a, dx, qs, loc, S, env, i, rfl, ha, hq, e, hS, hE, rp, q⟩
          · cases e
        · cases e
      · cases e
theorem self_vals {φ : Fun1} {W : WX} {σ : St} {H : Hp} {Q : VK} {a b : Nat} {i : Nat} {x : V} {loc : List Addr} {S : Hs} {env : Sl} (hnl : ∀ env S ps S', n env S = .ok ps S' → ps.length = a) (hkl : ∀ env S ps S', nk env S = .ok ps S' → ps.length = b)
    (hS : StR X.K loc S H) (hE : SlR X.K loc H env σ) (rp : Rep X.K loc H (.ref i) x) (q : PostR X.K W (RV X.K) σ Q loc H (callF (fun ps => φ (.ref i :: ps)) n nk env S)) :
    tA X.K W n σ H fun xs H1 => xs.length = a ∧ tA X.K W nk σ H1 fun zs H2 => zs.length = b ∧ ∃ loc S ps qs, StR X.K loc S H2 ∧ Reps X.K loc H2 (.ref i :: ps) (x :: xs) ∧ Reps X.K loc H2 qs zs ∧ Post X.K W σ Q loc H2 (φ ((.ref i :: ps) ++ qs) S) := by
  refine ⟨loc, S, env, hS, hE, ?_⟩
  unfold callF bindE at q
  cases e : n env S with
  | bad => rw [e] at q; exact q
  | exc c fs S1 => rw [e] at q; exact q
  | ok ps S1 =>
    rw [e, Res.bind_ok] at q
    dsimp only at q
    intro l1 H1 xs g1 s1 r1
    refine ⟨by rw [← r1.length, hnl _ _ _ _ e], l1, S1, env, s1, hE.up g1, ?_⟩
    cases e2 : nk env S1 with
    | bad => rw [e2] at q; exact q
    | exc c fs S2 => rw [e2] at q; exact fun l2 h2 d g2 s2 r2 => q l2 h2 d (g1.trans g2) s2 r2
    | ok qs S2 =>
      rw [e2, Res.bind_ok] at q
      intro l2 H2 zs g2 s2 r2
      exact ⟨by rw [← r2.length, hkl _ _ _ _ e2], l2, S2, ps, qs, s2, .cons (Rep.up (g1.trans g2) _ _ rp) (r1.up g2), r2, PostR.up (g1.trans g2) q⟩
theorem de_meth0 (hr : Room k X.A) (hgd : X.A.guards = some []) (T : MTb X.prog X.w X.K X.mg X.base k m 0 [] tb) (ho : DE X o mo)
    (ht : eval (.Call (.Attribute o m apos) [] [] pos) X.env = (do
      let ov ← eval o X.env
      standAt apos.atName
      let (f, first) ← holding [ov] (getMethod ov m pl)
      callWith pos f first (backTo pos (starEach [] X.env)) (backToKw pos (keywordEach [] X.env)))) : DE X (.Call (.Attribute o m apos) [] [] pos) (methE tb m mo nilA nilA) := fun W tk => by
  refine ⟨fun pins s σ H Q I h => ?_⟩
  refine PySem.W.methodCall_KW (pl := pl) (thn ((ho W tk).run pins s σ H _ I (meth_go h)) fun u s1 ⟨x, H1, I1, rx, c, φ, a, dx, qs, loc, S, env, i, ex, ha, hl, ht, hS, hE, rp, q⟩ => ?_) ht
  subst ex
  obtain rfl : u = Value.ref a := rx
  obtain ⟨f, hm, F⟩ := (T c φ ht).ex
  refine getmeth_ok I1 ha (T c φ ht).cls hm hl ?_
  refine PySem.W.callWith_K0 (first := [.ref a]) I1.kIn hm.kp ?_
  obtain ⟨_, q1⟩ := nilA_go (self_vals (fun _ _ _ _ => nilA_len) (fun _ _ _ _ => nilA_len) hS hE rp q)
  obtain ⟨_, loc2, S2, ps, qs', hS2, rps, rqs, post⟩ := nilA_go q1
  exact run_call (us := [.ref a]) (ws := []) (vs := [.ref a]) (zs := []) tk hr hgd F I1 (.cons rfl .nil) .nil rfl rfl hS2 rps rqs post
theorem de_methP (hr : Room k X.A) (hgd : X.A.guards = some []) (T : MTb X.prog X.w X.K X.mg X.base k m nn [] tb) (ho : DE X o mo) (hs : NoStars (e :: es)) (ha : DA X (e :: es) n) (hnl : ∀ env S ps S', n env S = .ok ps S' → ps.length = nn)
    (ht : eval (.Call (.Attribute o m apos) (e :: es) [] pos) X.env = (do
      let ov ← eval o X.env
      standAt apos.atName
      let (f, first) ← holding [ov] (getMethod ov m pl)
      callWith pos f first (backTo pos (starEach (e :: es) X.env)) (backToKw pos (keywordEach [] X.env)))) : DE X (.Call (.Attribute o m apos) (e :: es) [] pos) (methE tb m mo n nilA) := fun W tk => by
  refine ⟨fun pins s σ H Q I h => ?_⟩
  refine PySem.W.methodCall_KW (pl := pl) (thn ((ho W tk).run pins s σ H _ I (meth_go h)) fun u s1 ⟨x, H1, I1, rx, c, φ, a, dx, qs, loc, S, env, i, ex, ea, hl, ht, hS, hE, rp, q⟩ => ?_) ht
  subst ex
  obtain rfl : u = Value.ref a := rx
  obtain ⟨f, hm, F⟩ := (T c φ ht).ex
  refine getmeth_ok I1 ea (T c φ ht).cls hm hl ?_
  refine PySem.W.callWith_K (first := [.ref a]) (h₀ := X.base) I.ok.mod.kin hm.kp (thn ((ha W tk).run pos pins s1 σ H1 _ I1 (self_vals hnl (fun _ _ _ _ => nilA_len) hS hE rp q)) fun us s2 ⟨xs, H2, I2, r2, q2⟩ => ⟨I2.kIn, ?_⟩) (hs e List.mem_cons_self _ _) (any_plain fun x hx => hs x (List.mem_cons_of_mem _ hx))
  obtain ⟨_, loc2, S2, ps, qs', hS2, rps, rqs, post⟩ := nilA_go q2.2
  exact run_call (us := .ref a :: us) (ws := []) (vs := .ref a :: xs) (zs := []) tk hr hgd F I2 (.cons rfl r2) .nil (by rw [List.length_cons, ← r2.length, q2.1]) rfl hS2 rps rqs post
theorem de_methK (hr : Room k X.A) (hgd : X.A.guards = some []) (T : MTb X.prog X.w X.K X.mg X.base k m nn ks tb) (ho : DE X o mo) (hs : NoStars (e :: es)) (ha : DA X (e :: es) n) (hk : DK X kws nk) (hnl : ∀ env S ps S', n env S = .ok ps S' → ps.length = nn) (hks : kws.map (·.arg) = ks.map some) (hkl : ∀ env S ps S', nk env S = .ok ps S' → ps.length = ks.length)
    (ht : eval (.Call (.Attribute o m apos) (e :: es) kws pos) X.env = (do
      let ov ← eval o X.env
      standAt apos.atName
      let (f, first) ← holding [ov] (getMethod ov m pl)
      callWith pos f first (backTo pos (starEach (e :: es) X.env)) (backToKw pos (keywordEach kws X.env)))) : DE X (.Call (.Attribute o m apos) (e :: es) kws pos) (methE tb m mo n nk) := fun W tk => by
  refine ⟨fun pins s σ H Q I h => ?_⟩
  refine PySem.W.methodCall_KW (pl := pl) (thn ((ho W tk).run pins s σ H _ I (meth_go h)) fun u s1 ⟨x, H1, I1, rx, c, φ, a, dx, qs, loc, S, env, i, ex, ea, hl, ht, hS, hE, rp, q⟩ => ?_) ht
  subst ex
  obtain rfl : u = Value.ref a := rx
  obtain ⟨f, hm, F⟩ := (T c φ ht).ex
  refine getmeth_ok I1 ea (T c φ ht).cls hm hl ?_
  obtain ⟨kn1, kn2, kn3⟩ := kw_names (pos := pos) (env := X.env) kws ks hks
  refine PySem.W.callWith_KW (first := [.ref a]) (h₀ := X.base) I.ok.mod.kin hm.kp kn1 (thn ((ha W tk).run pos pins s1 σ H1 _ I1 (self_vals hnl hkl hS hE rp q)) fun us s2 ⟨xs, H2, I2, r2, q2⟩ => thn ((hk W tk).run pos pins s2 σ H2 _ I2 q2.2) fun ws s3 ⟨zs, H3, I3, rz, lz, loc3, S3, ps, qs', hS3, rps, rqs, post⟩ => ⟨I3.kIn, ?_⟩) (by rw [kn3, any_plain hs]; rfl) (hs e List.mem_cons_self _ _)
  rw [kn2]
  exact run_call (us := .ref a :: us) (vs := .ref a :: xs) tk hr hgd F I3 (.cons rfl r2) rz (by rw [List.length_cons, ← r2.length, q2.1]) (by rw [← rz.length]; exact lz) hS3 rps rqs post
end
end D

/-! D15: new instances, properties, static methods, methods by their records. -/
namespace D
open PySem PySem.Spec PyProof.Rows L2

def newI (c : Str) (φ : Fun1) (ps : List PV) (S : Hs) : Res PV := (φ (.ref S.length :: ps) (S ++ [.ins c []])).bind fun v S' => match v with
  | .non => .ok (.ref S.length) S'
  | _ => .bad
structure KOk (P : Program) (w : World) (K : PySem.W.Frag) (mg : Str → Option Value) (base : Heap) (k : Nat) (c : Str) (n : Nat) (ks : List Str) (φ : Fun1) : Prop where
  mg_ : mg c = some (.ref (He.ga K c))
  ex : ∃ f, Mk K (He.ga K c) f ∧ CallRun P w K mg base k f (n + 1) ks φ
section
variable {X : Cx} {k : Nat} {c : Str} {f : Addr} {nn : Nat} {ks : List Str} {φ : Fun1} {W : WX} {pos p : Pos}
theorem run_new (tk : Takes X W) (hr : Room (k + 1) X.A) (hg : X.A.guards = some []) (M : Mk X.K (He.ga X.K c) f) (F : CallRun X.prog X.w X.K X.mg X.base k f (nn + 1) ks φ) {pins : List (Addr × Obj)} {s : Shared} {σ : St} {H : Hp} {Q : VK} {us ws : List Value} {vs zs : List V} {loc : List Addr} {S : Hs} {ps qs : List PV}
    (I : Inv X pins σ H s) (rv : Vals vs us) (rz : Vals zs ws) (h1 : us.length = nn) (h2 : ws.length = ks.length) (hS : StR X.K loc S H) (rp : Reps X.K loc H ps vs) (rq : Reps X.K loc H qs zs) (post : Post X.K W σ Q loc H (newI c φ (ps ++ qs) S)) :
    wpAny (model X.prog X.w) X.A (call (.ref (He.ga X.K c)) us (ks.zip ws)) (EP X pins σ Q) X.xe s := by
  have I2 := Inv.made (C := He.ga X.K c) I
  have nx : H (s.heap.objs.size + 1) = none := I.hok.fresh (Nat.le_succ _)
  have nd : H s.heap.objs.size = none := I.hok.fresh (Nat.le_refl _)
  have ne : s.heap.objs.size + 1 ≠ s.heap.objs.size := by omega
  generalize hx : s.heap.objs.size + 1 = x at *
  generalize hd : s.heap.objs.size = dx at *
  have nx2 : upd H dx (.own x) x = none := by rw [upd_ne ne]; exact nx
  have g1 : Grow X.K loc H loc (upd H dx (.own x)) := grow_new nd fun _ _ z => z
  have s1 : StR X.K loc S (upd H dx (.own x)) := hS.lay nd
  have g2 : Grow X.K loc (upd H dx (.own x)) (loc ++ [x]) (upd (upd H dx (.own x)) x (.ins (He.ga X.K c) dx [])) := s1.grow_new nx2
  have s2 : StR X.K (loc ++ [x]) (S ++ [.ins c []]) (upd (upd H dx (.own x)) x (.ins (He.ga X.K c) dx [])) := s1.new nx2 ⟨dx, [], upd_same, .nil⟩
  have g := g1.trans g2
  have self : Rep X.K (loc ++ [x]) (upd (upd H dx (.own x)) x (.ins (He.ga X.K c) dx [])) (.ref S.length) (.ref x) := .ref (s1.last x)
  have gg : (X.A.under (.builtin "type.__call__" ⟨.ref (He.ga X.K c) :: us, ks.zip ws⟩)).guards = some [] := hg
  have post2 : PostR X.K (WE fun e d H' => W e d σ H') (RV X.K) [] (fun v H2 => v = .non ∧ Q (.ref x) H2) (loc ++ [x]) (upd (upd H dx (.own x)) x (.ins (He.ga X.K c) dx [])) (φ ((.ref S.length :: ps) ++ qs) (S ++ [.ins c []])) := by
    unfold newI at post
    rw [show (PV.ref S.length :: ps) ++ qs = PV.ref S.length :: (ps ++ qs) from rfl]
    cases e : φ (.ref S.length :: (ps ++ qs)) (S ++ [.ins c []]) with
    | bad => rw [e] at post; exact post
    | exc ec fs S1 => rw [e] at post; exact fun l3 h3 d g3 s3 r3 => post l3 h3 d (g.trans g3) s3 r3
    | ok v S1 =>
      rw [e, Res.bind_ok] at post
      split at post
      · intro l3 h3 y g3 s3 r3
        cases r3
        exact ⟨rfl, post l3 h3 _ (g.trans g3) s3 (Rep.up g3 _ _ self)⟩
      · exact post.elim
  subst hx
  subst hd
  refine wpAny_call (make_map (f := f) I.kIn M.makes M.init (beq_iff_eq.mp M.fn) (codeAny_mono (F _ X.stack _ _ (Value.ref (s.heap.objs.size + 1) :: us) ws (V.ref (s.heap.objs.size + 1) :: vs) zs _ (fun e d H' => W e d σ H') _ _ (.ref S.length :: ps) qs (hr.make _ us (ks.zip ws)) gg (I2.env0.make _ us (ks.zip ws)) (.cons rfl rv) rz (by rw [List.length_cons, h1]) h2 s2 (.cons self (rp.up g)) (rq.up g) post2) fun r s' hq => ?_))
  cases r with
  | error e => exact tk e s' (XE.of_call I2 (fun cls d H' h => h) hq)
  | ok fl =>
    cases fl with
    | ret u =>
      obtain ⟨v, H', I3, rv', ev, q3⟩ := I2.after hq
      subst ev
      exact ⟨rv', ⟨V.ref (s.heap.objs.size + 1), H', I3, rfl, q3⟩⟩
    | next => exact False.elim hq
    | brk => exact False.elim hq
    | cont => exact False.elim hq
variable {e : Expr} {es : List Expr} {kws : List Keyword} {n nk : AM}
def makeE (c : Str) (φ : Fun1) (n nk : AM) : EM := callF (newI c φ) n nk
theorem de_make0 (hr : Room (k + 1) X.A) (hgd : X.A.guards = some []) (C : KOk X.prog X.w X.K X.mg X.base k c 0 [] φ) (hg : Gl X c) (hdb : (c == ("__debug__" : Str)) = false) : DE X (.Call (.Name c p) [] [] pos) (makeE c φ nilA nilA) := fun W tk => by
  obtain ⟨f, M, F⟩ := C.ex
  refine ⟨fun pins s σ H Q I h => ?_⟩
  refine wpAny_Call_Name_kw (ld_glob I hg C.mg_ ?_ hdb)
  refine PySem.W.callWith_K0 I.kIn M.kp ?_
  obtain ⟨_, q⟩ := nilA_go (call_vals (fun _ _ _ _ => nilA_len) (fun _ _ _ _ => nilA_len) h)
  obtain ⟨_, loc, S, ps, qs, hS, rp, rq, post⟩ := nilA_go q
  exact run_new (us := []) (ws := []) tk hr hgd M F I .nil .nil rfl rfl hS rp rq post
theorem de_makeP (hr : Room (k + 1) X.A) (hgd : X.A.guards = some []) (C : KOk X.prog X.w X.K X.mg X.base k c nn [] φ) (hg : Gl X c) (hdb : (c == ("__debug__" : Str)) = false) (hs : NoStars (e :: es)) (ha : DA X (e :: es) n) (hnl : ∀ env S ps S', n env S = .ok ps S' → ps.length = nn) :
    DE X (.Call (.Name c p) (e :: es) [] pos) (makeE c φ n nilA) := fun W tk => by
  obtain ⟨f, M, F⟩ := C.ex
  refine ⟨fun pins s σ H Q I h => ?_⟩
  refine wpAny_Call_Name_kw (ld_glob I hg C.mg_ ?_ hdb)
  refine PySem.W.callWith_K (h₀ := X.base) I.ok.mod.kin M.kp (thn ((ha W tk).run pos pins s σ H _ I (call_vals hnl (fun _ _ _ _ => nilA_len) h)) fun us s1 ⟨xs, H1, I1, r1, q1⟩ => ⟨I1.kIn, ?_⟩) (hs e List.mem_cons_self _ _) (any_plain fun x hx => hs x (List.mem_cons_of_mem _ hx))
  obtain ⟨_, loc, S, ps, qs, hS, rp, rq, post⟩ := nilA_go q1.2
  exact run_new (us := us) (ws := []) tk hr hgd M F I1 r1 .nil (by rw [← r1.length]; exact q1.1) rfl hS rp rq post
theorem de_makeK (hr : Room (k + 1) X.A) (hgd : X.A.guards = some []) (C : KOk X.prog X.w X.K X.mg X.base k c nn ks φ) (hg : Gl X c) (hdb : (c == ("__debug__" : Str)) = false) (hs : NoStars (e :: es)) (ha : DA X (e :: es) n) (hk : DK X kws nk) (hnl : ∀ env S ps S', n env S = .ok ps S' → ps.length = nn) (hks : kws.map (·.arg) = ks.map some) (hkl : ∀ env S ps S', nk env S = .ok ps S' → ps.length = ks.length) :
    DE X (.Call (.Name c p) (e :: es) kws pos) (makeE c φ n nk) := fun W tk => by
  obtain ⟨f, M, F⟩ := C.ex
  refine ⟨fun pins s σ H Q I h => ?_⟩
  refine wpAny_Call_Name_kw (ld_glob I hg C.mg_ ?_ hdb)
  obtain ⟨kn1, kn2, kn3⟩ := kw_names (pos := pos) (env := X.env) kws ks hks
  refine PySem.W.callWith_KW (h₀ := X.base) I.ok.mod.kin M.kp kn1 (thn ((ha W tk).run pos pins s σ H _ I (call_vals hnl hkl h)) fun us s1 ⟨xs, H1, I1, r1, q1⟩ => thn ((hk W tk).run pos pins s1 σ H1 _ I1 q1.2) fun ws s2 ⟨zs, H2, I2, rz, lz, loc, S, ps, qs, hS, rp, rq, post⟩ => ⟨I2.kIn, ?_⟩) (by rw [kn3, any_plain hs]; rfl) (hs e List.mem_cons_self _ _)
  rw [kn2]
  exact run_new (us := us) tk hr hgd M F I2 r1 rz (by rw [← r1.length]; exact q1.1) (by rw [← rz.length]; exact lz) hS rp rq post
theorem de_makeK0 (hr : Room (k + 1) X.A) (hgd : X.A.guards = some []) (C : KOk X.prog X.w X.K X.mg X.base k c 0 ks φ) (hg : Gl X c) (hdb : (c == ("__debug__" : Str)) = false) (hk : DK X kws nk) (hks : kws.map (·.arg) = ks.map some) (hkl : ∀ env S ps S', nk env S = .ok ps S' → ps.length = ks.length) :
    DE X (.Call (.Name c p) [] kws pos) (makeE c φ nilA nk) := fun W tk => by
  obtain ⟨f, M, F⟩ := C.ex
  refine ⟨fun pins s σ H Q I h => ?_⟩
  refine wpAny_Call_Name_kw (ld_glob I hg C.mg_ ?_ hdb)
  obtain ⟨kn1, kn2, kn3⟩ := kw_names (pos := pos) (env := X.env) kws ks hks
  obtain ⟨_, q0⟩ := nilA_go (call_vals (fun _ _ _ _ => nilA_len) hkl h)
  refine PySem.W.callWith_KW0 (h₀ := X.base) I.ok.mod.kin M.kp kn1 (thn ((hk W tk).run pos pins s σ H _ I q0) fun ws s2 ⟨zs, H2, I2, rz, lz, loc, S, ps, qs, hS, rp, rq, post⟩ => ⟨I2.kIn, ?_⟩) (by rw [kn3]; rfl)
  rw [kn2]
  exact run_new (us := []) tk hr hgd M F I2 .nil rz rfl (by rw [← rz.length]; exact lz) hS rp rq post
end

/-! ### properties -/
/-- an exception here is not followed -/
def noX {α : Type} : Res α → Res α
  | .ok a S => .ok a S
  | _ => .bad
def propE (tb : List (Str × Fun1)) (mo : EM) : EM := bindE mo fun o _ S => match o with
  | .ref i => match S[i]? with
    | some (.ins c _) => match tb.lookup c with
      | some φ => noX (φ [.ref i] S)
      | none => .bad
    | _ => .bad
  | _ => .bad
structure POk (P : Program) (w : World) (K : PySem.W.Frag) (mg : Str → Option Value) (base : Heap) (k : Nat) (c f : Str) (φ : Fun1) : Prop where
  cls : Cls K (He.ga K c)
  ex : ∃ p g, PropOf K (He.ga K c) f p g ∧ CallRun P w K mg base k g 1 [] φ
def PTb (P : Program) (w : World) (K : PySem.W.Frag) (mg : Str → Option Value) (base : Heap) (k : Nat) (f : Str) (tb : List (Str × Fun1)) : Prop := ∀ c φ, tb.lookup c = some φ → POk P w K mg base k c f φ
section
variable {X : Cx} {k : Nat} {o : Expr} {mo : EM} {f : Str} {tb : List (Str × Fun1)} {pos : Pos}
theorem de_prop (hr : Room (k + 1) X.A) (hgd : X.A.guards = some []) (T : PTb X.prog X.w X.K X.mg X.base k f tb) (ho : DE X o mo) (hab : attributeBase o f X.env (eval o X.env) = eval o X.env) : DE X (.Attribute o f pos) (propE tb mo) := fun W tk => by
  refine ⟨fun pins s σ H Q I h => ?_⟩
  refine attr_of hab (thn ((ho W tk).run pins s σ H _ I (tGv.bind (tG.v h))) fun u s1 ⟨x, H1, I1, r1, p, h1⟩ => ?_)
  obtain ⟨loc, S, env, hS, hE, rs, q⟩ := h1
  cases rs with
  | cons rp _ =>
    dsimp only at q
    split at q
    · split at q
      · split at q
        · rename_i i _ c fs e1 _ φ e2
          obtain ⟨a, dx, qs, rfl, hl, ha, rt⟩ := ins_rep hS e1 rp
          obtain rfl : u = Value.ref a := r1
          obtain ⟨p, g, hp, F⟩ := (T c φ e2).ex
          obtain ⟨mA, O, _, _, _, _⟩ := ins_get I1.hok ha
          obtain ⟨od, J, _⟩ := O.look
          obtain ⟨rest, hrec⟩ := hp.rec_
          have I2 := I1.tok (s1.toks + 1)
          have hc : (PySem.W.clsIn X.K (He.ga X.K c)).isSome = true := by
            obtain ⟨cd, hc, _⟩ := PySem.W.any_some (T c φ e2).cls.hd
            rw [hc]
            rfl
          refine PySem.W.get_bind I1.kIn J (PySem.W.plainGet_of ((T c φ e2).cls.get f)).1 (PySem.W.findObj_data hc hp.at_ hp.get hp.tak) (PySem.W.plainGet_of ((T c φ e2).cls.get f)).2 (wpAny_call (PySem.W.prop_get (s := { s1 with toks := s1.toks + 1 }) I1.kIn hrec ?_))
          have post : PostR X.K (WE fun _ _ _ => False) (RV X.K) [] Q loc H1 (φ ([.ref i] ++ []) S) := by
            rw [List.append_nil]
            cases e3 : φ [.ref i] S with
            | bad => rw [e3] at q; exact q
            | ok v S1 => rw [e3] at q; exact q
            | exc ec fs S1 => rw [e3] at q; exact q.elim
          refine codeAny_mono (F X.A.in1 X.stack { s1 with toks := s1.toks + 1 } H1 [.ref a] [] [.ref a] [] Q (fun _ _ _ => False) loc S [.ref i] [] hr.in1 hgd I2.env0.in1 (.cons rfl .nil) .nil rfl rfl hS (.cons rp .nil) .nil post) fun r s' hq => ?_
          cases r with
          | error er =>
            obtain ⟨_, _, _, _, _, _, _, _, _, _, _, _, z⟩ := hq
            exact z.elim
          | ok fl =>
            cases fl with
            | ret u =>
              obtain ⟨v, H', I3, rv, q3⟩ := I2.after hq
              show wpAny _ _ (handedOut u) _ _ _
              rw [PySem.W.handedOut_of (handed_of rv)]
              exact wpAny_pure ⟨v, H', I3, rv, q3⟩
            | next => exact False.elim hq
            | brk => exact False.elim hq
            | cont => exact False.elim hq
        · exact q.elim
      · exact q.elim
    · exact q.elim
end

/-! ### a def's run, by its record -/
section
variable {G : Pg} {k : Nat} {N : List Str}
theorem c_run {x qual : Str} {params : Arguments} {body : List Stmt} {scope : Scope} {f : Addr} {fd : FuncData} {ps : List Str} {mb : SM} {n : Nat} {ks : List Str} {idx : List Nat} (F : FunD G.K x qual params body scope [] [] f fd) (bl : ∀ x ∈ bltL, G.mg x = none) (hs : FnScope N ps scope)
    (sh : ∀ (kV doc pm : Value) (an : Option Addr) (cdv ct : Value) (s : Shared) (us ws : List Value), us.length = n → ws.length = ks.length → BindsTo s (PySem.W.fnOf x qual params body scope .none kV doc pm an cdv ct) ⟨us, ks.zip ws⟩ (ps.zip (pick idx (us ++ ws))))
    (hidx : idx.length = ps.length) (hin : ∀ j ∈ idx, j < n + ks.length) (hb : ∀ X : Cx, Ct G k N scope allB X → DSs X body mb) :
    CallRun G.P G.w G.K G.mg G.base (k + 1) f n ks fun args S => bodyM N.length mb (pick idx args) S := by
  obtain ⟨oc, od, dV, kV, doc, pm, an, cdv, ct, osl, rfl, lk, hcd, hD, _⟩ := F.ex
  obtain rfl : dV = .none := hD.elim (fun z => z.2) fun z => absurd rfl z.1
  have q := fn_run (P := G.P) (w := G.w) (mg := G.mg) (base := G.base) (k := k) (mb := mb) (n := n) (ks := ks) (idx := idx) (ds := []) (dvs := []) (dps := []) lk hcd hs (fun s us ws _ h1 h2 => by rw [List.append_nil]; exact sh kV doc pm an cdv ct s us ws h1 h2) .nil (fun _ _ => .nil) hidx (by simpa using hin)
    (fun A outer s H E hr hg => by
      have g := gd_of (P := G.P) (w := G.w) (K := G.K) (mg := G.mg) (base := G.base) (qual := qual) (scope := scope) (f := f) (cdv := cdv) (outer := outer) (H := H) (E := E) hs.nd hr hg
      exact hb _ ⟨g, rfl, rfl, rfl, rfl, rfl, rfl, hs.kind, fun _ _ => rfl, bl⟩)
  simpa using q
end
end D

/-! D16: methods of built-in types; in, over dicts and texts; the empty dict. -/
namespace D
open PySem PySem.Spec PyProof.Rows L2

inductive Tyn where
  | list | tuple | dict | str
def Tyn.nm : Tyn → String
  | .list => "list" | .tuple => "tuple" | .dict => "dict" | .str => "str"
def tyB : Tyn → PV → Hs → Bool
  | .list, .cl _, _ => true
  | .list, .ref i, S => (lstAt S i).isSome
  | .tuple, .tup _, _ => true
  | .dict, .ref i, S => (dctAt S i).isSome
  | .str, .str _, _ => true
  | _, _, _ => false
def DMt (X : Cx) (id : String) (f : PV → List PV → Hs → Res PV) : Prop :=
  ∀ W, Takes X W → ∀ (pins : List (Addr × Obj)) (s : Shared) (σ : St) (H : Hp) (x : V) (xs : List V) (v : Value) (us : List Value) (Q : VK) (loc : List Addr) (S : Hs) (p : PV) (ps : List PV),
    Inv X pins σ H s → RelV x v → Vals xs us → StR X.K loc S H → Rep X.K loc H p x → Reps X.K loc H ps xs → Post X.K W σ Q loc H (f p ps S) → wpAny (model X.prog X.w) X.A (call (.builtin id) (v :: us)) (EP X pins σ Q) X.xe s
theorem DMt.of {X : Cx} {id : String} {r : V → List V → Hp → VK → Prop} {f : PV → List PV → Hs → Res PV} (h : MtM X id r)
    (k : ∀ (W : WX) (σ : St) (H : Hp) (x : V) (xs : List V) (Q : VK) (loc : List Addr) (S : Hs) (p : PV) (ps : List PV), StR X.K loc S H → Rep X.K loc H p x → Reps X.K loc H ps xs → Post X.K W σ Q loc H (f p ps S) → r x xs H Q) : DMt X id f :=
  fun W tk pins s σ H x xs v us Q loc S p ps I rx rv hS hp hps post => h pins s σ H x xs v us Q I rx rv (k W σ H x xs Q loc S p ps hS hp hps post)
section
variable {X : Cx} {W : WX}
theorem ty_is {pins : List (Addr × Obj)} {s : Shared} {σ : St} {H : Hp} {x : V} {v : Value} {loc : List Addr} {S : Hs} {p : PV} {T : Tyn} (I : Inv X pins σ H s) (rx : RelV x v) (hS : StR X.K loc S H) (hp : Rep X.K loc H p x) (h : tyB T p S = true) :
    s.TypeIs v T.nm ∧ ∀ a, v = .ref a → ∃ ob, s.heap.get? a = some ob ∧ ob.dict = none := by
  unfold tyB at h
  split at h
  · cases hp with
    | cl h1 h2 =>
      cases rx
      obtain ⟨its, _, pl, _⟩ := I.list h1.sq
      refine ⟨pl.isList.typeIs, fun a e => ?_⟩
      cases e
      obtain ⟨o, n, e, c, hd, _⟩ := pl
      exact ⟨o, e, hd⟩
  · cases e1 : lstAt S _ with
    | none => rw [e1] at h; cases h
    | some xs =>
      obtain ⟨a, vs, rfl, _, ha, _⟩ := lst_rep hS e1 hp
      cases rx
      obtain ⟨its, _, pl, _⟩ := I.list (SqL.of ha)
      refine ⟨pl.isList.typeIs, fun a e => ?_⟩
      cases e
      obtain ⟨o, n, e, c, hd, _⟩ := pl
      exact ⟨o, e, hd⟩
  · cases hp with
    | tup h1 h2 =>
      cases rx
      obtain ⟨its, rv, pl, hz⟩ := I.tuple h1.sq
      refine ⟨let ⟨o, ho, hc, _⟩ := pl; ⟨o, ho, hc⟩, fun a e => ?_⟩
      cases e
      rcases h1 with ⟨o, e, d⟩ | ⟨o, _, _, e, _, d, _⟩
      · exact ⟨o, (I.hok _ _ e).1, d⟩
      · exact ⟨o, I.kIn _ o e, d⟩
  · cases e1 : dctAt S _ with
    | none => rw [e1] at h; cases h
    | some kvs =>
      obtain ⟨a, qs, rfl, _, ha, _⟩ := dct_rep hS e1 hp
      cases rx
      obtain ⟨_, _, _, _, o, _, _, e, ex, _⟩ := I.hok a _ ha
      refine ⟨⟨o, e, ex.1⟩, fun a e2 => ?_⟩
      cases e2
      exact ⟨o, e, ex.2.1⟩
  · cases hp
    obtain ⟨t, rfl⟩ := rx
    exact ⟨typeIs_str s _ t, fun _ e => nomatch e⟩
  · cases h
/-- o.m(..) of a built-in type -/
def bmE (T : Tyn) (f : PV → List PV → Hs → Res PV) (mo : EM) (n : AM) : EM := bindE mo fun o env S => if tyB T o S = true then (n env S).bind fun ps S' => f o ps S' else .bad
variable {o e : Expr} {es : List Expr} {mo : EM} {n : AM} {name : Str} {apos cpos : Pos} {T : Tyn} {id : String} {f : PV → List PV → Hs → Res PV}
theorem bm_go {σ : St} {H : Hp} {Q : VK} (h : tM X.K W (bmE T f mo n) σ H Q) : tM X.K W mo σ H fun x H1 => ∃ loc S env p, StR X.K loc S H1 ∧ SlR X.K loc H1 env σ ∧ Rep X.K loc H1 p x ∧ tyB T p S = true ∧ PostR X.K W (RV X.K) σ Q loc H1 ((n env S).bind fun ps S' => f p ps S') := by
  refine tG.imp (fun x H1 q => ?_) (tGv.bind (tG.v h))
  obtain ⟨p, loc, S, env, hS, hE, rs, q⟩ := q
  cases rs with
  | cons rp _ =>
    dsimp only at q
    split at q
    · exact ⟨loc, S, env, p, hS, hE, rp, by assumption, q⟩
    · exact q.elim
theorem de_bm0 (pa : PlainAttrs T.nm) (slot : Slot T.nm name id) (hty : typeOf (.builtin id) = pure (.type "method_descriptor")) (hm : DMt X id f) (ho : DE X o mo)
    (hbase : attributeBase o name X.env (eval o X.env) = eval o X.env) (hline : (apos.endLine == cpos.line) = true) : DE X (.Call (.Attribute o name apos) [] [] cpos) (bmE T f mo nilA) := fun W tk => by
  refine ⟨fun pins s σ H Q I h => ?_⟩
  refine wpAny_Call_method0_late hbase hline (thn ((ho W tk).run pins s σ H _ I (bm_go h)) fun v s1 ⟨x, H1, I1, r1, loc, S, env, p, hS, hE, rp, ty, q⟩ => ?_)
  obtain ⟨h1, h2⟩ := ty_is I1 r1 hS rp ty
  exact ⟨T.nm, id, pa, slot, hty, h1, h2, Calls.callWith_builtin rfl (PySem.evalArgs_none (hm W tk pins s1 σ H1 x [] v [] Q loc S p [] I1 r1 .nil hS rp .nil q))⟩
theorem de_bm (pa : PlainAttrs T.nm) (slot : Slot T.nm name id) (hty : typeOf (.builtin id) = pure (.type "method_descriptor")) (hm : DMt X id f) (ho : DE X o mo) (hs : NoStars (e :: es)) (ha : DA X (e :: es) n)
    (hbase : attributeBase o name X.env (eval o X.env) = eval o X.env)
    (hfew : ((backTo cpos (starEach (e :: es) X.env)).all (fun x => !x.1) && (backToKw cpos (keywordEach [] X.env)).all (fun x => x.1.isSome)
      && decide ((e :: es).length + ([] : List Keyword).length + (if ([] : List Keyword).isEmpty then 0 else 1) < 30)) = true)
    (hline : (apos.endLine == cpos.line) = true) : DE X (.Call (.Attribute o name apos) (e :: es) [] cpos) (bmE T f mo n) := fun W tk => by
  refine ⟨fun pins s σ H Q I h => ?_⟩
  refine wpAny_Call_method_late hbase hfew hline rfl (thn ((ho W tk).run pins s σ H _ I (bm_go h)) fun v s1 ⟨x, H1, I1, r1, loc, S, env, p, hS, hE, rp, ty, q⟩ => ?_)
  obtain ⟨h1, h2⟩ := ty_is I1 r1 hS rp ty
  refine ⟨T.nm, id, pa, slot, hty, h1, h2, ?_⟩
  have q1 : tA X.K W n σ H1 fun xs H2 => ∃ loc2 S2 ps, StR X.K loc2 S2 H2 ∧ Rep X.K loc2 H2 p x ∧ Reps X.K loc2 H2 ps xs ∧ PostR X.K W (RV X.K) σ Q loc2 H2 (f p ps S2) := by
    refine ⟨loc, S, env, hS, hE, ?_⟩
    cases e : n env S with
    | bad => rw [e] at q; exact q
    | exc c fs S1 => rw [e] at q; exact q
    | ok ps S1 => rw [e, Res.bind_ok] at q; exact fun l2 h2 xs g2 s2 r2 => ⟨l2, S1, ps, s2, Rep.up g2 _ _ rp, r2, PostR.up g2 q⟩
  have hA := (ha W tk).run cpos pins s1 σ H1 _ I1 q1
  rw [hs e List.mem_cons_self] at hA ⊢
  refine Calls.callWith_builtin (by show (false || (backTo cpos (starEach es X.env)).any (·.1)) = false; rw [any_plain fun x hx => hs x (List.mem_cons_of_mem _ hx)] <;> rfl) (Calls.evalArgs_plain ?_)
  exact thn hA fun us s2 ⟨vs, H2, I2, r2, loc2, S2, ps, hS2, rp2, rps, q2⟩ => hm W tk pins s2 σ H2 x vs v us Q loc2 S2 p ps I2 r1 r2 hS2 rp2 rps q2

/-! ### lists: append, pop -/
def appendP : PV → List PV → Hs → Res PV
  | .ref i, [v], S => match S[i]? with
    | some (.lst xs) => if xs.length < sizeLine then .ok .non (S.set i (.lst (xs ++ [v]))) else .bad
    | _ => .bad
  | _, _, _ => .bad
theorem d_append : DMt X "list.append" appendP := DMt.of mt_append fun W σ H x xs Q loc S p ps hS hp hps h => by
  unfold appendP at h
  split at h
  · split at h
    · split at h
      · rename_i ys e1 hz
        obtain ⟨y, rfl, ry⟩ := hps.one
        cases hp with
        | @ref _ a eq =>
          obtain ⟨vs, e3, rs⟩ := hS.obj _ _ _ e1 eq
          have g := hS.grow_put (u := .lst (vs ++ [y])) eq
          exact ⟨a, vs, y, rfl, rfl, e3, by rw [← rs.length]; exact hz, h loc _ _ g (hS.put eq ⟨_, upd_same, (rs.append (.cons ry .nil)).up g⟩) .non⟩
      · exact h.elim
    · exact h.elim
  · exact h.elim
def popP : PV → List PV → Hs → Res PV
  | .ref i, [], S => match S[i]? with
    | some (.lst xs) => match xs[xs.length - 1]? with
      | some p => .ok p (S.set i (.lst xs.dropLast))
      | none => .bad
    | _ => .bad
  | _, _, _ => .bad
theorem Reps.dropLast {K : PySem.W.Frag} {loc : List Addr} {H : Hp} {ps : List PV} {vs : List V} (r : Reps K loc H ps vs) : Reps K loc H ps.dropLast vs.dropLast := by
  rw [List.dropLast_eq_take, List.dropLast_eq_take, ← r.length]
  exact r.take _
theorem d_pop : DMt X "list.pop" popP := DMt.of mt_pop fun W σ H x xs Q loc S p ps hS hp hps h => by
  unfold popP at h
  split at h
  · split at h
    · split at h
      · rename_i ys e1 _ q e2
        cases hps
        cases hp with
        | @ref _ a eq =>
          obtain ⟨vs, e3, rs⟩ := hS.obj _ _ _ e1 eq
          obtain ⟨v, e4, rv⟩ := rs.get e2
          have g := hS.grow_put (u := .lst vs.dropLast) eq
          exact ⟨a, vs, v, rfl, rfl, e3, by rw [← rs.length]; exact e4, h loc _ _ g (hS.put eq ⟨_, upd_same, rs.dropLast.up g⟩) (Rep.up g _ _ rv)⟩
      · exact h.elim
    · exact h.elim
  · exact h.elim
/-! ### tuples: index (of texts) -/
def strsOf : List PV → Option (List Str)
  | [] => some []
  | .str x :: r => (strsOf r).map (x :: ·)
  | _ => none
theorem strsOf_eq : ∀ {ps : List PV} {xs : List Str}, strsOf ps = some xs → ps = xs.map PV.str
  | [], _, h => by cases h; rfl
  | .str x :: r, xs, h => by
    unfold strsOf at h
    cases e : strsOf r with
    | none => rw [e] at h; cases h
    | some ys =>
      rw [e] at h
      cases h
      rw [strsOf_eq e]
      rfl
  | .non :: _, _, h => by cases h
  | .bl _ :: _, _, h => by cases h
  | .int _ :: _, _, h => by cases h
  | .tup _ :: _, _, h => by cases h
  | .tpx _ :: _, _, h => by cases h
  | .cl _ :: _, _, h => by cases h
  | .ref _ :: _, _, h => by cases h
  | .wr _ :: _, _, h => by cases h
  | .ty _ :: _, _, h => by cases h
theorem reps_strs {K : PySem.W.Frag} {loc : List Addr} {H : Hp} : ∀ {xs : List Str} {vs : List V}, Reps K loc H (xs.map PV.str) vs → vs = xs.map V.str
  | [], _, h => by cases h; rfl
  | x :: xs, _, h => by
    cases h with
    | cons h1 h2 =>
      cases h1
      rw [reps_strs h2]
      rfl
theorem idxOf_at : ∀ {xs : List Str} {z : Str}, z ∈ xs → xs[xs.idxOf z]? = some z ∧ ∀ m, m < xs.idxOf z → xs[m]? ≠ some z
  | [], _, h => by cases h
  | x :: xs, z, h => by
    rw [List.idxOf_cons]
    by_cases e : x = z
    · subst e
      simp
    · have e' : (x == z) = false := by simpa using e
      rw [e', cond_false]
      have hz : z ∈ xs := by
        rcases List.mem_cons.mp h with q | q
        · exact absurd q.symm e
        · exact q
      obtain ⟨h1, h2⟩ := idxOf_at hz
      refine ⟨by rw [List.getElem?_cons_succ]; exact h1, fun m hm q => ?_⟩
      cases m with
      | zero => rw [List.getElem?_cons_zero] at q; exact e (Option.some.inj q)
      | succ m => rw [List.getElem?_cons_succ] at q; exact h2 m (by omega) q
def tindexP : PV → List PV → Hs → Res PV
  | .tup ps, [.str z], S => match strsOf ps with
    | some xs => if z ∈ xs then .ok (.int (xs.idxOf z : Nat)) S else .bad
    | none => .bad
  | _, _, _ => .bad
theorem d_tindex : DMt X "tuple.index" tindexP := DMt.of mt_tup_index fun W σ H x xs Q loc S p ps hS hp hps h => by
  unfold tindexP at h
  split at h
  · split at h
    · split at h
      · rename_i ps z _ ys e1 hz
        obtain ⟨y, rfl, ry⟩ := hps.one
        cases ry
        cases hp with
        | tup h1 h2 =>
          rw [strsOf_eq e1] at h2
          have ev := reps_strs h2
          subst ev
          refine ⟨_, ys, z, ys.idxOf z, rfl, rfl, h1.sq, ?_, fun m hm e => ?_, h _ _ _ .refl hS (.int _)⟩
          · exact (idxOf_at hz).1
          · exact (idxOf_at hz).2 m hm e
      · exact h.elim
    · exact h.elim
  · exact h.elim
end
end D

/-! D17: dicts: get, pop, in; in over texts and over own instances; the empty dict. -/
namespace D
open PySem PySem.Spec PyProof.Rows L2

def dgetP : PV → List PV → Hs → Res PV
  | .ref i, [q], S => match dctAt S i, keyP q with
    | some kvs, some k => .ok ((dval kvs k).getD .non) S
    | _, _ => .bad
  | .ref i, [q, z], S => match dctAt S i, keyP q with
    | some kvs, some k => .ok ((dval kvs k).getD z) S
    | _, _ => .bad
  | _, _, _ => .bad
def dpopP : PV → List PV → Hs → Res PV
  | .ref i, [q], S => match dctAt S i, keyP q with
    | some kvs, some k => match dval kvs k with
      | some p => .ok p (S.set i (.dct (ddrop kvs k)))
      | none => .bad
    | _, _ => .bad
  | .ref i, [q, z], S => match dctAt S i, keyP q with
    | some kvs, some k => match dval kvs k with
      | some p => .ok p (S.set i (.dct (ddrop kvs k)))
      | none => .ok z S
    | _, _ => .bad
  | _, _, _ => .bad
section
variable {X : Cx} {k : Nat}
theorem getD_rep {K : PySem.W.Frag} {loc : List Addr} {H : Hp} {kvs : List (Key × PV)} {qs : List (Key × V)} (r : TRep K loc H kvs qs) (kk : Key) {z : PV} {d : V} (rz : Rep K loc H z d) : Rep K loc H ((dval kvs kk).getD z) ((valV qs kk).getD d) := by
  have h := r.val kk
  cases e : dval kvs kk with
  | none => rw [e] at h; rw [h]; exact rz
  | some p => rw [e] at h; obtain ⟨v, h1, h2⟩ := h; rw [h1]; exact h2
theorem d_dget (hr : Room k X.A) : DMt X "dict.get" dgetP := by
  intro W tk pins s σ H x xs v us Q loc S p ps I rx rv hS hp hps h
  unfold dgetP at h
  split at h
  · split at h
    · rename_i kvs kk e1 e2
      obtain ⟨y, rfl, ry⟩ := hps.one
      obtain ⟨a, qs, rfl, _, hd, rt⟩ := dct_rep hS e1 hp
      obtain ⟨u, rfl, ru⟩ := vals1 rv
      obtain rfl := keyP_rep e2 ry
      cases rx
      exact d_get1 (hu_of hr) I (DGet.k hd) ru fun w' s' I' rw' => ⟨_, H, I', rw', h _ _ _ .refl hS (getD_rep rt kk .non)⟩
    · exact h.elim
  · split at h
    · rename_i kvs kk e1 e2
      obtain ⟨y, z, rfl, ry, rz⟩ := hps.two
      obtain ⟨a, qs, rfl, _, hd, rt⟩ := dct_rep hS e1 hp
      obtain ⟨u, u2, rfl, ru, ru2⟩ := L2.Vals.two rv
      obtain rfl := keyP_rep e2 ry
      cases rx
      exact d_get2 (hu_of hr) I (DGet.k hd) ru ru2 fun w' s' I' rw' => ⟨_, H, I', rw', h _ _ _ .refl hS (getD_rep rt kk rz)⟩
    · exact h.elim
  · exact h.elim
theorem d_dpop : DMt X "dict.pop" dpopP := by
  intro W tk pins s σ H x xs v us Q loc S p ps I rx rv hS hp hps h
  unfold dpopP at h
  split at h
  · split at h
    · split at h
      · rename_i kvs kk e1 e2 _ q e3
        obtain ⟨y, rfl, ry⟩ := hps.one
        obtain ⟨a, qs, rfl, hl, hd, rt⟩ := dct_rep hS e1 hp
        obtain ⟨u, rfl, ru⟩ := vals1 rv
        obtain rfl := keyP_rep e2 ry
        cases rx
        have hv := rt.val kk
        rw [e3] at hv
        obtain ⟨w0, hw, rw0⟩ := hv
        have g := hS.grow_put (u := .dK (dropK qs kk)) hl
        exact L2.d_pop I hd ru hw (.inl rfl) fun w' s' I' rw' => ⟨_, _, I', rw', h loc _ _ g (hS.put hl ⟨_, upd_same, (rt.drop kk).up g⟩) (Rep.up g _ _ rw0)⟩
      · exact h.elim
    · exact h.elim
  · split at h
    · split at h
      · rename_i kvs kk e1 e2 _ q e3
        obtain ⟨y, z, rfl, ry, rz⟩ := hps.two
        obtain ⟨a, qs, rfl, hl, hd, rt⟩ := dct_rep hS e1 hp
        obtain ⟨u, u2, rfl, ru, ru2⟩ := L2.Vals.two rv
        obtain rfl := keyP_rep e2 ry
        cases rx
        have hv := rt.val kk
        rw [e3] at hv
        obtain ⟨w0, hw, rw0⟩ := hv
        have g := hS.grow_put (u := .dK (dropK qs kk)) hl
        exact L2.d_pop I hd ru hw (.inr ⟨_, rfl⟩) fun w' s' I' rw' => ⟨_, _, I', rw', h loc _ _ g (hS.put hl ⟨_, upd_same, (rt.drop kk).up g⟩) (Rep.up g _ _ rw0)⟩
      · rename_i kvs kk e1 e2 _ e3
        obtain ⟨y, z, rfl, ry, rz⟩ := hps.two
        obtain ⟨a, qs, rfl, hl, hd, rt⟩ := dct_rep hS e1 hp
        obtain ⟨u, u2, rfl, ru, ru2⟩ := L2.Vals.two rv
        obtain rfl := keyP_rep e2 ry
        cases rx
        have hv := rt.val kk
        rw [e3] at hv
        exact d_popD I hd ru hv fun s' I' => ⟨_, H, I', ru2, h _ _ _ .refl hS rz⟩
    · exact h.elim
  · exact h.elim

/-! ### in -/
/-- one sign in a text; a key in a dict; data in a list or tuple -/
def inXB (S : Hs) (p q : PV) : Option Bool := match q with
  | .str z => match p with
    | .str x => if x.cps.size = 1 then some (decide (x.cps.toList.headD 0 ∈ z.cps.toList)) else none
    | _ => none
  | .ref i => match dctAt S i with
    | some kvs => match keyP p with
      | some k => some (dval kvs k).isSome
      | none => none
    | none => inB S p (.ref i)
  | q => inB S p q
def inX (b : Bool) (p q : PV) (S : Hs) : Res PV := match inXB S p q with
  | some c => .ok (.bl (b != c)) S
  | none => .bad
theorem dval_some {K : PySem.W.Frag} {loc : List Addr} {H : Hp} {kvs : List (Key × PV)} {qs : List (Key × V)} (r : TRep K loc H kvs qs) (kk : Key) : (valV qs kk).isSome = (dval kvs kk).isSome := by
  have h := r.val kk
  cases e : dval kvs kk with
  | none => rw [e] at h; rw [h]; rfl
  | some p => rw [e] at h; obtain ⟨v, h1, _⟩ := h; rw [h1]; rfl
theorem one_sign {x : Str} (h : x.cps.size = 1) : x = ⟨#[x.cps.toList.headD 0]⟩ := by
  obtain ⟨⟨l⟩⟩ := x
  cases l with
  | nil => simp at h
  | cons c l =>
    cases l with
    | nil => rfl
    | cons _ _ => simp at h
theorem d_inX (hr : Room k X.A) : DOp X (compareOp .In) (inX false) := by
  intro W tk pins s σ H x y v u Q loc S p q I rx ry hS hp hq h
  unfold inX at h
  cases e : inXB S p q with
  | none => rw [e] at h; exact h.elim
  | some c =>
    rw [e] at h
    have old : inB S p q = some c → wpAny (model X.prog X.w) X.A (compareOp .In v u) (EP X pins σ Q) X.xe s := fun e' => by
      refine d_cmp hr .In W tk pins s σ H x y v u Q loc S p q I rx ry hS hp hq ?_
      show Post _ _ _ _ _ _ (inP p q S)
      unfold inP
      rw [e']
      simpa using h
    unfold inXB at e
    split at e
    · split at e
      · split at e
        · rename_i z _ a hz
          cases e
          cases hp; cases hq
          refine op_in_sign pins s σ H _ _ v u Q I rx ry ⟨a.cps.toList.headD 0, z, by rw [← one_sign hz], rfl, ?_⟩
          simpa using h _ _ _ .refl hS (.bl _)
        · cases e
      · cases e
    · split at e
      · split at e
        · rename_i kvs e1 _ kk e2
          cases e
          obtain ⟨a, qs, rfl, _, hd, rt⟩ := dct_rep hS e1 hq
          obtain rfl := keyP_rep e2 hp
          cases ry
          refine L2.d_in (hu_of hr) I (DGet.k hd) rx fun s' I' => ⟨.bl _, H, I', rfl, ?_⟩
          rw [dval_some rt]
          simpa using h _ _ _ .refl hS (.bl _)
        · cases e
      · exact old e
    · exact old e
theorem d_ninX (hr : Room k X.A) : DOp X (compareOp .NotIn) (inX true) := by
  intro W tk pins s σ H x y v u Q loc S p q I rx ry hS hp hq h
  unfold inX at h
  cases e : inXB S p q with
  | none => rw [e] at h; exact h.elim
  | some c =>
    rw [e] at h
    have old : inB S p q = some c → wpAny (model X.prog X.w) X.A (compareOp .NotIn v u) (EP X pins σ Q) X.xe s := fun e' => by
      refine d_cmp hr .NotIn W tk pins s σ H x y v u Q loc S p q I rx ry hS hp hq ?_
      show Post _ _ _ _ _ _ (ninP p q S)
      unfold ninP
      rw [e']
      simpa using h
    unfold inXB at e
    split at e
    · split at e
      · split at e
        · rename_i z _ a hz
          cases e
          cases hp; cases hq
          refine op_notIn_sign pins s σ H _ _ v u Q I rx ry ⟨a.cps.toList.headD 0, z, by rw [← one_sign hz], rfl, ?_⟩
          simpa using h _ _ _ .refl hS (.bl _)
        · cases e
      · cases e
    · split at e
      · split at e
        · rename_i kvs e1 _ kk e2
          cases e
          obtain ⟨a, qs, rfl, _, hd, rt⟩ := dct_rep hS e1 hq
          obtain rfl := keyP_rep e2 hp
          cases ry
          refine L2.d_notIn (hu_of hr) I (DGet.k hd) rx fun s' I' => ⟨.bl _, H, I', rfl, ?_⟩
          rw [dval_some rt]
          simpa using h _ _ _ .refl hS (.bl _)
        · cases e
      · exact old e
    · exact old e
/-- {} -/
def emptyD : EM := fun _ S => .ok (.ref S.length) (S ++ [.dct []])
theorem de_edict {pos : Pos} : DE X (.Dict [] [] pos) emptyD := fun W tk => pe_dnewK.imp fun σ H Q q => by
  obtain ⟨loc, S, env, hS, hE, h⟩ := q
  intro p n
  exact h _ _ _ (hS.grow_new n) (hS.new n ⟨[], upd_same, .nil⟩) (.ref (hS.last p))

/-! ### in, over own instances -/
def inOwn (tb : List (Str × Fun1)) (b : Bool) (p q : PV) (S : Hs) : Res PV := match q with
  | .ref i => match S[i]? with
    | some (.ins c _) => match tb.lookup c with
      | some φ => (φ [.ref i, p] S).bind fun r S' => (truP r S').bind fun z S'' => .ok (.bl (b != z)) S''
      | none => .bad
    | _ => inX b p q S
  | q => inX b p q S
structure SOk' (P : Program) (w : World) (K : PySem.W.Frag) (mg : Str → Option Value) (base : Heap) (k : Nat) (c m : Str) (n : Nat) (φ : Fun1) : Prop where
  ex : ∃ f, PySem.W.findIn K (.ref (He.ga K c)) m = some (some (.ref f)) ∧ PySem.W.isFn K (.ref f) = true ∧ CallRun P w K mg base k f n [] φ
def STb (P : Program) (w : World) (K : PySem.W.Frag) (mg : Str → Option Value) (base : Heap) (k : Nat) (m : Str) (n : Nat) (tb : List (Str × Fun1)) : Prop := ∀ c φ, tb.lookup c = some φ → SOk' P w K mg base k c m n φ
theorem contains_own {M : Model} {K : PySem.W.Frag} {A : Around} {E : Value → Shared → Prop} {s : Shared} {x C f : Addr} {ox : Obj} {od : Option Obj} {v : Value} {Q : Bool → Shared → Prop} (KX : K.In s.heap) (I : PySem.W.InstAt s.heap x ox C od) (hs : PySem.W.findIn K (.ref C) "__contains__" = some (some (.ref f))) (hf : PySem.W.isFn K (.ref f) = true)
    (h : wpAny M A (call (.ref f) [.ref x, v]) (fun r s' => wpAny M A (truthy r) Q E s') E s) : wpAny M A (contains (.ref x) v) Q E s := by
  unfold contains
  refine wpAny_holding (wpAny_bind (wpAny_bind (I.type.here ((PySem.W.looks_findIn KX hs).here ?_))))
  rw [if_neg (by simp)]
  exact wpAny_bind (PySem.W.unlessNone_K KX I hs hf h)
theorem inOwn_go (hr : Room k X.A) (hg : X.A.guards = some []) {W : WX} (tk : Takes X W) {c : Str} {φ : Fun1} {b : Bool} (T : SOk' X.prog X.w X.K X.mg X.base k c "__contains__" 2 φ) {pins : List (Addr × Obj)} {s : Shared} {σ : St} {H : Hp} {x : V} {v : Value} {Q : VK} {loc : List Addr} {S : Hs} {p : PV} {i : Nat} {a dx : Addr} {qs : List (Str × V)}
    (I : Inv X pins σ H s) (rx : RelV x v) (hS : StR X.K loc S H) (hp : Rep X.K loc H p x) (hq : Rep X.K loc H (.ref i) (.ref a)) (ha : H a = some (.ins (He.ga X.K c) dx qs))
    (h : Post X.K W σ Q loc H ((φ [.ref i, p] S).bind fun r S' => (truP r S').bind fun z S'' => .ok (.bl (b != z)) S'')) :
    wpAny (model X.prog X.w) X.A (contains (.ref a) v) (fun z s' => ∃ H', Inv X pins σ H' s' ∧ Q (.bl (b != z)) H') X.xe s := by
  obtain ⟨f, hf, hfn, F⟩ := T.ex
  obtain ⟨mA, O, _, _, _, _⟩ := ins_get I.hok ha
  obtain ⟨od, J, _⟩ := O.look
  refine contains_own I.kIn J hf hfn ?_
  have post : Post X.K W σ (fun y H1 => ∃ loc1 S1 r, StR X.K loc1 S1 H1 ∧ Rep X.K loc1 H1 r y ∧ PostR X.K W RB σ (fun z H2 => Q (.bl (b != z)) H2) loc1 H1 (truP r S1)) loc H (φ ([.ref i, p] ++ []) S) := by
    rw [List.append_nil]
    cases e : φ [.ref i, p] S with
    | bad => rw [e] at h; exact h
    | exc _ _ _ => rw [e] at h; exact h
    | ok r S1 =>
      rw [e, Res.bind_ok] at h
      intro l1 h1 y g1 s1 r1
      refine ⟨l1, S1, r, s1, r1, ?_⟩
      cases e2 : truP r S1 with
      | bad => rw [e2] at h; exact h
      | exc _ _ _ => exact absurd e2 truP_noexc
      | ok z S2 =>
        rw [e2, Res.bind_ok] at h
        intro l2 h2 z' g2 s2 ez
        have ez : z = z' := ez
        subst ez
        exact h l2 h2 _ (g1.trans g2) s2 (.bl _)
  refine thn (run_call (us := [.ref a, v]) (ws := []) (vs := [.ref a, x]) (zs := []) tk hr hg F I (.cons rfl (.cons rx .nil)) .nil rfl rfl hS (.cons hq (.cons hp .nil)) .nil post) fun r s1 ⟨y, H1, I1, r1, loc1, S1, pr, hS1, rr, k1⟩ => ?_
  exact d_tru W tk pins s1 σ H1 y r (fun z H2 => Q (.bl (b != z)) H2) loc1 S1 pr I1 r1 hS1 rr k1
theorem d_inOwn (hr : Room k X.A) (hg : X.A.guards = some []) {tb : List (Str × Fun1)} (T : STb X.prog X.w X.K X.mg X.base k "__contains__" 2 tb) : DOp X (compareOp .In) (inOwn tb false) := by
  intro W tk pins s σ H x y v u Q loc S p q I rx ry hS hp hq h
  unfold inOwn at h
  split at h
  · split at h
    · split at h
      · rename_i i _ c fs e1 _ φ e2
        obtain ⟨a, dx, qs, rfl, _, ha, _⟩ := ins_rep hS e1 hq
        obtain rfl : u = Value.ref a := ry
        refine wpAny_bind (thn (inOwn_go hr hg tk (T c φ e2) I rx hS hp hq ha h) fun z s1 ⟨H1, I1, q1⟩ => wpAny_pure ⟨.bl z, H1, I1, rfl, by simpa using q1⟩)
      · exact h.elim
    · exact d_inX hr W tk pins s σ H x y v u Q loc S p _ I rx ry hS hp hq h
  · exact d_inX hr W tk pins s σ H x y v u Q loc S p _ I rx ry hS hp hq h
theorem d_ninOwn (hr : Room k X.A) (hg : X.A.guards = some []) {tb : List (Str × Fun1)} (T : STb X.prog X.w X.K X.mg X.base k "__contains__" 2 tb) : DOp X (compareOp .NotIn) (inOwn tb true) := by
  intro W tk pins s σ H x y v u Q loc S p q I rx ry hS hp hq h
  unfold inOwn at h
  split at h
  · split at h
    · split at h
      · rename_i i _ c fs e1 _ φ e2
        obtain ⟨a, dx, qs, rfl, _, ha, _⟩ := ins_rep hS e1 hq
        obtain rfl : u = Value.ref a := ry
        refine wpAny_bind (thn (inOwn_go hr hg tk (T c φ e2) I rx hS hp hq ha h) fun z s1 ⟨H1, I1, q1⟩ => wpAny_pure ⟨.bl (!z), H1, I1, rfl, by simpa using q1⟩)
      · exact h.elim
    · exact d_ninX hr W tk pins s σ H x y v u Q loc S p _ I rx ry hS hp hq h
  · exact d_ninX hr W tk pins s σ H x y v u Q loc S p _ I rx ry hS hp hq h
end
end D

/-! D18: any, all, max, min of a list; slices; list, tuple, dict of a dict; isinstance; module constants; chains. -/
namespace D
open PySem PySem.Spec PyProof.Rows L2

def blsOf : List PV → Option (List Bool)
  | [] => some []
  | p :: r => match p, blsOf r with
    | .bl b, some bs => some (b :: bs)
    | _, _ => none
theorem blsOf_eq : ∀ {ps : List PV} {bs : List Bool}, blsOf ps = some bs → ps = bs.map PV.bl
  | [], _, h => by cases h; rfl
  | p :: r, bs, h => by
    unfold blsOf at h
    split at h
    · cases h
      rename_i b bs' e
      rw [blsOf_eq e]; rfl
    · cases h
@[simp] theorem blsOf_map : ∀ bs : List Bool, blsOf (bs.map PV.bl) = some bs
  | [] => rfl
  | b :: bs => by
    have ih := blsOf_map bs
    simp only [List.map_cons, blsOf, ih]
def intsOf : List PV → Option (List Int)
  | [] => some []
  | p :: r => match p, intsOf r with
    | .int b, some bs => some (b :: bs)
    | _, _ => none
theorem intsOf_eq : ∀ {ps : List PV} {bs : List Int}, intsOf ps = some bs → ps = bs.map PV.int
  | [], _, h => by cases h; rfl
  | p :: r, bs, h => by
    unfold intsOf at h
    split at h
    · cases h
      rename_i b bs' e
      rw [intsOf_eq e]; rfl
    · cases h
@[simp] theorem intsOf_map : ∀ bs : List Int, intsOf (bs.map PV.int) = some bs
  | [] => rfl
  | b :: bs => by
    have ih := intsOf_map bs
    simp only [List.map_cons, intsOf, ih]
section
variable {K : PySem.W.Frag} {loc : List Addr} {H : Hp}
theorem reps_bls : ∀ {xs : List Bool} {vs : List V}, Reps K loc H (xs.map PV.bl) vs → vs = xs.map V.bl
  | [], _, h => by cases h; rfl
  | x :: xs, _, h => by
    cases h with
    | cons h1 h2 =>
      cases h1
      rw [reps_bls h2]
      rfl
theorem reps_intsV : ∀ {xs : List Int} {vs : List V}, Reps K loc H (xs.map PV.int) vs → vs = xs.map V.int
  | [], _, h => by cases h; rfl
  | x :: xs, _, h => by
    cases h with
    | cons h1 h2 =>
      cases h1
      rw [reps_intsV h2]
      rfl
end
def anyP : List PV → Hs → Res PV
  | [p], S => match seqOf S p with
    | some xs => match blsOf xs with
      | some bs => .ok (.bl (bs.any id)) S
      | none => .bad
    | none => .bad
  | _, _ => .bad
def allP : List PV → Hs → Res PV
  | [p], S => match seqOf S p with
    | some xs => match blsOf xs with
      | some bs => .ok (.bl (bs.all id)) S
      | none => .bad
    | none => .bad
  | _, _ => .bad
def maxOf : List Int → Int
  | [] => 0
  | [x] => x
  | x :: r => max x (maxOf r)
def minOf : List Int → Int
  | [] => 0
  | [x] => x
  | x :: r => min x (minOf r)
theorem maxOf_ge : ∀ {xs : List Int} {y : Int}, y ∈ xs → y ≤ maxOf xs
  | [x], y, h => by
    have : y = x := by simpa using h
    rw [this]; exact Int.le_refl _
  | x :: z :: r, y, h => by
    show y ≤ max x (maxOf (z :: r))
    rcases List.mem_cons.mp h with e | h
    · rw [e]; exact Int.le_max_left _ _
    · exact Int.le_trans (maxOf_ge h) (Int.le_max_right _ _)
theorem minOf_le : ∀ {xs : List Int} {y : Int}, y ∈ xs → minOf xs ≤ y
  | [x], y, h => by
    have : y = x := by simpa using h
    rw [this]; exact Int.le_refl _
  | x :: z :: r, y, h => by
    show min x (minOf (z :: r)) ≤ y
    rcases List.mem_cons.mp h with e | h
    · rw [e]; exact Int.min_le_left _ _
    · exact Int.le_trans (Int.min_le_right _ _) (minOf_le h)
theorem maxOf_mem : ∀ {xs : List Int}, xs ≠ [] → maxOf xs ∈ xs
  | [], h => absurd rfl h
  | [x], _ => by simp [maxOf]
  | x :: z :: r, _ => by
    show max x (maxOf (z :: r)) ∈ _
    have ih := maxOf_mem (xs := z :: r) (by simp)
    rcases Int.le_total x (maxOf (z :: r)) with q | q
    · rw [Int.max_eq_right q]; exact List.mem_cons_of_mem _ ih
    · rw [Int.max_eq_left q]; exact List.mem_cons_self
theorem minOf_mem : ∀ {xs : List Int}, xs ≠ [] → minOf xs ∈ xs
  | [], h => absurd rfl h
  | [x], _ => by simp [minOf]
  | x :: z :: r, _ => by
    show min x (minOf (z :: r)) ∈ _
    have ih := minOf_mem (xs := z :: r) (by simp)
    rcases Int.le_total x (minOf (z :: r)) with q | q
    · rw [Int.min_eq_left q]; exact List.mem_cons_self
    · rw [Int.min_eq_right q]; exact List.mem_cons_of_mem _ ih
/-- max(i, j), max(list of ints) -/
def maxP : List PV → Hs → Res PV
  | [p], S => match seqOf S p with
    | some xs => match intsOf xs with
      | some (n :: ns) => .ok (.int (maxOf (n :: ns))) S
      | _ => .bad
    | none => .bad
  | ps, S => max2P ps S
def minP : List PV → Hs → Res PV
  | [p], S => match seqOf S p with
    | some xs => match intsOf xs with
      | some (n :: ns) => .ok (.int (minOf (n :: ns))) S
      | _ => .bad
    | none => .bad
  | ps, S => min2P ps S
section
variable {X : Cx} {k : Nat}
theorem d_any (hc : X.calm = true) : DCl X (.builtin "any") anyP := by
  refine DCl.of (cr_any hc) fun W σ H xs Q loc S ps hS hp h => ?_
  unfold anyP at h
  split at h
  · split at h
    · split at h
      · rename_i e1 _ bs e2
        obtain ⟨x, rfl, r⟩ := hp.one
        obtain ⟨a, vs, rfl, ha, ra⟩ := seq_rep hS e1 r
        rw [blsOf_eq e2] at ra
        obtain rfl := reps_bls ra
        exact ⟨a, bs, rfl, ha, h _ _ _ .refl hS (.bl _)⟩
      · exact h.elim
    · exact h.elim
  · exact h.elim
theorem d_all (hc : X.calm = true) : DCl X (.builtin "all") allP := by
  refine DCl.of (cr_all hc) fun W σ H xs Q loc S ps hS hp h => ?_
  unfold allP at h
  split at h
  · split at h
    · split at h
      · rename_i e1 _ bs e2
        obtain ⟨x, rfl, r⟩ := hp.one
        obtain ⟨a, vs, rfl, ha, ra⟩ := seq_rep hS e1 r
        rw [blsOf_eq e2] at ra
        obtain rfl := reps_bls ra
        exact ⟨a, bs, rfl, ha, h _ _ _ .refl hS (.bl _)⟩
      · exact h.elim
    · exact h.elim
  · exact h.elim
theorem d_max (hc : X.calm = true) : DCl X (.builtin "max") maxP := by
  intro W tk pins s σ H xs us Q loc S ps I rv hS hp h
  unfold maxP at h
  split at h
  · split at h
    · split at h
      · rename_i e1 _ n ns e2
        obtain ⟨x, rfl, r⟩ := hp.one
        obtain ⟨a, vs, rfl, ha, ra⟩ := seq_rep hS e1 r
        rw [intsOf_eq e2] at ra
        obtain rfl := reps_intsV ra
        refine cr_max hc pins s σ H _ us Q I rv ⟨a, n :: ns, rfl, ha, by simp, fun m hm hy => ?_⟩
        have : m = maxOf (n :: ns) := Int.le_antisymm (maxOf_ge hm) (hy _ (maxOf_mem (by simp)))
        rw [this]
        exact h _ _ _ .refl hS (.int _)
      · exact h.elim
    · exact h.elim
  · exact d_max2 hc W tk pins s σ H xs us Q loc S ps I rv hS hp h
theorem d_min (hc : X.calm = true) : DCl X (.builtin "min") minP := by
  intro W tk pins s σ H xs us Q loc S ps I rv hS hp h
  unfold minP at h
  split at h
  · split at h
    · split at h
      · rename_i e1 _ n ns e2
        obtain ⟨x, rfl, r⟩ := hp.one
        obtain ⟨a, vs, rfl, ha, ra⟩ := seq_rep hS e1 r
        rw [intsOf_eq e2] at ra
        obtain rfl := reps_intsV ra
        refine cr_min hc pins s σ H _ us Q I rv ⟨a, n :: ns, rfl, ha, by simp, fun m hm hy => ?_⟩
        have : m = minOf (n :: ns) := Int.le_antisymm (hy _ (minOf_mem (by simp))) (minOf_le hm)
        rw [this]
        exact h _ _ _ .refl hS (.int _)
      · exact h.elim
    · exact h.elim
  · exact d_min2 hc W tk pins s σ H xs us Q loc S ps I rv hS hp h

/-! ### slices -/
def cutP {α : Type} (xs : List α) (lo hi : Option Int) : List α := (xs.drop (HT.sIx xs.length 0 lo)).take (HT.sIx xs.length xs.length hi - HT.sIx xs.length 0 lo)
abbrev OM := Sl → Hs → Res (Option Int)
def noO : OM := fun _ S => .ok none S
def someO (m : EM) : OM := bindE m fun p _ S => match p with
  | .int i => .ok (some i) S
  | _ => .bad
def DO (X : Cx) (e : Option Expr) (m : OM) : Prop := ∀ W, Takes X W → ∃ t, PO X e t ∧ ∀ σ H Q, tG X.K W (fun _ _ a b => a = b) m σ H Q → t σ H Q
theorem do_none : DO X none noO := fun W tk => ⟨_, po_none, fun σ H Q q => by
  obtain ⟨loc, S, env, hS, hE, h⟩ := q
  exact h _ _ _ .refl hS rfl⟩
theorem do_some {e : Expr} {m : EM} (h : DE X e m) : DO X (some e) (someO m) := fun W tk => ⟨_, po_some (h W tk), fun σ H Q q => by
  obtain ⟨loc, S, env, hS, hE, k⟩ := q
  refine ⟨loc, S, env, hS, hE, ?_⟩
  unfold someO bindE at k
  cases e : m env S with
  | bad => rw [e] at k; exact k
  | exc _ _ _ => rw [e] at k; exact k
  | ok p S1 =>
    rw [e, Res.bind_ok] at k
    intro l2 h2 x g2 s2 r2
    dsimp only at k
    split at k
    · cases r2
      exact ⟨_, rfl, k _ _ _ g2 s2 rfl⟩
    · exact k.elim⟩
def slP (p : PV) (lo hi : Option Int) (S : Hs) : Res PV := match p with
  | .tup xs => .ok (.tup (cutP xs lo hi)) S
  | .str z => if z.length ≤ sizeLine then .ok (.str (cutS z lo hi)) S else .bad
  | p => match seqOf S p with
    | some xs => newL (cutP xs lo hi) S
    | none => .bad
def slE (m : EM) (l h : OM) : EM := bindE m fun p => bindE l fun lo => bindE h fun hi _ S => slP p lo hi S
theorem Reps.cut {K : PySem.W.Frag} {loc : List Addr} {H : Hp} {ps : List PV} {vs : List V} (r : Reps K loc H ps vs) (lo hi : Option Int) : Reps K loc H (cutP ps lo hi) (cutV vs lo hi) := by
  unfold cutP cutV
  rw [← r.length]
  exact (r.drop _).take _
theorem cutP_whole {α : Type} {xs : List α} {lo hi : Option Int} (h : HT.sIx xs.length 0 lo = 0 ∧ HT.sIx xs.length xs.length hi = xs.length) : cutP xs lo hi = xs := by
  unfold cutP
  rw [h.1, h.2]
  simp
theorem de_slice {e : Expr} {lo hi : Option Expr} {me : EM} {ml mh : OM} {p2 pos : Pos} (he : DE X e me) (hl : DO X lo ml) (hh : DO X hi mh) : DE X (.Subscript e (.Slice lo hi none p2) pos) (slE me ml mh) := fun W tk => by
  obtain ⟨tl, pl, fl⟩ := hl W tk
  obtain ⟨th, ph, fh⟩ := hh W tk
  refine (pe_slice (L2.SlR.or sl_tupF (L2.SlR.or sl_list sl_str)) (he W tk) pl ph).imp fun σ H Q q => ?_
  refine tG.imp (fun x H1 q1 => ?_) (tGv.bind (tG.v q))
  obtain ⟨p, loc, S, env, hS, hE, rs, k1⟩ := q1
  cases rs with
  | cons rp _ =>
    refine fl σ H1 _ ⟨loc, S, env, hS, hE, ?_⟩
    unfold bindE at k1
    cases e1 : ml env S with
    | bad => rw [e1] at k1; exact k1
    | exc _ _ _ => rw [e1] at k1; exact k1
    | ok l S1 =>
      rw [e1, Res.bind_ok] at k1
      dsimp only at k1
      intro l1 h1 lo' g1 s1 elo
      subst elo
      refine fh σ h1 _ ⟨l1, S1, env, s1, hE.up g1, ?_⟩
      cases e2 : mh env S1 with
      | bad => rw [e2] at k1; exact k1
      | exc _ _ _ => rw [e2] at k1; exact fun l3 h3 d g3 s3 r3 => k1 l3 h3 d (g1.trans g3) s3 r3
      | ok u S2 =>
        rw [e2, Res.bind_ok] at k1
        intro l2 h2 hi' g2 s2 ehi
        subst ehi
        have rp2 := Rep.up (g1.trans g2) _ _ rp
        have k2 : Post X.K W σ Q l2 h2 (slP p l u S2) := PostR.up (g1.trans g2) k1
        unfold slP at k2
        split at k2
        · cases rp2 with
          | tup t1 t2 =>
            refine .inl ⟨_, _, rfl, t1.sq, fun hw => ?_, fun _ => newT_post s2 (t2.cut l u) .refl k2⟩
            rw [← t2.length] at hw
            rw [cutP_whole hw] at k2
            exact k2 _ _ _ .refl s2 (.tup t1 t2)
        · split at k2
          · cases rp2
            exact .inr (.inr ⟨_, rfl, by assumption, k2 _ _ _ .refl s2 (.str _)⟩)
          · exact k2.elim
        · split at k2
          · rename_i e3
            obtain ⟨a, vs, rfl, ha, ra⟩ := seq_rep s2 e3 rp2
            exact .inr (.inl ⟨a, vs, rfl, ha, (newL_post s2 (ra.cut l u) .refl k2).2⟩)
          · exact k2.elim
end
end D

/-! D19: isinstance, types as values, module constants, list and dict of a dict, chains. -/
namespace D
open PySem PySem.Spec PyProof.Rows L2

/-- the name of a value's built-in type -/
def tyOfP (S : Hs) : PV → Option String
  | .non => some "NoneType"
  | .bl _ => some "bool"
  | .int _ => some "int"
  | .str _ => some "str"
  | .tup _ => some "tuple"
  | .cl _ => some "list"
  | .ref i => match S[i]? with
    | some (.lst _) => some "list"
    | some (.dct _) => some "dict"
    | _ => none
  | _ => none
def tysOf : List PV → Option (List String)
  | [] => some []
  | p :: r => match p, tysOf r with
    | .ty n, some ns => some (n :: ns)
    | _, _ => none
def anyTy (a : String) : List String → Option Bool
  | [] => some false
  | n :: r => match kitB a n with
    | some true => some true
    | some false => anyTy a r
    | none => none
def isiB (S : Hs) (p : PV) (cs : List PV) : Option Bool := match tyOfP S p, tysOf cs with
  | some a, some ns => anyTy a ns
  | _, _ => none
def isiP : List PV → Hs → Res PV
  | [p, .ty n], S => match isiB S p [.ty n] with
    | some b => .ok (.bl b) S
    | none => .bad
  | [p, .tup cs], S => match isiB S p cs with
    | some b => .ok (.bl b) S
    | none => .bad
  | _, _ => .bad
section
variable {X : Cx} {K : PySem.W.Frag} {loc : List Addr} {H : Hp} {S : Hs}
theorem tyX_of {p : PV} {x : V} {a : String} (hS : StR K loc S H) (hp : Rep K loc H p x) (h : tyOfP S p = some a) : TyX K H x (.type a) := by
  unfold tyOfP at h
  split at h
  · cases h; cases hp; exact .base .non
  · cases h; cases hp; exact .base (.bl _)
  · cases h; cases hp; exact .base (.int _)
  · cases h; cases hp; exact .base (.str _)
  · cases h
    cases hp with
    | tup h1 h2 =>
      rcases h1 with ⟨o, e, _⟩ | ⟨o, _, _, e, c, _⟩
      · exact .fTuple e
      · exact .kTuple e c
  · cases h
    cases hp with
    | cl h1 h2 =>
      rcases h1 with ⟨o, e⟩ | ⟨o, _, _, e, c, _⟩
      · exact .base (.frz e)
      · exact .kList e c
  · split at h
    · cases h
      rename_i e1
      cases hp with
      | ref q =>
        obtain ⟨vs, e2, _⟩ := hS.obj _ _ _ e1 q
        exact .base (.lst e2)
    · cases h
      rename_i e1
      cases hp with
      | ref q =>
        obtain ⟨vs, e2, _⟩ := hS.obj _ _ _ e1 q
        exact .base (.dK e2)
    · cases h
  · cases h
theorem tysOf_rel : ∀ {cs : List PV} {vs : List V} {ns : List String}, tysOf cs = some ns → Reps K loc H cs vs → Paired ClsV vs (ns.map Value.type)
  | [], _, _, h, r => by cases h; cases r; exact .nil
  | p :: cs, _, ns, h, r => by
    cases r with
    | cons r1 r2 =>
      unfold tysOf at h
      split at h
      · rename_i n ms e
        cases h
        cases r1
        exact .cons (.ty n) (tysOf_rel e r2)
      · cases h
theorem anyTy_kit {a : String} : ∀ {ns : List String} {b : Bool}, anyTy a ns = some b → PySem.W.kitAny K (.type a) (ns.map Value.type) = some b
  | [], b, h => by cases h; rfl
  | n :: ns, b, h => by
    unfold anyTy at h
    rw [List.map_cons]
    unfold PySem.W.kitAny
    split at h
    · rename_i e
      cases h
      rw [kit_ty e]
    · rename_i e
      rw [kit_ty e]
      exact anyTy_kit h
    · cases h
theorem d_isi : DCl X (.builtin "isinstance") isiP := by
  intro W tk pins s σ H xs us Q loc S ps I rv hS hp h
  unfold isiP at h
  split at h
  · rename_i p n
    cases e : isiB S p [.ty n] with
    | none => rw [e] at h; exact h.elim
    | some b =>
      rw [e] at h
      obtain ⟨x, y, rfl, r1, r2⟩ := hp.two
      unfold isiB at e
      split at e
      · rename_i a ns e1 e2
        cases r2
        have e3 : ns = [n] := by
          unfold tysOf at e2
          simp [tysOf] at e2
          exact e2.symm
        subst e3
        have k1 := anyTy_kit (K := X.K) e
        refine call_isi pins s σ H _ us Q I rv ⟨x, .ty n, .type a, .type n, b, rfl, .ty n, tyX_of hS r1 e1, ?_, h _ _ _ .refl hS (.bl _)⟩
        rw [List.map_cons, List.map_nil] at k1
        unfold PySem.W.kitAny at k1
        cases e4 : PySem.W.kitOne X.K (.type a) (.type n) with
        | none => rw [e4] at k1; cases k1
        | some c =>
          rw [e4] at k1
          cases c with
          | true => exact k1
          | false => exact k1
      · cases e
  · rename_i p cs
    cases e : isiB S p cs with
    | none => rw [e] at h; exact h.elim
    | some b =>
      rw [e] at h
      obtain ⟨x, y, rfl, r1, r2⟩ := hp.two
      unfold isiB at e
      split at e
      · rename_i a ns e1 e2
        cases r2 with
        | tup t1 t2 =>
          obtain ⟨u1, u2, rfl, v1, v2⟩ := vals2 rv
          cases v2
          obtain ⟨P, Z, pp, hx⟩ := kit_of I v1 (tyX_of hS r1 e1)
          obtain ⟨its, r', ⟨o, h1, h2, n, h3⟩, _⟩ := I.tuple t1.sq
          have e3 := ClsV.all (tysOf_rel e2 t2) r'
          subst e3
          obtain ⟨oc, od, dt, sl⟩ := o
          simp only at h2 h3
          subst h2 h3
          exact PySem.W.kia_tup Z I.kIn pp h1 (anyTy_kit e) hx fun tk => ⟨.bl b, H, I.tok tk, rfl, h _ _ _ .refl hS (.bl _)⟩
      · cases e
  · exact h.elim

/-! ### names of types, module constants -/
theorem de_tyN {x : Str} {T : String} {pos : Pos} (hg : Gl X x) (hm : X.mg x = none) (hv : bootBuiltins x = some (.type T)) (hn : x ≠ "__name__") (hd : (x == ("__debug__" : Str)) = false) : DE X (.Name x pos) (pureM (.ty T)) := de_pure (pe_bltn (v := .ty T) hg hm hv rfl hn hd) fun _ _ => .ty T
theorem de_gInt {x : Str} {i : Int} {pos : Pos} (hg : Gl X x) (hm : ∃ t, X.mg x = some (.int i t)) (hd : (x == ("__debug__" : Str)) = false) : DE X (.Name x pos) (pureM (.int i)) := by
  obtain ⟨t, hm⟩ := hm
  exact de_pure (pe_glob (v := .int i) hg hm ⟨t, rfl⟩ hd) fun _ _ => .int i
theorem de_gStr {x z : Str} {pos : Pos} (hg : Gl X x) (hm : ∃ t, X.mg x = some (.str z t)) (hd : (x == ("__debug__" : Str)) = false) : DE X (.Name x pos) (pureM (.str z)) := by
  obtain ⟨t, hm⟩ := hm
  exact de_pure (pe_glob (v := .str z) hg hm ⟨t, rfl⟩ hd) fun _ _ => .str z

/-! ### list(d), dict(d) -/
def keyV : Key → PV
  | .inl i => .int i
  | .inr x => .str x
theorem reps_keys {kvs : List (Key × PV)} {qs : List (Key × V)} (r : TRep K loc H kvs qs) : Reps K loc H (kvs.map fun kv => keyV kv.1) (qs.map fun kv => kV kv.1) := by
  unfold TRep at r
  induction r with
  | nil => exact .nil
  | @cons p q ps qs h t ih =>
    refine .cons ?_ ih
    dsimp only
    rw [← h.1]
    cases p.1 with
    | inl i => exact .int i
    | inr x => exact .str x
def listDP : List PV → Hs → Res PV
  | [.ref i], S => match dctAt S i with
    | some kvs => newL (kvs.map fun kv => keyV kv.1) S
    | none => listP [.ref i] S
  | ps, S => listP ps S
theorem d_listD (hc : X.calm = true) : DCl X (.type "list") listDP := by
  intro W tk pins s σ H xs us Q loc S ps I rv hS hp h
  unfold listDP at h
  split at h
  · split at h
    · rename_i e1
      obtain ⟨x, rfl, r⟩ := hp.one
      obtain ⟨a, qs, rfl, _, hd, rt⟩ := dct_rep hS e1 r
      exact call_listD hc pins s σ H _ us Q I rv ⟨a, qs, rfl, .inl hd, (newL_post hS (reps_keys rt) .refl h).2⟩
    · exact d_list W tk pins s σ H xs us Q loc S _ I rv hS hp h
  · exact d_list W tk pins s σ H xs us Q loc S ps I rv hS hp h
def dictP : List PV → Hs → Res PV
  | [.ref i], S => match dctAt S i with
    | some kvs => .ok (.ref S.length) (S ++ [.dct kvs])
    | none => .bad
  | _, _ => .bad
theorem d_dict : DCl X (.type "dict") dictP := by
  intro W tk pins s σ H xs us Q loc S ps I rv hS hp h
  unfold dictP at h
  split at h
  · split at h
    · rename_i e1
      obtain ⟨x, rfl, r⟩ := hp.one
      obtain ⟨a, qs, rfl, _, hd, rt⟩ := dct_rep hS e1 r
      exact call_dictD pins s σ H _ us Q I rv ⟨a, qs, rfl, .inl hd, fun p n => h _ _ _ (hS.grow_new n) (hS.new n ⟨_, upd_same, rt.up (hS.grow_new n)⟩) (.ref (hS.last p))⟩
    · exact h.elim
  · exact h.elim
end
end D

/-! D20: own errors over any built-in base, whose __init__ calls the base's and stores fields. -/
namespace D
open PySem PySem.Spec PyProof.Rows L2

/-- what is known of an error's class -/
structure XC (K : PySem.W.Frag) (C : Addr) (B newId initId : String) (bmB : List Value) : Prop where
  FB : ExcBaseFacts B newId initId bmB
  SF : StoreFacts B bmB "object.__setattr__" "object"
  ini : PySem.W.excInitIn K C bmB newId = true
  ovr : PySem.W.excOver K C bmB = true
  hd : PySem.W.hasDictIn K C = true
  sa : PySem.W.findIn K (.ref C) "__setattr__" = some (some (.builtin "object.__setattr__"))
  exC : PySem.W.subIn K (.ref C) (.type "BaseException") = some true
  tyC : PySem.W.typeIn K (.ref C) = some (.type "type")
  kC : PySem.W.keepIn K (.ref C) = true
section
open Builtin Builtin.ObjectAttr PySem.HandSPX PySem.W
variable {prog : Program} {w : World} {A : Around} {R : Result → Shared → Prop} {H0 : Heap} {g : Array GenState} {d : Drawn} {t : Nat} {os : OsState} {K : PySem.W.Frag} {C x : Addr} {B newId initId : String} {bmB : List Value} {name : Str} {tk : Tok} {v : Value} {fv : Array Value}
/-- the first field: the error's dict is laid -/
theorem x_first (T : XC K C B newId initId bmB) (KX : K.In H0) (hx : H0.get? x = some { cls := .ref C, data := .fields fv }) (no : findIn K (.ref C) name = some none)
    (fin : ∀ h' tk' dx, (∀ b o, b ≠ x → H0.get? b = some o → h'.get? b = some o) → H0.objs.size ≤ dx → dx ≠ x → h'.get? x = some { cls := .ref C, dict := some dx, data := .fields fv } → h'.Ns1 dx (fun y => if y = name then some v else none) → R (.ok (.ret .none)) ⟨h', g, d, tk', os⟩) :
    codeAny (model prog w) A (.call (.builtin "object.__setattr__") ⟨[.ref x, .str name tk, v], []⟩) R ⟨H0, g, d, t, os⟩ := by
  refine osa_openX (r := none) T.SF KX (⟨hx, rfl, rfl, trivial⟩ : InstAt H0 x _ C none) T.ovr (NoAttr.taker no) fun b => ?_
  obtain ⟨cd, hc, hh⟩ := any_some T.hd
  have lc : Looks (model prog w) H0 (classData C) cd := looks_clsIn KX hc
  have xs : x ≠ H0.objs.size := Nat.ne_of_lt (Heap.lt_size hx)
  obtain ⟨c1, c2, c3, c4, c5, c6, c7, c8, c9, c10, c11⟩ := cd
  have hh : c6 = true := hh
  subst hh
  dsimp only
  unfold storeInOwnDict ownDictForStores
  repeat (first | with_reducible refine store_in_new ?_ ?_ | with_reducible refine wpAny_loadPart_at hx ?_ | with_reducible refine lc.at ?_ | wp_step)
  · exact ⟨_, #[], _, (Heap.get?_update_ne _ _ _ _ xs.symm).trans (Heap.get?_push_at rfl rfl), rfl, fun e he => absurd he (by simp), fun _ => rfl⟩
  · intro h' tk' ns same
    refine fin h' tk' H0.objs.size (fun b o nb ho => ?_) (Nat.le_refl _) xs.symm ?_ ns
    · exact (same.2 b (Nat.ne_of_lt (Heap.lt_size ho))).trans ((Heap.get?_update_ne _ _ _ _ nb).trans (Heap.get?_push_of_some _ ho))
    · exact (same.2 x xs).trans (Heap.get?_update_self _ (Heap.get?_push_of_some _ hx) rfl)
/-- a further field -/
theorem x_more {dx : Addr} {m0 : Str → Option Value} {nl : List Str} (T : XC K C B newId initId bmB) (KX : K.In H0) (hx : H0.get? x = some { cls := .ref C, dict := some dx, data := .fields fv }) (ns : H0.Ns1 dx m0) (wi : Within m0 nl) (hz : nl.length ≤ 1000) (no : findIn K (.ref C) name = some none)
    (fin : ∀ h' tk', (∀ b o, b ≠ dx → H0.get? b = some o → h'.get? b = some o) → h'.Ns1 dx (fun y => if y = name then some v else m0 y) → R (.ok (.ret .none)) ⟨h', g, d, tk', os⟩) :
    codeAny (model prog w) A (.call (.builtin "object.__setattr__") ⟨[.ref x, .str name tk, v], []⟩) R ⟨H0, g, d, t, os⟩ := by
  obtain ⟨oD, _, _, hoD, _, _⟩ := ns.count wi
  refine osa_openX (r := none) T.SF KX (⟨hx, rfl, rfl, hoD⟩ : InstAt H0 x _ C (some oD)) T.ovr (NoAttr.taker no) fun b => ?_
  obtain ⟨cd, hc, hh⟩ := any_some T.hd
  have lc : Looks (model prog w) H0 (classData C) cd := looks_clsIn KX hc
  obtain ⟨c1, c2, c3, c4, c5, c6, c7, c8, c9, c10, c11⟩ := cd
  have hh : c6 = true := hh
  subst hh
  dsimp only
  unfold storeInOwnDict ownDictForStores
  repeat (first | with_reducible refine PySem.OEX.store_in_old ns wi hz ?_ | with_reducible refine wpAny_loadPart_at hx ?_ | with_reducible refine lc.at ?_ | wp_step)
  intro h' tk' ns' same
  exact fin h' tk' (fun b o nb ho => (same.2 b nb).trans ho) ns'
end

section
variable {X : Cx} {pins : List (Addr × Obj)} {σ : St} {H : Hp} {s : Shared} {a C dx : Addr} {f : Str} {y : V} {u : Value} {fs : List (Str × V)} {E : Value → Shared → Prop} {A : Around} {B newId initId : String} {bmB : List Value}
/-- the class, as it lies -/
theorem XC.obj (T : XC X.K C B newId initId bmB) (KX : X.K.In s.heap) : ∃ nm N qn bs bm hdct sn sub ab col dd k0 k1 k2 k3 k5, s.heap.get? C = some (excClassObj nm qn C N bs bm hdct sn sub ab col dd k0 k1 k2 k3 k5 newId) ∧ ∀ T : String, bm.contains (.type T) = bmB.contains (.type T) := PySem.W.excInit_of KX T.ini
theorem xst_new {Q : Unit → Shared → Prop} (T : XC X.K C B newId initId bmB) (I : Inv X pins σ H s) (e : H a = some (exo a C none)) (no : PySem.W.findIn X.K (.ref C) f = some none) (ry : RelV y u)
    (go : ∀ dx t', H dx = none → dx ≠ a → Inv X pins σ (upd (upd H dx (exd dx [(f, y)])) a (exo a C (some dx))) t' → Q () t') : wpAny (model X.prog X.w) A (setAttr (.ref a) f u) Q E s := by
  obtain ⟨t1, ho⟩ := exo_at I.hok e
  obtain ⟨h0, g, dr, t, os⟩ := s
  refine PySem.W.set_plain I.kIn (ox := { cls := .ref C, dict := none, data := .fields #[.ref t1, .none, .none, .none, .bool false, .none] }) (od := none) ⟨ho, rfl, rfl, trivial⟩ T.sa ?_
  refine x_first T I.kIn ho no fun h' tk' dx keep new ne hx ns => ?_
  have nd : H dx = none := I.hok.fresh new
  have lo : ∀ {b : Addr} {o : Obj}, h0.get? b = some o → b ≠ dx := fun {b o} q => Nat.ne_of_lt (Nat.lt_of_lt_of_le (Heap.lt_size q) new)
  have off : ∀ {b : Addr}, H b = none → b ≠ a := fun {b} n z => by rw [z, e] at n; cases n
  have un : Un X.fs [] H (upd (upd H dx (exd dx [(f, y)])) a (exo a C (some dx))) h0 h' :=
    { keep := fun b o q n _ _ => keep b o (off n) q
      slot := fun b o q n _ _ => ⟨o.slots, keep b o (off n) q⟩
      free := fun b o q n _ => (upd_ne (off n)).trans ((upd_ne (lo q)).trans n)
      there := fun b o q _ => (Decidable.em (b = a)).elim (fun z => ⟨_, z ▸ hx⟩) fun z => ⟨o, keep b o z q⟩
      tups := fun b xs q => (upd_ne (at_ne e q exo_tup)).trans ((upd_ne (ne_of_none q nd)).trans q)
      frzs := fun b o v q => (upd_ne (at_ne e q exo_frz)).trans ((upd_ne (ne_of_none q nd)).trans q)
      tbls := fun b ps q => ⟨#[], ((upd_ne (at_ne e q exo_tbl)).trans ((upd_ne (ne_of_none q nd)).trans q)).trans (by simp)⟩ }
  refine go dx _ nd ne (I.un (t' := tk') un fun b o q => ?_)
  by_cases ba : b = a
  · subst ba
    cases upd_same.symm.trans q
    exact exo_ok hx
  · have q := (upd_ne ba).symm.trans q
    by_cases bd : b = dx
    · subst bd
      cases upd_same.symm.trans q
      exact exd_ok ns (relO_put (fs := []) ry fun _ => True.intro)
    · have q := (upd_ne bd).symm.trans q
      refine (I.hok b o q).stay (fun c w hc z => keep c w ?_ z) (fun c hc => (upd_ne (at_ne e hc exo_own)).trans ((upd_ne (ne_of_none hc nd)).trans hc)) fun c xs hc => (upd_ne (at_ne e hc exo_tup)).trans ((upd_ne (ne_of_none hc nd)).trans hc)
      rcases hc with hc | hc
      · rw [hc]; exact ba
      · exact at_ne e hc exo_own
theorem xst_more {Q : Unit → Shared → Prop} (T : XC X.K C B newId initId bmB) (I : Inv X pins σ H s) (e : H a = some (exo a C (some dx))) (ed : H dx = some (exd dx fs)) (hl : fs.length ≤ 900) (no : PySem.W.findIn X.K (.ref C) f = some none) (ry : RelV y u)
    (go : ∀ t', Inv X pins σ (upd H dx (exd dx ((f, y) :: fs))) t' → Q () t') : wpAny (model X.prog X.w) A (setAttr (.ref a) f u) Q E s := by
  obtain ⟨t1, ho⟩ := exo_at I.hok e
  obtain ⟨mA, ns, rel⟩ := exd_at I.hok ed
  have wi := within_of rel
  obtain ⟨h0, g, dr, t, os⟩ := s
  obtain ⟨oD, _, _, hoD, _, _⟩ := ns.count wi
  refine PySem.W.set_plain I.kIn (ox := { cls := .ref C, dict := some dx, data := .fields #[.ref t1, .none, .none, .none, .bool false, .none] }) (od := some oD) ⟨ho, rfl, rfl, hoD⟩ T.sa ?_
  refine x_more T I.kIn ho ns wi (by rw [List.length_map]; omega) no fun h' tk' keep ns' => ?_
  obtain ⟨o', _, _, e', _⟩ := id ns'
  exact go _ (I.write (t' := tk') (x := dx) (e := dx) (o := exd dx ((f, y) :: fs)) (by rw [ed]; exact True.intro) (.inl rfl) keep ⟨o', e'⟩ (exd_ok ns' (relO_put ry rel)))
theorem xinit_ok {us : List Value} {Q : Value → Shared → Prop} (T : XC X.K C B newId initId bmB) (I : Inv X pins σ H s) (e : H a = some (exo a C none)) (hl : us.length ≤ sizeLine) (go : ∀ t', Inv X pins σ H t' → Q .none t') :
    wpAny (model X.prog X.w) A (call (.builtin initId) (.ref a :: us)) Q E s := by
  obtain ⟨_, _, _, _, _, _, _, _, _, _, _, _, _, _, _, _, hC, hT⟩ := T.obj I.kIn
  obtain ⟨t1, ho⟩ := exo_at I.hok e
  obtain ⟨h0, g, dr, t, os⟩ := s
  refine wpAny_call (PySem.HandSPX.init_base T.FB hT hC ho hl fun h' t2 keep hx => ?_)
  have J := I.write (t' := t) (x := a) (e := a) (o := exo a C none) (by rw [e]; exact True.intro) (.inl rfl) keep ⟨_, hx⟩ (exo_ok hx)
  have eu : upd H a (exo a C none) = H := funext fun b => (Decidable.em (b = a)).elim (fun z => by rw [z, upd_same, e]) fun z => upd_ne z
  rw [eu] at J
  exact go _ J
end
end D

/-! D21: own errors made and raised. -/
namespace D
open PySem PySem.Spec PyProof.Rows L2

def tXinit (K : PySem.W.Frag) (B newId initId : String) (bmB : List Value) (ta : TA) : TE := fun σ H Q => ta σ H fun vs H1 => ∃ (a C : Addr) (ws : List V), vs = .ref a :: ws ∧ ws.length ≤ 1000 ∧ XC K C B newId initId bmB ∧ H1 a = some (exo a C none) ∧ Q .non H1
def tXst (K : PySem.W.Frag) (B newId initId : String) (bmB : List Value) (f : Str) (to te : TE) : TS := fun D σ H => te σ H fun y H1 => to σ H1 fun x H2 => ∃ a C : Addr, x = .ref a ∧ XC K C B newId initId bmB ∧ PySem.W.findIn K (.ref C) f = some none ∧
  ((H2 a = some (exo a C none) ∧ ∀ dx, H2 dx = none → dx ≠ a → D.nx σ (upd (upd H2 dx (exd dx [(f, y)])) a (exo a C (some dx)))) ∨
    ∃ (dx : Addr) (fs : List (Str × V)), H2 a = some (exo a C (some dx)) ∧ H2 dx = some (exd dx fs) ∧ fs.length ≤ 900 ∧ D.nx σ (upd H2 dx (exd dx ((f, y) :: fs))))
section
variable {X : Cx} {o e : Expr} {es : List Expr} {to te : TE} {ta : TA} {f b : Str} {p p' p1 p2 pos : Pos} {B newId initId : String} {bmB : List Value} {CB : Addr} {mc : Value}
/-- Base.__init__(self, ..), Base an own class -/
theorem pe_xinit {pl : Sem Bool} (hg : Gl X b) (hm : X.mg b = some (.ref CB)) (hdb : (b == ("__debug__" : Str)) = false) (r : ClX.CRead X.K CB mc) (at_ : PySem.W.findCls X.K (.ref CB) mc "__init__" = some (.val (.builtin initId))) (hh : PySem.W.handedIn (.builtin initId) = true) (ha : PA X (e :: es) ta)
    (hc : eval (.Call (.Attribute (.Name b p1) "__init__" p2) (e :: es) [] pos) X.env = (do
      let ov ← eval (.Name b p1) X.env
      standAt p2.atName
      let (f, first) ← holding [ov] (getMethod ov "__init__" pl)
      callWith pos f first (backTo pos (starEach (e :: es) X.env)) (backToKw pos (keywordEach [] X.env))))
    (he : starEach (e :: es) X.env = (false, eval e X.env) :: starEach es X.env) (hpl : (backTo pos (starEach es X.env)).any (·.1) = false) :
    PE X (.Call (.Attribute (.Name b p1) "__init__" p2) (e :: es) [] pos) (tXinit X.K B newId initId bmB ta) := by
  refine ⟨fun pins s σ H Q I h => ?_⟩
  refine PySem.W.methodCall_KW (ld_glob I hg hm ?_ hdb) hc
  refine PySem.W.method_cls I.kIn r.ga (PySem.W.cls_value I.kIn r.rd at_ hh ?_)
  show wpAny _ _ (callWith pos (Value.builtin initId) [] (backTo pos (starEach (e :: es) X.env)) []) _ _ _
  refine PyProof.Rows.callWith_method1 (thn (ha.run pos pins _ σ H _ (I.tok _) h) fun us s1 ⟨vs, H1, I1, r1, a, C, ws, ev, hl, T, ea, q⟩ => ?_) he hpl
  subst ev
  cases r1 with
  | @cons _ u0 _ ur ra rw' =>
    obtain rfl : u0 = Value.ref a := ra
    have hlen : ur.length ≤ sizeLine := by rw [← Paired.length rw', sizeLine_eq]; omega
    exact xinit_ok T I1 ea hlen fun s' J => ⟨.non, H1, J, rfl, q⟩
theorem ps_xst (ho : PE X o to) (he : PE X e te) (hs : swapsWith e (some (.Attribute o f p')) pos.line X.env = pure false) : PS X (.Assign [.Attribute o f p'] e pos) (tXst X.K B newId initId bmB f to te) := by
  refine ⟨fun pins s σ H D I h => ?_⟩
  refine plainObj_wpAny_Assign_Attribute (thn (he.run pins s σ H _ I h) fun v s1 ⟨y, H1, I1, r1, q1⟩ => thn (ho.run pins s1 σ H1 _ I1 q1) fun u s2 ⟨x, H2, I2, r2, a, C, ex, T, no, q⟩ => ?_) hs
  subst ex
  obtain rfl : u = Value.ref a := r2
  rcases q with ⟨ea, q⟩ | ⟨dx, fs, ea, ed, hl, q⟩
  · exact xst_new T I2 ea no r1 fun dx s' n ne J => ⟨σ, _, J, q dx n ne⟩
  · exact xst_more T I2 ea ed hl no r1 fun s' J => ⟨σ, _, J, q⟩
/-- C(e, ..), C's own __init__ keeping sp -/
theorem pmk_x {CX : CXT} {x : Str} {C fI : Addr} {k : Nat} {fd : FuncData} {ps : List Str} {sp : Sp} (T : XC X.K C B newId initId bmB) (iC : PySem.W.findIn X.K (.ref C) "__init__" = some (some (.ref fI))) (tI : PySem.W.typeIn X.K (.ref fI) = some (.type "function"))
    (F1 : FnOk X.prog X.w X.K X.mg X.base CX k fI fd ps sp) (hr : Room (k + 1) X.A) (hb : Binds X.K fd ps []) (hx : Passes CX X (fun _ _ _ => False)) (hg : Gl X x) (hm : X.mg x = some (.ref C)) (ha : PA X (e :: es) ta)
    (hdb : (x == ("__debug__" : Str)) = false) (he : starEach (e :: es) X.env = (false, eval e X.env) :: starEach es X.env) (hpl : (backTo pos (starEach es X.env)).any (·.1) = false) :
    PMk X (.Call (.Name x p) (e :: es) [] pos) (tMkO C sp [] ta) := by
  intro pins s σ H Q I h
  refine wpAny_Call_Name_kw (ld_glob I hg hm ?_ hdb)
  refine PySem.W.callWith_K (h₀ := X.base) I.ok.mod.kin T.kC (thn (ha.run pos pins s σ H _ I h) fun us s1 ⟨vs, H1, I1, r1, hz, q1⟩ => ⟨I1.kIn, ?_⟩) he hpl
  show wpAny _ _ (call (.ref C) us) _ _ _
  obtain ⟨_, _, _, _, _, _, _, _, _, _, _, _, _, _, _, _, hC, hT⟩ := T.obj I1.kIn
  obtain ⟨h0, g, dr, tk, os⟩ := s1
  have le : h0.objs.size ≤ h0.objs.size + 1 := Nat.le_succ _
  have go := q1 (h0.objs.size + 1) (I1.hok.fresh le)
  have keep : ∀ b o, h0.get? b = some o → ((h0.push (PySem.W.kdv_tup us)).push (PySem.HandSPX.excO C h0.objs.size)).get? b = some o := fun b o z => Heap.get?_push_of_some _ (Heap.get?_push_of_some _ z)
  have at_ : ((h0.push (PySem.W.kdv_tup us)).push (PySem.HandSPX.excO C h0.objs.size)).get? (h0.objs.size + 1) = some (PySem.HandSPX.excO C h0.objs.size) := by heap_get
  have I2 : Inv X pins σ (upd H1 (h0.objs.size + 1) (exo (h0.objs.size + 1) C none)) ⟨(h0.push (PySem.W.kdv_tup us)).push (PySem.HandSPX.excO C h0.objs.size), g, dr, tk, os⟩ := I1.laid (t' := tk) keep le (exo_ok at_)
  have rs : Vals (V.ref (h0.objs.size + 1) :: (vs ++ [])) (Value.ref (h0.objs.size + 1) :: (us ++ [])) := .cons rfl (by rw [List.append_nil, List.append_nil]; exact r1)
  have len : (Value.ref (h0.objs.size + 1) :: us ++ []).length = ps.length := (rs.length.symm.trans (F1.len _ _ _ _ go))
  have hus : us.length ≤ sizeLine := by rw [← Paired.length r1, sizeLine_eq]; omega
  have bnd : BindsTo ⟨(h0.push (PySem.W.kdv_tup us)).push (PySem.HandSPX.excO C h0.objs.size), g, dr, tk, os⟩ fd ⟨Value.ref (h0.objs.size + 1) :: us, []⟩ (ps.zip (Value.ref (h0.objs.size + 1) :: (us ++ []))) := hb _ (Value.ref (h0.objs.size + 1) :: us) I2.kIn len
  refine wpAny_call (PySem.HandSPX.call_own T.FB hT hC (PySem.W.looks_findIn I1.kIn iC) (fun self => PySem.W.bind_fn I1.kIn self tI) hus
    (codeAny_mono (F1.run _ X.stack _ _ ⟨Value.ref (h0.objs.size + 1) :: us, []⟩ (Value.ref (h0.objs.size + 1) :: (us ++ [])) _ _ (fun _ _ _ => False) (hr.make C us []) (I2.env0.make C us []) bnd rs go) fun r s' hq => ?_))
  cases r with
  | error er => exact hx pins σ _ _ er s' I2 hq
  | ok fl =>
    cases fl with
    | ret w =>
      obtain ⟨v, H2, os2, bare2, un2, hok2, rv, ev, d, fs, ea, ed, hd1, q2⟩ := hq
      subst ev
      obtain ⟨h2, g2, d2, t2, os'⟩ := s'
      exact ⟨rv, mk_end (raises_own T.exC T.tyC) I1 le keep un2 hok2 os2 bare2 ea ed hd1 q2⟩
    | _ => exact False.elim hq
end

/-! ### raise C(e, ..) -/
/-- fields of the parameters' names, the last one first -/
def xfs (fs : List Str) (ps : List PV) : List (Str × PV) := (fs.zip ps).reverse
def raiseS (x : Str) (fs : List Str) (n : AM) : SM := liftS n fun ps env S => if ps.length = fs.length ∧ fs ≠ [] ∧ fs.length ≤ 900 then .exc (.own x) (xfs fs ps) env S else .bad
/-- what such an __init__ promises -/
def spX (C : Addr) (fs : List Str) : Sp := fun vs H Q _ => ∃ (a : Addr) (ws : List V), vs = .ref a :: ws ∧ ws.length = fs.length ∧ fs ≠ [] ∧ H a = some (exo a C none) ∧ ∀ d, H d = none → d ≠ a → Q .non (upd (upd H d (exd d (fs.zip ws).reverse)) a (exo a C (some d)))
/-- an error's class, its __init__ walked -/
structure XOk (P : Program) (w : World) (K : PySem.W.Frag) (mg : Str → Option Value) (base : Heap) (k : Nat) (x : Str) (fs : List Str) : Prop where
  mg_ : mg x = some (.ref (He.ga K x))
  ex : ∃ (B newId initId : String) (bmB : List Value) (fI : Addr) (fd : FuncData) (ps : List Str), XC K (He.ga K x) B newId initId bmB ∧ PySem.W.findIn K (.ref (He.ga K x)) "__init__" = some (some (.ref fI)) ∧ PySem.W.typeIn K (.ref fI) = some (.type "function") ∧
    FnOk P w K mg base CX0 k fI fd ps (spX (He.ga K x) fs) ∧ Binds K fd ps []
section
variable {X : Cx} {k : Nat} {x : Str} {fs : List Str} {e : Expr} {es : List Expr} {n : AM} {p pos pos' : Pos}
theorem reps_zip {K : PySem.W.Frag} {loc : List Addr} {H : Hp} : ∀ {fs : List Str} {ps : List PV} {vs : List V}, Reps K loc H ps vs → TRep K loc H (fs.zip ps) (fs.zip vs)
  | [], _, _, _ => .nil
  | f :: fs, [], _, r => by cases r; exact .nil
  | f :: fs, q :: ps, _, r => by
    cases r with
    | cons r1 r2 => exact .cons ⟨rfl, r1⟩ (reps_zip r2)
theorem paired_app {α β : Type} {F : α → β → Prop} {a b : List α} {c d : List β} (h : Paired F a c) (k : Paired F b d) : Paired F (a ++ b) (c ++ d) := by
  induction h with
  | nil => exact k
  | cons r t ih => exact .cons r ih
theorem TRep.rev {K : PySem.W.Frag} {loc : List Addr} {H : Hp} {κ : Type} {ps : List (κ × PV)} {qs : List (κ × V)} (r : TRep K loc H ps qs) : TRep K loc H ps.reverse qs.reverse := by
  unfold TRep at r ⊢
  induction r with
  | nil => exact .nil
  | cons h t ih =>
    rw [List.reverse_cons, List.reverse_cons]
    exact paired_app ih (.cons h .nil)
theorem ds_raise (hc : X.calm = true) (hr : Room (k + 1) X.A) (C : XOk X.prog X.w X.K X.mg X.base k x fs) (hg : Gl X x) (hdb : (x == ("__debug__" : Str)) = false) (hs : NoStars (e :: es)) (ha : DA X (e :: es) n) :
    DS X (.Raise (some (.Call (.Name x p) (e :: es) [] pos)) none pos') (raiseS x fs n) := fun W tk => by
  obtain ⟨B, newId, initId, bmB, fI, fd, ps, T, iC, tI, F1, hb⟩ := C.ex
  refine (ps_raise hc tk (pmk_x T iC tI F1 hr hb pass0 hg C.mg_ (ha W tk) hdb (hs e List.mem_cons_self _ _) (any_plain fun y hy => hs y (List.mem_cons_of_mem _ hy)))).imp fun D σ H q => ?_
  refine tG.imp (fun vs H1 k1 => ?_) (tS.liftA q)
  obtain ⟨loc, S, env, qs, hS, hE, rs, k1⟩ := k1
  split at k1
  · rename_i hl
    have ln : vs.length = fs.length := by rw [← rs.length]; exact hl.1
    refine ⟨?_, fun a na => ?_⟩
    · have := hl.2.2; omega
    · refine ⟨a, vs ++ [], rfl, by rw [List.append_nil]; exact ln, hl.2.1, upd_same, fun d nd ne => ⟨rfl, d, (fs.zip (vs ++ [])).reverse, upd_same, ?_, ?_, ?_⟩⟩
      · rw [upd_ne ne, upd_same]
      · rw [upd_ne ne] at nd; exact nd
      · have nd' : H1 d = none := by rw [upd_ne ne] at nd; exact nd
        have eH : upd (L2.del (upd (upd (upd H1 a (exo a (He.ga X.K x) none)) d (exd d (fs.zip (vs ++ [])).reverse)) a (exo a (He.ga X.K x) (some d))) a) d (.xd (fs.zip (vs ++ [])).reverse) = upd H1 d (.xd (fs.zip vs).reverse) := by
          rw [List.append_nil]
          funext c
          by_cases c1 : c = d
          · rw [c1, upd_same, upd_same]
          · rw [upd_ne c1, upd_ne c1]
            by_cases c2 : c = a
            · rw [c2, L2.del_same]; exact na.symm
            · rw [L2.del_ne c2, upd_ne c2, upd_ne c1, upd_ne c2]
        rw [eH]
        have g : Grow X.K loc H1 loc (upd H1 d (.xd (fs.zip vs).reverse)) := grow_new nd' fun _ _ z => z
        exact k1 loc _ σ (some d) g (hS.lay nd') (hE.up g) (.inr ⟨d, _, rfl, upd_same, ((reps_zip rs).rev).up g⟩)
  · exact k1.elim
end
end D

/-! D22: the __init__ of own errors, walked: the base's __init__, then the fields. -/
namespace D
open PySem PySem.Spec PyProof.Rows L2
section
variable {P : Program} {w : World} {K : PySem.W.Frag} {mg : Str → Option Value} {base : Heap} {k : Nat} {qual f f2 b m : Str} {params : Arguments} {scope : Scope} {fI C CB : Addr} {fd : FuncData} {B newId initId : String} {bmB : List Value} {mc : Value} {p1 p2 p3 p4 p5 p6 p7 p8 p9 p10 p11 p12 p13 p14 : Pos} {j : Nat}
abbrev xst1 (b m : Str) (j : Nat) (p1 p2 p3 p4 p5 p6 : Pos) : Stmt := .Expr (.Call (.Attribute (.Name b p1) "__init__" p2) [.Name "self" p3, .Constant (.str m) j p4] [] p5) p6
abbrev xst2 (f : Str) (p7 p8 p9 p10 : Pos) : Stmt := .Assign [.Attribute (.Name "self" p7) f p8] (.Name f p9) p10
/-- how such a call is read -/
def XCall (b m : Str) (j : Nat) (p1 p2 p3 p4 p5 : Pos) : Prop := ∀ env : Env, ∃ pl : Sem Bool, eval (.Call (.Attribute (.Name b p1) "__init__" p2) [.Name "self" p3, .Constant (.str m) j p4] [] p5) env = (do
  let ov ← eval (.Name b p1) env
  standAt p2.atName
  let (f, first) ← holding [ov] (getMethod ov "__init__" pl)
  callWith p5 f first (backTo p5 (starEach [.Name "self" p3, .Constant (.str m) j p4] env)) (backToKw p5 (keywordEach [] env)))
theorem fn_x1 (hc : XCall b m j p1 p2 p3 p4 p5) (F : FunD K "__init__" qual params [xst1 b m j p1 p2 p3 p4 p5 p6, xst2 f p7 p8 p9 p10] scope [] [] fI fd) (S : FnScope ["self", f] ["self", f] scope) (hs : vB ["self", f] scope 0 "self" = true) (hf : vB ["self", f] scope 1 f = true) (hgb : gB scope b = true)
    (hm : mg b = some (.ref CB)) (r : ClX.CRead K CB mc) (at_ : PySem.W.findCls K (.ref CB) mc "__init__" = some (.val (.builtin initId))) (hh : PySem.W.handedIn (.builtin initId) = true) (T : XC K C B newId initId bmB) (no : PySem.W.findIn K (.ref C) f = some none) :
    FnOk P w K mg base CX0 (k + 1) fI fd ["self", f] (spX C [f]) := by
  refine F.ok S (fun vs H Q E h => ?_) fun cdv A outer s H vs Q E hr h => ?_
  · obtain ⟨a, ws, rfl, hl, _⟩ := h
    rw [List.length_cons, hl]; rfl
  · obtain ⟨a, ws, rfl, hl, _, ea, q⟩ := h
    obtain ⟨v, rfl⟩ : ∃ v, ws = [v] := by
      cases ws with
      | nil => cases hl
      | cons v ws =>
        cases ws with
        | nil => exact ⟨v, rfl⟩
        | cons _ _ => cases hl
    obtain ⟨a1, a2, a3, a4⟩ := vB.ok hs
    obtain ⟨b1, b2, b3, b4⟩ := vB.ok hf
    unfold gB at hgb
    simp only [Bool.and_eq_true, decide_eq_true_eq, Bool.not_eq_true'] at hgb
    have self : ∀ p, PE (cxOf CX0 P w K mg base ["self", f] qual scope fI cdv A outer s H E) (.Name "self" p) (tVar 0) := fun p => pe_var a1 a2 a3 a4
    obtain ⟨pl, hc⟩ := hc (cxOf CX0 P w K mg base ["self", f] qual scope fI cdv A outer s H E).env
    refine ⟨_, pss_cons (ps_expr (pe_xinit (B := B) (newId := newId) (bmB := bmB) (pl := pl) hgb.1 hm hgb.2 r at_ hh (pa_cons (self p3) (pa_cons pe_str pa_nil rfl) rfl) hc rfl rfl) rfl) (pss_one (ps_xst (B := B) (newId := newId) (initId := initId) (bmB := bmB) (self p7) (pe_var b1 b2 b3 b4) rfl)), ?_⟩
    refine ⟨_, rfl, a, C, _, rfl, by simp, T, ea, ?_⟩
    exact ⟨_, rfl, _, rfl, a, C, rfl, T, no, .inl ⟨ea, fun dx n ne => q dx n ne⟩⟩
theorem fn_x2 (hc : XCall b m j p1 p2 p3 p4 p5) (F : FunD K "__init__" qual params [xst1 b m j p1 p2 p3 p4 p5 p6, xst2 f p7 p8 p9 p10, xst2 f2 p11 p12 p13 p14] scope [] [] fI fd) (S : FnScope ["self", f, f2] ["self", f, f2] scope) (hs : vB ["self", f, f2] scope 0 "self" = true) (hf : vB ["self", f, f2] scope 1 f = true) (hf2 : vB ["self", f, f2] scope 2 f2 = true) (hgb : gB scope b = true)
    (hm : mg b = some (.ref CB)) (r : ClX.CRead K CB mc) (at_ : PySem.W.findCls K (.ref CB) mc "__init__" = some (.val (.builtin initId))) (hh : PySem.W.handedIn (.builtin initId) = true) (T : XC K C B newId initId bmB) (no : PySem.W.findIn K (.ref C) f = some none) (no2 : PySem.W.findIn K (.ref C) f2 = some none) :
    FnOk P w K mg base CX0 (k + 1) fI fd ["self", f, f2] (spX C [f, f2]) := by
  refine F.ok S (fun vs H Q E h => ?_) fun cdv A outer s H vs Q E hr h => ?_
  · obtain ⟨a, ws, rfl, hl, _⟩ := h
    rw [List.length_cons, hl]; rfl
  · obtain ⟨a, ws, rfl, hl, _, ea, q⟩ := h
    obtain ⟨v, v2, rfl⟩ : ∃ v v2, ws = [v, v2] := by
      cases ws with
      | nil => cases hl
      | cons v ws =>
        cases ws with
        | nil => cases hl
        | cons v2 ws =>
          cases ws with
          | nil => exact ⟨v, v2, rfl⟩
          | cons _ _ => cases hl
    obtain ⟨a1, a2, a3, a4⟩ := vB.ok hs
    obtain ⟨b1, b2, b3, b4⟩ := vB.ok hf
    obtain ⟨c1, c2, c3, c4⟩ := vB.ok hf2
    unfold gB at hgb
    simp only [Bool.and_eq_true, decide_eq_true_eq, Bool.not_eq_true'] at hgb
    have self : ∀ p, PE (cxOf CX0 P w K mg base ["self", f, f2] qual scope fI cdv A outer s H E) (.Name "self" p) (tVar 0) := fun p => pe_var a1 a2 a3 a4
    obtain ⟨pl, hc⟩ := hc (cxOf CX0 P w K mg base ["self", f, f2] qual scope fI cdv A outer s H E).env
    refine ⟨_, pss_cons (ps_expr (pe_xinit (B := B) (newId := newId) (bmB := bmB) (pl := pl) hgb.1 hm hgb.2 r at_ hh (pa_cons (self p3) (pa_cons pe_str pa_nil rfl) rfl) hc rfl rfl) rfl) (pss_cons (ps_xst (B := B) (newId := newId) (initId := initId) (bmB := bmB) (self p7) (pe_var b1 b2 b3 b4) rfl) (pss_one (ps_xst (B := B) (newId := newId) (initId := initId) (bmB := bmB) (self p11) (pe_var c1 c2 c3 c4) rfl))), ?_⟩
    refine ⟨_, rfl, a, C, _, rfl, by simp, T, ea, ?_⟩
    refine ⟨_, rfl, _, rfl, a, C, rfl, T, no, .inl ⟨ea, fun dx n ne => ?_⟩⟩
    refine ⟨_, rfl, _, rfl, a, C, rfl, T, no2, .inr ⟨dx, [(f, v)], upd_same, by rw [upd_ne ne, upd_same], by simp, ?_⟩⟩
    have eH : upd (upd (upd H dx (exd dx [(f, v)])) a (exo a C (some dx))) dx (exd dx [(f2, v2), (f, v)]) = upd (upd H dx (exd dx [(f2, v2), (f, v)])) a (exo a C (some dx)) := by
      funext c
      by_cases e1 : c = dx
      · subst e1; rw [upd_same, upd_ne ne, upd_same]
      · rw [upd_ne e1]
        by_cases e2 : c = a
        · subst e2; rw [upd_same, upd_same]
        · rw [upd_ne e2, upd_ne e2, upd_ne e1, upd_ne e1]
    show Q .non (upd (upd (upd H dx (exd dx [(f, v)])) a (exo a C (some dx))) dx (exd dx [(f2, v2), (f, v)]))
    rw [eH]
    exact q dx n ne
end
end D

/-! D23: what is never reached; chains of comparisons; if as a test. -/
namespace D
open PySem PySem.Spec PyProof.Rows L2
def badE : EM := fun _ _ => .bad
def badT : TM := fun _ _ => .bad
def badS : SM := fun _ _ => .bad
section
variable {X : Cx}
theorem tM_bad {K : PySem.W.Frag} {W : WX} {α β : Type} {R : List Addr → Hp → α → β → Prop} {σ : St} {H : Hp} {Q : β → Hp → Prop} (h : tG K W R (fun _ _ => .bad) σ H Q) : False := by
  obtain ⟨_, _, _, _, _, k⟩ := h
  exact k
/-- an expression that is never reached may be any -/
theorem de_bad {e : Expr} : DE X e badE := fun W tk => ⟨fun pins s σ H Q I h => (tM_bad h).elim⟩
theorem dt_bad {e : Expr} : DT X e badT := fun W tk => ⟨fun pins s σ H Q I h => (tM_bad h).elim⟩
theorem ds_bad {st : Stmt} : DS X st badS := fun W tk => ⟨fun pins s σ H D I h => by
  obtain ⟨_, _, _, _, _, k⟩ := h
  exact k.elim⟩
theorem dss_bad {sts : List Stmt} : DSs X sts badS := fun W tk => ⟨fun pins s σ H D I h => by
  obtain ⟨_, _, _, _, _, k⟩ := h
  exact k.elim⟩
end
end D

/-! D24: chains of two comparisons. -/
namespace D
open PySem PySem.Spec PyProof.Rows L2
def chainR (f' : PV → PV → Hs → Res PV) (mc : EM) (q : PV) (env : Sl) : PV → Hs → Res PV := fun z S => match z with
  | .bl true => (mc env S).bind fun r S2 => f' q r S2
  | .bl false => .ok (.bl false) S
  | _ => .bad
def chainE (f f' : PV → PV → Hs → Res PV) (ma mb mc : EM) : EM := bindE ma fun p => bindE mb fun q env S => (f p q S).bind fun z S1 => chainR f' mc q env z S1
section
variable {X : Cx} {a b c : Expr} {ma mb mc : EM} {op op' : CmpOp} {f f' : PV → PV → Hs → Res PV} {pos : Pos}
theorem de_chain (ho : DOp X (compareOp op) f) (ho' : DOp X (compareOp op') f') (ha : DE X a ma) (hb : DE X b mb) (hc : DE X c mc) (hm : lastMarks [op, op'] [b, c] = false) : DE X (.Compare a [op, op'] [b, c] pos) (chainE f f' ma mb mc) := fun W tk => by
  refine ⟨fun pins s σ H Q I h => ?_⟩
  refine Compare_chain (thn ((ha W tk).run pins s σ H _ I (tGv.bind (tG.v h))) fun v s1 ⟨x, H1, I1, r1, p, h1⟩ => chain_link (thn ((hb W tk).run pins s1 σ H1 _ I1 (tGv.bind h1)) fun u s2 ⟨y, H2, I2, r2, q, h2⟩ => ?_)) hm
  obtain ⟨loc, S, env, hS, hE, rs, k⟩ := h2
  obtain ⟨rp, rq⟩ := two_known rs
  have post : Post X.K W σ (fun z H3 => ∃ l3 S3 pz, Grow X.K loc H2 l3 H3 ∧ StR X.K l3 S3 H3 ∧ Rep X.K l3 H3 pz z ∧ Post X.K W σ Q l3 H3 (chainR f' mc q env pz S3)) loc H2 (f p q S) := by
    have k : Post X.K W σ Q loc H2 ((f p q S).bind fun z S1 => chainR f' mc q env z S1) := k
    cases e : f p q S with
    | bad => rw [e] at k; exact k
    | exc _ _ _ => rw [e] at k; exact k
    | ok pz S3 => rw [e, Res.bind_ok] at k; exact fun l3 h3 z g3 s3 r3 => ⟨l3, S3, pz, g3, s3, r3, PostR.up g3 k⟩
  refine thn (ho W tk pins s2 σ H2 x y v u _ loc S p q I2 r1 r2 hS rp rq post) fun d s3 ⟨z, H3, I3, r3, l3, S3, pz, g3, hS3, rz, k3⟩ => ?_
  unfold chainR at k3
  split at k3
  · cases rz
    cases r3
    refine wpAny_truthy_bool (ite_tt (chain_last ?_))
    have q1 : tM X.K W mc σ H3 fun w H4 => ∃ l4 S4 pw, Grow X.K l3 H3 l4 H4 ∧ StR X.K l4 S4 H4 ∧ Rep X.K l4 H4 pw w ∧ Post X.K W σ Q l4 H4 (f' q pw S4) := by
      refine ⟨l3, S3, env, hS3, hE.up g3, ?_⟩
      cases e : mc env S3 with
      | bad => rw [e] at k3; exact k3
      | exc _ _ _ => rw [e] at k3; exact k3
      | ok pw S4 => rw [e, Res.bind_ok] at k3; exact fun l4 h4 w g4 s4 r4 => ⟨l4, S4, pw, g4, s4, r4, PostR.up g4 k3⟩
    refine thn ((hc W tk).run pins s3 σ H3 _ I3 q1) fun w' s4 ⟨z', H4, I4, r4, l4, S4, pw, g4, hS4, rw4, k4⟩ => ?_
    exact ho' W tk pins s4 σ H4 y z' u w' Q l4 S4 q pw I4 r2 r4 hS4 (Rep.up (g3.trans g4) _ _ rq) rw4 k4
  · cases rz
    cases r3
    refine wpAny_truthy_bool (ite_ff ⟨.bl false, H3, I3, rfl, k3 _ _ _ .refl hS3 (.bl _)⟩)
  · exact k3.elim
theorem bind_assoc' {α β γ : Type} (r : Res α) (k : α → Hs → Res β) (l : β → Hs → Res γ) : (r.bind k).bind l = r.bind fun x S => (k x S).bind l := by cases r <;> rfl
theorem dt_chain (ho : DOp X (compareOp op) f) (ho' : DOp X (compareOp op') f') (ha : DE X a ma) (hb : DE X b mb) (hc : DE X c mc) (hm : lastMarks [op, op'] [b, c] = false) : DT X (.Compare a [op, op'] [b, c] pos) (truM (chainE f f' ma mb mc)) := fun W tk => by
  refine ⟨fun pins s σ H Q I h => ?_⟩
  have h' : tG X.K W RB (bindE ma fun p => bindE mb fun q env S => (f p q S).bind fun z S1 => (chainR f' mc q env z S1).bind fun y S2 => truP y S2) σ H Q := by
    obtain ⟨loc, S, env, hS, hE, k⟩ := h
    refine ⟨loc, S, env, hS, hE, ?_⟩
    unfold truM chainE bindE at k
    unfold bindE
    simp only [bind_assoc'] at k
    exact k
  refine isTrue_chain (thn ((ha W tk).run pins s σ H _ I (tGv.bind (tG.v h'))) fun v s1 ⟨x, H1, I1, r1, p, h1⟩ => test_link (thn ((hb W tk).run pins s1 σ H1 _ I1 (tGv.bind h1)) fun u s2 ⟨y, H2, I2, r2, q, h2⟩ => ?_)) hm
  obtain ⟨loc, S, env, hS, hE, rs, k⟩ := h2
  obtain ⟨rp, rq⟩ := two_known rs
  have post : Post X.K W σ (fun z H3 => ∃ l3 S3 pz, Grow X.K loc H2 l3 H3 ∧ StR X.K l3 S3 H3 ∧ Rep X.K l3 H3 pz z ∧ PostR X.K W RB σ Q l3 H3 ((chainR f' mc q env pz S3).bind fun y S2 => truP y S2)) loc H2 (f p q S) := by
    have k : PostR X.K W RB σ Q loc H2 ((f p q S).bind fun z S1 => (chainR f' mc q env z S1).bind fun y S2 => truP y S2) := k
    cases e : f p q S with
    | bad => rw [e] at k; exact k
    | exc _ _ _ => rw [e] at k; exact k
    | ok pz S3 => rw [e, Res.bind_ok] at k; exact fun l3 h3 z g3 s3 r3 => ⟨l3, S3, pz, g3, s3, r3, PostR.up g3 k⟩
  refine thn (ho W tk pins s2 σ H2 x y v u _ loc S p q I2 r1 r2 hS rp rq post) fun d s3 ⟨z, H3, I3, r3, l3, S3, pz, g3, hS3, rz, k3⟩ => ?_
  unfold chainR at k3
  split at k3
  · cases rz
    cases r3
    refine wpAny_truthy_bool (ite_tt (test_last ?_))
    rw [bind_assoc'] at k3
    have q1 : tM X.K W mc σ H3 fun w H4 => ∃ l4 S4 pw, Grow X.K l3 H3 l4 H4 ∧ StR X.K l4 S4 H4 ∧ Rep X.K l4 H4 pw w ∧ PostR X.K W RB σ Q l4 H4 ((f' q pw S4).bind fun y S2 => truP y S2) := by
      refine ⟨l3, S3, env, hS3, hE.up g3, ?_⟩
      cases e : mc env S3 with
      | bad => rw [e] at k3; exact k3
      | exc _ _ _ => rw [e] at k3; exact k3
      | ok pw S4 => rw [e, Res.bind_ok] at k3; exact fun l4 h4 w g4 s4 r4 => ⟨l4, S4, pw, g4, s4, r4, PostR.up g4 k3⟩
    refine thn ((hc W tk).run pins s3 σ H3 _ I3 q1) fun w' s4 ⟨z', H4, I4, r4, l4, S4, pw, g4, hS4, rw4, k4⟩ => ?_
    refine thn (ho' W tk pins s4 σ H4 y z' u w' _ l4 S4 q pw I4 r2 r4 hS4 (Rep.up (g3.trans g4) _ _ rq) rw4 (Post.tru k4)) fun d2 s5 ⟨zv, H5, I5, r5, l5, S5, p5, hS5, rz5, k5⟩ => ?_
    exact d_tru W tk pins s5 σ H5 zv d2 Q l5 S5 p5 I5 r5 hS5 rz5 k5
  · cases rz
    cases r3
    exact wpAny_truthy_bool (ite_ff ⟨H3, I3, k3 _ _ _ .refl hS3 rfl⟩)
  · exact k3.elim
end
end D

/-! D25: static methods, C.m(..). -/
namespace D
open PySem PySem.Spec PyProof.Rows L2
structure SMOk (P : Program) (w : World) (K : PySem.W.Frag) (mg : Str → Option Value) (base : Heap) (k : Nat) (c m : Str) (n : Nat) (φ : Fun1) : Prop where
  mg_ : mg c = some (.ref (He.ga K c))
  rd : ∃ mc, ClX.CRead K (He.ga K c) mc ∧ ∃ p g rest, PySem.W.findCls K (.ref (He.ga K c)) mc m = some (.get (.builtin "staticmethod.__get__") (.ref p) .none (.ref (He.ga K c))) ∧ PySem.W.recIn K p "staticmethod" = some (.ref g :: rest) ∧ PySem.W.keepIn K (.ref g) = true ∧ CallRun P w K mg base k g n [] φ
section
variable {X : Cx} {k : Nat} {c m : Str} {φ : Fun1} {e : Expr} {es : List Expr} {n : AM} {nn : Nat} {p apos pos : Pos} {pl : Sem Bool}
theorem de_static (hr : Room k X.A) (hgd : X.A.guards = some []) (C : SMOk X.prog X.w X.K X.mg X.base k c m nn φ) (hg : Gl X c) (hdb : (c == ("__debug__" : Str)) = false) (hs : NoStars (e :: es)) (ha : DA X (e :: es) n) (hnl : ∀ env S ps S', n env S = .ok ps S' → ps.length = nn)
    (ht : eval (.Call (.Attribute (.Name c p) m apos) (e :: es) [] pos) X.env = (do
      let ov ← eval (.Name c p) X.env
      standAt apos.atName
      let (f, first) ← holding [ov] (getMethod ov m pl)
      callWith pos f first (backTo pos (starEach (e :: es) X.env)) (backToKw pos (keywordEach [] X.env)))) : DE X (.Call (.Attribute (.Name c p) m apos) (e :: es) [] pos) (callF φ n nilA) := fun W tk => by
  obtain ⟨mc, r, q, g, rest, fc, rc, kp, F⟩ := C.rd
  refine ⟨fun pins s σ H Q I h => ?_⟩
  refine PySem.W.methodCall_KW (pl := pl) (ld_glob I hg C.mg_ ?_ hdb) ht
  refine PySem.W.method_cls I.kIn r.ga (PySem.W.cls_bind I.kIn r.rd fc (wpAny_call (PySem.W.sm_get (s := { s with toks := s.toks + 1 }) I.kIn rc (PySem.W.handed_on rfl ?_))))
  have I1 := I.tok (s.toks + 1)
  show wpAny _ _ (callWith pos (.ref g) [] (backTo pos (starEach (e :: es) X.env)) []) _ _ _
  refine PySem.W.callWith_K (first := []) (h₀ := X.base) I.ok.mod.kin kp (thn ((ha W tk).run pos pins _ σ H _ I1 (call_vals hnl (fun _ _ _ _ => nilA_len) h)) fun us s1 ⟨xs, H1, I2, r1, q1⟩ => ⟨I2.kIn, ?_⟩) (hs e List.mem_cons_self _ _) (any_plain fun x hx => hs x (List.mem_cons_of_mem _ hx))
  obtain ⟨_, loc, S, ps, qs, hS, rp, rq, post⟩ := nilA_go q1.2
  exact run_call (us := us) (ws := []) tk hr hgd F I2 r1 .nil (by rw [← r1.length]; exact q1.1) rfl hS rp rq post
end
end D

/-! D26: own errors as values: made, their fields read. -/
namespace D
open PySem PySem.Spec PyProof.Rows L2

def tMkV (C : Addr) (sp : Sp) (ta : TA) : TE := fun σ H Q => ta σ H fun vs H1 => vs.length ≤ 1000 ∧ ∀ a, H1 a = none → sp (.ref a :: vs) (upd H1 a (exo a C none)) (fun v H2 => v = .non ∧ Q (.ref a) H2) (fun _ _ _ => False)
section
variable {X : Cx} {e : Expr} {es : List Expr} {ta : TA} {p pos : Pos} {B newId initId : String} {bmB : List Value}
theorem pe_xv {CX : CXT} {x : Str} {C fI : Addr} {k : Nat} {fd : FuncData} {ps : List Str} {sp : Sp} (T : XC X.K C B newId initId bmB) (iC : PySem.W.findIn X.K (.ref C) "__init__" = some (some (.ref fI))) (tI : PySem.W.typeIn X.K (.ref fI) = some (.type "function"))
    (F1 : FnOk X.prog X.w X.K X.mg X.base CX k fI fd ps sp) (hr : Room (k + 1) X.A) (hb : Binds X.K fd ps []) (hx : Passes CX X (fun _ _ _ => False)) (hg : Gl X x) (hm : X.mg x = some (.ref C)) (ha : PA X (e :: es) ta)
    (hdb : (x == ("__debug__" : Str)) = false) (he : starEach (e :: es) X.env = (false, eval e X.env) :: starEach es X.env) (hpl : (backTo pos (starEach es X.env)).any (·.1) = false) :
    PE X (.Call (.Name x p) (e :: es) [] pos) (tMkV C sp ta) := by
  refine ⟨fun pins s σ H Q I h => ?_⟩
  refine wpAny_Call_Name_kw (ld_glob I hg hm ?_ hdb)
  refine PySem.W.callWith_K (h₀ := X.base) I.ok.mod.kin T.kC (thn (ha.run pos pins s σ H _ I h) fun us s1 ⟨vs, H1, I1, r1, hz, q1⟩ => ⟨I1.kIn, ?_⟩) he hpl
  show wpAny _ _ (call (.ref C) us) _ _ _
  obtain ⟨_, _, _, _, _, _, _, _, _, _, _, _, _, _, _, _, hC, hT⟩ := T.obj I1.kIn
  obtain ⟨h0, g, dr, tk, os⟩ := s1
  have le : h0.objs.size ≤ h0.objs.size + 1 := Nat.le_succ _
  have go := q1 (h0.objs.size + 1) (I1.hok.fresh le)
  have keep : ∀ b o, h0.get? b = some o → ((h0.push (PySem.W.kdv_tup us)).push (PySem.HandSPX.excO C h0.objs.size)).get? b = some o := fun b o z => Heap.get?_push_of_some _ (Heap.get?_push_of_some _ z)
  have at_ : ((h0.push (PySem.W.kdv_tup us)).push (PySem.HandSPX.excO C h0.objs.size)).get? (h0.objs.size + 1) = some (PySem.HandSPX.excO C h0.objs.size) := by heap_get
  have I2 : Inv X pins σ (upd H1 (h0.objs.size + 1) (exo (h0.objs.size + 1) C none)) ⟨(h0.push (PySem.W.kdv_tup us)).push (PySem.HandSPX.excO C h0.objs.size), g, dr, tk, os⟩ := I1.laid (t' := tk) keep le (exo_ok at_)
  have rs : Vals (V.ref (h0.objs.size + 1) :: vs) (Value.ref (h0.objs.size + 1) :: us) := .cons rfl r1
  have len : (Value.ref (h0.objs.size + 1) :: us ++ []).length = ps.length := by rw [List.append_nil]; exact (rs.length.symm.trans (F1.len _ _ _ _ go))
  have hus : us.length ≤ sizeLine := by rw [← Paired.length r1, sizeLine_eq]; omega
  have bnd : BindsTo ⟨(h0.push (PySem.W.kdv_tup us)).push (PySem.HandSPX.excO C h0.objs.size), g, dr, tk, os⟩ fd ⟨Value.ref (h0.objs.size + 1) :: us, []⟩ (ps.zip (Value.ref (h0.objs.size + 1) :: us)) := by
    have := hb ⟨(h0.push (PySem.W.kdv_tup us)).push (PySem.HandSPX.excO C h0.objs.size), g, dr, tk, os⟩ (Value.ref (h0.objs.size + 1) :: us) I2.kIn len
    rw [List.append_nil] at this
    exact this
  refine wpAny_call (PySem.HandSPX.call_own T.FB hT hC (PySem.W.looks_findIn I1.kIn iC) (fun self => PySem.W.bind_fn I1.kIn self tI) hus
    (codeAny_mono (F1.run _ X.stack _ _ ⟨Value.ref (h0.objs.size + 1) :: us, []⟩ (Value.ref (h0.objs.size + 1) :: us) _ _ (fun _ _ _ => False) (hr.make C us []) (I2.env0.make C us []) bnd rs go) fun r s' hq => ?_))
  cases r with
  | error er => exact hx pins σ _ _ er s' I2 hq
  | ok fl =>
    cases fl with
    | ret w =>
      obtain ⟨v, H2, I3, rv, ev, q3⟩ := I2.after hq
      subst ev
      exact ⟨rv, ⟨V.ref (h0.objs.size + 1), H2, I3, rfl, q3⟩⟩
    | _ => exact False.elim hq
end

/-! ### C(e, ..) as a value -/
def mkxP (x : Str) (fs : List Str) (ps : List PV) (S : Hs) : Res PV := if ps.length = fs.length ∧ fs ≠ [] ∧ fs.length ≤ 900 then .ok (.exn x fs.reverse ps.reverse) S else .bad
def mkxE (x : Str) (fs : List Str) (n : AM) : EM := bindE n fun ps _ S => mkxP x fs ps S
theorem zip_rev {α β : Type} : ∀ {a : List α} {b : List β}, a.length = b.length → (a.zip b).reverse = a.reverse.zip b.reverse
  | [], _, _ => rfl
  | x :: a, [], h => by cases h
  | x :: a, y :: b, h => by
    have h' : a.length = b.length := by simpa using h
    rw [List.zip_cons_cons, List.reverse_cons, List.reverse_cons, List.reverse_cons, List.zip_append (by simpa using h'), zip_rev h']
    rfl
theorem Reps.rev {K : PySem.W.Frag} {loc : List Addr} {H : Hp} : ∀ {ps : List PV} {vs : List V}, Reps K loc H ps vs → Reps K loc H ps.reverse vs.reverse
  | [], _, h => by cases h; exact .nil
  | p :: ps, _, h => by
    cases h with
    | cons h1 h2 =>
      rw [List.reverse_cons, List.reverse_cons]
      exact Reps.append (Reps.rev h2) (.cons h1 .nil)
section
variable {X : Cx} {k : Nat} {x : Str} {fs : List Str} {e : Expr} {es : List Expr} {n : AM} {p pos : Pos}
theorem de_mkx (hr : Room (k + 1) X.A) (C : XOk X.prog X.w X.K X.mg X.base k x fs) (hg : Gl X x) (hdb : (x == ("__debug__" : Str)) = false) (hs : NoStars (e :: es)) (ha : DA X (e :: es) n) :
    DE X (.Call (.Name x p) (e :: es) [] pos) (mkxE x fs n) := fun W tk => by
  obtain ⟨B, newId, initId, bmB, fI, fd, ps, T, iC, tI, F1, hb⟩ := C.ex
  refine (pe_xv T iC tI F1 hr hb pass0 hg C.mg_ (ha W tk) hdb (hs e List.mem_cons_self _ _) (any_plain fun y hy => hs y (List.mem_cons_of_mem _ hy))).imp fun σ H Q q => ?_
  refine tG.imp (fun vs H1 k1 => ?_) (tGv.bindA (tG.v q))
  obtain ⟨us, loc, S, env, hS, hE, rs, k1⟩ := k1
  rw [List.append_nil, List.append_nil] at rs
  unfold mkxP at k1
  split at k1
  · rename_i hl
    have ln : vs.length = fs.length := by rw [← rs.length]; exact hl.1
    refine ⟨?_, fun a na => ?_⟩
    · have := hl.2.2; omega
    · refine ⟨a, vs, rfl, ln, hl.2.1, upd_same, fun d nd ne => ⟨rfl, ?_⟩⟩
      have nd' : H1 d = none := by rw [upd_ne ne] at nd; exact nd
      have g1 : Grow X.K loc H1 loc (upd H1 d (exd d (fs.zip vs).reverse)) := grow_new nd' fun _ _ z => z
      have na' : upd H1 d (exd d (fs.zip vs).reverse) a = none := by rw [upd_ne (Ne.symm ne)]; exact na
      have g2 : Grow X.K loc (upd H1 d (exd d (fs.zip vs).reverse)) loc (upd (upd H1 d (exd d (fs.zip vs).reverse)) a (exo a (He.ga X.K x) (some d))) := grow_new na' fun _ _ z => z
      have eH : upd (upd (upd H1 a (exo a (He.ga X.K x) none)) d (exd d (fs.zip vs).reverse)) a (exo a (He.ga X.K x) (some d)) = upd (upd H1 d (exd d (fs.zip vs).reverse)) a (exo a (He.ga X.K x) (some d)) := by
        funext c
        by_cases c2 : c = a
        · rw [c2, upd_same, upd_same]
        · rw [upd_ne c2, upd_ne c2]
          by_cases c1 : c = d
          · rw [c1, upd_same, upd_same]
          · rw [upd_ne c1, upd_ne c1, upd_ne c2]
      rw [eH]
      exact k1 loc _ _ (g1.trans g2) ((hS.lay nd').lay na') (.exn ⟨d, upd_same, by rw [upd_ne ne, upd_same, zip_rev ln.symm]⟩ (Reps.up (g1.trans g2) _ _ rs.rev))
  · exact k1.elim
end

/-! ### fields -/
def xfldP (cs : List Str) (f : Str) : PV → Hs → Res PV
  | .exn c ns xs, S => if c ∈ cs then (match (ns.zip xs).lookup f with
    | some p => .ok p S
    | none => .bad) else .bad
  | _, _ => .bad
def XFOk (K : PySem.W.Frag) (cs : List Str) (f : Str) : Prop := ∀ c ∈ cs, XfC K (He.ga K c) ∧ PySem.W.findIn K (.ref (He.ga K c)) f = some none
section
variable {X : Cx} {a : Expr} {ma : EM} {pos : Pos} {f : Str} {cs : List Str}
theorem de_xfld (hF : XFOk X.K cs f) (he : DE X a ma) (hb : attributeBase a f X.env (eval a X.env) = eval a X.env) : DE X (.Attribute a f pos) (op1 (xfldP cs f) ma) := fun W tk => by
  refine ⟨fun pins s σ H Q I h => ?_⟩
  refine attr_of hb (thn ((he W tk).run pins s σ H _ I (tGv.bind (tG.v h))) fun u s1 ⟨x, H1, I1, r1, p, h1⟩ => ?_)
  obtain ⟨loc, S, env, hS, hE, rs, k⟩ := h1
  cases rs with
  | cons rp _ =>
    have k2 : Post X.K W σ Q loc H1 (xfldP cs f p S) := k
    unfold xfldP at k2
    split at k2
    · split at k2
      · split at k2
        · rename_i c ns xs hc _ q e2
          cases rp with
          | @exn aa _ _ _ vs h1 h2 =>
            obtain ⟨d, ea, ed⟩ := h1
            have hl := (reps_zip (fs := ns) h2).look f
            rw [e2] at hl
            obtain ⟨v, hv, rv⟩ := hl
            obtain rfl : u = Value.ref aa := r1
            obtain ⟨T, hno⟩ := hF c hc
            obtain ⟨t1, hoe⟩ := exo_at I1.hok ea
            obtain ⟨mA, hns, hrel⟩ := exd_at I1.hok ed
            obtain ⟨od, ho, hl⟩ := lookIn_ns hns
            obtain ⟨u, hu, ru⟩ := RelO.some_of (v := v) (o := mA f) (by rw [← hv]; exact hrel f)
            have J : PySem.W.InstAt s1.heap aa _ (He.ga X.K c) (some od) := ⟨hoe, rfl, rfl, ho⟩
            exact PySem.HandSPX.exc_get I1.kIn J T.ga T.gg T.exC (PySem.W.findObj_own T.hdC hno rfl (by rw [hl, hu])) (handed_of ru) ⟨v, H1, I1.tok _, ru, k2 _ _ _ .refl hS rv⟩
        · exact k2.elim
      · exact k2.elim
    · exact k2.elim
end
end D

/-! D27: isinstance of own errors, repr of mixed values, facts of the head by own checks. -/
namespace D
open PySem PySem.Spec PyProof.Rows L2

/-! ### the head's facts, with checks of one's own -/
def asX (g : Addr → Option Obj) (n : Nat) : List Addr := sysModules :: cStatics :: He.asD g n
abbrev AlX : Type := He.AlD × Bool
def obsX (fa : List He.Fa) (fn : List He.DefD) (bs : PySem.W.Frag → Bool) (K : PySem.W.Frag) : AlX := (He.obsD fa fn K, bs K)
def SaysX (fa : List He.Fa) (fn : List He.DefD) (bs : PySem.W.Frag → Bool) (K : PySem.W.Frag) : Prop := obsX fa fn bs K = (He.valD fn, true)
def obsXG (n : Nat) (fa : List He.Fa) (fn : List He.DefD) (bs : PySem.W.Frag → Bool) (g : Addr → Option Obj) : AlX := obsX fa fn bs (He.frG g (asX g n))
def hookX (n : Nat) (fa : List He.Fa) (fn : List He.DefD) (bs : PySem.W.Frag → Bool) : PySem.W.Hook where
  α := AlX
  obs := fun s => obsXG n fa fn bs s.heap.get?
  val := fun _ => (He.valD fn, true)
  says := fun _ h => ∃ K : PySem.W.Frag, K.In h ∧ SaysX fa fn bs K
  of := fun _ _ e => ⟨_, He.frG_in, e⟩
  keeps := fun _ _ _ ⟨K, hK, c⟩ k => ⟨K, PySem.W.Frag.In.keeps hK k, c⟩
theorem obsXG_eq {n : Nat} {fa : List He.Fa} {fn : List He.DefD} {bs : PySem.W.Frag → Bool} {g : Addr → Option Obj} {s : Shared} (h : ∀ a, g a = s.heap.get? a) : obsXG n fa fn bs g = (hookX n fa fn bs).obs s := by
  have e : g = s.heap.get? := funext h
  rw [e] <;> rfl
theorem SaysX.d {fa : List He.Fa} {fn : List He.DefD} {bs : PySem.W.Frag → Bool} {K : PySem.W.Frag} (c : SaysX fa fn bs K) : He.SaysD fa fn K := congrArg (fun z : AlX => z.1) c
theorem SaysX.b {fa : List He.Fa} {fn : List He.DefD} {bs : PySem.W.Frag → Bool} {K : PySem.W.Frag} (c : SaysX fa fn bs K) : bs K = true := congrArg (fun z : AlX => z.2) c

/-! ### a class as a value -/
theorem de_gl {X : Cx} {x : Str} {pos : Pos} (hg : Gl X x) (hm : X.mg x = some (.ref (He.ga X.K x))) (hd : (x == ("__debug__" : Str)) = false) : DE X (.Name x pos) (pureM (.gl x)) := de_pure (pe_glob (v := .ref (He.ga X.K x)) hg hm rfl hd) fun _ _ => .gl x

/-! ### isinstance(error, class) -/
def KitC (K : PySem.W.Frag) (C : Addr) : Prop := ∀ x ox od, PySem.W.KitX K (.ref x) (.ref C) (fun h => PySem.W.InstAt h x ox C od)
def kitCB (K : PySem.W.Frag) (C : Addr) : Bool := (PySem.W.clsIn K C).isSome && (He.eqO (PySem.W.findIn K (.ref C) "__getattribute__") (some (some (.builtin "BaseException.__getattribute__"))) && ((PySem.W.findIn K (.ref C) "__getattr__").isSome && (decide (PySem.W.subIn K (.ref C) (.type "BaseException") = some true) &&
  (He.eqO (PySem.W.findIn K (.ref C) "__class__") (some (some (.builtin "object.__class__"))) && (He.eqO (PySem.W.specialIn K (.builtin "object.__class__") "__get__") (some (some (.builtin "getset_descriptor.__get__"))) && (decide (PySem.W.takesIn K (.builtin "object.__class__") = some true) && decide (PySem.W.mroIn K C (.type "object") = some true)))))))
theorem kitCB_ok {K : PySem.W.Frag} {C : Addr} (h : kitCB K C = true) : KitC K C := fun x ox od => by
  obtain ⟨h1, h⟩ := He.ba h
  obtain ⟨h2, h⟩ := He.ba h
  obtain ⟨h3, h⟩ := He.ba h
  obtain ⟨h4, h⟩ := He.ba h
  obtain ⟨h5, h⟩ := He.ba h
  obtain ⟨h6, h⟩ := He.ba h
  obtain ⟨h7, h8⟩ := He.ba h
  obtain ⟨gt, h3⟩ := Option.isSome_iff_exists.mp h3
  exact PySem.W.kitx_exc h1 (He.eqO_ok h2) h3 (of_decide_eq_true h4) (He.eqO_ok h5) (He.eqO_ok h6) (of_decide_eq_true h7) (of_decide_eq_true h8)
abbrev XT := List (Str × List Str × List String)
def isxB (tb : XT) (us : List Str) (bs : List String) (c : Str) : PV → Option Bool
  | .gl x => match tb.lookup c with
    | some (p, _) => if us.contains x then some (p.contains x) else none
    | none => none
  | .ty n => match tb.lookup c with
    | some (_, t) => if bs.contains n then some (t.contains n) else none
    | none => none
  | _ => none
def isxP (tb : XT) (us : List Str) (bs : List String) : List PV → Hs → Res PV
  | [.exn c _ _, q], S => match isxB tb us bs c q with
    | some b => .ok (.bl b) S
    | none => .bad
  | ps, S => isiP ps S
structure IsxOk (K : PySem.W.Frag) (tb : XT) (us : List Str) (bs : List String) : Prop where
  kit : ∀ e ∈ tb, KitC K (He.ga K e.1)
  own : ∀ e ∈ tb, ∀ x ∈ us, PySem.W.kitOne K (.ref (He.ga K e.1)) (.ref (He.ga K x)) = some (e.2.1.contains x)
  blt : ∀ e ∈ tb, ∀ n ∈ bs, PySem.W.kitOne K (.ref (He.ga K e.1)) (.type n) = some (e.2.2.contains n)
def isxK (tb : XT) (us : List Str) (bs : List String) (K : PySem.W.Frag) : Bool := tb.all fun e => kitCB K (He.ga K e.1) && ((us.all fun x => decide (PySem.W.kitOne K (.ref (He.ga K e.1)) (.ref (He.ga K x)) = some (e.2.1.contains x))) &&
  bs.all fun n => decide (PySem.W.kitOne K (.ref (He.ga K e.1)) (.type n) = some (e.2.2.contains n)))
theorem isxK_ok {K : PySem.W.Frag} {tb : XT} {us : List Str} {bs : List String} (h : isxK tb us bs K = true) : IsxOk K tb us bs := by
  have h := List.all_eq_true.mp h
  refine ⟨fun e he => ?_, fun e he x hx => ?_, fun e he n hn => ?_⟩
  · exact kitCB_ok (He.ba (h e he)).1
  · exact of_decide_eq_true (List.all_eq_true.mp (He.ba (He.ba (h e he)).2).1 x hx)
  · exact of_decide_eq_true (List.all_eq_true.mp (He.ba (He.ba (h e he)).2).2 n hn)
theorem lookup_mem {α β : Type} [BEq α] [LawfulBEq α] {c : α} {q : β} : ∀ {tb : List (α × β)}, tb.lookup c = some q → (c, q) ∈ tb
  | [], h => by cases h
  | (a, b) :: tb, h => by
    rw [List.lookup_cons] at h
    split at h
    · rename_i e
      cases h
      rw [beq_iff_eq.mp e]
      exact List.mem_cons_self
    · exact List.mem_cons_of_mem _ (lookup_mem h)
section
variable {X : Cx}
theorem d_isx {tb : XT} {us : List Str} {bs : List String} (F : IsxOk X.K tb us bs) : DCl X (.builtin "isinstance") (isxP tb us bs) := by
  intro W tk pins s σ H xs vs Q loc S ps I rv hS hp h
  unfold isxP at h
  split at h
  · rename_i c ns ys q
    cases e : isxB tb us bs c q with
    | none => rw [e] at h; exact h.elim
    | some b =>
      rw [e] at h
      obtain ⟨x, y, rfl, r1, r2⟩ := hp.two
      obtain ⟨u1, u2, rfl, v1, v2⟩ := vals2 rv
      cases r1 with
      | @exn aa _ _ _ zs h1 h2 =>
        obtain ⟨d, ea, ed⟩ := h1
        obtain rfl : u1 = Value.ref aa := v1
        obtain ⟨t1, hoe⟩ := exo_at I.hok ea
        obtain ⟨mA, hns, hrel⟩ := exd_at I.hok ed
        obtain ⟨od, ho, hl⟩ := lookIn_ns hns
        have J : PySem.W.InstAt s.heap aa _ (He.ga X.K c) (some od) := ⟨hoe, rfl, rfl, ho⟩
        have fin : ∀ tk, EP X pins σ Q (.bool b) { s with toks := tk } := fun tk => ⟨.bl b, H, I.tok tk, rfl, h _ _ _ .refl hS (.bl _)⟩
        unfold isxB at e
        split at e
        · rename_i z
          split at e
          · rename_i p t hlk
            split at e
            · rename_i hc
              cases e
              have hm := lookup_mem hlk
              cases r2
              obtain rfl : u2 = Value.ref (He.ga X.K z) := v2
              exact PySem.W.kia_one (F.kit _ hm aa _ (some od)) I.kIn J (F.own _ hm z (by simpa using hc)) (fun z => nomatch z) fin
            · cases e
          · cases e
        · rename_i z
          split at e
          · rename_i p t hlk
            split at e
            · rename_i hc
              cases e
              have hm := lookup_mem hlk
              cases r2
              obtain rfl : u2 = Value.type z := v2
              exact PySem.W.kia_one (F.kit _ hm aa _ (some od)) I.kIn J (F.blt _ hm z (by simpa using hc)) (fun z => nomatch z) fin
            · cases e
          · cases e
        · cases e
  · exact d_isi W tk pins s σ H xs vs Q loc S _ I rv hS hp h
end

/-! ### repr of mixed values -/
def SMod (K : PySem.W.Frag) : Prop := ∃ o, K.lookup sysModules = some o ∧ o.cls = .type "dict"
def smodB (K : PySem.W.Frag) : Bool := match K.lookup sysModules with
  | some o => decide (o.cls = .type "dict")
  | none => false
theorem smodB_ok {K : PySem.W.Frag} (h : smodB K = true) : SMod K := by
  unfold smodB at h
  split at h
  · rename_i o e
    exact ⟨o, e, of_decide_eq_true h⟩
  · cases h
def toR : Nat → Hs → PV → Option PyData
  | 0, _, _ => none
  | n + 1, S, p => match p with
    | .non => some .none
    | .bl b => some (.bool b)
    | .int i => some (.int i)
    | .str x => some (.str x)
    | .tup xs => (omap (toR n S) xs).map .tuple
    | .cl xs => (omap (toR n S) xs).map .list
    | .ref i => match S[i]? with
      | some (.lst xs) => (omap (toR n S) xs).map .list
      | some (.dct []) => some (.dict [])
      | _ => none
    | _ => none
section
variable {X : Cx} {pins : List (Addr × Obj)} {s : Shared} {σ : St} {H : Hp} {loc : List Addr} {S : Hs}
theorem SMod.ne (hm : SMod X.K) (I : Inv X pins σ H s) {a : Addr} {o : Obj} (e : s.heap.get? a = some o) (c : o.cls ≠ .type "dict") : sysModules ≠ a := fun z => by
  obtain ⟨q, e1, e2⟩ := hm
  have e3 := I.kIn _ _ e1
  rw [z, e] at e3
  cases e3
  exact c e2
theorem toR_reads (hm : SMod X.K) (I : Inv X pins σ H s) (hS : StR X.K loc S H) : ∀ (n : Nat) (p : PV) (d : PyData) (x : V) (u : Value), toR n S p = some d → Rep X.K loc H p x → RelV x u → ∃ as, Reads s.heap u d as ∧ sysModules ∉ as
  | 0, _, _, _, _, e, _, _ => by cases e
  | n + 1, p, d, x, u, e, r, rv => by
    have ih := toR_reads hm I hS n
    have all : ∀ (ps : List PV) (ds : List PyData) (xs : List V) (us : List Value), omap (toR n S) ps = some ds → Reps X.K loc H ps xs → Vals xs us → ∃ as, ReadsAll s.heap us ds as ∧ sysModules ∉ as := by
      intro ps
      induction ps with
      | nil =>
        intro ds xs us e r rv
        cases e; cases r; cases rv
        exact ⟨[], .nil, by simp⟩
      | cons p ps ih2 =>
        intro ds xs us e r rv
        cases r with
        | cons r1 r2 =>
          cases rv with
          | cons v1 v2 =>
            unfold omap at e
            split at e
            · rename_i y ys e1 e2
              cases e
              obtain ⟨as, a1, a2⟩ := ih _ _ _ _ e1 r1 v1
              obtain ⟨bs, b1, b2⟩ := ih2 _ _ _ e2 r2 v2
              exact ⟨_, .cons a1 b1, fun z => (List.mem_append.mp z).elim a2 b2⟩
            · cases e
    unfold toR at e
    split at e
    · cases e; cases r; cases rv; exact ⟨_, .none, by simp⟩
    · cases e; cases r; cases rv; exact ⟨_, .bool _, by simp⟩
    · cases e; cases r; obtain ⟨t, rfl⟩ := rv; exact ⟨_, .int _ t, by simp⟩
    · cases e; cases r; obtain ⟨t, rfl⟩ := rv; exact ⟨_, .str _ t, by simp⟩
    · rename_i xs
      cases r with
      | @tup a _ vs h1 h2 =>
        cases q : omap (toR n S) xs with
        | none => rw [q] at e; cases e
        | some ds =>
          rw [q] at e; cases e
          cases rv
          obtain ⟨its, r', ⟨o, ho, hc, m, hd⟩, _⟩ := I.tuple h1.sq
          obtain ⟨as, a1, a2⟩ := all _ _ _ _ q h2 r'
          exact ⟨_, .tuple ho hc hd a1, a2⟩
    · rename_i xs
      cases r with
      | @cl a _ vs h1 h2 =>
        cases q : omap (toR n S) xs with
        | none => rw [q] at e; cases e
        | some ds =>
          rw [q] at e; cases e
          cases rv
          obtain ⟨its, r', ⟨o, m, ho, hc, _, hd⟩, _⟩ := I.list h1.sq
          obtain ⟨as, a1, a2⟩ := all _ _ _ _ q h2 r'
          refine ⟨_, .list ho hc hd a1, fun z => ?_⟩
          rcases List.mem_cons.mp z with z | z
          · exact hm.ne I ho (by rw [hc]; decide) z
          · exact a2 z
    · split at e
      · rename_i i xs q1
        cases r with
        | @ref _ a ha =>
          cases q : omap (toR n S) xs with
          | none => rw [q] at e; cases e
          | some ds =>
            rw [q] at e; cases e
            cases rv
            obtain ⟨vs, e2, r2⟩ := hS.obj _ _ _ q1 ha
            obtain ⟨its, r', ⟨o, m, ho, hc, _, hd⟩, _⟩ := I.list (SqL.of e2)
            obtain ⟨as, a1, a2⟩ := all _ _ _ _ q r2 r'
            refine ⟨_, .list ho hc hd a1, fun z => ?_⟩
            rcases List.mem_cons.mp z with z | z
            · exact hm.ne I ho (by rw [hc]; decide) z
            · exact a2 z
      · rename_i i q1
        cases r with
        | @ref _ a ha =>
          cases e
          cases rv
          obtain ⟨qs, e2, r2⟩ := hS.obj _ _ _ q1 ha
          cases r2
          obtain ⟨_, nsm, vs, rel, o, es, ep, eo, exd, hdat, _, pr, _⟩ := dk_of I.hok e2
          cases rel
          have es0 : es.toList = [] := by
            cases hq : es.toList with
            | nil => rfl
            | cons z zs => rw [hq] at pr; cases pr
          refine ⟨[a] ++ [] ++ [], .dict (kvs := []) eo exd.1 hdat (by rw [es0]; exact .nil) (by rw [es0]; exact .nil), fun z => ?_⟩
          have z' : sysModules = a := by simpa using z
          rw [← z'] at nsm
          simp at nsm
      · cases e
    · cases e
end
def reprR (S : Hs) (p : PV) : Res PV := match toR 66 S p with
  | some d => if d.showable = true ∧ d.shown.length ≤ sizeLine ∧ d.depth ≤ 66 then .ok (.str d.shown) S else .bad
  | none => .bad
def reprDP : List PV → Hs → Res PV
  | [.tup xs], S => reprR S (.tup xs)
  | [.cl xs], S => reprR S (.cl xs)
  | [.ref i], S => reprR S (.ref i)
  | _, _ => .bad
section
variable {X : Cx}
theorem reprR_go {k : Nat} {W : WX} {pins : List (Addr × Obj)} {s : Shared} {σ : St} {H : Hp} {a : Addr} {Q : VK} {loc : List Addr} {S : Hs} {p : PV} (hm : SMod X.K) (hr : Room k X.A) (hg : X.A.guards = some []) (I : Inv X pins σ H s) (hS : StR X.K loc S H) (hp : Rep X.K loc H p (.ref a))
    (h : Post X.K W σ Q loc H (reprR S p)) : wpAny (model X.prog X.w) X.A (call (.builtin "repr") [.ref a]) (EP X pins σ Q) X.xe s := by
  unfold reprR at h
  split at h
  · rename_i d e
    split at h
    · rename_i c
      obtain ⟨c1, c3, c4⟩ := c
      obtain ⟨as, rd, ns⟩ := toR_reads hm I hS 66 p d _ _ e hp (show RelV (.ref a) (.ref a) from rfl)
      refine repr_of_reads' rd c1 (fun _ => ns) hg (by have := hr.un; omega) (fun _ _ q => q) (fun h' u tk kk => ?_) c3
      exact ⟨.str _, H, I.kept kk, ⟨_, rfl⟩, h _ _ _ .refl hS (.str _)⟩
    · exact h.elim
  · exact h.elim
theorem d_reprD {k : Nat} (hm : SMod X.K) (hr : Room k X.A) (hg : X.A.guards = some []) : DCl X (.builtin "repr") reprDP := by
  intro W tk pins s σ H xs us Q loc S ps I rv hS hp h
  unfold reprDP at h
  split at h
  · obtain ⟨x, rfl, r⟩ := hp.one
    cases r with
    | tup h1 h2 =>
      rw [Vals.ref1 rv]
      exact reprR_go hm hr hg I hS (.tup h1 h2) h
  · obtain ⟨x, rfl, r⟩ := hp.one
    cases r with
    | cl h1 h2 =>
      rw [Vals.ref1 rv]
      exact reprR_go hm hr hg I hS (.cl h1 h2) h
  · obtain ⟨x, rfl, r⟩ := hp.one
    cases r with
    | ref h1 =>
      rw [Vals.ref1 rv]
      exact reprR_go hm hr hg I hS (.ref h1) h
  · exact h.elim
end

/-! ### own errors, by a check -/
structure XB where
  base : String
  new : String
  init : String
  bm : List Value
def xbV : XB := ⟨"ValueError", "ValueError.__new__", "ValueError.__init__", [.type "ValueError", .type "Exception", .type "BaseException", .type "object"]⟩
def xbR : XB := ⟨"RuntimeError", "RuntimeError.__new__", "RuntimeError.__init__", [.type "RuntimeError", .type "Exception", .type "BaseException", .type "object"]⟩
def xcB (K : PySem.W.Frag) (C : Addr) (B : XB) : Bool := PySem.W.excInitIn K C B.bm B.new && (PySem.W.excOver K C B.bm && (PySem.W.hasDictIn K C && (He.eqO (PySem.W.findIn K (.ref C) "__setattr__") (some (some (.builtin "object.__setattr__"))) &&
  (decide (PySem.W.subIn K (.ref C) (.type "BaseException") = some true) && (decide (PySem.W.typeIn K (.ref C) = some (.type "type")) && PySem.W.keepIn K (.ref C))))))
theorem xcB_ok {K : PySem.W.Frag} {C : Addr} {B : XB} (FB : ExcBaseFacts B.base B.new B.init B.bm) (SF : StoreFacts B.base B.bm "object.__setattr__" "object") (h : xcB K C B = true) : XC K C B.base B.new B.init B.bm := by
  obtain ⟨h1, h⟩ := He.ba h
  obtain ⟨h2, h⟩ := He.ba h
  obtain ⟨h3, h⟩ := He.ba h
  obtain ⟨h4, h⟩ := He.ba h
  obtain ⟨h5, h⟩ := He.ba h
  obtain ⟨h6, h7⟩ := He.ba h
  exact ⟨FB, SF, h1, h2, h3, He.eqO_ok h4, of_decide_eq_true h5, of_decide_eq_true h6, h7⟩
theorem fbV : ExcBaseFacts xbV.base xbV.new xbV.init xbV.bm := PySem.F.excBase_ValueError
theorem fbR : ExcBaseFacts xbR.base xbR.new xbR.init xbR.bm := PySem.F.excBase_RuntimeError
theorem sfV : StoreFacts xbV.base xbV.bm "object.__setattr__" "object" := PySem.F.store_ValueError
theorem sfR : StoreFacts xbR.base xbR.bm "object.__setattr__" "object" := PySem.F.store_RuntimeError
/-- the class x over the own class b: fields fs -/
def xdB (x b : Str) (B : XB) (fs : List Str) (K : PySem.W.Frag) : Bool := xcB K (He.ga K x) B && (He.eqO (PySem.W.findIn K (.ref (He.ga K x)) "__init__") (some (some (.ref (He.ma K (He.ga K x) "__init__")))) && (decide (PySem.W.typeIn K (.ref (He.ma K (He.ga K x) "__init__")) = some (.type "function")) &&
  ((fs.all fun f => He.eqO (PySem.W.findIn K (.ref (He.ga K x)) f) (some none)) && (PySem.W.readsIn K (He.ga K b) (.type "type") && (He.eqO (PySem.W.specialIn K (.ref (He.ga K b)) "__getattribute__") (some (some (.builtin "type.__getattribute__"))) &&
  ((match PySem.W.findCls K (.ref (He.ga K b)) (.type "type") "__init__" with
    | some (.val (.builtin i)) => decide (i = B.init)
    | _ => false) && PySem.W.handedIn (.builtin B.init)))))))
structure XD (K : PySem.W.Frag) (x b : Str) (B : XB) (fs : List Str) : Prop where
  xc : XC K (He.ga K x) B.base B.new B.init B.bm
  ini : PySem.W.findIn K (.ref (He.ga K x)) "__init__" = some (some (.ref (He.ma K (He.ga K x) "__init__")))
  fn : PySem.W.typeIn K (.ref (He.ma K (He.ga K x) "__init__")) = some (.type "function")
  no : ∀ f ∈ fs, PySem.W.findIn K (.ref (He.ga K x)) f = some none
  rd : ClX.CRead K (He.ga K b) (.type "type")
  at_ : PySem.W.findCls K (.ref (He.ga K b)) (.type "type") "__init__" = some (.val (.builtin B.init))
  hh : PySem.W.handedIn (.builtin B.init) = true
theorem xdB_ok {K : PySem.W.Frag} {x b : Str} {B : XB} {fs : List Str} (FB : ExcBaseFacts B.base B.new B.init B.bm) (SF : StoreFacts B.base B.bm "object.__setattr__" "object") (h : xdB x b B fs K = true) : XD K x b B fs := by
  obtain ⟨h1, h⟩ := He.ba h
  obtain ⟨h2, h⟩ := He.ba h
  obtain ⟨h3, h⟩ := He.ba h
  obtain ⟨h4, h⟩ := He.ba h
  obtain ⟨h5, h⟩ := He.ba h
  obtain ⟨h6, h⟩ := He.ba h
  obtain ⟨h7, h8⟩ := He.ba h
  refine ⟨xcB_ok FB SF h1, He.eqO_ok h2, of_decide_eq_true h3, fun f hf => He.eqO_ok (List.all_eq_true.mp h4 f hf), ⟨h5, He.eqO_ok h6⟩, ?_, h8⟩
  split at h7
  · rename_i i e
    rw [e, of_decide_eq_true h7]
  · cases h7
section
variable {P : Program} {w : World} {K : PySem.W.Frag} {mg : Str → Option Value} {base : Heap} {x qual f f2 b m : Str} {params : Arguments} {scope : Scope} {body : List Stmt} {fd : FuncData} {B : XB} {p1 p2 p3 p4 p5 p6 p7 p8 p9 p10 p11 p12 p13 p14 : Pos} {j : Nat}
theorem xok1 (k : Nat) (D1 : XD K x b B [f]) (hx : mg x = some (.ref (He.ga K x))) (hb : mg b = some (.ref (He.ga K b))) (F : FunD K "__init__" qual params body scope [] [] (He.ma K (He.ga K x) "__init__") fd) (eb : body = [xst1 b m j p1 p2 p3 p4 p5 p6, xst2 f p7 p8 p9 p10])
    (hc : XCall b m j p1 p2 p3 p4 p5) (S : FnScope ["self", f] ["self", f] scope) (hs : vB ["self", f] scope 0 "self" = true) (hf : vB ["self", f] scope 1 f = true) (hgb : gB scope b = true)
    (sh : ∀ (kV doc pm : Value) (an : Option Addr) (cdv ct : Value) (us : List Value), us.length = 2 → bindArgs (PySem.W.fnOf "__init__" qual params body scope .none kV doc pm an cdv ct) ⟨us, []⟩ = pure ((["self", f] : List Str).zip us)) : XOk P w K mg base (k + 1) x [f] := by
  subst eb
  refine ⟨hx, B.base, B.new, B.init, B.bm, _, fd, _, D1.xc, D1.ini, D1.fn, fn_x1 hc F S hs hf hgb hb D1.rd D1.at_ D1.hh D1.xc (D1.no f (by simp)), ?_⟩
  obtain ⟨oc, od, dV, kV, doc, pm, an, cdv, ct, osl, rfl, _, _, hd, _⟩ := F.ex
  rcases hd with ⟨_, rfl⟩ | ⟨hn, _⟩
  · exact Binds.all (sh kV doc pm an cdv ct)
  · exact absurd rfl hn
theorem xok2 (k : Nat) (D1 : XD K x b B [f, f2]) (hx : mg x = some (.ref (He.ga K x))) (hb : mg b = some (.ref (He.ga K b))) (F : FunD K "__init__" qual params body scope [] [] (He.ma K (He.ga K x) "__init__") fd) (eb : body = [xst1 b m j p1 p2 p3 p4 p5 p6, xst2 f p7 p8 p9 p10, xst2 f2 p11 p12 p13 p14])
    (hc : XCall b m j p1 p2 p3 p4 p5) (S : FnScope ["self", f, f2] ["self", f, f2] scope) (hs : vB ["self", f, f2] scope 0 "self" = true) (hf : vB ["self", f, f2] scope 1 f = true) (hf2 : vB ["self", f, f2] scope 2 f2 = true) (hgb : gB scope b = true)
    (sh : ∀ (kV doc pm : Value) (an : Option Addr) (cdv ct : Value) (us : List Value), us.length = 3 → bindArgs (PySem.W.fnOf "__init__" qual params body scope .none kV doc pm an cdv ct) ⟨us, []⟩ = pure ((["self", f, f2] : List Str).zip us)) : XOk P w K mg base (k + 1) x [f, f2] := by
  subst eb
  refine ⟨hx, B.base, B.new, B.init, B.bm, _, fd, _, D1.xc, D1.ini, D1.fn, fn_x2 hc F S hs hf hf2 hgb hb D1.rd D1.at_ D1.hh D1.xc (D1.no f (by simp)) (D1.no f2 (by simp)), ?_⟩
  obtain ⟨oc, od, dV, kV, doc, pm, an, cdv, ct, osl, rfl, _, _, hd, _⟩ := F.ex
  rcases hd with ⟨_, rfl⟩ | ⟨hn, _⟩
  · exact Binds.all (sh kV doc pm an cdv ct)
  · exact absurd rfl hn
end
def xfK (cs : List Str) (f : Str) (K : PySem.W.Frag) : Bool := cs.all fun c => xfB K (He.ga K c) && He.eqO (PySem.W.findIn K (.ref (He.ga K c)) f) (some none)
theorem xfK_ok {cs : List Str} {f : Str} {K : PySem.W.Frag} (h : xfK cs f K = true) : XFOk K cs f := fun c hc => by
  obtain ⟨h1, h2⟩ := He.ba (List.all_eq_true.mp h c hc)
  exact ⟨xfB_ok h1, He.eqO_ok h2⟩
end D

/-! D28: wrappers as the printer writes them: classes as values, own errors, isinstance, repr, append, {}. -/
namespace D
open PySem PySem.Spec PyProof.Rows L2

/-- an own error's class at depth k -/
def CX (G : Pg) (k : Nat) (x : Str) (fs : List Str) : Prop := ∃ k', k = k' + 1 ∧ XOk G.P G.w G.K G.mg G.base k' x fs
def MG (G : Pg) (x : Str) : Prop := G.mg x = some (.ref (He.ga G.K x))
section
variable {G : Pg} {k : Nat} {N : List Str} {sc : Scope} {fb : Str → Bool} {X : Cx} {pos p apos : Pos} {e a : Expr} {es : List Expr} {ms : AM} {ma : EM} {n : Nat}
theorem e_gl (c : Ct G k N sc fb X) {x : Str} (hm : MG G x) (hg : gB sc x = true) : DE X (.Name x pos) (pureM (.gl x)) := de_gl (c.gl hg).1 (by rw [c.hm, c.hK]; exact hm) (c.gl hg).2
theorem e_ty (c : Ct G k N sc fb X) {x : Str} (T : String) (hin : x ∈ bltL) (hv : bootBuiltins x = some (.type T)) (hn : x ≠ "__name__") (hg : gB sc x = true) : DE X (.Name x pos) (pureM (.ty T)) := de_tyN (c.gl hg).1 (c.bl _ hin) hv hn (c.gl hg).2
theorem e_isx (c : Ct G k N sc fb X) {tb : XT} {us : List Str} {bs : List String} (F : IsxOk G.K tb us bs) (h : DAs X (e :: es) ms n) (hg : gB sc "isinstance" = true) : DE X (.Call (.Name "isinstance" p) (e :: es) [] pos) (callM (isxP tb us bs) ms) :=
  de_callB (d_isx (by rw [c.hK]; exact F)) (c.gl hg).1 (c.bl _ (by decide)) (by decide +kernel) h.ns h.da (by decide) (c.gl hg).2
theorem e_isi (c : Ct G k N sc fb X) (h : DAs X (e :: es) ms n) (hg : gB sc "isinstance" = true) : DE X (.Call (.Name "isinstance" p) (e :: es) [] pos) (callM isiP ms) :=
  de_callB d_isi (c.gl hg).1 (c.bl _ (by decide)) (by decide +kernel) h.ns h.da (by decide) (c.gl hg).2
theorem e_reprD (c : Ct G k N sc fb X) (sm : SMod G.K) (h : DAs X (e :: es) ms n) (hg : gB sc "repr" = true) : DE X (.Call (.Name "repr" p) (e :: es) [] pos) (callM reprDP ms) :=
  de_callB (d_reprD (by rw [c.hK]; exact sm) c.room c.gd) (c.gl hg).1 (c.bl _ (by decide)) (by decide +kernel) h.ns h.da (by decide) (c.gl hg).2
theorem e_mkx (c : Ct G k N sc fb X) {x : Str} {fs : List Str} (C : CX G k x fs) (hg : gB sc x = true) (h : DAs X (e :: es) ms n) : DE X (.Call (.Name x p) (e :: es) [] pos) (mkxE x fs ms) := by
  obtain ⟨k', rfl, C⟩ := C
  refine de_mkx c.room ?_ (c.gl hg).1 (c.gl hg).2 h.ns h.da
  rw [c.hP, c.hw, c.hK, c.hm, c.hb]
  exact C
theorem e_xfld (c : Ct G k N sc fb X) {cs : List Str} {f : Str} (F : XFOk G.K cs f) (he : DE X a ma) (hb : attributeBase a f X.env (eval a X.env) = eval a X.env := by rfl) : DE X (.Attribute a f pos) (op1 (xfldP cs f) ma) := de_xfld (by rw [c.hK]; exact F) he hb
theorem e_append {o : Expr} {mo : EM} (ho : DE X o mo) (h : DAs X (e :: es) ms n) (hbase : attributeBase o "append" X.env (eval o X.env) = eval o X.env := by rfl)
    (hfew : ((backTo pos (starEach (e :: es) X.env)).all (fun x => !x.1) && (backToKw pos (keywordEach [] X.env)).all (fun x => x.1.isSome)
      && decide ((e :: es).length + ([] : List Keyword).length + (if ([] : List Keyword).isEmpty then 0 else 1) < 30)) = true := by rfl)
    (hline : (apos.endLine == pos.line) = true := by rfl) : DE X (.Call (.Attribute o "append" apos) (e :: es) [] pos) (bmE .list appendP mo ms) :=
  de_bm PySem.F.plainAttrs_list PySem.F.slot_list_append PySem.F.type_list_append d_append ho h.ns h.da hbase hfew hline
theorem s_raise {pos' : Pos} (c : Ct G k N sc fb X) {x : Str} {fs : List Str} (C : CX G k x fs) (hg : gB sc x = true) (h : DAs X (e :: es) ms n) : DS X (.Raise (some (.Call (.Name x p) (e :: es) [] pos)) none pos') (raiseS x fs ms) := by
  obtain ⟨k', rfl, C⟩ := C
  refine ds_raise c.calm c.room ?_ (c.gl hg).1 (c.gl hg).2 h.ns h.da
  rw [c.hP, c.hw, c.hK, c.hm, c.hb]
  exact C
end
end D

/-! D29: plain: meanings worked out over a state S ++ L, L known. -/
namespace D
open PySem PySem.Spec PyProof.Rows L2
section
variable {S L : Hs} {o : PObj} {k i j : Nat} {n : Int} {xs ys : List PV} {p : PV} {c f x : Str} {cs : List Str} {e : Res PV}
theorem z_new : newL xs (S ++ L) = if xs.length ≤ sizeLine then .ok (.ref (S.length + L.length)) (S ++ (L ++ [.lst xs])) else .bad := by
  unfold newL
  rw [List.length_append, List.append_assoc]
theorem z_at : (S ++ L)[S.length + k]? = L[k]? := by
  rw [List.getElem?_append_right (by omega)]
  congr 1
  omega
theorem z_at0 : (S ++ L)[S.length]? = L[0]? := z_at (k := 0)
theorem z_lst : lstAt (S ++ L) (S.length + k) = lstAt L k := by
  unfold lstAt
  rw [z_at]
theorem z_lst0 : lstAt (S ++ L) S.length = lstAt L 0 := z_lst (k := 0)
theorem z_pre (h : lstAt S i = some xs) : lstAt (S ++ L) i = some xs := by
  have h1 := lstAt_eq h
  exact lstAt_of ((List.getElem?_append_left (List.getElem?_eq_some_iff.mp h1).1).trans h1)
theorem z_l0 : lstAt (.lst xs :: L) 0 = some xs := nr rfl
theorem z_lS : lstAt (o :: L) (k + 1) = lstAt L k := nr rfl
theorem z_add : addP (.ref i) (.ref j) S = (match lstAt S i, lstAt S j with
    | some xs, some ys => newL (xs ++ ys) S
    | _, _ => .bad) := nr rfl
theorem z_mul : mulP (.ref i) (.int n) S = (match lstAt S i with
    | some xs => if 0 ≤ n ∧ n < 2 ^ 63 then newL (List.replicate n.toNat xs).flatten S else .bad
    | _ => .bad) := nr rfl
theorem lst_nodct (h : lstAt S i = some xs) : dctAt S i = none := by
  unfold dctAt
  rw [lstAt_eq h]
theorem z_getL (h : lstAt S i = some xs) : getP (.ref i) (.int n) S = (match atI xs n with
    | some q => .ok q S
    | none => .bad) := by
  simp only [getP, lst_nodct h, ixP, seqOf, h] <;> cases atI xs n <;> rfl
/-- a list's item, L known -/
def getP' := getP
def gV (o : Option (List PV)) (n : Int) (S : Hs) (e : Res PV) : Res PV := match o with
  | some xs => (match atI xs n with
    | some q => .ok q S
    | none => .bad)
  | none => e
theorem gV_some : gV (some xs) n S e = (match atI xs n with
    | some q => .ok q S
    | none => .bad) := nr rfl
theorem z_get : getP (.ref (S.length + k)) (.int n) (S ++ L) = gV (lstAt L k) n (S ++ L) (getP' (.ref (S.length + k)) (.int n) (S ++ L)) := by
  cases e : lstAt L k with
  | none => rfl
  | some xs => exact z_getL (xs := xs) (by rw [z_lst]; exact e)
theorem z_mkx {fs : List Str} {n : AM} {env : Sl} : mkxE x fs n env S = (n env S).bind fun ps S1 => mkxP x fs ps S1 := nr rfl
theorem z_edict {env : Sl} : emptyD env (S ++ L) = .ok (.ref (S.length + L.length)) (S ++ (L ++ [.dct []])) := by
  unfold emptyD
  rw [List.length_append, List.append_assoc]
theorem z_mkx1 : mkxP x [f] [p] S = .ok (.exn x [f] [p]) S := if_pos ⟨rfl, List.cons_ne_nil _ _, by simp⟩
theorem z_mkx2 {f2 : Str} {q : PV} : mkxP x [f, f2] [p, q] S = .ok (.exn x [f2, f] [q, p]) S := if_pos ⟨rfl, List.cons_ne_nil _ _, by simp⟩
theorem z_xf1 (hc : c ∈ cs) : xfldP cs f (.exn c [f] [p]) S = .ok p S := by
  simp [xfldP, hc]
theorem z_xf2a {f2 : Str} {q : PV} (hc : c ∈ cs) : xfldP cs f (.exn c [f, f2] [p, q]) S = .ok p S := by
  simp [xfldP, hc]
theorem z_xf2b {f2 : Str} {q : PV} (hc : c ∈ cs) (hn : (f == f2) = false) : xfldP cs f (.exn c [f2, f] [q, p]) S = .ok p S := by
  simp [xfldP, hc, List.lookup, hn]
theorem z_isg {tb : XT} {us : List Str} {bs : List String} {fs sup : List Str} {ts : List String} (hl : tb.lookup c = some (sup, ts)) (hx : us.contains x = true) : isxP tb us bs [.exn c fs xs, .gl x] S = .ok (.bl (sup.contains x)) S := by
  simp only [isxP, isxB, hl, hx, if_true]
theorem z_ist {tb : XT} {us : List Str} {bs : List String} {fs sup : List Str} {ts : List String} {t : String} (hl : tb.lookup c = some (sup, ts)) (hx : bs.contains t = true) : isxP tb us bs [.exn c fs xs, .ty t] S = .ok (.bl (ts.contains t)) S := by
  simp only [isxP, isxB, hl, hx, if_true]
theorem nxt_enumL {r : Nat} (h : lstAt S r = some xs) (i : Nat) : nxt (.enumL r) i S = some (xs[i]?.map fun z => PV.tpx [.int i, z]) := by
  show (lstAt S r).map _ = _
  rw [h]
  rfl
theorem w_lsG {n : Nat} {u : GsM} {env : Sl} (h : lstAt S i = some xs) : tupG n u (.ref i) env S = if xs.length = n then u xs env S else .bad := by
  show (match lstAt S i with
    | some ps => if ps.length = n then u ps env S else .bad
    | none => .bad) = _
  rw [h]
end
theorem atI_natE {α : Type} {xs : List α} (n : Nat) : atI xs (n : Int) = xs[n]? := by
  cases h : xs[n]? with
  | some v => exact atI_nat h
  | none =>
    have := List.getElem?_eq_none_iff.mp h
    unfold atI ixN
    rw [if_pos (by omega), if_neg (by omega)]
    rfl
section
variable {α : Type} {xs : List α}
theorem A_0 : atI xs (0 : Int) = xs[0]? := atI_natE 0
theorem A_1 : atI xs (1 : Int) = xs[1]? := atI_natE 1
theorem A_2 : atI xs (2 : Int) = xs[2]? := atI_natE 2
theorem A_3 : atI xs (3 : Int) = xs[3]? := atI_natE 3
theorem A_4 : atI xs (4 : Int) = xs[4]? := atI_natE 4
theorem A_5 : atI xs (5 : Int) = xs[5]? := atI_natE 5
theorem A_6 : atI xs (6 : Int) = xs[6]? := atI_natE 6
theorem A_7 : atI xs (7 : Int) = xs[7]? := atI_natE 7
theorem A_8 : atI xs (8 : Int) = xs[8]? := atI_natE 8
theorem A_9 : atI xs (9 : Int) = xs[9]? := atI_natE 9
theorem A_10 : atI xs (10 : Int) = xs[10]? := atI_natE 10
theorem A_11 : atI xs (11 : Int) = xs[11]? := atI_natE 11
theorem A_12 : atI xs (12 : Int) = xs[12]? := atI_natE 12
theorem A_13 : atI xs (13 : Int) = xs[13]? := atI_natE 13
theorem A_14 : atI xs (14 : Int) = xs[14]? := atI_natE 14
theorem A_15 : atI xs (15 : Int) = xs[15]? := atI_natE 15
theorem A_16 : atI xs (16 : Int) = xs[16]? := atI_natE 16
theorem A_17 : atI xs (17 : Int) = xs[17]? := atI_natE 17
theorem A_18 : atI xs (18 : Int) = xs[18]? := atI_natE 18
theorem A_19 : atI xs (19 : Int) = xs[19]? := atI_natE 19
theorem A_20 : atI xs (20 : Int) = xs[20]? := atI_natE 20
theorem A_21 : atI xs (21 : Int) = xs[21]? := atI_natE 21
theorem A_22 : atI xs (22 : Int) = xs[22]? := atI_natE 22
theorem A_23 : atI xs (23 : Int) = xs[23]? := atI_natE 23
end
/-! lists of truths -/
theorem toD_bls {S : Hs} {n : Nat} : ∀ xs : List Bool, omap (toD (n + 1) S) (xs.map PV.bl) = some (xs.map PyData.bool)
  | [] => rfl
  | x :: xs => by rw [List.map_cons, omap, toD_bls xs]; rfl
theorem lay_bls : ∀ xs : List Bool, PyData.canLayAll0 (xs.map PyData.bool) = true
  | [] => rfl
  | x :: xs => by rw [List.map_cons, PyData.canLayAll0, lay_bls xs]; rfl
theorem dep_bls : ∀ xs : List Bool, PyData.depthAll (xs.map PyData.bool) = 0
  | [] => rfl
  | x :: xs => by rw [List.map_cons, PyData.depthAll, dep_bls xs]; rfl
theorem eqv_bls : ∀ xs ys : List Bool, PyData.eqvAll (xs.map PyData.bool) (ys.map PyData.bool) = decide (xs = ys)
  | [], [] => by simp [PyData.eqvAll]
  | [], _ :: _ => by simp [PyData.eqvAll]
  | _ :: _, [] => by simp [PyData.eqvAll]
  | x :: xs, y :: ys => by
    rw [List.map_cons, List.map_cons, PyData.eqvAll, eqv_bls xs ys]
    cases x <;> cases y <;> simp [PyData.eqv]
theorem dat_bls {S : Hs} {r : Nat} {xs : List Bool} (h : lstAt S r = some (xs.map PV.bl)) : datP S (.ref r) = some (.list (xs.map PyData.bool)) := by
  have h0 : toD 66 S (.ref r) = some (.list (xs.map PyData.bool)) := by
    show (match lstAt S r with | some xs => (omap (toD 65 S) xs).map PyData.list | none => none) = _
    rw [h]
    show (omap (toD 65 S) (xs.map PV.bl)).map PyData.list = _
    rw [toD_bls]
    rfl
  have h1 : SeqAt.shaped (.list (xs.map PyData.bool)) = true := by
    unfold SeqAt.shaped
    have c : (PyData.list (xs.map PyData.bool)).canLay0 = true := by simp only [PyData.canLay0]; exact lay_bls xs
    rw [c, Bool.true_and]
    refine decide_eq_true ?_
    simp only [PyData.depth]
    rw [dep_bls]
    decide
  unfold datP
  rw [h0]
  exact if_pos h1
theorem p_neBs {S : Hs} {r q : Nat} {xs ys : List Bool} (h1 : lstAt S r = some (xs.map PV.bl)) (h2 : lstAt S q = some (ys.map PV.bl)) : neP (.ref r) (.ref q) S = .ok (.bl (!decide (xs = ys))) S := by
  rw [neP_dat (dat_bls h1) (dat_bls h2)]
  simp only [PyData.eqv, eqv_bls]
end D

namespace K56
open PySem PySem.Spec PyProof.Rows L2 D
def topS (i : Nat) : Stmt := PySem.Challenge.pw_dispatchers_k56_errors_by_hand.main.body.getD i (.Pass ⟨0, 0, 0, 0⟩)
def tbX : XT := [("InvalidName", ["InvalidName", "WorldError"], ["ValueError"]), ("UnknownKind", ["UnknownKind", "WorldError"], ["ValueError"]), ("InvalidParents", ["InvalidParents", "WorldError"], ["ValueError"]), ("NoOrder", ["NoOrder", "WorldError"], ["ValueError"]), ("InvalidSignature", ["InvalidSignature", "WorldError"], ["ValueError"]), ("InvalidRole", ["InvalidRole", "WorldError"], ["ValueError"]), ("InvalidItems", ["InvalidItems", "WorldError"], ["ValueError"]), ("InvalidLimit", ["InvalidLimit", "WorldError"], ["ValueError"]), ("InvalidArgument", ["InvalidArgument", "WorldError"], ["ValueError"]), ("InvalidRow", ["InvalidRow", "WorldError"], ["ValueError"]), ("InvalidText", ["InvalidText", "WorldError"], ["ValueError"]), ("TooMany", ["TooMany", "WorldError"], ["ValueError"]), ("UnknownCell", ["UnknownCell", "WorldError"], ["ValueError"]), ("UnknownRule", ["UnknownRule", "WorldError"], ["ValueError"]), ("NotAbstract", ["NotAbstract", "DispatchError"], ["RuntimeError"]), ("WouldLoop", ["WouldLoop", "DispatchError"], ["RuntimeError"]), ("Ambiguous", ["Ambiguous", "DispatchError"], ["RuntimeError"]), ("NoMethod", ["NoMethod", "DispatchError"], ["RuntimeError"]), ("NoNext", ["NoNext", "DispatchError"], ["RuntimeError"]), ("Reentered", ["Reentered", "DispatchError"], ["RuntimeError"]), ("InProgress", ["InProgress", "DispatchError"], ["RuntimeError"])]
def usX : List Str := ["DispatchError", "WorldError", "InProgress", "Reentered", "NoNext", "NoMethod", "Ambiguous", "WouldLoop", "NotAbstract", "UnknownRule", "UnknownCell", "TooMany", "InvalidText", "InvalidRow", "InvalidArgument", "InvalidLimit", "InvalidItems", "InvalidRole", "InvalidSignature", "NoOrder", "InvalidParents", "UnknownKind", "InvalidName"]
def bsX : List String := ["RuntimeError", "ValueError"]
def cs_part : List Str := ["Ambiguous", "NoNext"]
def cs_abstract : List Str := ["WouldLoop"]
def cs_tied : List Str := ["Ambiguous"]
def cs_kind : List Str := ["UnknownKind", "NotAbstract", "WouldLoop"]
def cs_name : List Str := ["InvalidName", "NoOrder", "UnknownCell", "UnknownRule", "InProgress"]
def cs_key : List Str := ["Reentered"]
def cs_wanted : List Str := ["NoMethod"]
def cs_most : List Str := ["TooMany"]
def cs_line : List Str := ["InvalidText"]
def cs_index : List Str := ["InvalidParents", "InvalidSignature", "InvalidItems", "InvalidRow"]
def cs_place : List Str := ["InvalidArgument"]
def cs_value : List Str := ["InvalidRole", "InvalidLimit"]
/-! _law_kinds: slots 0=_law_error 1=_law_some -/
def m__law_kinds : SM :=
  (seqS (asgS (lstE (consA (callM (isxP tbX usX bsX) (consA (varM 0) (consA (pureM (.gl "InvalidName")) nilA))) (consA (callM (isxP tbX usX bsX) (consA (varM 0) (consA (pureM (.gl "UnknownKind")) nilA))) (consA (callM (isxP tbX usX bsX) (consA (varM 0) (consA (pureM (.gl "InvalidParents")) nilA))) nilA)))) (setG 1))
  (seqS (asgS (op2 (binP .Add) (varM 1) (lstE (consA (callM (isxP tbX usX bsX) (consA (varM 0) (consA (pureM (.gl "NoOrder")) nilA))) (consA (callM (isxP tbX usX bsX) (consA (varM 0) (consA (pureM (.gl "InvalidSignature")) nilA))) (consA (callM (isxP tbX usX bsX) (consA (varM 0) (consA (pureM (.gl "InvalidRole")) nilA))) nilA))))) (setG 1))
  (seqS (asgS (op2 (binP .Add) (varM 1) (lstE (consA (callM (isxP tbX usX bsX) (consA (varM 0) (consA (pureM (.gl "InvalidItems")) nilA))) (consA (callM (isxP tbX usX bsX) (consA (varM 0) (consA (pureM (.gl "InvalidLimit")) nilA))) nilA)))) (setG 1))
  (seqS (asgS (op2 (binP .Add) (varM 1) (lstE (consA (callM (isxP tbX usX bsX) (consA (varM 0) (consA (pureM (.gl "InvalidArgument")) nilA))) (consA (callM (isxP tbX usX bsX) (consA (varM 0) (consA (pureM (.gl "InvalidRow")) nilA))) (consA (callM (isxP tbX usX bsX) (consA (varM 0) (consA (pureM (.gl "InvalidText")) nilA))) nilA))))) (setG 1))
  (seqS (asgS (op2 (binP .Add) (varM 1) (lstE (consA (callM (isxP tbX usX bsX) (consA (varM 0) (consA (pureM (.gl "TooMany")) nilA))) (consA (callM (isxP tbX usX bsX) (consA (varM 0) (consA (pureM (.gl "UnknownCell")) nilA))) (consA (callM (isxP tbX usX bsX) (consA (varM 0) (consA (pureM (.gl "UnknownRule")) nilA))) nilA))))) (setG 1))
  (seqS (asgS (op2 (binP .Add) (varM 1) (lstE (consA (callM (isxP tbX usX bsX) (consA (varM 0) (consA (pureM (.gl "NotAbstract")) nilA))) (consA (callM (isxP tbX usX bsX) (consA (varM 0) (consA (pureM (.gl "WouldLoop")) nilA))) (consA (callM (isxP tbX usX bsX) (consA (varM 0) (consA (pureM (.gl "Ambiguous")) nilA))) nilA))))) (setG 1))
  (seqS (asgS (op2 (binP .Add) (varM 1) (lstE (consA (callM (isxP tbX usX bsX) (consA (varM 0) (consA (pureM (.gl "NoMethod")) nilA))) (consA (callM (isxP tbX usX bsX) (consA (varM 0) (consA (pureM (.gl "NoNext")) nilA))) (consA (callM (isxP tbX usX bsX) (consA (varM 0) (consA (pureM (.gl "Reentered")) nilA))) nilA))))) (setG 1))
  (retS (op2 (binP .Add) (varM 1) (lstE (consA (callM (isxP tbX usX bsX) (consA (varM 0) (consA (pureM (.gl "InProgress")) nilA))) nilA)))))))))))
def f__law_kinds_1 : List PV → Hs → Res PV := fun args S => bodyM 2 m__law_kinds (pick [0] args) S
/-! _law_families_right: slots 0=_law_first 1=_law_last 2=_law_at 3=_law_error 4=_law_is_first 5=_law_bases 6=_law_k -/
def m__law_families_right_e1 : EM :=
  (op2 (cmpP .Eq) (varM 6) (varM 2))
def m__law_families_right_b1 : SM :=
  (seqS (asgS (op2 (cmpP .Lt) (varM 2) (callM lenP (consA (varM 0) nilA))) (setG 4))
  (seqS (asgS (lstE (consA (callM (isxP tbX usX bsX) (consA (varM 3) (consA (pureM (.gl "WorldError")) nilA))) (consA (callM (isxP tbX usX bsX) (consA (varM 3) (consA (pureM (.ty "ValueError")) nilA))) nilA))) (setG 5))
  (seqS (asgS (op2 (binP .Add) (varM 5) (lstE (consA (callM (isxP tbX usX bsX) (consA (varM 3) (consA (pureM (.gl "DispatchError")) nilA))) (consA (callM (isxP tbX usX bsX) (consA (varM 3) (consA (pureM (.ty "RuntimeError")) nilA))) nilA)))) (setG 5))
  (ifS (orM (truM (op2 (cmpP .NotEq) (varM 5) (op2 (binP .Add) (op2 (binP .Mult) (lstE (consA (varM 4) nilA)) (pureM (.int 2))) (op2 (binP .Mult) (lstE (consA (notE (varM 4)) nilA)) (pureM (.int 2)))))) (truM (op2 (cmpP .NotEq) (callF f__law_kinds_1 (consA (varM 3) nilA) nilA) (lcM (rng1M (consA (pureM (.int 21)) nilA)) (setG 6) yesM m__law_families_right_e1 [6])))) (retS (pureM (.bl false))) nxS))))
def m__law_families_right : SM :=
  (seqS (forS (enumM (consA (op2 (binP .Add) (varM 0) (varM 1)) nilA)) (tupG 2 (consG (setG 2) (consG (setG 3) nilG))) m__law_families_right_b1)
  (retS (pureM (.bl true))))
def f__law_families_right_2 : List PV → Hs → Res PV := fun args S => bodyM 7 m__law_families_right (pick [0, 1] args) S
/-! _law_made: slots 0=_law_field 1=_law_first 2=_law_last 3=_law_stored -/
def m__law_made : SM :=
  (seqS (asgS (lstE (consA (mkxE "InvalidName" ["name"] (consA (varM 0) nilA)) (consA (mkxE "UnknownKind" ["kind"] (consA (varM 0) nilA)) (consA (mkxE "InvalidParents" ["index"] (consA (varM 0) nilA)) (consA (mkxE "NoOrder" ["name"] (consA (varM 0) nilA)) (consA (mkxE "InvalidSignature" ["index"] (consA (varM 0) nilA)) nilA)))))) (setG 1))
  (seqS (asgS (op2 (binP .Add) (varM 1) (lstE (consA (mkxE "InvalidRole" ["value"] (consA (varM 0) nilA)) (consA (mkxE "InvalidItems" ["index"] (consA (varM 0) nilA)) (consA (mkxE "InvalidLimit" ["value"] (consA (varM 0) nilA)) (consA (mkxE "InvalidArgument" ["place"] (consA (varM 0) nilA)) nilA)))))) (setG 1))
  (seqS (asgS (op2 (binP .Add) (varM 1) (lstE (consA (mkxE "InvalidRow" ["index"] (consA (varM 0) nilA)) (consA (mkxE "InvalidText" ["line"] (consA (varM 0) nilA)) (consA (mkxE "TooMany" ["most"] (consA (varM 0) nilA)) (consA (mkxE "UnknownCell" ["name"] (consA (varM 0) nilA)) (consA (mkxE "UnknownRule" ["name"] (consA (varM 0) nilA)) nilA))))))) (setG 1))
  (seqS (asgS (lstE (consA (mkxE "NotAbstract" ["kind"] (consA (varM 0) nilA)) (consA (mkxE "WouldLoop" ["abstract", "kind"] (consA (varM 0) (consA (varM 0) nilA))) (consA (mkxE "Ambiguous" ["part", "tied"] (consA (varM 0) (consA (varM 0) nilA))) (consA (mkxE "NoMethod" ["wanted"] (consA (varM 0) nilA)) (consA (mkxE "NoNext" ["part"] (consA (varM 0) nilA)) nilA)))))) (setG 2))
  (seqS (asgS (op2 (binP .Add) (varM 2) (lstE (consA (mkxE "Reentered" ["key"] (consA (varM 0) nilA)) (consA (mkxE "InProgress" ["name"] (consA (varM 0) nilA)) nilA)))) (setG 2))
  (seqS (asgS (lstE (consA (op1 (xfldP cs_name "name") (op2 getP (varM 1) (pureM (.int 0)))) (consA (op1 (xfldP cs_kind "kind") (op2 getP (varM 1) (pureM (.int 1)))) (consA (op1 (xfldP cs_index "index") (op2 getP (varM 1) (pureM (.int 2)))) (consA (op1 (xfldP cs_name "name") (op2 getP (varM 1) (pureM (.int 3)))) (consA (op1 (xfldP cs_index "index") (op2 getP (varM 1) (pureM (.int 4)))) (consA (op1 (xfldP cs_value "value") (op2 getP (varM 1) (pureM (.int 5)))) nilA))))))) (setG 3))
  (seqS (asgS (op2 (binP .Add) (varM 3) (lstE (consA (op1 (xfldP cs_index "index") (op2 getP (varM 1) (pureM (.int 6)))) (consA (op1 (xfldP cs_value "value") (op2 getP (varM 1) (pureM (.int 7)))) (consA (op1 (xfldP cs_place "place") (op2 getP (varM 1) (pureM (.int 8)))) (consA (op1 (xfldP cs_index "index") (op2 getP (varM 1) (pureM (.int 9)))) (consA (op1 (xfldP cs_line "line") (op2 getP (varM 1) (pureM (.int 10)))) nilA))))))) (setG 3))
  (seqS (asgS (op2 (binP .Add) (varM 3) (lstE (consA (op1 (xfldP cs_most "most") (op2 getP (varM 1) (pureM (.int 11)))) (consA (op1 (xfldP cs_name "name") (op2 getP (varM 1) (pureM (.int 12)))) (consA (op1 (xfldP cs_name "name") (op2 getP (varM 1) (pureM (.int 13)))) (consA (op1 (xfldP cs_kind "kind") (op2 getP (varM 2) (pureM (.int 0)))) (consA (op1 (xfldP cs_abstract "abstract") (op2 getP (varM 2) (pureM (.int 1)))) (consA (op1 (xfldP cs_part "part") (op2 getP (varM 2) (pureM (.int 2)))) nilA)))))))) (setG 3))
  (retS (lstE (consA (varM 1) (consA (varM 2) (consA (op2 (binP .Add) (varM 3) (lstE (consA (op1 (xfldP cs_wanted "wanted") (op2 getP (varM 2) (pureM (.int 3)))) (consA (op1 (xfldP cs_part "part") (op2 getP (varM 2) (pureM (.int 4)))) (consA (op1 (xfldP cs_key "key") (op2 getP (varM 2) (pureM (.int 5)))) (consA (op1 (xfldP cs_name "name") (op2 getP (varM 2) (pureM (.int 6)))) nilA)))))) nilA)))))))))))))
def f__law_made_1 : List PV → Hs → Res PV := fun args S => bodyM 4 m__law_made (pick [0] args) S
/-! _law_draw: slots 0=_law_source_here 1=_law_limit 2=_law_cell 3=_law_count 4=_law_mixed 5=_law_drawn -/
def m__law_draw_i1 : SM :=
  (seqS (asgS (op2 (binP .Add) (op2 getP (varM 0) (pureM (.str "count"))) (pureM (.int 1))) (setG 3))
  (seqS (asgS (varM 3) (subG (varM 0) (pureM (.str "count"))))
  (seqS (asgS (op2 (binP .Mod) (op2 (binP .Mult) (op2 (binP .Add) (op2 (binP .Mod) (varM 2) (pureM (.int 2147483629))) (op2 (binP .Mult) (pureM (.int 7919)) (varM 3))) (op2 (binP .Add) (op2 (binP .Mult) (varM 3) (varM 3)) (pureM (.int 48271)))) (pureM (.int 2147483647))) (setG 4))
  (seqS (asgS (op2 (binP .Mult) (op2 (binP .Mod) (op2 (binP .Mult) (varM 4) (pureM (.int 16777619))) (pureM (.int 2147483563))) (pureM (.int 2147483647))) (subG (varM 0) (pureM (.str "rest"))))
  (asgS (op2 (binP .Add) (op2 (binP .Add) (op2 getP (varM 0) (pureM (.str "rest"))) (op2 (binP .Mod) (op2 (binP .Mult) (varM 4) (varM 4)) (pureM (.int 2147483587)))) (pureM (.int 1))) (subG (varM 0) (pureM (.str "rest"))))))))
def m__law_draw_i2 : SM :=
  (seqS (asgS (op2 getP (op2 getP (varM 0) (pureM (.str "cells"))) (op2 (binP .Mod) (op2 getP (varM 0) (pureM (.str "next"))) (callM lenP (consA (op2 getP (varM 0) (pureM (.str "cells"))) nilA)))) (setG 2))
  (seqS (asgS (op2 (binP .Add) (op2 getP (varM 0) (pureM (.str "next"))) (pureM (.int 1))) (subG (varM 0) (pureM (.str "next"))))
  (ifS (andM (truM (op2 (cmpP .GtE) (varM 2) (op2 (binP .Pow) (pureM (.int 10)) (pureM (.int 18))))) (truM (op2 (cmpP .LtE) (op2 getP (varM 0) (pureM (.str "next"))) (callM lenP (consA (op2 getP (varM 0) (pureM (.str "cells"))) nilA))))) (asgS (varM 2) (subG (varM 0) (pureM (.str "rest")))) m__law_draw_i1)))
def m__law_draw : SM :=
  (seqS (ifS (truM (op2 (cmpP .Eq) (op2 getP (varM 0) (pureM (.str "rest"))) (pureM (.int 0)))) m__law_draw_i2 nxS)
  (seqS (asgS (op2 (binP .Mod) (op2 getP (varM 0) (pureM (.str "rest"))) (varM 1)) (setG 5))
  (seqS (asgS (op2 (binP .FloorDiv) (op2 getP (varM 0) (pureM (.str "rest"))) (varM 1)) (subG (varM 0) (pureM (.str "rest"))))
  (retS (varM 5)))))
def f__law_draw_2 : List PV → Hs → Res PV := fun args S => bodyM 6 m__law_draw (pick [0, 1] args) S
/-! _law_pick: slots 0=_law_source_here 1=_law_items -/
def m__law_pick : SM :=
  (retS (op2 getP (varM 1) (callF f__law_draw_2 (consA (varM 0) (consA (callM lenP (consA (varM 1) nilA)) nilA)) nilA)))
def f__law_pick_2 : List PV → Hs → Res PV := fun args S => bodyM 2 m__law_pick (pick [0, 1] args) S
/-! _law_source: slots 0=_law_script -/
def m__law_source : SM :=
  (retS (dispE (consP (pureM (.str "cells")) (op2 (binP .Add) (varM 0) (lstE (consA (callM lenP (consA (varM 0) nilA)) nilA))) (consP (pureM (.str "next")) (pureM (.int 0)) (consP (pureM (.str "rest")) (pureM (.int 0)) (consP (pureM (.str "count")) (pureM (.int 0)) nilP))))))
def f__law_source_1 : List PV → Hs → Res PV := fun args S => bodyM 1 m__law_source (pick [0] args) S
/-! law: slots 0=_law_script 1=_law_source_here 2=_law_turn 3=_law_field 4=_law_two 5=_law_first 6=_law_last 7=_law_stored -/
def m_law_b1 : SM :=
  (seqS (asgS (callF f__law_pick_2 (consA (varM 1) (consA (lstE (consA (pureM (.int 0)) (consA (pureM (.int 7)) (consA (op1 negP (pureM (.int 1))) (consA (op2 (binP .Pow) (pureM (.int 10)) (pureM (.int 30))) (consA (pureM .non) (consA (pureM (.str "")) (consA (pureM (.str "main")) (consA (tupE nilA) (consA (tupE (consA (pureM (.int 1)) (consA (pureM (.int 2)) nilA))) (consA (lstE (consA (pureM (.int 3)) nilA)) (consA emptyD (consA (pureM (.bl true)) nilA))))))))))))) nilA)) nilA) (setG 3))
  (seqS (asgS (callF f__law_made_1 (consA (varM 3) nilA) nilA) (tupG 3 (consG (setG 5) (consG (setG 6) (consG (setG 7) nilG)))))
  (seqS (ifS (truM (callM (isxP tbX usX bsX) (consA (varM 3) (consA (pureM (.ty "list")) nilA)))) (exprS (bmE .list appendP (varM 3) (consA (callM lenP (consA (varM 3) nilA)) nilA))) nxS)
  (seqS (ifS (orM (truM (op2 (cmpP .NotEq) (callM reprDP (consA (varM 7) nilA)) (callM reprDP (consA (op2 (binP .Mult) (lstE (consA (varM 3) nilA)) (pureM (.int 21))) nilA)))) (notM (truM (callF f__law_families_right_2 (consA (varM 5) (consA (varM 6) nilA)) nilA)))) (retS (pureM (.bl false))) nxS)
  (seqS (ifS (truM (op2 (cmpP .NotEq) (callM reprDP (consA (lstE (consA (op1 (xfldP cs_kind "kind") (op2 getP (varM 6) (pureM (.int 1)))) (consA (op1 (xfldP cs_tied "tied") (op2 getP (varM 6) (pureM (.int 2)))) nilA))) nilA)) (callM reprDP (consA (op2 (binP .Mult) (lstE (consA (varM 3) nilA)) (pureM (.int 2))) nilA)))) (retS (pureM (.bl false))) nxS)
  (seqS (asgS (lstE (consA (mkxE "WouldLoop" ["abstract", "kind"] (consA (pureM (.str "top")) (consA (varM 3) nilA))) (consA (mkxE "Ambiguous" ["part", "tied"] (consA (pureM (.str "main")) (consA (varM 3) nilA))) nilA))) (setG 4))
  (ifS (orM (truM (op2 (cmpP .NotEq) (lstE (consA (op1 (xfldP cs_abstract "abstract") (op2 getP (varM 4) (pureM (.int 0)))) (consA (op1 (xfldP cs_part "part") (op2 getP (varM 4) (pureM (.int 1)))) nilA))) (lstE (consA (pureM (.str "top")) (consA (pureM (.str "main")) nilA))))) (truM (op2 (cmpP .NotEq) (callM reprDP (consA (lstE (consA (op1 (xfldP cs_kind "kind") (op2 getP (varM 4) (pureM (.int 0)))) (consA (op1 (xfldP cs_tied "tied") (op2 getP (varM 4) (pureM (.int 1)))) nilA))) nilA)) (callM reprDP (consA (op2 (binP .Mult) (lstE (consA (varM 3) nilA)) (pureM (.int 2))) nilA))))) (retS (pureM (.bl false))) nxS)))))))
def m_law : SM :=
  (seqS (asgS (callF f__law_source_1 (consA (varM 0) nilA) nilA) (setG 1))
  (seqS (forS (rng1M (consA (pureM (.int 3)) nilA)) (setG 2) m_law_b1)
  (retS (pureM (.bl true)))))
def f_law_1 : List PV → Hs → Res PV := fun args S => bodyM 8 m_law (pick [0] args) S

abbrev s__law_kinds : Stmt := topS 28
abbrev N__law_kinds : List Str := ["_law_error", "_law_some"]
theorem sc__law_kinds : FnScope N__law_kinds ["_law_error"] (defScope s__law_kinds) := ⟨rfl, rfl, rfl, by decide +kernel, rfl, by decide +kernel, by decide +kernel⟩
theorem v__law_kinds__law_some : vB N__law_kinds (defScope s__law_kinds) 1 "_law_some" = true := by decide +kernel
theorem g__law_kinds_InProgress : gB (defScope s__law_kinds) "InProgress" = true := by decide +kernel
theorem v__law_kinds__law_error : vB N__law_kinds (defScope s__law_kinds) 0 "_law_error" = true := by decide +kernel
theorem g__law_kinds_isinstance : gB (defScope s__law_kinds) "isinstance" = true := by decide +kernel
theorem g__law_kinds_Reentered : gB (defScope s__law_kinds) "Reentered" = true := by decide +kernel
theorem g__law_kinds_NoNext : gB (defScope s__law_kinds) "NoNext" = true := by decide +kernel
theorem g__law_kinds_NoMethod : gB (defScope s__law_kinds) "NoMethod" = true := by decide +kernel
theorem t__law_kinds__law_some : tB' N__law_kinds (defScope s__law_kinds) allB 1 "_law_some" = true := by decide +kernel
theorem g__law_kinds_Ambiguous : gB (defScope s__law_kinds) "Ambiguous" = true := by decide +kernel
theorem g__law_kinds_WouldLoop : gB (defScope s__law_kinds) "WouldLoop" = true := by decide +kernel
theorem g__law_kinds_NotAbstract : gB (defScope s__law_kinds) "NotAbstract" = true := by decide +kernel
theorem g__law_kinds_UnknownRule : gB (defScope s__law_kinds) "UnknownRule" = true := by decide +kernel
theorem g__law_kinds_UnknownCell : gB (defScope s__law_kinds) "UnknownCell" = true := by decide +kernel
theorem g__law_kinds_TooMany : gB (defScope s__law_kinds) "TooMany" = true := by decide +kernel
theorem g__law_kinds_InvalidText : gB (defScope s__law_kinds) "InvalidText" = true := by decide +kernel
theorem g__law_kinds_InvalidRow : gB (defScope s__law_kinds) "InvalidRow" = true := by decide +kernel
theorem g__law_kinds_InvalidArgument : gB (defScope s__law_kinds) "InvalidArgument" = true := by decide +kernel
theorem g__law_kinds_InvalidLimit : gB (defScope s__law_kinds) "InvalidLimit" = true := by decide +kernel
theorem g__law_kinds_InvalidItems : gB (defScope s__law_kinds) "InvalidItems" = true := by decide +kernel
theorem g__law_kinds_InvalidRole : gB (defScope s__law_kinds) "InvalidRole" = true := by decide +kernel
theorem g__law_kinds_InvalidSignature : gB (defScope s__law_kinds) "InvalidSignature" = true := by decide +kernel
theorem g__law_kinds_NoOrder : gB (defScope s__law_kinds) "NoOrder" = true := by decide +kernel
theorem g__law_kinds_InvalidParents : gB (defScope s__law_kinds) "InvalidParents" = true := by decide +kernel
theorem g__law_kinds_UnknownKind : gB (defScope s__law_kinds) "UnknownKind" = true := by decide +kernel
theorem g__law_kinds_InvalidName : gB (defScope s__law_kinds) "InvalidName" = true := by decide +kernel
theorem b__law_kinds {G : Pg} {k : Nat} {X : Cx} (mg_InProgress : MG G "InProgress") (isx : IsxOk G.K tbX usX bsX) (mg_Reentered : MG G "Reentered") (mg_NoNext : MG G "NoNext") (mg_NoMethod : MG G "NoMethod") (mg_Ambiguous : MG G "Ambiguous") (mg_WouldLoop : MG G "WouldLoop") (mg_NotAbstract : MG G "NotAbstract") (mg_UnknownRule : MG G "UnknownRule") (mg_UnknownCell : MG G "UnknownCell") (mg_TooMany : MG G "TooMany") (mg_InvalidText : MG G "InvalidText") (mg_InvalidRow : MG G "InvalidRow") (mg_InvalidArgument : MG G "InvalidArgument") (mg_InvalidLimit : MG G "InvalidLimit") (mg_InvalidItems : MG G "InvalidItems") (mg_InvalidRole : MG G "InvalidRole") (mg_InvalidSignature : MG G "InvalidSignature") (mg_NoOrder : MG G "NoOrder") (mg_InvalidParents : MG G "InvalidParents") (mg_UnknownKind : MG G "UnknownKind") (mg_InvalidName : MG G "InvalidName") (c : Ct G k N__law_kinds (defScope s__law_kinds) allB X) : DSs X (defBody s__law_kinds) m__law_kinds :=
  (dss_cons (s_set c t__law_kinds__law_some (e_lst (a_cons (e_isx c isx (a_cons (e_var c v__law_kinds__law_error) (a_cons (e_gl c mg_InvalidName g__law_kinds_InvalidName) a_nil)) g__law_kinds_isinstance) (a_cons (e_isx c isx (a_cons (e_var c v__law_kinds__law_error) (a_cons (e_gl c mg_UnknownKind g__law_kinds_UnknownKind) a_nil)) g__law_kinds_isinstance) (a_cons (e_isx c isx (a_cons (e_var c v__law_kinds__law_error) (a_cons (e_gl c mg_InvalidParents g__law_kinds_InvalidParents) a_nil)) g__law_kinds_isinstance) a_nil)))))
  (dss_cons (s_set c t__law_kinds__law_some (e_bin c (e_var c v__law_kinds__law_some) (e_lst (a_cons (e_isx c isx (a_cons (e_var c v__law_kinds__law_error) (a_cons (e_gl c mg_NoOrder g__law_kinds_NoOrder) a_nil)) g__law_kinds_isinstance) (a_cons (e_isx c isx (a_cons (e_var c v__law_kinds__law_error) (a_cons (e_gl c mg_InvalidSignature g__law_kinds_InvalidSignature) a_nil)) g__law_kinds_isinstance) (a_cons (e_isx c isx (a_cons (e_var c v__law_kinds__law_error) (a_cons (e_gl c mg_InvalidRole g__law_kinds_InvalidRole) a_nil)) g__law_kinds_isinstance) a_nil))))))
  (dss_cons (s_set c t__law_kinds__law_some (e_bin c (e_var c v__law_kinds__law_some) (e_lst (a_cons (e_isx c isx (a_cons (e_var c v__law_kinds__law_error) (a_cons (e_gl c mg_InvalidItems g__law_kinds_InvalidItems) a_nil)) g__law_kinds_isinstance) (a_cons (e_isx c isx (a_cons (e_var c v__law_kinds__law_error) (a_cons (e_gl c mg_InvalidLimit g__law_kinds_InvalidLimit) a_nil)) g__law_kinds_isinstance) a_nil)))))
  (dss_cons (s_set c t__law_kinds__law_some (e_bin c (e_var c v__law_kinds__law_some) (e_lst (a_cons (e_isx c isx (a_cons (e_var c v__law_kinds__law_error) (a_cons (e_gl c mg_InvalidArgument g__law_kinds_InvalidArgument) a_nil)) g__law_kinds_isinstance) (a_cons (e_isx c isx (a_cons (e_var c v__law_kinds__law_error) (a_cons (e_gl c mg_InvalidRow g__law_kinds_InvalidRow) a_nil)) g__law_kinds_isinstance) (a_cons (e_isx c isx (a_cons (e_var c v__law_kinds__law_error) (a_cons (e_gl c mg_InvalidText g__law_kinds_InvalidText) a_nil)) g__law_kinds_isinstance) a_nil))))))
  (dss_cons (s_set c t__law_kinds__law_some (e_bin c (e_var c v__law_kinds__law_some) (e_lst (a_cons (e_isx c isx (a_cons (e_var c v__law_kinds__law_error) (a_cons (e_gl c mg_TooMany g__law_kinds_TooMany) a_nil)) g__law_kinds_isinstance) (a_cons (e_isx c isx (a_cons (e_var c v__law_kinds__law_error) (a_cons (e_gl c mg_UnknownCell g__law_kinds_UnknownCell) a_nil)) g__law_kinds_isinstance) (a_cons (e_isx c isx (a_cons (e_var c v__law_kinds__law_error) (a_cons (e_gl c mg_UnknownRule g__law_kinds_UnknownRule) a_nil)) g__law_kinds_isinstance) a_nil))))))
  (dss_cons (s_set c t__law_kinds__law_some (e_bin c (e_var c v__law_kinds__law_some) (e_lst (a_cons (e_isx c isx (a_cons (e_var c v__law_kinds__law_error) (a_cons (e_gl c mg_NotAbstract g__law_kinds_NotAbstract) a_nil)) g__law_kinds_isinstance) (a_cons (e_isx c isx (a_cons (e_var c v__law_kinds__law_error) (a_cons (e_gl c mg_WouldLoop g__law_kinds_WouldLoop) a_nil)) g__law_kinds_isinstance) (a_cons (e_isx c isx (a_cons (e_var c v__law_kinds__law_error) (a_cons (e_gl c mg_Ambiguous g__law_kinds_Ambiguous) a_nil)) g__law_kinds_isinstance) a_nil))))))
  (dss_cons (s_set c t__law_kinds__law_some (e_bin c (e_var c v__law_kinds__law_some) (e_lst (a_cons (e_isx c isx (a_cons (e_var c v__law_kinds__law_error) (a_cons (e_gl c mg_NoMethod g__law_kinds_NoMethod) a_nil)) g__law_kinds_isinstance) (a_cons (e_isx c isx (a_cons (e_var c v__law_kinds__law_error) (a_cons (e_gl c mg_NoNext g__law_kinds_NoNext) a_nil)) g__law_kinds_isinstance) (a_cons (e_isx c isx (a_cons (e_var c v__law_kinds__law_error) (a_cons (e_gl c mg_Reentered g__law_kinds_Reentered) a_nil)) g__law_kinds_isinstance) a_nil))))))
  (dss_one (ds_ret (e_bin c (e_var c v__law_kinds__law_some) (e_lst (a_cons (e_isx c isx (a_cons (e_var c v__law_kinds__law_error) (a_cons (e_gl c mg_InProgress g__law_kinds_InProgress) a_nil)) g__law_kinds_isinstance) a_nil))))))))))))
abbrev s__law_families_right : Stmt := topS 30
abbrev N__law_families_right : List Str := ["_law_first", "_law_last", "_law_at", "_law_error", "_law_is_first", "_law_bases", "_law_k"]
theorem sc__law_families_right : FnScope N__law_families_right ["_law_first", "_law_last"] (defScope s__law_families_right) := ⟨rfl, rfl, rfl, by decide +kernel, rfl, by decide +kernel, by decide +kernel⟩
theorem v__law_families_right__law_first : vB N__law_families_right (defScope s__law_families_right) 0 "_law_first" = true := by decide +kernel
theorem v__law_families_right__law_last : vB N__law_families_right (defScope s__law_families_right) 1 "_law_last" = true := by decide +kernel
theorem g__law_families_right_enumerate : gB (defScope s__law_families_right) "enumerate" = true := by decide +kernel
theorem t__law_families_right__law_error : tB' N__law_families_right (defScope s__law_families_right) allB 3 "_law_error" = true := by decide +kernel
theorem t__law_families_right__law_at : tB' N__law_families_right (defScope s__law_families_right) allB 2 "_law_at" = true := by decide +kernel
theorem v__law_families_right__law_bases : vB N__law_families_right (defScope s__law_families_right) 5 "_law_bases" = true := by decide +kernel
theorem v__law_families_right__law_is_first : vB N__law_families_right (defScope s__law_families_right) 4 "_law_is_first" = true := by decide +kernel
theorem v__law_families_right__law_error : vB N__law_families_right (defScope s__law_families_right) 3 "_law_error" = true := by decide +kernel
theorem g__law_families_right__law_kinds : gB (defScope s__law_families_right) "_law_kinds" = true := by decide +kernel
theorem g__law_families_right_range : gB (defScope s__law_families_right) "range" = true := by decide +kernel
theorem g__law_families_right_RuntimeError : gB (defScope s__law_families_right) "RuntimeError" = true := by decide +kernel
theorem g__law_families_right_isinstance : gB (defScope s__law_families_right) "isinstance" = true := by decide +kernel
theorem g__law_families_right_DispatchError : gB (defScope s__law_families_right) "DispatchError" = true := by decide +kernel
theorem t__law_families_right__law_bases : tB' N__law_families_right (defScope s__law_families_right) allB 5 "_law_bases" = true := by decide +kernel
theorem g__law_families_right_ValueError : gB (defScope s__law_families_right) "ValueError" = true := by decide +kernel
theorem g__law_families_right_WorldError : gB (defScope s__law_families_right) "WorldError" = true := by decide +kernel
theorem v__law_families_right__law_at : vB N__law_families_right (defScope s__law_families_right) 2 "_law_at" = true := by decide +kernel
theorem g__law_families_right_len : gB (defScope s__law_families_right) "len" = true := by decide +kernel
theorem t__law_families_right__law_is_first : tB' N__law_families_right (defScope s__law_families_right) allB 4 "_law_is_first" = true := by decide +kernel
theorem b__law_families_right {G : Pg} {k : Nat} {X : Cx} (h__law_kinds_1 : CO G k ⟨"_law_kinds", 1, []⟩ f__law_kinds_1) (isx : IsxOk G.K tbX usX bsX) (mg_DispatchError : MG G "DispatchError") (mg_WorldError : MG G "WorldError") (c : Ct G k N__law_families_right (defScope s__law_families_right) allB X) : DSs X (defBody s__law_families_right) m__law_families_right :=
  (dss_cons (s_for c (i_enum c g__law_families_right_enumerate (a_cons (e_bin c (e_var c v__law_families_right__law_first) (e_var c v__law_families_right__law_last)) a_nil)) (g_tup c (gs_cons (g_nm c t__law_families_right__law_at) (gs_cons (g_nm c t__law_families_right__law_error) gs_nil)))
  (dss_cons (s_set c t__law_families_right__law_is_first (e_cmp c (e_var c v__law_families_right__law_at) (e_len c (a_cons (e_var c v__law_families_right__law_first) a_nil) g__law_families_right_len)))
  (dss_cons (s_set c t__law_families_right__law_bases (e_lst (a_cons (e_isx c isx (a_cons (e_var c v__law_families_right__law_error) (a_cons (e_gl c mg_WorldError g__law_families_right_WorldError) a_nil)) g__law_families_right_isinstance) (a_cons (e_isx c isx (a_cons (e_var c v__law_families_right__law_error) (a_cons (e_ty c "ValueError" (by decide) (by decide +kernel) (by decide) g__law_families_right_ValueError) a_nil)) g__law_families_right_isinstance) a_nil))))
  (dss_cons (s_set c t__law_families_right__law_bases (e_bin c (e_var c v__law_families_right__law_bases) (e_lst (a_cons (e_isx c isx (a_cons (e_var c v__law_families_right__law_error) (a_cons (e_gl c mg_DispatchError g__law_families_right_DispatchError) a_nil)) g__law_families_right_isinstance) (a_cons (e_isx c isx (a_cons (e_var c v__law_families_right__law_error) (a_cons (e_ty c "RuntimeError" (by decide) (by decide +kernel) (by decide) g__law_families_right_RuntimeError) a_nil)) g__law_families_right_isinstance) a_nil)))))
  (dss_one (ds_if (DW.dt (dw_or (t_cmp c (e_var c v__law_families_right__law_bases) (e_bin c (e_bin c (e_lst (a_cons (e_var c v__law_families_right__law_is_first) a_nil)) de_int) (e_bin c (e_lst (a_cons (de_not (e_var c v__law_families_right__law_is_first)) a_nil)) de_int))) (dw_or1 (t_cmp c (e_callP c h__law_kinds_1 g__law_families_right__law_kinds (a_cons (e_var c v__law_families_right__law_error) a_nil)) (e_lc c [("_law_k", 6)] (by decide +kernel) (i_range1 c g__law_families_right_range (a_cons de_int a_nil)) (by decide +kernel) (fun _ c1 => (g_nm c1 (by decide +kernel))) (fun _ c1 => dts_nil) (fun _ c1 => (e_cmp c1 (e_var c1 (by decide +kernel)) (e_var c1 (by decide +kernel)))))))))
  (dss_one (ds_ret de_bl))
  dss_nil))))))
  (dss_one (ds_ret de_bl)))
abbrev s__law_made : Stmt := topS 29
abbrev N__law_made : List Str := ["_law_field", "_law_first", "_law_last", "_law_stored"]
theorem sc__law_made : FnScope N__law_made ["_law_field"] (defScope s__law_made) := ⟨rfl, rfl, rfl, by decide +kernel, rfl, by decide +kernel, by decide +kernel⟩
theorem v__law_made__law_stored : vB N__law_made (defScope s__law_made) 3 "_law_stored" = true := by decide +kernel
theorem v__law_made__law_last : vB N__law_made (defScope s__law_made) 2 "_law_last" = true := by decide +kernel
theorem v__law_made__law_first : vB N__law_made (defScope s__law_made) 1 "_law_first" = true := by decide +kernel
theorem t__law_made__law_stored : tB' N__law_made (defScope s__law_made) allB 3 "_law_stored" = true := by decide +kernel
theorem v__law_made__law_field : vB N__law_made (defScope s__law_made) 0 "_law_field" = true := by decide +kernel
theorem g__law_made_InProgress : gB (defScope s__law_made) "InProgress" = true := by decide +kernel
theorem g__law_made_Reentered : gB (defScope s__law_made) "Reentered" = true := by decide +kernel
theorem t__law_made__law_last : tB' N__law_made (defScope s__law_made) allB 2 "_law_last" = true := by decide +kernel
theorem g__law_made_NoNext : gB (defScope s__law_made) "NoNext" = true := by decide +kernel
theorem g__law_made_NoMethod : gB (defScope s__law_made) "NoMethod" = true := by decide +kernel
theorem g__law_made_Ambiguous : gB (defScope s__law_made) "Ambiguous" = true := by decide +kernel
theorem g__law_made_WouldLoop : gB (defScope s__law_made) "WouldLoop" = true := by decide +kernel
theorem g__law_made_NotAbstract : gB (defScope s__law_made) "NotAbstract" = true := by decide +kernel
theorem g__law_made_UnknownRule : gB (defScope s__law_made) "UnknownRule" = true := by decide +kernel
theorem g__law_made_UnknownCell : gB (defScope s__law_made) "UnknownCell" = true := by decide +kernel
theorem g__law_made_TooMany : gB (defScope s__law_made) "TooMany" = true := by decide +kernel
theorem g__law_made_InvalidText : gB (defScope s__law_made) "InvalidText" = true := by decide +kernel
theorem g__law_made_InvalidRow : gB (defScope s__law_made) "InvalidRow" = true := by decide +kernel
theorem t__law_made__law_first : tB' N__law_made (defScope s__law_made) allB 1 "_law_first" = true := by decide +kernel
theorem g__law_made_InvalidArgument : gB (defScope s__law_made) "InvalidArgument" = true := by decide +kernel
theorem g__law_made_InvalidLimit : gB (defScope s__law_made) "InvalidLimit" = true := by decide +kernel
theorem g__law_made_InvalidItems : gB (defScope s__law_made) "InvalidItems" = true := by decide +kernel
theorem g__law_made_InvalidRole : gB (defScope s__law_made) "InvalidRole" = true := by decide +kernel
theorem g__law_made_InvalidSignature : gB (defScope s__law_made) "InvalidSignature" = true := by decide +kernel
theorem g__law_made_NoOrder : gB (defScope s__law_made) "NoOrder" = true := by decide +kernel
theorem g__law_made_InvalidParents : gB (defScope s__law_made) "InvalidParents" = true := by decide +kernel
theorem g__law_made_UnknownKind : gB (defScope s__law_made) "UnknownKind" = true := by decide +kernel
theorem g__law_made_InvalidName : gB (defScope s__law_made) "InvalidName" = true := by decide +kernel
theorem b__law_made {G : Pg} {k : Nat} {X : Cx} (xf_name : XFOk G.K cs_name "name") (xf_key : XFOk G.K cs_key "key") (xf_part : XFOk G.K cs_part "part") (xf_wanted : XFOk G.K cs_wanted "wanted") (xf_abstract : XFOk G.K cs_abstract "abstract") (xf_kind : XFOk G.K cs_kind "kind") (xf_most : XFOk G.K cs_most "most") (xf_line : XFOk G.K cs_line "line") (xf_index : XFOk G.K cs_index "index") (xf_place : XFOk G.K cs_place "place") (xf_value : XFOk G.K cs_value "value") (x_InProgress : CX G k "InProgress" ["name"]) (x_Reentered : CX G k "Reentered" ["key"]) (x_NoNext : CX G k "NoNext" ["part"]) (x_NoMethod : CX G k "NoMethod" ["wanted"]) (x_Ambiguous : CX G k "Ambiguous" ["part", "tied"]) (x_WouldLoop : CX G k "WouldLoop" ["abstract", "kind"]) (x_NotAbstract : CX G k "NotAbstract" ["kind"]) (x_UnknownRule : CX G k "UnknownRule" ["name"]) (x_UnknownCell : CX G k "UnknownCell" ["name"]) (x_TooMany : CX G k "TooMany" ["most"]) (x_InvalidText : CX G k "InvalidText" ["line"]) (x_InvalidRow : CX G k "InvalidRow" ["index"]) (x_InvalidArgument : CX G k "InvalidArgument" ["place"]) (x_InvalidLimit : CX G k "InvalidLimit" ["value"]) (x_InvalidItems : CX G k "InvalidItems" ["index"]) (x_InvalidRole : CX G k "InvalidRole" ["value"]) (x_InvalidSignature : CX G k "InvalidSignature" ["index"]) (x_NoOrder : CX G k "NoOrder" ["name"]) (x_InvalidParents : CX G k "InvalidParents" ["index"]) (x_UnknownKind : CX G k "UnknownKind" ["kind"]) (x_InvalidName : CX G k "InvalidName" ["name"]) (c : Ct G k N__law_made (defScope s__law_made) allB X) : DSs X (defBody s__law_made) m__law_made :=
  (dss_cons (s_set c t__law_made__law_first (e_lst (a_cons (e_mkx c x_InvalidName g__law_made_InvalidName (a_cons (e_var c v__law_made__law_field) a_nil)) (a_cons (e_mkx c x_UnknownKind g__law_made_UnknownKind (a_cons (e_var c v__law_made__law_field) a_nil)) (a_cons (e_mkx c x_InvalidParents g__law_made_InvalidParents (a_cons (e_var c v__law_made__law_field) a_nil)) (a_cons (e_mkx c x_NoOrder g__law_made_NoOrder (a_cons (e_var c v__law_made__law_field) a_nil)) (a_cons (e_mkx c x_InvalidSignature g__law_made_InvalidSignature (a_cons (e_var c v__law_made__law_field) a_nil)) a_nil)))))))
  (dss_cons (s_set c t__law_made__law_first (e_bin c (e_var c v__law_made__law_first) (e_lst (a_cons (e_mkx c x_InvalidRole g__law_made_InvalidRole (a_cons (e_var c v__law_made__law_field) a_nil)) (a_cons (e_mkx c x_InvalidItems g__law_made_InvalidItems (a_cons (e_var c v__law_made__law_field) a_nil)) (a_cons (e_mkx c x_InvalidLimit g__law_made_InvalidLimit (a_cons (e_var c v__law_made__law_field) a_nil)) (a_cons (e_mkx c x_InvalidArgument g__law_made_InvalidArgument (a_cons (e_var c v__law_made__law_field) a_nil)) a_nil)))))))
  (dss_cons (s_set c t__law_made__law_first (e_bin c (e_var c v__law_made__law_first) (e_lst (a_cons (e_mkx c x_InvalidRow g__law_made_InvalidRow (a_cons (e_var c v__law_made__law_field) a_nil)) (a_cons (e_mkx c x_InvalidText g__law_made_InvalidText (a_cons (e_var c v__law_made__law_field) a_nil)) (a_cons (e_mkx c x_TooMany g__law_made_TooMany (a_cons (e_var c v__law_made__law_field) a_nil)) (a_cons (e_mkx c x_UnknownCell g__law_made_UnknownCell (a_cons (e_var c v__law_made__law_field) a_nil)) (a_cons (e_mkx c x_UnknownRule g__law_made_UnknownRule (a_cons (e_var c v__law_made__law_field) a_nil)) a_nil))))))))
  (dss_cons (s_set c t__law_made__law_last (e_lst (a_cons (e_mkx c x_NotAbstract g__law_made_NotAbstract (a_cons (e_var c v__law_made__law_field) a_nil)) (a_cons (e_mkx c x_WouldLoop g__law_made_WouldLoop (a_cons (e_var c v__law_made__law_field) (a_cons (e_var c v__law_made__law_field) a_nil))) (a_cons (e_mkx c x_Ambiguous g__law_made_Ambiguous (a_cons (e_var c v__law_made__law_field) (a_cons (e_var c v__law_made__law_field) a_nil))) (a_cons (e_mkx c x_NoMethod g__law_made_NoMethod (a_cons (e_var c v__law_made__law_field) a_nil)) (a_cons (e_mkx c x_NoNext g__law_made_NoNext (a_cons (e_var c v__law_made__law_field) a_nil)) a_nil)))))))
  (dss_cons (s_set c t__law_made__law_last (e_bin c (e_var c v__law_made__law_last) (e_lst (a_cons (e_mkx c x_Reentered g__law_made_Reentered (a_cons (e_var c v__law_made__law_field) a_nil)) (a_cons (e_mkx c x_InProgress g__law_made_InProgress (a_cons (e_var c v__law_made__law_field) a_nil)) a_nil)))))
  (dss_cons (s_set c t__law_made__law_stored (e_lst (a_cons (e_xfld c xf_name (e_get c (e_var c v__law_made__law_first) de_int)) (a_cons (e_xfld c xf_kind (e_get c (e_var c v__law_made__law_first) de_int)) (a_cons (e_xfld c xf_index (e_get c (e_var c v__law_made__law_first) de_int)) (a_cons (e_xfld c xf_name (e_get c (e_var c v__law_made__law_first) de_int)) (a_cons (e_xfld c xf_index (e_get c (e_var c v__law_made__law_first) de_int)) (a_cons (e_xfld c xf_value (e_get c (e_var c v__law_made__law_first) de_int)) a_nil))))))))
  (dss_cons (s_set c t__law_made__law_stored (e_bin c (e_var c v__law_made__law_stored) (e_lst (a_cons (e_xfld c xf_index (e_get c (e_var c v__law_made__law_first) de_int)) (a_cons (e_xfld c xf_value (e_get c (e_var c v__law_made__law_first) de_int)) (a_cons (e_xfld c xf_place (e_get c (e_var c v__law_made__law_first) de_int)) (a_cons (e_xfld c xf_index (e_get c (e_var c v__law_made__law_first) de_int)) (a_cons (e_xfld c xf_line (e_get c (e_var c v__law_made__law_first) de_int)) a_nil))))))))
  (dss_cons (s_set c t__law_made__law_stored (e_bin c (e_var c v__law_made__law_stored) (e_lst (a_cons (e_xfld c xf_most (e_get c (e_var c v__law_made__law_first) de_int)) (a_cons (e_xfld c xf_name (e_get c (e_var c v__law_made__law_first) de_int)) (a_cons (e_xfld c xf_name (e_get c (e_var c v__law_made__law_first) de_int)) (a_cons (e_xfld c xf_kind (e_get c (e_var c v__law_made__law_last) de_int)) (a_cons (e_xfld c xf_abstract (e_get c (e_var c v__law_made__law_last) de_int)) (a_cons (e_xfld c xf_part (e_get c (e_var c v__law_made__law_last) de_int)) a_nil)))))))))
  (dss_one (ds_ret (e_lst (a_cons (e_var c v__law_made__law_first) (a_cons (e_var c v__law_made__law_last) (a_cons (e_bin c (e_var c v__law_made__law_stored) (e_lst (a_cons (e_xfld c xf_wanted (e_get c (e_var c v__law_made__law_last) de_int)) (a_cons (e_xfld c xf_part (e_get c (e_var c v__law_made__law_last) de_int)) (a_cons (e_xfld c xf_key (e_get c (e_var c v__law_made__law_last) de_int)) (a_cons (e_xfld c xf_name (e_get c (e_var c v__law_made__law_last) de_int)) a_nil)))))) a_nil))))))))))))))
abbrev s__law_draw : Stmt := topS 26
abbrev N__law_draw : List Str := ["_law_source_here", "_law_limit", "_law_cell", "_law_count", "_law_mixed", "_law_drawn"]
theorem sc__law_draw : FnScope N__law_draw ["_law_source_here", "_law_limit"] (defScope s__law_draw) := ⟨rfl, rfl, rfl, by decide +kernel, rfl, by decide +kernel, by decide +kernel⟩
theorem v__law_draw__law_drawn : vB N__law_draw (defScope s__law_draw) 5 "_law_drawn" = true := by decide +kernel
theorem v__law_draw__law_source_here : vB N__law_draw (defScope s__law_draw) 0 "_law_source_here" = true := by decide +kernel
theorem v__law_draw__law_limit : vB N__law_draw (defScope s__law_draw) 1 "_law_limit" = true := by decide +kernel
theorem t__law_draw__law_drawn : tB' N__law_draw (defScope s__law_draw) allB 5 "_law_drawn" = true := by decide +kernel
theorem v__law_draw__law_cell : vB N__law_draw (defScope s__law_draw) 2 "_law_cell" = true := by decide +kernel
theorem g__law_draw_len : gB (defScope s__law_draw) "len" = true := by decide +kernel
theorem v__law_draw__law_mixed : vB N__law_draw (defScope s__law_draw) 4 "_law_mixed" = true := by decide +kernel
theorem v__law_draw__law_count : vB N__law_draw (defScope s__law_draw) 3 "_law_count" = true := by decide +kernel
theorem t__law_draw__law_mixed : tB' N__law_draw (defScope s__law_draw) allB 4 "_law_mixed" = true := by decide +kernel
theorem t__law_draw__law_count : tB' N__law_draw (defScope s__law_draw) allB 3 "_law_count" = true := by decide +kernel
theorem t__law_draw__law_cell : tB' N__law_draw (defScope s__law_draw) allB 2 "_law_cell" = true := by decide +kernel
theorem b__law_draw {G : Pg} {k : Nat} {X : Cx}  (c : Ct G k N__law_draw (defScope s__law_draw) allB X) : DSs X (defBody s__law_draw) m__law_draw :=
  (dss_cons (ds_if (t_cmp c (e_get c (e_var c v__law_draw__law_source_here) de_str) de_int)
  (dss_cons (s_set c t__law_draw__law_cell (e_get c (e_get c (e_var c v__law_draw__law_source_here) de_str) (e_bin c (e_get c (e_var c v__law_draw__law_source_here) de_str) (e_len c (a_cons (e_get c (e_var c v__law_draw__law_source_here) de_str) a_nil) g__law_draw_len))))
  (dss_cons (s_asg (e_bin c (e_get c (e_var c v__law_draw__law_source_here) de_str) de_int) (g_sub c (e_var c v__law_draw__law_source_here) de_str) rfl)
  (dss_one (ds_if (DW.dt (dw_and (t_cmp c (e_var c v__law_draw__law_cell) (e_bin c de_int de_int)) (dw_and1 (t_cmp c (e_get c (e_var c v__law_draw__law_source_here) de_str) (e_len c (a_cons (e_get c (e_var c v__law_draw__law_source_here) de_str) a_nil) g__law_draw_len)))))
  (dss_one (s_asg (e_var c v__law_draw__law_cell) (g_sub c (e_var c v__law_draw__law_source_here) de_str) rfl))
  (dss_cons (s_set c t__law_draw__law_count (e_bin c (e_get c (e_var c v__law_draw__law_source_here) de_str) de_int))
  (dss_cons (s_asg (e_var c v__law_draw__law_count) (g_sub c (e_var c v__law_draw__law_source_here) de_str) rfl)
  (dss_cons (s_set c t__law_draw__law_mixed (e_bin c (e_bin c (e_bin c (e_bin c (e_var c v__law_draw__law_cell) de_int) (e_bin c de_int (e_var c v__law_draw__law_count))) (e_bin c (e_bin c (e_var c v__law_draw__law_count) (e_var c v__law_draw__law_count)) de_int)) de_int))
  (dss_cons (s_asg (e_bin c (e_bin c (e_bin c (e_var c v__law_draw__law_mixed) de_int) de_int) de_int) (g_sub c (e_var c v__law_draw__law_source_here) de_str) rfl)
  (dss_one (s_asg (e_bin c (e_bin c (e_get c (e_var c v__law_draw__law_source_here) de_str) (e_bin c (e_bin c (e_var c v__law_draw__law_mixed) (e_var c v__law_draw__law_mixed)) de_int)) de_int) (g_sub c (e_var c v__law_draw__law_source_here) de_str) rfl))))))))))
  dss_nil)
  (dss_cons (s_set c t__law_draw__law_drawn (e_bin c (e_get c (e_var c v__law_draw__law_source_here) de_str) (e_var c v__law_draw__law_limit)))
  (dss_cons (s_asg (e_bin c (e_get c (e_var c v__law_draw__law_source_here) de_str) (e_var c v__law_draw__law_limit)) (g_sub c (e_var c v__law_draw__law_source_here) de_str) rfl)
  (dss_one (ds_ret (e_var c v__law_draw__law_drawn))))))
abbrev s__law_pick : Stmt := topS 27
abbrev N__law_pick : List Str := ["_law_source_here", "_law_items"]
theorem sc__law_pick : FnScope N__law_pick ["_law_source_here", "_law_items"] (defScope s__law_pick) := ⟨rfl, rfl, rfl, by decide +kernel, rfl, by decide +kernel, by decide +kernel⟩
theorem v__law_pick__law_items : vB N__law_pick (defScope s__law_pick) 1 "_law_items" = true := by decide +kernel
theorem g__law_pick_len : gB (defScope s__law_pick) "len" = true := by decide +kernel
theorem v__law_pick__law_source_here : vB N__law_pick (defScope s__law_pick) 0 "_law_source_here" = true := by decide +kernel
theorem g__law_pick__law_draw : gB (defScope s__law_pick) "_law_draw" = true := by decide +kernel
theorem b__law_pick {G : Pg} {k : Nat} {X : Cx} (h__law_draw_2 : CO G k ⟨"_law_draw", 2, []⟩ f__law_draw_2) (c : Ct G k N__law_pick (defScope s__law_pick) allB X) : DSs X (defBody s__law_pick) m__law_pick :=
  (dss_one (ds_ret (e_get c (e_var c v__law_pick__law_items) (e_callP c h__law_draw_2 g__law_pick__law_draw (a_cons (e_var c v__law_pick__law_source_here) (a_cons (e_len c (a_cons (e_var c v__law_pick__law_items) a_nil) g__law_pick_len) a_nil))))))
abbrev s__law_source : Stmt := topS 25
abbrev N__law_source : List Str := ["_law_script"]
theorem sc__law_source : FnScope N__law_source ["_law_script"] (defScope s__law_source) := ⟨rfl, rfl, rfl, by decide +kernel, rfl, by decide +kernel, by decide +kernel⟩
theorem v__law_source__law_script : vB N__law_source (defScope s__law_source) 0 "_law_script" = true := by decide +kernel
theorem g__law_source_len : gB (defScope s__law_source) "len" = true := by decide +kernel
theorem b__law_source {G : Pg} {k : Nat} {X : Cx}  (c : Ct G k N__law_source (defScope s__law_source) allB X) : DSs X (defBody s__law_source) m__law_source :=
  (dss_one (ds_ret (e_dict (dp_cons de_str (e_bin c (e_var c v__law_source__law_script) (e_lst (a_cons (e_len c (a_cons (e_var c v__law_source__law_script) a_nil) g__law_source_len) a_nil))) (dp_cons de_str de_int (dp_cons de_str de_int (dp_cons de_str de_int dp_nil)))))))
abbrev s_law : Stmt := topS 31
abbrev N_law : List Str := ["_law_script", "_law_source_here", "_law_turn", "_law_field", "_law_two", "_law_first", "_law_last", "_law_stored"]
theorem sc_law : FnScope N_law ["_law_script"] (defScope s_law) := ⟨rfl, rfl, rfl, by decide +kernel, rfl, by decide +kernel, by decide +kernel⟩
theorem g_law_range : gB (defScope s_law) "range" = true := by decide +kernel
theorem t_law__law_turn : tB' N_law (defScope s_law) allB 2 "_law_turn" = true := by decide +kernel
theorem v_law__law_two : vB N_law (defScope s_law) 4 "_law_two" = true := by decide +kernel
theorem g_law_repr : gB (defScope s_law) "repr" = true := by decide +kernel
theorem v_law__law_field : vB N_law (defScope s_law) 3 "_law_field" = true := by decide +kernel
theorem g_law_Ambiguous : gB (defScope s_law) "Ambiguous" = true := by decide +kernel
theorem g_law_WouldLoop : gB (defScope s_law) "WouldLoop" = true := by decide +kernel
theorem t_law__law_two : tB' N_law (defScope s_law) allB 4 "_law_two" = true := by decide +kernel
theorem v_law__law_last : vB N_law (defScope s_law) 6 "_law_last" = true := by decide +kernel
theorem v_law__law_stored : vB N_law (defScope s_law) 7 "_law_stored" = true := by decide +kernel
theorem v_law__law_first : vB N_law (defScope s_law) 5 "_law_first" = true := by decide +kernel
theorem g_law__law_families_right : gB (defScope s_law) "_law_families_right" = true := by decide +kernel
theorem g_law_list : gB (defScope s_law) "list" = true := by decide +kernel
theorem g_law_isinstance : gB (defScope s_law) "isinstance" = true := by decide +kernel
theorem g_law_len : gB (defScope s_law) "len" = true := by decide +kernel
theorem g_law__law_made : gB (defScope s_law) "_law_made" = true := by decide +kernel
theorem t_law__law_stored : tB' N_law (defScope s_law) allB 7 "_law_stored" = true := by decide +kernel
theorem t_law__law_last : tB' N_law (defScope s_law) allB 6 "_law_last" = true := by decide +kernel
theorem t_law__law_first : tB' N_law (defScope s_law) allB 5 "_law_first" = true := by decide +kernel
theorem v_law__law_source_here : vB N_law (defScope s_law) 1 "_law_source_here" = true := by decide +kernel
theorem g_law__law_pick : gB (defScope s_law) "_law_pick" = true := by decide +kernel
theorem t_law__law_field : tB' N_law (defScope s_law) allB 3 "_law_field" = true := by decide +kernel
theorem v_law__law_script : vB N_law (defScope s_law) 0 "_law_script" = true := by decide +kernel
theorem g_law__law_source : gB (defScope s_law) "_law_source" = true := by decide +kernel
theorem t_law__law_source_here : tB' N_law (defScope s_law) allB 1 "_law_source_here" = true := by decide +kernel
theorem b_law {G : Pg} {k : Nat} {X : Cx} (h__law_families_right_2 : CO G k ⟨"_law_families_right", 2, []⟩ f__law_families_right_2) (h__law_made_1 : CO G k ⟨"_law_made", 1, []⟩ f__law_made_1) (h__law_pick_2 : CO G k ⟨"_law_pick", 2, []⟩ f__law_pick_2) (h__law_source_1 : CO G k ⟨"_law_source", 1, []⟩ f__law_source_1) (xf_part : XFOk G.K cs_part "part") (xf_abstract : XFOk G.K cs_abstract "abstract") (xf_tied : XFOk G.K cs_tied "tied") (xf_kind : XFOk G.K cs_kind "kind") (sm : SMod G.K) (x_Ambiguous : CX G k "Ambiguous" ["part", "tied"]) (x_WouldLoop : CX G k "WouldLoop" ["abstract", "kind"]) (isx : IsxOk G.K tbX usX bsX) (c : Ct G k N_law (defScope s_law) allB X) : DSs X (defBody s_law) m_law :=
  (dss_cons (s_set c t_law__law_source_here (e_callP c h__law_source_1 g_law__law_source (a_cons (e_var c v_law__law_script) a_nil)))
  (dss_cons (s_for c (i_range1 c g_law_range (a_cons de_int a_nil)) (g_nm c t_law__law_turn)
  (dss_cons (s_set c t_law__law_field (e_callP c h__law_pick_2 g_law__law_pick (a_cons (e_var c v_law__law_source_here) (a_cons (e_lst (a_cons de_int (a_cons de_int (a_cons (e_neg de_int) (a_cons (e_bin c de_int de_int) (a_cons de_non (a_cons de_str (a_cons de_str (a_cons (e_tup a_nil) (a_cons (e_tup (a_cons de_int (a_cons de_int a_nil))) (a_cons (e_lst (a_cons de_int a_nil)) (a_cons de_edict (a_cons de_bl a_nil))))))))))))) a_nil))))
  (dss_cons (s_asg (e_callP c h__law_made_1 g_law__law_made (a_cons (e_var c v_law__law_field) a_nil)) (g_tup c (gs_cons (g_nm c t_law__law_first) (gs_cons (g_nm c t_law__law_last) (gs_cons (g_nm c t_law__law_stored) gs_nil)))) rfl)
  (dss_cons (ds_if (t_val (e_isx c isx (a_cons (e_var c v_law__law_field) (a_cons (e_ty c "list" (by decide) (by decide +kernel) (by decide) g_law_list) a_nil)) g_law_isinstance))
  (dss_one (s_expr (e_append (e_var c v_law__law_field) (a_cons (e_len c (a_cons (e_var c v_law__law_field) a_nil) g_law_len) a_nil))))
  dss_nil)
  (dss_cons (ds_if (DW.dt (dw_or (t_cmp c (e_reprD c sm (a_cons (e_var c v_law__law_stored) a_nil) g_law_repr) (e_reprD c sm (a_cons (e_bin c (e_lst (a_cons (e_var c v_law__law_field) a_nil)) de_int) a_nil) g_law_repr)) (dw_or1 (dt_not (t_val (e_callP c h__law_families_right_2 g_law__law_families_right (a_cons (e_var c v_law__law_first) (a_cons (e_var c v_law__law_last) a_nil))))))))
  (dss_one (ds_ret de_bl))
  dss_nil)
  (dss_cons (ds_if (t_cmp c (e_reprD c sm (a_cons (e_lst (a_cons (e_xfld c xf_kind (e_get c (e_var c v_law__law_last) de_int)) (a_cons (e_xfld c xf_tied (e_get c (e_var c v_law__law_last) de_int)) a_nil))) a_nil) g_law_repr) (e_reprD c sm (a_cons (e_bin c (e_lst (a_cons (e_var c v_law__law_field) a_nil)) de_int) a_nil) g_law_repr))
  (dss_one (ds_ret de_bl))
  dss_nil)
  (dss_cons (s_set c t_law__law_two (e_lst (a_cons (e_mkx c x_WouldLoop g_law_WouldLoop (a_cons de_str (a_cons (e_var c v_law__law_field) a_nil))) (a_cons (e_mkx c x_Ambiguous g_law_Ambiguous (a_cons de_str (a_cons (e_var c v_law__law_field) a_nil))) a_nil))))
  (dss_one (ds_if (DW.dt (dw_or (t_cmp c (e_lst (a_cons (e_xfld c xf_abstract (e_get c (e_var c v_law__law_two) de_int)) (a_cons (e_xfld c xf_part (e_get c (e_var c v_law__law_two) de_int)) a_nil))) (e_lst (a_cons de_str (a_cons de_str a_nil)))) (dw_or1 (t_cmp c (e_reprD c sm (a_cons (e_lst (a_cons (e_xfld c xf_kind (e_get c (e_var c v_law__law_two) de_int)) (a_cons (e_xfld c xf_tied (e_get c (e_var c v_law__law_two) de_int)) a_nil))) a_nil) g_law_repr) (e_reprD c sm (a_cons (e_bin c (e_lst (a_cons (e_var c v_law__law_field) a_nil)) de_int) a_nil) g_law_repr)))))
  (dss_one (ds_ret de_bl))
  dss_nil)))))))))
  (dss_one (ds_ret de_bl))))
structure Fx (G : Pg) : Prop where
  bl : ∀ x ∈ bltL, G.mg x = none
  mg_WorldError : MG G "WorldError"
  mg_DispatchError : MG G "DispatchError"
  mg_InvalidName : MG G "InvalidName"
  mg_UnknownKind : MG G "UnknownKind"
  mg_InvalidParents : MG G "InvalidParents"
  mg_NoOrder : MG G "NoOrder"
  mg_InvalidSignature : MG G "InvalidSignature"
  mg_InvalidRole : MG G "InvalidRole"
  mg_InvalidItems : MG G "InvalidItems"
  mg_InvalidLimit : MG G "InvalidLimit"
  mg_InvalidArgument : MG G "InvalidArgument"
  mg_InvalidRow : MG G "InvalidRow"
  mg_InvalidText : MG G "InvalidText"
  mg_TooMany : MG G "TooMany"
  mg_UnknownCell : MG G "UnknownCell"
  mg_UnknownRule : MG G "UnknownRule"
  mg_NotAbstract : MG G "NotAbstract"
  mg_WouldLoop : MG G "WouldLoop"
  mg_Ambiguous : MG G "Ambiguous"
  mg_NoMethod : MG G "NoMethod"
  mg_NoNext : MG G "NoNext"
  mg_Reentered : MG G "Reentered"
  mg_InProgress : MG G "InProgress"
  sm : SMod G.K
  isx : IsxOk G.K tbX usX bsX
  xf_part : XFOk G.K cs_part "part"
  xf_abstract : XFOk G.K cs_abstract "abstract"
  xf_tied : XFOk G.K cs_tied "tied"
  xf_kind : XFOk G.K cs_kind "kind"
  xf_name : XFOk G.K cs_name "name"
  xf_key : XFOk G.K cs_key "key"
  xf_wanted : XFOk G.K cs_wanted "wanted"
  xf_most : XFOk G.K cs_most "most"
  xf_line : XFOk G.K cs_line "line"
  xf_index : XFOk G.K cs_index "index"
  xf_place : XFOk G.K cs_place "place"
  xf_value : XFOk G.K cs_value "value"
  xd_InvalidName : XD G.K "InvalidName" "WorldError" xbV ["name"]
  xi_InvalidName : ∃ fd, FunD G.K "__init__" "InvalidName.__init__" (defArgs (inClass (topS 3) 0)) (defBody (inClass (topS 3) 0)) (defScope (inClass (topS 3) 0)) [] [] (He.ma G.K (He.ga G.K "InvalidName") "__init__") fd
  xd_UnknownKind : XD G.K "UnknownKind" "WorldError" xbV ["kind"]
  xi_UnknownKind : ∃ fd, FunD G.K "__init__" "UnknownKind.__init__" (defArgs (inClass (topS 4) 0)) (defBody (inClass (topS 4) 0)) (defScope (inClass (topS 4) 0)) [] [] (He.ma G.K (He.ga G.K "UnknownKind") "__init__") fd
  xd_InvalidParents : XD G.K "InvalidParents" "WorldError" xbV ["index"]
  xi_InvalidParents : ∃ fd, FunD G.K "__init__" "InvalidParents.__init__" (defArgs (inClass (topS 5) 0)) (defBody (inClass (topS 5) 0)) (defScope (inClass (topS 5) 0)) [] [] (He.ma G.K (He.ga G.K "InvalidParents") "__init__") fd
  xd_NoOrder : XD G.K "NoOrder" "WorldError" xbV ["name"]
  xi_NoOrder : ∃ fd, FunD G.K "__init__" "NoOrder.__init__" (defArgs (inClass (topS 6) 0)) (defBody (inClass (topS 6) 0)) (defScope (inClass (topS 6) 0)) [] [] (He.ma G.K (He.ga G.K "NoOrder") "__init__") fd
  xd_InvalidSignature : XD G.K "InvalidSignature" "WorldError" xbV ["index"]
  xi_InvalidSignature : ∃ fd, FunD G.K "__init__" "InvalidSignature.__init__" (defArgs (inClass (topS 7) 0)) (defBody (inClass (topS 7) 0)) (defScope (inClass (topS 7) 0)) [] [] (He.ma G.K (He.ga G.K "InvalidSignature") "__init__") fd
  xd_InvalidRole : XD G.K "InvalidRole" "WorldError" xbV ["value"]
  xi_InvalidRole : ∃ fd, FunD G.K "__init__" "InvalidRole.__init__" (defArgs (inClass (topS 8) 0)) (defBody (inClass (topS 8) 0)) (defScope (inClass (topS 8) 0)) [] [] (He.ma G.K (He.ga G.K "InvalidRole") "__init__") fd
  xd_InvalidItems : XD G.K "InvalidItems" "WorldError" xbV ["index"]
  xi_InvalidItems : ∃ fd, FunD G.K "__init__" "InvalidItems.__init__" (defArgs (inClass (topS 9) 0)) (defBody (inClass (topS 9) 0)) (defScope (inClass (topS 9) 0)) [] [] (He.ma G.K (He.ga G.K "InvalidItems") "__init__") fd
  xd_InvalidLimit : XD G.K "InvalidLimit" "WorldError" xbV ["value"]
  xi_InvalidLimit : ∃ fd, FunD G.K "__init__" "InvalidLimit.__init__" (defArgs (inClass (topS 10) 0)) (defBody (inClass (topS 10) 0)) (defScope (inClass (topS 10) 0)) [] [] (He.ma G.K (He.ga G.K "InvalidLimit") "__init__") fd
  xd_InvalidArgument : XD G.K "InvalidArgument" "WorldError" xbV ["place"]
  xi_InvalidArgument : ∃ fd, FunD G.K "__init__" "InvalidArgument.__init__" (defArgs (inClass (topS 11) 0)) (defBody (inClass (topS 11) 0)) (defScope (inClass (topS 11) 0)) [] [] (He.ma G.K (He.ga G.K "InvalidArgument") "__init__") fd
  xd_InvalidRow : XD G.K "InvalidRow" "WorldError" xbV ["index"]
  xi_InvalidRow : ∃ fd, FunD G.K "__init__" "InvalidRow.__init__" (defArgs (inClass (topS 12) 0)) (defBody (inClass (topS 12) 0)) (defScope (inClass (topS 12) 0)) [] [] (He.ma G.K (He.ga G.K "InvalidRow") "__init__") fd
  xd_InvalidText : XD G.K "InvalidText" "WorldError" xbV ["line"]
  xi_InvalidText : ∃ fd, FunD G.K "__init__" "InvalidText.__init__" (defArgs (inClass (topS 13) 0)) (defBody (inClass (topS 13) 0)) (defScope (inClass (topS 13) 0)) [] [] (He.ma G.K (He.ga G.K "InvalidText") "__init__") fd
  xd_TooMany : XD G.K "TooMany" "WorldError" xbV ["most"]
  xi_TooMany : ∃ fd, FunD G.K "__init__" "TooMany.__init__" (defArgs (inClass (topS 14) 0)) (defBody (inClass (topS 14) 0)) (defScope (inClass (topS 14) 0)) [] [] (He.ma G.K (He.ga G.K "TooMany") "__init__") fd
  xd_UnknownCell : XD G.K "UnknownCell" "WorldError" xbV ["name"]
  xi_UnknownCell : ∃ fd, FunD G.K "__init__" "UnknownCell.__init__" (defArgs (inClass (topS 15) 0)) (defBody (inClass (topS 15) 0)) (defScope (inClass (topS 15) 0)) [] [] (He.ma G.K (He.ga G.K "UnknownCell") "__init__") fd
  xd_UnknownRule : XD G.K "UnknownRule" "WorldError" xbV ["name"]
  xi_UnknownRule : ∃ fd, FunD G.K "__init__" "UnknownRule.__init__" (defArgs (inClass (topS 16) 0)) (defBody (inClass (topS 16) 0)) (defScope (inClass (topS 16) 0)) [] [] (He.ma G.K (He.ga G.K "UnknownRule") "__init__") fd
  xd_NotAbstract : XD G.K "NotAbstract" "DispatchError" xbR ["kind"]
  xi_NotAbstract : ∃ fd, FunD G.K "__init__" "NotAbstract.__init__" (defArgs (inClass (topS 17) 0)) (defBody (inClass (topS 17) 0)) (defScope (inClass (topS 17) 0)) [] [] (He.ma G.K (He.ga G.K "NotAbstract") "__init__") fd
  xd_WouldLoop : XD G.K "WouldLoop" "DispatchError" xbR ["abstract", "kind"]
  xi_WouldLoop : ∃ fd, FunD G.K "__init__" "WouldLoop.__init__" (defArgs (inClass (topS 18) 0)) (defBody (inClass (topS 18) 0)) (defScope (inClass (topS 18) 0)) [] [] (He.ma G.K (He.ga G.K "WouldLoop") "__init__") fd
  xd_Ambiguous : XD G.K "Ambiguous" "DispatchError" xbR ["part", "tied"]
  xi_Ambiguous : ∃ fd, FunD G.K "__init__" "Ambiguous.__init__" (defArgs (inClass (topS 19) 0)) (defBody (inClass (topS 19) 0)) (defScope (inClass (topS 19) 0)) [] [] (He.ma G.K (He.ga G.K "Ambiguous") "__init__") fd
  xd_NoMethod : XD G.K "NoMethod" "DispatchError" xbR ["wanted"]
  xi_NoMethod : ∃ fd, FunD G.K "__init__" "NoMethod.__init__" (defArgs (inClass (topS 20) 0)) (defBody (inClass (topS 20) 0)) (defScope (inClass (topS 20) 0)) [] [] (He.ma G.K (He.ga G.K "NoMethod") "__init__") fd
  xd_NoNext : XD G.K "NoNext" "DispatchError" xbR ["part"]
  xi_NoNext : ∃ fd, FunD G.K "__init__" "NoNext.__init__" (defArgs (inClass (topS 21) 0)) (defBody (inClass (topS 21) 0)) (defScope (inClass (topS 21) 0)) [] [] (He.ma G.K (He.ga G.K "NoNext") "__init__") fd
  xd_Reentered : XD G.K "Reentered" "DispatchError" xbR ["key"]
  xi_Reentered : ∃ fd, FunD G.K "__init__" "Reentered.__init__" (defArgs (inClass (topS 22) 0)) (defBody (inClass (topS 22) 0)) (defScope (inClass (topS 22) 0)) [] [] (He.ma G.K (He.ga G.K "Reentered") "__init__") fd
  xd_InProgress : XD G.K "InProgress" "DispatchError" xbR ["name"]
  xi_InProgress : ∃ fd, FunD G.K "__init__" "InProgress.__init__" (defArgs (inClass (topS 23) 0)) (defBody (inClass (topS 23) 0)) (defScope (inClass (topS 23) 0)) [] [] (He.ma G.K (He.ga G.K "InProgress") "__init__") fd
  d__law_kinds : ∃ f fd, FunD G.K "_law_kinds" "_law_kinds" (defArgs s__law_kinds) (defBody s__law_kinds) (defScope s__law_kinds) [] [] f fd ∧ G.mg "_law_kinds" = some (.ref f)
  d__law_families_right : ∃ f fd, FunD G.K "_law_families_right" "_law_families_right" (defArgs s__law_families_right) (defBody s__law_families_right) (defScope s__law_families_right) [] [] f fd ∧ G.mg "_law_families_right" = some (.ref f)
  d__law_made : ∃ f fd, FunD G.K "_law_made" "_law_made" (defArgs s__law_made) (defBody s__law_made) (defScope s__law_made) [] [] f fd ∧ G.mg "_law_made" = some (.ref f)
  d__law_draw : ∃ f fd, FunD G.K "_law_draw" "_law_draw" (defArgs s__law_draw) (defBody s__law_draw) (defScope s__law_draw) [] [] f fd ∧ G.mg "_law_draw" = some (.ref f)
  d__law_pick : ∃ f fd, FunD G.K "_law_pick" "_law_pick" (defArgs s__law_pick) (defBody s__law_pick) (defScope s__law_pick) [] [] f fd ∧ G.mg "_law_pick" = some (.ref f)
  d__law_source : ∃ f fd, FunD G.K "_law_source" "_law_source" (defArgs s__law_source) (defBody s__law_source) (defScope s__law_source) [] [] f fd ∧ G.mg "_law_source" = some (.ref f)
  d_law : ∃ f fd, FunD G.K "law" "law" (defArgs s_law) (defBody s_law) (defScope s_law) [] [] f fd ∧ G.mg "law" = some (.ref f)
theorem sx_InvalidName : FnScope ["self", "name"] ["self", "name"] (defScope (inClass (topS 3) 0)) := ⟨rfl, rfl, rfl, by decide +kernel, rfl, by decide +kernel, by decide +kernel⟩
theorem cx_InvalidName {G : Pg} (F : Fx G) (k : Nat) : CX G (k + 2) "InvalidName" ["name"] := by
  obtain ⟨fd, F0⟩ := F.xi_InvalidName
  exact ⟨k + 1, rfl, xok1 k F.xd_InvalidName F.mg_InvalidName F.mg_WorldError F0 rfl (fun env => ⟨_, rfl⟩) sx_InvalidName (by decide +kernel) (by decide +kernel) (by decide +kernel) (fun _ _ _ _ _ _ us h => match us, h with | [_, _], _ => rfl)⟩
theorem sx_UnknownKind : FnScope ["self", "kind"] ["self", "kind"] (defScope (inClass (topS 4) 0)) := ⟨rfl, rfl, rfl, by decide +kernel, rfl, by decide +kernel, by decide +kernel⟩
theorem cx_UnknownKind {G : Pg} (F : Fx G) (k : Nat) : CX G (k + 2) "UnknownKind" ["kind"] := by
  obtain ⟨fd, F0⟩ := F.xi_UnknownKind
  exact ⟨k + 1, rfl, xok1 k F.xd_UnknownKind F.mg_UnknownKind F.mg_WorldError F0 rfl (fun env => ⟨_, rfl⟩) sx_UnknownKind (by decide +kernel) (by decide +kernel) (by decide +kernel) (fun _ _ _ _ _ _ us h => match us, h with | [_, _], _ => rfl)⟩
theorem sx_InvalidParents : FnScope ["self", "index"] ["self", "index"] (defScope (inClass (topS 5) 0)) := ⟨rfl, rfl, rfl, by decide +kernel, rfl, by decide +kernel, by decide +kernel⟩
theorem cx_InvalidParents {G : Pg} (F : Fx G) (k : Nat) : CX G (k + 2) "InvalidParents" ["index"] := by
  obtain ⟨fd, F0⟩ := F.xi_InvalidParents
  exact ⟨k + 1, rfl, xok1 k F.xd_InvalidParents F.mg_InvalidParents F.mg_WorldError F0 rfl (fun env => ⟨_, rfl⟩) sx_InvalidParents (by decide +kernel) (by decide +kernel) (by decide +kernel) (fun _ _ _ _ _ _ us h => match us, h with | [_, _], _ => rfl)⟩
theorem sx_NoOrder : FnScope ["self", "name"] ["self", "name"] (defScope (inClass (topS 6) 0)) := ⟨rfl, rfl, rfl, by decide +kernel, rfl, by decide +kernel, by decide +kernel⟩
theorem cx_NoOrder {G : Pg} (F : Fx G) (k : Nat) : CX G (k + 2) "NoOrder" ["name"] := by
  obtain ⟨fd, F0⟩ := F.xi_NoOrder
  exact ⟨k + 1, rfl, xok1 k F.xd_NoOrder F.mg_NoOrder F.mg_WorldError F0 rfl (fun env => ⟨_, rfl⟩) sx_NoOrder (by decide +kernel) (by decide +kernel) (by decide +kernel) (fun _ _ _ _ _ _ us h => match us, h with | [_, _], _ => rfl)⟩
theorem sx_InvalidSignature : FnScope ["self", "index"] ["self", "index"] (defScope (inClass (topS 7) 0)) := ⟨rfl, rfl, rfl, by decide +kernel, rfl, by decide +kernel, by decide +kernel⟩
theorem cx_InvalidSignature {G : Pg} (F : Fx G) (k : Nat) : CX G (k + 2) "InvalidSignature" ["index"] := by
  obtain ⟨fd, F0⟩ := F.xi_InvalidSignature
  exact ⟨k + 1, rfl, xok1 k F.xd_InvalidSignature F.mg_InvalidSignature F.mg_WorldError F0 rfl (fun env => ⟨_, rfl⟩) sx_InvalidSignature (by decide +kernel) (by decide +kernel) (by decide +kernel) (fun _ _ _ _ _ _ us h => match us, h with | [_, _], _ => rfl)⟩
theorem sx_InvalidRole : FnScope ["self", "value"] ["self", "value"] (defScope (inClass (topS 8) 0)) := ⟨rfl, rfl, rfl, by decide +kernel, rfl, by decide +kernel, by decide +kernel⟩
theorem cx_InvalidRole {G : Pg} (F : Fx G) (k : Nat) : CX G (k + 2) "InvalidRole" ["value"] := by
  obtain ⟨fd, F0⟩ := F.xi_InvalidRole
  exact ⟨k + 1, rfl, xok1 k F.xd_InvalidRole F.mg_InvalidRole F.mg_WorldError F0 rfl (fun env => ⟨_, rfl⟩) sx_InvalidRole (by decide +kernel) (by decide +kernel) (by decide +kernel) (fun _ _ _ _ _ _ us h => match us, h with | [_, _], _ => rfl)⟩
theorem sx_InvalidItems : FnScope ["self", "index"] ["self", "index"] (defScope (inClass (topS 9) 0)) := ⟨rfl, rfl, rfl, by decide +kernel, rfl, by decide +kernel, by decide +kernel⟩
theorem cx_InvalidItems {G : Pg} (F : Fx G) (k : Nat) : CX G (k + 2) "InvalidItems" ["index"] := by
  obtain ⟨fd, F0⟩ := F.xi_InvalidItems
  exact ⟨k + 1, rfl, xok1 k F.xd_InvalidItems F.mg_InvalidItems F.mg_WorldError F0 rfl (fun env => ⟨_, rfl⟩) sx_InvalidItems (by decide +kernel) (by decide +kernel) (by decide +kernel) (fun _ _ _ _ _ _ us h => match us, h with | [_, _], _ => rfl)⟩
theorem sx_InvalidLimit : FnScope ["self", "value"] ["self", "value"] (defScope (inClass (topS 10) 0)) := ⟨rfl, rfl, rfl, by decide +kernel, rfl, by decide +kernel, by decide +kernel⟩
theorem cx_InvalidLimit {G : Pg} (F : Fx G) (k : Nat) : CX G (k + 2) "InvalidLimit" ["value"] := by
  obtain ⟨fd, F0⟩ := F.xi_InvalidLimit
  exact ⟨k + 1, rfl, xok1 k F.xd_InvalidLimit F.mg_InvalidLimit F.mg_WorldError F0 rfl (fun env => ⟨_, rfl⟩) sx_InvalidLimit (by decide +kernel) (by decide +kernel) (by decide +kernel) (fun _ _ _ _ _ _ us h => match us, h with | [_, _], _ => rfl)⟩
theorem sx_InvalidArgument : FnScope ["self", "place"] ["self", "place"] (defScope (inClass (topS 11) 0)) := ⟨rfl, rfl, rfl, by decide +kernel, rfl, by decide +kernel, by decide +kernel⟩
theorem cx_InvalidArgument {G : Pg} (F : Fx G) (k : Nat) : CX G (k + 2) "InvalidArgument" ["place"] := by
  obtain ⟨fd, F0⟩ := F.xi_InvalidArgument
  exact ⟨k + 1, rfl, xok1 k F.xd_InvalidArgument F.mg_InvalidArgument F.mg_WorldError F0 rfl (fun env => ⟨_, rfl⟩) sx_InvalidArgument (by decide +kernel) (by decide +kernel) (by decide +kernel) (fun _ _ _ _ _ _ us h => match us, h with | [_, _], _ => rfl)⟩
theorem sx_InvalidRow : FnScope ["self", "index"] ["self", "index"] (defScope (inClass (topS 12) 0)) := ⟨rfl, rfl, rfl, by decide +kernel, rfl, by decide +kernel, by decide +kernel⟩
theorem cx_InvalidRow {G : Pg} (F : Fx G) (k : Nat) : CX G (k + 2) "InvalidRow" ["index"] := by
  obtain ⟨fd, F0⟩ := F.xi_InvalidRow
  exact ⟨k + 1, rfl, xok1 k F.xd_InvalidRow F.mg_InvalidRow F.mg_WorldError F0 rfl (fun env => ⟨_, rfl⟩) sx_InvalidRow (by decide +kernel) (by decide +kernel) (by decide +kernel) (fun _ _ _ _ _ _ us h => match us, h with | [_, _], _ => rfl)⟩
theorem sx_InvalidText : FnScope ["self", "line"] ["self", "line"] (defScope (inClass (topS 13) 0)) := ⟨rfl, rfl, rfl, by decide +kernel, rfl, by decide +kernel, by decide +kernel⟩
theorem cx_InvalidText {G : Pg} (F : Fx G) (k : Nat) : CX G (k + 2) "InvalidText" ["line"] := by
  obtain ⟨fd, F0⟩ := F.xi_InvalidText
  exact ⟨k + 1, rfl, xok1 k F.xd_InvalidText F.mg_InvalidText F.mg_WorldError F0 rfl (fun env => ⟨_, rfl⟩) sx_InvalidText (by decide +kernel) (by decide +kernel) (by decide +kernel) (fun _ _ _ _ _ _ us h => match us, h with | [_, _], _ => rfl)⟩
theorem sx_TooMany : FnScope ["self", "most"] ["self", "most"] (defScope (inClass (topS 14) 0)) := ⟨rfl, rfl, rfl, by decide +kernel, rfl, by decide +kernel, by decide +kernel⟩
theorem cx_TooMany {G : Pg} (F : Fx G) (k : Nat) : CX G (k + 2) "TooMany" ["most"] := by
  obtain ⟨fd, F0⟩ := F.xi_TooMany
  exact ⟨k + 1, rfl, xok1 k F.xd_TooMany F.mg_TooMany F.mg_WorldError F0 rfl (fun env => ⟨_, rfl⟩) sx_TooMany (by decide +kernel) (by decide +kernel) (by decide +kernel) (fun _ _ _ _ _ _ us h => match us, h with | [_, _], _ => rfl)⟩
theorem sx_UnknownCell : FnScope ["self", "name"] ["self", "name"] (defScope (inClass (topS 15) 0)) := ⟨rfl, rfl, rfl, by decide +kernel, rfl, by decide +kernel, by decide +kernel⟩
theorem cx_UnknownCell {G : Pg} (F : Fx G) (k : Nat) : CX G (k + 2) "UnknownCell" ["name"] := by
  obtain ⟨fd, F0⟩ := F.xi_UnknownCell
  exact ⟨k + 1, rfl, xok1 k F.xd_UnknownCell F.mg_UnknownCell F.mg_WorldError F0 rfl (fun env => ⟨_, rfl⟩) sx_UnknownCell (by decide +kernel) (by decide +kernel) (by decide +kernel) (fun _ _ _ _ _ _ us h => match us, h with | [_, _], _ => rfl)⟩
theorem sx_UnknownRule : FnScope ["self", "name"] ["self", "name"] (defScope (inClass (topS 16) 0)) := ⟨rfl, rfl, rfl, by decide +kernel, rfl, by decide +kernel, by decide +kernel⟩
theorem cx_UnknownRule {G : Pg} (F : Fx G) (k : Nat) : CX G (k + 2) "UnknownRule" ["name"] := by
  obtain ⟨fd, F0⟩ := F.xi_UnknownRule
  exact ⟨k + 1, rfl, xok1 k F.xd_UnknownRule F.mg_UnknownRule F.mg_WorldError F0 rfl (fun env => ⟨_, rfl⟩) sx_UnknownRule (by decide +kernel) (by decide +kernel) (by decide +kernel) (fun _ _ _ _ _ _ us h => match us, h with | [_, _], _ => rfl)⟩
theorem sx_NotAbstract : FnScope ["self", "kind"] ["self", "kind"] (defScope (inClass (topS 17) 0)) := ⟨rfl, rfl, rfl, by decide +kernel, rfl, by decide +kernel, by decide +kernel⟩
theorem cx_NotAbstract {G : Pg} (F : Fx G) (k : Nat) : CX G (k + 2) "NotAbstract" ["kind"] := by
  obtain ⟨fd, F0⟩ := F.xi_NotAbstract
  exact ⟨k + 1, rfl, xok1 k F.xd_NotAbstract F.mg_NotAbstract F.mg_DispatchError F0 rfl (fun env => ⟨_, rfl⟩) sx_NotAbstract (by decide +kernel) (by decide +kernel) (by decide +kernel) (fun _ _ _ _ _ _ us h => match us, h with | [_, _], _ => rfl)⟩
theorem sx_WouldLoop : FnScope ["self", "abstract", "kind"] ["self", "abstract", "kind"] (defScope (inClass (topS 18) 0)) := ⟨rfl, rfl, rfl, by decide +kernel, rfl, by decide +kernel, by decide +kernel⟩
theorem cx_WouldLoop {G : Pg} (F : Fx G) (k : Nat) : CX G (k + 2) "WouldLoop" ["abstract", "kind"] := by
  obtain ⟨fd, F0⟩ := F.xi_WouldLoop
  exact ⟨k + 1, rfl, xok2 k F.xd_WouldLoop F.mg_WouldLoop F.mg_DispatchError F0 rfl (fun env => ⟨_, rfl⟩) sx_WouldLoop (by decide +kernel) (by decide +kernel) (by decide +kernel) (by decide +kernel) (fun _ _ _ _ _ _ us h => match us, h with | [_, _, _], _ => rfl)⟩
theorem sx_Ambiguous : FnScope ["self", "part", "tied"] ["self", "part", "tied"] (defScope (inClass (topS 19) 0)) := ⟨rfl, rfl, rfl, by decide +kernel, rfl, by decide +kernel, by decide +kernel⟩
theorem cx_Ambiguous {G : Pg} (F : Fx G) (k : Nat) : CX G (k + 2) "Ambiguous" ["part", "tied"] := by
  obtain ⟨fd, F0⟩ := F.xi_Ambiguous
  exact ⟨k + 1, rfl, xok2 k F.xd_Ambiguous F.mg_Ambiguous F.mg_DispatchError F0 rfl (fun env => ⟨_, rfl⟩) sx_Ambiguous (by decide +kernel) (by decide +kernel) (by decide +kernel) (by decide +kernel) (fun _ _ _ _ _ _ us h => match us, h with | [_, _, _], _ => rfl)⟩
theorem sx_NoMethod : FnScope ["self", "wanted"] ["self", "wanted"] (defScope (inClass (topS 20) 0)) := ⟨rfl, rfl, rfl, by decide +kernel, rfl, by decide +kernel, by decide +kernel⟩
theorem cx_NoMethod {G : Pg} (F : Fx G) (k : Nat) : CX G (k + 2) "NoMethod" ["wanted"] := by
  obtain ⟨fd, F0⟩ := F.xi_NoMethod
  exact ⟨k + 1, rfl, xok1 k F.xd_NoMethod F.mg_NoMethod F.mg_DispatchError F0 rfl (fun env => ⟨_, rfl⟩) sx_NoMethod (by decide +kernel) (by decide +kernel) (by decide +kernel) (fun _ _ _ _ _ _ us h => match us, h with | [_, _], _ => rfl)⟩
theorem sx_NoNext : FnScope ["self", "part"] ["self", "part"] (defScope (inClass (topS 21) 0)) := ⟨rfl, rfl, rfl, by decide +kernel, rfl, by decide +kernel, by decide +kernel⟩
theorem cx_NoNext {G : Pg} (F : Fx G) (k : Nat) : CX G (k + 2) "NoNext" ["part"] := by
  obtain ⟨fd, F0⟩ := F.xi_NoNext
  exact ⟨k + 1, rfl, xok1 k F.xd_NoNext F.mg_NoNext F.mg_DispatchError F0 rfl (fun env => ⟨_, rfl⟩) sx_NoNext (by decide +kernel) (by decide +kernel) (by decide +kernel) (fun _ _ _ _ _ _ us h => match us, h with | [_, _], _ => rfl)⟩
theorem sx_Reentered : FnScope ["self", "key"] ["self", "key"] (defScope (inClass (topS 22) 0)) := ⟨rfl, rfl, rfl, by decide +kernel, rfl, by decide +kernel, by decide +kernel⟩
theorem cx_Reentered {G : Pg} (F : Fx G) (k : Nat) : CX G (k + 2) "Reentered" ["key"] := by
  obtain ⟨fd, F0⟩ := F.xi_Reentered
  exact ⟨k + 1, rfl, xok1 k F.xd_Reentered F.mg_Reentered F.mg_DispatchError F0 rfl (fun env => ⟨_, rfl⟩) sx_Reentered (by decide +kernel) (by decide +kernel) (by decide +kernel) (fun _ _ _ _ _ _ us h => match us, h with | [_, _], _ => rfl)⟩
theorem sx_InProgress : FnScope ["self", "name"] ["self", "name"] (defScope (inClass (topS 23) 0)) := ⟨rfl, rfl, rfl, by decide +kernel, rfl, by decide +kernel, by decide +kernel⟩
theorem cx_InProgress {G : Pg} (F : Fx G) (k : Nat) : CX G (k + 2) "InProgress" ["name"] := by
  obtain ⟨fd, F0⟩ := F.xi_InProgress
  exact ⟨k + 1, rfl, xok1 k F.xd_InProgress F.mg_InProgress F.mg_DispatchError F0 rfl (fun env => ⟨_, rfl⟩) sx_InProgress (by decide +kernel) (by decide +kernel) (by decide +kernel) (fun _ _ _ _ _ _ us h => match us, h with | [_, _], _ => rfl)⟩
theorem c__law_kinds_1 {G : Pg} (F : Fx G) (k : Nat) : CO G (k + 1) ⟨"_law_kinds", 1, []⟩ f__law_kinds_1 := by
  obtain ⟨f, fd, F0, hm⟩ := F.d__law_kinds
  exact c_fn (k := k + 0) F0 hm F.bl sc__law_kinds (fun _ _ _ _ _ _ _ us ws h1 h2 => match us, ws, h1, h2 with | [_], [], _, _ => .of_eq rfl) rfl (by decide) fun X c => b__law_kinds F.mg_InProgress F.isx F.mg_Reentered F.mg_NoNext F.mg_NoMethod F.mg_Ambiguous F.mg_WouldLoop F.mg_NotAbstract F.mg_UnknownRule F.mg_UnknownCell F.mg_TooMany F.mg_InvalidText F.mg_InvalidRow F.mg_InvalidArgument F.mg_InvalidLimit F.mg_InvalidItems F.mg_InvalidRole F.mg_InvalidSignature F.mg_NoOrder F.mg_InvalidParents F.mg_UnknownKind F.mg_InvalidName c
theorem c__law_families_right_2 {G : Pg} (F : Fx G) (k : Nat) : CO G (k + 2) ⟨"_law_families_right", 2, []⟩ f__law_families_right_2 := by
  obtain ⟨f, fd, F0, hm⟩ := F.d__law_families_right
  exact c_fn (k := k + 1) F0 hm F.bl sc__law_families_right (fun _ _ _ _ _ _ _ us ws h1 h2 => match us, ws, h1, h2 with | [_, _], [], _, _ => .of_eq rfl) rfl (by decide) fun X c => b__law_families_right (c__law_kinds_1 F (k + 0)) F.isx F.mg_DispatchError F.mg_WorldError c
theorem c__law_made_1 {G : Pg} (F : Fx G) (k : Nat) : CO G (k + 3) ⟨"_law_made", 1, []⟩ f__law_made_1 := by
  obtain ⟨f, fd, F0, hm⟩ := F.d__law_made
  exact c_fn (k := k + 2) F0 hm F.bl sc__law_made (fun _ _ _ _ _ _ _ us ws h1 h2 => match us, ws, h1, h2 with | [_], [], _, _ => .of_eq rfl) rfl (by decide) fun X c => b__law_made F.xf_name F.xf_key F.xf_part F.xf_wanted F.xf_abstract F.xf_kind F.xf_most F.xf_line F.xf_index F.xf_place F.xf_value (cx_InProgress F (k + 0)) (cx_Reentered F (k + 0)) (cx_NoNext F (k + 0)) (cx_NoMethod F (k + 0)) (cx_Ambiguous F (k + 0)) (cx_WouldLoop F (k + 0)) (cx_NotAbstract F (k + 0)) (cx_UnknownRule F (k + 0)) (cx_UnknownCell F (k + 0)) (cx_TooMany F (k + 0)) (cx_InvalidText F (k + 0)) (cx_InvalidRow F (k + 0)) (cx_InvalidArgument F (k + 0)) (cx_InvalidLimit F (k + 0)) (cx_InvalidItems F (k + 0)) (cx_InvalidRole F (k + 0)) (cx_InvalidSignature F (k + 0)) (cx_NoOrder F (k + 0)) (cx_InvalidParents F (k + 0)) (cx_UnknownKind F (k + 0)) (cx_InvalidName F (k + 0)) c
theorem c__law_draw_2 {G : Pg} (F : Fx G) (k : Nat) : CO G (k + 1) ⟨"_law_draw", 2, []⟩ f__law_draw_2 := by
  obtain ⟨f, fd, F0, hm⟩ := F.d__law_draw
  exact c_fn (k := k + 0) F0 hm F.bl sc__law_draw (fun _ _ _ _ _ _ _ us ws h1 h2 => match us, ws, h1, h2 with | [_, _], [], _, _ => .of_eq rfl) rfl (by decide) fun X c => b__law_draw  c
theorem c__law_pick_2 {G : Pg} (F : Fx G) (k : Nat) : CO G (k + 2) ⟨"_law_pick", 2, []⟩ f__law_pick_2 := by
  obtain ⟨f, fd, F0, hm⟩ := F.d__law_pick
  exact c_fn (k := k + 1) F0 hm F.bl sc__law_pick (fun _ _ _ _ _ _ _ us ws h1 h2 => match us, ws, h1, h2 with | [_, _], [], _, _ => .of_eq rfl) rfl (by decide) fun X c => b__law_pick (c__law_draw_2 F (k + 0)) c
theorem c__law_source_1 {G : Pg} (F : Fx G) (k : Nat) : CO G (k + 1) ⟨"_law_source", 1, []⟩ f__law_source_1 := by
  obtain ⟨f, fd, F0, hm⟩ := F.d__law_source
  exact c_fn (k := k + 0) F0 hm F.bl sc__law_source (fun _ _ _ _ _ _ _ us ws h1 h2 => match us, ws, h1, h2 with | [_], [], _, _ => .of_eq rfl) rfl (by decide) fun X c => b__law_source  c
theorem c_law_1 {G : Pg} (F : Fx G) (k : Nat) : CO G (k + 4) ⟨"law", 1, []⟩ f_law_1 := by
  obtain ⟨f, fd, F0, hm⟩ := F.d_law
  exact c_fn (k := k + 3) F0 hm F.bl sc_law (fun _ _ _ _ _ _ _ us ws h1 h2 => match us, ws, h1, h2 with | [_], [], _, _ => .of_eq rfl) rfl (by decide) fun X c => b_law (c__law_families_right_2 F (k + 1)) (c__law_made_1 F (k + 0)) (c__law_pick_2 F (k + 1)) (c__law_source_1 F (k + 2)) F.xf_part F.xf_abstract F.xf_tied F.xf_kind F.sm (cx_Ambiguous F (k + 1)) (cx_WouldLoop F (k + 1)) F.isx c
/-! the head -/
def fnL : List He.DefD := [⟨("_law_kinds", none), "_law_kinds", "_law_kinds", defArgs s__law_kinds, defBody s__law_kinds, defScope s__law_kinds, [], []⟩, ⟨("_law_families_right", none), "_law_families_right", "_law_families_right", defArgs s__law_families_right, defBody s__law_families_right, defScope s__law_families_right, [], []⟩, ⟨("_law_made", none), "_law_made", "_law_made", defArgs s__law_made, defBody s__law_made, defScope s__law_made, [], []⟩, ⟨("_law_draw", none), "_law_draw", "_law_draw", defArgs s__law_draw, defBody s__law_draw, defScope s__law_draw, [], []⟩, ⟨("_law_pick", none), "_law_pick", "_law_pick", defArgs s__law_pick, defBody s__law_pick, defScope s__law_pick, [], []⟩, ⟨("_law_source", none), "_law_source", "_law_source", defArgs s__law_source, defBody s__law_source, defScope s__law_source, [], []⟩, ⟨("law", none), "law", "law", defArgs s_law, defBody s_law, defScope s_law, [], []⟩, ⟨("InvalidName", some "__init__"), "__init__", "InvalidName.__init__", defArgs (inClass (topS 3) 0), defBody (inClass (topS 3) 0), defScope (inClass (topS 3) 0), [], []⟩, ⟨("UnknownKind", some "__init__"), "__init__", "UnknownKind.__init__", defArgs (inClass (topS 4) 0), defBody (inClass (topS 4) 0), defScope (inClass (topS 4) 0), [], []⟩, ⟨("InvalidParents", some "__init__"), "__init__", "InvalidParents.__init__", defArgs (inClass (topS 5) 0), defBody (inClass (topS 5) 0), defScope (inClass (topS 5) 0), [], []⟩, ⟨("NoOrder", some "__init__"), "__init__", "NoOrder.__init__", defArgs (inClass (topS 6) 0), defBody (inClass (topS 6) 0), defScope (inClass (topS 6) 0), [], []⟩, ⟨("InvalidSignature", some "__init__"), "__init__", "InvalidSignature.__init__", defArgs (inClass (topS 7) 0), defBody (inClass (topS 7) 0), defScope (inClass (topS 7) 0), [], []⟩, ⟨("InvalidRole", some "__init__"), "__init__", "InvalidRole.__init__", defArgs (inClass (topS 8) 0), defBody (inClass (topS 8) 0), defScope (inClass (topS 8) 0), [], []⟩, ⟨("InvalidItems", some "__init__"), "__init__", "InvalidItems.__init__", defArgs (inClass (topS 9) 0), defBody (inClass (topS 9) 0), defScope (inClass (topS 9) 0), [], []⟩, ⟨("InvalidLimit", some "__init__"), "__init__", "InvalidLimit.__init__", defArgs (inClass (topS 10) 0), defBody (inClass (topS 10) 0), defScope (inClass (topS 10) 0), [], []⟩, ⟨("InvalidArgument", some "__init__"), "__init__", "InvalidArgument.__init__", defArgs (inClass (topS 11) 0), defBody (inClass (topS 11) 0), defScope (inClass (topS 11) 0), [], []⟩, ⟨("InvalidRow", some "__init__"), "__init__", "InvalidRow.__init__", defArgs (inClass (topS 12) 0), defBody (inClass (topS 12) 0), defScope (inClass (topS 12) 0), [], []⟩, ⟨("InvalidText", some "__init__"), "__init__", "InvalidText.__init__", defArgs (inClass (topS 13) 0), defBody (inClass (topS 13) 0), defScope (inClass (topS 13) 0), [], []⟩, ⟨("TooMany", some "__init__"), "__init__", "TooMany.__init__", defArgs (inClass (topS 14) 0), defBody (inClass (topS 14) 0), defScope (inClass (topS 14) 0), [], []⟩, ⟨("UnknownCell", some "__init__"), "__init__", "UnknownCell.__init__", defArgs (inClass (topS 15) 0), defBody (inClass (topS 15) 0), defScope (inClass (topS 15) 0), [], []⟩, ⟨("UnknownRule", some "__init__"), "__init__", "UnknownRule.__init__", defArgs (inClass (topS 16) 0), defBody (inClass (topS 16) 0), defScope (inClass (topS 16) 0), [], []⟩, ⟨("NotAbstract", some "__init__"), "__init__", "NotAbstract.__init__", defArgs (inClass (topS 17) 0), defBody (inClass (topS 17) 0), defScope (inClass (topS 17) 0), [], []⟩, ⟨("WouldLoop", some "__init__"), "__init__", "WouldLoop.__init__", defArgs (inClass (topS 18) 0), defBody (inClass (topS 18) 0), defScope (inClass (topS 18) 0), [], []⟩, ⟨("Ambiguous", some "__init__"), "__init__", "Ambiguous.__init__", defArgs (inClass (topS 19) 0), defBody (inClass (topS 19) 0), defScope (inClass (topS 19) 0), [], []⟩, ⟨("NoMethod", some "__init__"), "__init__", "NoMethod.__init__", defArgs (inClass (topS 20) 0), defBody (inClass (topS 20) 0), defScope (inClass (topS 20) 0), [], []⟩, ⟨("NoNext", some "__init__"), "__init__", "NoNext.__init__", defArgs (inClass (topS 21) 0), defBody (inClass (topS 21) 0), defScope (inClass (topS 21) 0), [], []⟩, ⟨("Reentered", some "__init__"), "__init__", "Reentered.__init__", defArgs (inClass (topS 22) 0), defBody (inClass (topS 22) 0), defScope (inClass (topS 22) 0), [], []⟩, ⟨("InProgress", some "__init__"), "__init__", "InProgress.__init__", defArgs (inClass (topS 23) 0), defBody (inClass (topS 23) 0), defScope (inClass (topS 23) 0), [], []⟩]
def gloL : List He.Fa := [.glo "_law_kinds", .glo "_law_families_right", .glo "_law_made", .glo "_law_draw", .glo "_law_pick", .glo "_law_source", .glo "law", .glo "WorldError", .glo "DispatchError", .glo "InvalidName", .glo "UnknownKind", .glo "InvalidParents", .glo "NoOrder", .glo "InvalidSignature", .glo "InvalidRole", .glo "InvalidItems", .glo "InvalidLimit", .glo "InvalidArgument", .glo "InvalidRow", .glo "InvalidText", .glo "TooMany", .glo "UnknownCell", .glo "UnknownRule", .glo "NotAbstract", .glo "WouldLoop", .glo "Ambiguous", .glo "NoMethod", .glo "NoNext", .glo "Reentered", .glo "InProgress"]
abbrev faL : List He.Fa := bltL.map He.Fa.free ++ gloL
abbrev R : PySem.W.OpenRow := PySem.W.OpenLaw.row PySem.Challenge.rw_dispatchers_k56_errors_by_hand
def bsL (K : PySem.W.Frag) : Bool := smodB K && (isxK tbX usX bsX K && (xfK cs_part "part" K && (xfK cs_abstract "abstract" K && (xfK cs_tied "tied" K && (xfK cs_kind "kind" K && (xfK cs_name "name" K && (xfK cs_key "key" K && (xfK cs_wanted "wanted" K && (xfK cs_most "most" K && (xfK cs_line "line" K && (xfK cs_index "index" K && (xfK cs_place "place" K && (xfK cs_value "value" K && (xdB "InvalidName" "WorldError" xbV ["name"] K && (xdB "UnknownKind" "WorldError" xbV ["kind"] K && (xdB "InvalidParents" "WorldError" xbV ["index"] K && (xdB "NoOrder" "WorldError" xbV ["name"] K && (xdB "InvalidSignature" "WorldError" xbV ["index"] K && (xdB "InvalidRole" "WorldError" xbV ["value"] K && (xdB "InvalidItems" "WorldError" xbV ["index"] K && (xdB "InvalidLimit" "WorldError" xbV ["value"] K && (xdB "InvalidArgument" "WorldError" xbV ["place"] K && (xdB "InvalidRow" "WorldError" xbV ["index"] K && (xdB "InvalidText" "WorldError" xbV ["line"] K && (xdB "TooMany" "WorldError" xbV ["most"] K && (xdB "UnknownCell" "WorldError" xbV ["name"] K && (xdB "UnknownRule" "WorldError" xbV ["name"] K && (xdB "NotAbstract" "DispatchError" xbR ["kind"] K && (xdB "WouldLoop" "DispatchError" xbR ["abstract", "kind"] K && (xdB "Ambiguous" "DispatchError" xbR ["part", "tied"] K && (xdB "NoMethod" "DispatchError" xbR ["wanted"] K && (xdB "NoNext" "DispatchError" xbR ["part"] K && (xdB "Reentered" "DispatchError" xbR ["key"] K && (xdB "InProgress" "DispatchError" xbR ["name"] K && (true)))))))))))))))))))))))))))))))))))
abbrev hk : PySem.W.Hook := hookX 5 faL fnL bsL
def ob (s : PySem.W.SharedT) : AlX := obsXG 5 faL fnL bsL (HandSHeadRun.getT s)
theorem ob_eq (s : PySem.W.SharedT) : ob s = hk.obs s.abs := obsXG_eq (HandSHeadRun.getT_eq s)
def loose : List Str := ["WorldError", "DispatchError", "InvalidName", "UnknownKind", "InvalidParents", "NoOrder", "InvalidSignature", "InvalidRole", "InvalidItems", "InvalidLimit", "InvalidArgument", "InvalidRow", "InvalidText", "TooMany", "UnknownCell", "UnknownRule", "NotAbstract", "WouldLoop", "Ambiguous", "NoMethod", "NoNext", "Reentered", "InProgress", "_law_source", "_law_draw", "_law_pick", "_law_kinds", "_law_made", "_law_families_right"]
theorem run (w : World) : HandSHeadRun.RunEq R (PySem.W.view R.prog [31]) hk ob 60000 loose w := by
  intro os
  kernel_rfl
theorem facts {P : Program} {w : World} {K : PySem.W.Frag} {h base : Heap} {mg : Str → Option Value} (X : K.In h) (M : h.Ns mainGlobals mg) (c0 : SaysX faL fnL bsL K) : Fx ⟨P, w, K, mg, base⟩ := by
  have c := c0.d
  have b0 := c0.b
  obtain ⟨k_sm, b0⟩ := He.ba b0
  obtain ⟨k_isx, b0⟩ := He.ba b0
  obtain ⟨k_xf_part, b0⟩ := He.ba b0
  obtain ⟨k_xf_abstract, b0⟩ := He.ba b0
  obtain ⟨k_xf_tied, b0⟩ := He.ba b0
  obtain ⟨k_xf_kind, b0⟩ := He.ba b0
  obtain ⟨k_xf_name, b0⟩ := He.ba b0
  obtain ⟨k_xf_key, b0⟩ := He.ba b0
  obtain ⟨k_xf_wanted, b0⟩ := He.ba b0
  obtain ⟨k_xf_most, b0⟩ := He.ba b0
  obtain ⟨k_xf_line, b0⟩ := He.ba b0
  obtain ⟨k_xf_index, b0⟩ := He.ba b0
  obtain ⟨k_xf_place, b0⟩ := He.ba b0
  obtain ⟨k_xf_value, b0⟩ := He.ba b0
  obtain ⟨k_xd_InvalidName, b0⟩ := He.ba b0
  obtain ⟨k_xd_UnknownKind, b0⟩ := He.ba b0
  obtain ⟨k_xd_InvalidParents, b0⟩ := He.ba b0
  obtain ⟨k_xd_NoOrder, b0⟩ := He.ba b0
  obtain ⟨k_xd_InvalidSignature, b0⟩ := He.ba b0
  obtain ⟨k_xd_InvalidRole, b0⟩ := He.ba b0
  obtain ⟨k_xd_InvalidItems, b0⟩ := He.ba b0
  obtain ⟨k_xd_InvalidLimit, b0⟩ := He.ba b0
  obtain ⟨k_xd_InvalidArgument, b0⟩ := He.ba b0
  obtain ⟨k_xd_InvalidRow, b0⟩ := He.ba b0
  obtain ⟨k_xd_InvalidText, b0⟩ := He.ba b0
  obtain ⟨k_xd_TooMany, b0⟩ := He.ba b0
  obtain ⟨k_xd_UnknownCell, b0⟩ := He.ba b0
  obtain ⟨k_xd_UnknownRule, b0⟩ := He.ba b0
  obtain ⟨k_xd_NotAbstract, b0⟩ := He.ba b0
  obtain ⟨k_xd_WouldLoop, b0⟩ := He.ba b0
  obtain ⟨k_xd_Ambiguous, b0⟩ := He.ba b0
  obtain ⟨k_xd_NoMethod, b0⟩ := He.ba b0
  obtain ⟨k_xd_NoNext, b0⟩ := He.ba b0
  obtain ⟨k_xd_Reentered, b0⟩ := He.ba b0
  obtain ⟨k_xd_InProgress, b0⟩ := He.ba b0
  refine ⟨free_all X M c, ?_, ?_, ?_, ?_, ?_, ?_, ?_, ?_, ?_, ?_, ?_, ?_, ?_, ?_, ?_, ?_, ?_, ?_, ?_, ?_, ?_, ?_, ?_, ?_, ?_, ?_, ?_, ?_, ?_, ?_, ?_, ?_, ?_, ?_, ?_, ?_, ?_, ?_, ?_, ?_, ?_, ?_, ?_, ?_, ?_, ?_, ?_, ?_, ?_, ?_, ?_, ?_, ?_, ?_, ?_, ?_, ?_, ?_, ?_, ?_, ?_, ?_, ?_, ?_, ?_, ?_, ?_, ?_, ?_, ?_, ?_, ?_, ?_, ?_, ?_, ?_, ?_, ?_, ?_, ?_, ?_, ?_, ?_, ?_, ?_, ?_⟩
  · exact glo_at X M c 7 (x := "WorldError") rfl
  · exact glo_at X M c 8 (x := "DispatchError") rfl
  · exact glo_at X M c 9 (x := "InvalidName") rfl
  · exact glo_at X M c 10 (x := "UnknownKind") rfl
  · exact glo_at X M c 11 (x := "InvalidParents") rfl
  · exact glo_at X M c 12 (x := "NoOrder") rfl
  · exact glo_at X M c 13 (x := "InvalidSignature") rfl
  · exact glo_at X M c 14 (x := "InvalidRole") rfl
  · exact glo_at X M c 15 (x := "InvalidItems") rfl
  · exact glo_at X M c 16 (x := "InvalidLimit") rfl
  · exact glo_at X M c 17 (x := "InvalidArgument") rfl
  · exact glo_at X M c 18 (x := "InvalidRow") rfl
  · exact glo_at X M c 19 (x := "InvalidText") rfl
  · exact glo_at X M c 20 (x := "TooMany") rfl
  · exact glo_at X M c 21 (x := "UnknownCell") rfl
  · exact glo_at X M c 22 (x := "UnknownRule") rfl
  · exact glo_at X M c 23 (x := "NotAbstract") rfl
  · exact glo_at X M c 24 (x := "WouldLoop") rfl
  · exact glo_at X M c 25 (x := "Ambiguous") rfl
  · exact glo_at X M c 26 (x := "NoMethod") rfl
  · exact glo_at X M c 27 (x := "NoNext") rfl
  · exact glo_at X M c 28 (x := "Reentered") rfl
  · exact glo_at X M c 29 (x := "InProgress") rfl
  · exact smodB_ok k_sm
  · exact isxK_ok k_isx
  · exact xfK_ok k_xf_part
  · exact xfK_ok k_xf_abstract
  · exact xfK_ok k_xf_tied
  · exact xfK_ok k_xf_kind
  · exact xfK_ok k_xf_name
  · exact xfK_ok k_xf_key
  · exact xfK_ok k_xf_wanted
  · exact xfK_ok k_xf_most
  · exact xfK_ok k_xf_line
  · exact xfK_ok k_xf_index
  · exact xfK_ok k_xf_place
  · exact xfK_ok k_xf_value
  · exact xdB_ok fbV sfV k_xd_InvalidName
  · exact c.def_ 7 (d := ⟨("InvalidName", some "__init__"), "__init__", "InvalidName.__init__", defArgs (inClass (topS 3) 0), defBody (inClass (topS 3) 0), defScope (inClass (topS 3) 0), [], []⟩) rfl
  · exact xdB_ok fbV sfV k_xd_UnknownKind
  · exact c.def_ 8 (d := ⟨("UnknownKind", some "__init__"), "__init__", "UnknownKind.__init__", defArgs (inClass (topS 4) 0), defBody (inClass (topS 4) 0), defScope (inClass (topS 4) 0), [], []⟩) rfl
  · exact xdB_ok fbV sfV k_xd_InvalidParents
  · exact c.def_ 9 (d := ⟨("InvalidParents", some "__init__"), "__init__", "InvalidParents.__init__", defArgs (inClass (topS 5) 0), defBody (inClass (topS 5) 0), defScope (inClass (topS 5) 0), [], []⟩) rfl
  · exact xdB_ok fbV sfV k_xd_NoOrder
  · exact c.def_ 10 (d := ⟨("NoOrder", some "__init__"), "__init__", "NoOrder.__init__", defArgs (inClass (topS 6) 0), defBody (inClass (topS 6) 0), defScope (inClass (topS 6) 0), [], []⟩) rfl
  · exact xdB_ok fbV sfV k_xd_InvalidSignature
  · exact c.def_ 11 (d := ⟨("InvalidSignature", some "__init__"), "__init__", "InvalidSignature.__init__", defArgs (inClass (topS 7) 0), defBody (inClass (topS 7) 0), defScope (inClass (topS 7) 0), [], []⟩) rfl
  · exact xdB_ok fbV sfV k_xd_InvalidRole
  · exact c.def_ 12 (d := ⟨("InvalidRole", some "__init__"), "__init__", "InvalidRole.__init__", defArgs (inClass (topS 8) 0), defBody (inClass (topS 8) 0), defScope (inClass (topS 8) 0), [], []⟩) rfl
  · exact xdB_ok fbV sfV k_xd_InvalidItems
  · exact c.def_ 13 (d := ⟨("InvalidItems", some "__init__"), "__init__", "InvalidItems.__init__", defArgs (inClass (topS 9) 0), defBody (inClass (topS 9) 0), defScope (inClass (topS 9) 0), [], []⟩) rfl
  · exact xdB_ok fbV sfV k_xd_InvalidLimit
  · exact c.def_ 14 (d := ⟨("InvalidLimit", some "__init__"), "__init__", "InvalidLimit.__init__", defArgs (inClass (topS 10) 0), defBody (inClass (topS 10) 0), defScope (inClass (topS 10) 0), [], []⟩) rfl
  · exact xdB_ok fbV sfV k_xd_InvalidArgument
  · exact c.def_ 15 (d := ⟨("InvalidArgument", some "__init__"), "__init__", "InvalidArgument.__init__", defArgs (inClass (topS 11) 0), defBody (inClass (topS 11) 0), defScope (inClass (topS 11) 0), [], []⟩) rfl
  · exact xdB_ok fbV sfV k_xd_InvalidRow
  · exact c.def_ 16 (d := ⟨("InvalidRow", some "__init__"), "__init__", "InvalidRow.__init__", defArgs (inClass (topS 12) 0), defBody (inClass (topS 12) 0), defScope (inClass (topS 12) 0), [], []⟩) rfl
  · exact xdB_ok fbV sfV k_xd_InvalidText
  · exact c.def_ 17 (d := ⟨("InvalidText", some "__init__"), "__init__", "InvalidText.__init__", defArgs (inClass (topS 13) 0), defBody (inClass (topS 13) 0), defScope (inClass (topS 13) 0), [], []⟩) rfl
  · exact xdB_ok fbV sfV k_xd_TooMany
  · exact c.def_ 18 (d := ⟨("TooMany", some "__init__"), "__init__", "TooMany.__init__", defArgs (inClass (topS 14) 0), defBody (inClass (topS 14) 0), defScope (inClass (topS 14) 0), [], []⟩) rfl
  · exact xdB_ok fbV sfV k_xd_UnknownCell
  · exact c.def_ 19 (d := ⟨("UnknownCell", some "__init__"), "__init__", "UnknownCell.__init__", defArgs (inClass (topS 15) 0), defBody (inClass (topS 15) 0), defScope (inClass (topS 15) 0), [], []⟩) rfl
  · exact xdB_ok fbV sfV k_xd_UnknownRule
  · exact c.def_ 20 (d := ⟨("UnknownRule", some "__init__"), "__init__", "UnknownRule.__init__", defArgs (inClass (topS 16) 0), defBody (inClass (topS 16) 0), defScope (inClass (topS 16) 0), [], []⟩) rfl
  · exact xdB_ok fbR sfR k_xd_NotAbstract
  · exact c.def_ 21 (d := ⟨("NotAbstract", some "__init__"), "__init__", "NotAbstract.__init__", defArgs (inClass (topS 17) 0), defBody (inClass (topS 17) 0), defScope (inClass (topS 17) 0), [], []⟩) rfl
  · exact xdB_ok fbR sfR k_xd_WouldLoop
  · exact c.def_ 22 (d := ⟨("WouldLoop", some "__init__"), "__init__", "WouldLoop.__init__", defArgs (inClass (topS 18) 0), defBody (inClass (topS 18) 0), defScope (inClass (topS 18) 0), [], []⟩) rfl
  · exact xdB_ok fbR sfR k_xd_Ambiguous
  · exact c.def_ 23 (d := ⟨("Ambiguous", some "__init__"), "__init__", "Ambiguous.__init__", defArgs (inClass (topS 19) 0), defBody (inClass (topS 19) 0), defScope (inClass (topS 19) 0), [], []⟩) rfl
  · exact xdB_ok fbR sfR k_xd_NoMethod
  · exact c.def_ 24 (d := ⟨("NoMethod", some "__init__"), "__init__", "NoMethod.__init__", defArgs (inClass (topS 20) 0), defBody (inClass (topS 20) 0), defScope (inClass (topS 20) 0), [], []⟩) rfl
  · exact xdB_ok fbR sfR k_xd_NoNext
  · exact c.def_ 25 (d := ⟨("NoNext", some "__init__"), "__init__", "NoNext.__init__", defArgs (inClass (topS 21) 0), defBody (inClass (topS 21) 0), defScope (inClass (topS 21) 0), [], []⟩) rfl
  · exact xdB_ok fbR sfR k_xd_Reentered
  · exact c.def_ 26 (d := ⟨("Reentered", some "__init__"), "__init__", "Reentered.__init__", defArgs (inClass (topS 22) 0), defBody (inClass (topS 22) 0), defScope (inClass (topS 22) 0), [], []⟩) rfl
  · exact xdB_ok fbR sfR k_xd_InProgress
  · exact c.def_ 27 (d := ⟨("InProgress", some "__init__"), "__init__", "InProgress.__init__", defArgs (inClass (topS 23) 0), defBody (inClass (topS 23) 0), defScope (inClass (topS 23) 0), [], []⟩) rfl
  · obtain ⟨fd, F⟩ := c.def_ 0 (d := ⟨("_law_kinds", none), "_law_kinds", "_law_kinds", defArgs s__law_kinds, defBody s__law_kinds, defScope s__law_kinds, [], []⟩) rfl
    exact ⟨_, fd, F, glo_at X M c 0 (x := "_law_kinds") rfl⟩
  · obtain ⟨fd, F⟩ := c.def_ 1 (d := ⟨("_law_families_right", none), "_law_families_right", "_law_families_right", defArgs s__law_families_right, defBody s__law_families_right, defScope s__law_families_right, [], []⟩) rfl
    exact ⟨_, fd, F, glo_at X M c 1 (x := "_law_families_right") rfl⟩
  · obtain ⟨fd, F⟩ := c.def_ 2 (d := ⟨("_law_made", none), "_law_made", "_law_made", defArgs s__law_made, defBody s__law_made, defScope s__law_made, [], []⟩) rfl
    exact ⟨_, fd, F, glo_at X M c 2 (x := "_law_made") rfl⟩
  · obtain ⟨fd, F⟩ := c.def_ 3 (d := ⟨("_law_draw", none), "_law_draw", "_law_draw", defArgs s__law_draw, defBody s__law_draw, defScope s__law_draw, [], []⟩) rfl
    exact ⟨_, fd, F, glo_at X M c 3 (x := "_law_draw") rfl⟩
  · obtain ⟨fd, F⟩ := c.def_ 4 (d := ⟨("_law_pick", none), "_law_pick", "_law_pick", defArgs s__law_pick, defBody s__law_pick, defScope s__law_pick, [], []⟩) rfl
    exact ⟨_, fd, F, glo_at X M c 4 (x := "_law_pick") rfl⟩
  · obtain ⟨fd, F⟩ := c.def_ 5 (d := ⟨("_law_source", none), "_law_source", "_law_source", defArgs s__law_source, defBody s__law_source, defScope s__law_source, [], []⟩) rfl
    exact ⟨_, fd, F, glo_at X M c 5 (x := "_law_source") rfl⟩
  · obtain ⟨fd, F⟩ := c.def_ 6 (d := ⟨("law", none), "law", "law", defArgs s_law, defBody s_law, defScope s_law, [], []⟩) rfl
    exact ⟨_, fd, F, glo_at X M c 6 (x := "law") rfl⟩
end K56

section
open PySem PySem.W PySem.Calls PyProof.Rows
theorem K56.holds_of (hlaw : ∀ ns : List Int, ns.length ≤ 63 → ∃ S', K56.f_law_1 [.cl (ns.map D.PV.int)] [] = .ok (.bl true) S') : PySem.Challenge.rw_dispatchers_k56_errors_by_hand.Holds := by
  w_on; o_law
  refine HandSHeadRun.head_any (r := OpenLaw.row PySem.Challenge.rw_dispatchers_k56_errors_by_hand) (q := view (OpenLaw.row PySem.Challenge.rw_dispatchers_k56_errors_by_hand).prog [31]) (H := K56.hk) (ob := K56.ob) (M := 60000) (loose := K56.loose) (d := HandSHeadRun.topDef (OpenLaw.row PySem.Challenge.rw_dispatchers_k56_errors_by_hand).prog 31) (kwd := []) K56.ob_eq
    (by kernel_rfl) (fun s => by kernel_rfl) K56.run (by kernel_rfl) (by kernel_rfl) (by kernel_rfl) (by rfl) (by first | assumption | decide +kernel) (by decide +kernel) ⟨rfl, rfl, rfl, rfl, rfl, by decide +kernel⟩ ?hw ?hc
  case hw => w_witness2
  case hc =>
    refine D.walk_end (l := PySem.Challenge.rw_dispatchers_k56_errors_by_hand) (n := 63) (k := 4) K56.f_law_1 rfl (by decide) (by kernel_rfl) ⟨rfl, by decide, by decide⟩ ?F hlaw
    intro w mg f h Y M hm0
    obtain ⟨K, KX, c⟩ := Y
    have hm : mg ("law" : PySem.Str) = some (.ref f) := by
      have e : (HandSHeadRun.topDef (OpenLaw.row PySem.Challenge.rw_dispatchers_k56_errors_by_hand).prog 31).name = ("law" : PySem.Str) := by kernel_rfl
      rw [← e]
      exact hm0
    refine ⟨K, KX, fun base _ _ => ?_⟩
    obtain ⟨f', h1, _, h3⟩ := (K56.c_law_1 (G := ⟨(PySem.Challenge.rw_dispatchers_k56_errors_by_hand).prog, w, K, mg, base⟩) (K56.facts KX M c) 0).ex
    have e : f' = f := by
      have z : some (Value.ref f') = some (Value.ref f) := (show mg "law" = some (.ref f') from h1).symm.trans hm
      cases z; rfl
    subst e
    exact h3
end

namespace K56
open PySem PySem.Spec PyProof.Rows L2 D
def nm : List Str := ["InvalidName", "UnknownKind", "InvalidParents", "NoOrder", "InvalidSignature", "InvalidRole", "InvalidItems", "InvalidLimit", "InvalidArgument", "InvalidRow", "InvalidText", "TooMany", "UnknownCell", "UnknownRule", "NotAbstract", "WouldLoop", "Ambiguous", "NoMethod", "NoNext", "Reentered", "InProgress"]
def firsts (p : PV) : List PV := [.exn "InvalidName" ["name"] [p], .exn "UnknownKind" ["kind"] [p], .exn "InvalidParents" ["index"] [p], .exn "NoOrder" ["name"] [p], .exn "InvalidSignature" ["index"] [p], .exn "InvalidRole" ["value"] [p], .exn "InvalidItems" ["index"] [p], .exn "InvalidLimit" ["value"] [p], .exn "InvalidArgument" ["place"] [p], .exn "InvalidRow" ["index"] [p], .exn "InvalidText" ["line"] [p], .exn "TooMany" ["most"] [p], .exn "UnknownCell" ["name"] [p], .exn "UnknownRule" ["name"] [p]]
def lasts (p : PV) : List PV := [.exn "NotAbstract" ["kind"] [p], .exn "WouldLoop" ["kind", "abstract"] [p, p], .exn "Ambiguous" ["tied", "part"] [p, p], .exn "NoMethod" ["wanted"] [p], .exn "NoNext" ["part"] [p], .exn "Reentered" ["key"] [p], .exn "InProgress" ["name"] [p]]
theorem us_InvalidName : usX.contains "InvalidName" = true := by decide +kernel
theorem us_UnknownKind : usX.contains "UnknownKind" = true := by decide +kernel
theorem us_InvalidParents : usX.contains "InvalidParents" = true := by decide +kernel
theorem us_NoOrder : usX.contains "NoOrder" = true := by decide +kernel
theorem us_InvalidSignature : usX.contains "InvalidSignature" = true := by decide +kernel
theorem us_InvalidRole : usX.contains "InvalidRole" = true := by decide +kernel
theorem us_InvalidItems : usX.contains "InvalidItems" = true := by decide +kernel
theorem us_InvalidLimit : usX.contains "InvalidLimit" = true := by decide +kernel
theorem us_InvalidArgument : usX.contains "InvalidArgument" = true := by decide +kernel
theorem us_InvalidRow : usX.contains "InvalidRow" = true := by decide +kernel
theorem us_InvalidText : usX.contains "InvalidText" = true := by decide +kernel
theorem us_TooMany : usX.contains "TooMany" = true := by decide +kernel
theorem us_UnknownCell : usX.contains "UnknownCell" = true := by decide +kernel
theorem us_UnknownRule : usX.contains "UnknownRule" = true := by decide +kernel
theorem us_NotAbstract : usX.contains "NotAbstract" = true := by decide +kernel
theorem us_WouldLoop : usX.contains "WouldLoop" = true := by decide +kernel
theorem us_Ambiguous : usX.contains "Ambiguous" = true := by decide +kernel
theorem us_NoMethod : usX.contains "NoMethod" = true := by decide +kernel
theorem us_NoNext : usX.contains "NoNext" = true := by decide +kernel
theorem us_Reentered : usX.contains "Reentered" = true := by decide +kernel
theorem us_InProgress : usX.contains "InProgress" = true := by decide +kernel
theorem in_InvalidName_name : ("InvalidName" : Str) ∈ cs_name := by decide +kernel
theorem in_UnknownKind_kind : ("UnknownKind" : Str) ∈ cs_kind := by decide +kernel
theorem in_InvalidParents_index : ("InvalidParents" : Str) ∈ cs_index := by decide +kernel
theorem in_NoOrder_name : ("NoOrder" : Str) ∈ cs_name := by decide +kernel
theorem in_InvalidSignature_index : ("InvalidSignature" : Str) ∈ cs_index := by decide +kernel
theorem in_InvalidRole_value : ("InvalidRole" : Str) ∈ cs_value := by decide +kernel
theorem in_InvalidItems_index : ("InvalidItems" : Str) ∈ cs_index := by decide +kernel
theorem in_InvalidLimit_value : ("InvalidLimit" : Str) ∈ cs_value := by decide +kernel
theorem in_InvalidArgument_place : ("InvalidArgument" : Str) ∈ cs_place := by decide +kernel
theorem in_InvalidRow_index : ("InvalidRow" : Str) ∈ cs_index := by decide +kernel
theorem in_InvalidText_line : ("InvalidText" : Str) ∈ cs_line := by decide +kernel
theorem in_TooMany_most : ("TooMany" : Str) ∈ cs_most := by decide +kernel
theorem in_UnknownCell_name : ("UnknownCell" : Str) ∈ cs_name := by decide +kernel
theorem in_UnknownRule_name : ("UnknownRule" : Str) ∈ cs_name := by decide +kernel
theorem in_NotAbstract_kind : ("NotAbstract" : Str) ∈ cs_kind := by decide +kernel
theorem in_WouldLoop_abstract : ("WouldLoop" : Str) ∈ cs_abstract := by decide +kernel
theorem in_WouldLoop_kind : ("WouldLoop" : Str) ∈ cs_kind := by decide +kernel
theorem in_Ambiguous_part : ("Ambiguous" : Str) ∈ cs_part := by decide +kernel
theorem in_Ambiguous_tied : ("Ambiguous" : Str) ∈ cs_tied := by decide +kernel
theorem in_NoMethod_wanted : ("NoMethod" : Str) ∈ cs_wanted := by decide +kernel
theorem in_NoNext_part : ("NoNext" : Str) ∈ cs_part := by decide +kernel
theorem in_Reentered_key : ("Reentered" : Str) ∈ cs_key := by decide +kernel
theorem in_InProgress_name : ("InProgress" : Str) ∈ cs_name := by decide +kernel
def kL (sup : List Str) : Hs := [.lst [.bl (sup.contains "InvalidName"), .bl (sup.contains "UnknownKind"), .bl (sup.contains "InvalidParents")], .lst [.bl (sup.contains "NoOrder"), .bl (sup.contains "InvalidSignature"), .bl (sup.contains "InvalidRole")], .lst [.bl (sup.contains "InvalidName"), .bl (sup.contains "UnknownKind"), .bl (sup.contains "InvalidParents"), .bl (sup.contains "NoOrder"), .bl (sup.contains "InvalidSignature"), .bl (sup.contains "InvalidRole")], .lst [.bl (sup.contains "InvalidItems"), .bl (sup.contains "InvalidLimit")], .lst [.bl (sup.contains "InvalidName"), .bl (sup.contains "UnknownKind"), .bl (sup.contains "InvalidParents"), .bl (sup.contains "NoOrder"), .bl (sup.contains "InvalidSignature"), .bl (sup.contains "InvalidRole"), .bl (sup.contains "InvalidItems"), .bl (sup.contains "InvalidLimit")], .lst [.bl (sup.contains "InvalidArgument"), .bl (sup.contains "InvalidRow"), .bl (sup.contains "InvalidText")], .lst [.bl (sup.contains "InvalidName"), .bl (sup.contains "UnknownKind"), .bl (sup.contains "InvalidParents"), .bl (sup.contains "NoOrder"), .bl (sup.contains "InvalidSignature"), .bl (sup.contains "InvalidRole"), .bl (sup.contains "InvalidItems"), .bl (sup.contains "InvalidLimit"), .bl (sup.contains "InvalidArgument"), .bl (sup.contains "InvalidRow"), .bl (sup.contains "InvalidText")], .lst [.bl (sup.contains "TooMany"), .bl (sup.contains "UnknownCell"), .bl (sup.contains "UnknownRule")], .lst [.bl (sup.contains "InvalidName"), .bl (sup.contains "UnknownKind"), .bl (sup.contains "InvalidParents"), .bl (sup.contains "NoOrder"), .bl (sup.contains "InvalidSignature"), .bl (sup.contains "InvalidRole"), .bl (sup.contains "InvalidItems"), .bl (sup.contains "InvalidLimit"), .bl (sup.contains "InvalidArgument"), .bl (sup.contains "InvalidRow"), .bl (sup.contains "InvalidText"), .bl (sup.contains "TooMany"), .bl (sup.contains "UnknownCell"), .bl (sup.contains "UnknownRule")], .lst [.bl (sup.contains "NotAbstract"), .bl (sup.contains "WouldLoop"), .bl (sup.contains "Ambiguous")], .lst [.bl (sup.contains "InvalidName"), .bl (sup.contains "UnknownKind"), .bl (sup.contains "InvalidParents"), .bl (sup.contains "NoOrder"), .bl (sup.contains "InvalidSignature"), .bl (sup.contains "InvalidRole"), .bl (sup.contains "InvalidItems"), .bl (sup.contains "InvalidLimit"), .bl (sup.contains "InvalidArgument"), .bl (sup.contains "InvalidRow"), .bl (sup.contains "InvalidText"), .bl (sup.contains "TooMany"), .bl (sup.contains "UnknownCell"), .bl (sup.contains "UnknownRule"), .bl (sup.contains "NotAbstract"), .bl (sup.contains "WouldLoop"), .bl (sup.contains "Ambiguous")], .lst [.bl (sup.contains "NoMethod"), .bl (sup.contains "NoNext"), .bl (sup.contains "Reentered")], .lst [.bl (sup.contains "InvalidName"), .bl (sup.contains "UnknownKind"), .bl (sup.contains "InvalidParents"), .bl (sup.contains "NoOrder"), .bl (sup.contains "InvalidSignature"), .bl (sup.contains "InvalidRole"), .bl (sup.contains "InvalidItems"), .bl (sup.contains "InvalidLimit"), .bl (sup.contains "InvalidArgument"), .bl (sup.contains "InvalidRow"), .bl (sup.contains "InvalidText"), .bl (sup.contains "TooMany"), .bl (sup.contains "UnknownCell"), .bl (sup.contains "UnknownRule"), .bl (sup.contains "NotAbstract"), .bl (sup.contains "WouldLoop"), .bl (sup.contains "Ambiguous"), .bl (sup.contains "NoMethod"), .bl (sup.contains "NoNext"), .bl (sup.contains "Reentered")], .lst [.bl (sup.contains "InProgress")], .lst [.bl (sup.contains "InvalidName"), .bl (sup.contains "UnknownKind"), .bl (sup.contains "InvalidParents"), .bl (sup.contains "NoOrder"), .bl (sup.contains "InvalidSignature"), .bl (sup.contains "InvalidRole"), .bl (sup.contains "InvalidItems"), .bl (sup.contains "InvalidLimit"), .bl (sup.contains "InvalidArgument"), .bl (sup.contains "InvalidRow"), .bl (sup.contains "InvalidText"), .bl (sup.contains "TooMany"), .bl (sup.contains "UnknownCell"), .bl (sup.contains "UnknownRule"), .bl (sup.contains "NotAbstract"), .bl (sup.contains "WouldLoop"), .bl (sup.contains "Ambiguous"), .bl (sup.contains "NoMethod"), .bl (sup.contains "NoNext"), .bl (sup.contains "Reentered"), .bl (sup.contains "InProgress")]]
theorem kinds_ok {S : Hs} {c : Str} {fs sup : List Str} {ts : List String} {xs : List PV} (hl : tbX.lookup c = some (sup, ts)) : f__law_kinds_1 [.exn c fs xs] S = .ok (.ref (S.length + 14)) (S ++ kL sup) := by
  suffices h : f__law_kinds_1 [.exn c fs xs] (S ++ []) = .ok (.ref (S.length + 14)) (S ++ kL sup) by
    rw [List.append_nil] at h
    exact h
  unfold f__law_kinds_1 m__law_kinds kL
  simp only [w_body, w_seq, w_asg, w_tup, w_lst, w_cons, w_nil, w_op2, w_op1, w_var, w_pure, w_call, w_callF, w_tru, w_notM, w_andM, w_orM, w_notE, w_andE, w_orE, w_ifE, w_yes, w_ret, w_retN, w_expr, w_if, w_nx, w_par, w_for, w_set, w_tupG, w_tpxG, w_consG, w_nilG, w_sub, w_it, w_rng1, w_zip, w_enum, w_lc, w_lc2, w_turn, w_turn2, w_nilP, w_consP, w_disp, thn_nx, thn_rt, thn_exc, toS_ok, toS_exc, toG_ok, toR_nx, toR_rt, toR_exc, Res.bind_ok, Res.bind_exc, startE, pick, wipeE, List.filterMap_cons, List.filterMap_nil, List.map_cons, List.map_nil, List.getElem?_cons_zero, List.getElem?_cons_succ, List.length_cons, List.length_nil, List.replicate, List.cons_append, List.nil_append, List.set_cons_zero, List.set_cons_succ, binP, cmpP, p_addI, p_subI, p_lt, p_le, p_gt, p_ge, p_neg, p_truB, p_truT, p_lenT, p_lenC, p_max, p_min, p_tupT, Nat.reduceAdd, Nat.reduceSub, Nat.reduceEqDiff, Nat.reduceLeDiff, Nat.reduceLT, Nat.reducePow, Nat.zero_add, sizeLine, if_true, if_false, ite_true, ite_false, Bool.not_true, Bool.not_false, nx_nx, nx_ct, okR_ok, z_isg (x := "InvalidName") hl us_InvalidName, z_isg (x := "UnknownKind") hl us_UnknownKind, z_isg (x := "InvalidParents") hl us_InvalidParents, z_isg (x := "NoOrder") hl us_NoOrder, z_isg (x := "InvalidSignature") hl us_InvalidSignature, z_isg (x := "InvalidRole") hl us_InvalidRole, z_isg (x := "InvalidItems") hl us_InvalidItems, z_isg (x := "InvalidLimit") hl us_InvalidLimit, z_isg (x := "InvalidArgument") hl us_InvalidArgument, z_isg (x := "InvalidRow") hl us_InvalidRow, z_isg (x := "InvalidText") hl us_InvalidText, z_isg (x := "TooMany") hl us_TooMany, z_isg (x := "UnknownCell") hl us_UnknownCell, z_isg (x := "UnknownRule") hl us_UnknownRule, z_isg (x := "NotAbstract") hl us_NotAbstract, z_isg (x := "WouldLoop") hl us_WouldLoop, z_isg (x := "Ambiguous") hl us_Ambiguous, z_isg (x := "NoMethod") hl us_NoMethod, z_isg (x := "NoNext") hl us_NoNext, z_isg (x := "Reentered") hl us_Reentered, z_isg (x := "InProgress") hl us_InProgress, z_new, z_add, z_lst, z_lst0, z_l0, z_lS, Nat.add_zero]
theorem kL_at {S : Hs} {sup : List Str} : lstAt (S ++ kL sup) (S.length + 14) = some ((nm.map sup.contains).map PV.bl) := by
  rw [z_lst]
  rfl
end K56

namespace K56
open PySem PySem.Spec PyProof.Rows L2 D
theorem made_ok {S : Hs} {p : PV} : ∃ L r1 r2 r3 r, f__law_made_1 [p] S = .ok (.ref r) (S ++ L) ∧ lstAt (S ++ L) r = some [.ref r1, .ref r2, .ref r3] ∧ lstAt (S ++ L) r1 = some (firsts p) ∧ lstAt (S ++ L) r2 = some (lasts p) ∧ lstAt (S ++ L) r3 = some (List.replicate 21 p) := by
  suffices h : ∃ L r1 r2 r3 r, f__law_made_1 [p] (S ++ []) = .ok (.ref r) (S ++ L) ∧ lstAt (S ++ L) r = some [.ref r1, .ref r2, .ref r3] ∧ lstAt (S ++ L) r1 = some (firsts p) ∧ lstAt (S ++ L) r2 = some (lasts p) ∧ lstAt (S ++ L) r3 = some (List.replicate 21 p) by
    rw [List.append_nil] at h
    exact h
  unfold f__law_made_1 m__law_made
  simp only [w_body, w_seq, w_asg, w_tup, w_lst, w_cons, w_nil, w_op2, w_op1, w_var, w_pure, w_call, w_callF, w_tru, w_notM, w_andM, w_orM, w_notE, w_andE, w_orE, w_ifE, w_yes, w_ret, w_retN, w_expr, w_if, w_nx, w_par, w_for, w_set, w_tupG, w_tpxG, w_consG, w_nilG, w_sub, w_it, w_rng1, w_zip, w_enum, w_lc, w_lc2, w_turn, w_turn2, w_nilP, w_consP, w_disp, thn_nx, thn_rt, thn_exc, toS_ok, toS_exc, toG_ok, toR_nx, toR_rt, toR_exc, Res.bind_ok, Res.bind_exc, startE, pick, wipeE, List.filterMap_cons, List.filterMap_nil, List.map_cons, List.map_nil, List.getElem?_cons_zero, List.getElem?_cons_succ, List.length_cons, List.length_nil, List.replicate, List.cons_append, List.nil_append, List.set_cons_zero, List.set_cons_succ, binP, cmpP, p_addI, p_subI, p_lt, p_le, p_gt, p_ge, p_neg, p_truB, p_truT, p_lenT, p_lenC, p_max, p_min, p_tupT, Nat.reduceAdd, Nat.reduceSub, Nat.reduceEqDiff, Nat.reduceLeDiff, Nat.reduceLT, Nat.reducePow, Nat.zero_add, sizeLine, if_true, if_false, ite_true, ite_false, Bool.not_true, Bool.not_false, nx_nx, nx_ct, okR_ok, z_mkx, z_mkx1, z_mkx2, z_xf1 (f := "name") in_InvalidName_name, z_xf1 (f := "kind") in_UnknownKind_kind, z_xf1 (f := "index") in_InvalidParents_index, z_xf1 (f := "name") in_NoOrder_name, z_xf1 (f := "index") in_InvalidSignature_index, z_xf1 (f := "value") in_InvalidRole_value, z_xf1 (f := "index") in_InvalidItems_index, z_xf1 (f := "value") in_InvalidLimit_value, z_xf1 (f := "place") in_InvalidArgument_place, z_xf1 (f := "index") in_InvalidRow_index, z_xf1 (f := "line") in_InvalidText_line, z_xf1 (f := "most") in_TooMany_most, z_xf1 (f := "name") in_UnknownCell_name, z_xf1 (f := "name") in_UnknownRule_name, z_xf1 (f := "kind") in_NotAbstract_kind, z_xf2b (f := "abstract") (f2 := "kind") in_WouldLoop_abstract (by decide +kernel), z_xf2a (f := "kind") in_WouldLoop_kind, z_xf2b (f := "part") (f2 := "tied") in_Ambiguous_part (by decide +kernel), z_xf2a (f := "tied") in_Ambiguous_tied, z_xf1 (f := "wanted") in_NoMethod_wanted, z_xf1 (f := "part") in_NoNext_part, z_xf1 (f := "key") in_Reentered_key, z_xf1 (f := "name") in_InProgress_name, z_new, z_add, z_get, z_lst, z_lst0, z_l0, z_lS, gV_some, A_0, A_1, A_2, A_3, A_4, A_5, A_6, A_7, A_8, A_9, A_10, A_11, A_12, A_13, Nat.add_zero]
  refine ⟨_, S.length + 4, S.length + 7, S.length + 14, S.length + 15, rfl, ?_, ?_, ?_, ?_⟩
  · simp only [z_lst, z_lst0, z_l0, z_lS]
  · simp only [z_lst, z_lst0, z_l0, z_lS, firsts]
  · simp only [z_lst, z_lst0, z_l0, z_lS, lasts]
  · simp only [z_lst, z_lst0, z_l0, z_lS]
end K56

namespace K56
open PySem PySem.Spec PyProof.Rows L2 D
structure Row (p : PV) (i : Nat) (c : Str) (fs : List Str) (xs : List PV) (sup : List Str) (ts : List String) : Prop where
  at_ : (firsts p ++ lasts p)[i]? = some (.exn c fs xs)
  lk : tbX.lookup c = some (sup, ts)
  nm_ : nm.map sup.contains = (List.range 21).map fun k => decide (k = i)
  w : sup.contains "WorldError" = decide (i < 14)
  v : ts.contains "ValueError" = decide (i < 14)
  d : sup.contains "DispatchError" = !decide (i < 14)
  r : ts.contains "RuntimeError" = !decide (i < 14)
theorem tab (p : PV) : ∀ i, i < 21 → ∃ (c : Str) (fs : List Str) (xs : List PV) (sup : List Str) (ts : List String), Row p i c fs xs sup ts
  | 0, _ => ⟨"InvalidName", ["name"], [p], ["InvalidName", "WorldError"], ["ValueError"], rfl, by decide +kernel, by decide +kernel, by decide +kernel, by decide +kernel, by decide +kernel, by decide +kernel⟩
  | 1, _ => ⟨"UnknownKind", ["kind"], [p], ["UnknownKind", "WorldError"], ["ValueError"], rfl, by decide +kernel, by decide +kernel, by decide +kernel, by decide +kernel, by decide +kernel, by decide +kernel⟩
  | 2, _ => ⟨"InvalidParents", ["index"], [p], ["InvalidParents", "WorldError"], ["ValueError"], rfl, by decide +kernel, by decide +kernel, by decide +kernel, by decide +kernel, by decide +kernel, by decide +kernel⟩
  | 3, _ => ⟨"NoOrder", ["name"], [p], ["NoOrder", "WorldError"], ["ValueError"], rfl, by decide +kernel, by decide +kernel, by decide +kernel, by decide +kernel, by decide +kernel, by decide +kernel⟩
  | 4, _ => ⟨"InvalidSignature", ["index"], [p], ["InvalidSignature", "WorldError"], ["ValueError"], rfl, by decide +kernel, by decide +kernel, by decide +kernel, by decide +kernel, by decide +kernel, by decide +kernel⟩
  | 5, _ => ⟨"InvalidRole", ["value"], [p], ["InvalidRole", "WorldError"], ["ValueError"], rfl, by decide +kernel, by decide +kernel, by decide +kernel, by decide +kernel, by decide +kernel, by decide +kernel⟩
  | 6, _ => ⟨"InvalidItems", ["index"], [p], ["InvalidItems", "WorldError"], ["ValueError"], rfl, by decide +kernel, by decide +kernel, by decide +kernel, by decide +kernel, by decide +kernel, by decide +kernel⟩
  | 7, _ => ⟨"InvalidLimit", ["value"], [p], ["InvalidLimit", "WorldError"], ["ValueError"], rfl, by decide +kernel, by decide +kernel, by decide +kernel, by decide +kernel, by decide +kernel, by decide +kernel⟩
  | 8, _ => ⟨"InvalidArgument", ["place"], [p], ["InvalidArgument", "WorldError"], ["ValueError"], rfl, by decide +kernel, by decide +kernel, by decide +kernel, by decide +kernel, by decide +kernel, by decide +kernel⟩
  | 9, _ => ⟨"InvalidRow", ["index"], [p], ["InvalidRow", "WorldError"], ["ValueError"], rfl, by decide +kernel, by decide +kernel, by decide +kernel, by decide +kernel, by decide +kernel, by decide +kernel⟩
  | 10, _ => ⟨"InvalidText", ["line"], [p], ["InvalidText", "WorldError"], ["ValueError"], rfl, by decide +kernel, by decide +kernel, by decide +kernel, by decide +kernel, by decide +kernel, by decide +kernel⟩
  | 11, _ => ⟨"TooMany", ["most"], [p], ["TooMany", "WorldError"], ["ValueError"], rfl, by decide +kernel, by decide +kernel, by decide +kernel, by decide +kernel, by decide +kernel, by decide +kernel⟩
  | 12, _ => ⟨"UnknownCell", ["name"], [p], ["UnknownCell", "WorldError"], ["ValueError"], rfl, by decide +kernel, by decide +kernel, by decide +kernel, by decide +kernel, by decide +kernel, by decide +kernel⟩
  | 13, _ => ⟨"UnknownRule", ["name"], [p], ["UnknownRule", "WorldError"], ["ValueError"], rfl, by decide +kernel, by decide +kernel, by decide +kernel, by decide +kernel, by decide +kernel, by decide +kernel⟩
  | 14, _ => ⟨"NotAbstract", ["kind"], [p], ["NotAbstract", "DispatchError"], ["RuntimeError"], rfl, by decide +kernel, by decide +kernel, by decide +kernel, by decide +kernel, by decide +kernel, by decide +kernel⟩
  | 15, _ => ⟨"WouldLoop", ["kind", "abstract"], [p, p], ["WouldLoop", "DispatchError"], ["RuntimeError"], rfl, by decide +kernel, by decide +kernel, by decide +kernel, by decide +kernel, by decide +kernel, by decide +kernel⟩
  | 16, _ => ⟨"Ambiguous", ["tied", "part"], [p, p], ["Ambiguous", "DispatchError"], ["RuntimeError"], rfl, by decide +kernel, by decide +kernel, by decide +kernel, by decide +kernel, by decide +kernel, by decide +kernel⟩
  | 17, _ => ⟨"NoMethod", ["wanted"], [p], ["NoMethod", "DispatchError"], ["RuntimeError"], rfl, by decide +kernel, by decide +kernel, by decide +kernel, by decide +kernel, by decide +kernel, by decide +kernel⟩
  | 18, _ => ⟨"NoNext", ["part"], [p], ["NoNext", "DispatchError"], ["RuntimeError"], rfl, by decide +kernel, by decide +kernel, by decide +kernel, by decide +kernel, by decide +kernel, by decide +kernel⟩
  | 19, _ => ⟨"Reentered", ["key"], [p], ["Reentered", "DispatchError"], ["RuntimeError"], rfl, by decide +kernel, by decide +kernel, by decide +kernel, by decide +kernel, by decide +kernel, by decide +kernel⟩
  | 20, _ => ⟨"InProgress", ["name"], [p], ["InProgress", "DispatchError"], ["RuntimeError"], rfl, by decide +kernel, by decide +kernel, by decide +kernel, by decide +kernel, by decide +kernel, by decide +kernel⟩
  | n + 21, h => by omega
def L8 (b : Bool) : Hs := [.lst [.bl b, .bl b], .lst [.bl (!b), .bl (!b)], .lst [.bl b, .bl b, .bl (!b), .bl (!b)], .lst [.bl b], .lst [.bl b, .bl b], .lst [.bl (!b)], .lst [.bl (!b), .bl (!b)], .lst [.bl b, .bl b, .bl (!b), .bl (!b)]]
theorem us_W : usX.contains "WorldError" = true := by decide +kernel
theorem us_D : usX.contains "DispatchError" = true := by decide +kernel
theorem bs_V : bsX.contains "ValueError" = true := by decide +kernel
theorem bs_R : bsX.contains "RuntimeError" = true := by decide +kernel
theorem rep2 {x : PV} : (List.replicate (Int.toNat 2) [x]).flatten = [x, x] := rfl
theorem lc21 {S : Hs} {i : Nat} {e0 e1 e3 e4 e5 e6 : Option PV} : lcGo (nxt (.rng 0 21)) (lcTurn (setG 6) yesM m__law_families_right_e1 [e0, e1, some (.int i), e3, e4, e5, none]) FUEL 0 [] S = .ok (((List.range 21).map fun k => decide (k = i)).map PV.bl) S := by
  have h := lcGo_map (S := S) (nx := nxt (.rng 0 21)) (turn := lcTurn (setG 6) yesM m__law_families_right_e1 [e0, e1, some (.int i), e3, e4, e5, none]) (xs := List.range 21) (f := fun (j : Nat) => PV.int j) (g := fun k => some (PV.bl (decide (k = i)))) nxt_rng (fun k _ => by
    simp only [m__law_families_right_e1, w_body, w_seq, w_asg, w_tup, w_lst, w_cons, w_nil, w_op2, w_op1, w_var, w_pure, w_call, w_callF, w_tru, w_notM, w_andM, w_orM, w_notE, w_andE, w_orE, w_ifE, w_yes, w_ret, w_retN, w_expr, w_if, w_nx, w_par, w_for, w_set, w_tupG, w_tpxG, w_consG, w_nilG, w_sub, w_it, w_rng1, w_zip, w_enum, w_lc, w_lc2, w_turn, w_turn2, w_nilP, w_consP, w_disp, thn_nx, thn_rt, thn_exc, toS_ok, toS_exc, toG_ok, toR_nx, toR_rt, toR_exc, Res.bind_ok, Res.bind_exc, startE, pick, wipeE, List.filterMap_cons, List.filterMap_nil, List.map_cons, List.map_nil, List.getElem?_cons_zero, List.getElem?_cons_succ, List.length_cons, List.length_nil, List.replicate, List.cons_append, List.nil_append, List.set_cons_zero, List.set_cons_succ, binP, cmpP, p_addI, p_subI, p_lt, p_le, p_gt, p_ge, p_neg, p_truB, p_truT, p_lenT, p_lenC, p_max, p_min, p_tupT, Nat.reduceAdd, Nat.reduceSub, Nat.reduceEqDiff, Nat.reduceLeDiff, Nat.reduceLT, Nat.reducePow, Nat.zero_add, sizeLine, if_true, if_false, ite_true, ite_false, Bool.not_true, Bool.not_false, nx_nx, nx_ct, okR_ok, p_eqI]
    congr 4
    have : ((k : Int) = (i : Int)) ↔ k = i := by omega
    exact propext this) (by simp) []
  rw [h, List.filterMap_eq_map', List.nil_append, List.map_map]
  rfl
theorem fam_turn {S : Hs} {r1 i : Nat} {p : PV} {c : Str} {fs sup : List Str} {xs : List PV} {ts : List String} {x1 x4 x5 x6 : Option PV} (hi : i < 21) (R : Row p i c fs xs sup ts) (h1 : lstAt S r1 = some (firsts p)) : ∃ (L : Hs) (x4' x5' : Option PV),
    m__law_families_right_b1 [some (.ref r1), x1, some (.int i), some (.exn c fs xs), x4, x5, x6] S = .nx [some (.ref r1), x1, some (.int i), some (.exn c fs xs), x4', x5', x6] (S ++ L) := by
  suffices h : ∃ (L : Hs) (x4' x5' : Option PV),
    m__law_families_right_b1 [some (.ref r1), x1, some (.int i), some (.exn c fs xs), x4, x5, x6] (S ++ []) = .nx [some (.ref r1), x1, some (.int i), some (.exn c fs xs), x4', x5', x6] (S ++ L) by
    rw [List.append_nil] at h
    exact h
  obtain ⟨_, hl, hn, hw, hv, hd, hr⟩ := R
  have hlen := p_lenL (S := S ++ []) (r := r1) (xs := firsts p) (lstAt_eq (z_pre h1))
  have hb : decide ((i : Int) < ((firsts p).length : Int)) = decide (i < 14) := decide_eq_decide.mpr (by
    have : (firsts p).length = 14 := rfl
    rw [this]
    omega)
  generalize decide (i < 14) = b at *
  have ne1 := p_neBs (S := S ++ L8 b) (r := S.length + 2) (q := S.length + 7) (xs := [b, b, !b, !b]) (ys := [b, b, !b, !b]) (by rw [z_lst]; rfl) (by rw [z_lst]; rfl)
  rw [decide_eq_true rfl] at ne1
  have kk := kinds_ok (S := S ++ L8 b) (fs := fs) (xs := xs) hl
  have rg := rngR_int (S := S ++ L8 b ++ kL sup) (j := 21) (by decide)
  have lc := lc21 (S := S ++ L8 b ++ kL sup) (i := i) (e0 := some (.ref r1)) (e1 := x1) (e3 := some (.exn c fs xs)) (e4 := some (.bl b)) (e5 := some (.ref (S.length + 2))) (e6 := x6)
  have nw := p_new (S := S ++ L8 b ++ kL sup) (xs := ((List.range 21).map fun k => decide (k = i)).map PV.bl) (by simp [sizeLine])
  have ne2 := p_neBs (S := S ++ L8 b ++ kL sup ++ [.lst (((List.range 21).map fun k => decide (k = i)).map PV.bl)]) (r := (S ++ L8 b).length + 14) (q := (S ++ L8 b ++ kL sup).length) (z_pre kL_at) (lstAt_of at_last)
  rw [hn, decide_eq_true rfl] at ne2
  rw [show Int.toNat 21 = 21 from rfl] at rg
  generalize ((List.range 21).map fun k => decide (k = i)).map PV.bl = bs at *
  have e8 : L8 b = [.lst [.bl b, .bl b], .lst [.bl (!b), .bl (!b)], .lst [.bl b, .bl b, .bl (!b), .bl (!b)], .lst [.bl b], .lst [.bl b, .bl b], .lst [.bl (!b)], .lst [.bl (!b), .bl (!b)], .lst [.bl b, .bl b, .bl (!b), .bl (!b)]] := rfl
  generalize L8 b = l8 at *
  unfold m__law_families_right_b1
  simp only [w_body, w_seq, w_asg, w_tup, w_lst, w_cons, w_nil, w_op2, w_op1, w_var, w_pure, w_call, w_callF, w_tru, w_notM, w_andM, w_orM, w_notE, w_andE, w_orE, w_ifE, w_yes, w_ret, w_retN, w_expr, w_if, w_nx, w_par, w_for, w_set, w_tupG, w_tpxG, w_consG, w_nilG, w_sub, w_it, w_rng1, w_zip, w_enum, w_lc, w_lc2, w_turn, w_turn2, w_nilP, w_consP, w_disp, thn_nx, thn_rt, thn_exc, toS_ok, toS_exc, toG_ok, toR_nx, toR_rt, toR_exc, Res.bind_ok, Res.bind_exc, startE, pick, wipeE, List.filterMap_cons, List.filterMap_nil, List.map_cons, List.map_nil, List.getElem?_cons_zero, List.getElem?_cons_succ, List.length_cons, List.length_nil, List.replicate, List.cons_append, List.nil_append, List.set_cons_zero, List.set_cons_succ, binP, cmpP, p_addI, p_subI, p_lt, p_le, p_gt, p_ge, p_neg, p_truB, p_truT, p_lenT, p_lenC, p_max, p_min, p_tupT, Nat.reduceAdd, Nat.reduceSub, Nat.reduceEqDiff, Nat.reduceLeDiff, Nat.reduceLT, Nat.reducePow, Nat.zero_add, sizeLine, if_true, if_false, ite_true, ite_false, Bool.not_true, Bool.not_false, nx_nx, nx_ct, okR_ok, hlen, hb, z_isg (x := "WorldError") hl us_W, z_isg (x := "DispatchError") hl us_D, z_ist (t := "ValueError") hl bs_V, z_ist (t := "RuntimeError") hl bs_R, hw, hv, hd, hr, z_new, z_add, z_mul, z_lst, z_lst0, z_l0, z_lS, Nat.add_zero, rep2, show ((0 : Int) ≤ 2 ∧ (2 : Int) < 2 ^ 63) = True from by decide, ← e8]
  simp only [ne1, w_body, w_seq, w_asg, w_tup, w_lst, w_cons, w_nil, w_op2, w_op1, w_var, w_pure, w_call, w_callF, w_tru, w_notM, w_andM, w_orM, w_notE, w_andE, w_orE, w_ifE, w_yes, w_ret, w_retN, w_expr, w_if, w_nx, w_par, w_for, w_set, w_tupG, w_tpxG, w_consG, w_nilG, w_sub, w_it, w_rng1, w_zip, w_enum, w_lc, w_lc2, w_turn, w_turn2, w_nilP, w_consP, w_disp, thn_nx, thn_rt, thn_exc, toS_ok, toS_exc, toG_ok, toR_nx, toR_rt, toR_exc, Res.bind_ok, Res.bind_exc, startE, pick, wipeE, List.filterMap_cons, List.filterMap_nil, List.map_cons, List.map_nil, List.getElem?_cons_zero, List.getElem?_cons_succ, List.length_cons, List.length_nil, List.replicate, List.cons_append, List.nil_append, List.set_cons_zero, List.set_cons_succ, binP, cmpP, p_addI, p_subI, p_lt, p_le, p_gt, p_ge, p_neg, p_truB, p_truT, p_lenT, p_lenC, p_max, p_min, p_tupT, Nat.reduceAdd, Nat.reduceSub, Nat.reduceEqDiff, Nat.reduceLeDiff, Nat.reduceLT, Nat.reducePow, Nat.zero_add, sizeLine, if_true, if_false, ite_true, ite_false, Bool.not_true, Bool.not_false, nx_nx, nx_ct, okR_ok, Bool.false_eq_true, kk, rg, lc, nw, ne2]
  exact ⟨l8 ++ kL sup ++ [.lst bs], some (.bl b), some (.ref (S.length + 2)), by simp only [List.append_assoc]⟩
theorem families_ok {S : Hs} {r1 r2 : Nat} {p : PV} (h1 : lstAt S r1 = some (firsts p)) (h2 : lstAt S r2 = some (lasts p)) : ∃ L, f__law_families_right_2 [.ref r1, .ref r2] S = .ok (.bl true) (S ++ L) := by
  have nw := p_new (S := S) (xs := firsts p ++ lasts p) (by simp [firsts, lasts, sizeLine])
  have ha := p_addL (S := S) (r := r1) (q := r2) (lstAt_eq h1) (lstAt_eq h2)
  have hq : lstAt (S ++ [.lst (firsts p ++ lasts p)]) S.length = some (firsts p ++ lasts p) := lstAt_of at_last
  obtain ⟨env', S', e, x2, x3, x4, x5, x6, L, rfl, rfl⟩ := for_inv (nx := nxt (.enumL S.length)) (t := tupG 2 (consG (setG 2) (consG (setG 3) nilG))) (body := m__law_families_right_b1)
    (fun _ env S' => ∃ (x2 x3 x4 x5 x6 : Option PV) (L : Hs), env = [some (.ref r1), some (.ref r2), x2, x3, x4, x5, x6] ∧ S' = S ++ [.lst (firsts p ++ lasts p)] ++ L) 21 (by decide)
    (by
      rintro env S' ⟨x2, x3, x4, x5, x6, L, rfl, rfl⟩
      rw [nxt_enumL (z_pre hq)]
      rfl)
    (by
      rintro i env S' hi ⟨x2, x3, x4, x5, x6, L, rfl, rfl⟩
      obtain ⟨c, fs, xs, sup, ts, R⟩ := tab p i hi
      refine ⟨_, by rw [nxt_enumL (z_pre hq), R.at_]; rfl, ?_⟩
      obtain ⟨L', x4', x5', e⟩ := fam_turn (S := S ++ [.lst (firsts p ++ lasts p)] ++ L) (r1 := r1) (x1 := some (.ref r2)) (x4 := x4) (x5 := x5) (x6 := x6) hi R (z_pre (z_pre h1))
      simp only [w_body, w_seq, w_asg, w_tup, w_lst, w_cons, w_nil, w_op2, w_op1, w_var, w_pure, w_call, w_callF, w_tru, w_notM, w_andM, w_orM, w_notE, w_andE, w_orE, w_ifE, w_yes, w_ret, w_retN, w_expr, w_if, w_nx, w_par, w_for, w_set, w_tupG, w_tpxG, w_consG, w_nilG, w_sub, w_it, w_rng1, w_zip, w_enum, w_lc, w_lc2, w_turn, w_turn2, w_nilP, w_consP, w_disp, thn_nx, thn_rt, thn_exc, toS_ok, toS_exc, toG_ok, toR_nx, toR_rt, toR_exc, Res.bind_ok, Res.bind_exc, startE, pick, wipeE, List.filterMap_cons, List.filterMap_nil, List.map_cons, List.map_nil, List.getElem?_cons_zero, List.getElem?_cons_succ, List.length_cons, List.length_nil, List.replicate, List.cons_append, List.nil_append, List.set_cons_zero, List.set_cons_succ, binP, cmpP, p_addI, p_subI, p_lt, p_le, p_gt, p_ge, p_neg, p_truB, p_truT, p_lenT, p_lenC, p_max, p_min, p_tupT, Nat.reduceAdd, Nat.reduceSub, Nat.reduceEqDiff, Nat.reduceLeDiff, Nat.reduceLT, Nat.reducePow, Nat.zero_add, sizeLine, if_true, if_false, ite_true, ite_false, Bool.not_true, Bool.not_false, nx_nx, nx_ct, okR_ok, e]
      exact ⟨_, _, _, _, _, L ++ L', rfl, by rw [List.append_assoc]⟩)
    (S := S ++ [.lst (firsts p ++ lasts p)]) (env := [some (.ref r1), some (.ref r2), none, none, none, none, none]) ⟨_, _, _, _, _, [], rfl, by rw [List.append_nil]⟩
  unfold f__law_families_right_2 m__law_families_right
  simp only [w_body, w_seq, w_asg, w_tup, w_lst, w_cons, w_nil, w_op2, w_op1, w_var, w_pure, w_call, w_callF, w_tru, w_notM, w_andM, w_orM, w_notE, w_andE, w_orE, w_ifE, w_yes, w_ret, w_retN, w_expr, w_if, w_nx, w_par, w_for, w_set, w_tupG, w_tpxG, w_consG, w_nilG, w_sub, w_it, w_rng1, w_zip, w_enum, w_lc, w_lc2, w_turn, w_turn2, w_nilP, w_consP, w_disp, thn_nx, thn_rt, thn_exc, toS_ok, toS_exc, toG_ok, toR_nx, toR_rt, toR_exc, Res.bind_ok, Res.bind_exc, startE, pick, wipeE, List.filterMap_cons, List.filterMap_nil, List.map_cons, List.map_nil, List.getElem?_cons_zero, List.getElem?_cons_succ, List.length_cons, List.length_nil, List.replicate, List.cons_append, List.nil_append, List.set_cons_zero, List.set_cons_succ, binP, cmpP, p_addI, p_subI, p_lt, p_le, p_gt, p_ge, p_neg, p_truB, p_truT, p_lenT, p_lenC, p_max, p_min, p_tupT, Nat.reduceAdd, Nat.reduceSub, Nat.reduceEqDiff, Nat.reduceLeDiff, Nat.reduceLT, Nat.reducePow, Nat.zero_add, sizeLine, if_true, if_false, ite_true, ite_false, Bool.not_true, Bool.not_false, nx_nx, nx_ct, okR_ok, ha, nw, hq, e]
  exact ⟨_, by rw [List.append_assoc]⟩
end K56

namespace K56
open PySem PySem.Spec PyProof.Rows L2 D
/-! the source of draws -/
def sd (g : Nat) (nx rs ct : Int) : PObj := .dct [(.inr "cells", .ref g), (.inr "next", .int nx), (.inr "rest", .int rs), (.inr "count", .int ct)]
theorem n12 : (("cells" : Str) = "next") = False := by decide
theorem n13 : (("cells" : Str) = "rest") = False := by decide
theorem n14 : (("cells" : Str) = "count") = False := by decide
theorem n21 : (("next" : Str) = "cells") = False := by decide
theorem n23 : (("next" : Str) = "rest") = False := by decide
theorem n24 : (("next" : Str) = "count") = False := by decide
theorem n31 : (("rest" : Str) = "cells") = False := by decide
theorem n32 : (("rest" : Str) = "next") = False := by decide
theorem n34 : (("rest" : Str) = "count") = False := by decide
theorem n41 : (("count" : Str) = "cells") = False := by decide
theorem n42 : (("count" : Str) = "next") = False := by decide
theorem n43 : (("count" : Str) = "rest") = False := by decide
section
variable {S : Hs} {r g : Nat} {nx rs ct u : Int}
theorem sd_cells (h : S[r]? = some (sd g nx rs ct)) : getP (.ref r) (.str "cells") S = .ok (.ref g) S := by
  simp only [getP, dctAt, h, sd, keyP, dval, List.find?, Sum.inr.injEq, decide_false, decide_true, Option.map]
theorem sd_next (h : S[r]? = some (sd g nx rs ct)) : getP (.ref r) (.str "next") S = .ok (.int nx) S := by
  simp only [getP, dctAt, h, sd, keyP, dval, List.find?, Sum.inr.injEq, n12, decide_false, decide_true, Option.map]
theorem sd_rest (h : S[r]? = some (sd g nx rs ct)) : getP (.ref r) (.str "rest") S = .ok (.int rs) S := by
  simp only [getP, dctAt, h, sd, keyP, dval, List.find?, Sum.inr.injEq, n13, n23, decide_false, decide_true, Option.map]
theorem sd_count (h : S[r]? = some (sd g nx rs ct)) : getP (.ref r) (.str "count") S = .ok (.int ct) S := by
  simp only [getP, dctAt, h, sd, keyP, dval, List.find?, Sum.inr.injEq, n14, n24, n34, decide_false, decide_true, Option.map]
theorem sd_sNext (h : S[r]? = some (sd g nx rs ct)) : setP (.ref r) (.str "next") (.int u) S = .ok () (S.set r (sd g u rs ct)) := by
  simp only [setP, h, sd, keyP, dput, List.any, List.map, List.length_cons, List.length_nil, Sum.inr.injEq, n12, n32, n42, decide_false, decide_true, Bool.or_true, Bool.or_false, Bool.true_or, if_true, if_false, sizeLine, Nat.zero_add, Nat.reduceAdd, Nat.reducePow, Nat.reduceLT]
theorem sd_sRest (h : S[r]? = some (sd g nx rs ct)) : setP (.ref r) (.str "rest") (.int u) S = .ok () (S.set r (sd g nx u ct)) := by
  simp only [setP, h, sd, keyP, dput, List.any, List.map, List.length_cons, List.length_nil, Sum.inr.injEq, n13, n23, n43, decide_false, decide_true, Bool.or_true, Bool.or_false, Bool.true_or, if_true, if_false, sizeLine, Nat.zero_add, Nat.reduceAdd, Nat.reducePow, Nat.reduceLT]
theorem sd_sCount (h : S[r]? = some (sd g nx rs ct)) : setP (.ref r) (.str "count") (.int u) S = .ok () (S.set r (sd g nx rs u)) := by
  simp only [setP, h, sd, keyP, dput, List.any, List.map, List.length_cons, List.length_nil, Sum.inr.injEq, n14, n24, n34, decide_false, decide_true, Bool.or_true, Bool.or_false, Bool.true_or, if_true, if_false, sizeLine, Nat.zero_add, Nat.reduceAdd, Nat.reducePow, Nat.reduceLT]
end
/-- the source: its dict at r, its cells at g, at most k cells mixed -/
structure Src (S : Hs) (r g : Nat) (cs : List Int) (k : Nat) : Prop where
  ne : r ≠ g
  d : ∃ nx rs ct : Int, S[r]? = some (sd g nx rs ct) ∧ 0 ≤ nx ∧ 0 ≤ rs ∧ 0 ≤ ct ∧ ct ≤ k
  c : S[g]? = some (.lst (cs.map PV.int))
  c0 : cs ≠ []
theorem Src.keep {S S' : Hs} {r g : Nat} {cs : List Int} {k : Nat} (m : Src S r g cs k) (h : Keeps S S' []) : Src S' r g cs k := by
  obtain ⟨ne, ⟨nx, rs, ct, h1, h2⟩, hc, h0⟩ := m
  exact ⟨ne, ⟨nx, rs, ct, h.at h1 (by simp), h2⟩, h.at hc (by simp), h0⟩
theorem p_pow18 {S : Hs} : powP (.int 10) (.int 18) S = .ok (.int (10 ^ 18)) S := rfl
/-- the mixing -/
theorem mix_ok {S : Hs} {r g : Nat} {nx rs ct cell : Int} {x1 x3 x4 x5 : Option PV} (hr : S[r]? = some (sd g nx rs ct)) (h0 : 0 ≤ ct) (h1 : ct ≤ 1048576) : ∃ (x3' x4' : Option PV) (rs' : Int), 0 ≤ rs' ∧
    m__law_draw_i1 [some (.ref r), x1, some (.int cell), x3, x4, x5] S = .nx [some (.ref r), x1, some (.int cell), x3', x4', x5] (S.set r (sd g nx rs' (ct + 1))) := by
  have hr1 := at_set hr (o' := sd g nx rs (ct + 1))
  have a0 := Int.emod_nonneg cell (show (2147483629 : Int) ≠ 0 by decide)
  have a1 := Int.emod_lt_of_pos cell (show (0 : Int) < 2147483629 by decide)
  unfold m__law_draw_i1
  simp only [w_body, w_seq, w_asg, w_tup, w_lst, w_cons, w_nil, w_op2, w_op1, w_var, w_pure, w_call, w_callF, w_tru, w_notM, w_andM, w_orM, w_notE, w_andE, w_orE, w_ifE, w_yes, w_ret, w_retN, w_expr, w_if, w_nx, w_par, w_for, w_set, w_tupG, w_tpxG, w_consG, w_nilG, w_sub, w_it, w_rng1, w_zip, w_enum, w_lc, w_lc2, w_turn, w_turn2, w_nilP, w_consP, w_disp, thn_nx, thn_rt, thn_exc, toS_ok, toS_exc, toG_ok, toR_nx, toR_rt, toR_exc, Res.bind_ok, Res.bind_exc, startE, pick, wipeE, List.filterMap_cons, List.filterMap_nil, List.map_cons, List.map_nil, List.getElem?_cons_zero, List.getElem?_cons_succ, List.length_cons, List.length_nil, List.replicate, List.cons_append, List.nil_append, List.append_nil, List.set_cons_zero, List.set_cons_succ, binP, cmpP, p_addI, p_subI, p_lt, p_le, p_gt, p_ge, p_neg, p_truB, p_truT, p_lenT, p_lenC, p_max, p_min, p_tupT, Nat.reduceAdd, Nat.reduceSub, Nat.reduceEqDiff, Nat.reduceLeDiff, Nat.reduceLT, Nat.reducePow, Nat.zero_add, sizeLine, if_true, if_false, ite_true, ite_false, Bool.not_true, Bool.not_false, nx_nx, nx_ct, okR_ok, sd_count hr, sd_sCount hr, p_mod (j := 2147483629) (by decide), p_mulL (i := 7919) (by decide), p_mulL (i := ct + 1) (by omega), p_mulL (i := cell % 2147483629 + 7919 * (ct + 1)) (by omega), p_mod (j := 2147483647) (by decide)]
  generalize hm : (cell % 2147483629 + 7919 * (ct + 1)) * ((ct + 1) * (ct + 1) + 48271) % 2147483647 = mx
  have b0 : 0 ≤ mx := by rw [← hm]; exact Int.emod_nonneg _ (by decide)
  have b1 : mx < 2147483647 := by rw [← hm]; exact Int.emod_lt_of_pos _ (by decide)
  have c0 : 0 ≤ mx * 16777619 % 2147483563 := Int.emod_nonneg _ (by decide)
  have d0 : 0 ≤ mx * mx % 2147483587 := Int.emod_nonneg _ (by decide)
  have hr2 := at_set hr1 (o' := sd g nx (mx * 16777619 % 2147483563 * 2147483647) (ct + 1))
  simp only [w_body, w_seq, w_asg, w_tup, w_lst, w_cons, w_nil, w_op2, w_op1, w_var, w_pure, w_call, w_callF, w_tru, w_notM, w_andM, w_orM, w_notE, w_andE, w_orE, w_ifE, w_yes, w_ret, w_retN, w_expr, w_if, w_nx, w_par, w_for, w_set, w_tupG, w_tpxG, w_consG, w_nilG, w_sub, w_it, w_rng1, w_zip, w_enum, w_lc, w_lc2, w_turn, w_turn2, w_nilP, w_consP, w_disp, thn_nx, thn_rt, thn_exc, toS_ok, toS_exc, toG_ok, toR_nx, toR_rt, toR_exc, Res.bind_ok, Res.bind_exc, startE, pick, wipeE, List.filterMap_cons, List.filterMap_nil, List.map_cons, List.map_nil, List.getElem?_cons_zero, List.getElem?_cons_succ, List.length_cons, List.length_nil, List.replicate, List.cons_append, List.nil_append, List.append_nil, List.set_cons_zero, List.set_cons_succ, binP, cmpP, p_addI, p_subI, p_lt, p_le, p_gt, p_ge, p_neg, p_truB, p_truT, p_lenT, p_lenC, p_max, p_min, p_tupT, Nat.reduceAdd, Nat.reduceSub, Nat.reduceEqDiff, Nat.reduceLeDiff, Nat.reduceLT, Nat.reducePow, Nat.zero_add, sizeLine, if_true, if_false, ite_true, ite_false, Bool.not_true, Bool.not_false, nx_nx, nx_ct, okR_ok, p_mulR (j := 16777619) (by decide), p_mod (j := 2147483563) (by decide), p_mulR (j := 2147483647) (by decide), sd_sRest hr1, sd_rest hr2, p_mulL (i := mx) (by omega), p_mod (j := 2147483587) (by decide), sd_sRest hr2]
  simp only [List.set_set]
  exact ⟨_, _, mx * 16777619 % 2147483563 * 2147483647 + mx * mx % 2147483587 + 1, by omega, rfl⟩
theorem draw_ok {S : Hs} {r g k : Nat} {cs : List Int} {b : Int} (m : Src S r g cs k) (hk : k ≤ 1048576) (hb : 0 < b) (hb2 : b < 1073741824) :
    ∃ v S', f__law_draw_2 [.ref r, .int b] S = .ok (.int v) S' ∧ 0 ≤ v ∧ v < b ∧ Src S' r g cs (k + 1) ∧ Keeps S S' [r] := by
  obtain ⟨ne, ⟨nx, rs, ct, hr, n0, r0, t0, t1⟩, hc, hc0⟩ := m
  have tail : ∀ (S1 : Hs) (nx rs ct : Int) (x2 x3 x4 : Option PV), S1[r]? = some (sd g nx rs ct) → 0 ≤ nx → 0 ≤ rs → 0 ≤ ct → ct ≤ k + 1 → S1[g]? = some (.lst (cs.map PV.int)) → Keeps S S1 [r] →
      ∃ v S', ((seqS (asgS (op2 (binP .Mod) (op2 getP (varM 0) (pureM (.str "rest"))) (varM 1)) (setG 5))
        (seqS (asgS (op2 (binP .FloorDiv) (op2 getP (varM 0) (pureM (.str "rest"))) (varM 1)) (subG (varM 0) (pureM (.str "rest"))))
        (retS (varM 5)))) [some (.ref r), some (.int b), x2, x3, x4, none] S1).toR = .ok (.int v) S' ∧ 0 ≤ v ∧ v < b ∧ Src S' r g cs (k + 1) ∧ Keeps S S' [r] := by
    intro S1 nx rs ct x2 x3 x4 h1 n0 r0 t0 t1 h2 kp
    simp only [w_body, w_seq, w_asg, w_tup, w_lst, w_cons, w_nil, w_op2, w_op1, w_var, w_pure, w_call, w_callF, w_tru, w_notM, w_andM, w_orM, w_notE, w_andE, w_orE, w_ifE, w_yes, w_ret, w_retN, w_expr, w_if, w_nx, w_par, w_for, w_set, w_tupG, w_tpxG, w_consG, w_nilG, w_sub, w_it, w_rng1, w_zip, w_enum, w_lc, w_lc2, w_turn, w_turn2, w_nilP, w_consP, w_disp, thn_nx, thn_rt, thn_exc, toS_ok, toS_exc, toG_ok, toR_nx, toR_rt, toR_exc, Res.bind_ok, Res.bind_exc, startE, pick, wipeE, List.filterMap_cons, List.filterMap_nil, List.map_cons, List.map_nil, List.getElem?_cons_zero, List.getElem?_cons_succ, List.length_cons, List.length_nil, List.replicate, List.cons_append, List.nil_append, List.append_nil, List.set_cons_zero, List.set_cons_succ, binP, cmpP, p_addI, p_subI, p_lt, p_le, p_gt, p_ge, p_neg, p_truB, p_truT, p_lenT, p_lenC, p_max, p_min, p_tupT, Nat.reduceAdd, Nat.reduceSub, Nat.reduceEqDiff, Nat.reduceLeDiff, Nat.reduceLT, Nat.reducePow, Nat.zero_add, sizeLine, if_true, if_false, ite_true, ite_false, Bool.not_true, Bool.not_false, nx_nx, nx_ct, okR_ok, sd_rest h1, p_mod hb, p_div ⟨hb, hb2⟩, sd_sRest h1]
    refine ⟨_, _, rfl, Int.emod_nonneg _ (by omega), Int.emod_lt_of_pos _ hb, ⟨ne, ⟨_, _, _, at_set h1, n0, Int.ediv_nonneg r0 (by omega), t0, by omega⟩, at_else h2 ne, hc0⟩, kp.trans (.set (by simp))⟩
  unfold f__law_draw_2 m__law_draw
  simp only [w_body, w_seq, w_asg, w_tup, w_lst, w_cons, w_nil, w_op2, w_op1, w_var, w_pure, w_call, w_callF, w_tru, w_notM, w_andM, w_orM, w_notE, w_andE, w_orE, w_ifE, w_yes, w_ret, w_retN, w_expr, w_if, w_nx, w_par, w_for, w_set, w_tupG, w_tpxG, w_consG, w_nilG, w_sub, w_it, w_rng1, w_zip, w_enum, w_lc, w_lc2, w_turn, w_turn2, w_nilP, w_consP, w_disp, thn_nx, thn_rt, thn_exc, toS_ok, toS_exc, toG_ok, toR_nx, toR_rt, toR_exc, Res.bind_ok, Res.bind_exc, startE, pick, wipeE, List.filterMap_cons, List.filterMap_nil, List.map_cons, List.map_nil, List.getElem?_cons_zero, List.getElem?_cons_succ, List.length_cons, List.length_nil, List.replicate, List.cons_append, List.nil_append, List.append_nil, List.set_cons_zero, List.set_cons_succ, binP, cmpP, p_addI, p_subI, p_lt, p_le, p_gt, p_ge, p_neg, p_truB, p_truT, p_lenT, p_lenC, p_max, p_min, p_tupT, Nat.reduceAdd, Nat.reduceSub, Nat.reduceEqDiff, Nat.reduceLeDiff, Nat.reduceLT, Nat.reducePow, Nat.zero_add, sizeLine, if_true, if_false, ite_true, ite_false, Bool.not_true, Bool.not_false, nx_nx, nx_ct, okR_ok, sd_rest hr, p_eqI]
  by_cases hz : rs = 0
  · simp only [decide_eq_true hz, w_body, w_seq, w_asg, w_tup, w_lst, w_cons, w_nil, w_op2, w_op1, w_var, w_pure, w_call, w_callF, w_tru, w_notM, w_andM, w_orM, w_notE, w_andE, w_orE, w_ifE, w_yes, w_ret, w_retN, w_expr, w_if, w_nx, w_par, w_for, w_set, w_tupG, w_tpxG, w_consG, w_nilG, w_sub, w_it, w_rng1, w_zip, w_enum, w_lc, w_lc2, w_turn, w_turn2, w_nilP, w_consP, w_disp, thn_nx, thn_rt, thn_exc, toS_ok, toS_exc, toG_ok, toR_nx, toR_rt, toR_exc, Res.bind_ok, Res.bind_exc, startE, pick, wipeE, List.filterMap_cons, List.filterMap_nil, List.map_cons, List.map_nil, List.getElem?_cons_zero, List.getElem?_cons_succ, List.length_cons, List.length_nil, List.replicate, List.cons_append, List.nil_append, List.append_nil, List.set_cons_zero, List.set_cons_succ, binP, cmpP, p_addI, p_subI, p_lt, p_le, p_gt, p_ge, p_neg, p_truB, p_truT, p_lenT, p_lenC, p_max, p_min, p_tupT, Nat.reduceAdd, Nat.reduceSub, Nat.reduceEqDiff, Nat.reduceLeDiff, Nat.reduceLT, Nat.reducePow, Nat.zero_add, sizeLine, if_true, if_false, ite_true, ite_false, Bool.not_true, Bool.not_false, nx_nx, nx_ct, okR_ok]
    unfold m__law_draw_i2
    have hl : 0 < cs.length := List.length_pos_iff.mpr hc0
    have hlz : (0 : Int) < (cs.length : Int) := by omega
    have a0 := Int.emod_nonneg nx (show (cs.length : Int) ≠ 0 by omega)
    have a1 := Int.emod_lt_of_pos nx hlz
    have hget : atI (cs.map PV.int) (nx % (cs.length : Int)) = some (.int (cs[(nx % (cs.length : Int)).toNat]'(by omega))) := by
      rw [atI_lt a0 (by rw [List.length_map]; omega)]
      simp
    have hr1 := at_set hr (o' := sd g (nx + 1) rs ct)
    have hc1 := at_else (o' := sd g (nx + 1) rs ct) hc ne
    have k1 : Keeps S (S.set r (sd g (nx + 1) rs ct)) [r] := .set (by simp)
    simp only [w_body, w_seq, w_asg, w_tup, w_lst, w_cons, w_nil, w_op2, w_op1, w_var, w_pure, w_call, w_callF, w_tru, w_notM, w_andM, w_orM, w_notE, w_andE, w_orE, w_ifE, w_yes, w_ret, w_retN, w_expr, w_if, w_nx, w_par, w_for, w_set, w_tupG, w_tpxG, w_consG, w_nilG, w_sub, w_it, w_rng1, w_zip, w_enum, w_lc, w_lc2, w_turn, w_turn2, w_nilP, w_consP, w_disp, thn_nx, thn_rt, thn_exc, toS_ok, toS_exc, toG_ok, toR_nx, toR_rt, toR_exc, Res.bind_ok, Res.bind_exc, startE, pick, wipeE, List.filterMap_cons, List.filterMap_nil, List.map_cons, List.map_nil, List.getElem?_cons_zero, List.getElem?_cons_succ, List.length_cons, List.length_nil, List.replicate, List.cons_append, List.nil_append, List.append_nil, List.set_cons_zero, List.set_cons_succ, binP, cmpP, p_addI, p_subI, p_lt, p_le, p_gt, p_ge, p_neg, p_truB, p_truT, p_lenT, p_lenC, p_max, p_min, p_tupT, Nat.reduceAdd, Nat.reduceSub, Nat.reduceEqDiff, Nat.reduceLeDiff, Nat.reduceLT, Nat.reducePow, Nat.zero_add, sizeLine, if_true, if_false, ite_true, ite_false, Bool.not_true, Bool.not_false, nx_nx, nx_ct, okR_ok, sd_cells hr, sd_next hr, p_lenL hc, List.length_map, p_mod hlz, p_getL hc, hget, sd_sNext hr, p_pow18]
    generalize S.set r (sd g (nx + 1) rs ct) = S1 at hr1 hc1 k1
    generalize cs[(nx % (cs.length : Int)).toNat]'(by omega) = cell
    by_cases hbig : (10 : Int) ^ 18 ≤ cell
    · simp only [decide_eq_true hbig, w_body, w_seq, w_asg, w_tup, w_lst, w_cons, w_nil, w_op2, w_op1, w_var, w_pure, w_call, w_callF, w_tru, w_notM, w_andM, w_orM, w_notE, w_andE, w_orE, w_ifE, w_yes, w_ret, w_retN, w_expr, w_if, w_nx, w_par, w_for, w_set, w_tupG, w_tpxG, w_consG, w_nilG, w_sub, w_it, w_rng1, w_zip, w_enum, w_lc, w_lc2, w_turn, w_turn2, w_nilP, w_consP, w_disp, thn_nx, thn_rt, thn_exc, toS_ok, toS_exc, toG_ok, toR_nx, toR_rt, toR_exc, Res.bind_ok, Res.bind_exc, startE, pick, wipeE, List.filterMap_cons, List.filterMap_nil, List.map_cons, List.map_nil, List.getElem?_cons_zero, List.getElem?_cons_succ, List.length_cons, List.length_nil, List.replicate, List.cons_append, List.nil_append, List.append_nil, List.set_cons_zero, List.set_cons_succ, binP, cmpP, p_addI, p_subI, p_lt, p_le, p_gt, p_ge, p_neg, p_truB, p_truT, p_lenT, p_lenC, p_max, p_min, p_tupT, Nat.reduceAdd, Nat.reduceSub, Nat.reduceEqDiff, Nat.reduceLeDiff, Nat.reduceLT, Nat.reducePow, Nat.zero_add, sizeLine, if_true, if_false, ite_true, ite_false, Bool.not_true, Bool.not_false, nx_nx, nx_ct, okR_ok, sd_next hr1, sd_cells hr1, p_lenL hc1, List.length_map]
      by_cases hn : nx + 1 ≤ (cs.length : Int)
      · simp only [decide_eq_true hn, w_body, w_seq, w_asg, w_tup, w_lst, w_cons, w_nil, w_op2, w_op1, w_var, w_pure, w_call, w_callF, w_tru, w_notM, w_andM, w_orM, w_notE, w_andE, w_orE, w_ifE, w_yes, w_ret, w_retN, w_expr, w_if, w_nx, w_par, w_for, w_set, w_tupG, w_tpxG, w_consG, w_nilG, w_sub, w_it, w_rng1, w_zip, w_enum, w_lc, w_lc2, w_turn, w_turn2, w_nilP, w_consP, w_disp, thn_nx, thn_rt, thn_exc, toS_ok, toS_exc, toG_ok, toR_nx, toR_rt, toR_exc, Res.bind_ok, Res.bind_exc, startE, pick, wipeE, List.filterMap_cons, List.filterMap_nil, List.map_cons, List.map_nil, List.getElem?_cons_zero, List.getElem?_cons_succ, List.length_cons, List.length_nil, List.replicate, List.cons_append, List.nil_append, List.append_nil, List.set_cons_zero, List.set_cons_succ, binP, cmpP, p_addI, p_subI, p_lt, p_le, p_gt, p_ge, p_neg, p_truB, p_truT, p_lenT, p_lenC, p_max, p_min, p_tupT, Nat.reduceAdd, Nat.reduceSub, Nat.reduceEqDiff, Nat.reduceLeDiff, Nat.reduceLT, Nat.reducePow, Nat.zero_add, sizeLine, if_true, if_false, ite_true, ite_false, Bool.not_true, Bool.not_false, nx_nx, nx_ct, okR_ok, sd_sRest hr1]
        exact tail _ _ _ _ _ _ _ (at_set hr1) (by omega) (by omega) t0 (by omega) (at_else hc1 ne) (k1.trans (.set (by simp)))
      · obtain ⟨x3', x4', rs', q0, q1⟩ := mix_ok (x1 := some (.int b)) (x3 := none) (x4 := none) (x5 := none) (cell := cell) hr1 t0 (by omega)
        simp only [decide_eq_false hn, w_body, w_seq, w_asg, w_tup, w_lst, w_cons, w_nil, w_op2, w_op1, w_var, w_pure, w_call, w_callF, w_tru, w_notM, w_andM, w_orM, w_notE, w_andE, w_orE, w_ifE, w_yes, w_ret, w_retN, w_expr, w_if, w_nx, w_par, w_for, w_set, w_tupG, w_tpxG, w_consG, w_nilG, w_sub, w_it, w_rng1, w_zip, w_enum, w_lc, w_lc2, w_turn, w_turn2, w_nilP, w_consP, w_disp, thn_nx, thn_rt, thn_exc, toS_ok, toS_exc, toG_ok, toR_nx, toR_rt, toR_exc, Res.bind_ok, Res.bind_exc, startE, pick, wipeE, List.filterMap_cons, List.filterMap_nil, List.map_cons, List.map_nil, List.getElem?_cons_zero, List.getElem?_cons_succ, List.length_cons, List.length_nil, List.replicate, List.cons_append, List.nil_append, List.append_nil, List.set_cons_zero, List.set_cons_succ, binP, cmpP, p_addI, p_subI, p_lt, p_le, p_gt, p_ge, p_neg, p_truB, p_truT, p_lenT, p_lenC, p_max, p_min, p_tupT, Nat.reduceAdd, Nat.reduceSub, Nat.reduceEqDiff, Nat.reduceLeDiff, Nat.reduceLT, Nat.reducePow, Nat.zero_add, sizeLine, if_true, if_false, ite_true, ite_false, Bool.not_true, Bool.not_false, nx_nx, nx_ct, okR_ok, Bool.false_eq_true, q1]
        exact tail _ _ _ _ _ _ _ (at_set hr1) (by omega) q0 (by omega) (by omega) (at_else hc1 ne) (k1.trans (.set (by simp)))
    · obtain ⟨x3', x4', rs', q0, q1⟩ := mix_ok (x1 := some (.int b)) (x3 := none) (x4 := none) (x5 := none) (cell := cell) hr1 t0 (by omega)
      simp only [decide_eq_false hbig, w_body, w_seq, w_asg, w_tup, w_lst, w_cons, w_nil, w_op2, w_op1, w_var, w_pure, w_call, w_callF, w_tru, w_notM, w_andM, w_orM, w_notE, w_andE, w_orE, w_ifE, w_yes, w_ret, w_retN, w_expr, w_if, w_nx, w_par, w_for, w_set, w_tupG, w_tpxG, w_consG, w_nilG, w_sub, w_it, w_rng1, w_zip, w_enum, w_lc, w_lc2, w_turn, w_turn2, w_nilP, w_consP, w_disp, thn_nx, thn_rt, thn_exc, toS_ok, toS_exc, toG_ok, toR_nx, toR_rt, toR_exc, Res.bind_ok, Res.bind_exc, startE, pick, wipeE, List.filterMap_cons, List.filterMap_nil, List.map_cons, List.map_nil, List.getElem?_cons_zero, List.getElem?_cons_succ, List.length_cons, List.length_nil, List.replicate, List.cons_append, List.nil_append, List.append_nil, List.set_cons_zero, List.set_cons_succ, binP, cmpP, p_addI, p_subI, p_lt, p_le, p_gt, p_ge, p_neg, p_truB, p_truT, p_lenT, p_lenC, p_max, p_min, p_tupT, Nat.reduceAdd, Nat.reduceSub, Nat.reduceEqDiff, Nat.reduceLeDiff, Nat.reduceLT, Nat.reducePow, Nat.zero_add, sizeLine, if_true, if_false, ite_true, ite_false, Bool.not_true, Bool.not_false, nx_nx, nx_ct, okR_ok, Bool.false_eq_true, q1]
      exact tail _ _ _ _ _ _ _ (at_set hr1) (by omega) q0 (by omega) (by omega) (at_else hc1 ne) (k1.trans (.set (by simp)))
  · simp only [decide_eq_false hz, w_body, w_seq, w_asg, w_tup, w_lst, w_cons, w_nil, w_op2, w_op1, w_var, w_pure, w_call, w_callF, w_tru, w_notM, w_andM, w_orM, w_notE, w_andE, w_orE, w_ifE, w_yes, w_ret, w_retN, w_expr, w_if, w_nx, w_par, w_for, w_set, w_tupG, w_tpxG, w_consG, w_nilG, w_sub, w_it, w_rng1, w_zip, w_enum, w_lc, w_lc2, w_turn, w_turn2, w_nilP, w_consP, w_disp, thn_nx, thn_rt, thn_exc, toS_ok, toS_exc, toG_ok, toR_nx, toR_rt, toR_exc, Res.bind_ok, Res.bind_exc, startE, pick, wipeE, List.filterMap_cons, List.filterMap_nil, List.map_cons, List.map_nil, List.getElem?_cons_zero, List.getElem?_cons_succ, List.length_cons, List.length_nil, List.replicate, List.cons_append, List.nil_append, List.append_nil, List.set_cons_zero, List.set_cons_succ, binP, cmpP, p_addI, p_subI, p_lt, p_le, p_gt, p_ge, p_neg, p_truB, p_truT, p_lenT, p_lenC, p_max, p_min, p_tupT, Nat.reduceAdd, Nat.reduceSub, Nat.reduceEqDiff, Nat.reduceLeDiff, Nat.reduceLT, Nat.reducePow, Nat.zero_add, sizeLine, if_true, if_false, ite_true, ite_false, Bool.not_true, Bool.not_false, nx_nx, nx_ct, okR_ok, Bool.false_eq_true]
    exact tail _ _ _ _ _ _ _ hr n0 r0 t0 (by omega) hc .refl
theorem pick_ok {S : Hs} {r g q k : Nat} {cs : List Int} {xs : List PV} (m : Src S r g cs k) (hk : k ≤ 1048576) (hq : S[q]? = some (.lst xs)) (hr : q ≠ r) (h0 : xs ≠ []) (hl : xs.length < 1000000000) :
    ∃ p S', f__law_pick_2 [.ref r, .ref q] S = .ok p S' ∧ p ∈ xs ∧ Src S' r g cs (k + 1) ∧ Keeps S S' [r] := by
  have hpos : 0 < xs.length := List.length_pos_iff.mpr h0
  obtain ⟨v, S', e, v0, v1, m', kk⟩ := draw_ok m hk (b := xs.length) (by omega) (by omega)
  have hq' : S'[q]? = some (.lst xs) := kk.at hq (by simp [hr])
  have hv : v.toNat < xs.length := by omega
  unfold f__law_pick_2 m__law_pick
  simp only [w_body, w_seq, w_asg, w_tup, w_lst, w_cons, w_nil, w_op2, w_op1, w_var, w_pure, w_call, w_callF, w_tru, w_notM, w_andM, w_orM, w_notE, w_andE, w_orE, w_ifE, w_yes, w_ret, w_retN, w_expr, w_if, w_nx, w_par, w_for, w_set, w_tupG, w_tpxG, w_consG, w_nilG, w_sub, w_it, w_rng1, w_zip, w_enum, w_lc, w_lc2, w_turn, w_turn2, w_nilP, w_consP, w_disp, thn_nx, thn_rt, thn_exc, toS_ok, toS_exc, toG_ok, toR_nx, toR_rt, toR_exc, Res.bind_ok, Res.bind_exc, startE, pick, wipeE, List.filterMap_cons, List.filterMap_nil, List.map_cons, List.map_nil, List.getElem?_cons_zero, List.getElem?_cons_succ, List.length_cons, List.length_nil, List.replicate, List.cons_append, List.nil_append, List.append_nil, List.set_cons_zero, List.set_cons_succ, binP, cmpP, p_addI, p_subI, p_lt, p_le, p_gt, p_ge, p_neg, p_truB, p_truT, p_lenT, p_lenC, p_max, p_min, p_tupT, Nat.reduceAdd, Nat.reduceSub, Nat.reduceEqDiff, Nat.reduceLeDiff, Nat.reduceLT, Nat.reducePow, Nat.zero_add, sizeLine, if_true, if_false, ite_true, ite_false, Bool.not_true, Bool.not_false, nx_nx, nx_ct, okR_ok, p_lenL hq, e, p_getL hq', atI_lt v0 hv]
  exact ⟨_, _, rfl, List.getElem_mem hv, m', kk⟩
theorem sd_new {g : Nat} : PObj.dct (dmerge [] [(Sum.inr "cells", PV.ref g), (Sum.inr "next", PV.int 0), (Sum.inr "rest", PV.int 0), (Sum.inr "count", PV.int 0)]) = sd g 0 0 0 := by
  simp only [dmerge, sd, List.foldl, dput, List.any, List.map, Sum.inr.injEq, n12, n13, n14, n23, n24, n34, decide_false, Bool.or_false, Bool.false_or, Bool.false_eq_true, if_false, List.nil_append, List.cons_append]
theorem source_ok {ns : List Int} (hn : ns.length ≤ 63) : ∃ S', f__law_source_1 [.cl (ns.map PV.int)] [] = .ok (.ref 2) S' ∧ Src S' 2 1 (ns ++ [(ns.length : Int)]) 0 := by
  unfold f__law_source_1 m__law_source
  have n1 := p_new (S := []) (xs := [PV.int (ns.length : Int)]) (by simp [sizeLine])
  have ha : addP (.cl (ns.map PV.int)) (.ref 0) ([] ++ [PObj.lst [PV.int (ns.length : Int)]]) = newL (ns.map PV.int ++ [PV.int (ns.length : Int)]) ([] ++ [PObj.lst [PV.int (ns.length : Int)]]) := rfl
  have n2 := p_new (S := [] ++ [PObj.lst [PV.int (ns.length : Int)]]) (xs := ns.map PV.int ++ [PV.int (ns.length : Int)]) (by rw [List.length_append, List.length_map]; show _ ≤ 2 ^ 24; simp; omega)
  simp only [List.nil_append, List.length_nil, List.length_cons, Nat.zero_add, List.cons_append] at n1 ha n2
  simp only [w_body, w_seq, w_asg, w_tup, w_lst, w_cons, w_nil, w_op2, w_op1, w_var, w_pure, w_call, w_callF, w_tru, w_notM, w_andM, w_orM, w_notE, w_andE, w_orE, w_ifE, w_yes, w_ret, w_retN, w_expr, w_if, w_nx, w_par, w_for, w_set, w_tupG, w_tpxG, w_consG, w_nilG, w_sub, w_it, w_rng1, w_zip, w_enum, w_lc, w_lc2, w_turn, w_turn2, w_nilP, w_consP, w_disp, thn_nx, thn_rt, thn_exc, toS_ok, toS_exc, toG_ok, toR_nx, toR_rt, toR_exc, Res.bind_ok, Res.bind_exc, startE, pick, wipeE, List.filterMap_cons, List.filterMap_nil, List.map_cons, List.map_nil, List.getElem?_cons_zero, List.getElem?_cons_succ, List.length_cons, List.length_nil, List.replicate, List.cons_append, List.nil_append, List.append_nil, List.set_cons_zero, List.set_cons_succ, binP, cmpP, p_addI, p_subI, p_lt, p_le, p_gt, p_ge, p_neg, p_truB, p_truT, p_lenT, p_lenC, p_max, p_min, p_tupT, Nat.reduceAdd, Nat.reduceSub, Nat.reduceEqDiff, Nat.reduceLeDiff, Nat.reduceLT, Nat.reducePow, Nat.zero_add, sizeLine, if_true, if_false, ite_true, ite_false, Bool.not_true, Bool.not_false, nx_nx, nx_ct, okR_ok, List.length_map, n1, ha, n2, dispR, keysP, keyP]
  rw [sd_new]
  refine ⟨_, rfl, ⟨by decide, ⟨0, 0, 0, rfl, by omega, by omega, by omega, by omega⟩, ?_, by simp⟩⟩
  simp
end K56

namespace K56
open PySem PySem.Spec PyProof.Rows L2 D
theorem toR_keep {S L : Hs} : ∀ (n : Nat) (p : PV) (d : PyData), toR n S p = some d → toR n (S ++ L) p = some d
  | 0, _, _, h => by cases h
  | n + 1, p, d, h => by
    have all : ∀ (ps : List PV) (ds : List PyData), omap (toR n S) ps = some ds → omap (toR n (S ++ L)) ps = some ds := by
      intro ps
      induction ps with
      | nil => intro ds h; exact h
      | cons p ps ih =>
        intro ds h
        unfold omap at h ⊢
        split at h
        · rename_i y ys e1 e2
          rw [toR_keep n _ _ e1, ih _ e2]
          exact h
        · cases h
    unfold toR at h ⊢
    cases p with
    | tup xs =>
      dsimp only at h ⊢
      cases q : omap (toR n S) xs with
      | none => rw [q] at h; cases h
      | some ds => rw [q] at h; rw [all _ _ q]; exact h
    | cl xs =>
      dsimp only at h ⊢
      cases q : omap (toR n S) xs with
      | none => rw [q] at h; cases h
      | some ds => rw [q] at h; rw [all _ _ q]; exact h
    | ref i =>
      dsimp only at h ⊢
      cases q0 : S[i]? with
      | none => rw [q0] at h; cases h
      | some o =>
        have q1 : (S ++ L)[i]? = some o := (List.getElem?_append_left (List.getElem?_eq_some_iff.mp q0).1).trans q0
        rw [q0] at h
        rw [q1]
        split at h
        · rename_i xs e
          cases e
          cases q : omap (toR n S) xs with
          | none => rw [q] at h; cases h
          | some ds => rw [q] at h; show (omap (toR n (S ++ L)) xs).map PyData.list = _; rw [all _ _ q]; exact h
        · rename_i e
          cases e
          exact h
        · cases h
    | _ => exact h
def es : List PyData := [.int 0, .int 7, .int (-1), .int (10 ^ 30), .none, .str "", .str "main", .tuple [], .tuple [.int 1, .int 2], .list [.int 3, .int 1], .dict [], .bool true]
def okB (d : PyData) : Bool := d.showable && (decide (d.shown.length ≤ sizeLine) && decide (d.depth ≤ 66))
theorem es21 : ∀ e ∈ es, okB (.list (List.replicate 21 e)) = true := by decide +kernel
theorem es2 : ∀ e ∈ es, okB (.list (List.replicate 2 e)) = true := by decide +kernel
theorem omap_rep {f : PV → Option PyData} {p : PV} {e : PyData} (h : f p = some e) : ∀ n : Nat, omap f (List.replicate n p) = some (List.replicate n e)
  | 0 => rfl
  | n + 1 => by rw [List.replicate_succ, omap, h, omap_rep h n]; rfl
theorem repr_rep {S : Hs} {r n : Nat} {p : PV} {e : PyData} (h : lstAt S r = some (List.replicate n p)) (hp : toR 65 S p = some e) (ho : okB (.list (List.replicate n e)) = true) : reprDP [.ref r] S = .ok (.str (PyData.shown (.list (List.replicate n e)))) S := by
  have h0 : toR 66 S (.ref r) = some (.list (List.replicate n e)) := by
    show (match S[r]? with
      | some (.lst xs) => (omap (toR 65 S) xs).map PyData.list
      | some (.dct []) => some (PyData.dict [])
      | _ => none) = _
    rw [lstAt_eq h]
    show (omap (toR 65 S) (List.replicate n p)).map PyData.list = _
    rw [omap_rep hp]
    rfl
  obtain ⟨h1, h2⟩ := He.ba ho
  obtain ⟨h2, h3⟩ := He.ba h2
  show reprR S (.ref r) = _
  unfold reprR
  rw [h0]
  exact if_pos ⟨h1, of_decide_eq_true h2, of_decide_eq_true h3⟩
def items (a : Nat) : List PV := [.int 0, .int 7, .int (-1), .int (10 ^ 30), .non, .str "", .str "main", .tup [], .tup [.int 1, .int 2], .ref a, .ref (a + 1), .bl true]
theorem isi_of {S : Hs} {p : PV} {t : String} {b : Bool} (h : tyOfP S p = some t) (hk : kitB t "list" = some b) : isiP [p, .ty "list"] S = .ok (.bl b) S := by
  have e : isiB S p [.ty "list"] = some b := by
    unfold isiB
    rw [h]
    show anyTy t ["list"] = _
    unfold anyTy
    rw [hk]
    cases b <;> rfl
  show (match isiB S p [.ty "list"] with
    | some b => Res.ok (PV.bl b) S
    | none => .bad) = _
  rw [e]
theorem k_int : kitB "int" "list" = some false := by decide +kernel
theorem k_non : kitB "NoneType" "list" = some false := by decide +kernel
theorem k_str : kitB "str" "list" = some false := by decide +kernel
theorem k_tup : kitB "tuple" "list" = some false := by decide +kernel
theorem k_dct : kitB "dict" "list" = some false := by decide +kernel
theorem k_bl : kitB "bool" "list" = some false := by decide +kernel
theorem k_lst : kitB "list" "list" = some true := by decide +kernel
/-- if isinstance(field, list): field.append(len(field)) -/
def s3 : SM := ifS (truM (callM (isxP tbX usX bsX) (consA (varM 3) (consA (pureM (.ty "list")) nilA)))) (exprS (bmE .list appendP (varM 3) (consA (callM lenP (consA (varM 3) nilA)) nilA))) nxS
theorem s3_ok {S : Hs} {a : Nat} {p : PV} {x0 x1 x2 x4 x5 x6 x7 : Option PV} (hp : p ∈ items a) (ha : S[a]? = some (.lst [.int 3])) (hb : S[a + 1]? = some (.dct [])) :
    ∃ S' e, s3 [x0, x1, x2, some p, x4, x5, x6, x7] S = .nx [x0, x1, x2, some p, x4, x5, x6, x7] S' ∧ toR 65 S' p = some e ∧ e ∈ es ∧ Keeps S S' [a] ∧ S'.length = S.length := by
  have no : ∀ (q : PV) (t : String) (e : PyData), isxP tbX usX bsX [q, .ty "list"] S = isiP [q, .ty "list"] S → tyOfP S q = some t → kitB t "list" = some false → toR 65 S q = some e → e ∈ es →
      ∃ S' e, s3 [x0, x1, x2, some q, x4, x5, x6, x7] S = .nx [x0, x1, x2, some q, x4, x5, x6, x7] S' ∧ toR 65 S' q = some e ∧ e ∈ es ∧ Keeps S S' [a] ∧ S'.length = S.length := by
    intro q t e h0 h1 h2 h3 h4
    refine ⟨S, e, ?_, h3, h4, .refl, rfl⟩
    unfold s3
    simp only [w_body, w_seq, w_asg, w_tup, w_lst, w_cons, w_nil, w_op2, w_op1, w_var, w_pure, w_call, w_callF, w_tru, w_notM, w_andM, w_orM, w_notE, w_andE, w_orE, w_ifE, w_yes, w_ret, w_retN, w_expr, w_if, w_nx, w_par, w_for, w_set, w_tupG, w_tpxG, w_consG, w_nilG, w_sub, w_it, w_rng1, w_zip, w_enum, w_lc, w_lc2, w_turn, w_turn2, w_nilP, w_consP, w_disp, thn_nx, thn_rt, thn_exc, toS_ok, toS_exc, toG_ok, toR_nx, toR_rt, toR_exc, Res.bind_ok, Res.bind_exc, startE, pick, wipeE, List.filterMap_cons, List.filterMap_nil, List.map_cons, List.map_nil, List.getElem?_cons_zero, List.getElem?_cons_succ, List.length_cons, List.length_nil, List.replicate, List.cons_append, List.nil_append, List.append_nil, List.set_cons_zero, List.set_cons_succ, binP, cmpP, p_addI, p_subI, p_lt, p_le, p_gt, p_ge, p_neg, p_truB, p_truT, p_lenT, p_lenC, p_max, p_min, p_tupT, Nat.reduceAdd, Nat.reduceSub, Nat.reduceEqDiff, Nat.reduceLeDiff, Nat.reduceLT, Nat.reducePow, Nat.zero_add, sizeLine, if_true, if_false, ite_true, ite_false, Bool.not_true, Bool.not_false, nx_nx, nx_ct, okR_ok, h0, isi_of h1 h2, Bool.false_eq_true]
  unfold items at hp
  simp only [List.mem_cons, List.not_mem_nil, or_false] at hp
  rcases hp with rfl | rfl | rfl | rfl | rfl | rfl | rfl | rfl | rfl | rfl | rfl | rfl
  · exact no _ _ (.int 0) rfl rfl k_int rfl (by simp [es])
  · exact no _ _ (.int 7) rfl rfl k_int rfl (by simp [es])
  · exact no _ _ (.int (-1)) rfl rfl k_int rfl (by simp [es])
  · exact no _ _ (.int (10 ^ 30)) rfl rfl k_int rfl (by simp [es])
  · exact no _ _ .none rfl rfl k_non rfl (by simp [es])
  · exact no _ _ (.str "") rfl rfl k_str rfl (by simp [es])
  · exact no _ _ (.str "main") rfl rfl k_str rfl (by simp [es])
  · exact no _ _ (.tuple []) rfl rfl k_tup rfl (by simp [es])
  · exact no _ _ (.tuple [.int 1, .int 2]) rfl rfl k_tup rfl (by simp [es])
  · refine ⟨S.set a (.lst [.int 3, .int 1]), .list [.int 3, .int 1], ?_, ?_, by simp [es], .set (by simp), by simp⟩
    · have h1 : isxP tbX usX bsX [.ref a, .ty "list"] S = .ok (.bl true) S := isi_of (p := .ref a) (by simp only [tyOfP, ha]) k_lst
      have h2 : tyB .list (.ref a) S = true := by
        show (lstAt S a).isSome = true
        rw [lstAt_of ha]
        rfl
      have h3 : appendP (.ref a) [.int 1] S = .ok .non (S.set a (.lst [.int 3, .int 1])) := by
        simp only [appendP, ha]
        exact if_pos (by simp [sizeLine])
      have h4 : bmE .list appendP (varM 3) (consA (callM lenP (consA (varM 3) nilA)) nilA) [x0, x1, x2, some (.ref a), x4, x5, x6, x7] S = .ok .non (S.set a (.lst [.int 3, .int 1])) := by
        show (if tyB .list (.ref a) S = true then ((consA (callM lenP (consA (varM 3) nilA)) nilA) [x0, x1, x2, some (.ref a), x4, x5, x6, x7] S).bind fun ps S' => appendP (.ref a) ps S' else .bad) = _
        rw [if_pos h2]
        simp only [w_body, w_seq, w_asg, w_tup, w_lst, w_cons, w_nil, w_op2, w_op1, w_var, w_pure, w_call, w_callF, w_tru, w_notM, w_andM, w_orM, w_notE, w_andE, w_orE, w_ifE, w_yes, w_ret, w_retN, w_expr, w_if, w_nx, w_par, w_for, w_set, w_tupG, w_tpxG, w_consG, w_nilG, w_sub, w_it, w_rng1, w_zip, w_enum, w_lc, w_lc2, w_turn, w_turn2, w_nilP, w_consP, w_disp, thn_nx, thn_rt, thn_exc, toS_ok, toS_exc, toG_ok, toR_nx, toR_rt, toR_exc, Res.bind_ok, Res.bind_exc, startE, pick, wipeE, List.filterMap_cons, List.filterMap_nil, List.map_cons, List.map_nil, List.getElem?_cons_zero, List.getElem?_cons_succ, List.length_cons, List.length_nil, List.replicate, List.cons_append, List.nil_append, List.append_nil, List.set_cons_zero, List.set_cons_succ, binP, cmpP, p_addI, p_subI, p_lt, p_le, p_gt, p_ge, p_neg, p_truB, p_truT, p_lenT, p_lenC, p_max, p_min, p_tupT, Nat.reduceAdd, Nat.reduceSub, Nat.reduceEqDiff, Nat.reduceLeDiff, Nat.reduceLT, Nat.reducePow, Nat.zero_add, sizeLine, if_true, if_false, ite_true, ite_false, Bool.not_true, Bool.not_false, nx_nx, nx_ct, okR_ok, p_lenL ha]
        exact h3
      unfold s3
      simp only [w_body, w_seq, w_asg, w_tup, w_lst, w_cons, w_nil, w_op2, w_op1, w_var, w_pure, w_call, w_callF, w_tru, w_notM, w_andM, w_orM, w_notE, w_andE, w_orE, w_ifE, w_yes, w_ret, w_retN, w_expr, w_if, w_nx, w_par, w_for, w_set, w_tupG, w_tpxG, w_consG, w_nilG, w_sub, w_it, w_rng1, w_zip, w_enum, w_lc, w_lc2, w_turn, w_turn2, w_nilP, w_consP, w_disp, thn_nx, thn_rt, thn_exc, toS_ok, toS_exc, toG_ok, toR_nx, toR_rt, toR_exc, Res.bind_ok, Res.bind_exc, startE, pick, wipeE, List.filterMap_cons, List.filterMap_nil, List.map_cons, List.map_nil, List.getElem?_cons_zero, List.getElem?_cons_succ, List.length_cons, List.length_nil, List.replicate, List.cons_append, List.nil_append, List.append_nil, List.set_cons_zero, List.set_cons_succ, binP, cmpP, p_addI, p_subI, p_lt, p_le, p_gt, p_ge, p_neg, p_truB, p_truT, p_lenT, p_lenC, p_max, p_min, p_tupT, Nat.reduceAdd, Nat.reduceSub, Nat.reduceEqDiff, Nat.reduceLeDiff, Nat.reduceLT, Nat.reducePow, Nat.zero_add, sizeLine, if_true, if_false, ite_true, ite_false, Bool.not_true, Bool.not_false, nx_nx, nx_ct, okR_ok, h1, h4]
    · show (match (S.set a (.lst [.int 3, .int 1]))[a]? with
        | some (.lst xs) => (omap (toR 64 (S.set a (.lst [.int 3, .int 1]))) xs).map PyData.list
        | some (.dct []) => some (PyData.dict [])
        | _ => none) = _
      rw [at_set ha]
      rfl
  · refine no (.ref (a + 1)) "dict" (.dict []) rfl ?_ k_dct ?_ (by simp [es])
    · simp only [tyOfP, hb]
    · show (match S[a + 1]? with
        | some (.lst xs) => (omap (toR 64 S) xs).map PyData.list
        | some (.dct []) => some (PyData.dict [])
        | _ => none) = _
      rw [hb]
  · exact no _ _ (.bool true) rfl rfl k_bl rfl (by simp [es])
end K56

namespace K56
open PySem PySem.Spec PyProof.Rows L2 D
theorem s3_eq : (ifS (truM (callM (isxP tbX usX bsX) (consA (varM 3) (consA (pureM (.ty "list")) nilA)))) (exprS (bmE .list appendP (varM 3) (consA (callM lenP (consA (varM 3) nilA)) nilA))) nxS) = s3 := rfl
def R21 (p : PV) : List PV := List.replicate 21 p
theorem rep21 {p : PV} : (List.replicate (Int.toNat 21) [p]).flatten = R21 p := rfl
theorem len21 {p : PV} : (R21 p).length = 21 := rfl
theorem p_pow30 {S : Hs} : powP (.int 10) (.int 30) S = .ok (.int (10 ^ 30)) S := rfl
theorem tm : ∀ x ∈ (["top", "main"] : List Str), PyData.strOk x = true := by decide +kernel
theorem turn_ok {S : Hs} {k : Nat} {cs : List Int} {x0 x2 x3 x4 x5 x6 x7 : Option PV} (m : Src S 2 1 cs k) (hk : k ≤ 1000) :
    Nx (fun env S' => ∃ x2 x3 x4 x5 x6 x7 : Option PV, env = [x0, some (.ref 2), x2, x3, x4, x5, x6, x7] ∧ Src S' 2 1 cs (k + 1)) (m_law_b1 [x0, some (.ref 2), x2, x3, x4, x5, x6, x7] S) := by
  have l2 : 2 < S.length := by obtain ⟨_, ⟨_, _, _, h, _⟩, _⟩ := m; exact lt_of_at h
  obtain ⟨p, S2, e1, hp, m2, k2⟩ := pick_ok (S := S ++ [.lst [.int 3], .dct [], .lst (items S.length)]) (q := S.length + 2) (m.keep ⟨by simp, fun i hi _ => List.getElem?_append_left hi⟩) (by omega) (xs := items S.length) (by rw [z_at]; rfl) (by omega) (by simp [items]) (by simp [items])
  have ha : S2[S.length]? = some (.lst [.int 3]) := k2.at (by rw [z_at0]; rfl) (by simp; omega)
  have hb : S2[S.length + 1]? = some (.dct []) := k2.at (by rw [z_at]; rfl) (by simp; omega)
  obtain ⟨L, r1, r2, r3, r, e2, hr, hr1, hr2, hr3⟩ := made_ok (S := S2) (p := p)
  have la := lt_of_at ha
  have lb := lt_of_at hb
  have ha' : (S2 ++ L)[S.length]? = some (.lst [.int 3]) := (List.getElem?_append_left la).trans ha
  have hb' : (S2 ++ L)[S.length + 1]? = some (.dct []) := (List.getElem?_append_left lb).trans hb
  obtain ⟨S4, e, e3, hd, he, k4, l4⟩ := s3_ok (S := S2 ++ L) (x0 := x0) (x1 := some (.ref 2)) (x2 := x2) (x4 := x4) (x5 := some (.ref r1)) (x6 := some (.ref r2)) (x7 := some (.ref r3)) hp ha' hb'
  have off : ∀ (q : Nat) (xs : List PV), lstAt (S2 ++ L) q = some xs → xs.length ≠ 1 → lstAt S4 q = some xs := fun q xs h hn => by
    refine lstAt_of (k4.at (lstAt_eq h) ?_)
    intro z
    have z' : q = S.length := by simpa using z
    rw [z', lstAt_of ha'] at h
    cases h
    exact hn rfl
  have f1 := off r1 _ hr1 (by simp [firsts])
  have f2 := off r2 _ hr2 (by simp [lasts])
  have f3 := off r3 _ hr3 (by simp)
  have m4 : Src S4 2 1 cs (k + 1) := by
    obtain ⟨ne, ⟨nx, rs, ct, h1, h2⟩, hc, h0⟩ := m2
    refine ⟨ne, ⟨nx, rs, ct, k4.at ((List.getElem?_append_left (lt_of_at h1)).trans h1) (by simp; omega), h2⟩, k4.at ((List.getElem?_append_left (lt_of_at hc)).trans hc) (by simp; omega), h0⟩
  have o21 := es21 e he
  have o2 := es2 e he
  have c1 : reprDP [.ref r3] (S4 ++ []) = .ok (.str (PyData.shown (.list (List.replicate 21 e)))) (S4 ++ []) := repr_rep (z_pre f3) (toR_keep _ _ _ hd) o21
  have c2 : reprDP [.ref (S4.length + 1)] (S4 ++ [.lst [p], .lst (R21 p)]) = .ok (.str (PyData.shown (.list (List.replicate 21 e)))) (S4 ++ [.lst [p], .lst (R21 p)]) := repr_rep (by rw [z_lst]; rfl) (toR_keep _ _ _ hd) o21
  obtain ⟨L5, c4⟩ := families_ok (S := S4 ++ [.lst [p], .lst (R21 p)]) (r1 := r1) (r2 := r2) (z_pre f1) (z_pre f2)
  obtain ⟨S6, h6⟩ : ∃ S6 : Hs, S6 = S4 ++ [.lst [p], .lst (R21 p)] ++ L5 := ⟨_, rfl⟩
  have g2 : lstAt S6 r2 = some (lasts p) := by rw [h6]; exact z_pre (z_pre f2)
  have hd6 : toR 65 S6 p = some e := by rw [h6]; exact toR_keep _ _ _ (toR_keep _ _ _ hd)
  have m6 : Src S6 2 1 cs (k + 1) := by
    rw [h6, List.append_assoc]
    exact m4.keep ⟨by simp, fun i hi _ => List.getElem?_append_left hi⟩
  rw [← h6, ← List.append_nil S6] at c4
  rw [← List.append_nil S4] at e3
  clear h6
  have d1 : getP (.ref r2) (.int 1) (S6 ++ []) = .ok (.exn "WouldLoop" ["kind", "abstract"] [p, p]) (S6 ++ []) := by rw [z_getL (z_pre g2)]; rfl
  have d2 : getP (.ref r2) (.int 2) (S6 ++ []) = .ok (.exn "Ambiguous" ["tied", "part"] [p, p]) (S6 ++ []) := by rw [z_getL (z_pre g2)]; rfl
  have rp : ∀ (L : Hs) (k : Nat), lstAt L k = some [p, p] → reprDP [.ref (S6.length + k)] (S6 ++ L) = .ok (.str (PyData.shown (.list (List.replicate 2 e)))) (S6 ++ L) := fun L k h => repr_rep (n := 2) (by rw [z_lst]; exact h) (toR_keep _ _ _ hd6) o2
  have rp0 : ∀ (L : Hs), lstAt L 0 = some [p, p] → reprDP [.ref S6.length] (S6 ++ L) = .ok (.str (PyData.shown (.list (List.replicate 2 e)))) (S6 ++ L) := fun L h => rp L 0 h
  have ns : ∀ (L : Hs) (k j : Nat), lstAt L k = some [.str "top", .str "main"] → lstAt L j = some [.str "top", .str "main"] → neP (.ref (S6.length + k)) (.ref (S6.length + j)) (S6 ++ L) = .ok (.bl false) (S6 ++ L) := fun L k j h1 h2 => by
    have := eStr.neL (S := S6 ++ L) (r := S6.length + k) (q := S6.length + j) (xs := ["top", "main"]) (ys := ["top", "main"]) (by decide) tm tm (by rw [z_at]; exact lstAt_eq h1) (by rw [z_at]; exact lstAt_eq h2)
    rw [this, decide_eq_true rfl]
    rfl
  generalize PyData.shown (.list (List.replicate 21 e)) = Z at *
  generalize PyData.shown (.list (List.replicate 2 e)) = Z2 at *
  rw [← List.append_nil S]
  simp only [m_law_b1, s3_eq]
  unfold items at e1
  simp only [w_body, w_seq, w_asg, w_tup, w_lst, w_cons, w_nil, w_op2, w_op1, w_var, w_pure, w_call, w_callF, w_tru, w_notM, w_andM, w_orM, w_notE, w_andE, w_orE, w_ifE, w_yes, w_ret, w_retN, w_expr, w_if, w_nx, w_par, w_for, w_set, w_tupG, w_tpxG, w_consG, w_nilG, w_sub, w_it, w_rng1, w_zip, w_enum, w_lc, w_lc2, w_turn, w_turn2, w_nilP, w_consP, w_disp, thn_nx, thn_rt, thn_exc, toS_ok, toS_exc, toG_ok, toR_nx, toR_rt, toR_exc, Res.bind_ok, Res.bind_exc, startE, pick, wipeE, List.filterMap_cons, List.filterMap_nil, List.map_cons, List.map_nil, List.getElem?_cons_zero, List.getElem?_cons_succ, List.length_cons, List.length_nil, List.replicate, List.cons_append, List.nil_append, List.set_cons_zero, List.set_cons_succ, binP, cmpP, p_addI, p_subI, p_lt, p_le, p_gt, p_ge, p_neg, p_truB, p_truT, p_lenT, p_lenC, p_max, p_min, p_tupT, Nat.reduceAdd, Nat.reduceSub, Nat.reduceEqDiff, Nat.reduceLeDiff, Nat.reduceLT, Nat.reducePow, Nat.zero_add, sizeLine, if_true, if_false, ite_true, ite_false, Bool.not_true, Bool.not_false, nx_nx, nx_ct, okR_ok, p_pow30, z_edict, z_new, Nat.add_zero, e1, e2, w_lsG hr, e3]
  simp only [w_body, w_seq, w_asg, w_tup, w_lst, w_cons, w_nil, w_op2, w_op1, w_var, w_pure, w_call, w_callF, w_tru, w_notM, w_andM, w_orM, w_notE, w_andE, w_orE, w_ifE, w_yes, w_ret, w_retN, w_expr, w_if, w_nx, w_par, w_for, w_set, w_tupG, w_tpxG, w_consG, w_nilG, w_sub, w_it, w_rng1, w_zip, w_enum, w_lc, w_lc2, w_turn, w_turn2, w_nilP, w_consP, w_disp, thn_nx, thn_rt, thn_exc, toS_ok, toS_exc, toG_ok, toR_nx, toR_rt, toR_exc, Res.bind_ok, Res.bind_exc, startE, pick, wipeE, List.filterMap_cons, List.filterMap_nil, List.map_cons, List.map_nil, List.getElem?_cons_zero, List.getElem?_cons_succ, List.length_cons, List.length_nil, List.replicate, List.cons_append, List.nil_append, List.set_cons_zero, List.set_cons_succ, binP, cmpP, p_addI, p_subI, p_lt, p_le, p_gt, p_ge, p_neg, p_truB, p_truT, p_lenT, p_lenC, p_max, p_min, p_tupT, Nat.reduceAdd, Nat.reduceSub, Nat.reduceEqDiff, Nat.reduceLeDiff, Nat.reduceLT, Nat.reducePow, Nat.zero_add, sizeLine, if_true, if_false, ite_true, ite_false, Bool.not_true, Bool.not_false, nx_nx, nx_ct, okR_ok, c1, z_new, z_mul, z_lst0, z_l0, z_lS, Nat.add_zero, rep21, len21, show ((0 : Int) ≤ 21 ∧ (21 : Int) < 2 ^ 63) = True from by decide, c2, p_neS, decide_true, Bool.false_eq_true, c4]
  simp only [w_body, w_seq, w_asg, w_tup, w_lst, w_cons, w_nil, w_op2, w_op1, w_var, w_pure, w_call, w_callF, w_tru, w_notM, w_andM, w_orM, w_notE, w_andE, w_orE, w_ifE, w_yes, w_ret, w_retN, w_expr, w_if, w_nx, w_par, w_for, w_set, w_tupG, w_tpxG, w_consG, w_nilG, w_sub, w_it, w_rng1, w_zip, w_enum, w_lc, w_lc2, w_turn, w_turn2, w_nilP, w_consP, w_disp, thn_nx, thn_rt, thn_exc, toS_ok, toS_exc, toG_ok, toR_nx, toR_rt, toR_exc, Res.bind_ok, Res.bind_exc, startE, pick, wipeE, List.filterMap_cons, List.filterMap_nil, List.map_cons, List.map_nil, List.getElem?_cons_zero, List.getElem?_cons_succ, List.length_cons, List.length_nil, List.replicate, List.cons_append, List.nil_append, List.set_cons_zero, List.set_cons_succ, binP, cmpP, p_addI, p_subI, p_lt, p_le, p_gt, p_ge, p_neg, p_truB, p_truT, p_lenT, p_lenC, p_max, p_min, p_tupT, Nat.reduceAdd, Nat.reduceSub, Nat.reduceEqDiff, Nat.reduceLeDiff, Nat.reduceLT, Nat.reducePow, Nat.zero_add, sizeLine, if_true, if_false, ite_true, ite_false, Bool.not_true, Bool.not_false, nx_nx, nx_ct, okR_ok, d1, d2, z_xf2a (f := "kind") in_WouldLoop_kind, z_xf2a (f := "tied") in_Ambiguous_tied, z_xf2b (f := "abstract") (f2 := "kind") in_WouldLoop_abstract (by decide +kernel), z_xf2b (f := "part") (f2 := "tied") in_Ambiguous_part (by decide +kernel), z_new, z_mul, z_lst, z_lst0, z_l0, z_lS, Nat.add_zero, rep2, show ((0 : Int) ≤ 2 ∧ (2 : Int) < 2 ^ 63) = True from by decide, rp, rp0, p_neS, decide_true, Bool.false_eq_true, z_mkx, z_mkx2, z_get, gV_some, A_0, A_1, A_2, ns]
  exact ⟨_, _, _, _, _, _, rfl, m6.keep ⟨by simp, fun i hi _ => List.getElem?_append_left hi⟩⟩
theorem law_ok (ns : List Int) (hn : ns.length ≤ 63) : ∃ S', f_law_1 [.cl (ns.map PV.int)] [] = .ok (.bl true) S' := by
  obtain ⟨S1, e1, m1⟩ := source_ok hn
  have rg := rngR_int (S := S1) (j := 3) (by decide)
  rw [show Int.toNat 3 = 3 from rfl] at rg
  obtain ⟨env', S', e, x2, x3, x4, x5, x6, x7, rfl, m'⟩ := for_inv (nx := nxt (.rng 0 3)) (t := setG 2) (body := m_law_b1)
    (fun i env S' => ∃ x2 x3 x4 x5 x6 x7 : Option PV, env = [some (.cl (ns.map PV.int)), some (.ref 2), x2, x3, x4, x5, x6, x7] ∧ Src S' 2 1 (ns ++ [(ns.length : Int)]) i) 3 (by decide)
    (fun env S' _ => by rw [nxt_rng]; rfl)
    (by
      rintro i env S' hi ⟨x2, x3, x4, x5, x6, x7, rfl, m'⟩
      refine ⟨.int i, by rw [nxt_rng, List.getElem?_map, List.getElem?_range hi]; rfl, ?_⟩
      have t := turn_ok (x0 := some (.cl (ns.map PV.int))) (x2 := some (.int i)) (x3 := x3) (x4 := x4) (x5 := x5) (x6 := x6) (x7 := x7) m' (by omega)
      simp only [w_body, w_seq, w_asg, w_tup, w_lst, w_cons, w_nil, w_op2, w_op1, w_var, w_pure, w_call, w_callF, w_tru, w_notM, w_andM, w_orM, w_notE, w_andE, w_orE, w_ifE, w_yes, w_ret, w_retN, w_expr, w_if, w_nx, w_par, w_for, w_set, w_tupG, w_tpxG, w_consG, w_nilG, w_sub, w_it, w_rng1, w_zip, w_enum, w_lc, w_lc2, w_turn, w_turn2, w_nilP, w_consP, w_disp, thn_nx, thn_rt, thn_exc, toS_ok, toS_exc, toG_ok, toR_nx, toR_rt, toR_exc, Res.bind_ok, Res.bind_exc, startE, pick, wipeE, List.filterMap_cons, List.filterMap_nil, List.map_cons, List.map_nil, List.getElem?_cons_zero, List.getElem?_cons_succ, List.length_cons, List.length_nil, List.replicate, List.cons_append, List.nil_append, List.append_nil, List.set_cons_zero, List.set_cons_succ, binP, cmpP, p_addI, p_subI, p_lt, p_le, p_gt, p_ge, p_neg, p_truB, p_truT, p_lenT, p_lenC, p_max, p_min, p_tupT, Nat.reduceAdd, Nat.reduceSub, Nat.reduceEqDiff, Nat.reduceLeDiff, Nat.reduceLT, Nat.reducePow, Nat.zero_add, sizeLine, if_true, if_false, ite_true, ite_false, Bool.not_true, Bool.not_false, nx_nx, nx_ct, okR_ok]
      exact t)
    (S := S1) (env := [some (.cl (ns.map PV.int)), some (.ref 2), none, none, none, none, none, none]) ⟨_, _, _, _, _, _, rfl, m1⟩
  unfold f_law_1 m_law
  simp only [w_body, w_seq, w_asg, w_tup, w_lst, w_cons, w_nil, w_op2, w_op1, w_var, w_pure, w_call, w_callF, w_tru, w_notM, w_andM, w_orM, w_notE, w_andE, w_orE, w_ifE, w_yes, w_ret, w_retN, w_expr, w_if, w_nx, w_par, w_for, w_set, w_tupG, w_tpxG, w_consG, w_nilG, w_sub, w_it, w_rng1, w_zip, w_enum, w_lc, w_lc2, w_turn, w_turn2, w_nilP, w_consP, w_disp, thn_nx, thn_rt, thn_exc, toS_ok, toS_exc, toG_ok, toR_nx, toR_rt, toR_exc, Res.bind_ok, Res.bind_exc, startE, pick, wipeE, List.filterMap_cons, List.filterMap_nil, List.map_cons, List.map_nil, List.getElem?_cons_zero, List.getElem?_cons_succ, List.length_cons, List.length_nil, List.replicate, List.cons_append, List.nil_append, List.append_nil, List.set_cons_zero, List.set_cons_succ, binP, cmpP, p_addI, p_subI, p_lt, p_le, p_gt, p_ge, p_neg, p_truB, p_truT, p_lenT, p_lenC, p_max, p_min, p_tupT, Nat.reduceAdd, Nat.reduceSub, Nat.reduceEqDiff, Nat.reduceLeDiff, Nat.reduceLT, Nat.reducePow, Nat.zero_add, sizeLine, if_true, if_false, ite_true, ite_false, Bool.not_true, Bool.not_false, nx_nx, nx_ct, okR_ok, e1, rg, e]
  exact ⟨_, rfl⟩
end K56

theorem K56.holds : PySem.Challenge.rw_dispatchers_k56_errors_by_hand.Holds := K56.holds_of K56.law_ok

theorem PySem.Challenge.cw_dispatchers_k56_errors_by_hand_holds : PySem.Challenge.rw_dispatchers_k56_errors_by_hand.Holds := by
  exact K56.holds
