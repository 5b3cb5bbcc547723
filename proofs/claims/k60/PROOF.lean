import PyProof.Rows.All
import Wide.All
import OpenK.AllK
import Wide.FinOn
import KE.KStateDown
import HandS.ForMost
import HandS.Flow
import HandS.Exc
import HandS.Conv
import HandS.Zip
import HandS.TupAny
import KE.SortData
import HandS.Deep
import HandS.RaiseMore
import HandS.WordsExc
import HandS.Defaults
import HandS.Ends
import HandS.HeadEnd
import HandS.Head0
import HandS.Head1
import HandS.Head2
import HandS.HeadHook1
import HandS.HeadHook2
import PyProof.StrLawsRepr
import PySem.Challenge.RW_dispatchers_k60_mixtures
set_option Elab.async false
set_option linter.all false
set_option maxRecDepth 100000
set_option maxHeartbeats 0
/-! D1: deep values, abstract states, and the predicate transformer of a state function. -/
namespace D
open PySem PySem.Spec PyProof.Rows L2

abbrev St := L2.St
/-- deep values: tuples and constant lists are carried by value, mutable objects by their number -/
inductive PV where
  | non
  | bl (b : Bool)
  | int (i : Int)
  | str (x : Str)
  | tup (xs : List PV)
  | cl (xs : List PV)
  | ref (i : Nat)
  | wr (a : Addr)
  | ty (n : String)

inductive PObj where
  | lst (xs : List PV)
  | dct (kvs : List (Key × PV))
  | ins (C : Addr) (fs : List (Str × PV))

abbrev Hs := List PObj

/-- a list that is never written: frozen, or one of the module's -/
def FrzL (K : PySem.W.Frag) (H : Hp) (a : Addr) (xs : List V) : Prop :=
  (∃ o, H a = some (.frz o (.lst xs))) ∨
    ∃ (o : Obj) (its : Array Value) (n : Nat), K.lookup a = some o ∧ o.cls = .type "list" ∧ o.dict = none ∧ o.data = .seq its n ∧ its.size ≤ sizeLine ∧ Vals xs its.toList
theorem FrzL.sq {K : PySem.W.Frag} {H : Hp} {a : Addr} {xs : List V} (h : FrzL K H a xs) : SqL K H a xs := by
  rcases h with ⟨o, h⟩ | h
  · exact .inl (.inr ⟨o, h⟩)
  · exact .inr h

mutual
inductive Rep (K : PySem.W.Frag) (loc : List Addr) (H : Hp) : PV → V → Prop
  | non : Rep K loc H .non .non
  | bl (b : Bool) : Rep K loc H (.bl b) (.bl b)
  | int (i : Int) : Rep K loc H (.int i) (.int i)
  | str (x : Str) : Rep K loc H (.str x) (.str x)
  | tup {a : Addr} {xs : List PV} {vs : List V} : SqT K H a vs → Reps K loc H xs vs → Rep K loc H (.tup xs) (.ref a)
  | cl {a : Addr} {xs : List PV} {vs : List V} : FrzL K H a vs → Reps K loc H xs vs → Rep K loc H (.cl xs) (.ref a)
  | ref {i : Nat} {a : Addr} : loc[i]? = some a → Rep K loc H (.ref i) (.ref a)
  | wr (a : Addr) : Rep K loc H (.wr a) (.ref a)
  | ty (n : String) : Rep K loc H (.ty n) (.ty n)
inductive Reps (K : PySem.W.Frag) (loc : List Addr) (H : Hp) : List PV → List V → Prop
  | nil : Reps K loc H [] []
  | cons {p : PV} {ps : List PV} {v : V} {vs : List V} : Rep K loc H p v → Reps K loc H ps vs → Reps K loc H (p :: ps) (v :: vs)
end

structure Up (K : PySem.W.Frag) (loc : List Addr) (H : Hp) (loc' : List Addr) (H' : Hp) : Prop where
  pre : ∀ (i : Nat) (a : Addr), loc[i]? = some a → loc'[i]? = some a
  tup : ∀ a vs, SqT K H a vs → SqT K H' a vs
  frz : ∀ a vs, FrzL K H a vs → FrzL K H' a vs
structure Grow (K : PySem.W.Frag) (loc : List Addr) (H : Hp) (loc' : List Addr) (H' : Hp) : Prop extends Up K loc H loc' H' where
  fra : ∀ a u, H a = some u → a ∉ loc → H' a = some u
  new : ∀ a, a ∈ loc' → a ∈ loc ∨ H a = none

section
variable {K : PySem.W.Frag} {loc loc' loc'' : List Addr} {H H' H'' : Hp}
theorem Up.refl : Up K loc H loc H := ⟨fun _ _ h => h, fun _ _ h => h, fun _ _ h => h⟩
theorem Up.trans (g : Up K loc H loc' H') (k : Up K loc' H' loc'' H'') : Up K loc H loc'' H'' :=
  ⟨fun i a h => k.pre i a (g.pre i a h), fun a vs h => k.tup a vs (g.tup a vs h), fun a vs h => k.frz a vs (g.frz a vs h)⟩
theorem Grow.refl : Grow K loc H loc H := ⟨⟨fun _ _ h => h, fun _ _ h => h, fun _ _ h => h⟩, fun _ _ h _ => h, fun _ h => .inl h⟩
theorem Grow.out (g : Grow K loc H loc' H') {a : Addr} {u : HO} (e : H a = some u) (n : a ∉ loc) : a ∉ loc' := fun z => by
  rcases g.new a z with q | q
  · exact n q
  · rw [e] at q; cases q
theorem Grow.trans (g : Grow K loc H loc' H') (k : Grow K loc' H' loc'' H'') : Grow K loc H loc'' H'' :=
  ⟨⟨fun i a h => k.pre i a (g.pre i a h), fun a vs h => k.tup a vs (g.tup a vs h), fun a vs h => k.frz a vs (g.frz a vs h)⟩,
    fun a u e n => k.fra a u (g.fra a u e n) (g.out e n), fun a h => by
      rcases k.new a h with q | q
      · exact g.new a q
      · by_cases hl : a ∈ loc
        · exact .inl hl
        · cases e : H a with
          | none => exact .inr rfl
          | some u => rw [g.fra a u e hl] at q; cases q⟩

mutual
theorem Rep.upU (g : Up K loc H loc' H') : ∀ (p : PV) (v : V), Rep K loc H p v → Rep K loc' H' p v
  | .non, _, h => by cases h; exact .non
  | .bl b, _, h => by cases h; exact .bl b
  | .int i, _, h => by cases h; exact .int i
  | .str x, _, h => by cases h; exact .str x
  | .tup xs, _, h => by
    cases h with
    | tup h1 h2 => exact .tup (g.tup _ _ h1) (Reps.upU g xs _ h2)
  | .cl xs, _, h => by
    cases h with
    | cl h1 h2 => exact .cl (g.frz _ _ h1) (Reps.upU g xs _ h2)
  | .ref i, _, h => by
    cases h with
    | ref h1 => exact .ref (g.pre _ _ h1)
  | .wr a, _, h => by cases h; exact .wr a
  | .ty n, _, h => by cases h; exact .ty n
theorem Reps.upU (g : Up K loc H loc' H') : ∀ (ps : List PV) (vs : List V), Reps K loc H ps vs → Reps K loc' H' ps vs
  | [], _, h => by cases h; exact .nil
  | p :: ps, _, h => by
    cases h with
    | cons h1 h2 => exact .cons (Rep.upU g p _ h1) (Reps.upU g ps _ h2)
end
theorem Rep.up (g : Grow K loc H loc' H') (p : PV) (v : V) (h : Rep K loc H p v) : Rep K loc' H' p v := Rep.upU g.toUp p v h
theorem Reps.up (g : Grow K loc H loc' H') (ps : List PV) (vs : List V) (h : Reps K loc H ps vs) : Reps K loc' H' ps vs := Reps.upU g.toUp ps vs h

theorem Reps.length : ∀ {ps : List PV} {vs : List V}, Reps K loc H ps vs → ps.length = vs.length
  | [], _, h => by cases h; rfl
  | _ :: ps, _, h => by
    cases h with
    | cons h1 h2 => rw [List.length_cons, List.length_cons, Reps.length h2]
theorem Reps.get : ∀ {ps : List PV} {vs : List V} {i : Nat} {p : PV}, Reps K loc H ps vs → ps[i]? = some p → ∃ v, vs[i]? = some v ∧ Rep K loc H p v
  | [], _, _, _, _, e => by simp at e
  | _ :: ps, _, 0, _, h, e => by
    cases h with
    | cons h1 h2 => simp at e; subst e; exact ⟨_, rfl, h1⟩
  | _ :: ps, _, i + 1, p, h, e => by
    cases h with
    | cons h1 h2 =>
      obtain ⟨v, q1, q2⟩ := Reps.get (i := i) (p := p) h2 (by simpa using e)
      exact ⟨v, by simpa using q1, q2⟩
theorem Reps.got : ∀ {ps : List PV} {vs : List V} {i : Nat} {v : V}, Reps K loc H ps vs → vs[i]? = some v → ∃ p, ps[i]? = some p ∧ Rep K loc H p v
  | [], _, _, _, h, e => by cases h; simp at e
  | _ :: ps, _, 0, _, h, e => by
    cases h with
    | cons h1 h2 => simp at e; subst e; exact ⟨_, rfl, h1⟩
  | _ :: ps, _, i + 1, v, h, e => by
    cases h with
    | cons h1 h2 =>
      obtain ⟨p, q1, q2⟩ := Reps.got (i := i) (v := v) h2 (by simpa using e)
      exact ⟨p, by simpa using q1, q2⟩
theorem Reps.append : ∀ {ps qs : List PV} {vs us : List V}, Reps K loc H ps vs → Reps K loc H qs us → Reps K loc H (ps ++ qs) (vs ++ us)
  | [], _, _, _, h, k => by cases h; exact k
  | _ :: ps, _, _, _, h, k => by
    cases h with
    | cons h1 h2 => exact .cons h1 (Reps.append h2 k)
theorem Reps.take : ∀ {ps : List PV} {vs : List V} (n : Nat), Reps K loc H ps vs → Reps K loc H (ps.take n) (vs.take n)
  | _, _, 0, _ => .nil
  | [], _, _ + 1, h => by cases h; exact .nil
  | _ :: ps, _, n + 1, h => by
    cases h with
    | cons h1 h2 => exact .cons h1 (Reps.take n h2)
theorem Reps.drop : ∀ {ps : List PV} {vs : List V} (n : Nat), Reps K loc H ps vs → Reps K loc H (ps.drop n) (vs.drop n)
  | _, _, 0, h => h
  | [], _, _ + 1, h => by cases h; exact .nil
  | _ :: ps, _, n + 1, h => by
    cases h with
    | cons h1 h2 => exact Reps.drop n h2
theorem Reps.set : ∀ {ps : List PV} {vs : List V} (n : Nat) {p : PV} {v : V}, Reps K loc H ps vs → Rep K loc H p v → Reps K loc H (ps.set n p) (vs.set n v)
  | [], _, _, _, _, h, _ => by cases h; exact .nil
  | _ :: ps, _, 0, _, _, h, k => by
    cases h with
    | cons h1 h2 => exact .cons k h2
  | _ :: ps, _, n + 1, _, _, h, k => by
    cases h with
    | cons h1 h2 => exact .cons h1 (Reps.set n h2 k)
end

/-- pairs with a tag -/
def TRep (K : PySem.W.Frag) (loc : List Addr) (H : Hp) {κ : Type} : List (κ × PV) → List (κ × V) → Prop :=
  Paired fun (p : κ × PV) (q : κ × V) => p.1 = q.1 ∧ Rep K loc H p.2 q.2
theorem TRep.upU {K : PySem.W.Frag} {loc loc' : List Addr} {H H' : Hp} {κ : Type} (g : Up K loc H loc' H') {ps : List (κ × PV)} {qs : List (κ × V)} (h : TRep K loc H ps qs) : TRep K loc' H' ps qs :=
  Paired.mapP h fun p q r => ⟨r.1, Rep.upU g _ _ r.2⟩
theorem TRep.up {K : PySem.W.Frag} {loc loc' : List Addr} {H H' : Hp} {κ : Type} (g : Grow K loc H loc' H') {ps : List (κ × PV)} {qs : List (κ × V)} (h : TRep K loc H ps qs) : TRep K loc' H' ps qs :=
  Paired.mapP h fun p q r => ⟨r.1, Rep.up g _ _ r.2⟩

def ORep (K : PySem.W.Frag) (loc : List Addr) (H : Hp) (a : Addr) : PObj → Prop
  | .lst xs => ∃ vs, H a = some (.lst vs) ∧ Reps K loc H xs vs
  | .dct kvs => ∃ qs, H a = some (.dK qs) ∧ TRep K loc H kvs qs
  | .ins C fs => ∃ dx qs, H a = some (.ins C dx qs) ∧ TRep K loc H fs qs
structure StR (K : PySem.W.Frag) (loc : List Addr) (S : Hs) (H : Hp) : Prop where
  len : loc.length = S.length
  nd : loc.Nodup
  obj : ∀ (i : Nat) (o : PObj) (a : Addr), S[i]? = some o → loc[i]? = some a → ORep K loc H a o

section
variable {K : PySem.W.Frag} {loc loc' : List Addr} {S S' : Hs} {H H' : Hp}
theorem ORep.some {a : Addr} {o : PObj} (h : ORep K loc H a o) : ∃ u, H a = some u ∧ Mut (some u) := by
  cases o with
  | lst xs => obtain ⟨vs, e, _⟩ := h; exact ⟨_, e, trivial⟩
  | dct kvs => obtain ⟨vs, e, _⟩ := h; exact ⟨_, e, trivial⟩
  | ins C fs => obtain ⟨dx, vs, e, _⟩ := h; exact ⟨_, e, trivial⟩
theorem ORep.keepU {a : Addr} {o : PObj} (g : Up K loc H loc' H') (e : H' a = H a) (h : ORep K loc H a o) : ORep K loc' H' a o := by
  cases o with
  | lst xs => obtain ⟨vs, e1, r⟩ := h; exact ⟨vs, e.trans e1, r.upU g⟩
  | dct kvs => obtain ⟨vs, e1, r⟩ := h; exact ⟨vs, e.trans e1, r.upU g⟩
  | ins C fs => obtain ⟨dx, vs, e1, r⟩ := h; exact ⟨dx, vs, e.trans e1, r.upU g⟩
theorem ORep.keep {a : Addr} {o : PObj} (g : Grow K loc H loc' H') (e : H' a = H a) (h : ORep K loc H a o) : ORep K loc' H' a o := ORep.keepU g.toUp e h
theorem StR.live (h : StR K loc S H) {i : Nat} {a : Addr} (e : loc[i]? = some a) : ∃ o u, S[i]? = some o ∧ H a = some u ∧ Mut (some u) := by
  have hi : i < S.length := by rw [← h.len]; exact (List.getElem?_eq_some_iff.mp e).1
  obtain ⟨u, e1, m⟩ := (h.obj i S[i] a (List.getElem?_eq_getElem hi) e).some
  exact ⟨S[i], u, List.getElem?_eq_getElem hi, e1, m⟩
theorem StR.ne (h : StR K loc S H) {i j : Nat} {a b : Addr} (e : loc[i]? = some a) (e' : loc[j]? = some b) (n : i ≠ j) : a ≠ b := fun z => by
  subst z
  obtain ⟨h1, q1⟩ := List.getElem?_eq_some_iff.mp e
  obtain ⟨h2, q2⟩ := List.getElem?_eq_some_iff.mp e'
  exact n ((List.getElem_inj h.nd).mp (q1.trans q2.symm))

/-- a tracked thing is laid at a free address: tuples and frozen lists stay -/
theorem grow_new {p : Addr} {u : HO} (n : H p = none) (pre : ∀ (i : Nat) (a : Addr), loc[i]? = some a → loc'[i]? = some a) (nw : ∀ a, a ∈ loc' → a ∈ loc ∨ a = p := by exact fun _ h => .inl h) : Grow K loc H loc' (upd H p u) := by
  refine ⟨⟨pre, fun a vs h => ?_, fun a vs h => ?_⟩, fun a v e _ => (upd_ne (ne_of_none e n)).trans e, fun a h => (nw a h).imp id fun (e : a = p) => by rw [e]; exact n⟩
  · rcases h with (h | ⟨o, h⟩) | h
    · exact .inl (.inl (by rw [upd_ne (ne_of_none h n)]; exact h))
    · exact .inl (.inr ⟨o, by rw [upd_ne (ne_of_none h n)]; exact h⟩)
    · exact .inr h
  · rcases h with ⟨o, h⟩ | h
    · exact .inl ⟨o, by rw [upd_ne (ne_of_none h n)]; exact h⟩
    · exact .inr h
/-- a mutable thing is written: tuples and frozen lists stay -/
theorem up_write {p : Addr} {u : HO} (m : Mut (H p)) (pre : ∀ (i : Nat) (a : Addr), loc[i]? = some a → loc'[i]? = some a) : Up K loc H loc' (upd H p u) := by
  refine ⟨pre, fun a vs h => ?_, fun a vs h => ?_⟩
  · rcases h with (h | ⟨o, h⟩) | h
    · exact .inl (.inl (by rw [upd_ne (fun z => by subst z; rw [h] at m; exact m)]; exact h))
    · exact .inl (.inr ⟨o, by rw [upd_ne (fun z => by subst z; rw [h] at m; exact m)]; exact h⟩)
    · exact .inr h
  · rcases h with ⟨o, h⟩ | h
    · exact .inl ⟨o, by rw [upd_ne (fun z => by subst z; rw [h] at m; exact m)]; exact h⟩
    · exact .inr h

theorem grow_write {p : Addr} {u : HO} (m : Mut (H p)) (hl : p ∈ loc) : Grow K loc H loc (upd H p u) :=
  ⟨up_write m fun _ _ h => h, fun a v e na => (upd_ne fun (z : a = p) => na (by rw [z]; exact hl)).trans e, fun a h => .inl h⟩

/-- a value (a tuple, say) is laid: the state is as it was -/
theorem StR.lay {p : Addr} {u : HO} (h : StR K loc S H) (n : H p = none) : StR K loc S (upd H p u) := by
  refine ⟨h.len, h.nd, fun i o a e1 e2 => ?_⟩
  have r := h.obj i o a e1 e2
  obtain ⟨v, e3, _⟩ := r.some
  exact r.keep (grow_new n fun _ _ z => z) (upd_ne (ne_of_none e3 n))
/-- a new object -/
theorem StR.new {p : Addr} {u : HO} {o : PObj} (h : StR K loc S H) (n : H p = none) (r : ORep K (loc ++ [p]) (upd H p u) p o) : StR K (loc ++ [p]) (S ++ [o]) (upd H p u) := by
  have pre : ∀ (i : Nat) (a : Addr), loc[i]? = some a → (loc ++ [p])[i]? = some a := fun i a e => by
    rw [List.getElem?_append_left (List.getElem?_eq_some_iff.mp e).1]; exact e
  refine ⟨by simp [h.len], ?_, fun i o' a e1 e2 => ?_⟩
  · refine List.nodup_append.mpr ⟨h.nd, by simp, fun x hx y hy => ?_⟩
    have e : y = p := by simpa using hy
    subst e
    obtain ⟨i, hi⟩ := List.getElem?_of_mem hx
    obtain ⟨_, v, _, e3, _⟩ := h.live hi
    exact ne_of_none e3 n
  · by_cases hi : i < S.length
    · rw [List.getElem?_append_left hi] at e1
      rw [List.getElem?_append_left (by rw [h.len]; exact hi)] at e2
      have q := h.obj i o' a e1 e2
      obtain ⟨v, e3, _⟩ := q.some
      exact q.keep (grow_new n pre fun x hx => by simpa using hx) (upd_ne (ne_of_none e3 n))
    · have e : i = S.length := by
        have := (List.getElem?_eq_some_iff.mp e1).1
        rw [List.length_append] at this
        simp at this
        omega
      subst e
      rw [List.getElem?_append_right (Nat.le_refl _)] at e1
      rw [← h.len, List.getElem?_append_right (Nat.le_refl _)] at e2
      simp at e1 e2
      subst e1; subst e2
      exact r
theorem StR.grow_new (h : StR K loc S H) {p : Addr} {u : HO} (n : H p = none) : Grow K loc H (loc ++ [p]) (upd H p u) :=
  D.grow_new n (fun i a e => by rw [List.getElem?_append_left (List.getElem?_eq_some_iff.mp e).1]; exact e) fun x hx => by simpa using hx
/-- a mutable thing, laid apart so far, becomes an object of the state -/
theorem StR.adopt {p : Addr} {u0 u : HO} {o : PObj} (h : StR K loc S H) (e : H p = some u0) (m : Mut (some u0)) (nl : p ∉ loc) (r : ORep K (loc ++ [p]) (upd H p u) p o) : StR K (loc ++ [p]) (S ++ [o]) (upd H p u) := by
  have up : Up K loc H (loc ++ [p]) (upd H p u) := up_write (by rw [e]; exact m) fun i a e => by rw [List.getElem?_append_left (List.getElem?_eq_some_iff.mp e).1]; exact e
  refine ⟨by simp [h.len], ?_, fun i o' a e1 e2 => ?_⟩
  · refine List.nodup_append.mpr ⟨h.nd, by simp, fun x hx y hy z => ?_⟩
    have e : y = p := by simpa using hy
    subst e; subst z
    exact nl hx
  · by_cases hi : i < S.length
    · rw [List.getElem?_append_left hi] at e1
      rw [List.getElem?_append_left (by rw [h.len]; exact hi)] at e2
      exact (h.obj i o' a e1 e2).keepU up (upd_ne fun z => nl (by rw [← z]; exact List.mem_of_getElem? e2))
    · have e : i = S.length := by
        have := (List.getElem?_eq_some_iff.mp e1).1
        rw [List.length_append] at this
        simp at this
        omega
      subst e
      rw [List.getElem?_append_right (Nat.le_refl _)] at e1
      rw [← h.len, List.getElem?_append_right (Nat.le_refl _)] at e2
      simp at e1 e2
      subst e1; subst e2
      exact r
/-- .. seen from where it was not laid yet -/
theorem Grow.adopt {loc0 : List Addr} {H0 : Hp} {p : Addr} {u0 u u' : HO} (n : H0 p = none) (nl : p ∉ loc0) (g : Grow K loc0 (upd H0 p u') loc H) (e : H p = some u0) (m : Mut (some u0)) : Grow K loc0 H0 (loc ++ [p]) (upd H p u) := by
  have g1 : Grow K loc0 H0 loc0 (upd H0 p u') := grow_new n fun _ _ z => z
  have g2 := g1.trans g
  have up : Up K loc H (loc ++ [p]) (upd H p u) := up_write (by rw [e]; exact m) fun i a e => by rw [List.getElem?_append_left (List.getElem?_eq_some_iff.mp e).1]; exact e
  refine ⟨⟨fun i a h => up.pre i a (g2.pre i a h), fun a vs h => up.tup a vs (g2.tup a vs h), fun a vs h => up.frz a vs (g2.frz a vs h)⟩, fun a v e na => ?_, fun a h => ?_⟩
  · rw [upd_ne (ne_of_none e n)]
    exact g2.fra a v e na
  · rcases List.mem_append.mp h with h | h
    · exact g2.new a h
    · have e : a = p := by simpa using h
      subst e
      exact .inr n
theorem StR.last (h : StR K loc S H) (p : Addr) : (loc ++ [p])[S.length]? = some p := by
  rw [← h.len, List.getElem?_append_right (Nat.le_refl _)]; simp
/-- an object is written -/
theorem StR.put {i : Nat} {a : Addr} {u : HO} {o : PObj} (h : StR K loc S H) (e : loc[i]? = some a) (r : ORep K loc (upd H a u) a o) : StR K loc (S.set i o) (upd H a u) := by
  obtain ⟨o0, v, e0, e3, m⟩ := h.live e
  refine ⟨by simp [h.len], h.nd, fun j o' b e1 e2 => ?_⟩
  by_cases hj : i = j
  · subst hj
    rw [e] at e2; cases e2
    rw [List.getElem?_set_self (List.getElem?_eq_some_iff.mp e0).1] at e1
    cases e1
    exact r
  · rw [List.getElem?_set_ne hj] at e1
    exact (h.obj j o' b e1 e2).keep (grow_write (by rw [e3]; exact m) (List.mem_of_getElem? e)) (upd_ne (h.ne e2 e (Ne.symm hj)))
theorem StR.grow_put (h : StR K loc S H) {i : Nat} {a : Addr} {u : HO} (e : loc[i]? = some a) : Grow K loc H loc (upd H a u) := by
  obtain ⟨o0, v, e0, e3, m⟩ := h.live e
  exact grow_write (by rw [e3]; exact m) (List.mem_of_getElem? e)
end

/-! ### results -/
inductive Res (α : Type) where
  | ok (a : α) (S : Hs)
  | exc (c : Value) (fs : List (Str × PV)) (S : Hs)
  | bad
abbrev Sl := List (Option PV)
abbrev EM := Sl → Hs → Res PV
abbrev TM := Sl → Hs → Res Bool
abbrev AM := Sl → Hs → Res (List PV)
def Res.bind {α β : Type} (r : Res α) (k : α → Hs → Res β) : Res β :=
  match r with
  | .ok a S => k a S
  | .exc c fs S => .exc c fs S
  | .bad => .bad
@[simp] theorem Res.bind_ok {α β : Type} (a : α) (S : Hs) (k : α → Hs → Res β) : (Res.ok a S).bind k = k a S := (rfl : k a S = k a S).trans rfl
@[simp] theorem Res.bind_exc {α β : Type} (c : Value) (fs : List (Str × PV)) (S : Hs) (k : α → Hs → Res β) : (Res.exc c fs S : Res α).bind k = .exc c fs S := (rfl : (Res.exc c fs S : Res β) = _).trans rfl
@[simp] theorem Res.bind_bad {α β : Type} (k : α → Hs → Res β) : (Res.bad : Res α).bind k = .bad := (rfl : (Res.bad : Res β) = _).trans rfl

def SlR (K : PySem.W.Frag) (loc : List Addr) (H : Hp) (env : Sl) (σ : St) : Prop :=
  env.length = σ.length ∧ ∀ (i : Nat) (p : PV), env[i]? = some (some p) → ∃ v, σ[i]? = some (some v) ∧ Rep K loc H p v
theorem SlR.up {K : PySem.W.Frag} {loc loc' : List Addr} {H H' : Hp} {env : Sl} {σ : St} (h : SlR K loc H env σ) (g : Grow K loc H loc' H') : SlR K loc' H' env σ :=
  ⟨h.1, fun i p e => let ⟨v, e1, r⟩ := h.2 i p e; ⟨v, e1, Rep.up g _ _ r⟩⟩
theorem SlR.set {K : PySem.W.Frag} {loc : List Addr} {H : Hp} {env : Sl} {σ : St} (h : SlR K loc H env σ) (i : Nat) {p : PV} {v : V} (r : Rep K loc H p v) : SlR K loc H (env.set i (some p)) (σ.set i (some v)) := by
  refine ⟨by simp [h.1], fun j q e => ?_⟩
  by_cases hj : i = j
  · subst hj
    by_cases hi : i < env.length
    · rw [List.getElem?_set_self hi] at e
      cases e
      exact ⟨v, List.getElem?_set_self (by rw [← h.1]; exact hi), r⟩
    · rw [List.getElem?_eq_none (by simpa using hi)] at e; cases e
  · rw [List.getElem?_set_ne hj] at e
    rw [List.getElem?_set_ne hj]
    exact h.2 j q e
/-- an exception's own dict -/
def XR (K : PySem.W.Frag) (loc : List Addr) (H : Hp) (fs : List (Str × PV)) (d : Option Addr) : Prop :=
  (fs = [] ∧ d = none) ∨ ∃ a qs, d = some a ∧ H a = some (.xd qs) ∧ TRep K loc H fs qs

section
variable (K : PySem.W.Frag) (W : WX)
/-- what is wanted of a result -/
def PostR {α β : Type} (R : List Addr → Hp → α → β → Prop) (σ : St) (Q : β → Hp → Prop) (loc : List Addr) (H : Hp) : Res α → Prop
  | .ok a S => ∀ loc' H' x, Grow K loc H loc' H' → StR K loc' S H' → R loc' H' a x → Q x H'
  | .exc c fs S => ∀ loc' H' d, Grow K loc H loc' H' → StR K loc' S H' → XR K loc' H' fs d → W c d σ H'
  | .bad => False
abbrev Post (σ : St) (Q : VK) (loc : List Addr) (H : Hp) (r : Res PV) : Prop := PostR K W (fun l h p v => Rep K l h p v) σ Q loc H r
def tG {α β : Type} (R : List Addr → Hp → α → β → Prop) (m : Sl → Hs → Res α) : St → Hp → (β → Hp → Prop) → Prop := fun σ H Q =>
  ∃ loc S env, StR K loc S H ∧ SlR K loc H env σ ∧ PostR K W R σ Q loc H (m env S)
/-- .. where some values are known -/
def tGv {α β : Type} (R : List Addr → Hp → α → β → Prop) (ps : List PV) (xs : List V) (m : Sl → Hs → Res α) : St → Hp → (β → Hp → Prop) → Prop := fun σ H Q =>
  ∃ loc S env, StR K loc S H ∧ SlR K loc H env σ ∧ Reps K loc H ps xs ∧ PostR K W R σ Q loc H (m env S)
abbrev RV (l : List Addr) (h : Hp) (p : PV) (v : V) : Prop := Rep K l h p v
abbrev RB (_ : List Addr) (_ : Hp) (p : Bool) (v : Bool) : Prop := p = v
abbrev RL (l : List Addr) (h : Hp) (p : List PV) (v : List V) : Prop := Reps K l h p v
abbrev tM (m : EM) : TE := tG K W (RV K) m
abbrev tB (m : TM) : TT := tG K W RB m
abbrev tA (m : AM) : TA := tG K W (RL K) m
end

section
variable {K : PySem.W.Frag} {W : WX} {α β γ δ : Type} {R : List Addr → Hp → α → β → Prop} {R' : List Addr → Hp → γ → δ → Prop} {σ : St} {H H' : Hp} {loc loc' : List Addr} {ps : List PV} {xs : List V}
theorem PostR.up {Q : β → Hp → Prop} {r : Res α} (g : Grow K loc H loc' H') (h : PostR K W R σ Q loc H r) : PostR K W R σ Q loc' H' r := by
  cases r with
  | ok a S => exact fun l2 h2 x g2 => h l2 h2 x (g.trans g2)
  | exc c fs S => exact fun l2 h2 d g2 => h l2 h2 d (g.trans g2)
  | bad => exact h
theorem PostR.imp {Q Q' : β → Hp → Prop} {r : Res α} (f : ∀ x h, Q x h → Q' x h) (h : PostR K W R σ Q loc H r) : PostR K W R σ Q' loc H r := by
  cases r with
  | ok a S => exact fun l2 h2 x g2 s r => f x h2 (h l2 h2 x g2 s r)
  | exc c fs S => exact h
  | bad => exact h
theorem tG.imp {m : Sl → Hs → Res α} {Q Q' : β → Hp → Prop} (f : ∀ x h, Q x h → Q' x h) (h : tG K W R m σ H Q) : tG K W R m σ H Q' := by
  obtain ⟨loc, S, env, s, e, p⟩ := h
  exact ⟨loc, S, env, s, e, p.imp f⟩
theorem tG.v {m : Sl → Hs → Res α} {Q : β → Hp → Prop} (h : tG K W R m σ H Q) : tGv K W R [] [] m σ H Q := by
  obtain ⟨loc, S, env, s, e, p⟩ := h
  exact ⟨loc, S, env, s, e, .nil, p⟩
def bindE (m : Sl → Hs → Res γ) (k : γ → Sl → Hs → Res α) : Sl → Hs → Res α := fun env S => (m env S).bind fun v S' => k v env S'
/-- the first of two: what is wanted of it, then the second with its value known -/
theorem tGv.bind {m : EM} {k : PV → Sl → Hs → Res α} {Q : β → Hp → Prop} (h : tGv K W R ps xs (bindE m k) σ H Q) :
    tM K W m σ H fun y H2 => ∃ u, tGv K W R (u :: ps) (y :: xs) (k u) σ H2 Q := by
  obtain ⟨loc, S, env, s, e, rs, p⟩ := h
  refine ⟨loc, S, env, s, e, ?_⟩
  unfold bindE at p
  cases hm : m env S with
  | ok v S1 =>
    rw [hm] at p
    exact fun l2 h2 x g2 s2 r2 => ⟨v, l2, S1, env, s2, e.up g2, .cons r2 (rs.up g2), PostR.up g2 p⟩
  | exc c fs S1 =>
    rw [hm] at p
    exact p
  | bad =>
    rw [hm] at p
    exact p
/-- .. where the first one is a list, a test -/
theorem tGv.bindB {m : TM} {k : Bool → Sl → Hs → Res α} {Q : β → Hp → Prop} (h : tGv K W R ps xs (bindE m k) σ H Q) :
    tB K W m σ H fun b H2 => tGv K W R ps xs (k b) σ H2 Q := by
  obtain ⟨loc, S, env, s, e, rs, p⟩ := h
  refine ⟨loc, S, env, s, e, ?_⟩
  unfold bindE at p
  cases hm : m env S with
  | ok v S1 =>
    rw [hm] at p
    intro l2 h2 x g2 s2 r2
    subst r2
    exact ⟨l2, S1, env, s2, e.up g2, rs.up g2, PostR.up g2 p⟩
  | exc c fs S1 =>
    rw [hm] at p
    exact p
  | bad =>
    rw [hm] at p
    exact p
theorem tGv.bindA {m : AM} {k : List PV → Sl → Hs → Res α} {Q : β → Hp → Prop} (h : tGv K W R ps xs (bindE m k) σ H Q) :
    tA K W m σ H fun ys H2 => ∃ us, tGv K W R (us ++ ps) (ys ++ xs) (k us) σ H2 Q := by
  obtain ⟨loc, S, env, s, e, rs, p⟩ := h
  refine ⟨loc, S, env, s, e, ?_⟩
  unfold bindE at p
  cases hm : m env S with
  | ok v S1 =>
    rw [hm] at p
    exact fun l2 h2 x g2 s2 r2 => ⟨v, l2, S1, env, s2, e.up g2, Reps.append r2 (rs.up g2), PostR.up g2 p⟩
  | exc c fs S1 =>
    rw [hm] at p
    exact p
  | bad =>
    rw [hm] at p
    exact p
end

/-! ### judgements -/
def DE (X : Cx) (e : Expr) (m : EM) : Prop := ∀ W, Takes X W → PE X e (tM X.K W m)
def DT (X : Cx) (e : Expr) (m : TM) : Prop := ∀ W, Takes X W → PT X e (tB X.K W m)
def DA (X : Cx) (es : List Expr) (m : AM) : Prop := ∀ W, Takes X W → PA X es (tA X.K W m)
theorem _root_.L2.PE.imp {X : Cx} {e : Expr} {t t' : TE} (h : PE X e t) (f : ∀ σ H Q, t' σ H Q → t σ H Q) : PE X e t' := ⟨fun pins s σ H Q I q => h.run pins s σ H Q I (f σ H Q q)⟩
theorem _root_.L2.PT.imp {X : Cx} {e : Expr} {t t' : TT} (h : PT X e t) (f : ∀ σ H Q, t' σ H Q → t σ H Q) : PT X e t' := ⟨fun pins s σ H Q I q => h.run pins s σ H Q I (f σ H Q q)⟩
theorem _root_.L2.PA.imp {X : Cx} {e : List Expr} {t t' : TA} (h : PA X e t) (f : ∀ σ H Q, t' σ H Q → t σ H Q) : PA X e t' := ⟨fun pos pins s σ H Q I q => h.run pos pins s σ H Q I (f σ H Q q)⟩
end D

/-! D2: operations on deep values, and that the machine does them. -/
namespace D
open PySem PySem.Spec PyProof.Rows L2

/-! ### judgements by values -/
def DOp (X : Cx) (g : Value → Value → Sem Value) (f : PV → PV → Hs → Res PV) : Prop :=
  ∀ W, Takes X W → ∀ (pins : List (Addr × Obj)) (s : Shared) (σ : St) (H : Hp) (x y : V) (v u : Value) (Q : VK) (loc : List Addr) (S : Hs) (p q : PV),
    Inv X pins σ H s → RelV x v → RelV y u → StR X.K loc S H → Rep X.K loc H p x → Rep X.K loc H q y → Post X.K W σ Q loc H (f p q S) →
    wpAny (model X.prog X.w) X.A (g v u) (EP X pins σ Q) X.xe s
def DUn (X : Cx) (g : Value → Sem Value) (f : PV → Hs → Res PV) : Prop :=
  ∀ W, Takes X W → ∀ (pins : List (Addr × Obj)) (s : Shared) (σ : St) (H : Hp) (x : V) (v : Value) (Q : VK) (loc : List Addr) (S : Hs) (p : PV),
    Inv X pins σ H s → RelV x v → StR X.K loc S H → Rep X.K loc H p x → Post X.K W σ Q loc H (f p S) →
    wpAny (model X.prog X.w) X.A (g v) (EP X pins σ Q) X.xe s
def DTr (X : Cx) (f : PV → Hs → Res Bool) : Prop :=
  ∀ W, Takes X W → ∀ (pins : List (Addr × Obj)) (s : Shared) (σ : St) (H : Hp) (x : V) (v : Value) (Q : Bool → Hp → Prop) (loc : List Addr) (S : Hs) (p : PV),
    Inv X pins σ H s → RelV x v → StR X.K loc S H → Rep X.K loc H p x → PostR X.K W RB σ Q loc H (f p S) →
    wpAny (model X.prog X.w) X.A (truthy v) (TP X pins σ Q) X.xe s
def DCl (X : Cx) (c : Value) (f : List PV → Hs → Res PV) : Prop :=
  ∀ W, Takes X W → ∀ (pins : List (Addr × Obj)) (s : Shared) (σ : St) (H : Hp) (xs : List V) (us : List Value) (Q : VK) (loc : List Addr) (S : Hs) (ps : List PV),
    Inv X pins σ H s → Vals xs us → StR X.K loc S H → Reps X.K loc H ps xs → Post X.K W σ Q loc H (f ps S) →
    wpAny (model X.prog X.w) X.A (call c us) (EP X pins σ Q) X.xe s
section
variable {X : Cx}
theorem DOp.of {g : Value → Value → Sem Value} {f : PV → PV → Hs → Res PV} {r : R2} (h : OpR X g r)
    (b : ∀ (W : WX) (σ : St) (H : Hp) (x y : V) (Q : VK) (loc : List Addr) (S : Hs) (p q : PV), StR X.K loc S H → Rep X.K loc H p x → Rep X.K loc H q y → Post X.K W σ Q loc H (f p q S) → r x y H Q) : DOp X g f :=
  fun W _ pins s σ H x y v u Q loc S p q I rx ry hS hp hq hP => h pins s σ H x y v u Q I rx ry (b W σ H x y Q loc S p q hS hp hq hP)
theorem DUn.of {g : Value → Sem Value} {f : PV → Hs → Res PV} {r : V → Hp → VK → Prop} (h : UnR X g r)
    (b : ∀ (W : WX) (σ : St) (H : Hp) (x : V) (Q : VK) (loc : List Addr) (S : Hs) (p : PV), StR X.K loc S H → Rep X.K loc H p x → Post X.K W σ Q loc H (f p S) → r x H Q) : DUn X g f :=
  fun W _ pins s σ H x v Q loc S p I rx hS hp hP => h pins s σ H x v Q I rx (b W σ H x Q loc S p hS hp hP)
theorem DCl.of {c : Value} {f : List PV → Hs → Res PV} {r : List V → Hp → VK → Prop} (h : CallR X c r)
    (b : ∀ (W : WX) (σ : St) (H : Hp) (xs : List V) (Q : VK) (loc : List Addr) (S : Hs) (ps : List PV), StR X.K loc S H → Reps X.K loc H ps xs → Post X.K W σ Q loc H (f ps S) → r xs H Q) : DCl X c f :=
  fun W _ pins s σ H xs us Q loc S ps I rx hS hp hP => h pins s σ H xs us Q I rx (b W σ H xs Q loc S ps hS hp hP)
end

/-! ### what stands in a list -/
def lstAt (S : Hs) (i : Nat) : Option (List PV) := match S[i]? with
  | some (.lst xs) => some xs
  | _ => none
theorem lstAt_eq {S : Hs} {i : Nat} {xs : List PV} (h : lstAt S i = some xs) : S[i]? = some (.lst xs) := by
  unfold lstAt at h
  split at h
  · cases h; assumption
  · cases h
@[simp] theorem lstAt_of {S : Hs} {i : Nat} {xs : List PV} (h : S[i]? = some (.lst xs)) : lstAt S i = some xs := by unfold lstAt; rw [h]
theorem lst_rep {K : PySem.W.Frag} {loc : List Addr} {S : Hs} {H : Hp} {i : Nat} {xs : List PV} {x : V} (hS : StR K loc S H) (e : lstAt S i = some xs) (r : Rep K loc H (.ref i) x) :
    ∃ a vs, x = .ref a ∧ loc[i]? = some a ∧ H a = some (.lst vs) ∧ Reps K loc H xs vs := by
  cases r with
  | ref q =>
    obtain ⟨vs, e1, r1⟩ := hS.obj _ _ _ (lstAt_eq e) q
    exact ⟨_, vs, rfl, q, e1, r1⟩
/-- a sequence that is read -/
def seqOf (S : Hs) : PV → Option (List PV)
  | .cl xs => some xs
  | .ref i => lstAt S i
  | _ => none
theorem seq_rep {K : PySem.W.Frag} {loc : List Addr} {S : Hs} {H : Hp} {p : PV} {xs : List PV} {x : V} (hS : StR K loc S H) (e : seqOf S p = some xs) (r : Rep K loc H p x) :
    ∃ a vs, x = .ref a ∧ SqL K H a vs ∧ Reps K loc H xs vs := by
  cases p with
  | cl ys =>
    cases e
    cases r with
    | cl h1 h2 => exact ⟨_, _, rfl, h1.sq, h2⟩
  | ref i =>
    obtain ⟨a, vs, e1, _, e2, e3⟩ := lst_rep hS (show lstAt S i = some xs from e) r
    exact ⟨a, vs, e1, SqL.of e2, e3⟩
  | _ => cases e

def newL (xs : List PV) (S : Hs) : Res PV := if xs.length ≤ sizeLine then .ok (.ref S.length) (S ++ [.lst xs]) else .bad
theorem newL_post {K : PySem.W.Frag} {W : WX} {σ : St} {Q : VK} {loc loc0 : List Addr} {S : Hs} {H H0 : Hp} {xs : List PV} {vs : List V} (hS : StR K loc S H) (hr : Reps K loc H xs vs) (g0 : Grow K loc0 H0 loc H) (h : Post K W σ Q loc0 H0 (newL xs S)) :
    vs.length ≤ sizeLine ∧ ∀ p, H p = none → Q (.ref p) (upd H p (.lst vs)) := by
  unfold newL at h
  split at h
  · rename_i hz
    refine ⟨by rw [← hr.length]; exact hz, fun p n => ?_⟩
    have g := hS.grow_new (u := .lst vs) n
    exact h _ _ _ (g0.trans g) (hS.new n ⟨vs, upd_same, hr.up g⟩) (.ref (hS.last p))
  · exact h.elim

theorem newT_post {K : PySem.W.Frag} {W : WX} {σ : St} {Q : VK} {loc loc0 : List Addr} {S : Hs} {H H0 : Hp} {xs : List PV} {vs : List V} (hS : StR K loc S H) (hr : Reps K loc H xs vs) (g0 : Grow K loc0 H0 loc H) (h : Post K W σ Q loc0 H0 (.ok (.tup xs) S)) :
    ∀ p, H p = none → Q (.ref p) (upd H p (.tup vs)) := fun p n => by
  have g : Grow K loc H loc (upd H p (.tup vs)) := grow_new n fun _ _ z => z
  exact h _ _ _ (g0.trans g) (hS.lay n) (.tup (SqT.of upd_same) (hr.up g))

/-! ### + - * // % ** -/
def addP : PV → PV → Hs → Res PV
  | .int i, .int j, S => .ok (.int (i + j)) S
  | .str a, .str b, S => if a.length + b.length ≤ sizeLine then .ok (.str (a ++ b)) S else .bad
  | .tup xs, .tup ys, S => if xs.length + ys.length ≤ sizeLine then .ok (.tup (xs ++ ys)) S else .bad
  | .ref i, .ref j, S => match lstAt S i, lstAt S j with
    | some xs, some ys => newL (xs ++ ys) S
    | _, _ => .bad
  | _, _, _ => .bad
def subP : PV → PV → Hs → Res PV
  | .int i, .int j, S => .ok (.int (i - j)) S
  | _, _, _ => .bad
def mulP : PV → PV → Hs → Res PV
  | .int i, .int j, S => if i.natAbs < 2 ^ 64 ∨ j.natAbs < 2 ^ 64 then .ok (.int (i * j)) S else .bad
  | _, _, _ => .bad
def fdivP : PV → PV → Hs → Res PV
  | .int i, .int j, S => if 0 < j ∧ j < 1073741824 then .ok (.int (i / j)) S else .bad
  | _, _, _ => .bad
def modP : PV → PV → Hs → Res PV
  | .int i, .int j, S => if 0 < j then .ok (.int (i % j)) S else .bad
  | _, _, _ => .bad
def powP : PV → PV → Hs → Res PV
  | .int i, .int j, S => if 0 ≤ j ∧ j ≤ 1000000 ∧ i.natAbs < 2 ^ 64 then .ok (.int (i ^ j.toNat)) S else .bad
  | _, _, _ => .bad
def binP : Operator → PV → PV → Hs → Res PV
  | .Add => addP | .Sub => subP | .Mult => mulP | .FloorDiv => fdivP | .Mod => modP | .Pow => powP
  | _ => fun _ _ _ => .bad

section
variable {X : Cx}
theorem d_add : DOp X (binaryOp .Add) addP := by
  refine DOp.of (op_add.or (op_add_str.or (op_catA.or op_cat))) fun W σ H x y Q loc S p q hS hp hq h => ?_
  unfold addP at h
  split at h
  · cases hp; cases hq
    exact .inl ⟨_, _, rfl, rfl, h _ _ _ .refl hS (.int _)⟩
  · split at h
    · cases hp; cases hq
      exact .inr (.inl ⟨_, _, rfl, rfl, by assumption, h _ _ _ .refl hS (.str _)⟩)
    · exact h.elim
  · split at h
    · rename_i hz
      cases hp with
      | tup h1 r1 =>
        cases hq with
        | tup h2 r2 =>
          refine .inr (.inr (.inl ⟨_, _, _, _, rfl, rfl, h1, h2, by rw [← r1.length, ← r2.length]; exact hz, fun e => ?_, fun _ e => ?_, fun _ _ t n => ?_⟩))
          · subst e
            cases r1
            exact h _ _ _ .refl hS (.tup h2 r2)
          · subst e
            cases r2
            rw [List.append_nil] at h
            exact h _ _ _ .refl hS (.tup h1 r1)
          · exact newT_post hS (r1.append r2) .refl h t n
    · exact h.elim
  · split at h
    · rename_i e1 e2
      obtain ⟨a, vs, rfl, _, ha, ra⟩ := lst_rep hS e1 hp
      obtain ⟨b, us, rfl, _, hb, rb⟩ := lst_rep hS e2 hq
      obtain ⟨z, k⟩ := newL_post hS (ra.append rb) .refl h
      rw [List.length_append] at z
      exact .inr (.inr (.inr ⟨a, b, vs, us, rfl, rfl, ha, hb, z, k⟩))
    · exact h.elim
  · exact h.elim
theorem d_int {g : Value → Value → Sem Value} {C : Int → Int → Prop} {D' : Int → Int → Prop} [∀ i j, Decidable (D' i j)] {k : Int → Int → Int} {f : PV → PV → Hs → Res PV} (h : OpR X g (rI C fun i j => .int (k i j))) (hc : ∀ i j, D' i j → C i j)
    (hf : ∀ i j S, f (.int i) (.int j) S = if D' i j then .ok (.int (k i j)) S else .bad) (hb : ∀ p q S, (∀ i j, ¬ (p = .int i ∧ q = .int j)) → f p q S = .bad) : DOp X g f := by
  refine DOp.of h fun W σ H x y Q loc S p q hS hp hq h => ?_
  by_cases e : ∃ i j, p = .int i ∧ q = .int j
  · obtain ⟨i, j, rfl, rfl⟩ := e
    cases hp; cases hq
    rw [hf] at h
    split at h
    · exact ⟨i, j, rfl, rfl, hc i j (by assumption), h _ _ _ .refl hS (.int _)⟩
    · exact h.elim
  · rw [hb p q S fun i j z => e ⟨i, j, z⟩] at h
    exact h.elim
theorem d_sub : DOp X (binaryOp .Sub) subP := by
  refine DOp.of op_sub fun W σ H x y Q loc S p q hS hp hq h => ?_
  unfold subP at h
  split at h
  · cases hp; cases hq
    exact ⟨_, _, rfl, rfl, h _ _ _ .refl hS (.int _)⟩
  · exact h.elim
theorem d_mul : DOp X (binaryOp .Mult) mulP := by
  refine d_int (D' := fun i j => i.natAbs < 2 ^ 64 ∨ j.natAbs < 2 ^ 64) op_mul (fun i j h => ?_) (fun i j S => rfl) fun p q S h => ?_
  · unfold CMul
    omega
  · unfold mulP
    split
    · exact absurd ⟨rfl, rfl⟩ (h _ _)
    · rfl
theorem d_fdiv : DOp X (binaryOp .FloorDiv) fdivP := by
  refine d_int (D' := fun i j => 0 < j ∧ j < 1073741824) op_fdiv (fun i j h => h) (fun i j S => rfl) fun p q S h => ?_
  unfold fdivP
  split
  · exact absurd ⟨rfl, rfl⟩ (h _ _)
  · rfl
theorem d_mod : DOp X (binaryOp .Mod) modP := by
  refine d_int (D' := fun i j => 0 < j) op_mod (fun i j h => h) (fun i j S => rfl) fun p q S h => ?_
  unfold modP
  split
  · exact absurd ⟨rfl, rfl⟩ (h _ _)
  · rfl
theorem d_pow : DOp X (binaryOp .Pow) powP := by
  refine d_int (D' := fun i j => 0 ≤ j ∧ j ≤ 1000000 ∧ i.natAbs < 2 ^ 64) op_pow (fun i j h => h) (fun i j S => rfl) fun p q S h => ?_
  unfold powP
  split
  · exact absurd ⟨rfl, rfl⟩ (h _ _)
  · rfl
theorem d_bad {g : Value → Value → Sem Value} : DOp X g (fun _ _ _ => .bad) := fun _ _ _ _ _ _ _ _ _ _ _ _ _ _ _ _ _ _ _ _ _ h => h.elim
theorem d_bin (op : Operator) : DOp X (binaryOp op) (binP op) := by
  cases op <;> first | exact d_add | exact d_sub | exact d_mul | exact d_fdiv | exact d_mod | exact d_pow | exact d_bad
end

/-! ### data -/
def omap {α β : Type} (f : α → Option β) : List α → Option (List β)
  | [] => some []
  | x :: xs => match f x, omap f xs with
    | some y, some ys => some (y :: ys)
    | _, _ => none
def toD : Nat → Hs → PV → Option PyData
  | 0, _, _ => none
  | n + 1, S, p => match p with
    | .non => some .none
    | .bl b => some (.bool b)
    | .int i => some (.int i)
    | .str x => some (.str x)
    | .tup xs => (omap (toD n S) xs).map .tuple
    | .cl xs => (omap (toD n S) xs).map .list
    | .ref i => match lstAt S i with
      | some xs => (omap (toD n S) xs).map .list
      | none => none
    | _ => none
theorem toD_dp {K : PySem.W.Frag} {loc : List Addr} {S : Hs} {H : Hp} (hS : StR K loc S H) : ∀ (n : Nat) (p : PV) (d : PyData) (x : V), toD n S p = some d → Rep K loc H p x → Dp K H x d
  | 0, _, _, _, e, _ => by cases e
  | n + 1, p, d, x, e, r => by
    have ih := toD_dp hS n
    have all : ∀ (ps : List PV) (ds : List PyData) (xs : List V), omap (toD n S) ps = some ds → Reps K loc H ps xs → DpAll K H xs ds := by
      intro ps
      induction ps with
      | nil =>
        intro ds xs e r
        cases e; cases r
        exact .nil
      | cons p ps ih2 =>
        intro ds xs e r
        cases r with
        | cons r1 r2 =>
          unfold omap at e
          split at e
          · rename_i y ys e1 e2
            cases e
            exact .cons (ih _ _ _ e1 r1) (ih2 _ _ e2 r2)
          · cases e
    unfold toD at e
    split at e
    · cases e; cases r; exact .non
    · cases e; cases r; exact .bl _
    · cases e; cases r; exact .int _
    · cases e; cases r; exact .str _
    · rename_i xs
      cases r with
      | tup h1 h2 =>
        cases q : omap (toD n S) xs with
        | none => rw [q] at e; cases e
        | some ds => rw [q] at e; cases e; exact .tup h1 (all _ _ _ q h2)
    · rename_i xs
      cases r with
      | cl h1 h2 =>
        cases q : omap (toD n S) xs with
        | none => rw [q] at e; cases e
        | some ds => rw [q] at e; cases e; exact .lst h1.sq (all _ _ _ q h2)
    · split at e
      · rename_i i xs q1
        obtain ⟨a, vs, rfl, _, ha, ra⟩ := lst_rep hS q1 r
        cases q : omap (toD n S) xs with
        | none => rw [q] at e; cases e
        | some ds => rw [q] at e; cases e; exact .lst (SqL.of ha) (all _ _ _ q ra)
      · cases e
    · cases e
def datP (S : Hs) (p : PV) : Option PyData := match toD 66 S p with
  | some d => if SeqAt.shaped d = true then some d else none
  | none => none
theorem datP_dp {K : PySem.W.Frag} {loc : List Addr} {S : Hs} {H : Hp} (hS : StR K loc S H) {p : PV} {d : PyData} {x : V} (e : datP S p = some d) (r : Rep K loc H p x) : Dp K H x d ∧ SeqAt.shaped d = true := by
  unfold datP at e
  split at e
  · split at e
    · cases e
      exact ⟨toD_dp hS 66 p _ x (by assumption) r, by assumption⟩
    · cases e
  · cases e

/-! ### comparisons -/
def eqDP (p q : PV) (S : Hs) : Res PV := match datP S p, datP S q with
  | some d, some e => .ok (.bl (PyData.eqv d e)) S
  | _, _ => .bad
def neDP (p q : PV) (S : Hs) : Res PV := match datP S p, datP S q with
  | some d, some e => .ok (.bl (!PyData.eqv d e)) S
  | _, _ => .bad
/-- texts as they are, all else as data -/
def eqP (p q : PV) (S : Hs) : Res PV := match p, q with
  | .str a, .str b => .ok (.bl (decide (a = b))) S
  | p, q => eqDP p q S
def neP (p q : PV) (S : Hs) : Res PV := match p, q with
  | .str a, .str b => .ok (.bl (!decide (a = b))) S
  | p, q => neDP p q S
def ltP : PV → PV → Hs → Res PV
  | .int i, .int j, S => .ok (.bl (decide (i < j))) S
  | _, _, _ => .bad
def leP : PV → PV → Hs → Res PV
  | .int i, .int j, S => .ok (.bl (decide (i ≤ j))) S
  | _, _, _ => .bad
def gtP : PV → PV → Hs → Res PV
  | .int i, .int j, S => .ok (.bl (decide (j < i))) S
  | _, _, _ => .bad
def geP : PV → PV → Hs → Res PV
  | .int i, .int j, S => .ok (.bl (decide (j ≤ i))) S
  | _, _, _ => .bad
def isNon : PV → Bool
  | .non => true
  | _ => false
def isP (p q : PV) (S : Hs) : Res PV := if isNon q then .ok (.bl (isNon p)) S else .bad
def isnotP (p q : PV) (S : Hs) : Res PV := if isNon q then .ok (.bl (!isNon p)) S else .bad
/-- the data of a sequence's items -/
def seqD : PyData → Option (List PyData)
  | .list ds => some ds
  | .tuple ds => some ds
  | _ => none
def inB (S : Hs) (p q : PV) : Option Bool := match datP S p, datP S q with
  | some d, some e => (seqD e).map fun ds => ds.any fun z => PyData.eqv z d
  | _, _ => none
def inP (p q : PV) (S : Hs) : Res PV := match inB S p q with
  | some b => .ok (.bl b) S
  | none => .bad
def ninP (p q : PV) (S : Hs) : Res PV := match inB S p q with
  | some b => .ok (.bl (!b)) S
  | none => .bad
def cmpP : CmpOp → PV → PV → Hs → Res PV
  | .Eq => eqP | .NotEq => neP | .Lt => ltP | .LtE => leP | .Gt => gtP | .GtE => geP | .Is => isP | .IsNot => isnotP | .In => inP | .NotIn => ninP

section
variable {X : Cx}
theorem d_eqD (hu : X.A.units + 64 < cLine) : DOp X (compareOp .Eq) eqDP := by
  refine DOp.of (op_eqD hu) fun W σ H x y Q loc S p q hS hp hq h => ?_
  unfold eqDP at h
  split at h
  · obtain ⟨h1, h2⟩ := datP_dp hS (by assumption) hp
    obtain ⟨h3, h4⟩ := datP_dp hS (by assumption) hq
    exact ⟨_, _, h1, h3, h2, h4, h _ _ _ .refl hS (.bl _)⟩
  · exact h.elim
theorem d_neD (hu : X.A.units + 64 < cLine) : DOp X (compareOp .NotEq) neDP := by
  refine DOp.of (op_neD hu) fun W σ H x y Q loc S p q hS hp hq h => ?_
  unfold neDP at h
  split at h
  · obtain ⟨h1, h2⟩ := datP_dp hS (by assumption) hp
    obtain ⟨h3, h4⟩ := datP_dp hS (by assumption) hq
    exact ⟨_, _, h1, h3, h2, h4, h _ _ _ .refl hS (.bl _)⟩
  · exact h.elim
theorem str_dec {a b : Str} : decide (V.str a = V.str b) = decide (a = b) := by
  by_cases h : a = b
  · subst h; simp
  · rw [decide_eq_false h, decide_eq_false fun z => h (V.str.inj z)]
theorem d_eq (hu : X.A.units + 64 < cLine) : DOp X (compareOp .Eq) eqP := by
  intro W tk pins s σ H x y v u Q loc S p q I rx ry hS hp hq h
  unfold eqP at h
  split at h
  · cases hp; cases hq
    exact op_eq pins s σ H _ _ v u Q I rx ry ⟨rfl, by rw [str_dec]; exact h _ _ _ .refl hS (.bl _)⟩
  · exact d_eqD hu W tk pins s σ H x y v u Q loc S _ _ I rx ry hS hp hq h
theorem d_ne (hu : X.A.units + 64 < cLine) : DOp X (compareOp .NotEq) neP := by
  intro W tk pins s σ H x y v u Q loc S p q I rx ry hS hp hq h
  unfold neP at h
  split at h
  · cases hp; cases hq
    exact op_ne pins s σ H _ _ v u Q I rx ry ⟨rfl, by rw [str_dec]; exact h _ _ _ .refl hS (.bl _)⟩
  · exact d_neD hu W tk pins s σ H x y v u Q loc S _ _ I rx ry hS hp hq h
theorem d_icmp {g : Value → Value → Sem Value} {k : Int → Int → Bool} {f : PV → PV → Hs → Res PV} (h : OpR X g (rI0 fun i j => .bl (k i j)))
    (hf : ∀ i j S, f (.int i) (.int j) S = .ok (.bl (k i j)) S) (hb : ∀ p q S, (∀ i j, ¬ (p = .int i ∧ q = .int j)) → f p q S = .bad) : DOp X g f := by
  refine DOp.of h fun W σ H x y Q loc S p q hS hp hq h => ?_
  by_cases e : ∃ i j, p = .int i ∧ q = .int j
  · obtain ⟨i, j, rfl, rfl⟩ := e
    cases hp; cases hq
    rw [hf] at h
    exact ⟨i, j, rfl, rfl, h _ _ _ .refl hS (.bl _)⟩
  · rw [hb p q S fun i j z => e ⟨i, j, z⟩] at h
    exact h.elim
theorem d_lt : DOp X (compareOp .Lt) ltP := by
  refine d_icmp op_lt (fun _ _ _ => rfl) fun p q S h => ?_
  unfold ltP
  split
  · exact absurd ⟨rfl, rfl⟩ (h _ _)
  · rfl
theorem d_le : DOp X (compareOp .LtE) leP := by
  refine d_icmp op_le (fun _ _ _ => rfl) fun p q S h => ?_
  unfold leP
  split
  · exact absurd ⟨rfl, rfl⟩ (h _ _)
  · rfl
theorem d_gt : DOp X (compareOp .Gt) gtP := by
  refine d_icmp op_gt (fun _ _ _ => rfl) fun p q S h => ?_
  unfold gtP
  split
  · exact absurd ⟨rfl, rfl⟩ (h _ _)
  · rfl
theorem d_ge : DOp X (compareOp .GtE) geP := by
  refine d_icmp op_ge (fun _ _ _ => rfl) fun p q S h => ?_
  unfold geP
  split
  · exact absurd ⟨rfl, rfl⟩ (h _ _)
  · rfl
theorem isNon_iff {K : PySem.W.Frag} {loc : List Addr} {H : Hp} {p : PV} {x : V} (r : Rep K loc H p x) : isNon p = decide (x = .non) := by
  cases r <;> rfl
theorem isNon_eq {K : PySem.W.Frag} {loc : List Addr} {H : Hp} {p : PV} {x : V} (r : Rep K loc H p x) (h : isNon p = true) : x = .non := by
  cases r <;> first | rfl | cases h
theorem d_is : DOp X (compareOp .Is) isP := by
  refine DOp.of op_isN fun W σ H x y Q loc S p q hS hp hq h => ?_
  unfold isP at h
  split at h
  · rename_i e
    rw [isNon_iff hp] at h
    exact ⟨isNon_eq hq e, h _ _ _ .refl hS (.bl _)⟩
  · exact h.elim
theorem d_isnot : DOp X (compareOp .IsNot) isnotP := by
  refine DOp.of op_notN fun W σ H x y Q loc S p q hS hp hq h => ?_
  unfold isnotP at h
  split at h
  · rename_i e
    rw [isNon_iff hp] at h
    exact ⟨isNon_eq hq e, h _ _ _ .refl hS (.bl _)⟩
  · exact h.elim
theorem d_in (hu : X.A.units + 65 < cLine) : DOp X (compareOp .In) inP := by
  intro W tk pins s σ H x y v u Q loc S p q I rx ry hS hp hq h
  unfold inP inB at h
  cases e1 : datP S p with
  | none => rw [e1] at h; exact h.elim
  | some d =>
    cases e2 : datP S q with
    | none => rw [e1, e2] at h; exact h.elim
    | some e =>
      rw [e1, e2] at h
      obtain ⟨h1, h2⟩ := datP_dp hS e1 hp
      obtain ⟨h3, h4⟩ := datP_dp hS e2 hq
      obtain ⟨as, r1⟩ := Dp.reads I d x v h1 rx
      obtain ⟨bs, r2⟩ := Dp.reads I e y u h3 ry
      cases e with
      | list ds => exact SeqAt.in_list_reads r2 r1 (SeqAt.canLay_of_shaped h4) (SeqAt.canLay_of_shaped h2) (room_in_shaped h2 hu) ⟨.bl _, H, I, rfl, h _ _ _ .refl hS (.bl _)⟩
      | tuple ds => exact SeqAt.in_tuple_reads r2 r1 (SeqAt.canLay_of_shaped h4) (SeqAt.canLay_of_shaped h2) (room_in_shaped h2 hu) ⟨.bl _, H, I, rfl, h _ _ _ .refl hS (.bl _)⟩
      | _ => exact h.elim
theorem d_notin (hu : X.A.units + 65 < cLine) : DOp X (compareOp .NotIn) ninP := by
  intro W tk pins s σ H x y v u Q loc S p q I rx ry hS hp hq h
  unfold ninP inB at h
  cases e1 : datP S p with
  | none => rw [e1] at h; exact h.elim
  | some d =>
    cases e2 : datP S q with
    | none => rw [e1, e2] at h; exact h.elim
    | some e =>
      rw [e1, e2] at h
      obtain ⟨h1, h2⟩ := datP_dp hS e1 hp
      obtain ⟨h3, h4⟩ := datP_dp hS e2 hq
      obtain ⟨as, r1⟩ := Dp.reads I d x v h1 rx
      obtain ⟨bs, r2⟩ := Dp.reads I e y u h3 ry
      cases e with
      | list ds => exact SeqAt.notIn_list_reads r2 r1 (SeqAt.canLay_of_shaped h4) (SeqAt.canLay_of_shaped h2) (room_in_shaped h2 hu) ⟨.bl _, H, I, rfl, h _ _ _ .refl hS (.bl _)⟩
      | tuple ds => exact SeqAt.notIn_tuple_reads r2 r1 (SeqAt.canLay_of_shaped h4) (SeqAt.canLay_of_shaped h2) (room_in_shaped h2 hu) ⟨.bl _, H, I, rfl, h _ _ _ .refl hS (.bl _)⟩
      | _ => exact h.elim
theorem d_cmp {k : Nat} (hr : Room k X.A) (op : CmpOp) : DOp X (compareOp op) (cmpP op) := by
  have hu := hr.units
  have hu5 : X.A.units + 65 < cLine := by have := hr.un; omega
  cases op with
  | Eq => exact d_eq hu
  | NotEq => exact d_ne hu
  | Lt => exact d_lt
  | LtE => exact d_le
  | Gt => exact d_gt
  | GtE => exact d_ge
  | Is => exact d_is
  | IsNot => exact d_isnot
  | In => exact d_in hu5
  | NotIn => exact d_notin hu5
end

/-! ### truth -/
def truP : PV → Hs → Res Bool
  | .non, S => .ok false S
  | .bl b, S => .ok b S
  | .int i, S => .ok (i != 0) S
  | .str x, S => if x.length ≤ sizeLine then .ok ((x.length : Int) != 0) S else .bad
  | .tup xs, S => .ok (!xs.isEmpty) S
  | .cl xs, S => .ok (!xs.isEmpty) S
  | .ref i, S => match lstAt S i with
    | some xs => .ok (!xs.isEmpty) S
    | none => .bad
  | _, _ => .bad
theorem Reps.empty {K : PySem.W.Frag} {loc : List Addr} {H : Hp} {ps : List PV} {vs : List V} (r : Reps K loc H ps vs) : vs.isEmpty = ps.isEmpty := by cases r <;> rfl
section
variable {X : Cx}
theorem d_tru : DTr X truP := by
  intro W tk pins s σ H x v Q loc S p I rx hS hp h
  refine tru_ok pins s σ H x v Q I rx ?_
  unfold truP at h
  split at h
  · cases hp; exact ⟨_, rfl, h _ _ _ .refl hS rfl⟩
  · cases hp; exact ⟨_, rfl, h _ _ _ .refl hS rfl⟩
  · cases hp; exact ⟨_, rfl, h _ _ _ .refl hS rfl⟩
  · split at h
    · cases hp; exact ⟨_, ⟨by assumption, rfl⟩, h _ _ _ .refl hS rfl⟩
    · exact h.elim
  · cases hp with
    | tup h1 h2 => exact ⟨_, .inr (.inl ⟨_, h1, by rw [h2.empty]⟩), h _ _ _ .refl hS rfl⟩
  · cases hp with
    | cl h1 h2 => exact ⟨_, .inl ⟨_, h1.sq, by rw [h2.empty]⟩, h _ _ _ .refl hS rfl⟩
  · split at h
    · obtain ⟨a, vs, rfl, _, ha, ra⟩ := lst_rep hS (by assumption) hp
      exact ⟨_, .inl ⟨_, SqL.of ha, by rw [ra.empty]⟩, h _ _ _ .refl hS rfl⟩
    · exact h.elim
  · exact h.elim
end
end D

/-! D3: built-in functions and types called with deep values. -/
namespace D
open PySem PySem.Spec PyProof.Rows L2

theorem Reps.one {K : PySem.W.Frag} {loc : List Addr} {H : Hp} {p : PV} {xs : List V} (r : Reps K loc H [p] xs) : ∃ x, xs = [x] ∧ Rep K loc H p x := by
  cases r with
  | cons a b => cases b; exact ⟨_, rfl, a⟩
theorem Reps.two {K : PySem.W.Frag} {loc : List Addr} {H : Hp} {p q : PV} {xs : List V} (r : Reps K loc H [p, q] xs) : ∃ x y, xs = [x, y] ∧ Rep K loc H p x ∧ Rep K loc H q y := by
  cases r with
  | cons a b =>
    cases b with
    | cons c d => cases d; exact ⟨_, _, rfl, a, c⟩

/-! ### len -/
def lenP : List PV → Hs → Res PV
  | [.str x], S => if x.length ≤ sizeLine then .ok (.int x.length) S else .bad
  | [.tup xs], S => .ok (.int xs.length) S
  | [.cl xs], S => .ok (.int xs.length) S
  | [.ref i], S => match S[i]? with
    | some (.lst xs) => .ok (.int xs.length) S
    | some (.dct kvs) => .ok (.int kvs.length) S
    | _ => .bad
  | _, _ => .bad
section
variable {X : Cx}
theorem d_len : DCl X (.builtin "len") lenP := by
  refine DCl.of (CallR.or call_len call_lenD) fun W σ H xs Q loc S ps hS hp h => ?_
  unfold lenP at h
  split at h
  · obtain ⟨x, rfl, r⟩ := hp.one
    split at h
    · cases r
      exact .inl ⟨_, _, rfl, ⟨by assumption, rfl⟩, h _ _ _ .refl hS (.int _)⟩
    · exact h.elim
  · obtain ⟨x, rfl, r⟩ := hp.one
    cases r with
    | tup h1 h2 => exact .inl ⟨_, _, rfl, .inr ⟨_, h1, rfl⟩, by rw [← h2.length]; exact h _ _ _ .refl hS (.int _)⟩
  · obtain ⟨x, rfl, r⟩ := hp.one
    cases r with
    | cl h1 h2 => exact .inl ⟨_, _, rfl, .inl ⟨_, h1.sq, rfl⟩, by rw [← h2.length]; exact h _ _ _ .refl hS (.int _)⟩
  · obtain ⟨x, rfl, r⟩ := hp.one
    cases r with
    | ref q =>
      split at h
      · rename_i e
        obtain ⟨vs, e1, r1⟩ := hS.obj _ _ _ e q
        exact .inl ⟨_, _, rfl, .inl ⟨_, SqL.of e1, rfl⟩, by rw [← r1.length]; exact h _ _ _ .refl hS (.int _)⟩
      · rename_i e
        obtain ⟨vs, e1, r1⟩ := hS.obj _ _ _ e q
        exact .inr ⟨_, _, rfl, e1, by rw [← Paired.length r1]; exact h _ _ _ .refl hS (.int _)⟩
      · exact h.elim
  · exact h.elim
end

/-! ### max, min of two ints; tuple, list -/
def max2P : List PV → Hs → Res PV
  | [.int i, .int j], S => .ok (.int (if j > i then j else i)) S
  | _, _ => .bad
def min2P : List PV → Hs → Res PV
  | [.int i, .int j], S => .ok (.int (if j < i then j else i)) S
  | _, _ => .bad
def tupleP : List PV → Hs → Res PV
  | [.tup xs], S => .ok (.tup xs) S
  | [p], S => match seqOf S p with
    | some xs => .ok (.tup xs) S
    | none => .bad
  | _, _ => .bad
def listP : List PV → Hs → Res PV
  | [.tup xs], S => newL xs S
  | [p], S => match seqOf S p with
    | some xs => newL xs S
    | none => .bad
  | _, _ => .bad
section
variable {X : Cx}
theorem d_max2 (hc : X.calm = true) : DCl X (.builtin "max") max2P := by
  refine DCl.of (call_max2 hc) fun W σ H xs Q loc S ps hS hp h => ?_
  unfold max2P at h
  split at h
  · obtain ⟨x, y, rfl, r1, r2⟩ := hp.two
    cases r1; cases r2
    exact ⟨_, _, rfl, h _ _ _ .refl hS (.int _)⟩
  · exact h.elim
theorem d_min2 (hc : X.calm = true) : DCl X (.builtin "min") min2P := by
  refine DCl.of (call_min2 hc) fun W σ H xs Q loc S ps hS hp h => ?_
  unfold min2P at h
  split at h
  · obtain ⟨x, y, rfl, r1, r2⟩ := hp.two
    cases r1; cases r2
    exact ⟨_, _, rfl, h _ _ _ .refl hS (.int _)⟩
  · exact h.elim
theorem d_tuple : DCl X (.type "tuple") tupleP := by
  refine DCl.of call_tuple_of fun W σ H xs Q loc S ps hS hp h => ?_
  unfold tupleP at h
  split at h
  · obtain ⟨x, rfl, r⟩ := hp.one
    cases r with
    | tup h1 h2 => exact ⟨_, _, rfl, .inr ⟨h1, h _ _ _ .refl hS (.tup h1 h2)⟩⟩
  · obtain ⟨x, rfl, r⟩ := hp.one
    split at h
    · obtain ⟨a, vs, rfl, ha, ra⟩ := seq_rep hS (by assumption) r
      exact ⟨_, _, rfl, .inl ⟨ha, newT_post hS ra .refl h⟩⟩
    · exact h.elim
  · exact h.elim
theorem d_list : DCl X (.type "list") listP := by
  refine DCl.of call_list_of fun W σ H xs Q loc S ps hS hp h => ?_
  unfold listP at h
  split at h
  · obtain ⟨x, rfl, r⟩ := hp.one
    cases r with
    | tup h1 h2 => exact ⟨_, _, rfl, .inr h1, (newL_post hS h2 .refl h).2⟩
  · obtain ⟨x, rfl, r⟩ := hp.one
    split at h
    · obtain ⟨a, vs, rfl, ha, ra⟩ := seq_rep hS (by assumption) r
      exact ⟨_, _, rfl, .inl ha, (newL_post hS ra .refl h).2⟩
    · exact h.elim
  · exact h.elim
end

/-! ### sorted -/
def encD (S : Hs) (p : PV) : PyData := (toD 66 S p).getD .none
def alikeB (ds : List PyData) : Bool := ds.all fun d => ds.all fun e => PySem.W.alike d e
def tup1 : PyData → Bool
  | .tuple (_ :: _) => true
  | _ => false
def notTup : PyData → Bool
  | .tuple _ => false
  | .none => false
  | _ => true
def sortB (ds : List PyData) : Bool := ds.all tup1 || ds.all notTup
def sortP : List PV → Hs → Res PV
  | [p], S => match seqOf S p with
    | some xs => if (omap (toD 66 S) xs).isSome = true ∧ alikeB (xs.map (encD S)) = true ∧ sortB (xs.map (encD S)) = true ∧ (xs.all fun q => decide ((encD S q).depth ≤ 64)) = true
        then newL (xs.mergeSort (PySem.W.dataLe false (encD S))) S else .bad
    | none => .bad
  | _, _ => .bad
theorem omap_get {α β : Type} {f : α → Option β} : ∀ {xs : List α}, (omap f xs).isSome = true → ∀ x ∈ xs, ∃ y, f x = some y
  | [], _, x, hx => by cases hx
  | a :: xs, h, x, hx => by
    unfold omap at h
    split at h
    · rename_i y ys e1 e2
      rcases List.mem_cons.mp hx with rfl | hx
      · exact ⟨_, e1⟩
      · exact omap_get (by rw [e2]; rfl) x hx
    · cases h
theorem each_of {K : PySem.W.Frag} {loc : List Addr} {H : Hp} : ∀ {ps : List PV} {vs : List V} {us : List Value}, Reps K loc H ps vs → Vals vs us → PySem.W.EachIs (fun (u : Value) (p : PV) => ∃ x, RelV x u ∧ Rep K loc H p x) us ps
  | [], _, _, r, v => by cases r; cases v; exact .nil
  | p :: ps, _, _, r, v => by
    cases r with
    | cons r1 r2 =>
      cases v with
      | cons v1 v2 => exact .cons ⟨_, v1, r1⟩ (each_of r2 v2)
theorem of_each {K : PySem.W.Frag} {loc : List Addr} {H : Hp} : ∀ {ps : List PV} {us : List Value}, PySem.W.EachIs (fun (u : Value) (p : PV) => ∃ x, RelV x u ∧ Rep K loc H p x) us ps → ∃ vs, Reps K loc H ps vs ∧ Vals vs us
  | [], _, e => by cases e; exact ⟨[], .nil, .nil⟩
  | p :: ps, _, e => by
    cases e with
    | cons a b =>
      obtain ⟨x, h1, h2⟩ := a
      obtain ⟨vs, h3, h4⟩ := of_each b
      exact ⟨x :: vs, .cons h2 h3, .cons h1 h4⟩
section
variable {X : Cx}
theorem each_reads {pins : List (Addr × Obj)} {s : Shared} {σ : St} {H : Hp} {loc : List Addr} {S : Hs} (I : Inv X pins σ H s) (hS : StR X.K loc S H) : ∀ {ps : List PV} {vs : List V} {us : List Value}, (∀ p ∈ ps, ∃ d, toD 66 S p = some d) → Reps X.K loc H ps vs → Vals vs us →
    PySem.W.EachIs (fun (u : Value) (p : PV) => ∃ as, Reads s.heap u (encD S p) as) us ps
  | [], _, _, _, r, v => by cases r; cases v; exact .nil
  | p :: ps, _, _, h, r, v => by
    cases r with
    | cons r1 r2 =>
      cases v with
      | cons v1 v2 =>
        refine .cons ?_ (each_reads I hS (fun q hq => h q (List.mem_cons_of_mem _ hq)) r2 v2)
        obtain ⟨d, e⟩ := h p List.mem_cons_self
        have e' : encD S p = d := by unfold encD; rw [e]; rfl
        rw [e']
        exact Dp.reads I d _ _ (toD_dp hS 66 p d _ e r1) v1
theorem d_sorted {k : Nat} (hr : Room k X.A) : DCl X (.builtin "sorted") sortP := by
  intro W tk pins s σ H xs us Q loc S ps I rv hS hp h
  unfold sortP at h
  split at h
  · rename_i p S'
    obtain ⟨x, rfl, r⟩ := hp.one
    split at h
    · rename_i ys e
      split at h
      · rename_i c
        obtain ⟨c1, c2, c3, c4⟩ := c
        obtain ⟨a, vs, rfl, ha, ra⟩ := seq_rep hS e r
        obtain ⟨its, rits, hl, _⟩ := I.list ha
        rw [Vals.ref1 rv]
        have hlen : (ys.mergeSort (PySem.W.dataLe false (encD S))).length = ys.length := List.length_mergeSort ys
        have hz : ys.length ≤ sizeLine := by
          unfold newL at h
          split at h
          · rw [← hlen]; assumption
          · exact h.elim
        refine PySem.W.sorted_data (enc := encD S) (R := fun (u : Value) (p : PV) => ∃ x, RelV x u ∧ Rep X.K loc H p x) hl.isList (each_of ra rits) (each_reads I hS (omap_get c1) ra rits) ?_ ?_ hz ?_ fun out hout hE => ?_
        · intro d hd e he
          exact List.all_eq_true.mp (List.all_eq_true.mp c2 d hd) e he
        · unfold sortB at c3
          rcases Bool.or_eq_true_iff.mp c3 with c3 | c3
          · refine .inl fun d hd => ?_
            have q := List.all_eq_true.mp c3 d hd
            unfold tup1 at q
            split at q
            · exact ⟨_, _, rfl⟩
            · cases q
          · refine .inr fun d hd => ?_
            have q := List.all_eq_true.mp c3 d hd
            refine ⟨fun z => ?_, fun zs z => ?_⟩ <;> (subst z; cases q)
        · intro b hb
          have q := of_decide_eq_true (List.all_eq_true.mp c4 b hb)
          have := hr.un
          omega
        · obtain ⟨ws, rw1, vw⟩ := of_each hE
          obtain ⟨ep, he'⟩ := PyProof.Rows.sortedAll_at s.heap its (List.toArray out)
          obtain ⟨z, kq⟩ := newL_post hS rw1 .refl h
          refine ⟨.ref _, upd H (s.heap.objs.size + 1) (.lst ws), I.laid (t' := s.toks) (fun _ _ => PyProof.Rows.sortedAll_old) (Nat.le_succ _) ⟨z, out, ep, vw, ?_⟩, rfl, kq _ (I.hok.fresh (Nat.le_succ _))⟩
          rw [he']
      · exact h.elim
    · exact h.elim
  · exact h.elim
end

/-! ### repr -/
def reprP : List PV → Hs → Res PV
  | [.tup xs], S => match toD 66 S (.tup xs) with
    | some d => if d.showable = true ∧ d.hasDict = false ∧ d.shown.length ≤ sizeLine ∧ d.depth ≤ 66 then .ok (.str d.shown) S else .bad
    | none => .bad
  | [.cl xs], S => match toD 66 S (.cl xs) with
    | some d => if d.showable = true ∧ d.hasDict = false ∧ d.shown.length ≤ sizeLine ∧ d.depth ≤ 66 then .ok (.str d.shown) S else .bad
    | none => .bad
  | [.ref i], S => match toD 66 S (.ref i) with
    | some d => if d.showable = true ∧ d.hasDict = false ∧ d.shown.length ≤ sizeLine ∧ d.depth ≤ 66 then .ok (.str d.shown) S else .bad
    | none => .bad
  | _, _ => .bad
section
variable {X : Cx}
theorem repr_go {k : Nat} {W : WX} {pins : List (Addr × Obj)} {s : Shared} {σ : St} {H : Hp} {a : Addr} {Q : VK} {loc : List Addr} {S : Hs} {p : PV} (hr : Room k X.A) (hg : X.A.guards = some []) (I : Inv X pins σ H s) (hS : StR X.K loc S H) (hp : Rep X.K loc H p (.ref a))
    (h : Post X.K W σ Q loc H (match toD 66 S p with
    | some d => if d.showable = true ∧ d.hasDict = false ∧ d.shown.length ≤ sizeLine ∧ d.depth ≤ 66 then .ok (.str d.shown) S else .bad
    | none => .bad)) : wpAny (model X.prog X.w) X.A (call (.builtin "repr") [.ref a]) (EP X pins σ Q) X.xe s := by
  split at h
  · rename_i d e
    split at h
    · rename_i c
      obtain ⟨c1, c2, c3, c4⟩ := c
      obtain ⟨as, rd⟩ := Dp.reads I d _ _ (toD_dp hS 66 p d _ e hp) (show RelV (.ref a) (.ref a) from rfl)
      refine repr_of_reads' rd c1 (fun z => by rw [c2] at z; cases z) hg (by have := hr.un; omega) (fun _ _ q => q) (fun h' u tk kk => ?_) c3
      exact ⟨.str _, H, I.kept kk, ⟨_, rfl⟩, h _ _ _ .refl hS (.str _)⟩
    · exact h.elim
  · exact h.elim
theorem d_repr {k : Nat} (hr : Room k X.A) (hg : X.A.guards = some []) : DCl X (.builtin "repr") reprP := by
  intro W tk pins s σ H xs us Q loc S ps I rv hS hp h
  unfold reprP at h
  split at h
  · obtain ⟨x, rfl, r⟩ := hp.one
    cases r with
    | tup h1 h2 =>
      rw [Vals.ref1 rv]
      exact repr_go hr hg I hS (.tup h1 h2) h
  · obtain ⟨x, rfl, r⟩ := hp.one
    cases r with
    | cl h1 h2 =>
      rw [Vals.ref1 rv]
      exact repr_go hr hg I hS (.cl h1 h2) h
  · obtain ⟨x, rfl, r⟩ := hp.one
    cases r with
    | ref h1 =>
      rw [Vals.ref1 rv]
      exact repr_go hr hg I hS (.ref h1) h
  · exact h.elim
end
end D

/-! D4: rules for expressions and tests. -/
namespace D
open PySem PySem.Spec PyProof.Rows L2

def retE (f : Hs → Res PV) : EM := fun _ S => f S
def varM (i : Nat) : EM := fun env S => match env[i]? with
  | some (some p) => .ok p S
  | _ => .bad
def pureM (p : PV) : EM := fun _ S => .ok p S
section
variable {X : Cx}
theorem de_var {i : Nat} {x : Str} {pos : Pos} (hN : X.N[i]? = some x) (hv : Vis X.env.scope x) (hd : (x == ("__debug__" : Str)) = false) (hcd : (x == ("__classdict__" : Str)) = false) : DE X (.Name x pos) (varM i) := fun W tk =>
  (pe_var hN hv hd hcd).imp fun σ H Q h => by
    obtain ⟨loc, S, env, hS, hE, p⟩ := h
    unfold varM at p
    split at p
    · rename_i q e
      obtain ⟨v, e1, r⟩ := hE.2 i q e
      exact ⟨v, e1, p _ _ _ .refl hS r⟩
    · exact p.elim
theorem de_pure {e : Expr} {v : V} {p : PV} (h : PE X e (tC v)) (r : ∀ loc H, Rep X.K loc H p v) : DE X e (pureM p) := fun W tk =>
  h.imp fun σ H Q q => by
    obtain ⟨loc, S, env, hS, hE, k⟩ := q
    exact k _ _ _ .refl hS (r _ _)
theorem de_int {i : Int} {j : Nat} {pos : Pos} : DE X (.Constant (.int i) j pos) (pureM (.int i)) := de_pure pe_int fun _ _ => .int i
theorem de_bl {b : Bool} {j : Nat} {pos : Pos} : DE X (.Constant (.bool b) j pos) (pureM (.bl b)) := de_pure pe_bl fun _ _ => .bl b
theorem de_non {j : Nat} {pos : Pos} : DE X (.Constant .none j pos) (pureM .non) := de_pure pe_non fun _ _ => .non
theorem de_str {x : Str} {j : Nat} {pos : Pos} : DE X (.Constant (.str x) j pos) (pureM (.str x)) := de_pure pe_str fun _ _ => .str x

/-- two values known -/
theorem two_known {K : PySem.W.Frag} {loc : List Addr} {H : Hp} {p q : PV} {x y : V} {ps : List PV} {xs : List V} (r : Reps K loc H (q :: p :: ps) (y :: x :: xs)) : Rep K loc H p x ∧ Rep K loc H q y := by
  cases r with
  | cons a b =>
    cases b with
    | cons c d => exact ⟨c, a⟩

def op2 (f : PV → PV → Hs → Res PV) (ma mb : EM) : EM := bindE ma fun p => bindE mb fun q => retE (f p q)
def op1 (f : PV → Hs → Res PV) (ma : EM) : EM := bindE ma fun p => retE (f p)
variable {a b c : Expr} {ma mb mc : EM} {pos : Pos}
theorem de_bin {op : Operator} {f : PV → PV → Hs → Res PV} (ho : DOp X (binaryOp op) f) (ha : DE X a ma) (hb : DE X b mb) : DE X (.BinOp a op b pos) (op2 f ma mb) := fun W tk => by
  refine ⟨fun pins s σ H Q I h => ?_⟩
  refine wpAny_BinOp (thn ((ha W tk).run pins s σ H _ I (tGv.bind (tG.v h))) fun v s1 ⟨x, H1, I1, r1, p, h1⟩ => thn ((hb W tk).run pins s1 σ H1 _ I1 (tGv.bind h1)) fun u s2 ⟨y, H2, I2, r2, q, h2⟩ => ?_)
  obtain ⟨loc, S, env, hS, hE, rs, k⟩ := h2
  obtain ⟨rp, rq⟩ := two_known rs
  exact ho W tk pins s2 σ H2 x y v u Q loc S p q I2 r1 r2 hS rp rq k
theorem de_un {op : UnaryOp} {f : PV → Hs → Res PV} (ho : DUn X (unaryOp op) f) (ha : DE X a ma) : DE X (.UnaryOp op a pos) (op1 f ma) := fun W tk => by
  refine ⟨fun pins s σ H Q I h => ?_⟩
  refine UnaryOp_ (thn ((ha W tk).run pins s σ H _ I (tGv.bind (tG.v h))) fun v s1 ⟨x, H1, I1, r1, p, h1⟩ => ?_)
  obtain ⟨loc, S, env, hS, hE, rs, k⟩ := h1
  cases rs with
  | cons rp _ => exact ho W tk pins s1 σ H1 x v Q loc S p I1 r1 hS rp k
def negP : PV → Hs → Res PV
  | .int i, S => .ok (.int (-i)) S
  | _, _ => .bad
theorem d_neg : DUn X (unaryOp .USub) negP := by
  refine DUn.of un_neg fun W σ H x Q loc S p hS hp h => ?_
  unfold negP at h
  split at h
  · cases hp; exact ⟨_, rfl, h _ _ _ .refl hS (.int _)⟩
  · exact h.elim

/-! ### comparisons -/
theorem de_cmp {op : CmpOp} {f : PV → PV → Hs → Res PV} (ho : DOp X (compareOp op) f) (ha : DE X a ma) (hb : DE X b mb) (hm : behindInMarks op b = false) : DE X (.Compare a [op] [b] pos) (op2 f ma mb) := fun W tk => by
  refine ⟨fun pins s σ H Q I h => ?_⟩
  refine wpAny_Compare1 (thn ((ha W tk).run pins s σ H _ I (tGv.bind (tG.v h))) fun v s1 ⟨x, H1, I1, r1, p, h1⟩ => thn ((hb W tk).run pins s1 σ H1 _ I1 (tGv.bind h1)) fun u s2 ⟨y, H2, I2, r2, q, h2⟩ => ?_) hm
  obtain ⟨loc, S, env, hS, hE, rs, k⟩ := h2
  obtain ⟨rp, rq⟩ := two_known rs
  exact ho W tk pins s2 σ H2 x y v u Q loc S p q I2 r1 r2 hS rp rq k
/-- a value's truth -/
def truM (m : EM) : TM := bindE m fun p _ S => truP p S
theorem Post.tru {K : PySem.W.Frag} {W : WX} {σ : St} {Q : Bool → Hp → Prop} {loc : List Addr} {H : Hp} {r : Res PV} (h : PostR K W RB σ Q loc H (r.bind fun p S => truP p S)) :
    PostR K W (RV K) σ (fun x H1 => ∃ loc1 S1 p, StR K loc1 S1 H1 ∧ Rep K loc1 H1 p x ∧ PostR K W RB σ Q loc1 H1 (truP p S1)) loc H r := by
  cases r with
  | ok p S => exact fun l2 h2 x g2 s2 r2 => ⟨l2, S, p, s2, r2, PostR.up g2 h⟩
  | exc c fs S => exact h
  | bad => exact h
theorem dt_cmp {op : CmpOp} {f : PV → PV → Hs → Res PV} (ho : DOp X (compareOp op) f) (ha : DE X a ma) (hb : DE X b mb) (hm : behindInMarks op b = false) : DT X (.Compare a [op] [b] pos) (truM (op2 f ma mb)) := fun W tk => by
  refine ⟨fun pins s σ H Q I h => ?_⟩
  have h' : tG X.K W RB (bindE ma fun p => bindE mb fun q => fun _ S => (f p q S).bind fun z S' => truP z S') σ H Q := by
    obtain ⟨loc, S, env, hS, hE, k⟩ := h
    refine ⟨loc, S, env, hS, hE, ?_⟩
    unfold truM op2 bindE retE at k
    unfold bindE
    cases e : ma env S with
    | bad => rw [e] at k; exact k
    | exc _ _ _ => rw [e] at k; exact k
    | ok p S1 =>
      rw [e] at k
      show PostR _ _ _ _ _ _ _ ((mb env S1).bind _)
      cases e2 : mb env S1 with
      | bad => rw [show (Res.bind (Res.ok p S1) fun v S' => Res.bind (mb env S') fun q S2 => f v q S2) = Res.bind (mb env S1) fun q S2 => f p q S2 from rfl, e2] at k; exact k
      | exc _ _ _ => rw [show (Res.bind (Res.ok p S1) fun v S' => Res.bind (mb env S') fun q S2 => f v q S2) = Res.bind (mb env S1) fun q S2 => f p q S2 from rfl, e2] at k; exact k
      | ok q S2 => rw [show (Res.bind (Res.ok p S1) fun v S' => Res.bind (mb env S') fun q S2 => f v q S2) = Res.bind (mb env S1) fun q S2 => f p q S2 from rfl, e2] at k; exact k
  refine wpAny_isTrue_Compare1 (thn ((ha W tk).run pins s σ H _ I (tGv.bind (tG.v h'))) fun v s1 ⟨x, H1, I1, r1, p, h1⟩ => thn ((hb W tk).run pins s1 σ H1 _ I1 (tGv.bind h1)) fun u s2 ⟨y, H2, I2, r2, q, h2⟩ => ?_) hm
  obtain ⟨loc, S, env, hS, hE, rs, k⟩ := h2
  obtain ⟨rp, rq⟩ := two_known rs
  refine thn (ho W tk pins s2 σ H2 x y v u _ loc S p q I2 r1 r2 hS rp rq (Post.tru k)) fun z s3 ⟨zv, H3, I3, r3, loc3, S3, pz, hS3, rz, k3⟩ => ?_
  exact d_tru W tk pins s3 σ H3 zv z Q loc3 S3 pz I3 r3 hS3 rz k3
/-- an expression as a test -/
theorem dt_val {e : Expr} {m : EM} (h : DE X e m) (he : ∀ whole, isTrue e X.env whole = (do let v ← whole; standAt e.pos; holding [v] (truthy v))) : DT X e (truM m) := fun W tk => by
  refine ⟨fun pins s σ H Q I hq => ?_⟩
  refine isTrue_plain (thn ((h W tk).run pins s σ H _ I (tGv.bind (tG.v hq))) fun v s1 ⟨x, H1, I1, r1, p, h1⟩ => ?_) (he _)
  obtain ⟨loc, S, env, hS, hE, rs, k⟩ := h1
  cases rs with
  | cons rp _ => exact d_tru W tk pins s1 σ H1 x v Q loc S p I1 r1 hS rp k

/-! ### not, and, or, if -/
def notM (m : TM) : TM := bindE m fun b _ S => .ok (!b) S
theorem dt_not {m : TM} (h : DT X a m) : DT X (.UnaryOp .Not a pos) (notM m) := fun W tk =>
  (pt_not (h W tk)).imp fun σ H Q q => by
    refine tG.imp (fun b h k => ?_) (tGv.bindB (tG.v q))
    obtain ⟨loc, S, env, hS, hE, _, k⟩ := k
    exact k _ _ _ .refl hS rfl
def notE (m : EM) : EM := bindE (truM m) fun b _ S => .ok (.bl (!b)) S
theorem de_not {m : EM} (h : DE X a m) : DE X (.UnaryOp .Not a pos) (notE m) := fun W tk => by
  refine ⟨fun pins s σ H Q I hq => ?_⟩
  have h' : tG X.K W (RV X.K) (bindE m fun p _ S => (truP p S).bind fun b S' => .ok (.bl (!b)) S') σ H Q := by
    obtain ⟨loc, S, env, hS, hE, k⟩ := hq
    refine ⟨loc, S, env, hS, hE, ?_⟩
    unfold notE truM bindE at k
    unfold bindE
    cases e : m env S with
    | bad => rw [e] at k; exact k
    | exc _ _ _ => rw [e] at k; exact k
    | ok p S1 => rw [e] at k; exact k
  refine UnaryOp_ (thn ((h W tk).run pins s σ H _ I (tGv.bind (tG.v h'))) fun v s1 ⟨x, H1, I1, r1, p, h1⟩ => ?_)
  obtain ⟨loc, S, env, hS, hE, rs, k⟩ := h1
  cases rs with
  | cons rp _ =>
    dsimp only at k
    refine not_of (thn (d_tru W tk pins s1 σ H1 x v (fun c H2 => Q (.bl (!c)) H2) loc S p I1 r1 hS rp ?_) fun c s2 ⟨H2, I2, q2⟩ => ⟨.bl (!c), H2, I2, rfl, q2⟩)
    cases e : truP p S with
    | bad => rw [e] at k; exact k
    | exc _ _ _ => rw [e] at k; exact k
    | ok d S1 =>
      rw [e] at k
      intro l2 h2 z g2 s2 r2
      subst r2
      exact k l2 h2 _ g2 s2 (.bl _)
def DW (X : Cx) (e : Expr) (m : TM) : Prop := ∀ W, Takes X W → PW X e (tB X.K W m)
theorem DW.dt {e : Expr} {m : TM} (h : DW X e m) : DT X e m := fun W tk => (h W tk).pt
def andM (m n : TM) : TM := bindE m fun b env S => if b = true then n env S else .ok false S
def orM (m n : TM) : TM := bindE m fun b env S => if b = true then .ok true S else n env S
theorem _root_.L2.PW.imp {X : Cx} {e : Expr} {t t' : TT} (h : PW X e t) (f : ∀ σ H Q, t' σ H Q → t σ H Q) : PW X e t' := ⟨fun wh pins s σ H Q I q => h.run wh pins s σ H Q I (f σ H Q q)⟩
variable {rest : List Expr} {m n : TM}
theorem dw_and1 (h : DT X a m) : DW X (.BoolOp .And [a] pos) m := fun W tk => pw_and1 (h W tk)
theorem dw_or1 (h : DT X a m) : DW X (.BoolOp .Or [a] pos) m := fun W tk => pw_or1 (h W tk)
theorem dw_and (h : DT X a m) (hb : DW X (.BoolOp .And (b :: rest) pos) n) : DW X (.BoolOp .And (a :: b :: rest) pos) (andM m n) := fun W tk =>
  (pw_and (h W tk) (hb W tk)).imp fun σ H Q q => by
    refine tG.imp (fun b h k => ?_) (tGv.bindB (tG.v q))
    obtain ⟨loc, S, env, hS, hE, _, k⟩ := k
    cases b with
    | true => exact ⟨loc, S, env, hS, hE, k⟩
    | false => exact k _ _ _ .refl hS rfl
theorem dw_or (h : DT X a m) (hb : DW X (.BoolOp .Or (b :: rest) pos) n) : DW X (.BoolOp .Or (a :: b :: rest) pos) (orM m n) := fun W tk =>
  (pw_or (h W tk) (hb W tk)).imp fun σ H Q q => by
    refine tG.imp (fun b h k => ?_) (tGv.bindB (tG.v q))
    obtain ⟨loc, S, env, hS, hE, _, k⟩ := k
    cases b with
    | false => exact ⟨loc, S, env, hS, hE, k⟩
    | true => exact k _ _ _ .refl hS rfl
def andE (m n : EM) : EM := bindE m fun p env S => (truP p S).bind fun b S' => if b = true then n env S' else .ok p S'
def orE (m n : EM) : EM := bindE m fun p env S => (truP p S).bind fun b S' => if b = true then .ok p S' else n env S'
theorem truP_same {p : PV} {S S' : Hs} {b : Bool} (h : truP p S = .ok b S') : S' = S := by
  unfold truP at h
  split at h <;> (try split at h) <;> first | (cases h; rfl) | cases h
theorem truP_noexc {p : PV} {S S' : Hs} {c : Value} {fs : List (Str × PV)} : truP p S ≠ .exc c fs S' := fun h => by
  unfold truP at h
  split at h <;> (try split at h) <;> cases h
theorem de_one {op : BoolOp} {m : EM} (h : DE X a m) : DE X (.BoolOp op [a] pos) m := fun W tk => pe_one (h W tk)
theorem de_and {m n : EM} (h : DE X a m) (hb : DE X (.BoolOp .And (b :: rest) pos) n) : DE X (.BoolOp .And (a :: b :: rest) pos) (andE m n) := fun W tk => by
  refine ⟨fun pins s σ H Q I hq => ?_⟩
  refine BoolOp_and (thn ((h W tk).run pins s σ H _ I (tGv.bind (tG.v hq))) fun v s1 ⟨x, H1, I1, r1, p, h1⟩ => ?_)
  obtain ⟨loc, S, env, hS, hE, rs, k⟩ := h1
  cases rs with
  | cons rp _ =>
    dsimp only at k
    cases e : truP p S with
    | bad => rw [e] at k; exact k.elim
    | exc c fs S' => exact absurd e truP_noexc
    | ok d S1 =>
      have es := truP_same e
      subst es
      rw [e] at k
      refine thn (d_tru W tk pins s1 σ H1 x v (fun c H2 => c = d ∧ ∃ loc', StR X.K loc' S1 H2 ∧ Grow X.K loc H1 loc' H2) loc S1 p I1 r1 hS rp ?_) fun c s2 ⟨H2, I2, ec, loc', hS2, g2⟩ => ?_
      · rw [e]
        intro l2 h2 z g2 s2 r2
        exact ⟨r2.symm, l2, s2, g2⟩
      · subst ec
        cases c with
        | true => exact (hb W tk).run pins s2 σ H2 Q I2 ⟨loc', S1, env, hS2, hE.up g2, PostR.up g2 k⟩
        | false => exact ⟨x, H2, I2, r1, k loc' H2 x g2 hS2 (Rep.up g2 _ _ rp)⟩
theorem de_or {m n : EM} (h : DE X a m) (hb : DE X (.BoolOp .Or (b :: rest) pos) n) : DE X (.BoolOp .Or (a :: b :: rest) pos) (orE m n) := fun W tk => by
  refine ⟨fun pins s σ H Q I hq => ?_⟩
  refine BoolOp_or (thn ((h W tk).run pins s σ H _ I (tGv.bind (tG.v hq))) fun v s1 ⟨x, H1, I1, r1, p, h1⟩ => ?_)
  obtain ⟨loc, S, env, hS, hE, rs, k⟩ := h1
  cases rs with
  | cons rp _ =>
    dsimp only at k
    cases e : truP p S with
    | bad => rw [e] at k; exact k.elim
    | exc c fs S' => exact absurd e truP_noexc
    | ok d S1 =>
      have es := truP_same e
      subst es
      rw [e] at k
      refine thn (d_tru W tk pins s1 σ H1 x v (fun c H2 => c = d ∧ ∃ loc', StR X.K loc' S1 H2 ∧ Grow X.K loc H1 loc' H2) loc S1 p I1 r1 hS rp ?_) fun c s2 ⟨H2, I2, ec, loc', hS2, g2⟩ => ?_
      · rw [e]
        intro l2 h2 z g2 s2 r2
        exact ⟨r2.symm, l2, s2, g2⟩
      · subst ec
        cases c with
        | false => exact (hb W tk).run pins s2 σ H2 Q I2 ⟨loc', S1, env, hS2, hE.up g2, PostR.up g2 k⟩
        | true => exact ⟨x, H2, I2, r1, k loc' H2 x g2 hS2 (Rep.up g2 _ _ rp)⟩
def ifE (t : TM) (m n : EM) : EM := bindE t fun b env S => if b = true then m env S else n env S
theorem de_if {t : TM} {m n : EM} (hc : DT X c t) (ha : DE X a m) (hb : DE X b n) : DE X (.IfExp c a b pos) (ifE t m n) := fun W tk =>
  (pe_ifExp (hc W tk) (ha W tk) (hb W tk)).imp fun σ H Q q => by
    refine tG.imp (fun b h k => ?_) (tGv.bindB (tG.v q))
    obtain ⟨loc, S, env, hS, hE, _, k⟩ := k
    cases b with
    | true => exact ⟨loc, S, env, hS, hE, k⟩
    | false => exact ⟨loc, S, env, hS, hE, k⟩

/-! ### arguments, displays -/
def NoStar (e : Expr) : Prop := ∀ es env, starEach (e :: es) env = (false, eval e env) :: starEach es env
def nilA : AM := fun _ S => .ok [] S
def consA (m : EM) (n : AM) : AM := bindE m fun p => bindE n fun ps _ S => .ok (p :: ps) S
theorem da_nil : DA X [] nilA := fun W tk => pa_nil.imp fun σ H Q q => by
  obtain ⟨loc, S, env, hS, hE, k⟩ := q
  exact k _ _ _ .refl hS .nil
theorem da_cons {e : Expr} {es : List Expr} {m : EM} {n : AM} (he : NoStar e) (h : DE X e m) (hs : DA X es n) : DA X (e :: es) (consA m n) := fun W tk =>
  (pa_cons (h W tk) (hs W tk) (he _ _)).imp fun σ H Q q => by
    refine tG.imp (fun x H1 k => ?_) (tGv.bind (tG.v q))
    obtain ⟨p, k⟩ := k
    refine tG.imp (fun xs H2 k2 => ?_) (tGv.bindA k)
    obtain ⟨ps, loc, S, env, hS, hE, rs, k3⟩ := k2
    refine k3 _ _ _ .refl hS ?_
    have h1 : ∀ {ps : List PV} {xs : List V} {qs : List PV} {ys : List V}, ps.length = xs.length → Reps X.K loc H2 (ps ++ qs) (xs ++ ys) → Reps X.K loc H2 ps xs ∧ Reps X.K loc H2 qs ys := by
      intro ps
      induction ps with
      | nil =>
        intro xs qs ys e r
        cases xs with
        | nil => exact ⟨.nil, r⟩
        | cons _ _ => cases e
      | cons p ps ih =>
        intro xs qs ys e r
        cases xs with
        | nil => cases e
        | cons x xs =>
          cases r with
          | cons r1 r2 =>
            obtain ⟨h1, h2⟩ := ih (Nat.succ.inj e) r2
            exact ⟨.cons r1 h1, h2⟩
    have hl : (ps ++ [p]).length = (xs ++ [x]).length := rs.length
    obtain ⟨g1, g2⟩ := h1 (by simpa using hl) rs
    cases g2 with
    | cons g2 _ => exact .cons g2 g1
def tupE (n : AM) : EM := bindE n fun ps _ S => if ps.length ≤ sizeLine then .ok (.tup ps) S else .bad
def lstE (n : AM) : EM := bindE n fun ps _ S => newL ps S
theorem de_tup {es : List Expr} {n : AM} {k : Nat} (h : DA X es n) : DE X (.Tuple es k pos) (tupE n) := fun W tk =>
  (pe_tup (h W tk)).imp fun σ H Q q => by
    refine tG.imp (fun xs H1 k => ?_) (tGv.bindA (tG.v q))
    obtain ⟨ps, loc, S, env, hS, hE, rs, k3⟩ := k
    rw [List.append_nil, List.append_nil] at rs
    split at k3
    · exact ⟨by rw [← rs.length]; assumption, newT_post hS rs .refl k3⟩
    · exact k3.elim
theorem de_lst {es : List Expr} {n : AM} (h : DA X es n) : DE X (.List es pos) (lstE n) := fun W tk =>
  (pe_lst (h W tk)).imp fun σ H Q q => by
    refine tG.imp (fun xs H1 k => ?_) (tGv.bindA (tG.v q))
    obtain ⟨ps, loc, S, env, hS, hE, rs, k3⟩ := k
    rw [List.append_nil, List.append_nil] at rs
    exact newL_post hS rs .refl k3

/-! ### calls of built-ins -/
def NoStars (es : List Expr) : Prop := ∀ e ∈ es, NoStar e
theorem any_plain {env : Env} {pos : Pos} : ∀ {es : List Expr}, NoStars es → (backTo pos (starEach es env)).any (·.1) = false
  | [], _ => rfl
  | e :: es, h => by
    rw [h e List.mem_cons_self]
    show ((false : Bool) || (backTo pos (starEach es env)).any (·.1)) = false
    rw [any_plain fun x hx => h x (List.mem_cons_of_mem _ hx)]
    rfl
def callM (f : List PV → Hs → Res PV) (n : AM) : EM := bindE n fun ps _ S => f ps S
theorem de_callB {id : String} {x : Str} {p : Pos} {e : Expr} {es : List Expr} {n : AM} {f : List PV → Hs → Res PV} (hf : DCl X (.builtin id) f) (hg : Gl X x) (hm : X.mg x = none) (hv : bootBuiltins x = some (.builtin id)) (hs : NoStars (e :: es)) (ha : DA X (e :: es) n)
    (hn : x ≠ "__name__") (hdb : (x == ("__debug__" : Str)) = false) : DE X (.Call (.Name x p) (e :: es) [] pos) (callM f n) := fun W tk => by
  refine ⟨fun pins s σ H Q I h => ?_⟩
  refine wpAny_Call_Name_kw (ld_blt I hg hm hv ?_ hn hdb)
  refine PyProof.Rows.callWith_builtin1 (thn ((ha W tk).run pos pins s σ H _ I (tGv.bindA (tG.v h))) fun us s1 ⟨vs, H1, I1, r1, ps, h1⟩ => ?_) (hs e List.mem_cons_self _ _) (any_plain fun x hx => hs x (List.mem_cons_of_mem _ hx))
  obtain ⟨loc, S, env, hS, hE, rs, k⟩ := h1
  rw [List.append_nil, List.append_nil] at rs
  exact hf W tk pins s1 σ H1 vs us Q loc S ps I1 r1 hS rs k
theorem de_callTy {T : String} {x : Str} {p : Pos} {e : Expr} {es : List Expr} {n : AM} {f : List PV → Hs → Res PV} (hf : DCl X (.type T) f) (hg : Gl X x) (hm : X.mg x = none) (hv : bootBuiltins x = some (.type T)) (hs : NoStars (e :: es)) (ha : DA X (e :: es) n)
    (hn : x ≠ "__name__") (hdb : (x == ("__debug__" : Str)) = false) : DE X (.Call (.Name x p) (e :: es) [] pos) (callM f n) := fun W tk => by
  refine ⟨fun pins s σ H Q I h => ?_⟩
  refine wpAny_Call_Name_kw (ld_blt I hg hm hv ?_ hn hdb)
  refine PyProof.Rows.callWith_type1 (thn ((ha W tk).run pos pins s σ H _ I (tGv.bindA (tG.v h))) fun us s1 ⟨vs, H1, I1, r1, ps, h1⟩ => ?_) (hs e List.mem_cons_self _ _) (any_plain fun x hx => hs x (List.mem_cons_of_mem _ hx))
  obtain ⟨loc, S, env, hS, hE, rs, k⟩ := h1
  rw [List.append_nil, List.append_nil] at rs
  exact hf W tk pins s1 σ H1 vs us Q loc S ps I1 r1 hS rs k

/-! ### subscripts -/
def DIx (X : Cx) (f : PV → PV → Hs → Res PV) : Prop :=
  ∀ W, Takes X W → ∀ (σ : St) (H : Hp) (x y : V) (Q : VK) (loc : List Addr) (S : Hs) (p q : PV), StR X.K loc S H → Rep X.K loc H p x → Rep X.K loc H q y → Post X.K W σ Q loc H (f p q S) → rIx X.K x y H Q
def atP {α : Type} (xs : List α) (i : Int) : Option α := atI xs i
def ixP : PV → PV → Hs → Res PV
  | .tup xs, .int i, S => match atI xs i with
    | some p => .ok p S
    | none => .bad
  | .str z, .int i, S => match atI z.cps.toList i with
    | some c => if z.length ≤ sizeLine then .ok (.str ⟨#[c]⟩) S else .bad
    | none => .bad
  | p, .int i, S => match seqOf S p with
    | some xs => match atI xs i with
      | some q => .ok q S
      | none => .bad
    | none => .bad
  | _, _, _ => .bad
theorem Reps.at {K : PySem.W.Frag} {loc : List Addr} {H : Hp} {ps : List PV} {vs : List V} (r : Reps K loc H ps vs) {i : Int} {p : PV} (e : atI ps i = some p) : ∃ v, atI vs i = some v ∧ Rep K loc H p v := by
  unfold atI at e ⊢
  rw [← r.length]
  cases q : ixN ps.length i with
  | none => rw [q] at e; cases e
  | some j =>
    rw [q] at e
    obtain ⟨v, e1, e2⟩ := r.get (show ps[j]? = some p from e)
    exact ⟨v, e1, e2⟩
theorem d_ix : DIx X ixP := by
  intro W tk σ H x y Q loc S p q hS hp hq h
  unfold ixP at h
  split at h
  · split at h
    · rename_i e
      cases hq
      cases hp with
      | tup h1 h2 =>
        obtain ⟨v, e1, e2⟩ := h2.at e
        exact .inr (.inl ⟨_, _, _, _, rfl, rfl, h1, e1, h _ _ _ .refl hS e2⟩)
    · exact h.elim
  · split at h
    · split at h
      · cases hp; cases hq
        exact .inr (.inr ⟨_, _, _, rfl, rfl, by assumption, by assumption, h _ _ _ .refl hS (.str _)⟩)
      · exact h.elim
    · exact h.elim
  · split at h
    · split at h
      · cases hq
        obtain ⟨a, vs, rfl, ha, ra⟩ := seq_rep hS (by assumption) hp
        obtain ⟨v, e1, e2⟩ := ra.at (by assumption)
        exact .inl ⟨_, _, _, _, rfl, rfl, ha, e1, h _ _ _ .refl hS e2⟩
      · exact h.elim
    · exact h.elim
  · exact h.elim
theorem de_ix (ha : DE X a ma) (hb : DE X b mb) (hs : PlainIx b) : DE X (.Subscript a b pos) (op2 ixP ma mb) := fun W tk =>
  (pe_ix ix_seq (ha W tk) (hb W tk) hs).imp fun σ H Q q => by
    refine tG.imp (fun x H1 k => ?_) (tGv.bind (tG.v q))
    obtain ⟨p, k⟩ := k
    refine tG.imp (fun y H2 k2 => ?_) (tGv.bind k)
    obtain ⟨q, loc, S, env, hS, hE, rs, k3⟩ := k2
    obtain ⟨rp, rq⟩ := two_known rs
    exact d_ix W tk σ H2 x y Q loc S p q hS rp rq k3
end
end D

/-! D5: dicts, subscripts, stores by subscript. -/
namespace D
open PySem PySem.Spec PyProof.Rows L2

section
variable {κ : Type} [DecidableEq κ]
def dval (kvs : List (κ × PV)) (k : κ) : Option PV := (kvs.find? fun kv => decide (kv.1 = k)).map (·.2)
def dput (kvs : List (κ × PV)) (k : κ) (p : PV) : List (κ × PV) :=
  if (kvs.any fun kv => decide (kv.1 = k)) = true then kvs.map (fun kv => if kv.1 = k then (kv.1, p) else kv) else kvs ++ [(k, p)]
def ddrop (kvs : List (κ × PV)) (k : κ) : List (κ × PV) := kvs.filter fun kv => decide (kv.1 ≠ k)
variable {K : PySem.W.Frag} {loc : List Addr} {H : Hp}
theorem TRep.val {kvs : List (κ × PV)} {qs : List (κ × V)} (r : TRep K loc H kvs qs) (k : κ) : match dval kvs k with
    | some p => ∃ v, valV qs k = some v ∧ Rep K loc H p v
    | none => valV qs k = none := by
  unfold TRep at r
  induction r with
  | nil => rfl
  | @cons p q ps qs h t ih =>
    by_cases e : p.1 = k
    · have e1 : dval (p :: ps) k = some p.2 := by simp [dval, List.find?_cons, e]
      rw [e1]
      exact ⟨q.2, valV_pos (by rw [← h.1]; exact e), h.2⟩
    · have e1 : dval (p :: ps) k = dval ps k := by simp [dval, List.find?_cons, e]
      rw [e1, valV_neg (by rw [← h.1]; exact e)]
      exact ih
theorem TRep.any {kvs : List (κ × PV)} {qs : List (κ × V)} (r : TRep K loc H kvs qs) (k : κ) : (kvs.any fun kv => decide (kv.1 = k)) = qs.any fun kv => decide (kv.1 = k) := by
  unfold TRep at r
  induction r with
  | nil => rfl
  | cons h t ih => simp only [List.any_cons, h.1, ih]
theorem TRep.repl {kvs : List (κ × PV)} {qs : List (κ × V)} (r : TRep K loc H kvs qs) (k : κ) {p : PV} {v : V} (rv : Rep K loc H p v) :
    TRep K loc H (kvs.map fun kv => if kv.1 = k then (kv.1, p) else kv) (qs.map fun kv => if kv.1 = k then (kv.1, v) else kv) := by
  unfold TRep at r ⊢
  induction r with
  | nil => exact .nil
  | @cons p' q ps qs h t ih =>
    refine .cons ?_ ih
    dsimp only
    by_cases e : p'.1 = k
    · rw [if_pos e, if_pos (show q.1 = k by rw [← h.1]; exact e)]; exact ⟨h.1, rv⟩
    · rw [if_neg e, if_neg (show ¬ q.1 = k by rw [← h.1]; exact e)]; exact h
theorem TRep.snoc {kvs : List (κ × PV)} {qs : List (κ × V)} (r : TRep K loc H kvs qs) (k : κ) {p : PV} {v : V} (rv : Rep K loc H p v) : TRep K loc H (kvs ++ [(k, p)]) (qs ++ [(k, v)]) := by
  unfold TRep at r ⊢
  induction r with
  | nil => exact .cons ⟨rfl, rv⟩ .nil
  | cons h t ih => exact .cons h ih
theorem TRep.put {kvs : List (κ × PV)} {qs : List (κ × V)} (r : TRep K loc H kvs qs) (k : κ) {p : PV} {v : V} (rv : Rep K loc H p v) : TRep K loc H (dput kvs k p) (putK qs k v) := by
  unfold dput putK
  rw [r.any k]
  split
  · exact r.repl k rv
  · exact r.snoc k rv
theorem TRep.drop {kvs : List (κ × PV)} {qs : List (κ × V)} (r : TRep K loc H kvs qs) (k : κ) : TRep K loc H (ddrop kvs k) (dropK qs k) := by
  unfold TRep at r ⊢
  unfold ddrop dropK
  induction r with
  | nil => exact .nil
  | @cons p q ps qs h t ih =>
    by_cases e : p.1 = k
    · rw [List.filter_cons_of_neg (by simp [e]), List.filter_cons_of_neg (by simp [← h.1, e])]; exact ih
    · rw [List.filter_cons_of_pos (by simp [e]), List.filter_cons_of_pos (by simp [← h.1, e])]; exact .cons h ih
end
theorem dput_length {κ : Type} [DecidableEq κ] (kvs : List (κ × PV)) (k : κ) (p : PV) : (dput kvs k p).length ≤ kvs.length + 1 := by
  unfold dput
  split
  · simp
  · simp

def keyP : PV → Option Key
  | .int i => some (.inl i)
  | .str x => some (.inr x)
  | _ => none
theorem keyP_rep {K : PySem.W.Frag} {loc : List Addr} {H : Hp} {p : PV} {x : V} {k : Key} (e : keyP p = some k) (r : Rep K loc H p x) : x = kV k := by
  cases r <;> first | (cases e; rfl) | cases e
def dctAt (S : Hs) (i : Nat) : Option (List (Key × PV)) := match S[i]? with
  | some (.dct kvs) => some kvs
  | _ => none
theorem dctAt_eq {S : Hs} {i : Nat} {kvs : List (Key × PV)} (h : dctAt S i = some kvs) : S[i]? = some (.dct kvs) := by
  unfold dctAt at h
  split at h
  · cases h; assumption
  · cases h
@[simp] theorem dctAt_of {S : Hs} {i : Nat} {kvs : List (Key × PV)} (h : S[i]? = some (.dct kvs)) : dctAt S i = some kvs := by unfold dctAt; rw [h]
theorem dct_rep {K : PySem.W.Frag} {loc : List Addr} {S : Hs} {H : Hp} {i : Nat} {kvs : List (Key × PV)} {x : V} (hS : StR K loc S H) (e : dctAt S i = some kvs) (r : Rep K loc H (.ref i) x) :
    ∃ a qs, x = .ref a ∧ loc[i]? = some a ∧ H a = some (.dK qs) ∧ TRep K loc H kvs qs := by
  cases r with
  | ref q =>
    obtain ⟨vs, e1, r1⟩ := hS.obj _ _ _ (dctAt_eq e) q
    exact ⟨_, vs, rfl, q, e1, r1⟩

/-! ### a[b] -/
def getP : PV → PV → Hs → Res PV
  | .ref i, q, S => match dctAt S i with
    | some kvs => match keyP q with
      | some k => match dval kvs k with
        | some p => .ok p S
        | none => .bad
      | none => .bad
    | none => ixP (.ref i) q S
  | p, q, S => ixP p q S
section
variable {X : Cx} {a b : Expr} {ma mb : EM} {pos : Pos}
theorem de_get {k : Nat} (hr : Room k X.A) (ha : DE X a ma) (hb : DE X b mb) (hs : PlainIx b) : DE X (.Subscript a b pos) (op2 getP ma mb) := fun W tk => by
  refine ⟨fun pins s σ H Q I h => ?_⟩
  refine Subscript_ (thn ((ha W tk).run pins s σ H _ I (tGv.bind (tG.v h))) fun v s1 ⟨x, H1, I1, r1, p, h1⟩ => thn ((hb W tk).run pins s1 σ H1 _ I1 (tGv.bind h1)) fun u s2 ⟨y, H2, I2, r2, q, h2⟩ => ?_)
  obtain ⟨loc, S, env, hS, hE, rs, k3⟩ := h2
  obtain ⟨rp, rq⟩ := two_known rs
  have k2 : Post X.K W σ Q loc H2 (getP p q S) := k3
  have seq : Post X.K W σ Q loc H2 (ixP p q S) → wpAny (model X.prog X.w) X.A (subscriptTail a b v u) (EP X pins σ Q) X.xe s2 := fun h =>
    ix_seq a b pins s2 σ H2 x y v u Q I2 r1 r2 (d_ix W tk σ H2 x y Q loc S p q hS rp rq h) (hs _ _)
  unfold getP at k2
  split at k2
  · split at k2
    · split at k2
      · split at k2
        · rename_i e1 _ kk e2 _ pv e3
          obtain ⟨aa, qs, rfl, _, hd, rt⟩ := dct_rep hS e1 rp
          have ek := keyP_rep e2 rq
          subst ek
          have q1 := rt.val kk
          rw [e3] at q1
          obtain ⟨z, ez, rz⟩ := q1
          cases r1
          have g : DGet H2 aa (kV kk) (some z) := by rw [← ez]; exact DGet.k hd
          exact tail_any (dict_typeIs I2 g) PySem.F.slot_dict_getitem.lookup (d_getItem (hu_of hr) I2 g r2 fun w' s3 I3 rw' => ⟨z, H2, I3, rw', k2 _ _ _ .refl hS rz⟩) (hs _ _)
        · exact k2.elim
      · exact k2.elim
    · exact seq k2
  · exact seq k2
end

/-! ### a[b] = c -/
def setP : PV → PV → PV → Hs → Res Unit
  | .ref i, q, v, S => match S[i]? with
    | some (.lst xs) => match q with
      | .int k => match ixN xs.length k with
        | some j => .ok () (S.set i (.lst (xs.set j v)))
        | none => .bad
      | _ => .bad
    | some (.dct kvs) => match keyP q with
      | some k => if kvs.length < sizeLine then .ok () (S.set i (.dct (dput kvs k v))) else .bad
      | none => .bad
    | _ => .bad
  | _, _, _, _ => .bad
def PostU (K : PySem.W.Frag) (Q : Hp → Prop) (loc : List Addr) (H : Hp) : Res Unit → Prop
  | .ok _ S => ∀ loc' H', Grow K loc H loc' H' → StR K loc' S H' → Q H'
  | _ => False
section
variable {X : Cx}
theorem d_set {k : Nat} (hr : Room k X.A) {pins : List (Addr × Obj)} {s : Shared} {σ : St} {H : Hp} {o i v : V} {ov iv u : Value} {Q : Hp → Prop} {loc : List Addr} {S : Hs} {po pi pv : PV} (I : Inv X pins σ H s) (ro : RelV o ov) (ri : RelV i iv) (rv : RelV v u)
    (hS : StR X.K loc S H) (ho : Rep X.K loc H po o) (hi : Rep X.K loc H pi i) (hv : Rep X.K loc H pv v) (h : PostU X.K Q loc H (setP po pi pv S)) : wpAny (model X.prog X.w) X.A (setItem ov iv u) (fun _ s' => ∃ H', Inv X pins σ H' s' ∧ Q H') X.xe s := by
  unfold setP at h
  split at h
  · rename_i ii q vv SS
    cases ho with
    | @ref _ aa eq =>
      split at h
      · rename_i xs e1
        split at h
        · split at h
          · rename_i j e2
            obtain ⟨vs, e3, rs⟩ := hS.obj _ _ _ e1 eq
            cases hi
            have g := hS.grow_put (u := .lst (vs.set j v)) eq
            refine set_list pins s σ H _ _ v ov iv u Q I ro ri rv ⟨aa, vs, _, j, rfl, rfl, e3, by rw [← rs.length]; exact e2, ?_⟩
            exact h loc _ g (hS.put eq ⟨_, upd_same, (rs.set j hv).up g⟩)
          · exact h.elim
        · exact h.elim
      · rename_i kvs e1
        split at h
        · rename_i kk e2
          split at h
          · rename_i hz
            obtain ⟨qs, e3, rs⟩ := hS.obj _ _ _ e1 eq
            have ek := keyP_rep e2 hi
            subst ek
            cases ro
            have g := hS.grow_put (u := .dK (putK qs kk v)) eq
            refine d_setItem (hu_of hr) I (DPut.k e3 (by rw [← Paired.length rs]; exact hz)) ri rv fun s4 I4 => ⟨_, I4, ?_⟩
            exact h loc _ g (hS.put eq ⟨_, upd_same, (rs.put kk hv).up g⟩)
          · exact h.elim
        · exact h.elim
      · exact h.elim
  · exact h.elim
end

/-! ### {k: v, ..} -/
/-- pairs of values -/
abbrev PM := Sl → Hs → Res (List (PV × PV))
def nilP : PM := fun _ S => .ok [] S
def consP (mk mv : EM) (r : PM) : PM := bindE mk fun p => bindE mv fun q => bindE r fun ps _ S => .ok ((p, q) :: ps) S
def RP (K : PySem.W.Frag) (l : List Addr) (h : Hp) (ps : List (PV × PV)) (xs : List (V × V)) : Prop := Paired (fun (p : PV × PV) (x : V × V) => Rep K l h p.1 x.1 ∧ Rep K l h p.2 x.2) ps xs
def DP (X : Cx) (pos : Pos) (keys : List (Option Expr)) (values : List Expr) (m : PM) : Prop := ∀ W, Takes X W → ∃ trs, PPs X pos keys values trs ∧ ∀ σ H Q, tG X.K W (RP X.K) m σ H Q → tPairs trs σ H Q
def keysP : List (PV × PV) → Option (List (Key × PV))
  | [] => some []
  | (k, v) :: r => match keyP k, keysP r with
    | some kk, some rr => some ((kk, v) :: rr)
    | _, _ => none
def dmerge (kvs more : List (Key × PV)) : List (Key × PV) := more.foldl (fun acc kv => dput acc kv.1 kv.2) kvs
def dispE (m : PM) : EM := bindE m fun ps _ S => match keysP ps with
  | some kvs => if kvs.length ≤ 15 then .ok (.ref S.length) (S ++ [.dct (dmerge [] kvs)]) else .bad
  | none => .bad
theorem keysP_rep {K : PySem.W.Frag} {loc : List Addr} {H : Hp} : ∀ {ps : List (PV × PV)} {xs : List (V × V)} {kvs : List (Key × PV)}, keysP ps = some kvs → RP K loc H ps xs → ∃ qs, xs = qs.map (fun kv => (kV kv.1, kv.2)) ∧ TRep K loc H kvs qs
  | [], _, _, e, r => by
    cases e; cases r
    exact ⟨[], rfl, .nil⟩
  | (k, v) :: ps, _, _, e, r => by
    unfold keysP at e
    cases r with
    | @cons _ x _ xs h t =>
      split at e
      · rename_i kk rr e1 e2
        cases e
        obtain ⟨qs, e3, r3⟩ := keysP_rep e2 t
        have ek := keyP_rep e1 h.1
        refine ⟨(kk, x.2) :: qs, ?_, .cons ⟨rfl, h.2⟩ r3⟩
        rw [List.map_cons, ← e3, ← ek]
      · cases e
theorem TRep.merge {K : PySem.W.Frag} {loc : List Addr} {H : Hp} {more : List (Key × PV)} {ms : List (Key × V)} (r : TRep K loc H more ms) : ∀ {kvs : List (Key × PV)} {qs : List (Key × V)}, TRep K loc H kvs qs → TRep K loc H (dmerge kvs more) (mergeK qs ms) := by
  unfold TRep at r
  induction r with
  | nil => exact fun q => q
  | @cons p q ps qs h t ih =>
    intro kvs qs' r2
    have e : mergeK qs' (q :: qs) = mergeK (putK qs' q.1 q.2) qs := rfl
    have e2 : dmerge kvs (p :: ps) = dmerge (dput kvs p.1 p.2) ps := rfl
    rw [e, e2, ← h.1]
    exact ih (r2.put p.1 h.2)
section
variable {X : Cx} {pos : Pos}
theorem dp_nil : DP X pos [] [] nilP := fun W tk => ⟨[], pps_nil, fun σ H Q q => by
  obtain ⟨loc, S, env, hS, hE, k⟩ := q
  exact k _ _ _ .refl hS .nil⟩
theorem dp_cons {k v : Expr} {ks : List (Option Expr)} {vs : List Expr} {mk mv : EM} {r : PM} (hk : DE X k mk) (hv : DE X v mv) (hr : DP X pos ks vs r) : DP X pos (some k :: ks) (v :: vs) (consP mk mv r) := fun W tk => by
  obtain ⟨trs, h1, h2⟩ := hr W tk
  refine ⟨_, pps_cons (hk W tk) (hv W tk) h1, fun σ H Q q => ?_⟩
  refine tG.imp (fun x H1 k => ?_) (tGv.bind (tG.v q))
  obtain ⟨p, k⟩ := k
  refine tG.imp (fun y H2 k2 => ?_) (tGv.bind k)
  obtain ⟨pq, loc, S, env, hS, hE, rs, k3⟩ := k2
  obtain ⟨rp, rq⟩ := two_known rs
  refine h2 σ H2 _ ⟨loc, S, env, hS, hE, ?_⟩
  have k4 : PostR X.K W (RP X.K) σ Q loc H2 ((r env S).bind fun ps S' => .ok ((p, pq) :: ps) S') := k3
  cases e : r env S with
  | bad => rw [e] at k4; exact k4
  | exc c fs S1 => rw [e] at k4; exact k4
  | ok ps S1 =>
    rw [e] at k4
    intro l3 H3 xs g3 s3 r3
    exact k4 l3 H3 _ g3 s3 (.cons ⟨Rep.up g3 _ _ rp, Rep.up g3 _ _ rq⟩ r3)
theorem de_disp {keys : List (Option Expr)} {values : List Expr} {m : PM} (h : DP X pos keys values m) (hall : keys.all (·.isSome) = true) (hl : keys.length = values.length) (h0 : keys ≠ []) (h15 : keys.length ≤ 15) : DE X (.Dict keys values pos) (dispE m) := fun W tk => by
  obtain ⟨trs, h1, h2⟩ := h W tk
  refine (pe_disp h1 hall hl h0 h15).imp fun σ H Q q => ?_
  intro p np
  obtain ⟨loc, S, env, hS, hE, k⟩ := q
  have nl : p ∉ loc := fun hm => by
    obtain ⟨i, hi⟩ := List.getElem?_of_mem hm
    obtain ⟨_, v, _, e3, _⟩ := hS.live hi
    exact ne_of_none e3 np rfl
  have g1 : Grow X.K loc H loc (upd H p (.dK [])) := grow_new np fun _ _ z => z
  refine h2 σ _ _ ⟨loc, S, env, hS.lay np, hE.up g1, ?_⟩
  unfold dispE bindE at k
  cases e : m env S with
  | bad => rw [e] at k; exact k
  | exc c fs S1 =>
    rw [e] at k
    intro l3 H3 d g3 s3 r3
    exact k l3 H3 d (g1.trans g3) s3 r3
  | ok ps S1 =>
    rw [e, Res.bind_ok] at k
    dsimp only at k
    intro l3 H3 xs g3 s3 r3
    have hp3 : H3 p = some (.dK []) := g3.fra p _ upd_same nl
    have nl3 : p ∉ l3 := g3.out (upd_same : upd H p (.dK []) p = some (.dK [])) nl
    split at k
    · rename_i kvs ek
      split at k
      · rename_i hz
        obtain ⟨qs, ex, rt⟩ := keysP_rep ek r3
        refine ⟨hp3, qs, ex, by rw [← Paired.length rt]; exact hz, ?_⟩
        have g4 := Grow.adopt (u := .dK (mergeK [] qs)) np nl g3 hp3 trivial
        have up : Up X.K l3 H3 (l3 ++ [p]) (upd H3 p (.dK (mergeK [] qs))) := up_write (by rw [hp3]; trivial) fun i a e => by rw [List.getElem?_append_left (List.getElem?_eq_some_iff.mp e).1]; exact e
        exact k _ _ _ g4 (s3.adopt hp3 trivial nl3 ⟨_, upd_same, (rt.merge .nil).upU up⟩) (.ref (s3.last p))
      · exact k.elim
    · exact k.elim
end
end D

/-! D6: statements, targets, what is walked, for, while. -/
namespace D
open PySem PySem.Spec PyProof.Rows L2

inductive SR where
  | nx (env : Sl) (S : Hs)
  | rt (p : PV) (S : Hs)
  | bk (env : Sl) (S : Hs)
  | ct (env : Sl) (S : Hs)
  | exc (c : Value) (fs : List (Str × PV)) (env : Sl) (S : Hs)
  | bad
abbrev SM := Sl → Hs → SR
def PostS (K : PySem.W.Frag) (W : WX) (D : Ends) (loc : List Addr) (H : Hp) : SR → Prop
  | .nx env S => ∀ loc' H' σ', Grow K loc H loc' H' → StR K loc' S H' → SlR K loc' H' env σ' → D.nx σ' H'
  | .rt p S => ∀ loc' H' x, Grow K loc H loc' H' → StR K loc' S H' → Rep K loc' H' p x → D.rt x H'
  | .bk env S => ∀ loc' H' σ', Grow K loc H loc' H' → StR K loc' S H' → SlR K loc' H' env σ' → D.bk σ' H'
  | .ct env S => ∀ loc' H' σ', Grow K loc H loc' H' → StR K loc' S H' → SlR K loc' H' env σ' → D.ct σ' H'
  | .exc c fs env S => ∀ loc' H' σ' d, Grow K loc H loc' H' → StR K loc' S H' → SlR K loc' H' env σ' → XR K loc' H' fs d → W c d σ' H'
  | .bad => False
theorem PostS.up {K : PySem.W.Frag} {W : WX} {D : Ends} {loc loc' : List Addr} {H H' : Hp} {r : SR} (g : Grow K loc H loc' H') (h : PostS K W D loc H r) : PostS K W D loc' H' r := by
  cases r with
  | nx env S => exact fun l2 h2 x g2 => h l2 h2 x (g.trans g2)
  | rt p S => exact fun l2 h2 x g2 => h l2 h2 x (g.trans g2)
  | bk env S => exact fun l2 h2 x g2 => h l2 h2 x (g.trans g2)
  | ct env S => exact fun l2 h2 x g2 => h l2 h2 x (g.trans g2)
  | exc c fs env S => exact fun l2 h2 x d g2 => h l2 h2 x d (g.trans g2)
  | bad => exact h
def tS (K : PySem.W.Frag) (W : WX) (m : SM) : TS := fun D σ H => ∃ loc S env, StR K loc S H ∧ SlR K loc H env σ ∧ PostS K W D loc H (m env S)
def DS (X : Cx) (st : Stmt) (m : SM) : Prop := ∀ W, Takes X W → PS X st (tS X.K W m)
def DSs (X : Cx) (st : List Stmt) (m : SM) : Prop := ∀ W, Takes X W → PSs X st (tS X.K W m)
theorem _root_.L2.PS.imp {X : Cx} {e : Stmt} {t t' : TS} (h : PS X e t) (f : ∀ D σ H, t' D σ H → t D σ H) : PS X e t' := ⟨fun pins s σ H D I q => h.run pins s σ H D I (f D σ H q)⟩
theorem _root_.L2.PSs.imp {X : Cx} {e : List Stmt} {t t' : TS} (h : PSs X e t) (f : ∀ D σ H, t' D σ H → t D σ H) : PSs X e t' := ⟨fun pins s σ H D I q => h.run pins s σ H D I (f D σ H q)⟩

def liftS {α : Type} (m : Sl → Hs → Res α) (k : α → Sl → Hs → SR) : SM := fun env S => match m env S with
  | .ok a S' => k a env S'
  | .exc c fs S' => .exc c fs env S'
  | .bad => .bad
section
variable {K : PySem.W.Frag} {W : WX} {D : Ends} {σ : St} {H : Hp}
/-- an expression, then the rest -/
theorem tS.lift {m : EM} {k : PV → Sl → Hs → SR} (h : tS K W (liftS m k) D σ H) : tM K W m σ H fun x H1 => ∃ loc S env p, StR K loc S H1 ∧ SlR K loc H1 env σ ∧ Rep K loc H1 p x ∧ PostS K W D loc H1 (k p env S) := by
  obtain ⟨loc, S, env, hS, hE, q⟩ := h
  refine ⟨loc, S, env, hS, hE, ?_⟩
  unfold liftS at q
  cases e : m env S with
  | bad => rw [e] at q; exact q
  | exc c fs S1 => rw [e] at q; exact fun l2 h2 d g2 s2 r2 => q l2 h2 σ d g2 s2 (hE.up g2) r2
  | ok p S1 => rw [e] at q; exact fun l2 h2 x g2 s2 r2 => ⟨l2, S1, env, p, s2, hE.up g2, r2, PostS.up g2 q⟩
theorem tS.liftB {m : TM} {k : Bool → Sl → Hs → SR} (h : tS K W (liftS m k) D σ H) : tB K W m σ H fun b H1 => tS K W (k b) D σ H1 := by
  obtain ⟨loc, S, env, hS, hE, q⟩ := h
  refine ⟨loc, S, env, hS, hE, ?_⟩
  unfold liftS at q
  cases e : m env S with
  | bad => rw [e] at q; exact q
  | exc c fs S1 => rw [e] at q; exact fun l2 h2 d g2 s2 r2 => q l2 h2 σ d g2 s2 (hE.up g2) r2
  | ok p S1 =>
    rw [e] at q
    intro l2 h2 x g2 s2 r2
    subst r2
    exact ⟨l2, S1, env, s2, hE.up g2, PostS.up g2 q⟩
theorem tS.liftA {m : AM} {k : List PV → Sl → Hs → SR} (h : tS K W (liftS m k) D σ H) : tA K W m σ H fun xs H1 => ∃ loc S env ps, StR K loc S H1 ∧ SlR K loc H1 env σ ∧ Reps K loc H1 ps xs ∧ PostS K W D loc H1 (k ps env S) := by
  obtain ⟨loc, S, env, hS, hE, q⟩ := h
  refine ⟨loc, S, env, hS, hE, ?_⟩
  unfold liftS at q
  cases e : m env S with
  | bad => rw [e] at q; exact q
  | exc c fs S1 => rw [e] at q; exact fun l2 h2 d g2 s2 r2 => q l2 h2 σ d g2 s2 (hE.up g2) r2
  | ok p S1 => rw [e] at q; exact fun l2 h2 x g2 s2 r2 => ⟨l2, S1, env, p, s2, hE.up g2, r2, PostS.up g2 q⟩
end

/-! ### blocks and plain statements -/
def nxS : SM := fun env S => .nx env S
def seqS (m n : SM) : SM := fun env S => match m env S with
  | .nx env' S' => n env' S'
  | r => r
def exprS (m : EM) : SM := liftS m fun _ env S => .nx env S
def retS (m : EM) : SM := liftS m fun p _ S => .rt p S
def retN : SM := fun _ S => .rt .non S
def ifS (t : TM) (m n : SM) : SM := liftS t fun b => if b = true then m else n
section
variable {X : Cx} {st : Stmt} {rest : List Stmt} {m n : SM} {e c : Expr} {me : EM} {t : TM} {pos : Pos}
theorem dss_nil : DSs X [] nxS := fun W tk => pss_nil.imp fun D σ H q => by
  obtain ⟨loc, S, env, hS, hE, k⟩ := q
  exact k _ _ _ .refl hS hE
theorem dss_cons (h : DS X st m) (hr : DSs X rest n) : DSs X (st :: rest) (seqS m n) := fun W tk => (pss_cons (h W tk) (hr W tk)).imp fun D σ H q => by
  obtain ⟨loc, S, env, hS, hE, k⟩ := q
  refine ⟨loc, S, env, hS, hE, ?_⟩
  unfold seqS at k
  cases e : m env S with
  | nx env' S' => rw [e] at k; exact fun l2 h2 σ2 g2 s2 r2 => ⟨l2, S', env', s2, r2, PostS.up g2 k⟩
  | rt p S' => rw [e] at k; exact k
  | bk _ _ => rw [e] at k; exact k
  | ct _ _ => rw [e] at k; exact k
  | exc _ _ _ _ => rw [e] at k; exact k
  | bad => rw [e] at k; exact k
theorem dss_one (h : DS X st m) : DSs X [st] m := fun W tk => pss_one (h W tk)
theorem ds_pass : DS X (.Pass pos) nxS := fun W tk => ps_pass.imp fun D σ H q => by
  obtain ⟨loc, S, env, hS, hE, k⟩ := q
  exact k _ _ _ .refl hS hE
theorem ds_break : DS X (.Break pos) (fun env S => .bk env S) := fun W tk => ps_break.imp fun D σ H q => by
  obtain ⟨loc, S, env, hS, hE, k⟩ := q
  exact k _ _ _ .refl hS hE
theorem ds_continue : DS X (.Continue pos) (fun env S => .ct env S) := fun W tk => ps_continue.imp fun D σ H q => by
  obtain ⟨loc, S, env, hS, hE, k⟩ := q
  exact k _ _ _ .refl hS hE
theorem ds_expr (h : DE X e me) (hs : swapsWith e none pos.line X.env = pure false) : DS X (.Expr e pos) (exprS me) := fun W tk => (ps_expr (h W tk) hs).imp fun D σ H q => by
  refine tG.imp (fun x H1 k => ?_) (tS.lift q)
  obtain ⟨loc, S, env, p, hS, hE, r, k⟩ := k
  exact k _ _ _ .refl hS hE
theorem ds_ret (h : DE X e me) : DS X (.Return (some e) pos) (retS me) := fun W tk => (ps_ret (h W tk)).imp fun D σ H q => by
  refine tG.imp (fun x H1 k => ?_) (tS.lift q)
  obtain ⟨loc, S, env, p, hS, hE, r, k⟩ := k
  exact k _ _ _ .refl hS r
theorem ds_retN : DS X (.Return none pos) retN := fun W tk => ps_retN.imp fun D σ H q => by
  obtain ⟨loc, S, env, hS, hE, k⟩ := q
  exact k _ _ _ .refl hS .non
theorem ds_if {a b : List Stmt} (hc : DT X c t) (ha : DSs X a m) (hb : DSs X b n) : DS X (.If c a b pos) (ifS t m n) := fun W tk => (ps_if (hc W tk) (ha W tk) (hb W tk)).imp fun D σ H q => by
  refine tG.imp (fun x H1 k => ?_) (tS.liftB q)
  cases x with
  | true => exact k
  | false => exact k
end

/-! ### targets -/
abbrev GM := PV → Sl → Hs → Res Sl
/-- the slots ts alone are written -/
def Tch (ts : List Nat) (σ σ' : St) : Prop := σ'.length = σ.length ∧ ∀ i, i ∉ ts → σ'[i]? = σ[i]?
theorem Tch.refl {ts : List Nat} {σ : St} : Tch ts σ σ := ⟨rfl, fun _ _ => rfl⟩
theorem Tch.trans {ts us : List Nat} {σ σ1 σ2 : St} (h : Tch ts σ σ1) (k : Tch us σ1 σ2) : Tch (ts ++ us) σ σ2 :=
  ⟨k.1.trans h.1, fun i hi => (k.2 i fun z => hi (List.mem_append_right _ z)).trans (h.2 i fun z => hi (List.mem_append_left _ z))⟩
def tGt (K : PySem.W.Frag) (t : GM) (ts : List Nat) : TG := fun v σ H Q => ∃ loc S env p, StR K loc S H ∧ SlR K loc H env σ ∧ Rep K loc H p v ∧ match t p env S with
  | .ok env' S' => ∀ loc' H' σ', Grow K loc H loc' H' → StR K loc' S' H' → SlR K loc' H' env' σ' → Tch ts σ σ' → Q σ' H'
  | _ => False
def DG (X : Cx) (tg : Expr) (t : GM) (ts : List Nat) : Prop := PG X tg (tGt X.K t ts)
theorem _root_.L2.PG.imp {X : Cx} {tg : Expr} {t t' : TG} (h : PG X tg t) (f : ∀ v σ H Q, t' v σ H Q → t v σ H Q) : PG X tg t' := ⟨fun pins s σ H v u Q I r q => h.run pins s σ H v u Q I r (f v σ H Q q)⟩
def setG (i : Nat) : GM := fun p env S => .ok (env.set i (some p)) S
section
variable {X : Cx} {pos : Pos}
theorem dg_name {i : Nat} {x : Str} (hN : X.N.Nodup) (hi : X.N[i]? = some x) (hx : Loc X.env.scope x) (hf : X.fn x = true ∨ X.env.scope.names.lookup x = some .local) : DG X (.Name x pos) (setG i) [i] :=
  (pg_name hN hi hx hf).imp fun v σ H Q q => by
    obtain ⟨loc, S, env, p, hS, hE, r, k⟩ := q
    exact k _ _ _ .refl hS (hE.set i r) ⟨by simp, fun j hj => List.getElem?_set_ne fun z => hj (by simp [z])⟩
/-- several, one after the other -/
abbrev GsM := List PV → Sl → Hs → Res Sl
def tGts (K : PySem.W.Frag) (t : GsM) (ts : List Nat) : TGs := fun vs σ H Q => ∃ loc S env ps, StR K loc S H ∧ SlR K loc H env σ ∧ Reps K loc H ps vs ∧ match t ps env S with
  | .ok env' S' => ∀ loc' H' σ', Grow K loc H loc' H' → StR K loc' S' H' → SlR K loc' H' env' σ' → Tch ts σ σ' → Q σ' H'
  | _ => False
def DGs (X : Cx) (es : List Expr) (t : GsM) (ts : List Nat) : Prop := PGs X es (tGts X.K t ts)
theorem _root_.L2.PGs.imp {X : Cx} {tg : List Expr} {t t' : TGs} (h : PGs X tg t) (f : ∀ v σ H Q, t' v σ H Q → t v σ H Q) : PGs X tg t' := ⟨fun pins s σ H v u Q I r q => h.run pins s σ H v u Q I r (f v σ H Q q)⟩
def nilG : GsM := fun ps env S => match ps with
  | [] => .ok env S
  | _ => .bad
def consG (t : GM) (u : GsM) : GsM := fun ps env S => match ps with
  | p :: r => (t p env S).bind fun env' S' => u r env' S'
  | _ => .bad
theorem dgs_nil : DGs X [] nilG [] := pgs_nil.imp fun vs σ H Q q => by
  obtain ⟨loc, S, env, ps, hS, hE, r, k⟩ := q
  unfold nilG at k
  split at k
  · rename_i env' S' e
    split at e
    · cases e; cases r
      exact ⟨rfl, k _ _ _ .refl hS hE .refl⟩
    · cases e
  · exact k.elim
theorem dgs_cons {e : Expr} {es : List Expr} {t : GM} {u : GsM} {ts us : List Nat} (h : DG X e t ts) (hs : DGs X es u us) (hst : (assignEach (e :: es) X.env).map (·.2) = assign e X.env :: (assignEach es X.env).map (·.2)) : DGs X (e :: es) (consG t u) (ts ++ us) :=
  (pgs_cons h hs hst).imp fun vs σ H Q q => by
    obtain ⟨loc, S, env, ps, hS, hE, r, k⟩ := q
    cases r with
    | nil => exact k.elim
    | @cons p ps v vs r1 r2 =>
      refine ⟨v, vs, rfl, loc, S, env, p, hS, hE, r1, ?_⟩
      have k2 : match (t p env S).bind fun env' S' => u ps env' S' with
        | .ok env' S' => ∀ loc' H' σ', Grow X.K loc H loc' H' → StR X.K loc' S' H' → SlR X.K loc' H' env' σ' → Tch (ts ++ us) σ σ' → Q σ' H'
        | _ => False := k
      cases e1 : t p env S with
      | bad => rw [e1] at k2; exact k2.elim
      | exc _ _ _ => rw [e1] at k2; exact k2.elim
      | ok env1 S1 =>
        rw [e1] at k2
        intro l2 h2 σ2 g2 s2 e2 t2
        refine ⟨l2, S1, env1, ps, s2, e2, r2.up g2, ?_⟩
        have k3 : match u ps env1 S1 with
          | .ok env' S' => ∀ loc' H' σ', Grow X.K loc H loc' H' → StR X.K loc' S' H' → SlR X.K loc' H' env' σ' → Tch (ts ++ us) σ σ' → Q σ' H'
          | _ => False := k2
        cases e3 : u ps env1 S1 with
        | bad => rw [e3] at k3; exact k3.elim
        | exc _ _ _ => rw [e3] at k3; exact k3.elim
        | ok env2 S2 =>
          rw [e3] at k3
          exact fun l4 h4 σ4 g4 s4 r4 t4 => k3 l4 h4 σ4 (g2.trans g4) s4 r4 (t2.trans t4)
def tupG (n : Nat) (u : GsM) : GM := fun p env S => match p with
  | .tup ps => if ps.length = n then u ps env S else .bad
  | _ => .bad
theorem dg_tup {es : List Expr} {k : Nat} {u : GsM} {n : Nat} {ts : List Nat} (hc : X.calm = true) (h : DGs X es u ts) (hn : (assignEach es X.env).length = n) (hst : (assignEach es X.env).findIdx? (·.1) = none) : DG X (.Tuple es k pos) (tupG n u) ts :=
  (pg_tup hc h hn hst).imp fun v σ H Q q => by
    obtain ⟨loc, S, env, p, hS, hE, r, k⟩ := q
    unfold tupG at k
    cases p with
    | tup ps =>
      cases r with
      | @tup a _ vs h1 h2 =>
        dsimp only at k
        by_cases hz : ps.length = n
        · rw [if_pos hz] at k
          exact ⟨a, vs, rfl, h1, by rw [← h2.length]; exact hz, loc, S, env, ps, hS, hE, h2, k⟩
        · rw [if_neg hz] at k
          exact k.elim
    | _ => exact k.elim
/-- o[i] as a target -/
def subG (mo mi : EM) : GM := fun p env S => (mo env S).bind fun o S1 => (mi env S1).bind fun i S2 => (setP o i p S2).bind fun _ S3 => .ok env S3
theorem dg_sub {k : Nat} {o i : Expr} {mo mi : EM} (hr : Room k X.A) (ho : DE X o mo) (hi : DE X i mi)
    (ha : ∀ v, assign (.Subscript o i pos) X.env v = (do
      let ov ← holding [v] (eval o X.env)
      let iv ← holding [v, ov] (eval i X.env)
      standAt pos
      holding [v, ov, iv] (setItem ov iv v)
      release [v, ov, iv] [])) : DG X (.Subscript o i pos) (subG mo mi) [] := by
  refine ⟨fun pins s σ H v u Q I r h => ?_⟩
  obtain ⟨loc, S, env, p, hS, hE, rp, q⟩ := h
  have tk : Takes X (fun _ _ _ _ => False) := fun u s' ⟨_, _, _, _, _, _, _, _, _, _, _, _, _, _, _, _, z⟩ => z.elim
  rw [ha]
  unfold subG at q
  have q1 : tM X.K (fun _ _ _ _ => False) mo σ H fun x H1 => ∃ loc1 S1 o, Grow X.K loc H loc1 H1 ∧ StR X.K loc1 S1 H1 ∧ Rep X.K loc1 H1 o x ∧ match (mi env S1).bind fun i S2 => (setP o i p S2).bind fun _ S3 => .ok env S3 with
      | .ok env' S' => ∀ loc' H' σ', Grow X.K loc H loc' H' → StR X.K loc' S' H' → SlR X.K loc' H' env' σ' → Tch [] σ σ' → Q σ' H'
      | _ => False := by
    refine ⟨loc, S, env, hS, hE, ?_⟩
    cases e : mo env S with
    | bad => rw [e] at q; exact q
    | exc c fs S1 => rw [e] at q; exact q.elim
    | ok o S1 => rw [e] at q; exact fun l2 h2 x g2 s2 r2 => ⟨l2, S1, o, g2, s2, r2, q⟩
  refine wpAny_bind (wpAny_holding (thn ((ho _ tk).run pins s σ H _ I q1) fun ov s1 ⟨x, H1, I1, r1, loc1, S1, po, g1, hS1, rpo, k1⟩ => ?_))
  have q2 : tM X.K (fun _ _ _ _ => False) mi σ H1 fun y H2 => ∃ loc2 S2 i, Grow X.K loc1 H1 loc2 H2 ∧ StR X.K loc2 S2 H2 ∧ Rep X.K loc2 H2 i y ∧ match (setP po i p S2).bind fun _ S3 => .ok env S3 with
      | .ok env' S' => ∀ loc' H' σ', Grow X.K loc H loc' H' → StR X.K loc' S' H' → SlR X.K loc' H' env' σ' → Tch [] σ σ' → Q σ' H'
      | _ => False := by
    refine ⟨loc1, S1, env, hS1, hE.up g1, ?_⟩
    cases e : mi env S1 with
    | bad => rw [e] at k1; exact k1
    | exc c fs S2 => rw [e] at k1; exact k1.elim
    | ok o S2 => rw [e] at k1; exact fun l2 h2 x g2 s2 r2 => ⟨l2, S2, o, g2, s2, r2, k1⟩
  refine wpAny_bind (wpAny_holding (thn ((hi _ tk).run pins s1 σ H1 _ I1 q2) fun iv s2 ⟨y, H2, I2, r2, loc2, S2, pi, g2, hS2, rpi, k2⟩ => ?_))
  have g12 := g1.trans g2
  refine wpAny_bind (wpAny_standAt (wpAny_bind (wpAny_holding (thn (d_set hr (Q := fun H3 => Q σ H3) I2 r1 r2 r hS2 (Rep.up g2 _ _ rpo) rpi (Rep.up g12 _ _ rp) ?_) fun _ s3 ⟨H3, I3, q3⟩ => ?_))))
  · cases e : setP po pi p S2 with
    | bad => rw [e] at k2; exact k2
    | exc c fs S3 => rw [e] at k2; exact k2.elim
    | ok _ S3 =>
      rw [e] at k2
      intro l3 h3 g3 s3
      exact k2 l3 h3 σ (g12.trans g3) s3 (hE.up (g12.trans g3)) .refl
  · exact wpAny_release ⟨σ, H3, I3, q3⟩
/-- target = value -/
def asgS (m : EM) (t : GM) : SM := liftS m fun p env S => match t p env S with
  | .ok env' S' => .nx env' S'
  | _ => .bad
theorem tS.asg {K : PySem.W.Frag} {W : WX} {D : Ends} {σ : St} {H : Hp} {m : EM} {t : GM} {ts : List Nat} (q : tS K W (asgS m t) D σ H) : tAsg (tM K W m) (tGt K t ts) D σ H := by
  refine tG.imp (fun x H1 k => ?_) (tS.lift q)
  obtain ⟨loc, S, env, p, hS, hE, r, k⟩ := k
  refine ⟨loc, S, env, p, hS, hE, r, ?_⟩
  cases e : t p env S with
  | bad => rw [e] at k; exact k
  | exc c fs S3 => rw [e] at k; exact k
  | ok env' S' => rw [e] at k; exact fun l2 h2 σ2 g2 s2 e2 _ => k l2 h2 σ2 g2 s2 e2
theorem ds_asg {tg e : Expr} {m : EM} {t : GM} {ts : List Nat} (he : DE X e m) (hg : DG X tg t ts) (hs : swapsWithSole [tg] e pos.line X.env = pure false) (hw : swappedStores [tg] e X.env = pure none) (h1 : (assignEach [tg] X.env).map (·.2) = [assign tg X.env]) :
    DS X (.Assign [tg] e pos) (asgS m t) := fun W tk => (ps_asg (he W tk) hg hs hw h1).imp fun D σ H q => q.asg
theorem ds_set {i : Nat} {x : Str} {e : Expr} {m : EM} {pos' : Pos} (hN : X.N.Nodup) (hi : X.N[i]? = some x) (hx : Loc X.env.scope x) (he : DE X e m) (hs : swapsWith e (some (.Name x pos')) pos.line X.env = pure false) (hf : X.fn x = true ∨ X.env.scope.names.lookup x = some .local) :
    DS X (.Assign [.Name x pos'] e pos) (asgS m (setG i)) := fun W tk => (ps_set hN hi hx (he W tk) hs hf).imp fun D σ H q => by
  refine tG.imp (fun v H1 k => ?_) (tS.asg (ts := [i]) q)
  obtain ⟨loc, S, env, p, hS, hE, r, k⟩ := k
  exact k _ _ _ .refl hS (hE.set i r) ⟨by simp, fun j hj => List.getElem?_set_ne fun z => hj (by simp [z])⟩
/-- a, b = x, y by swapped stores -/
def parS (i j : Nat) (n : AM) : SM := liftS n fun ps env S => match ps with
  | [p, q] => .nx ((env.set i (some p)).set j (some q)) S
  | _ => .bad
theorem ds_par {i j : Nat} {x y : Str} {a b : Expr} {n : AM} {px py pt : Pos} {kt k2 : Nat} {pt2 : Pos} (hc : X.calm = true) (hN : X.N.Nodup) (hi : X.N[i]? = some x) (hj : X.N[j]? = some y) (hij : i ≠ j) (hx : X.env.scope.names.lookup x = some .local) (hy : X.env.scope.names.lookup y = some .local) (ha : DA X [a, b] n)
    (hw : swappedStores [.Tuple [.Name x px, .Name y py] kt pt] (.Tuple [a, b] k2 pt2) X.env = pure (some [x, y])) :
    DS X (.Assign [.Tuple [.Name x px, .Name y py] kt pt] (.Tuple [a, b] k2 pt2) pos) (parS i j n) := fun W tk => (ps_par hc hN hi hj hij hx hy (ha W tk) hw).imp fun D σ H q => by
  refine tG.imp (fun xs H1 k => ?_) (tS.liftA q)
  obtain ⟨loc, S, env, ps, hS, hE, r, k⟩ := k
  match ps, r, k with
  | [p, q], r, k =>
    obtain ⟨x, y, rfl, r1, r2⟩ := r.two
    exact ⟨x, y, rfl, k _ _ _ .refl hS ((hE.set i r1).set j r2)⟩
  | [], _, k => exact k.elim
  | [_], _, k => exact k.elim
  | _ :: _ :: _ :: _, _, k => exact k.elim
end

/-! ### what is walked -/
inductive ItD where
  | sq (xs : List PV)
  | lst (i : Nat)
  | rng (lo : Int) (n : Nat)
  | zip (xs ys : List PV)
  | enum (xs : List PV)
def nxt : ItD → Nat → Hs → Option (Option PV)
  | .sq xs, i, _ => some xs[i]?
  | .lst r, i, S => (lstAt S r).map fun xs => xs[i]?
  | .rng lo n, i, _ => if i < n then some (some (.int (lo + i))) else some none
  | .zip xs ys, i, _ => match xs[i]?, ys[i]? with
    | some a, some b => some (some (.tup [a, b]))
    | _, _ => some none
  | .enum xs, i, _ => match xs[i]? with
    | some a => some (some (.tup [.int i, a]))
    | none => some none
def ItR (K : PySem.W.Frag) (loc : List Addr) (H : Hp) (J : It) (d : ItD) : Prop :=
  ∀ loc' H' S i, Up K loc H loc' H' → StR K loc' S H' → (nxt d i S = some none → J.stop i H') ∧
    ∀ p, nxt d i S = some (some p) → J.go i H' ∧ ∀ x H'', J.yld i H' x H'' → Grow K loc' H' loc' H'' ∧ StR K loc' S H'' ∧ Rep K loc' H'' p x
theorem ItR.up {K : PySem.W.Frag} {loc loc' : List Addr} {H H' : Hp} {J : It} {d : ItD} (g : Grow K loc H loc' H') (h : ItR K loc H J d) : ItR K loc' H' J d := fun l h2 S i g2 s => h l h2 S i (g.toUp.trans g2) s
abbrev IM := Sl → Hs → Res ItD
def tI (K : PySem.W.Frag) (W : WX) (m : IM) : TI := fun σ H R => tG K W (fun l h d J => ItR K l h J d) m σ H R
def DI (X : Cx) (tg iter : Expr) (m : IM) : Prop := ∀ W, Takes X W → PI X tg iter (tI X.K W m)
theorem _root_.L2.PI.imp {X : Cx} {tg e : Expr} {t t' : TI} (h : PI X tg e t) (f : ∀ σ H R, t' σ H R → t σ H R) : PI X tg e t' := ⟨fun pins s σ H R I q => h.run pins s σ H R I (f σ H R q)⟩
def iterP (S : Hs) : PV → Option ItD
  | .tup xs => some (.sq xs)
  | .cl xs => some (.sq xs)
  | .ref i => (lstAt S i).map fun _ => .lst i
  | _ => none
section
variable {K : PySem.W.Frag} {loc : List Addr} {H : Hp} {a b : Addr}
theorem itr_list {xs : List PV} {vs : List V} (h : FrzL K H a vs) (r : Reps K loc H xs vs) : ItR K loc H (Itl K a) (.sq xs) := fun l2 h2 S i g s => by
  have q := g.frz a vs h
  have r2 := r.upU g
  refine ⟨fun e => ?_, fun p e => ?_⟩
  · have e1 : xs[i]? = none := Option.some.inj e
    exact ⟨vs, q.sq, by rw [← r2.length]; exact List.getElem?_eq_none_iff.mp e1⟩
  · obtain ⟨v, e2, r3⟩ := r2.get (Option.some.inj e)
    refine ⟨⟨vs, v, q.sq, e2⟩, fun x h3 y => ?_⟩
    obtain ⟨rfl, y⟩ := y
    have e3 := y vs q.sq
    rw [e2] at e3; cases e3
    exact ⟨.refl, s, r3⟩
theorem itr_tup {xs : List PV} {vs : List V} (h : SqT K H a vs) (r : Reps K loc H xs vs) : ItR K loc H (Itt K a) (.sq xs) := fun l2 h2 S i g s => by
  have q := g.tup a vs h
  have r2 := r.upU g
  refine ⟨fun e => ?_, fun p e => ?_⟩
  · have e1 : xs[i]? = none := Option.some.inj e
    exact ⟨vs, q, by rw [← r2.length]; exact List.getElem?_eq_none_iff.mp e1⟩
  · obtain ⟨v, e2, r3⟩ := r2.get (Option.some.inj e)
    refine ⟨⟨vs, v, q, e2⟩, fun x h3 y => ?_⟩
    obtain ⟨rfl, y⟩ := y
    have e3 := y vs q
    rw [e2] at e3; cases e3
    exact ⟨.refl, s, r3⟩
theorem itr_lst {i : Nat} (h : loc[i]? = some a) : ItR K loc H (Itl K a) (.lst i) := fun l2 h2 S j g s => by
  have q := g.pre i a h
  refine ⟨fun e => ?_, fun p e => ?_⟩
  · dsimp only [nxt] at e
    cases e1 : lstAt S i with
    | none => rw [e1] at e; cases e
    | some xs =>
      rw [e1] at e
      obtain ⟨vs, e2, r2⟩ := s.obj _ _ _ (lstAt_eq e1) q
      have e3 : xs[j]? = none := Option.some.inj e
      exact ⟨vs, SqL.of e2, by rw [← r2.length]; exact List.getElem?_eq_none_iff.mp e3⟩
  · dsimp only [nxt] at e
    cases e1 : lstAt S i with
    | none => rw [e1] at e; cases e
    | some xs =>
      rw [e1] at e
      obtain ⟨vs, e2, r2⟩ := s.obj _ _ _ (lstAt_eq e1) q
      obtain ⟨v, e4, r3⟩ := r2.get (show xs[j]? = some p from Option.some.inj e)
      refine ⟨⟨vs, v, SqL.of e2, e4⟩, fun x h3 y => ?_⟩
      obtain ⟨rfl, y⟩ := y
      have e3 := y vs (SqL.of e2)
      rw [e4] at e3; cases e3
      exact ⟨.refl, s, r3⟩
theorem itr_rng {lo : Int} {n : Nat} : ItR K loc H (Itr lo n) (.rng lo n) := fun l2 h2 S i g s => by
  refine ⟨fun e => ?_, fun p e => ?_⟩
  · dsimp only [nxt] at e
    split at e
    · cases e
    · show n ≤ i; omega
  · dsimp only [nxt] at e
    split at e
    · cases e
      refine ⟨by assumption, fun x h3 y => ?_⟩
      obtain ⟨rfl, rfl⟩ := y
      exact ⟨.refl, s, .int _⟩
    · cases e
theorem new_pair {l2 : List Addr} {h2 : Hp} {S : Hs} {T : Addr} {p q : PV} {x y : V} (s : StR K l2 S h2) (n : h2 T = none) (r1 : Rep K l2 h2 p x) (r2 : Rep K l2 h2 q y) :
    Grow K l2 h2 l2 (upd h2 T (.tup [x, y])) ∧ StR K l2 S (upd h2 T (.tup [x, y])) ∧ Rep K l2 (upd h2 T (.tup [x, y])) (.tup [p, q]) (.ref T) := by
  have g : Grow K l2 h2 l2 (upd h2 T (.tup [x, y])) := grow_new n fun _ _ z => z
  exact ⟨g, s.lay n, .tup (SqT.of upd_same) (.cons (Rep.up g _ _ r1) (.cons (Rep.up g _ _ r2) .nil))⟩
theorem itr_zipT {xs ys : List PV} {vs us : List V} (h : SqT K H a vs) (r : Reps K loc H xs vs) (h' : SqT K H b us) (r' : Reps K loc H ys us) : ItR K loc H (RZ.ItzT K a b) (.zip xs ys) := fun l2 h2 S i g s => by
  have q := g.tup a vs h
  have q' := g.tup b us h'
  have r2 := r.upU g
  have r2' := r'.upU g
  refine ⟨fun e => ?_, fun p e => ?_⟩
  · refine ⟨vs, us, q, q', ?_⟩
    rw [← r2.length, ← r2'.length]
    dsimp only [nxt] at e
    cases e1 : xs[i]? with
    | none => exact .inl (List.getElem?_eq_none_iff.mp e1)
    | some x =>
      cases e2 : ys[i]? with
      | none => exact .inr (List.getElem?_eq_none_iff.mp e2)
      | some y => rw [e1, e2] at e; cases e
  · dsimp only [nxt] at e
    cases e1 : xs[i]? with
    | none => rw [e1] at e; cases e
    | some x =>
      cases e2 : ys[i]? with
      | none => rw [e1, e2] at e; cases e
      | some y =>
        rw [e1, e2] at e
        cases e
        obtain ⟨v, e3, r3⟩ := r2.get e1
        obtain ⟨u, e4, r4⟩ := r2'.get e2
        refine ⟨⟨vs, us, v, u, q, q', e3, e4⟩, fun z h3 yl => ?_⟩
        obtain ⟨T, x', y', rfl, nT, rfl, k1, k2⟩ := yl
        have z1 := k1 vs q
        rw [e3] at z1; cases z1
        have z2 := k2 us q'
        rw [e4] at z2; cases z2
        exact new_pair s nT r3 r4
theorem itr_zipL {xs ys : List PV} {vs us : List V} (h : FrzL K H a vs) (r : Reps K loc H xs vs) (h' : FrzL K H b us) (r' : Reps K loc H ys us) : ItR K loc H (Itz K a b) (.zip xs ys) := fun l2 h2 S i g s => by
  have q := (g.frz a vs h).sq
  have q' := (g.frz b us h').sq
  have r2 := r.upU g
  have r2' := r'.upU g
  refine ⟨fun e => ?_, fun p e => ?_⟩
  · refine ⟨vs, us, q, q', ?_⟩
    rw [← r2.length, ← r2'.length]
    dsimp only [nxt] at e
    cases e1 : xs[i]? with
    | none => exact .inl (List.getElem?_eq_none_iff.mp e1)
    | some x =>
      cases e2 : ys[i]? with
      | none => exact .inr (List.getElem?_eq_none_iff.mp e2)
      | some y => rw [e1, e2] at e; cases e
  · dsimp only [nxt] at e
    cases e1 : xs[i]? with
    | none => rw [e1] at e; cases e
    | some x =>
      cases e2 : ys[i]? with
      | none => rw [e1, e2] at e; cases e
      | some y =>
        rw [e1, e2] at e
        cases e
        obtain ⟨v, e3, r3⟩ := r2.get e1
        obtain ⟨u, e4, r4⟩ := r2'.get e2
        refine ⟨⟨vs, us, v, u, q, q', e3, e4⟩, fun z h3 yl => ?_⟩
        obtain ⟨T, x', y', rfl, nT, rfl, k1, k2⟩ := yl
        have z1 := k1 vs q
        rw [e3] at z1; cases z1
        have z2 := k2 us q'
        rw [e4] at z2; cases z2
        exact new_pair s nT r3 r4
theorem itr_enum {xs : List PV} {vs : List V} (h : FrzL K H a vs) (r : Reps K loc H xs vs) : ItR K loc H (Ite K a) (.enum xs) := fun l2 h2 S i g s => by
  have q := (g.frz a vs h).sq
  have r2 := r.upU g
  refine ⟨fun e => ?_, fun p e => ?_⟩
  · refine ⟨vs, q, ?_⟩
    rw [← r2.length]
    dsimp only [nxt] at e
    cases e1 : xs[i]? with
    | none => exact List.getElem?_eq_none_iff.mp e1
    | some x => rw [e1] at e; cases e
  · dsimp only [nxt] at e
    cases e1 : xs[i]? with
    | none => rw [e1] at e; cases e
    | some x =>
      rw [e1] at e
      cases e
      obtain ⟨v, e3, r3⟩ := r2.get e1
      refine ⟨⟨vs, v, q, e3⟩, fun z h3 yl => ?_⟩
      obtain ⟨T, x', rfl, nT, rfl, k1⟩ := yl
      have z1 := k1 vs q
      rw [e3] at z1; cases z1
      exact new_pair s nT (.int _) r3
end
def itM (m : EM) : IM := bindE m fun p _ S => match iterP S p with
  | some d => .ok d S
  | none => .bad
def rng1M (n : AM) : IM := bindE n fun ps _ S => match ps with
  | [.int j] => if -(2 ^ 62) ≤ j ∧ j < 2 ^ 62 then .ok (.rng 0 j.toNat) S else .bad
  | _ => .bad
def rng2M (n : AM) : IM := bindE n fun ps _ S => match ps with
  | [.int i, .int j] => if (-(2 ^ 62) ≤ i ∧ i < 2 ^ 62) ∧ -(2 ^ 62) ≤ j ∧ j < 2 ^ 62 then .ok (.rng i (j - i).toNat) S else .bad
  | _ => .bad
def zipM (n : AM) : IM := bindE n fun ps _ S => match ps with
  | [.tup xs, .tup ys] => .ok (.zip xs ys) S
  | [.cl xs, .cl ys] => .ok (.zip xs ys) S
  | _ => .bad
def enumM (n : AM) : IM := bindE n fun ps _ S => match ps with
  | [.cl xs] => .ok (.enum xs) S
  | _ => .bad
section
variable {X : Cx} {tg e : Expr} {p pos tpos : Pos} {elts : List Expr} {kk : Nat}
/-- pi_list and pi_tup in one: by what comes -/
theorem di_seq {m : EM} (he : DE X e m) : DI X tg e (itM m) := fun W tk => by
  refine ⟨fun pins s σ H R I h => ?_⟩
  have h1 : tM X.K W m σ H fun x H1 => ∃ loc S env p, StR X.K loc S H1 ∧ SlR X.K loc H1 env σ ∧ Rep X.K loc H1 p x ∧ PostR X.K W (fun l h d J => ItR X.K l h J d) σ R loc H1 (match iterP S p with
      | some d => .ok d S
      | none => .bad) := by
    refine tG.imp (fun x H1 k => ?_) (tGv.bind (tG.v h))
    obtain ⟨p, loc, S, env, hS, hE, rs, k⟩ := k
    cases rs with
    | cons r _ => exact ⟨loc, S, env, p, hS, hE, r, k⟩
  refine thn ((he W tk).run pins s σ H _ I h1) fun v s1 ⟨x, H1, I1, r1, loc, S, env, p, hS, hE, rp, k⟩ => ?_
  have viaL : ∀ {a : Addr} {vs : List V}, v = .ref a → SqL X.K H1 a vs → R (Itl X.K a) H1 → wpAny (model X.prog X.w) X.A (pyIter v) (PIE X pins σ tg R) X.xe s1 := fun {a vs} ev hq hR => by
    subst ev
    obtain ⟨its, rv, pl, hz⟩ := I1.list hq
    refine wpAny_pyIter_list pl.isList ?_
    refine ⟨s1.heap.objs.size, [s1.heap.objs.size], _, _, H1, rfl, I1.kept (t' := s1.toks) fun b o e => Heap.get?_push_of_some _ e, turn_list a _, ⟨_, Heap.get?_push_size _ rfl, rfl, rfl⟩, fun b hb => ?_, hR⟩
    have e : b = s1.heap.objs.size := by simpa using hb
    subst e
    exact I1.fpOk (Nat.le_refl _) (I1.hok.fresh (Nat.le_refl _))
  have viaT : ∀ {a : Addr} {vs : List V}, v = .ref a → SqT X.K H1 a vs → R (Itt X.K a) H1 → wpAny (model X.prog X.w) X.A (pyIter v) (PIE X pins σ tg R) X.xe s1 := fun {a vs} ev hq hR => by
    subst ev
    obtain ⟨its, rv, pl, hz⟩ := I1.tuple hq
    refine wpAny_pyIter_tuple (show s1.heap.IsTuple a its.toArray from pl) ?_
    refine ⟨s1.heap.objs.size, [s1.heap.objs.size], _, _, H1, rfl, I1.kept (t' := s1.toks) fun b o e => Heap.get?_push_of_some _ e, turn_tuple a _, ⟨_, Heap.get?_push_size _ rfl, rfl, rfl⟩, fun b hb => ?_, hR⟩
    have e : b = s1.heap.objs.size := by simpa using hb
    subst e
    exact I1.fpOk (Nat.le_refl _) (I1.hok.fresh (Nat.le_refl _))
  cases p with
  | tup xs =>
    cases rp with
    | tup h1 h2 => exact viaT r1 h1 (k _ _ _ .refl hS (itr_tup h1 h2))
  | cl xs =>
    cases rp with
    | cl h1 h2 => exact viaL r1 h1.sq (k _ _ _ .refl hS (itr_list h1 h2))
  | ref i =>
    cases rp with
    | @ref _ a h1 =>
      dsimp only [iterP] at k
      cases e1 : lstAt S i with
      | none => rw [e1] at k; exact k.elim
      | some xs =>
        rw [e1] at k
        obtain ⟨vs, e3, _⟩ := hS.obj _ _ _ (lstAt_eq e1) h1
        exact viaL r1 (SqL.of e3) (k _ _ _ .refl hS (itr_lst h1))
  | _ => exact k.elim
end
end D

/-! D7: range, zip, enumerate; for and while; list comprehensions. -/
namespace D
open PySem PySem.Spec PyProof.Rows L2

section
variable {X : Cx} {tg e e2 : Expr} {p pos tpos : Pos} {elts : List Expr} {kk : Nat} {n : AM}
theorem tI.args {K : PySem.W.Frag} {W : WX} {σ : St} {H : Hp} {R : It → Hp → Prop} {k : List PV → Sl → Hs → Res ItD} (h : tI K W (bindE n k) σ H R) :
    tA K W n σ H fun xs H1 => ∃ loc S env ps, StR K loc S H1 ∧ SlR K loc H1 env σ ∧ Reps K loc H1 ps xs ∧ PostR K W (fun l h d J => ItR K l h J d) σ R loc H1 (k ps env S) := by
  refine tG.imp (fun xs H1 q => ?_) (tGv.bindA (tG.v h))
  obtain ⟨ps, loc, S, env, hS, hE, rs, q⟩ := q
  rw [List.append_nil, List.append_nil] at rs
  exact ⟨loc, S, env, ps, hS, hE, rs, q⟩
theorem di_range1 (hg : Gl X "range") (hm : X.mg "range" = none) (hs : NoStar e) (ha : DA X [e] n) : DI X tg (.Call (.Name "range" p) [e] [] pos) (rng1M n) := fun W tk =>
  (pi_range1 hg hm (ha W tk) (hs _ _)).imp fun σ H R q => by
    refine tG.imp (fun xs H1 k => ?_) (tI.args q)
    obtain ⟨loc, S, env, ps, hS, hE, rs, k⟩ := k
    split at k
    · split at k
      · rename_i c
        obtain ⟨x, rfl, r⟩ := rs.one
        cases r
        exact ⟨_, rfl, c.1, c.2, k _ _ _ .refl hS itr_rng⟩
      · exact k.elim
    · exact k.elim
theorem di_range2 (hg : Gl X "range") (hm : X.mg "range" = none) (hs : NoStar e) (hs2 : NoStar e2) (ha : DA X [e, e2] n) : DI X tg (.Call (.Name "range" p) [e, e2] [] pos) (rng2M n) := fun W tk =>
  (pi_range2 hg hm (ha W tk) ((hs _ _).trans (congrArg _ (hs2 _ _))) (hs2 _ _)).imp fun σ H R q => by
    refine tG.imp (fun xs H1 k => ?_) (tI.args q)
    obtain ⟨loc, S, env, ps, hS, hE, rs, k⟩ := k
    split at k
    · split at k
      · rename_i c
        obtain ⟨x, y, rfl, r, r'⟩ := rs.two
        cases r; cases r'
        exact ⟨_, _, rfl, ⟨c.1.1, c.1.2, c.2.1, c.2.2⟩, k _ _ _ .refl hS itr_rng⟩
      · exact k.elim
    · exact k.elim
theorem di_zip (hg : Gl X "zip") (hm : X.mg "zip" = none) (hs : NoStar e) (hs2 : NoStar e2) (ha : DA X [e, e2] n) : DI X (.Tuple elts kk tpos) (.Call (.Name "zip" p) [e, e2] [] pos) (zipM n) := fun W tk =>
  (RZ.pi_zipA hg hm (ha W tk) (hs _ _) (any_plain fun x hx => by have z : x = e2 := by simpa using hx
                                                                 rw [z]; exact hs2)).imp fun σ H R q => by
    refine tG.imp (fun xs H1 k => ?_) (tI.args q)
    obtain ⟨loc, S, env, ps, hS, hE, rs, k⟩ := k
    split at k
    · obtain ⟨x, y, rfl, r, r'⟩ := rs.two
      cases r with
      | tup h1 h2 =>
        cases r' with
        | tup h3 h4 => exact ⟨_, _, _, _, rfl, .inr ⟨h1, h3, k _ _ _ .refl hS (itr_zipT h1 h2 h3 h4)⟩⟩
    · obtain ⟨x, y, rfl, r, r'⟩ := rs.two
      cases r with
      | cl h1 h2 =>
        cases r' with
        | cl h3 h4 => exact ⟨_, _, _, _, rfl, .inl ⟨h1.sq, h3.sq, k _ _ _ .refl hS (itr_zipL h1 h2 h3 h4)⟩⟩
    · exact k.elim
theorem di_enum (hg : Gl X "enumerate") (hm : X.mg "enumerate" = none) (hs : NoStar e) (ha : DA X [e] n) : DI X (.Tuple elts kk tpos) (.Call (.Name "enumerate" p) [e] [] pos) (enumM n) := fun W tk =>
  (pi_enum hg hm (ha W tk) (hs _ _)).imp fun σ H R q => by
    refine tG.imp (fun xs H1 k => ?_) (tI.args q)
    obtain ⟨loc, S, env, ps, hS, hE, rs, k⟩ := k
    split at k
    · obtain ⟨x, rfl, r⟩ := rs.one
      cases r with
      | cl h1 h2 => exact ⟨_, _, rfl, h1.sq, k _ _ _ .refl hS (itr_enum h1 h2)⟩
    · exact k.elim
end

/-! ### for -/
def FUEL : Nat := 20000000
def forGo (nx : Nat → Hs → Option (Option PV)) (t : GM) (body : SM) : Nat → Nat → Sl → Hs → SR
  | 0, _, _, _ => .bad
  | f + 1, i, env, S => match nx i S with
    | none => .bad
    | some none => .nx env S
    | some (some p) => match t p env S with
      | .ok env1 S1 => match body env1 S1 with
        | .nx env2 S2 => forGo nx t body f (i + 1) env2 S2
        | .ct env2 S2 => forGo nx t body f (i + 1) env2 S2
        | .bk env2 S2 => .nx env2 S2
        | r => r
      | _ => .bad
def forS (it : IM) (t : GM) (body : SM) : SM := liftS it fun d env S => forGo (nxt d) t body FUEL 0 env S
section
variable {X : Cx} {tg iter c : Expr} {body : List Stmt} {it : IM} {t : GM} {ts : List Nat} {mb : SM} {pos : Pos}
theorem ds_for (hp : PassesOwn (model X.prog X.w) X.A X.env X.xe) (hc : X.calm = true) (hi : DI X tg iter it) (hg : DG X tg t ts) (hb : DSs X body mb) (hs : ∀ x, foldedSetIterable iter X.env x = pure x) :
    DS X (.For tg iter body [] pos) (forS it t mb) := fun W tk => (ps_for hp hc (hi W tk) hg (hb W tk) hs).imp fun D σ H q => by
  have q1 : tI X.K W it σ H fun J H1 => ∃ loc S env d, StR X.K loc S H1 ∧ SlR X.K loc H1 env σ ∧ ItR X.K loc H1 J d ∧ PostS X.K W D loc H1 (forGo (nxt d) t mb FUEL 0 env S) := by
    obtain ⟨loc, S, env, hS, hE, k⟩ := q
    refine ⟨loc, S, env, hS, hE, ?_⟩
    unfold forS liftS at k
    cases e : it env S with
    | bad => rw [e] at k; exact k
    | exc c fs S1 => rw [e] at k; exact fun l2 h2 d g2 s2 r2 => k l2 h2 σ d g2 s2 (hE.up g2) r2
    | ok d S1 => rw [e] at k; exact fun l2 h2 J g2 s2 r2 => ⟨l2, S1, env, d, s2, hE.up g2, r2, PostS.up g2 k⟩
  refine tG.imp (fun J H1 k => ?_) q1
  obtain ⟨loc, S, env, d, hS, hE, hJ, k⟩ := k
  refine ⟨fun i m σ' H' => ∃ loc' S' env', Grow X.K loc H1 loc' H' ∧ StR X.K loc' S' H' ∧ SlR X.K loc' H' env' σ' ∧ PostS X.K W D loc' H' (forGo (nxt d) t mb m i env' S'), ⟨FUEL, loc, S, env, .refl, hS, hE, k⟩, ?_⟩
  rintro i m σ1 H2 ⟨l1, S1, env1, g1, s1, e1, k1⟩
  cases m with
  | zero => exact k1.elim
  | succ m =>
    obtain ⟨j1, j2⟩ := hJ l1 H2 S1 i g1.toUp s1
    unfold forGo at k1
    cases en : nxt d i S1 with
    | none => rw [en] at k1; exact k1.elim
    | some o =>
      cases o with
      | none =>
        rw [en] at k1
        exact .inl ⟨j1 en, k1 _ _ _ .refl s1 e1⟩
      | some p =>
        rw [en] at k1
        obtain ⟨jg, jy⟩ := j2 p en
        refine .inr ⟨jg, fun σ' H' => ∃ loc' S' env', Grow X.K loc H1 loc' H' ∧ StR X.K loc' S' H' ∧ SlR X.K loc' H' env' σ' ∧ PostS X.K W D loc' H' (forGo (nxt d) t mb m (i + 1) env' S'), fun σ' H' h => ⟨m, Nat.lt_succ_self m, h⟩, fun x H' y => ?_⟩
        obtain ⟨gy, sy, ry⟩ := jy x H' y
        refine ⟨l1, S1, env1, p, sy, e1.up gy, ry, ?_⟩
        dsimp only at k1
        cases et : t p env1 S1 with
        | bad => rw [et] at k1; exact k1
        | exc _ _ _ => rw [et] at k1; exact k1
        | ok env3 S3 =>
          rw [et] at k1
          intro l3 h3 σ3 g3 s3 e3 _
          refine ⟨l3, S3, env3, s3, e3, ?_⟩
          dsimp only at k1
          have gg : Grow X.K l1 H2 l3 h3 := gy.trans g3
          cases eb : mb env3 S3 with
          | nx env4 S4 => rw [eb] at k1; exact fun l5 h5 σ5 g5 s5 e5 => ⟨l5, S4, env4, g1.trans (gg.trans g5), s5, e5, PostS.up (gg.trans g5) k1⟩
          | ct env4 S4 => rw [eb] at k1; exact fun l5 h5 σ5 g5 s5 e5 => ⟨l5, S4, env4, g1.trans (gg.trans g5), s5, e5, PostS.up (gg.trans g5) k1⟩
          | bk env4 S4 => rw [eb] at k1; exact fun l5 h5 σ5 g5 s5 e5 => k1 l5 h5 σ5 (gg.trans g5) s5 e5
          | rt p4 S4 => rw [eb] at k1; exact fun l5 h5 σ5 g5 s5 e5 => k1 l5 h5 σ5 (gg.trans g5) s5 e5
          | exc c4 f4 env4 S4 => rw [eb] at k1; exact fun l5 h5 σ5 d5 g5 s5 e5 => k1 l5 h5 σ5 d5 (gg.trans g5) s5 e5
          | bad => rw [eb] at k1; exact k1

/-! ### while -/
def whileGo (t : TM) (body : SM) : Nat → Sl → Hs → SR
  | 0, _, _ => .bad
  | f + 1, env, S => match t env S with
    | .ok true S1 => match body env S1 with
      | .nx env2 S2 => whileGo t body f env2 S2
      | .ct env2 S2 => whileGo t body f env2 S2
      | .bk env2 S2 => .nx env2 S2
      | r => r
    | .ok false S1 => .nx env S1
    | .exc c fs S1 => .exc c fs env S1
    | .bad => .bad
def whileS (t : TM) (body : SM) : SM := fun env S => whileGo t body FUEL env S
theorem ds_while {mt : TM} (hp : PassesOwn (model X.prog X.w) X.A X.env X.xe) (hc : DT X c mt) (hb : DSs X body mb) : DS X (.While c body [] pos) (whileS mt mb) := fun W tk => (ps_while hp (hc W tk) (hb W tk)).imp fun D σ H q => by
  obtain ⟨loc, S, env, hS, hE, k⟩ := q
  refine ⟨fun m σ' H' => ∃ loc' S' env', StR X.K loc' S' H' ∧ SlR X.K loc' H' env' σ' ∧ PostS X.K W D loc' H' (whileGo mt mb m env' S'), ⟨FUEL, loc, S, env, hS, hE, k⟩, ?_⟩
  rintro m σ1 H2 ⟨l1, S1, env1, s1, e1, k1⟩
  cases m with
  | zero => exact k1.elim
  | succ m =>
    unfold whileGo at k1
    refine ⟨l1, S1, env1, s1, e1, ?_⟩
    cases et : mt env1 S1 with
    | bad => rw [et] at k1; exact k1
    | exc c fs S3 => rw [et] at k1; exact fun l2 h2 d g2 s2 r2 => k1 l2 h2 σ1 d g2 s2 (e1.up g2) r2
    | ok b S3 =>
      rw [et] at k1
      intro l3 h3 b' g3 s3 eb'
      have eb' : b = b' := eb'
      subst eb'
      cases b with
      | false => exact k1 l3 h3 σ1 g3 s3 (e1.up g3)
      | true =>
        refine ⟨fun σ' H' => ∃ loc' S' env', StR X.K loc' S' H' ∧ SlR X.K loc' H' env' σ' ∧ PostS X.K W D loc' H' (whileGo mt mb m env' S'), fun σ' H' h => ⟨m, Nat.lt_succ_self m, h⟩, l3, S3, env1, s3, e1.up g3, ?_⟩
        dsimp only at k1
        cases eb : mb env1 S3 with
        | nx env4 S4 => rw [eb] at k1; exact fun l5 h5 σ5 g5 s5 e5 => ⟨l5, S4, env4, s5, e5, PostS.up (g3.trans g5) k1⟩
        | ct env4 S4 => rw [eb] at k1; exact fun l5 h5 σ5 g5 s5 e5 => ⟨l5, S4, env4, s5, e5, PostS.up (g3.trans g5) k1⟩
        | bk env4 S4 => rw [eb] at k1; exact fun l5 h5 σ5 g5 s5 e5 => k1 l5 h5 σ5 (g3.trans g5) s5 e5
        | rt p4 S4 => rw [eb] at k1; exact fun l5 h5 σ5 g5 s5 e5 => k1 l5 h5 σ5 (g3.trans g5) s5 e5
        | exc c4 f4 env4 S4 => rw [eb] at k1; exact fun l5 h5 σ5 d5 g5 s5 e5 => k1 l5 h5 σ5 d5 (g3.trans g5) s5 e5
        | bad => rw [eb] at k1; exact k1
end

/-! ### list comprehensions -/
def wipeE (env : Sl) : List Nat → Sl
  | [] => env
  | v :: vs => (wipeE env vs).set v none
theorem SlR.unset {K : PySem.W.Frag} {loc : List Addr} {H : Hp} {env : Sl} {σ : St} (h : SlR K loc H env σ) (i : Nat) : SlR K loc H (env.set i none) (σ.set i none) := by
  refine ⟨by simp [h.1], fun j q e => ?_⟩
  by_cases hj : i = j
  · subst hj
    by_cases hi : i < env.length
    · rw [List.getElem?_set_self hi] at e; cases e
    · rw [List.getElem?_eq_none (by simpa using hi)] at e; cases e
  · rw [List.getElem?_set_ne hj] at e
    rw [List.getElem?_set_ne hj]
    exact h.2 j q e
theorem SlR.wipe {K : PySem.W.Frag} {loc : List Addr} {H : Hp} {env : Sl} {σ : St} (h : SlR K loc H env σ) : ∀ vs : List Nat, SlR K loc H (wipeE env vs) (L2.wipe σ vs)
  | [] => h
  | v :: vs => (SlR.wipe h vs).unset v
theorem wipe_congr : ∀ {vs : List Nat} {a b : St}, a.length = b.length → (∀ i, i ∉ vs → a[i]? = b[i]?) → L2.wipe a vs = L2.wipe b vs := by
  intro vs
  have key : ∀ (vs : List Nat) (a : St) (i : Nat), (L2.wipe a vs)[i]? = if i ∈ vs then (if i < a.length then some none else none) else a[i]? := by
    intro vs
    induction vs with
    | nil => intro a i; simp [L2.wipe]
    | cons v vs ih =>
      intro a i
      unfold L2.wipe
      rw [List.getElem?_set, ih, wipe_length]
      by_cases h1 : v = i
      · subst h1
        simp
      · have h2 : ¬ i = v := fun z => h1 z.symm
        simp [h1, h2]
  intro a b hl h
  refine List.ext_getElem? fun i => ?_
  rw [key, key, hl]
  by_cases hi : i ∈ vs
  · rw [if_pos hi, if_pos hi]
  · rw [if_neg hi, if_neg hi, h i hi]
def lcGo (nx : Nat → Hs → Option (Option PV)) (turn : PV → Hs → Res (Option PV)) : Nat → Nat → List PV → Hs → Res (List PV)
  | 0, _, _, _ => .bad
  | f + 1, i, acc, S => match nx i S with
    | none => .bad
    | some none => .ok acc S
    | some (some p) => match turn p S with
      | .ok (some y) S' => lcGo nx turn f (i + 1) (acc ++ [y]) S'
      | .ok none S' => lcGo nx turn f (i + 1) acc S'
      | _ => .bad
def lcTurn (t : GM) (tt : TM) (te : EM) (env : Sl) : PV → Hs → Res (Option PV) := fun p S =>
  (t p env S).bind fun env1 S1 => (tt env1 S1).bind fun b S2 => if b = true then (te env1 S2).bind fun y S3 => .ok (some y) S3 else .ok none S2
def lcM (it : IM) (t : GM) (tt : TM) (te : EM) (vs : List Nat) : EM := fun env S =>
  (it env S).bind fun d S1 => (lcGo (nxt d) (lcTurn t tt te (wipeE env vs)) FUEL 0 [] S1).bind fun ys S2 => newL ys S2
theorem lcGo_len {nx : Nat → Hs → Option (Option PV)} {turn : PV → Hs → Res (Option PV)} : ∀ (f i : Nat) (acc ys : List PV) (S S' : Hs), lcGo nx turn f i acc S = .ok ys S' → acc.length ≤ ys.length
  | 0, _, _, _, _, _, h => by cases h
  | f + 1, i, acc, ys, S, S', h => by
    unfold lcGo at h
    split at h
    · cases h
    · cases h; exact Nat.le_refl _
    · split at h
      · have := lcGo_len f _ _ _ _ _ h
        rw [List.length_append] at this
        simp at this
        omega
      · exact lcGo_len f _ _ _ _ _ h
      · cases h
def DTs (X : Cx) (ifs : List Expr) (m : TM) : Prop := ∀ W, Takes X W → PTs X ifs (tB X.K W m)
def yesM : TM := fun _ S => .ok true S
theorem dts_nil {X : Cx} : DTs X [] yesM := fun W tk => ⟨fun pins s σ H Q I h => pts_nil.run pins s σ H Q I (by
  obtain ⟨loc, S, env, hS, hE, k⟩ := h
  exact k _ _ _ .refl hS rfl)⟩
theorem dts_one {X : Cx} {c : Expr} {m : TM} (h : DT X c m) : DTs X [c] m := fun W tk => pts_one (h W tk)
theorem takes_never {X : Cx} : Takes X (fun _ _ _ _ => False) := fun u s' ⟨_, _, _, _, _, _, _, _, _, _, _, _, _, _, _, _, z⟩ => z.elim
section
variable {X : Cx} {elt tg iter : Expr} {ifs : List Expr} {scope : Scope} {own : List (Str × Nat)} {pos : Pos} {it : IM} {t : GM} {ts : List Nat} {tt : TM} {te : EM}
/-- without A -/
def del (A : Addr) (H : Hp) : Hp := fun b => if b = A then none else H b
theorem del_ne {A b : Addr} {H : Hp} (h : b ≠ A) : del A H b = H b := if_neg h
theorem del_some {A b : Addr} {H : Hp} {u : HO} (h : del A H b = some u) : b ≠ A ∧ H b = some u := by
  unfold del at h
  split at h
  · cases h
  · exact ⟨by assumption, h⟩
theorem sqT_del {K : PySem.W.Frag} {A a : Addr} {H : Hp} {vs : List V} (h : SqT K (del A H) a vs) : SqT K H a vs := by
  rcases h with (h | ⟨o, h⟩) | h
  · exact .inl (.inl (del_some h).2)
  · exact .inl (.inr ⟨o, (del_some h).2⟩)
  · exact .inr h
theorem sqT_undel {K : PySem.W.Frag} {A a : Addr} {H : Hp} {vs : List V} (m : Mut (H A)) (h : SqT K H a vs) : SqT K (del A H) a vs := by
  rcases h with (h | ⟨o, h⟩) | h
  · exact .inl (.inl ((del_ne fun z => by rw [z] at h; rw [h] at m; exact m).trans h))
  · exact .inl (.inr ⟨o, (del_ne fun z => by rw [z] at h; rw [h] at m; exact m).trans h⟩)
  · exact .inr h
theorem frz_del {K : PySem.W.Frag} {A a : Addr} {H : Hp} {vs : List V} (h : FrzL K (del A H) a vs) : FrzL K H a vs := by
  rcases h with ⟨o, h⟩ | h
  · exact .inl ⟨o, (del_some h).2⟩
  · exact .inr h
theorem frz_undel {K : PySem.W.Frag} {A a : Addr} {H : Hp} {vs : List V} (m : Mut (H A)) (h : FrzL K H a vs) : FrzL K (del A H) a vs := by
  rcases h with ⟨o, h⟩ | h
  · exact .inl ⟨o, (del_ne fun z => by rw [z] at h; rw [h] at m; exact m).trans h⟩
  · exact .inr h
theorem Grow.undel {K : PySem.W.Frag} {loc loc' : List Addr} {H H' : Hp} {A : Addr} (n : H A = none) (g : Grow K loc H loc' (del A H')) : Grow K loc H loc' H' :=
  ⟨⟨g.pre, fun a vs h => sqT_del (g.tup a vs h), fun a vs h => frz_del (g.frz a vs h)⟩, fun a u e na => (del_some (g.fra a u e na)).2, g.new⟩
theorem Grow.dels {K : PySem.W.Frag} {loc loc' : List Addr} {H H' : Hp} {A : Addr} (m' : Mut (H' A)) (g : Grow K loc H loc' H') : Grow K loc (del A H) loc' (del A H') :=
  ⟨⟨g.pre, fun a vs h => sqT_undel m' (g.tup a vs (sqT_del h)), fun a vs h => frz_undel m' (g.frz a vs (frz_del h))⟩, fun a u e na => by
    obtain ⟨n1, e1⟩ := del_some e
    rw [del_ne n1]
    exact g.fra a u e1 na, fun a h => by
    rcases g.new a h with q | q
    · exact .inl q
    · right
      unfold del
      split
      · rfl
      · exact q⟩
theorem del_upd {A : Addr} {H : Hp} {u : HO} : del A (upd H A u) = del A H := by
  funext b
  unfold del upd
  by_cases h : b = A
  · rw [if_pos h, if_pos h]
  · rw [if_neg h, if_neg h, if_neg h]
theorem upd_self {A : Addr} {H : Hp} {u : HO} (h : H A = some u) : upd H A u = H := by
  funext b
  unfold upd
  by_cases e : b = A
  · rw [if_pos e, e, h]
  · rw [if_neg e]
/-- the list made apart becomes an object -/
theorem StR.adopt' {K : PySem.W.Frag} {loc : List Addr} {S : Hs} {H : Hp} {A : Addr} {vs : List V} {acc : List PV} (h : StR K loc S H) (e : H A = some (.lst vs)) (nl : A ∉ loc) (r : Reps K loc H acc vs) : StR K (loc ++ [A]) (S ++ [.lst acc]) H := by
  have up : Up K loc H (loc ++ [A]) (upd H A (.lst vs)) := up_write (by rw [e]; trivial) fun i a e => by rw [List.getElem?_append_left (List.getElem?_eq_some_iff.mp e).1]; exact e
  have q := h.adopt (u := .lst vs) (o := .lst acc) e trivial nl ⟨vs, upd_same, r.upU up⟩
  rw [upd_self e] at q
  exact q
theorem Grow.adopt' {K : PySem.W.Frag} {loc loc' : List Addr} {H H' : Hp} {A : Addr} (n : H A = none) (g : Grow K loc H loc' (del A H')) : Grow K loc H (loc' ++ [A]) H' := by
  have g2 := g.undel n
  refine ⟨⟨fun i a e => ?_, g2.tup, g2.frz⟩, g2.fra, fun a h => ?_⟩
  · have q := g2.pre i a e
    rw [List.getElem?_append_left (List.getElem?_eq_some_iff.mp q).1]; exact q
  · rcases List.mem_append.mp h with h | h
    · exact g2.new a h
    · have e : a = A := by simpa using h
      subst e
      exact .inr n
/-- what the rule for a comprehension asks, from the function -/
theorem lc_tM {W : WX} (tsv : ∀ i ∈ ts, i ∈ own.map (·.2)) {σ : St} {H : Hp} {Q : VK} (q : tM X.K W (lcM it t tt te (own.map (·.2))) σ H Q) :
    tLc (tI X.K W it) (tGt X.K t ts) (tB X.K (fun _ _ _ _ => False) tt) (tM X.K (fun _ _ _ _ => False) te) (own.map (·.2)) σ H Q := by
  have q1 : tI X.K W it σ H fun J H1 => ∃ loc S env d, StR X.K loc S H1 ∧ SlR X.K loc H1 env σ ∧ ItR X.K loc H1 J d ∧ Post X.K W σ Q loc H1 ((lcGo (nxt d) (lcTurn t tt te (wipeE env (own.map (·.2)))) FUEL 0 [] S).bind fun ys S2 => newL ys S2) := by
    obtain ⟨loc, S, env, hS, hE, k⟩ := q
    refine ⟨loc, S, env, hS, hE, ?_⟩
    unfold lcM at k
    cases e : it env S with
    | bad => rw [e] at k; exact k
    | exc c fs S1 => rw [e] at k; exact k
    | ok d S1 => rw [e] at k; exact fun l2 h2 J g2 s2 r2 => ⟨l2, S1, env, d, s2, hE.up g2, r2, PostR.up g2 k⟩
  refine tG.imp (fun J H1 k => ?_) q1
  obtain ⟨loc, S, env, d, hS, hE, hJ, k⟩ := k
  intro A nA
  have nl : A ∉ loc := fun hm => by
    obtain ⟨i, hi⟩ := List.getElem?_of_mem hm
    obtain ⟨_, v, _, e3, _⟩ := hS.live hi
    exact ne_of_none e3 nA rfl
  have g0 : Grow X.K loc H1 loc (del A (upd H1 A (.lst []))) := by
    rw [del_upd, show del A H1 = H1 from by
      funext b
      unfold del
      split
      · rename_i e; rw [e, nA]
      · rfl]
    exact .refl
  -- the list at A holds what was made; the state does not know it yet
  refine ⟨fun i m H' => ∃ loc' S' acc vs, Grow X.K loc H1 loc' (del A H') ∧ StR X.K loc' S' H' ∧ A ∉ loc' ∧ H' A = some (.lst vs) ∧ Reps X.K loc' H' acc vs ∧
      Post X.K W σ Q loc H1 ((lcGo (nxt d) (lcTurn t tt te (wipeE env (own.map (·.2)))) m i acc S').bind fun ys S2 => newL ys S2), ⟨FUEL, loc, S, [], [], g0, hS.lay nA, nl, upd_same, .nil, k⟩, ?_⟩
  rintro i m H2 ⟨l1, S1, acc, vs, g1, s1, n1, ha, ra, k1⟩
  cases m with
  | zero => exact k1.elim
  | succ m =>
    have g1' := g1.undel nA
    obtain ⟨j1, j2⟩ := hJ l1 H2 S1 i g1'.toUp s1
    unfold lcGo at k1
    cases en : nxt d i S1 with
    | none => rw [en] at k1; exact k1.elim
    | some o =>
      cases o with
      | none =>
        rw [en] at k1
        refine .inl ⟨j1 en, ?_⟩
        have k2 : Post X.K W σ Q loc H1 (newL acc S1) := k1
        unfold newL at k2
        split at k2
        · exact k2 _ _ _ (g1.adopt' nA) (s1.adopt' ha n1 ra) (.ref (s1.last A))
        · exact k2.elim
      | some p =>
        rw [en] at k1
        obtain ⟨jg, jy⟩ := j2 p en
        refine .inr ⟨jg, fun H' => ∃ loc' S' acc vs, Grow X.K loc H1 loc' (del A H') ∧ StR X.K loc' S' H' ∧ A ∉ loc' ∧ H' A = some (.lst vs) ∧ Reps X.K loc' H' acc vs ∧
          Post X.K W σ Q loc H1 ((lcGo (nxt d) (lcTurn t tt te (wipeE env (own.map (·.2)))) m (i + 1) acc S').bind fun ys S2 => newL ys S2), fun H' h => ⟨m, Nat.lt_succ_self m, h⟩, fun x H' y => ?_⟩
        obtain ⟨gy, sy, ry⟩ := jy x H' y
        refine ⟨l1, S1, wipeE env (own.map (·.2)), p, sy, ((hE.up g1').up gy).wipe _, ry, ?_⟩
        dsimp only [lcTurn] at k1
        cases et : t p (wipeE env (own.map (·.2))) S1 with
        | bad => rw [et] at k1; exact k1
        | exc _ _ _ => rw [et] at k1; exact k1
        | ok env3 S3 =>
          rw [et] at k1
          intro l3 h3 σ3 g3 s3 e3 t3
          have w3 : L2.wipe σ3 (own.map (·.2)) = L2.wipe σ (own.map (·.2)) := by
            refine wipe_congr (t3.1.trans (wipe_length _ _)) fun j hj => ?_
            rw [t3.2 j fun z => hj (tsv j z), wipe_out hj]
          refine ⟨w3, l3, S3, env3, s3, e3, ?_⟩
          have gg : Grow X.K l1 H2 l3 h3 := gy.trans g3
          rw [Res.bind_ok] at k1
          cases eb : tt env3 S3 with
          | bad => rw [eb] at k1; exact k1
          | exc _ _ _ => rw [eb] at k1; exact k1.elim
          | ok b S4 =>
            rw [eb, Res.bind_ok] at k1
            intro l4 h4 b' g4 s4 e4
            have e4 : b = b' := e4
            subst e4
            have gg4 := gg.trans g4
            cases b with
            | false =>
              have a4 : h4 A = some (.lst vs) := gg4.fra A _ ha n1
              exact ⟨l4, S4, acc, vs, g1.trans (gg4.dels (by rw [a4]; trivial)), s4, gg4.out ha n1, a4, ra.up gg4, k1⟩
            | true =>
              refine ⟨l4, S4, env3, s4, e3.up g4, ?_⟩
              rw [if_pos rfl] at k1
              cases ee : te env3 S4 with
              | bad => rw [ee] at k1; exact k1
              | exc _ _ _ => rw [ee] at k1; exact k1.elim
              | ok y S5 =>
                rw [ee, Res.bind_ok] at k1
                intro l5 h5 z g5 s5 r5
                have gg5 := gg4.trans g5
                have a5 : h5 A = some (.lst vs) := gg5.fra A _ ha n1
                have n5 := gg5.out ha n1
                have r5' : Reps X.K l5 h5 (acc ++ [y]) (vs ++ [z]) := (ra.up gg5).append (.cons r5 .nil)
                have up5 : Up X.K l5 h5 l5 (upd h5 A (.lst (vs ++ [z]))) := up_write (by rw [a5]; trivial) fun _ _ h => h
                have hz : vs.length < sizeLine := by
                  rw [← ra.length]
                  have k2 : Post X.K W σ Q loc H1 ((lcGo (nxt d) (lcTurn t tt te (wipeE env (own.map (·.2)))) m (i + 1) (acc ++ [y]) S5).bind fun ys S2 => newL ys S2) := k1
                  cases el : lcGo (nxt d) (lcTurn t tt te (wipeE env (own.map (·.2)))) m (i + 1) (acc ++ [y]) S5 with
                  | bad => rw [el] at k2; exact k2.elim
                  | exc c fs S6 => 
                    exfalso
                    have noexc : ∀ (f i : Nat) (acc : List PV) (S : Hs), lcGo (nxt d) (lcTurn t tt te (wipeE env (own.map (·.2)))) f i acc S ≠ .exc c fs S6 := by
                      intro f
                      induction f with
                      | zero => intro i acc S h; cases h
                      | succ f ih =>
                        intro i acc S h
                        unfold lcGo at h
                        split at h
                        · cases h
                        · cases h
                        · split at h
                          · exact ih _ _ _ h
                          · exact ih _ _ _ h
                          · cases h
                    exact noexc _ _ _ _ el
                  | ok ys S6 =>
                    rw [el, Res.bind_ok] at k2
                    have hl := lcGo_len _ _ _ _ _ _ el
                    rw [List.length_append] at hl
                    unfold newL at k2
                    split at k2
                    · rename_i hq
                      have hl2 : acc.length + 1 ≤ ys.length := by simpa using hl
                      omega
                    · exact k2.elim
                refine ⟨vs, a5, hz, l5, S5, acc ++ [y], vs ++ [z], ?_, ⟨s5.len, s5.nd, fun j o b e1 e2 => (s5.obj j o b e1 e2).keepU up5 (upd_ne fun zz => n5 (by rw [← zz]; exact List.mem_of_getElem? e2))⟩, n5, upd_same, r5'.upU up5, k1⟩
                rw [del_upd]
                exact g1.trans (gg5.dels (by rw [a5]; trivial))
theorem de_lc (hc : X.calm = true) (hN : X.N.Nodup) (hi : DI X tg iter it) (ok : BlkOk X.N X.env.scope scope own) (tsv : ∀ i ∈ ts, i ∈ own.map (·.2))
    (hg : ∀ (s : Shared) (H : Hp) (C : Addr) (cl : List (Str × Addr)) (fp : List Addr), DG (X.blk s H scope (compEnvC scope cl C X.env) fp) tg t ts) (ht : ∀ (s : Shared) (H : Hp) (C : Addr) (cl : List (Str × Addr)) (fp : List Addr), DTs (X.blk s H scope (compEnvC scope cl C X.env) fp) ifs tt)
    (he : ∀ (s : Shared) (H : Hp) (C : Addr) (cl : List (Str × Addr)) (fp : List Addr), DE (X.blk s H scope (compEnvC scope cl C X.env) fp) elt te) (hs : ∀ x, foldedSetIterable iter X.env x = pure x) :
    DE X (.ListComp elt [⟨tg, iter, ifs, 0⟩] scope pos) (lcM it t tt te (own.map (·.2))) := fun W tk =>
  (pe_lc (g := tGt X.K t ts) (tt := tB X.K (fun _ _ _ _ => False) tt) (te := tM X.K (fun _ _ _ _ => False) te) hc hN (hi W tk) ok (fun s H C cl fp => hg s H C cl fp) (fun s H C cl fp => ht s H C cl fp _ takes_never) (fun s H C cl fp => he s H C cl fp _ takes_never) hs).imp fun σ H Q q => lc_tM tsv q
theorem ds_setLc {i : Nat} {y : Str} {py spos : Pos} (hc : X.calm = true) (hN : X.N.Nodup) (hy : X.N[i]? = some y) (hyl : X.env.scope.names.lookup y = some .local) (hsw : swapsWith (.ListComp elt [⟨tg, iter, ifs, 0⟩] scope pos) (some (.Name y py)) spos.line X.env = pure true)
    (hi : DI X tg iter it) (ok : BlkOk X.N X.env.scope scope own) (tsv : ∀ i ∈ ts, i ∈ own.map (·.2))
    (hg : ∀ (s : Shared) (H : Hp) (C : Addr) (cl : List (Str × Addr)) (fp : List Addr), DG (X.blk s H scope (compEnvC scope cl C X.env) fp) tg t ts) (ht : ∀ (s : Shared) (H : Hp) (C : Addr) (cl : List (Str × Addr)) (fp : List Addr), DTs (X.blk s H scope (compEnvC scope cl C X.env) fp) ifs tt)
    (he : ∀ (s : Shared) (H : Hp) (C : Addr) (cl : List (Str × Addr)) (fp : List Addr), DE (X.blk s H scope (compEnvC scope cl C X.env) fp) elt te) (hs : ∀ x, foldedSetIterable iter X.env x = pure x) :
    DS X (.Assign [.Name y py] (.ListComp elt [⟨tg, iter, ifs, 0⟩] scope pos) spos) (asgS (lcM it t tt te (own.map (·.2))) (setG i)) := fun W tk =>
  (ps_setLc (g := tGt X.K t ts) (tt := tB X.K (fun _ _ _ _ => False) tt) (te := tM X.K (fun _ _ _ _ => False) te) hc hN hy hyl hsw (hi W tk) ok (fun s H C cl fp => hg s H C cl fp) (fun s H C cl fp => ht s H C cl fp _ takes_never) (fun s H C cl fp => he s H C cl fp _ takes_never) hs).imp fun D σ H q => by
    refine lc_tM (W := W) tsv (tG.imp (fun v H1 k => ?_) (tS.asg (ts := [i]) q))
    obtain ⟨loc, S, env, p, hS, hE, r, k⟩ := k
    exact k _ _ _ .refl hS (hE.set i r) ⟨by simp, fun j hj => List.getElem?_set_ne fun z => hj (by simp [z])⟩
end
end D

/-! D8: list comprehensions with two clauses. -/
namespace D
open PySem PySem.Spec PyProof.Rows L2

def lc2Go (nx : Nat → Hs → Option (Option PV)) (turn : PV → List PV → Hs → Res (List PV)) : Nat → Nat → List PV → Hs → Res (List PV)
  | 0, _, _, _ => .bad
  | f + 1, i, acc, S => match nx i S with
    | none => .bad
    | some none => .ok acc S
    | some (some p) => match turn p acc S with
      | .ok acc' S' => lc2Go nx turn f (i + 1) acc' S'
      | _ => .bad
def lc2Turn (t : GM) (tt : TM) (it1 : IM) (t1 : GM) (tt1 : TM) (te : EM) (vs1 : List Nat) (env : Sl) : PV → List PV → Hs → Res (List PV) := fun p acc S =>
  (t p env S).bind fun env1 S1 => (tt env1 S1).bind fun b S2 => if b = true then (it1 env1 S2).bind fun d1 S3 => lcGo (nxt d1) (lcTurn t1 tt1 te (wipeE env1 vs1)) FUEL 0 acc S3 else .ok acc S2
def lc2M (it : IM) (t : GM) (tt : TM) (it1 : IM) (t1 : GM) (tt1 : TM) (te : EM) (vs vs1 : List Nat) : EM := fun env S =>
  (it env S).bind fun d S1 => (lc2Go (nxt d) (lc2Turn t tt it1 t1 tt1 te vs1 (wipeE env vs)) FUEL 0 [] S1).bind fun ys S2 => newL ys S2
theorem lcGo_noexc {nx : Nat → Hs → Option (Option PV)} {turn : PV → Hs → Res (Option PV)} {c : Value} {fs : List (Str × PV)} {S6 : Hs} : ∀ (f i : Nat) (acc : List PV) (S : Hs), lcGo nx turn f i acc S ≠ .exc c fs S6
  | 0, _, _, _, h => by cases h
  | f + 1, i, acc, S, h => by
    unfold lcGo at h
    split at h
    · cases h
    · cases h
    · split at h
      · exact lcGo_noexc f _ _ _ h
      · exact lcGo_noexc f _ _ _ h
      · cases h
theorem lc2Go_noexc {nx : Nat → Hs → Option (Option PV)} {turn : PV → List PV → Hs → Res (List PV)} {c : Value} {fs : List (Str × PV)} {S6 : Hs} : ∀ (f i : Nat) (acc : List PV) (S : Hs), lc2Go nx turn f i acc S ≠ .exc c fs S6
  | 0, _, _, _, h => by cases h
  | f + 1, i, acc, S, h => by
    unfold lc2Go at h
    split at h
    · cases h
    · cases h
    · split at h
      · exact lc2Go_noexc f _ _ _ h
      · cases h
theorem lc2Go_len {nx : Nat → Hs → Option (Option PV)} {turn : PV → List PV → Hs → Res (List PV)} (ht : ∀ p acc S ys S', turn p acc S = .ok ys S' → acc.length ≤ ys.length) : ∀ (f i : Nat) (acc ys : List PV) (S S' : Hs), lc2Go nx turn f i acc S = .ok ys S' → acc.length ≤ ys.length
  | 0, _, _, _, _, _, h => by cases h
  | f + 1, i, acc, ys, S, S', h => by
    unfold lc2Go at h
    split at h
    · cases h
    · cases h; exact Nat.le_refl _
    · split at h
      · rename_i e
        exact Nat.le_trans (ht _ _ _ _ _ e) (lc2Go_len ht f _ _ _ _ _ h)
      · cases h
theorem lc2Turn_len {t : GM} {tt : TM} {it1 : IM} {t1 : GM} {tt1 : TM} {te : EM} {vs1 : List Nat} {env : Sl} (p : PV) (acc : List PV) (S : Hs) (ys : List PV) (S' : Hs) (h : lc2Turn t tt it1 t1 tt1 te vs1 env p acc S = .ok ys S') : acc.length ≤ ys.length := by
  unfold lc2Turn at h
  cases e1 : t p env S with
  | bad => rw [e1] at h; cases h
  | exc _ _ _ => rw [e1] at h; cases h
  | ok env1 S1 =>
    rw [e1, Res.bind_ok] at h
    cases e2 : tt env1 S1 with
    | bad => rw [e2] at h; cases h
    | exc _ _ _ => rw [e2] at h; cases h
    | ok b S2 =>
      rw [e2, Res.bind_ok] at h
      cases b with
      | false => cases h; exact Nat.le_refl _
      | true =>
        rw [if_pos rfl] at h
        cases e3 : it1 env1 S2 with
        | bad => rw [e3] at h; cases h
        | exc _ _ _ => rw [e3] at h; cases h
        | ok d1 S3 =>
          rw [e3, Res.bind_ok] at h
          exact lcGo_len _ _ _ _ _ _ h
section
variable {X : Cx} {elt tg iter tg1 iter1 : Expr} {ifs ifs1 : List Expr} {scope : Scope} {own : List (Str × Nat)} {vs1 : List Nat} {pos : Pos} {it it1 : IM} {t t1 : GM} {ts ts1 : List Nat} {tt tt1 : TM} {te : EM}
theorem lc2_tM {W : WX} (tsv : ∀ i ∈ ts, i ∈ own.map (fun z : Str × Nat => z.2)) (tsv1 : ∀ i ∈ ts1, i ∈ vs1) {σ : St} {H : Hp} {Q : VK} (q : tM X.K W (lc2M it t tt it1 t1 tt1 te (own.map (fun z : Str × Nat => z.2)) vs1) σ H Q) :
    tLc2 (tI X.K W it) (tGt X.K t ts) (tB X.K (fun _ _ _ _ => False) tt) (tI X.K (fun _ _ _ _ => False) it1) (tGt X.K t1 ts1) (tB X.K (fun _ _ _ _ => False) tt1) (tM X.K (fun _ _ _ _ => False) te) (own.map (fun z : Str × Nat => z.2)) vs1 σ H Q := by
  have q1 : tI X.K W it σ H fun J H1 => ∃ loc S env d, StR X.K loc S H1 ∧ SlR X.K loc H1 env σ ∧ ItR X.K loc H1 J d ∧ Post X.K W σ Q loc H1 ((lc2Go (nxt d) (lc2Turn t tt it1 t1 tt1 te vs1 (wipeE env (own.map (fun z : Str × Nat => z.2)))) FUEL 0 [] S).bind fun ys S2 => newL ys S2) := by
    obtain ⟨loc, S, env, hS, hE, k⟩ := q
    refine ⟨loc, S, env, hS, hE, ?_⟩
    unfold lc2M at k
    cases e : it env S with
    | bad => rw [e] at k; exact k
    | exc c fs S1 => rw [e] at k; exact k
    | ok d S1 => rw [e] at k; exact fun l2 h2 J g2 s2 r2 => ⟨l2, S1, env, d, s2, hE.up g2, r2, PostR.up g2 k⟩
  refine tG.imp (fun J H1 k => ?_) q1
  obtain ⟨loc, S, env, d, hS, hE, hJ, k⟩ := k
  intro A nA
  have nl : A ∉ loc := fun hm => by
    obtain ⟨i, hi⟩ := List.getElem?_of_mem hm
    obtain ⟨_, v, _, e3, _⟩ := hS.live hi
    exact ne_of_none e3 nA rfl
  have g0 : Grow X.K loc H1 loc (del A (upd H1 A (.lst []))) := by
    rw [del_upd, show del A H1 = H1 from by
      funext b
      unfold del
      split
      · rename_i e; rw [e, nA]
      · rfl]
    exact .refl
  have room : ∀ {r : Res (List PV)} {acc : List PV} {y : PV}, (∀ ys S', r = .ok ys S' → acc.length + 1 ≤ ys.length) → (∀ c fs S', r ≠ .exc c fs S') → Post X.K W σ Q loc H1 (r.bind fun ys S2 => newL ys S2) → acc.length < sizeLine := fun {r acc y} h1 h2 h3 => by
    cases r with
    | bad => exact h3.elim
    | exc c fs S' => exact absurd rfl (h2 c fs S')
    | ok ys S' =>
      have := h1 ys S' rfl
      have k2 : Post X.K W σ Q loc H1 (newL ys S') := h3
      unfold newL at k2
      split at k2
      · omega
      · exact k2.elim
  refine ⟨fun i m H' => ∃ loc' S' acc vs, Grow X.K loc H1 loc' (del A H') ∧ StR X.K loc' S' H' ∧ A ∉ loc' ∧ H' A = some (.lst vs) ∧ Reps X.K loc' H' acc vs ∧
      Post X.K W σ Q loc H1 ((lc2Go (nxt d) (lc2Turn t tt it1 t1 tt1 te vs1 (wipeE env (own.map (fun z : Str × Nat => z.2)))) m i acc S').bind fun ys S2 => newL ys S2), ⟨FUEL, loc, S, [], [], g0, hS.lay nA, nl, upd_same, .nil, k⟩, ?_⟩
  rintro i m H2 ⟨l1, S1, acc, vs, g1, s1, n1, ha, ra, k1⟩
  cases m with
  | zero => exact k1.elim
  | succ m =>
    have g1' := g1.undel nA
    obtain ⟨j1, j2⟩ := hJ l1 H2 S1 i g1'.toUp s1
    unfold lc2Go at k1
    cases en : nxt d i S1 with
    | none => rw [en] at k1; exact k1.elim
    | some o =>
      cases o with
      | none =>
        rw [en] at k1
        refine .inl ⟨j1 en, ?_⟩
        have k2 : Post X.K W σ Q loc H1 (newL acc S1) := k1
        unfold newL at k2
        split at k2
        · exact k2 _ _ _ (g1.adopt' nA) (s1.adopt' ha n1 ra) (.ref (s1.last A))
        · exact k2.elim
      | some p =>
        rw [en] at k1
        obtain ⟨jg, jy⟩ := j2 p en
        refine .inr ⟨jg, fun H' => ∃ loc' S' acc vs, Grow X.K loc H1 loc' (del A H') ∧ StR X.K loc' S' H' ∧ A ∉ loc' ∧ H' A = some (.lst vs) ∧ Reps X.K loc' H' acc vs ∧
          Post X.K W σ Q loc H1 ((lc2Go (nxt d) (lc2Turn t tt it1 t1 tt1 te vs1 (wipeE env (own.map (fun z : Str × Nat => z.2)))) m (i + 1) acc S').bind fun ys S2 => newL ys S2), fun H' h => ⟨m, Nat.lt_succ_self m, h⟩, fun x H' y => ?_⟩
        obtain ⟨gy, sy, ry⟩ := jy x H' y
        refine ⟨l1, S1, wipeE env (own.map (fun z : Str × Nat => z.2)), p, sy, ((hE.up g1').up gy).wipe _, ry, ?_⟩
        dsimp only [lc2Turn] at k1
        cases et : t p (wipeE env (own.map (fun z : Str × Nat => z.2))) S1 with
        | bad => rw [et] at k1; exact k1
        | exc _ _ _ => rw [et] at k1; exact k1
        | ok env3 S3 =>
          rw [et] at k1
          intro l3 h3 σ3 g3 s3 e3 t3
          have w3 : L2.wipe σ3 (own.map (fun z : Str × Nat => z.2)) = L2.wipe σ (own.map (fun z : Str × Nat => z.2)) := by
            refine wipe_congr (t3.1.trans (wipe_length _ _)) fun j hj => ?_
            rw [t3.2 j fun z => hj (tsv j z), wipe_out hj]
          refine ⟨w3, l3, S3, env3, s3, e3, ?_⟩
          have gg : Grow X.K l1 H2 l3 h3 := gy.trans g3
          rw [Res.bind_ok] at k1
          cases eb : tt env3 S3 with
          | bad => rw [eb] at k1; exact k1
          | exc _ _ _ => rw [eb] at k1; exact k1.elim
          | ok b S4 =>
            rw [eb, Res.bind_ok] at k1
            intro l4 h4 b' g4 s4 e4
            have e4 : b = b' := e4
            subst e4
            have gg4 := gg.trans g4
            cases b with
            | false =>
              have a4 : h4 A = some (.lst vs) := gg4.fra A _ ha n1
              exact ⟨l4, S4, acc, vs, g1.trans (gg4.dels (by rw [a4]; trivial)), s4, gg4.out ha n1, a4, ra.up gg4, k1⟩
            | true =>
              rw [if_pos rfl] at k1
              show tI X.K (fun _ _ _ _ => False) it1 σ3 h4 _
              refine ⟨l4, S4, env3, s4, e3.up g4, ?_⟩
              cases ei : it1 env3 S4 with
              | bad => rw [ei] at k1; exact k1
              | exc _ _ _ => rw [ei] at k1; exact k1.elim
              | ok d1 S5 =>
                rw [ei, Res.bind_ok] at k1
                intro l5 h5 J1 g5 s5 hJ1
                have gg5 := gg4.trans g5
                have a5 : h5 A = some (.lst vs) := gg5.fra A _ ha n1
                have n5 := gg5.out ha n1
                have e5 : SlR X.K l5 h5 env3 σ3 := (e3.up g4).up g5
                -- the inner loop
                refine ⟨fun j f H' => ∃ loc' S' acc vs, Up X.K l5 h5 loc' H' ∧ Grow X.K loc H1 loc' (del A H') ∧ StR X.K loc' S' H' ∧ A ∉ loc' ∧ H' A = some (.lst vs) ∧ Reps X.K loc' H' acc vs ∧
                  Post X.K W σ Q loc H1 ((match lcGo (nxt d1) (lcTurn t1 tt1 te (wipeE env3 vs1)) f j acc S' with
                    | .ok acc' S'' => lc2Go (nxt d) (lc2Turn t tt it1 t1 tt1 te vs1 (wipeE env (own.map (fun z : Str × Nat => z.2)))) m (i + 1) acc' S''
                    | _ => .bad).bind fun ys S2 => newL ys S2), ⟨FUEL, l5, S5, acc, vs, .refl, g1.trans (gg5.dels (by rw [a5]; trivial)), s5, n5, a5, ra.up gg5, k1⟩, ?_⟩
                rintro j f H6 ⟨l6, S6, acc6, vs6, u6, g6, s6, n6, a6, r6, k6⟩
                cases f with
                | zero => exact k6.elim
                | succ f =>
                  obtain ⟨i1, i2⟩ := hJ1 l6 H6 S6 j u6 s6
                  unfold lcGo at k6
                  cases en1 : nxt d1 j S6 with
                  | none => rw [en1] at k6; exact k6.elim
                  | some o1 =>
                    cases o1 with
                    | none =>
                      rw [en1] at k6
                      exact .inl ⟨i1 en1, l6, S6, acc6, vs6, g6, s6, n6, a6, r6, k6⟩
                    | some p1 =>
                      rw [en1] at k6
                      obtain ⟨ig, iy⟩ := i2 p1 en1
                      refine .inr ⟨ig, fun H' => ∃ loc' S' acc vs, Up X.K l5 h5 loc' H' ∧ Grow X.K loc H1 loc' (del A H') ∧ StR X.K loc' S' H' ∧ A ∉ loc' ∧ H' A = some (.lst vs) ∧ Reps X.K loc' H' acc vs ∧
                        Post X.K W σ Q loc H1 ((match lcGo (nxt d1) (lcTurn t1 tt1 te (wipeE env3 vs1)) f (j + 1) acc S' with
                          | .ok acc' S'' => lc2Go (nxt d) (lc2Turn t tt it1 t1 tt1 te vs1 (wipeE env (own.map (fun z : Str × Nat => z.2)))) m (i + 1) acc' S''
                          | _ => .bad).bind fun ys S2 => newL ys S2), fun H' h => ⟨f, Nat.lt_succ_self f, h⟩, fun x1 H7 y1 => ?_⟩
                      obtain ⟨g7, s7, r7⟩ := iy x1 H7 y1
                      have e7 : SlR X.K l6 H7 env3 σ3 := ⟨e5.1, fun ii pp ee => let ⟨v, e1, r⟩ := e5.2 ii pp ee; ⟨v, e1, Rep.upU (u6.trans g7.toUp) _ _ r⟩⟩
                      refine ⟨l6, S6, wipeE env3 vs1, p1, s7, e7.wipe _, r7, ?_⟩
                      dsimp only [lcTurn] at k6
                      cases et1 : t1 p1 (wipeE env3 vs1) S6 with
                      | bad => rw [et1] at k6; exact k6
                      | exc _ _ _ => rw [et1] at k6; exact k6
                      | ok env8 S8 =>
                        rw [et1] at k6
                        intro l8 h8 σ8 g8 s8 e8 t8
                        have w8 : L2.wipe σ8 vs1 = L2.wipe σ3 vs1 := by
                          refine wipe_congr (t8.1.trans (wipe_length _ _)) fun j hj => ?_
                          rw [t8.2 j fun z => hj (tsv1 j z), wipe_out hj]
                        refine ⟨w8, l8, S8, env8, s8, e8, ?_⟩
                        have gg8 : Grow X.K l6 H6 l8 h8 := g7.trans g8
                        rw [Res.bind_ok] at k6
                        cases eb1 : tt1 env8 S8 with
                        | bad => rw [eb1] at k6; exact k6
                        | exc _ _ _ => rw [eb1] at k6; exact k6.elim
                        | ok b1 S9 =>
                          rw [eb1, Res.bind_ok] at k6
                          intro l9 h9 b9 g9 s9 e9
                          have e9 : b1 = b9 := e9
                          subst e9
                          have gg9 := gg8.trans g9
                          cases b1 with
                          | false =>
                            have a9 : h9 A = some (.lst vs6) := gg9.fra A _ a6 n6
                            exact ⟨l9, S9, acc6, vs6, u6.trans gg9.toUp, g6.trans (gg9.dels (by rw [a9]; trivial)), s9, gg9.out a6 n6, a9, r6.up gg9, k6⟩
                          | true =>
                            refine ⟨l9, S9, env8, s9, e8.up g9, ?_⟩
                            rw [if_pos rfl] at k6
                            cases ee : te env8 S9 with
                            | bad => rw [ee] at k6; exact k6
                            | exc _ _ _ => rw [ee] at k6; exact k6.elim
                            | ok y S10 =>
                              rw [ee, Res.bind_ok] at k6
                              intro l10 h10 z g10 s10 r10
                              have gg10 := gg9.trans g10
                              have a10 : h10 A = some (.lst vs6) := gg10.fra A _ a6 n6
                              have n10 := gg10.out a6 n6
                              have r10' : Reps X.K l10 h10 (acc6 ++ [y]) (vs6 ++ [z]) := (r6.up gg10).append (.cons r10 .nil)
                              have up10 : Up X.K l10 h10 l10 (upd h10 A (.lst (vs6 ++ [z]))) := up_write (by rw [a10]; trivial) fun _ _ h => h
                              have hz : vs6.length < sizeLine := by
                                rw [← r6.length]
                                refine room (acc := acc6) (y := y) (fun ys S' e => ?_) (fun c fs S' e => ?_) k6
                                · dsimp only at e
                                  split at e
                                  · rename_i acc' S'' el
                                    have h1 := lcGo_len _ _ _ _ _ _ el
                                    have h2 := lc2Go_len lc2Turn_len _ _ _ _ _ _ e
                                    rw [List.length_append] at h1
                                    have h3 : acc6.length + 1 ≤ acc'.length := by simpa using h1
                                    omega
                                  · cases e
                                · dsimp only at e
                                  split at e
                                  · exact lc2Go_noexc _ _ _ _ e
                                  · cases e
                              refine ⟨vs6, a10, hz, l10, S10, acc6 ++ [y], vs6 ++ [z], (u6.trans gg10.toUp).trans up10, ?_, ⟨s10.len, s10.nd, fun j o b e1 e2 => (s10.obj j o b e1 e2).keepU up10 (upd_ne fun zz => n10 (by rw [← zz]; exact List.mem_of_getElem? e2))⟩, n10, upd_same, r10'.upU up10, k6⟩
                              rw [del_upd]
                              exact g6.trans (gg10.dels (by rw [a10]; trivial))
theorem de_lc2 (hc : X.calm = true) (hN : X.N.Nodup) (hi : DI X tg iter it) (ok : BlkOk X.N X.env.scope scope own) (hv : ∀ i ∈ vs1, i ∈ own.map (fun z : Str × Nat => z.2)) (tsv : ∀ i ∈ ts, i ∈ own.map (fun z : Str × Nat => z.2)) (tsv1 : ∀ i ∈ ts1, i ∈ vs1)
    (hg : ∀ (s : Shared) (H : Hp) (C : Addr) (cl : List (Str × Addr)) (fp : List Addr), DG (X.blk s H scope (compEnvC scope cl C X.env) fp) tg t ts) (ht : ∀ (s : Shared) (H : Hp) (C : Addr) (cl : List (Str × Addr)) (fp : List Addr), DTs (X.blk s H scope (compEnvC scope cl C X.env) fp) ifs tt)
    (hi1 : ∀ (s : Shared) (H : Hp) (C : Addr) (cl : List (Str × Addr)) (fp : List Addr), DI (X.blk s H scope (compEnvC scope cl C X.env) fp) tg1 iter1 it1)
    (hg1 : ∀ (s : Shared) (H : Hp) (C : Addr) (cl : List (Str × Addr)) (fp : List Addr), DG (X.blk s H scope (compEnvC scope cl C X.env) fp) tg1 t1 ts1) (ht1 : ∀ (s : Shared) (H : Hp) (C : Addr) (cl : List (Str × Addr)) (fp : List Addr), DTs (X.blk s H scope (compEnvC scope cl C X.env) fp) ifs1 tt1)
    (he : ∀ (s : Shared) (H : Hp) (C : Addr) (cl : List (Str × Addr)) (fp : List Addr), DE (X.blk s H scope (compEnvC scope cl C X.env) fp) elt te) (hs : ∀ x, foldedSetIterable iter X.env x = pure x) (hs1 : ∀ env x, foldedSetIterable iter1 env x = pure x) :
    DE X (.ListComp elt [⟨tg, iter, ifs, 0⟩, ⟨tg1, iter1, ifs1, 0⟩] scope pos) (lc2M it t tt it1 t1 tt1 te (own.map (fun z : Str × Nat => z.2)) vs1) := fun W tk =>
  (pe_lc2 (g := tGt X.K t ts) (tt := tB X.K (fun _ _ _ _ => False) tt) (wi1 := tI X.K (fun _ _ _ _ => False) it1) (g1 := tGt X.K t1 ts1) (tt1 := tB X.K (fun _ _ _ _ => False) tt1) (te := tM X.K (fun _ _ _ _ => False) te) hc hN (hi W tk) ok hv (fun s H C cl fp => hg s H C cl fp) (fun s H C cl fp => ht s H C cl fp _ takes_never)
    (fun s H C cl fp => hi1 s H C cl fp _ takes_never) (fun s H C cl fp => hg1 s H C cl fp) (fun s H C cl fp => ht1 s H C cl fp _ takes_never) (fun s H C cl fp => he s H C cl fp _ takes_never) hs hs1).imp fun σ H Q q => lc2_tM tsv tsv1 q
theorem ds_setLc2 {i : Nat} {y : Str} {py spos : Pos} (hc : X.calm = true) (hN : X.N.Nodup) (hy : X.N[i]? = some y) (hyl : X.env.scope.names.lookup y = some .local) (hsw : swapsWith (.ListComp elt [⟨tg, iter, ifs, 0⟩, ⟨tg1, iter1, ifs1, 0⟩] scope pos) (some (.Name y py)) spos.line X.env = pure true)
    (hi : DI X tg iter it) (ok : BlkOk X.N X.env.scope scope own) (hv : ∀ i ∈ vs1, i ∈ own.map (fun z : Str × Nat => z.2)) (tsv : ∀ i ∈ ts, i ∈ own.map (fun z : Str × Nat => z.2)) (tsv1 : ∀ i ∈ ts1, i ∈ vs1)
    (hg : ∀ (s : Shared) (H : Hp) (C : Addr) (cl : List (Str × Addr)) (fp : List Addr), DG (X.blk s H scope (compEnvC scope cl C X.env) fp) tg t ts) (ht : ∀ (s : Shared) (H : Hp) (C : Addr) (cl : List (Str × Addr)) (fp : List Addr), DTs (X.blk s H scope (compEnvC scope cl C X.env) fp) ifs tt)
    (hi1 : ∀ (s : Shared) (H : Hp) (C : Addr) (cl : List (Str × Addr)) (fp : List Addr), DI (X.blk s H scope (compEnvC scope cl C X.env) fp) tg1 iter1 it1)
    (hg1 : ∀ (s : Shared) (H : Hp) (C : Addr) (cl : List (Str × Addr)) (fp : List Addr), DG (X.blk s H scope (compEnvC scope cl C X.env) fp) tg1 t1 ts1) (ht1 : ∀ (s : Shared) (H : Hp) (C : Addr) (cl : List (Str × Addr)) (fp : List Addr), DTs (X.blk s H scope (compEnvC scope cl C X.env) fp) ifs1 tt1)
    (he : ∀ (s : Shared) (H : Hp) (C : Addr) (cl : List (Str × Addr)) (fp : List Addr), DE (X.blk s H scope (compEnvC scope cl C X.env) fp) elt te) (hs : ∀ x, foldedSetIterable iter X.env x = pure x) (hs1 : ∀ env x, foldedSetIterable iter1 env x = pure x) :
    DS X (.Assign [.Name y py] (.ListComp elt [⟨tg, iter, ifs, 0⟩, ⟨tg1, iter1, ifs1, 0⟩] scope pos) spos) (asgS (lc2M it t tt it1 t1 tt1 te (own.map (fun z : Str × Nat => z.2)) vs1) (setG i)) := fun W tk =>
  (ps_setLc2 (g := tGt X.K t ts) (tt := tB X.K (fun _ _ _ _ => False) tt) (wi1 := tI X.K (fun _ _ _ _ => False) it1) (g1 := tGt X.K t1 ts1) (tt1 := tB X.K (fun _ _ _ _ => False) tt1) (te := tM X.K (fun _ _ _ _ => False) te) hc hN hy hyl hsw (hi W tk) ok hv (fun s H C cl fp => hg s H C cl fp) (fun s H C cl fp => ht s H C cl fp _ takes_never)
    (fun s H C cl fp => hi1 s H C cl fp _ takes_never) (fun s H C cl fp => hg1 s H C cl fp) (fun s H C cl fp => ht1 s H C cl fp _ takes_never) (fun s H C cl fp => he s H C cl fp _ takes_never) hs hs1).imp fun D σ H q => by
    refine lc2_tM (W := W) tsv tsv1 (tG.imp (fun v H1 k => ?_) (tS.asg (ts := [i]) q))
    obtain ⟨loc, S, env, p, hS, hE, r, k⟩ := k
    exact k _ _ _ .refl hS (hE.set i r) ⟨by simp, fun j hj => List.getElem?_set_ne fun z => hj (by simp [z])⟩
end
end D

/-! D9: defs: what a call of a def means, its body, its call. -/
namespace D
open PySem PySem.Spec PyProof.Rows L2

/-- a place from which a def is called: its name, how many values come by position, the names of those by keyword -/
structure CallT where
  name : Str
  n : Nat
  ks : List Str

abbrev WE (E : XK) : WX := fun c d _ H => E c d H
def CallRun (P : Program) (w : World) (K : PySem.W.Frag) (mg : Str → Option Value) (base : Heap) (k : Nat) (f : Addr) (n : Nat) (ks : List Str) (φ : List PV → Hs → Res PV) : Prop :=
  ∀ (A : Around) (outer : List Env) (s : Shared) (H : Hp) (us ws : List Value) (vs zs : List V) (Q : VK) (E : XK) (loc : List Addr) (S : Hs) (ps qs : List PV),
    Room k A → A.guards = some [] → Env0 P w K mg base A outer s H → Vals vs us → Vals zs ws → us.length = n → ws.length = ks.length → StR K loc S H → Reps K loc H ps vs → Reps K loc H qs zs →
    PostR K (WE E) (RV K) [] Q loc H (φ (ps ++ qs) S) → codeAny (model P w) A (.call (.ref f) ⟨us, ks.zip ws⟩) (CR (CX P w) outer P w H s Q E) s
structure CallOk (P : Program) (w : World) (K : PySem.W.Frag) (mg : Str → Option Value) (base : Heap) (k : Nat) (t : CallT) (φ : List PV → Hs → Res PV) : Prop where
  ex : ∃ f, mg t.name = some (.ref f) ∧ PySem.W.keepIn K (.ref f) = true ∧ CallRun P w K mg base k f t.n t.ks φ

/-! ### a def by its body -/
def startE (n : Nat) (ps : List PV) : Sl := ps.map some ++ List.replicate (n - ps.length) none
theorem startE_rel {K : PySem.W.Frag} {loc : List Addr} {H : Hp} {N : List Str} : ∀ {ps : List PV} {vs : List V}, Reps K loc H ps vs → SlR K loc H (startE N.length ps) (L2.start N vs) := by
  intro ps vs r
  have hl := r.length
  unfold startE L2.start
  refine ⟨by simp [hl], fun i p e => ?_⟩
  by_cases hi : i < ps.length
  · rw [List.getElem?_append_left (by simpa using hi), List.getElem?_map] at e
    cases q : ps[i]? with
    | none => rw [q] at e; cases e
    | some p' =>
      rw [q] at e
      cases e
      obtain ⟨v, e1, r1⟩ := r.get q
      refine ⟨v, ?_, r1⟩
      rw [List.getElem?_append_left (by simpa [← hl] using hi), List.getElem?_map, e1]
      rfl
  · rw [List.getElem?_append_right (by simpa using hi), List.getElem?_replicate] at e
    split at e <;> cases e
def bodyM (n : Nat) (mb : SM) : List PV → Hs → Res PV := fun ps S => match mb (startE n ps) S with
  | .nx _ S' => .ok .non S'
  | .rt p S' => .ok p S'
  | .exc c fs _ S' => .exc c fs S'
  | _ => .bad
/-- where a parameter's value comes from -/
def pick {α : Type} (idx : List Nat) (xs : List α) : List α := idx.filterMap fun j => xs[j]?
theorem pick_vals {idx : List Nat} {xs : List V} {us : List Value} (r : Vals xs us) : Vals (pick idx xs) (pick idx us) := by
  unfold pick
  induction idx with
  | nil => exact .nil
  | cons j idx ih =>
    rw [List.filterMap_cons, List.filterMap_cons]
    cases e : xs[j]? with
    | none => rw [r.none_of e]; exact ih
    | some x =>
      obtain ⟨u, e1, r1⟩ := r.get e
      rw [e1]
      exact .cons r1 ih
theorem pick_reps {K : PySem.W.Frag} {loc : List Addr} {H : Hp} {idx : List Nat} {ps : List PV} {vs : List V} (r : Reps K loc H ps vs) : Reps K loc H (pick idx ps) (pick idx vs) := by
  unfold pick
  induction idx with
  | nil => exact .nil
  | cons j idx ih =>
    rw [List.filterMap_cons, List.filterMap_cons]
    cases e : ps[j]? with
    | none =>
      have e1 : vs[j]? = none := List.getElem?_eq_none_iff.mpr (by rw [← r.length]; exact List.getElem?_eq_none_iff.mp e)
      rw [e1]; exact ih
    | some x =>
      obtain ⟨u, e1, r1⟩ := r.get e
      rw [e1]
      exact .cons r1 ih
/-- how the given values come to the parameters ps: idx among those by position, those by keyword, the defaults -/
def ShOk (K : PySem.W.Frag) (fd : FuncData) (ps : List Str) (n : Nat) (ks : List Str) (idx : List Nat) (ds : List Value) : Prop :=
  ∀ (s : Shared) (us ws : List Value), K.In s.heap → us.length = n → ws.length = ks.length → BindsTo s fd ⟨us, ks.zip ws⟩ (ps.zip (pick idx (us ++ ws ++ ds)))
section
variable {P : Program} {w : World} {K : PySem.W.Frag} {mg : Str → Option Value} {base : Heap}
theorem fn_run {k : Nat} {f : Addr} {name qual : Str} {params : Arguments} {body : List Stmt} {scope : Scope} {dV kV doc pm cdv ct oc : Value} {an od : Option Addr} {osl : Array (Option Value)} {N ps : List Str} {mb : SM} {n : Nat} {ks : List Str} {idx : List Nat} {ds : List Value} {dvs : List V} {dps : List PV}
    (lk : K.lookup f = some ⟨oc, od, .func (PySem.W.fnOf name qual params body scope dV kV doc pm an cdv ct), osl⟩) (hcd : PySem.W.codeIn K cdv qual = true) (hs : FnScope N ps scope)
    (sh : ShOk K (PySem.W.fnOf name qual params body scope dV kV doc pm an cdv ct) ps n ks idx ds) (hd : Vals dvs ds) (hdp : ∀ loc H, Reps K loc H dps dvs) (hidx : idx.length = ps.length) (hin : ∀ j ∈ idx, j < n + ks.length + ds.length)
    (hb : ∀ (A : Around) (outer : List Env) (s : Shared) (H : Hp) (E : XK), Room k (A.deeper (envOfC qual scope s.heap.objs.size f cdv)) → A.guards = some [] → DSs (cxOf (CX P w) P w K mg base N qual scope f cdv A outer s H E) body mb) :
    CallRun P w K mg base (k + 1) f n ks fun args S => bodyM N.length mb (pick idx (args ++ dps)) S := by
  intro A outer s H us ws vs zs Q E loc S pvs qvs hr hg e0 rv rz hn hk hS rp rq post
  have KX : K.In s.heap := e0.mod.kin.keeps fun b o e => (e0.bs b o e).1
  have lim : s.heap.NoLimit := e0.mod.nolimit.keeps fun b o e => (e0.bs b o e).1
  have bnd := sh s us ws KX hn hk
  have vals : Vals (pick idx (vs ++ zs ++ dvs)) (pick idx (us ++ ws ++ ds)) := pick_vals ((rv.append rz).append hd)
  have reps : Reps K loc H (pick idx (pvs ++ qvs ++ dps)) (pick idx (vs ++ zs ++ dvs)) := pick_reps ((rp.append rq).append (hdp loc H))
  have tot : (us ++ ws ++ ds).length = n + ks.length + ds.length := by rw [List.length_append, List.length_append, hn, hk]
  have pl : ∀ (ix : List Nat), (∀ j ∈ ix, j < n + ks.length + ds.length) → (pick ix (us ++ ws ++ ds)).length = ix.length := by
    intro ix
    induction ix with
    | nil => intro _; rfl
    | cons j ix ih =>
      intro h
      have hj : j < (us ++ ws ++ ds).length := by rw [tot]; exact h j List.mem_cons_self
      unfold pick at ih ⊢
      rw [List.filterMap_cons, List.getElem?_eq_getElem hj]
      show (_ :: _ : List Value).length = _
      rw [List.length_cons, List.length_cons, ih fun i hi => h i (List.mem_cons_of_mem _ hi)]
  have len : (pick idx (vs ++ zs ++ dvs)).length = ps.length := by rw [vals.length, pl idx hin, hidx]
  have kinds : ∀ y ∈ ps.zip (pick idx (us ++ ws ++ ds)), scope.names.lookup y.1 = some .local ∨ (scope.names.lookup y.1 = some .cell ∧ ((cellsFrom (s.heap.objs.size + 1) scope.names []).lookup y.1).isSome = true) := by
    rintro ⟨x, v⟩ hy
    rcases hs.par x (List.of_mem_zip hy).1 with q | q
    · exact .inl q
    · exact .inr ⟨q, PySem.W.cellsFrom_some _ _ _ (.inl q)⟩
  refine codeAny_call_function hr.depth (KX _ _ lk) rfl hs.co hs.gen rfl (PySem.W.codeRec_of KX hcd) (bnd _ _ _ _ ?_)
  refine wpAny_newFunctionEnv_cells hs.kind kinds ?_
  intro env he s1 x
  subst he
  refine ⟨lim.keeps x.toInCall.keep, codeAny_func ?_⟩
  have I : Inv (cxOf (CX P w) P w K mg base N qual scope f cdv A outer s H E) [] (L2.start N (pick idx (vs ++ zs ++ dvs))) H s1 := inv_start hs hr.hd e0 len vals x
  have tk : Takes (cxOf (CX P w) P w K mg base N qual scope f cdv A outer s H E) (WE E) := takes_of rfl rfl rfl rfl
  have go : tS K (WE E) mb { nx := fun _ H' => Q .non H', rt := Q } (L2.start N (pick idx (vs ++ zs ++ dvs))) H := by
    refine ⟨loc, S, startE N.length (pick idx (pvs ++ qvs ++ dps)), hS, startE_rel reps, ?_⟩
    unfold bodyM at post
    dsimp only at post
    cases e : mb (startE N.length (pick idx (pvs ++ qvs ++ dps))) S with
    | nx env' S' => rw [e] at post; exact fun l2 h2 σ2 g2 s2 _ => post l2 h2 .non g2 s2 .non
    | rt p S' => rw [e] at post; exact fun l2 h2 x2 g2 s2 r2 => post l2 h2 x2 g2 s2 r2
    | exc c fs env' S' => rw [e] at post; exact fun l2 h2 σ2 d g2 s2 _ r2 => post l2 h2 d g2 s2 r2
    | bk _ _ => rw [e] at post; exact post.elim
    | ct _ _ => rw [e] at post; exact post.elim
    | bad => rw [e] at post; exact post.elim
  refine wpAny_mono ((hb A outer s H E (hr.deeper _) hg (WE E) tk).run [] s1 _ H _ I go) (fun fl s' hq => ?_) fun e s' hq => hq
  cases fl with
  | ret u =>
    obtain ⟨v, σ', H', J, r', q⟩ := hq
    exact ⟨v, H', J.os, J.bare, J.base, J.hok, r', q⟩
  | next =>
    obtain ⟨σ', H', J, q⟩ := hq
    exact ⟨.non, H', J.os, J.bare, J.base, J.hok, rfl, q⟩
  | brk =>
    obtain ⟨_, _, _, q⟩ := hq
    exact False.elim q
  | cont =>
    obtain ⟨_, _, _, q⟩ := hq
    exact False.elim q
end

/-! ### calls -/
def callF (φ : List PV → Hs → Res PV) (n nk : AM) : EM := bindE n fun ps => bindE nk fun qs _ S => φ (ps ++ qs) S
def DK (X : Cx) (kws : List Keyword) (m : AM) : Prop := ∀ W, Takes X W → PK X kws (tA X.K W m)
theorem _root_.L2.PK.imp {X : Cx} {e : List Keyword} {t t' : TA} (h : PK X e t) (f : ∀ σ H Q, t' σ H Q → t σ H Q) : PK X e t' := ⟨fun pos pins s σ H Q I q => h.run pos pins s σ H Q I (f σ H Q q)⟩
section
variable {X : Cx} {pos p : Pos}
theorem cons_go {m : EM} {n : AM} {W : WX} {σ : St} {H : Hp} {Q : List V → Hp → Prop} (q : tA X.K W (consA m n) σ H Q) : tM X.K W m σ H fun x H1 => tA X.K W n σ H1 fun xs H2 => Q (x :: xs) H2 := by
  obtain ⟨loc, S, env, hS, hE, k⟩ := q
  refine ⟨loc, S, env, hS, hE, ?_⟩
  unfold consA bindE at k
  cases e : m env S with
  | bad => rw [e] at k; exact k
  | exc c fs S1 => rw [e] at k; exact k
  | ok v S1 =>
    rw [e, Res.bind_ok] at k
    dsimp only at k
    intro l1 h1 x g1 s1 r1
    refine ⟨l1, S1, env, s1, hE.up g1, ?_⟩
    cases e2 : n env S1 with
    | bad => rw [e2] at k; exact k
    | exc c fs S2 => rw [e2] at k; exact fun l2 h2 d g2 s2 r2 => k l2 h2 d (g1.trans g2) s2 r2
    | ok vs S2 =>
      rw [e2, Res.bind_ok] at k
      exact fun l2 h2 xs g2 s2 r2 => k l2 h2 (x :: xs) (g1.trans g2) s2 (.cons (Rep.up g2 _ _ r1) r2)
theorem dk_nil : DK X [] nilA := fun W tk => pk_nil.imp fun σ H Q q => by
  obtain ⟨loc, S, env, hS, hE, k⟩ := q
  exact k _ _ _ .refl hS .nil
theorem dk_cons {e : Expr} {kws : List Keyword} {nm : Option Str} {kpos : Pos} {m : EM} {n : AM} (h : DE X e m) (hr : DK X kws n) : DK X (⟨nm, e, kpos⟩ :: kws) (consA m n) := fun W tk =>
  (pk_cons (h W tk) (hr W tk)).imp fun σ H Q q => cons_go q
/-- the callee runs -/
theorem run_call {k : Nat} {f : Addr} {nn : Nat} {ks : List Str} {φ : List PV → Hs → Res PV} {W : WX} (tk : Takes X W) (hr : Room k X.A) (hg : X.A.guards = some []) (F : CallRun X.prog X.w X.K X.mg X.base k f nn ks φ) {pins : List (Addr × Obj)} {s : Shared} {σ : St} {H : Hp} {Q : VK} {us ws : List Value} {vs zs : List V} {loc : List Addr} {S : Hs} {ps qs : List PV}
    (I : Inv X pins σ H s) (rv : Vals vs us) (rz : Vals zs ws) (h1 : us.length = nn) (h2 : ws.length = ks.length) (hS : StR X.K loc S H) (rp : Reps X.K loc H ps vs) (rq : Reps X.K loc H qs zs) (post : Post X.K W σ Q loc H (φ (ps ++ qs) S)) :
    wpAny (model X.prog X.w) X.A (call (.ref f) us (ks.zip ws)) (EP X pins σ Q) X.xe s := by
  refine wpAny_call (codeAny_mono (F X.A X.stack s H us ws vs zs Q (fun c d H' => W c d σ H') loc S ps qs hr hg I.env0 rv rz h1 h2 hS rp rq ?_) fun r s' hq => ?_)
  · cases e : φ (ps ++ qs) S with
    | bad => rw [e] at post; exact post
    | ok v S1 => rw [e] at post; exact post
    | exc c fs S1 => rw [e] at post; exact post
  · cases r with
    | error e => exact tk e s' (XE.of_call I (fun cls d H' h => h) hq)
    | ok fl =>
      cases fl with
      | ret u => exact I.after hq
      | next => exact False.elim hq
      | brk => exact False.elim hq
      | cont => exact False.elim hq
theorem kw_names {env : Env} : ∀ (kws : List Keyword) (ks : List Str), kws.map (·.arg) = ks.map some → (backToKw pos (keywordEach kws env)).all (·.1.isSome) = true ∧ (backToKw pos (keywordEach kws env)).filterMap (·.1) = ks ∧ (backToKw pos (keywordEach kws env)).any (·.1.isNone) = false
  | [], [], _ => ⟨rfl, rfl, rfl⟩
  | [], _ :: _, h => by cases h
  | _ :: _, [], h => by cases h
  | ⟨nm, e, kp⟩ :: kws, k :: ks, h => by
    rw [List.map_cons, List.map_cons] at h
    have h1 : nm = some k := (List.cons.inj h).1
    obtain ⟨i1, i2, i3⟩ := kw_names kws ks (List.cons.inj h).2
    subst h1
    refine ⟨?_, ?_, ?_⟩
    · show (true && (backToKw pos (keywordEach kws env)).all (·.1.isSome)) = true
      rw [i1]; rfl
    · show k :: (backToKw pos (keywordEach kws env)).filterMap (·.1) = k :: ks
      rw [i2]
    · show (false || (backToKw pos (keywordEach kws env)).any (·.1.isNone)) = false
      rw [i3]; rfl
/-- the values of a call, with their numbers -/
theorem call_vals {φ : List PV → Hs → Res PV} {n nk : AM} {W : WX} {σ : St} {H : Hp} {Q : VK} {a b : Nat} (hnl : ∀ env S ps S', n env S = .ok ps S' → ps.length = a) (hkl : ∀ env S ps S', nk env S = .ok ps S' → ps.length = b) (h : tM X.K W (callF φ n nk) σ H Q) :
    tA X.K W n σ H fun xs H1 => xs.length = a ∧ tA X.K W nk σ H1 fun zs H2 => zs.length = b ∧ ∃ loc S ps qs, StR X.K loc S H2 ∧ Reps X.K loc H2 ps xs ∧ Reps X.K loc H2 qs zs ∧ Post X.K W σ Q loc H2 (φ (ps ++ qs) S) := by
  obtain ⟨loc, S, env, hS, hE, q⟩ := h
  refine ⟨loc, S, env, hS, hE, ?_⟩
  unfold callF bindE at q
  cases e : n env S with
  | bad => rw [e] at q; exact q
  | exc c fs S1 => rw [e] at q; exact q
  | ok ps S1 =>
    rw [e, Res.bind_ok] at q
    dsimp only at q
    intro l1 H1 xs g1 s1 r1
    refine ⟨by rw [← r1.length, hnl _ _ _ _ e], l1, S1, env, s1, hE.up g1, ?_⟩
    cases e2 : nk env S1 with
    | bad => rw [e2] at q; exact q
    | exc c fs S2 => rw [e2] at q; exact fun l2 h2 d g2 s2 r2 => q l2 h2 d (g1.trans g2) s2 r2
    | ok qs S2 =>
      rw [e2, Res.bind_ok] at q
      intro l2 H2 zs g2 s2 r2
      exact ⟨by rw [← r2.length, hkl _ _ _ _ e2], l2, S2, ps, qs, s2, r1.up g2, r2, PostR.up (g1.trans g2) q⟩
theorem nilA_go {W : WX} {σ : St} {H : Hp} {Q : List V → Hp → Prop} (h : tA X.K W nilA σ H Q) : Q [] H := by
  obtain ⟨loc, S, env, hS, hE, q⟩ := h
  exact q _ _ _ .refl hS .nil
theorem nilA_len {env : Sl} {S S' : Hs} {ps : List PV} (h : nilA env S = .ok ps S') : ps.length = 0 := by cases h; rfl
theorem consA_len {m : EM} {n : AM} {a : Nat} (hn : ∀ env S ps S', n env S = .ok ps S' → ps.length = a) : ∀ env S ps S', consA m n env S = .ok ps S' → ps.length = a + 1 := fun env S ps S' h => by
  unfold consA bindE at h
  cases e : m env S with
  | bad => rw [e] at h; cases h
  | exc _ _ _ => rw [e] at h; cases h
  | ok v S1 =>
    rw [e, Res.bind_ok] at h
    dsimp only at h
    cases e2 : n env S1 with
    | bad => rw [e2] at h; cases h
    | exc _ _ _ => rw [e2] at h; cases h
    | ok vs S2 =>
      rw [e2, Res.bind_ok] at h
      cases h
      rw [List.length_cons, hn _ _ _ _ e2]
section
variable {k : Nat} {t : CallT} {φ : List PV → Hs → Res PV} {e : Expr} {es : List Expr} {kw : Keyword} {kws : List Keyword} {n nk : AM}
theorem de_call0 (hr : Room k X.A) (hgd : X.A.guards = some []) (C : CallOk X.prog X.w X.K X.mg X.base k t φ) (hg : Gl X t.name) (hdb : (t.name == ("__debug__" : Str)) = false) (hn : t.n = 0) (hks : t.ks = []) : DE X (.Call (.Name t.name p) [] [] pos) (callF φ nilA nilA) := fun W tk => by
  obtain ⟨f, hm, hkp, F⟩ := C.ex
  refine ⟨fun pins s σ H Q I h => ?_⟩
  refine wpAny_Call_Name_kw (ld_glob I hg hm ?_ hdb)
  refine PySem.W.callWith_K0 I.kIn hkp ?_
  obtain ⟨_, q⟩ := nilA_go (call_vals (fun _ _ _ _ => nilA_len) (fun _ _ _ _ => nilA_len) h)
  obtain ⟨_, loc, S, ps, qs, hS, rp, rq, post⟩ := nilA_go q
  have q := run_call (us := []) (ws := []) tk hr hgd F I .nil .nil hn.symm (by rw [hks]; rfl) hS rp rq post
  rw [hks] at q
  exact q
theorem de_callP (hr : Room k X.A) (hgd : X.A.guards = some []) (C : CallOk X.prog X.w X.K X.mg X.base k t φ) (hg : Gl X t.name) (hdb : (t.name == ("__debug__" : Str)) = false) (hs : NoStars (e :: es)) (ha : DA X (e :: es) n) (hnl : ∀ env S ps S', n env S = .ok ps S' → ps.length = t.n) (hks : t.ks = []) :
    DE X (.Call (.Name t.name p) (e :: es) [] pos) (callF φ n nilA) := fun W tk => by
  obtain ⟨f, hm, hkp, F⟩ := C.ex
  refine ⟨fun pins s σ H Q I h => ?_⟩
  refine wpAny_Call_Name_kw (ld_glob I hg hm ?_ hdb)
  refine PySem.W.callWith_K (h₀ := X.base) I.ok.mod.kin hkp (thn ((ha W tk).run pos pins s σ H _ I (call_vals hnl (fun _ _ _ _ => nilA_len) h)) fun us s1 ⟨xs, H1, I1, r1, q1⟩ => ⟨I1.kIn, ?_⟩) (hs e List.mem_cons_self _ _) (any_plain fun x hx => hs x (List.mem_cons_of_mem _ hx))
  obtain ⟨_, loc, S, ps, qs, hS, rp, rq, post⟩ := nilA_go q1.2
  have q := run_call (ws := []) tk hr hgd F I1 r1 .nil (by rw [← r1.length]; exact q1.1) (by rw [hks]; rfl) hS rp rq post
  rw [hks] at q
  exact q
theorem de_callK0 (hr : Room k X.A) (hgd : X.A.guards = some []) (C : CallOk X.prog X.w X.K X.mg X.base k t φ) (hg : Gl X t.name) (hdb : (t.name == ("__debug__" : Str)) = false) (hk : DK X kws nk) (hn : t.n = 0) (hks : kws.map (·.arg) = t.ks.map some) (hkl : ∀ env S ps S', nk env S = .ok ps S' → ps.length = t.ks.length) :
    DE X (.Call (.Name t.name p) [] kws pos) (callF φ nilA nk) := fun W tk => by
  obtain ⟨f, hm, hkp, F⟩ := C.ex
  refine ⟨fun pins s σ H Q I h => ?_⟩
  refine wpAny_Call_Name_kw (ld_glob I hg hm ?_ hdb)
  obtain ⟨kn1, kn2, kn3⟩ := kw_names (pos := pos) (env := X.env) kws t.ks hks
  obtain ⟨_, q0⟩ := nilA_go (call_vals (fun _ _ _ _ => nilA_len) hkl h)
  refine PySem.W.callWith_KW0 (h₀ := X.base) I.ok.mod.kin hkp kn1 (thn ((hk W tk).run pos pins s σ H _ I q0) fun ws s2 ⟨zs, H2, I2, rz, lz, loc, S, ps, qs, hS, rp, rq, post⟩ => ⟨I2.kIn, ?_⟩) (by rw [kn3]; rfl)
  rw [kn2]
  exact run_call (us := []) tk hr hgd F I2 .nil rz hn.symm (by rw [← rz.length]; exact lz) hS rp rq post
theorem de_callK (hr : Room k X.A) (hgd : X.A.guards = some []) (C : CallOk X.prog X.w X.K X.mg X.base k t φ) (hg : Gl X t.name) (hdb : (t.name == ("__debug__" : Str)) = false) (hs : NoStars (e :: es)) (ha : DA X (e :: es) n) (hk : DK X kws nk) (hnl : ∀ env S ps S', n env S = .ok ps S' → ps.length = t.n) (hks : kws.map (·.arg) = t.ks.map some) (hkl : ∀ env S ps S', nk env S = .ok ps S' → ps.length = t.ks.length) :
    DE X (.Call (.Name t.name p) (e :: es) kws pos) (callF φ n nk) := fun W tk => by
  obtain ⟨f, hm, hkp, F⟩ := C.ex
  refine ⟨fun pins s σ H Q I h => ?_⟩
  refine wpAny_Call_Name_kw (ld_glob I hg hm ?_ hdb)
  obtain ⟨kn1, kn2, kn3⟩ := kw_names (pos := pos) (env := X.env) kws t.ks hks
  refine PySem.W.callWith_KW (h₀ := X.base) I.ok.mod.kin hkp kn1 (thn ((ha W tk).run pos pins s σ H _ I (call_vals hnl hkl h)) fun us s1 ⟨xs, H1, I1, r1, q1⟩ => thn ((hk W tk).run pos pins s1 σ H1 _ I1 q1.2) fun ws s2 ⟨zs, H2, I2, rz, lz, loc, S, ps, qs, hS, rp, rq, post⟩ => ⟨I2.kIn, ?_⟩) (by rw [kn3, any_plain hs]; rfl) (hs e List.mem_cons_self _ _)
  rw [kn2]
  exact run_call (us := us) tk hr hgd F I2 r1 rz (by rw [← r1.length]; exact q1.1) (by rw [← rz.length]; exact lz) hS rp rq post
end
end
end D

/-! D10: the law's end; a def by its record; small rules for the printer. -/
namespace D
open PySem PySem.Spec PyProof.Rows L2

theorem reps_ints {K : PySem.W.Frag} {loc : List Addr} {H : Hp} : ∀ ns : List Int, Reps K loc H (ns.map PV.int) (ns.map V.int)
  | [] => .nil
  | n :: ns => .cons (.int n) (reps_ints ns)
theorem onlyFrz {K : PySem.W.Frag} {H : Hp} {a : Addr} {vs : List V} (hO : Only H) (h : SqL K H a vs) : FrzL K H a vs := by
  rcases h with (h | h) | h
  · rcases hO a with z | ⟨o, xs, z⟩
    · rw [h] at z; cases z
    · rw [h] at z; cases z
  · exact .inl h
  · exact .inr h
/-- the law's call, where the promise wants plain guards -/
theorem law_end {P : Program} {w : World} {K : PySem.W.Frag} {mg mb : Str → Option Value} {k : Nat} {f a : Addr} {t : Shared} {us : List Value} {ns : List Int} {φ : List PV → Hs → Res PV} {S' : Hs}
    (KX : K.In t.heap) (hn : t.heap.Ns mainGlobals mg) (hb : t.heap.Ns builtinsNs mb) (hx : ∀ x : Str, x ≠ "__name__" → mb x = bootBuiltins x) (hlim : t.heap.NoLimit) (hg : t.gens = #[])
    (ha : t.heap.get? a = some { cls := .type "list", data := .seq us.toArray }) (hi : IntsAre us ns) (hl : ns.length ≤ sizeLine) (hr : Room k callerA)
    (F : ∀ base : Heap, K.In base → base.Ns mainGlobals mg → CallRun P w K mg base k f 1 [] φ) (hφ : φ [.cl (ns.map PV.int)] [] = .ok (.bl true) S') :
    codeAny (model P w) callerA (.call (.ref f) ⟨[.ref a], []⟩) (fun r t' => r = .ok (.ret (.bool true)) ∧ OldK t.heap t'.heap ∧ t'.os = t.os ∧ AllBare t'.gens) t := by
  have go : ∀ H : Hp, Only H → SqL K H a (ns.map V.int) → HOk P w H t.heap → (∀ b u, H b = some u → b = a ∧ K.lookup a = none) →
      codeAny (model P w) callerA (.call (.ref f) ⟨[.ref a], []⟩) (fun r t' => r = .ok (.ret (.bool true)) ∧ OldK t.heap t'.heap ∧ t'.os = t.os ∧ AllBare t'.gens) t := by
    intro H hO hS hok only
    have free : ∀ {b : Addr}, (H b = none → False) → b = a ∧ K.lookup a = none := fun {b} h => by
      cases q : H b with
      | none => exact (h q).elim
      | some u => exact only b u q
    have dict : ∀ {b : Addr} {m : Str → Option Value}, t.heap.Ns b m → (hidT t.heap H).Ns b m := fun {b m} ⟨o, es, ep, e, d, r⟩ => by
      refine ⟨o, es, ep, hidT_get e ?_, d, r⟩
      refine Decidable.byContradiction fun n => ?_
      obtain ⟨rfl, _⟩ := free n
      rw [ha] at e
      cases e
      cases (show Data.seq us.toArray _ = Data.dict es ep from d)
    have kin : K.In (hidT t.heap H) := fun b o e => hidT_get (KX b o e) (Decidable.byContradiction fun n => by
      obtain ⟨rfl, z⟩ := free n
      rw [z] at e; cases e)
    have md : Mod K mg (hidT t.heap H) := ⟨kin, dict hn, ⟨mb, dict hb, hx⟩, let ⟨mc, h1, h2⟩ := hlim; ⟨mc, dict h1, h2⟩⟩
    have env0 : Env0 P w K mg (hidT t.heap H) callerA [] t H := ⟨rfl, md, fun b o e => of_hidT e, Nat.le_of_eq (hidT_size _ _), trivial, fun b hb => (by cases hb), hok, .of_eq hg⟩
    have post : PostR K (WE fun _ _ _ => False) (RV K) [] (fun v _ => v = .bl true) [] H (φ ([.cl (ns.map PV.int)] ++ []) []) := by
      rw [List.append_nil, hφ]
      intro l2 h2 x _ _ r
      cases r
      rfl
    have run := F _ kin (dict hn) callerA [] t H [.ref a] [] [.ref a] [] (fun v _ => v = .bl true) (fun _ _ _ => False) [] [] [.cl (ns.map PV.int)] [] hr rfl env0 (.cons rfl .nil) .nil rfl rfl ⟨rfl, List.nodup_nil, fun i o b e _ => by cases e⟩ (.cons (.cl (onlyFrz hO hS) (reps_ints ns)) .nil) .nil post
    refine codeAny_mono run fun r t' h => ?_
    cases r with
    | error e =>
      obtain ⟨_, _, _, _, _, _, _, _, _, _, _, _, z⟩ := h
      exact z.elim
    | ok fl =>
      cases fl with
      | ret u =>
        obtain ⟨v, H', os, bare, un, hok', r', q⟩ := h
        cases (show v = .bl true from q)
        cases (show u = Value.bool true from r')
        refine ⟨rfl, OldK.of_keep fun b o e => ?_, os, bare⟩
        cases q : H b with
        | none => exact un.keep b o e q (by intro z; cases z) (by simp)
        | some u =>
          rcases hO b with z | ⟨ob, xs, z⟩
          · rw [q] at z; cases z
          · have e2 := (hok' b _ (un.frzs b ob _ z)).1
            have e1 := (hok b _ z).1
            rw [e] at e1; cases e1
            exact e2
      | _ => exact False.elim h
  have vv := vals_ints hi
  have ll := hi.length
  cases hk : K.lookup a with
  | some o =>
    have e := KX a o hk
    rw [ha] at e
    cases e
    exact go (fun _ => none) (fun _ => .inl rfl) (.inr ⟨_, us.toArray, _, hk, rfl, rfl, rfl, by rw [List.size_toArray, ll]; exact hl, by simpa using vv⟩) (fun b u z => by cases (show (none : Option HO) = some u from z)) fun b u z => by cases (show (none : Option HO) = some u from z)
  | none =>
    refine go (fun b => if b = a then some (.frz { cls := .type "list", data := .seq us.toArray } (.lst (ns.map V.int))) else none) (fun b => ?_) (.inl (.inr ⟨_, if_pos rfl⟩)) (fun b u z => ?_) fun b u z => ?_
    · by_cases hb : b = a
      · exact .inr ⟨_, _, if_pos hb⟩
      · exact .inl (if_neg hb)
    · by_cases hb : b = a
      · cases (if_pos hb).symm.trans z
        subst hb
        exact ⟨ha, by rw [List.length_map]; exact hl, us, _, vv, ha⟩
      · cases (if_neg hb).symm.trans z
    · by_cases hb : b = a
      · exact ⟨hb, hk⟩
      · cases (if_neg hb).symm.trans z
/-- what the head leaves, by the law's own value -/
theorem walk_end {l : PySem.W.OpenLaw} {n k : Nat} {q : Program} {loose : List Str} {XP : (Str → Option Value) → Heap → Prop} {YP : World → Heap → Prop} {d : DefRec} (φ : List PV → Hs → Res PV)
    (hn : l.most = some n) (hn2 : n ≤ sizeLine) (hdf : d.params.defaults = []) (hr : Room k callerA)
    (F : ∀ (w : World) (mg : Str → Option Value) (f : Addr) (h : Heap), YP w h → h.Ns mainGlobals mg → mg d.name = some (.ref f) →
      ∃ K : PySem.W.Frag, K.In h ∧ ∀ base : Heap, K.In base → base.Ns mainGlobals mg → CallRun l.prog w K mg base k f 1 [] φ)
    (hφ : ∀ ns : List Int, ns.length ≤ n → ∃ S', φ [.cl (ns.map PV.int)] [] = .ok (.bl true) S') :
    PySem.W.WalkO q loose XP YP l.row.toRowW d [] (fun f vs => PySem.call f vs) := by
  refine Att.attach_call hn hdf fun w s0 t mg mb f o pm cd doc a us ns G Y ho hd hcd hmg hobj hints hlen hg => ?_
  obtain ⟨K, KX, hF⟩ := F w mg f _ Y G.T.g hmg
  obtain ⟨S', e⟩ := hφ ns hlen
  exact law_end KX G.T.g G.T.b G.T.builtins G.T.nolimit hg hobj hints (Nat.le_trans hlen hn2) hr hF e

/-! ### the context of a def, and of its blocks -/
/-- what the rules ask of a context -/
structure Gd (k : Nat) (N : List Str) (X : Cx) : Prop where
  hN : X.N = N
  nd : N.Nodup
  calm : X.calm = true
  room : Room k X.A
  gd : X.A.guards = some []
  po : PassesOwn (model X.prog X.w) X.A X.env X.xe
theorem Gd.blk {k : Nat} {N : List Str} {X : Cx} (g : Gd k N X) {s : Shared} {H : Hp} {scope : Scope} {cenv : Env} {fp : List Addr} : Gd k N (X.blk s H scope cenv fp) :=
  ⟨g.hN, g.nd, g.calm, g.room, g.gd, PassesOwn.never⟩
section
variable {P : Program} {w : World} {K : PySem.W.Frag} {mg : Str → Option Value} {base : Heap}
theorem gd_of {N : List Str} {qual : Str} {scope : Scope} {f : Addr} {cdv : Value} {A : Around} {outer : List Env} {s : Shared} {H : Hp} {E : XK} {k : Nat} (hN : N.Nodup) (hr : Room k (A.deeper (envOfC qual scope s.heap.objs.size f cdv))) (hg : A.guards = some []) :
    Gd k N (cxOf (CX P w) P w K mg base N qual scope f cdv A outer s H E) := ⟨rfl, hN, rfl, hr, hg, passes_of rfl⟩
/-- a def without defaults, all values by position or by name -/
theorem fn_ok {k : Nat} {x qual : Str} {params : Arguments} {body : List Stmt} {scope : Scope} {f : Addr} {fd : FuncData} {N ps : List Str} {mb : SM} {n : Nat} {ks : List Str} {idx : List Nat} (F : FunD K x qual params body scope [] [] f fd) (hm : mg x = some (.ref f)) (hs : FnScope N ps scope)
    (sh : ∀ (kV doc pm : Value) (an : Option Addr) (cdv ct : Value) (s : Shared) (us ws : List Value), us.length = n → ws.length = ks.length → BindsTo s (PySem.W.fnOf x qual params body scope .none kV doc pm an cdv ct) ⟨us, ks.zip ws⟩ (ps.zip (pick idx (us ++ ws))))
    (hidx : idx.length = ps.length) (hin : ∀ j ∈ idx, j < n + ks.length)
    (hb : ∀ X : Cx, X.prog = P → X.w = w → X.K = K → X.mg = mg → X.base = base → X.env.scope = scope → (∀ y, X.fn y = true) → Gd k N X → DSs X body mb) :
    CallOk P w K mg base (k + 1) ⟨x, n, ks⟩ fun args S => bodyM N.length mb (pick idx args) S := by
  obtain ⟨oc, od, dV, kV, doc, pm, an, cdv, ct, osl, rfl, lk, hcd, hD, _⟩ := F.ex
  obtain rfl : dV = .none := hD.elim (fun z => z.2) fun z => absurd rfl z.1
  refine ⟨f, hm, F.kp, ?_⟩
  have q := fn_run (P := P) (w := w) (mg := mg) (base := base) (k := k) (mb := mb) (n := n) (ks := ks) (idx := idx) (ds := []) (dvs := []) (dps := []) lk hcd hs (fun s us ws _ h1 h2 => by rw [List.append_nil]; exact sh kV doc pm an cdv ct s us ws h1 h2) .nil (fun _ _ => .nil) hidx (by simpa using hin)
    (fun A outer s H E hr hg => hb _ rfl rfl rfl rfl rfl rfl (fun _ => rfl) (gd_of hs.nd hr hg))
  simpa using q
end
end D

/-! D11: the rules as the printer writes them: over a context that is known by its scope. -/
namespace D
open PySem PySem.Spec PyProof.Rows L2

structure Pg where
  P : Program
  w : World
  K : PySem.W.Frag
  mg : Str → Option Value
  base : Heap
abbrev CO (G : Pg) (k : Nat) (t : CallT) (φ : List PV → Hs → Res PV) : Prop := CallOk G.P G.w G.K G.mg G.base k t φ
def bltL : List Str := ["len", "max", "min", "tuple", "list", "sorted", "repr", "range", "zip", "enumerate"]
structure Ct (G : Pg) (k : Nat) (N : List Str) (sc : Scope) (fb : Str → Bool) (X : Cx) : Prop extends Gd k N X where
  hP : X.prog = G.P
  hw : X.w = G.w
  hK : X.K = G.K
  hm : X.mg = G.mg
  hb : X.base = G.base
  hs : X.env.scope = sc
  kd : sc.kind = .function
  fn : ∀ y, fb y = true → X.fn y = true
  bl : ∀ x ∈ bltL, X.mg x = none
abbrev allB : Str → Bool := fun _ => true
abbrev blkB (scope : Scope) : Str → Bool := fun x => scope.names.lookup x == some .cell

/-! ### names, checked -/
def vB (N : List Str) (sc : Scope) (i : Nat) (x : Str) : Bool :=
  decide (N[i]? = some x) && (match sc.names.lookup x with
    | some .local => true
    | some .cell => true
    | some .free => true
    | _ => false) && !(x == ("__debug__" : Str)) && !(x == ("__classdict__" : Str))
def tB' (N : List Str) (sc : Scope) (fb : Str → Bool) (i : Nat) (x : Str) : Bool :=
  decide (N[i]? = some x) && (match sc.names.lookup x with
    | some .local => true
    | some .cell => fb x
    | _ => false)
def lB (N : List Str) (sc : Scope) (i : Nat) (x : Str) : Bool :=
  decide (N[i]? = some x) && decide (sc.names.lookup x = some .local)
def gB (sc : Scope) (x : Str) : Bool := decide (sc.names.lookup x = some .globalImplicit) && !(x == ("__debug__" : Str))
section
variable {G : Pg} {k : Nat} {N : List Str} {sc : Scope} {fb : Str → Bool} {X : Cx} {pos p : Pos}
theorem vB.ok {i : Nat} {x : Str} (h : vB N sc i x = true) : N[i]? = some x ∧ Vis sc x ∧ (x == ("__debug__" : Str)) = false ∧ (x == ("__classdict__" : Str)) = false := by
  unfold vB at h
  simp only [Bool.and_eq_true, decide_eq_true_eq, Bool.not_eq_true'] at h
  obtain ⟨⟨⟨h1, h2⟩, h3⟩, h4⟩ := h
  refine ⟨h1, ?_, h3, h4⟩
  split at h2
  · exact .inl (by assumption)
  · exact .inr (.inl (by assumption))
  · exact .inr (.inr (by assumption))
  · cases h2
theorem tB'.ok {i : Nat} {x : Str} (h : tB' N sc fb i x = true) : N[i]? = some x ∧ Loc sc x ∧ (fb x = true ∨ sc.names.lookup x = some .local) := by
  unfold tB' at h
  simp only [Bool.and_eq_true, decide_eq_true_eq] at h
  obtain ⟨h1, h2⟩ := h
  refine ⟨h1, ?_⟩
  split at h2
  · exact ⟨.inl (by assumption), .inr (by assumption)⟩
  · exact ⟨.inr (by assumption), .inl h2⟩
  · cases h2
theorem lB.ok {i : Nat} {x : Str} (h : lB N sc i x = true) : N[i]? = some x ∧ sc.names.lookup x = some .local := by
  unfold lB at h
  simpa using h
theorem Ct.gl (c : Ct G k N sc fb X) {x : Str} (h : gB sc x = true) : Gl X x ∧ (x == ("__debug__" : Str)) = false := by
  unfold gB at h
  simp only [Bool.and_eq_true, decide_eq_true_eq, Bool.not_eq_true'] at h
  refine ⟨?_, h.2⟩
  show X.env.scope.names.lookup x = _
  rw [c.hs]
  exact h.1
theorem Ct.blk (c : Ct G k N sc fb X) {s : Shared} {H : Hp} {scope : Scope} {cl : List (Str × Addr)} {C : Addr} {fp : List Addr} (hk : scope.kind = .function) : Ct G k N (relS scope sc) (blkB scope) (X.blk s H scope (compEnvC scope cl C X.env) fp) :=
  ⟨c.toGd.blk, c.hP, c.hw, c.hK, c.hm, c.hb, by rw [← c.hs]; rfl, hk, fun y h => h, c.bl⟩
theorem Ct.co (c : Ct G k N sc fb X) {t : CallT} {φ : List PV → Hs → Res PV} (h : CO G k t φ) : CallOk X.prog X.w X.K X.mg X.base k t φ := by
  rw [c.hP, c.hw, c.hK, c.hm, c.hb]; exact h

/-! ### expressions -/
theorem e_var (c : Ct G k N sc fb X) {i : Nat} {x : Str} (h : vB N sc i x = true) : DE X (.Name x pos) (varM i) := by
  obtain ⟨h1, h2, h3, h4⟩ := vB.ok h
  exact de_var (by rw [c.hN]; exact h1) (by rw [c.hs]; exact h2) h3 h4
variable {a b e : Expr} {ma mb me : EM} {es : List Expr} {ms : AM}
theorem ns {e : Expr} (h : ∀ es env, starEach (e :: es) env = (false, eval e env) :: starEach es env) : NoStar e := h
theorem nss_nil : NoStars [] := fun _ h => by cases h
theorem nss_cons (h : NoStar e) (hs : NoStars es) : NoStars (e :: es) := fun x hx => by
  rcases List.mem_cons.mp hx with rfl | hx
  · exact h
  · exact hs x hx
/-- arguments with their form -/
structure DAs (X : Cx) (es : List Expr) (m : AM) (n : Nat) : Prop where
  da : DA X es m
  ns : NoStars es
  ln : ∀ env S ps S', m env S = .ok ps S' → ps.length = n
theorem a_nil : DAs X [] nilA 0 := ⟨da_nil, nss_nil, fun _ _ _ _ => nilA_len⟩
theorem a_cons {n : Nat} (he : DE X e me) (hs : DAs X es ms n) (h : ∀ es env, starEach (e :: es) env = (false, eval e env) :: starEach es env := by exact fun _ _ => rfl) : DAs X (e :: es) (consA me ms) (n + 1) :=
  ⟨da_cons h he hs.da, nss_cons h hs.ns, consA_len hs.ln⟩
structure DKs (X : Cx) (kws : List Keyword) (m : AM) (ks : List Str) : Prop where
  dk : DK X kws m
  nm : kws.map (·.arg) = ks.map some
  ln : ∀ env S ps S', m env S = .ok ps S' → ps.length = ks.length
theorem k_nil : DKs X [] nilA [] := ⟨dk_nil, rfl, fun _ _ _ _ => nilA_len⟩
theorem k_cons {nm : Str} {kws : List Keyword} {ks : List Str} {kpos : Pos} (he : DE X e me) (hs : DKs X kws ms ks) : DKs X (⟨some nm, e, kpos⟩ :: kws) (consA me ms) (nm :: ks) :=
  ⟨dk_cons he hs.dk, by rw [List.map_cons, List.map_cons, hs.nm], consA_len hs.ln⟩
theorem e_tup {n kk : Nat} (h : DAs X es ms n) : DE X (.Tuple es kk pos) (tupE ms) := de_tup h.da
theorem e_lst {n : Nat} (h : DAs X es ms n) : DE X (.List es pos) (lstE ms) := de_lst h.da
theorem e_bin (c : Ct G k N sc fb X) {op : Operator} (ha : DE X a ma) (hb : DE X b mb) : DE X (.BinOp a op b pos) (op2 (binP op) ma mb) := de_bin (d_bin op) ha hb
theorem e_neg (ha : DE X a ma) : DE X (.UnaryOp .USub a pos) (op1 negP ma) := de_un d_neg ha
theorem e_cmp (c : Ct G k N sc fb X) {op : CmpOp} (ha : DE X a ma) (hb : DE X b mb) (hm : behindInMarks op b = false := by rfl) : DE X (.Compare a [op] [b] pos) (op2 (cmpP op) ma mb) := de_cmp (d_cmp c.room op) ha hb hm
theorem t_cmp (c : Ct G k N sc fb X) {op : CmpOp} (ha : DE X a ma) (hb : DE X b mb) (hm : behindInMarks op b = false := by rfl) : DT X (.Compare a [op] [b] pos) (truM (op2 (cmpP op) ma mb)) := dt_cmp (d_cmp c.room op) ha hb hm
theorem e_get (c : Ct G k N sc fb X) (ha : DE X a ma) (hb : DE X b mb) (h : PlainIx b := by exact fun _ _ => rfl) : DE X (.Subscript a b pos) (op2 getP ma mb) := de_get c.room ha hb h
theorem t_val (he : DE X e me) (h : ∀ whole, isTrue e X.env whole = (do let v ← whole; standAt e.pos; holding [v] (truthy v)) := by exact fun _ => rfl) : DT X e (truM me) := dt_val he h
section
variable {n : Nat} (c : Ct G k N sc fb X) (h : DAs X (e :: es) ms n)
include c h
theorem e_len (hg : gB sc "len" = true) : DE X (.Call (.Name "len" p) (e :: es) [] pos) (callM lenP ms) := de_callB d_len (c.gl hg).1 (c.bl _ (by decide)) (by decide +kernel) h.ns h.da (by decide) (c.gl hg).2
theorem e_max (hg : gB sc "max" = true) : DE X (.Call (.Name "max" p) (e :: es) [] pos) (callM max2P ms) := de_callB (d_max2 c.calm) (c.gl hg).1 (c.bl _ (by decide)) (by decide +kernel) h.ns h.da (by decide) (c.gl hg).2
theorem e_min (hg : gB sc "min" = true) : DE X (.Call (.Name "min" p) (e :: es) [] pos) (callM min2P ms) := de_callB (d_min2 c.calm) (c.gl hg).1 (c.bl _ (by decide)) (by decide +kernel) h.ns h.da (by decide) (c.gl hg).2
theorem e_tuple (hg : gB sc "tuple" = true) : DE X (.Call (.Name "tuple" p) (e :: es) [] pos) (callM tupleP ms) := de_callTy d_tuple (c.gl hg).1 (c.bl _ (by decide)) (by decide +kernel) h.ns h.da (by decide) (c.gl hg).2
theorem e_list (hg : gB sc "list" = true) : DE X (.Call (.Name "list" p) (e :: es) [] pos) (callM listP ms) := de_callTy d_list (c.gl hg).1 (c.bl _ (by decide)) (by decide +kernel) h.ns h.da (by decide) (c.gl hg).2
theorem e_sorted (hg : gB sc "sorted" = true) : DE X (.Call (.Name "sorted" p) (e :: es) [] pos) (callM sortP ms) := de_callB (d_sorted c.room) (c.gl hg).1 (c.bl _ (by decide)) (by decide +kernel) h.ns h.da (by decide) (c.gl hg).2
theorem e_repr (hg : gB sc "repr" = true) : DE X (.Call (.Name "repr" p) (e :: es) [] pos) (callM reprP ms) := de_callB (d_repr c.room c.gd) (c.gl hg).1 (c.bl _ (by decide)) (by decide +kernel) h.ns h.da (by decide) (c.gl hg).2
end
section
variable {t : CallT} {φ : List PV → Hs → Res PV} {kw : Keyword} {kws : List Keyword} {mk : AM}
theorem e_call0 (c : Ct G k N sc fb X) (C : CO G k t φ) (hg : gB sc t.name = true) (hn : t.n = 0 := by rfl) (hks : t.ks = [] := by rfl) : DE X (.Call (.Name t.name p) [] [] pos) (callF φ nilA nilA) :=
  de_call0 c.room c.gd (c.co C) (c.gl hg).1 (c.gl hg).2 hn hks
theorem e_callP (c : Ct G k N sc fb X) (C : CO G k t φ) (hg : gB sc t.name = true) (h : DAs X (e :: es) ms t.n) (hks : t.ks = [] := by rfl) : DE X (.Call (.Name t.name p) (e :: es) [] pos) (callF φ ms nilA) :=
  de_callP c.room c.gd (c.co C) (c.gl hg).1 (c.gl hg).2 h.ns h.da h.ln hks
theorem e_callK0 (c : Ct G k N sc fb X) (C : CO G k t φ) (hg : gB sc t.name = true) (h : DKs X kws mk t.ks) (hn : t.n = 0 := by rfl) : DE X (.Call (.Name t.name p) [] kws pos) (callF φ nilA mk) :=
  de_callK0 c.room c.gd (c.co C) (c.gl hg).1 (c.gl hg).2 h.dk hn h.nm h.ln
theorem e_callK (c : Ct G k N sc fb X) (C : CO G k t φ) (hg : gB sc t.name = true) (h : DAs X (e :: es) ms t.n) (hk : DKs X kws mk t.ks) : DE X (.Call (.Name t.name p) (e :: es) kws pos) (callF φ ms mk) :=
  de_callK c.room c.gd (c.co C) (c.gl hg).1 (c.gl hg).2 h.ns h.da hk.dk h.ln hk.nm hk.ln
end
theorem p_nil : DP X pos [] [] nilP := dp_nil
theorem e_dict {keys : List (Option Expr)} {values : List Expr} {m : PM} (h : DP X pos keys values m) (h1 : keys.all (·.isSome) = true := by rfl) (h2 : keys.length = values.length := by rfl) (h3 : keys ≠ [] := by exact List.cons_ne_nil _ _) (h4 : keys.length ≤ 15 := by exact (by decide)) : DE X (.Dict keys values pos) (dispE m) := de_disp h h1 h2 h3 h4

/-! ### what is walked -/
variable {tg e2 : Expr} {elts : List Expr} {kk : Nat} {tpos : Pos}
theorem i_seq (he : DE X e me) : DI X tg e (itM me) := di_seq he
theorem i_range1 {n : Nat} (c : Ct G k N sc fb X) (hg : gB sc "range" = true) (h : DAs X [e] ms n) : DI X tg (.Call (.Name "range" p) [e] [] pos) (rng1M ms) := di_range1 (c.gl hg).1 (c.bl _ (by decide)) (h.ns e (by simp)) h.da
theorem i_range2 {n : Nat} (c : Ct G k N sc fb X) (hg : gB sc "range" = true) (h : DAs X [e, e2] ms n) : DI X tg (.Call (.Name "range" p) [e, e2] [] pos) (rng2M ms) := di_range2 (c.gl hg).1 (c.bl _ (by decide)) (h.ns e (by simp)) (h.ns e2 (by simp)) h.da
theorem i_zip {n : Nat} (c : Ct G k N sc fb X) (hg : gB sc "zip" = true) (h : DAs X [e, e2] ms n) : DI X (.Tuple elts kk tpos) (.Call (.Name "zip" p) [e, e2] [] pos) (zipM ms) := di_zip (c.gl hg).1 (c.bl _ (by decide)) (h.ns e (by simp)) (h.ns e2 (by simp)) h.da
theorem i_enum {n : Nat} (c : Ct G k N sc fb X) (hg : gB sc "enumerate" = true) (h : DAs X [e] ms n) : DI X (.Tuple elts kk tpos) (.Call (.Name "enumerate" p) [e] [] pos) (enumM ms) := di_enum (c.gl hg).1 (c.bl _ (by decide)) (h.ns e (by simp)) h.da

/-! ### targets -/
variable {t : GM} {ts us : List Nat} {u : GsM}
theorem g_nm (c : Ct G k N sc fb X) {i : Nat} {x : Str} (h : tB' N sc fb i x = true) : DG X (.Name x pos) (setG i) [i] := by
  obtain ⟨h1, h2, h3⟩ := tB'.ok h
  exact dg_name (by rw [c.hN]; exact c.nd) (by rw [c.hN]; exact h1) (by rw [c.hs]; exact h2) (h3.imp (c.fn x) fun z => by rw [c.hs]; exact z)
theorem gs_nil : DGs X [] nilG [] := dgs_nil
theorem gs_cons (h : DG X e t ts) (hs : DGs X es u us) (hst : (assignEach (e :: es) X.env).map (·.2) = assign e X.env :: (assignEach es X.env).map (·.2) := by rfl) : DGs X (e :: es) (consG t u) (ts ++ us) := dgs_cons h hs hst
theorem g_tup {n : Nat} (c : Ct G k N sc fb X) (h : DGs X es u ts) (hn : (assignEach es X.env).length = n := by rfl) (hst : (assignEach es X.env).findIdx? (·.1) = none := by rfl) : DG X (.Tuple es kk pos) (tupG n u) ts := dg_tup c.calm h hn hst
theorem g_sub {o i : Expr} {mo mi : EM} (c : Ct G k N sc fb X) (ho : DE X o mo) (hi : DE X i mi)
    (ha : ∀ v, assign (.Subscript o i pos) X.env v = (do
      let ov ← holding [v] (eval o X.env)
      let iv ← holding [v, ov] (eval i X.env)
      standAt pos
      holding [v, ov, iv] (setItem ov iv v)
      release [v, ov, iv] []) := by exact fun _ => rfl) : DG X (.Subscript o i pos) (subG mo mi) [] := dg_sub c.room ho hi ha

/-! ### comprehensions -/
section
variable {elt iter iter1 tg1 : Expr} {ifs ifs1 : List Expr} {scope : Scope} {own : List (Str × Nat)} {it it1 : IM} {t1 : GM} {ts1 vs1 : List Nat} {tt tt1 : TM} {te : EM}
def subB (ts vs : List Nat) : Bool := ts.all fun i => vs.contains i
theorem subB.ok {ts vs : List Nat} (h : subB ts vs = true) : ∀ i ∈ ts, i ∈ vs := fun i hi => by
  have := List.all_eq_true.mp h i hi
  simpa using this
theorem blk_kind {N : List Str} {sc scope : Scope} {own : List (Str × Nat)} (h : blkC N sc scope own = true) : scope.kind = .function := (blkOk_by h).kind
theorem e_lc (c : Ct G k N sc fb X) (own : List (Str × Nat)) (ok : blkC N sc scope own = true) (hi : DI X tg iter it) (tsv : subB ts (own.map (·.2)) = true)
    (hg : ∀ Y, Ct G k N (relS scope sc) (blkB scope) Y → DG Y tg t ts) (ht : ∀ Y, Ct G k N (relS scope sc) (blkB scope) Y → DTs Y ifs tt) (he : ∀ Y, Ct G k N (relS scope sc) (blkB scope) Y → DE Y elt te) (hs : ∀ x, foldedSetIterable iter X.env x = pure x := by exact fun _ => rfl) :
    DE X (.ListComp elt [⟨tg, iter, ifs, 0⟩] scope pos) (lcM it t tt te (own.map (·.2))) :=
  de_lc c.calm (by rw [c.hN]; exact c.nd) hi (by rw [c.hN, c.hs]; exact blkOk_by ok) (subB.ok tsv) (fun s H C cl fp => hg _ (c.blk (blk_kind ok))) (fun s H C cl fp => ht _ (c.blk (blk_kind ok))) (fun s H C cl fp => he _ (c.blk (blk_kind ok))) hs
theorem e_lc2 (c : Ct G k N sc fb X) (own : List (Str × Nat)) (vs1 : List Nat) (ok : blkC N sc scope own = true) (hi : DI X tg iter it) (hv : subB vs1 (own.map (·.2)) = true) (tsv : subB ts (own.map (·.2)) = true) (tsv1 : subB ts1 vs1 = true)
    (hg : ∀ Y, Ct G k N (relS scope sc) (blkB scope) Y → DG Y tg t ts) (ht : ∀ Y, Ct G k N (relS scope sc) (blkB scope) Y → DTs Y ifs tt) (hi1 : ∀ Y, Ct G k N (relS scope sc) (blkB scope) Y → DI Y tg1 iter1 it1) (hg1 : ∀ Y, Ct G k N (relS scope sc) (blkB scope) Y → DG Y tg1 t1 ts1)
    (ht1 : ∀ Y, Ct G k N (relS scope sc) (blkB scope) Y → DTs Y ifs1 tt1) (he : ∀ Y, Ct G k N (relS scope sc) (blkB scope) Y → DE Y elt te) (hs : ∀ x, foldedSetIterable iter X.env x = pure x := by exact fun _ => rfl) (hs1 : ∀ env x, foldedSetIterable iter1 env x = pure x := by exact fun _ _ => rfl) :
    DE X (.ListComp elt [⟨tg, iter, ifs, 0⟩, ⟨tg1, iter1, ifs1, 0⟩] scope pos) (lc2M it t tt it1 t1 tt1 te (own.map (·.2)) vs1) :=
  de_lc2 c.calm (by rw [c.hN]; exact c.nd) hi (by rw [c.hN, c.hs]; exact blkOk_by ok) (subB.ok hv) (subB.ok tsv) (subB.ok tsv1) (fun s H C cl fp => hg _ (c.blk (blk_kind ok))) (fun s H C cl fp => ht _ (c.blk (blk_kind ok)))
    (fun s H C cl fp => hi1 _ (c.blk (blk_kind ok))) (fun s H C cl fp => hg1 _ (c.blk (blk_kind ok))) (fun s H C cl fp => ht1 _ (c.blk (blk_kind ok))) (fun s H C cl fp => he _ (c.blk (blk_kind ok))) hs hs1
/-- does a comprehension's value trade places with a name at once -/
def swB (sc scope : Scope) (y : Str) (l1 l2 : Nat) : Bool := sc.names.lookup y == some .local && l1 == l2 && !(scope.names.any fun (n, q) => n == y && (q == .local || q == .cell))
theorem Ct.swaps (c : Ct G k N sc fb X) {y : Str} {py : Pos} {l : Nat} {gens : List Comprehension} : swapsWith (.ListComp elt gens scope pos) (some (.Name y py)) l X.env = pure (swB sc scope y py.line pos.line) := by
  have e1 : X.env.blockKind = .function := by
    unfold Env.blockKind
    rw [c.hs, c.kd]
    rfl
  have e2 : X.env.kindOf y = sc.names.lookup y := by rw [← c.hs]; rfl
  show (pure (X.env.blockKind == .function && X.env.kindOf y == some .local && py.line == pos.line && _) : Sem Bool) = _
  rw [e1, e2]
  rfl
theorem swB.loc {sc scope : Scope} {y : Str} {l1 l2 : Nat} (h : swB sc scope y l1 l2 = true) : sc.names.lookup y = some .local := by
  unfold swB at h
  simp only [Bool.and_eq_true] at h
  exact eq_of_beq h.1.1
theorem s_setLc {i : Nat} {y : Str} {py spos : Pos} (c : Ct G k N sc fb X) (own : List (Str × Nat)) (hy : tB' N sc fb i y = true) (ok : blkC N sc scope own = true) (hi : DI X tg iter it) (tsv : subB ts (own.map (·.2)) = true)
    (hg : ∀ Y, Ct G k N (relS scope sc) (blkB scope) Y → DG Y tg t ts) (ht : ∀ Y, Ct G k N (relS scope sc) (blkB scope) Y → DTs Y ifs tt) (he : ∀ Y, Ct G k N (relS scope sc) (blkB scope) Y → DE Y elt te) (hs : ∀ x, foldedSetIterable iter X.env x = pure x := by exact fun _ => rfl) :
    DS X (.Assign [.Name y py] (.ListComp elt [⟨tg, iter, ifs, 0⟩] scope pos) spos) (asgS (lcM it t tt te (own.map (·.2))) (setG i)) := by
  obtain ⟨h1, h2, h3⟩ := tB'.ok hy
  have sw := c.swaps (elt := elt) (scope := scope) (pos := pos) (y := y) (py := py) (l := spos.line) (gens := [⟨tg, iter, ifs, 0⟩])
  cases q : swB sc scope y py.line pos.line with
  | true =>
    rw [q] at sw
    have h2' := swB.loc q
    exact ds_setLc c.calm (by rw [c.hN]; exact c.nd) (by rw [c.hN]; exact h1) (by rw [c.hs]; exact h2') sw hi (by rw [c.hN, c.hs]; exact blkOk_by ok) (subB.ok tsv) (fun s H C cl fp => hg _ (c.blk (blk_kind ok))) (fun s H C cl fp => ht _ (c.blk (blk_kind ok))) (fun s H C cl fp => he _ (c.blk (blk_kind ok))) hs
  | false =>
    rw [q] at sw
    exact ds_set (by rw [c.hN]; exact c.nd) (by rw [c.hN]; exact h1) (by rw [c.hs]; exact h2) (e_lc c own ok hi tsv hg ht he hs) sw (h3.imp (c.fn y) fun z => by rw [c.hs]; exact z)
theorem s_setLc2 {i : Nat} {y : Str} {py spos : Pos} (c : Ct G k N sc fb X) (own : List (Str × Nat)) (vs1 : List Nat) (hy : tB' N sc fb i y = true) (ok : blkC N sc scope own = true) (hi : DI X tg iter it) (hv : subB vs1 (own.map (·.2)) = true) (tsv : subB ts (own.map (·.2)) = true) (tsv1 : subB ts1 vs1 = true)
    (hg : ∀ Y, Ct G k N (relS scope sc) (blkB scope) Y → DG Y tg t ts) (ht : ∀ Y, Ct G k N (relS scope sc) (blkB scope) Y → DTs Y ifs tt) (hi1 : ∀ Y, Ct G k N (relS scope sc) (blkB scope) Y → DI Y tg1 iter1 it1) (hg1 : ∀ Y, Ct G k N (relS scope sc) (blkB scope) Y → DG Y tg1 t1 ts1)
    (ht1 : ∀ Y, Ct G k N (relS scope sc) (blkB scope) Y → DTs Y ifs1 tt1) (he : ∀ Y, Ct G k N (relS scope sc) (blkB scope) Y → DE Y elt te) (hs : ∀ x, foldedSetIterable iter X.env x = pure x := by exact fun _ => rfl) (hs1 : ∀ env x, foldedSetIterable iter1 env x = pure x := by exact fun _ _ => rfl) :
    DS X (.Assign [.Name y py] (.ListComp elt [⟨tg, iter, ifs, 0⟩, ⟨tg1, iter1, ifs1, 0⟩] scope pos) spos) (asgS (lc2M it t tt it1 t1 tt1 te (own.map (·.2)) vs1) (setG i)) := by
  obtain ⟨h1, h2, h3⟩ := tB'.ok hy
  have sw := c.swaps (elt := elt) (scope := scope) (pos := pos) (y := y) (py := py) (l := spos.line) (gens := [⟨tg, iter, ifs, 0⟩, ⟨tg1, iter1, ifs1, 0⟩])
  cases q : swB sc scope y py.line pos.line with
  | true =>
    rw [q] at sw
    have h2' := swB.loc q
    exact ds_setLc2 c.calm (by rw [c.hN]; exact c.nd) (by rw [c.hN]; exact h1) (by rw [c.hs]; exact h2') sw hi (by rw [c.hN, c.hs]; exact blkOk_by ok) (subB.ok hv) (subB.ok tsv) (subB.ok tsv1) (fun s H C cl fp => hg _ (c.blk (blk_kind ok))) (fun s H C cl fp => ht _ (c.blk (blk_kind ok)))
      (fun s H C cl fp => hi1 _ (c.blk (blk_kind ok))) (fun s H C cl fp => hg1 _ (c.blk (blk_kind ok))) (fun s H C cl fp => ht1 _ (c.blk (blk_kind ok))) (fun s H C cl fp => he _ (c.blk (blk_kind ok))) hs hs1
  | false =>
    rw [q] at sw
    exact ds_set (by rw [c.hN]; exact c.nd) (by rw [c.hN]; exact h1) (by rw [c.hs]; exact h2) (e_lc2 c own vs1 ok hi hv tsv tsv1 hg ht hi1 hg1 ht1 he hs hs1) sw (h3.imp (c.fn y) fun z => by rw [c.hs]; exact z)
end

/-! ### statements -/
variable {body orelse rest : List Stmt} {m n : SM} {tm : TM}
theorem s_set {i : Nat} {x : Str} {pos' : Pos} (c : Ct G k N sc fb X) (h : tB' N sc fb i x = true) (he : DE X e me) (hs : swapsWith e (some (.Name x pos')) pos.line X.env = pure false := by rfl) : DS X (.Assign [.Name x pos'] e pos) (asgS me (setG i)) := by
  obtain ⟨h1, h2, h3⟩ := tB'.ok h
  exact ds_set (by rw [c.hN]; exact c.nd) (by rw [c.hN]; exact h1) (by rw [c.hs]; exact h2) he hs (h3.imp (c.fn x) fun z => by rw [c.hs]; exact z)
theorem s_asg (he : DE X e me) (hg : DG X tg t ts) (hw : swappedStores [tg] e X.env = pure none) (hs : swapsWithSole [tg] e pos.line X.env = pure false := by rfl) (h1 : (assignEach [tg] X.env).map (·.2) = [assign tg X.env] := by rfl) : DS X (.Assign [tg] e pos) (asgS me t) := ds_asg he hg hs hw h1
/-- not all of the targets are names of the frame -/
def farB (sc : Scope) : List Expr → Bool
  | [] => false
  | .Name x _ :: r => sc.names.lookup x != some .local || farB sc r
  | _ :: _ => true
theorem far_names {sc : Scope} {line : Nat} {f : Expr → Option Str} (hf : ∀ x p, f (.Name x p) = if sc.names.lookup x == some .local && p.line == line then some x else none) (hf2 : ∀ e, (∀ x p, e ≠ .Name x p) → f e = none) : ∀ ts : List Expr, farB sc ts = true → (ts.filterMap f).length < ts.length
  | [], h => by cases h
  | t :: r, h => by
    have le : (r.filterMap f).length ≤ r.length := List.length_filterMap_le _ _
    by_cases ht : ∃ x p, t = .Name x p
    · obtain ⟨x, p, rfl⟩ := ht
      rw [List.filterMap_cons, hf]
      unfold farB at h
      by_cases q : sc.names.lookup x == some .local
      · have h' : farB sc r = true := by
          rcases Bool.or_eq_true_iff.mp h with z | z
          · rw [bne, q] at z; cases z
          · exact z
        have ih := far_names hf hf2 r h'
        split
        · show _ < r.length + 1; omega
        · show (_ :: _ : List Str).length < r.length + 1
          rw [List.length_cons]; omega
      · have q' : (sc.names.lookup x == some NameKind.local) = false := by simpa using q
        rw [q', Bool.false_and]
        show (r.filterMap f).length < r.length + 1
        omega
    · rw [List.filterMap_cons, hf2 t fun x p z => ht ⟨x, p, z⟩]
      show (r.filterMap f).length < r.length + 1
      omega
theorem Ct.far (c : Ct G k N sc fb X) {tes ves : List Expr} {k1 k2 : Nat} {p1 p2 : Pos} (h : farB sc tes = true) : swappedStores [.Tuple tes k1 p1] (.Tuple ves k2 p2) X.env = pure none := by
  unfold swappedStores
  dsimp only
  have hlt := fun line f hf hf2 => far_names (sc := sc) (line := line) (f := f) hf hf2 tes h
  split
  · rfl
  · split
    · rfl
    · rw [if_pos]
      simp only [Bool.or_eq_true, bne_iff_ne, ne_eq]
      refine .inl (Nat.ne_of_lt (hlt ((tes.head?.map (·.pos.line)).getD 0) _ (fun x p => ?_) fun e he => ?_))
      · rw [← c.hs]; rfl
      · split
        · rename_i x p; exact absurd rfl (he x p)
        · rfl
theorem s_expr (he : DE X e me) (hs : swapsWith e none pos.line X.env = pure false := by rfl) : DS X (.Expr e pos) (exprS me) := ds_expr he hs
theorem s_for (c : Ct G k N sc fb X) {it : IM} (hi : DI X tg e it) (hg : DG X tg t ts) (hb : DSs X body m) (hs : ∀ x, foldedSetIterable e X.env x = pure x := by exact fun _ => rfl) : DS X (.For tg e body [] pos) (forS it t m) := ds_for c.po c.calm hi hg hb hs
theorem s_while (c : Ct G k N sc fb X) (hc : DT X e tm) (hb : DSs X body m) : DS X (.While e body [] pos) (whileS tm m) := ds_while c.po hc hb
def nearB (sc : Scope) (x y : Str) (px py : Pos) (a b : Expr) : Bool := decide (sc.names.lookup x = some .local) && decide (sc.names.lookup y = some .local) && px.line == py.line && !(x == y) && !(foldedForSure 8 a && foldedForSure 8 b) && !(constantsAlone 8 a && constantsAlone 8 b) &&
  (match a with | .Starred .. => false | _ => true) && (match b with | .Starred .. => false | _ => true)
theorem Ct.near (c : Ct G k N sc fb X) {x y : Str} {px py pt pt2 : Pos} {kt k2 : Nat} (h : nearB sc x y px py a b = true) : swappedStores [.Tuple [.Name x px, .Name y py] kt pt] (.Tuple [a, b] k2 pt2) X.env = pure (some [x, y]) := by
  unfold nearB at h
  simp only [Bool.and_eq_true, decide_eq_true_eq, Bool.not_eq_true', beq_iff_eq] at h
  obtain ⟨⟨⟨⟨⟨⟨⟨h1, h2⟩, h3⟩, h4⟩, h5⟩, h6⟩, h7⟩, h8⟩ := h
  have e1 : X.env.blockKind = .function := by
    unfold Env.blockKind
    rw [c.hs, c.kd]
    rfl
  have e2 : X.env.kindOf x = some .local := by
    show X.env.scope.names.lookup x = _
    rw [c.hs]; exact h1
  have e3 : X.env.kindOf y = some .local := by
    show X.env.scope.names.lookup y = _
    rw [c.hs]; exact h2
  have st : ([a, b].any fun (z : Expr) => match z with | .Starred .. => true | _ => false) = false := by
    have hh : ∀ z : Expr, (match z with | .Starred .. => false | _ => true) = true → (match z with | .Starred .. => true | _ => false) = false := fun z hz => by
      cases z <;> first | rfl | exact (Bool.false_ne_true hz).elim
    rw [List.any_cons, List.any_cons, List.any_nil, hh a h7, hh b h8]
    rfl
  have nm : [Expr.Name x px, Expr.Name y py].filterMap (fun (z : Expr) => match z with | .Name id pos => if X.env.kindOf id == some .local && pos.line == (([Expr.Name x px, Expr.Name y py].head?.map (·.pos.line)).getD 0) then some id else none | _ => none) = [x, y] := by
    rw [List.filterMap_cons, List.filterMap_cons, List.filterMap_nil]
    dsimp only
    rw [e2, e3]
    have l1 : (Option.map (fun (z : Expr) => z.pos.line) [Expr.Name x px, Expr.Name y py].head?).getD 0 = px.line := rfl
    rw [l1, ← h3]
    simp
  unfold swappedStores
  dsimp only
  rw [if_neg (by rw [e1]; simp), if_neg]
  case hnc => exact fun z => Bool.false_ne_true (st.symm.trans z)
  erw [nm]
  have dd : ([x, y] : List Str).eraseDups = [x, y] := by
    have h4' : (y == x) = false := by
      have : ¬ y = x := fun z => by subst z; simp at h4
      simpa using this
    simp [List.eraseDups_cons, List.filter_cons, h4']
  rw [dd]
  rw [if_neg (by simp), if_neg, if_neg]
  · simp only [List.all_cons, List.all_nil, Bool.and_true]
    simp [h6]
  · simp only [List.all_cons, List.all_nil, Bool.and_true]
    simp [h5]
theorem s_par {i j : Nat} {x y : Str} {px py pt pt2 : Pos} {kt k2 nn : Nat} (c : Ct G k N sc fb X) (hi : lB N sc i x = true) (hj : lB N sc j y = true) (h : nearB sc x y px py a b = true) (ha : DAs X [a, b] ms nn) : DS X (.Assign [.Tuple [.Name x px, .Name y py] kt pt] (.Tuple [a, b] k2 pt2) pos) (parS i j ms) := by
  obtain ⟨h1, h2⟩ := lB.ok hi
  obtain ⟨h3, h4⟩ := lB.ok hj
  refine ds_par c.calm (by rw [c.hN]; exact c.nd) (by rw [c.hN]; exact h1) (by rw [c.hN]; exact h3) (fun z => ?_) (by rw [c.hs]; exact h2) (by rw [c.hs]; exact h4) ha.da (c.near h)
  subst z
  rw [h1] at h3
  cases h3
  unfold nearB at h
  simp at h
/-- a def, by its record -/
theorem c_fn {x qual : Str} {params : Arguments} {body : List Stmt} {scope : Scope} {f : Addr} {fd : FuncData} {ps : List Str} {mb : SM} {n : Nat} {ks : List Str} {idx : List Nat} (F : FunD G.K x qual params body scope [] [] f fd) (hm : G.mg x = some (.ref f)) (bl : ∀ x ∈ bltL, G.mg x = none) (hs : FnScope N ps scope)
    (sh : ∀ (kV doc pm : Value) (an : Option Addr) (cdv ct : Value) (s : Shared) (us ws : List Value), us.length = n → ws.length = ks.length → BindsTo s (PySem.W.fnOf x qual params body scope .none kV doc pm an cdv ct) ⟨us, ks.zip ws⟩ (ps.zip (pick idx (us ++ ws))))
    (hidx : idx.length = ps.length) (hin : ∀ j ∈ idx, j < n + ks.length) (hb : ∀ X : Cx, Ct G k N scope allB X → DSs X body mb) :
    CO G (k + 1) ⟨x, n, ks⟩ fun args S => bodyM N.length mb (pick idx args) S :=
  fn_ok F hm hs sh hidx hin fun X hP hw hK hm' hbs hsc hfn g => hb X ⟨g, hP, hw, hK, hm', hbs, hsc, hs.kind, fun y _ => hfn y, by rw [hm']; exact bl⟩
end
theorem free_all {K : PySem.W.Frag} {h : Heap} {mg : Str → Option Value} {more : List He.Fa} {fn : List He.DefD} (X : K.In h) (M : h.Ns mainGlobals mg) (c : He.SaysD (bltL.map He.Fa.free ++ more) fn K) : ∀ x ∈ bltL, mg x = none := fun x hx => by
  obtain ⟨i, hi⟩ := List.getElem?_of_mem hx
  refine He.free_ok X M (c.fact i (f := .free x) ?_)
  rw [List.getElem?_append_left (by rw [List.length_map]; exact (List.getElem?_eq_some_iff.mp hi).1), List.getElem?_map, hi]
  rfl
theorem glo_at {K : PySem.W.Frag} {h : Heap} {mg : Str → Option Value} {more : List He.Fa} {fn : List He.DefD} (X : K.In h) (M : h.Ns mainGlobals mg) (c : He.SaysD (bltL.map He.Fa.free ++ more) fn K) (j : Nat) {x : Str} (hj : more[j]? = some (.glo x)) : mg x = some (.ref (He.ga K x)) := by
  refine He.glo_ok X M (c.fact ((bltL.map He.Fa.free).length + j) (f := .glo x) ?_)
  rw [List.getElem?_append_right (Nat.le_add_right _ _), Nat.add_sub_cancel_left]
  exact hj
end D

/-! D12: plain: how a meaning is worked out; loops. -/
namespace D
open PySem PySem.Spec PyProof.Rows L2

theorem nr {α : Sort _} {a b : α} (h : a = b) : a = b := h
def SR.thn (r : SR) (k : Sl → Hs → SR) : SR := match r with
  | .nx env S => k env S
  | r => r
def Res.toS {α : Type} (r : Res α) (env : Sl) (k : α → Hs → SR) : SR := match r with
  | .ok a S => k a S
  | .exc c fs S => .exc c fs env S
  | .bad => .bad
def Res.toG (r : Res Sl) : SR := match r with
  | .ok env S => .nx env S
  | _ => .bad
def SR.toR (r : SR) : Res PV := match r with
  | .nx _ S' => .ok .non S'
  | .rt p S' => .ok p S'
  | .exc c fs _ S' => .exc c fs S'
  | _ => .bad
section
variable {α : Type} {env env' : Sl} {S S' : Hs} {c : Value} {fs : List (Str × PV)} {p : PV} {k : Sl → Hs → SR}
theorem thn_nx : (SR.nx env S).thn k = k env S := nr rfl
theorem thn_rt : (SR.rt p S).thn k = .rt p S := nr rfl
theorem thn_bk : (SR.bk env S).thn k = .bk env S := nr rfl
theorem thn_ct : (SR.ct env S).thn k = .ct env S := nr rfl
theorem thn_exc : (SR.exc c fs env S).thn k = .exc c fs env S := nr rfl
theorem toS_ok {a : α} {k : α → Hs → SR} : (Res.ok a S).toS env k = k a S := nr rfl
theorem toS_exc {k : α → Hs → SR} : (Res.exc c fs S : Res α).toS env k = .exc c fs env S := nr rfl
theorem toG_ok : (Res.ok env S).toG = .nx env S := nr rfl
theorem toR_nx : (SR.nx env S).toR = .ok .non S := nr rfl
theorem toR_rt : (SR.rt p S).toR = .ok p S := nr rfl
theorem toR_exc : (SR.exc c fs env S).toR = .exc c fs S := nr rfl

/-! expressions -/
theorem w_var {i : Nat} : varM i env S = (match env[i]? with | some (some p) => .ok p S | _ => .bad) := nr rfl
theorem w_pure : pureM p env S = .ok p S := nr rfl
theorem w_op2 {f : PV → PV → Hs → Res PV} {a b : EM} : op2 f a b env S = (a env S).bind fun p S1 => (b env S1).bind fun q S2 => f p q S2 := nr rfl
theorem w_op1 {f : PV → Hs → Res PV} {a : EM} : op1 f a env S = (a env S).bind fun p S1 => f p S1 := nr rfl
theorem w_notE {a : EM} : notE a env S = (truM a env S).bind fun b S1 => .ok (.bl (!b)) S1 := nr rfl
theorem w_andE {a b : EM} : andE a b env S = (a env S).bind fun p S1 => (truP p S1).bind fun z S2 => if z = true then b env S2 else .ok p S2 := nr rfl
theorem w_orE {a b : EM} : orE a b env S = (a env S).bind fun p S1 => (truP p S1).bind fun z S2 => if z = true then .ok p S2 else b env S2 := nr rfl
theorem w_ifE {t : TM} {a b : EM} : ifE t a b env S = (t env S).bind fun z S1 => if z = true then a env S1 else b env S1 := nr rfl
theorem w_nil : nilA env S = .ok [] S := nr rfl
theorem w_cons {m : EM} {n : AM} : consA m n env S = (m env S).bind fun p S1 => (n env S1).bind fun ps S2 => .ok (p :: ps) S2 := nr rfl
theorem w_tup {n : AM} : tupE n env S = (n env S).bind fun ps S1 => if ps.length ≤ sizeLine then .ok (.tup ps) S1 else .bad := nr rfl
theorem w_lst {n : AM} : lstE n env S = (n env S).bind fun ps S1 => newL ps S1 := nr rfl
theorem w_call {f : List PV → Hs → Res PV} {n : AM} : callM f n env S = (n env S).bind fun ps S1 => f ps S1 := nr rfl
theorem w_callF {f : List PV → Hs → Res PV} {n nk : AM} : callF f n nk env S = (n env S).bind fun ps S1 => (nk env S1).bind fun qs S2 => f (ps ++ qs) S2 := nr rfl
theorem w_tru {m : EM} : truM m env S = (m env S).bind fun p S1 => truP p S1 := nr rfl
theorem w_notM {m : TM} : notM m env S = (m env S).bind fun b S1 => .ok (!b) S1 := nr rfl
theorem w_andM {m n : TM} : D.andM m n env S = (m env S).bind fun b S1 => if b = true then n env S1 else .ok false S1 := nr rfl
theorem w_orM {m n : TM} : D.orM m n env S = (m env S).bind fun b S1 => if b = true then .ok true S1 else n env S1 := nr rfl
theorem w_yes : yesM env S = .ok true S := nr rfl
theorem w_nilP : nilP env S = .ok [] S := nr rfl
theorem w_consP {mk mv : EM} {r : PM} : consP mk mv r env S = (mk env S).bind fun p S1 => (mv env S1).bind fun q S2 => (r env S2).bind fun ps S3 => .ok ((p, q) :: ps) S3 := nr rfl
def dispR (ps : List (PV × PV)) (S : Hs) : Res PV := match keysP ps with
  | some kvs => if kvs.length ≤ 15 then .ok (.ref S.length) (S ++ [.dct (dmerge [] kvs)]) else .bad
  | none => .bad
theorem w_disp {m : PM} : dispE m env S = (m env S).bind fun ps S1 => dispR ps S1 := nr rfl

/-! statements -/
theorem w_seq {m n : SM} : seqS m n env S = (m env S).thn n := by
  unfold seqS SR.thn
  cases m env S <;> rfl
theorem w_asg {m : EM} {t : GM} : asgS m t env S = (m env S).toS env fun p S1 => (t p env S1).toG := by
  unfold asgS liftS Res.toS
  cases m env S with
  | ok a S1 =>
    dsimp only
    cases t a env S1 <;> rfl
  | exc _ _ _ => rfl
  | bad => rfl
theorem w_ret {m : EM} : retS m env S = (m env S).toS env fun p S1 => .rt p S1 := by
  unfold retS liftS Res.toS
  cases m env S <;> rfl
theorem w_retN : retN env S = .rt .non S := nr rfl
theorem w_expr {m : EM} : exprS m env S = (m env S).toS env fun _ S1 => .nx env S1 := by
  unfold exprS liftS Res.toS
  cases m env S <;> rfl
theorem w_if {t : TM} {m n : SM} : ifS t m n env S = (t env S).toS env fun b S1 => if b = true then m env S1 else n env S1 := by
  unfold ifS liftS Res.toS
  cases e : t env S with
  | ok b S1 => cases b <;> rfl
  | exc _ _ _ => rfl
  | bad => rfl
theorem w_nx : nxS env S = .nx env S := nr rfl
theorem w_par {i j : Nat} {n : AM} : parS i j n env S = (n env S).toS env fun ps S1 => match ps with
    | [p, q] => .nx ((env.set i (some p)).set j (some q)) S1
    | _ => .bad := by
  unfold parS liftS Res.toS
  cases n env S <;> rfl
theorem w_for {it : IM} {t : GM} {m : SM} : forS it t m env S = (it env S).toS env fun d S1 => forGo (nxt d) t m FUEL 0 env S1 := by
  unfold forS liftS Res.toS
  cases it env S <;> rfl
theorem w_while {t : TM} {m : SM} : whileS t m env S = whileGo t m FUEL env S := nr rfl
theorem w_body {n : Nat} {m : SM} {ps : List PV} : bodyM n m ps S = (m (startE n ps) S).toR := by
  unfold bodyM SR.toR
  cases m (startE n ps) S <;> rfl
theorem w_set {i : Nat} : setG i p env S = .ok (env.set i (some p)) S := nr rfl
theorem w_tupG {n : Nat} {u : GsM} {ps : List PV} : tupG n u (.tup ps) env S = if ps.length = n then u ps env S else .bad := nr rfl
theorem w_consG {t : GM} {u : GsM} {r : List PV} : consG t u (p :: r) env S = (t p env S).bind fun env1 S1 => u r env1 S1 := nr rfl
theorem w_nilG : nilG [] env S = .ok env S := nr rfl
theorem w_sub {mo mi : EM} : subG mo mi p env S = (mo env S).bind fun o S1 => (mi env S1).bind fun i S2 => (setP o i p S2).bind fun _ S3 => .ok env S3 := nr rfl

/-! walks -/
theorem w_it {m : EM} : itM m env S = (m env S).bind fun p S1 => match iterP S1 p with
    | some d => .ok d S1
    | none => .bad := nr rfl
def rngR : List PV → Hs → Res ItD := fun ps S => match ps with
  | [.int j] => if -(2 ^ 62) ≤ j ∧ j < 2 ^ 62 then .ok (.rng 0 j.toNat) S else .bad
  | _ => .bad
theorem w_rng1 {n : AM} : rng1M n env S = (n env S).bind fun ps S1 => rngR ps S1 := nr rfl
theorem rngR_int {j : Int} (h : -(2 ^ 62) ≤ j ∧ j < 2 ^ 62) : rngR [.int j] S = .ok (.rng 0 j.toNat) S := if_pos h
def zipR : List PV → Hs → Res ItD := fun ps S1 => match ps with
    | [.tup xs, .tup ys] => .ok (.zip xs ys) S1
    | [.cl xs, .cl ys] => .ok (.zip xs ys) S1
    | _ => .bad
theorem w_zip {n : AM} : zipM n env S = (n env S).bind fun ps S1 => zipR ps S1 := nr rfl
theorem zipR_tup {xs ys : List PV} : zipR [.tup xs, .tup ys] S = .ok (.zip xs ys) S := nr rfl
theorem w_enum {n : AM} : enumM n env S = (n env S).bind fun ps S1 => match ps with
    | [.cl xs] => .ok (.enum xs) S1
    | _ => .bad := nr rfl
theorem w_lc {it : IM} {t : GM} {tt : TM} {te : EM} {vs : List Nat} : lcM it t tt te vs env S = (it env S).bind fun d S1 => (lcGo (nxt d) (lcTurn t tt te (wipeE env vs)) FUEL 0 [] S1).bind fun ys S2 => newL ys S2 := nr rfl
theorem w_lc2 {it : IM} {t : GM} {tt : TM} {it1 : IM} {t1 : GM} {tt1 : TM} {te : EM} {vs vs1 : List Nat} : lc2M it t tt it1 t1 tt1 te vs vs1 env S = (it env S).bind fun d S1 => (lc2Go (nxt d) (lc2Turn t tt it1 t1 tt1 te vs1 (wipeE env vs)) FUEL 0 [] S1).bind fun ys S2 => newL ys S2 := nr rfl
theorem w_turn {t : GM} {tt : TM} {te : EM} : lcTurn t tt te env p S = (t p env S).bind fun env1 S1 => (tt env1 S1).bind fun b S2 => if b = true then (te env1 S2).bind fun y S3 => .ok (some y) S3 else .ok none S2 := nr rfl
theorem w_turn2 {t : GM} {tt : TM} {it1 : IM} {t1 : GM} {tt1 : TM} {te : EM} {vs1 : List Nat} {acc : List PV} : lc2Turn t tt it1 t1 tt1 te vs1 env p acc S = (t p env S).bind fun env1 S1 => (tt env1 S1).bind fun b S2 => if b = true then (it1 env1 S2).bind fun d1 S3 => lcGo (nxt d1) (lcTurn t1 tt1 te (wipeE env1 vs1)) FUEL 0 acc S3 else .ok acc S2 := nr rfl
end

/-! ### what the primitives give -/
section
variable {S : Hs} {i j : Int} {x y : Str} {xs ys : List PV} {r q : Nat} {p : PV}
theorem p_addI : addP (.int i) (.int j) S = .ok (.int (i + j)) S := nr rfl
theorem p_subI : subP (.int i) (.int j) S = .ok (.int (i - j)) S := nr rfl
theorem p_mulR (h : j.natAbs < 2 ^ 64) : mulP (.int i) (.int j) S = .ok (.int (i * j)) S := if_pos (.inr h)
theorem p_mulL (h : i.natAbs < 2 ^ 64) : mulP (.int i) (.int j) S = .ok (.int (i * j)) S := if_pos (.inl h)
theorem p_div (h : 0 < j ∧ j < 1073741824) : fdivP (.int i) (.int j) S = .ok (.int (i / j)) S := if_pos h
theorem p_mod (h : 0 < j) : modP (.int i) (.int j) S = .ok (.int (i % j)) S := if_pos h
theorem p_addT (h : xs.length + ys.length ≤ sizeLine) : addP (.tup xs) (.tup ys) S = .ok (.tup (xs ++ ys)) S := if_pos h
theorem p_addS (h : x.length + y.length ≤ sizeLine) : addP (.str x) (.str y) S = .ok (.str (x ++ y)) S := if_pos h
theorem p_addL (h1 : S[r]? = some (.lst xs)) (h2 : S[q]? = some (.lst ys)) : addP (.ref r) (.ref q) S = newL (xs ++ ys) S := by
  simp only [addP, lstAt, h1, h2]
theorem p_new (h : xs.length ≤ sizeLine) : newL xs S = .ok (.ref S.length) (S ++ [.lst xs]) := if_pos h
theorem p_lt : ltP (.int i) (.int j) S = .ok (.bl (decide (i < j))) S := nr rfl
theorem p_le : leP (.int i) (.int j) S = .ok (.bl (decide (i ≤ j))) S := nr rfl
theorem p_gt : gtP (.int i) (.int j) S = .ok (.bl (decide (j < i))) S := nr rfl
theorem p_ge : geP (.int i) (.int j) S = .ok (.bl (decide (j ≤ i))) S := nr rfl
theorem p_neg : negP (.int i) S = .ok (.int (-i)) S := nr rfl
theorem p_truB {b : Bool} : truP (.bl b) S = .ok b S := nr rfl
theorem p_truT : truP (.tup xs) S = .ok (!xs.isEmpty) S := nr rfl
theorem p_lenT : lenP [.tup xs] S = .ok (.int xs.length) S := nr rfl
theorem p_lenC : lenP [.cl xs] S = .ok (.int xs.length) S := nr rfl
theorem p_lenL (h : S[r]? = some (.lst xs)) : lenP [.ref r] S = .ok (.int xs.length) S := by
  simp only [lenP, h]
theorem p_max : max2P [.int i, .int j] S = .ok (.int (if j > i then j else i)) S := nr rfl
theorem p_min : min2P [.int i, .int j] S = .ok (.int (if j < i then j else i)) S := nr rfl
theorem p_tupT : tupleP [.tup xs] S = .ok (.tup xs) S := nr rfl
theorem p_tupL (h : S[r]? = some (.lst xs)) : tupleP [.ref r] S = .ok (.tup xs) S := by
  simp only [tupleP, seqOf, lstAt, h]
theorem p_getL (h : S[r]? = some (.lst xs)) : getP (.ref r) (.int i) S = (match atI xs i with | some p => .ok p S | none => .bad) := by
  have e1 : dctAt S r = none := by unfold dctAt; rw [h]
  have e2 : lstAt S r = some xs := by unfold lstAt; rw [h]
  simp only [getP, e1, ixP, seqOf, e2] <;> cases atI xs i <;> rfl
theorem p_getT : getP (.tup xs) (.int i) S = (match atI xs i with | some p => .ok p S | none => .bad) := nr rfl
theorem p_setL (h : S[r]? = some (.lst xs)) : setP (.ref r) (.int i) p S = (match ixN xs.length i with | some j => .ok () (S.set r (.lst (xs.set j p))) | none => .bad) := by
  simp only [setP, h] <;> cases ixN xs.length i <;> rfl
theorem p_iterT : iterP S (.tup xs) = some (.sq xs) := nr rfl
theorem p_iterC : iterP S (.cl xs) = some (.sq xs) := nr rfl
theorem p_iterL (h : S[r]? = some (.lst xs)) : iterP S (.ref r) = some (.lst r) := by
  simp only [iterP, lstAt, h, Option.map]
theorem atI_lt {α : Type} {zs : List α} {k : Int} (h0 : 0 ≤ k) (h : k.toNat < zs.length) : atI zs k = some zs[k.toNat] := by
  obtain ⟨n, rfl⟩ := Int.eq_ofNat_of_zero_le h0
  have h' : n < zs.length := by simpa using h
  exact atI_nat (j := n) (List.getElem?_eq_getElem h')
end
/-! ### loops -/
theorem forGo_inv {nx : Nat → Hs → Option (Option PV)} {t : GM} {body : SM} (I : Nat → Sl → Hs → Prop) (n : Nat) (hend : ∀ env S, I n env S → nx n S = some none)
    (hstep : ∀ i env S, i < n → I i env S → ∃ p env1 S1 env2 S2, nx i S = some (some p) ∧ t p env S = .ok env1 S1 ∧ (body env1 S1 = .nx env2 S2 ∨ body env1 S1 = .ct env2 S2) ∧ I (i + 1) env2 S2) :
    ∀ (f i : Nat) (env : Sl) (S : Hs), i ≤ n → n - i < f → I i env S → ∃ env' S', forGo nx t body f i env S = .nx env' S' ∧ I n env' S' := by
  intro f
  induction f with
  | zero => intro i env S _ h; omega
  | succ f ih =>
    intro i env S hi hf hI
    by_cases e : i = n
    · subst e
      refine ⟨env, S, ?_, hI⟩
      unfold forGo
      rw [hend env S hI]
    · obtain ⟨p, env1, S1, env2, S2, h1, h2, h3, h4⟩ := hstep i env S (by omega) hI
      obtain ⟨env', S', h5, h6⟩ := ih (i + 1) env2 S2 (by omega) (by omega) h4
      refine ⟨env', S', ?_, h6⟩
      unfold forGo
      rw [h1]
      dsimp only
      rw [h2]
      dsimp only
      rcases h3 with h3 | h3 <;> rw [h3] <;> exact h5
/-- the turn goes on, so that J holds -/
def Nx (J : Sl → Hs → Prop) : SR → Prop
  | .nx env S => J env S
  | .ct env S => J env S
  | _ => False
theorem nx_nx {J : Sl → Hs → Prop} {env : Sl} {S : Hs} : Nx J (.nx env S) = J env S := nr rfl
theorem nx_ct {J : Sl → Hs → Prop} {env : Sl} {S : Hs} : Nx J (.ct env S) = J env S := nr rfl
theorem Nx.ex {J : Sl → Hs → Prop} {r : SR} (h : Nx J r) : ∃ env S, (r = .nx env S ∨ r = .ct env S) ∧ J env S := by
  cases r with
  | nx env S => exact ⟨env, S, .inl rfl, h⟩
  | ct env S => exact ⟨env, S, .inr rfl, h⟩
  | _ => exact h.elim
theorem for_inv {nx : Nat → Hs → Option (Option PV)} {t : GM} {body : SM} (I : Nat → Sl → Hs → Prop) (n : Nat) (hn : n < 10000000) (hend : ∀ env S, I n env S → nx n S = some none)
    (hstep : ∀ i env S, i < n → I i env S → ∃ p, nx i S = some (some p) ∧ Nx (I (i + 1)) ((t p env S).toG.thn body)) {env : Sl} {S : Hs} (h0 : I 0 env S) : ∃ env' S', forGo nx t body FUEL 0 env S = .nx env' S' ∧ I n env' S' := by
  refine forGo_inv I n hend (fun i env S hi hI => ?_) FUEL 0 env S (Nat.zero_le _) (by show n - 0 < 20000000; omega) h0
  obtain ⟨p, h1, h2⟩ := hstep i env S hi hI
  cases e : t p env S with
  | ok env1 S1 =>
    rw [e, toG_ok, thn_nx] at h2
    obtain ⟨env2, S2, h3, h4⟩ := h2.ex
    exact ⟨p, env1, S1, env2, S2, h1, e, h3, h4⟩
  | exc _ _ _ => rw [e] at h2; exact h2.elim
  | bad => rw [e] at h2; exact h2.elim
/-- a result, so that Q holds -/
def OkR {α : Type} (Q : α → Hs → Prop) : Res α → Prop
  | .ok a S => Q a S
  | _ => False
theorem okR_ok {α : Type} {Q : α → Hs → Prop} {a : α} {S : Hs} : OkR Q (.ok a S) = Q a S := nr rfl
theorem OkR.ex {α : Type} {Q : α → Hs → Prop} {r : Res α} (h : OkR Q r) : ∃ a S, r = .ok a S ∧ Q a S := by
  cases r with
  | ok a S => exact ⟨a, S, rfl, h⟩
  | _ => exact h.elim
theorem fuel_ok {n : Nat} (h : n < 10000000) : n - 0 < FUEL := by
  show n - 0 < 20000000
  omega
/-- a walk that gathers -/
theorem lcGo_inv {nx : Nat → Hs → Option (Option PV)} {turn : PV → Hs → Res (Option PV)} (I : Nat → List PV → Hs → Prop) (n : Nat) (hend : ∀ acc S, I n acc S → nx n S = some none)
    (hstep : ∀ i acc S, i < n → I i acc S → ∃ p S1, nx i S = some (some p) ∧ ((∃ y, turn p S = .ok (some y) S1 ∧ I (i + 1) (acc ++ [y]) S1) ∨ (turn p S = .ok none S1 ∧ I (i + 1) acc S1))) :
    ∀ (f i : Nat) (acc : List PV) (S : Hs), i ≤ n → n - i < f → I i acc S → ∃ ys S', lcGo nx turn f i acc S = .ok ys S' ∧ I n ys S' := by
  intro f
  induction f with
  | zero => intro i acc S _ h; omega
  | succ f ih =>
    intro i acc S hi hf hI
    by_cases e : i = n
    · subst e
      refine ⟨acc, S, ?_, hI⟩
      unfold lcGo
      rw [hend acc S hI]
    · obtain ⟨p, S1, h1, h2⟩ := hstep i acc S (by omega) hI
      rcases h2 with ⟨y, h2, h3⟩ | ⟨h2, h3⟩
      · obtain ⟨ys, S', h5, h6⟩ := ih (i + 1) _ S1 (by omega) (by omega) h3
        refine ⟨ys, S', ?_, h6⟩
        unfold lcGo
        rw [h1]
        dsimp only
        rw [h2]
        exact h5
      · obtain ⟨ys, S', h5, h6⟩ := ih (i + 1) _ S1 (by omega) (by omega) h3
        refine ⟨ys, S', ?_, h6⟩
        unfold lcGo
        rw [h1]
        dsimp only
        rw [h2]
        exact h5
theorem lc_inv {nx : Nat → Hs → Option (Option PV)} {turn : PV → Hs → Res (Option PV)} (I : Nat → List PV → Hs → Prop) (n : Nat) (hn : n < 10000000) (hend : ∀ acc S, I n acc S → nx n S = some none)
    (hstep : ∀ i acc S, i < n → I i acc S → ∃ p, nx i S = some (some p) ∧ OkR (fun o S1 => I (i + 1) (acc ++ o.toList) S1) (turn p S)) {S : Hs} {acc : List PV} (h0 : I 0 acc S) : ∃ ys S', lcGo nx turn FUEL 0 acc S = .ok ys S' ∧ I n ys S' := by
  refine lcGo_inv I n hend (fun i acc S hi hI => ?_) FUEL 0 acc S (Nat.zero_le _) (by show n - 0 < 20000000; omega) h0
  obtain ⟨p, h1, h2⟩ := hstep i acc S hi hI
  obtain ⟨o, S1, h3, h4⟩ := h2.ex
  cases o with
  | none => exact ⟨p, S1, h1, .inr ⟨h3, by simpa using h4⟩⟩
  | some y => exact ⟨p, S1, h1, .inl ⟨y, h3, h4⟩⟩
/-- a walk over known values whose turns write nothing -/
theorem lcGo_pure {nx : Nat → Hs → Option (Option PV)} {turn : PV → Hs → Res (Option PV)} {S : Hs} {xs : List PV} {g : PV → Option PV} (hx : ∀ i, nx i S = some xs[i]?) (ht : ∀ p ∈ xs, turn p S = .ok (g p) S) (hl : xs.length < 10000000) (acc : List PV) :
    lcGo nx turn FUEL 0 acc S = .ok (acc ++ xs.filterMap g) S := by
  have key : ∀ (f i : Nat) (acc : List PV), xs.length - i < f → lcGo nx turn f i acc S = .ok (acc ++ (xs.drop i).filterMap g) S := by
    intro f
    induction f with
    | zero => intro i acc h; omega
    | succ f ih =>
      intro i acc hf
      unfold lcGo
      rw [hx]
      by_cases hi : i < xs.length
      · rw [List.getElem?_eq_getElem hi]
        dsimp only
        rw [ht _ (List.getElem_mem hi), List.drop_eq_getElem_cons hi, List.filterMap_cons]
        cases e : g xs[i] with
        | none => dsimp only; rw [ih (i + 1) acc (by omega)]
        | some y => dsimp only; rw [ih (i + 1) _ (by omega), List.append_assoc]; rfl
      · rw [List.getElem?_eq_none (by omega)]
        dsimp only
        rw [List.drop_eq_nil_of_le (by omega)]
        simp
  have h := key FUEL 0 acc (by show xs.length - 0 < 20000000; omega)
  simpa using h
theorem lc2Go_pure {nx : Nat → Hs → Option (Option PV)} {turn : PV → List PV → Hs → Res (List PV)} {S : Hs} {xs : List PV} {g : PV → List PV} (hx : ∀ i, nx i S = some xs[i]?) (ht : ∀ p ∈ xs, ∀ acc, turn p acc S = .ok (acc ++ g p) S) (hl : xs.length < 10000000) :
    lc2Go nx turn FUEL 0 [] S = .ok (xs.flatMap g) S := by
  have key : ∀ (f i : Nat) (acc : List PV), xs.length - i < f → lc2Go nx turn f i acc S = .ok (acc ++ (xs.drop i).flatMap g) S := by
    intro f
    induction f with
    | zero => intro i acc h; omega
    | succ f ih =>
      intro i acc hf
      unfold lc2Go
      rw [hx]
      by_cases hi : i < xs.length
      · rw [List.getElem?_eq_getElem hi]
        dsimp only
        rw [ht _ (List.getElem_mem hi), List.drop_eq_getElem_cons hi, List.flatMap_cons]
        dsimp only
        rw [ih (i + 1) _ (by omega), List.append_assoc]
      · rw [List.getElem?_eq_none (by omega)]
        dsimp only
        rw [List.drop_eq_nil_of_le (by omega)]
        simp
  have h := key FUEL 0 [] (by show xs.length - 0 < 20000000; omega)
  simpa using h
theorem lcGo_map {α : Type} {nx : Nat → Hs → Option (Option PV)} {turn : PV → Hs → Res (Option PV)} {S : Hs} {xs : List α} {f : α → PV} {g : α → Option PV} (hx : ∀ i, nx i S = some (xs.map f)[i]?) (ht : ∀ a ∈ xs, turn (f a) S = .ok (g a) S) (hl : xs.length < 10000000) (acc : List PV) :
    lcGo nx turn FUEL 0 acc S = .ok (acc ++ xs.filterMap g) S := by
  have key : ∀ (k i : Nat) (acc : List PV), xs.length - i < k → lcGo nx turn k i acc S = .ok (acc ++ (xs.drop i).filterMap g) S := by
    intro k
    induction k with
    | zero => intro i acc h; omega
    | succ k ih =>
      intro i acc hf
      unfold lcGo
      rw [hx, List.getElem?_map]
      by_cases hi : i < xs.length
      · rw [List.getElem?_eq_getElem hi]
        dsimp only [Option.map]
        rw [ht _ (List.getElem_mem hi), List.drop_eq_getElem_cons hi, List.filterMap_cons]
        cases e : g xs[i] with
        | none => dsimp only; rw [ih (i + 1) acc (by omega)]
        | some y => dsimp only; rw [ih (i + 1) _ (by omega), List.append_assoc]; rfl
      · rw [List.getElem?_eq_none (by omega)]
        dsimp only [Option.map]
        rw [List.drop_eq_nil_of_le (by omega)]
        simp
  have h := key FUEL 0 acc (by show xs.length - 0 < 20000000; omega)
  simpa using h
theorem lc2Go_map {α : Type} {nx : Nat → Hs → Option (Option PV)} {turn : PV → List PV → Hs → Res (List PV)} {S : Hs} {xs : List α} {f : α → PV} {g : α → List PV} (hx : ∀ i, nx i S = some (xs.map f)[i]?) (ht : ∀ a ∈ xs, ∀ acc, turn (f a) acc S = .ok (acc ++ g a) S) (hl : xs.length < 10000000) :
    lc2Go nx turn FUEL 0 [] S = .ok (xs.flatMap g) S := by
  have key : ∀ (k i : Nat) (acc : List PV), xs.length - i < k → lc2Go nx turn k i acc S = .ok (acc ++ (xs.drop i).flatMap g) S := by
    intro k
    induction k with
    | zero => intro i acc h; omega
    | succ k ih =>
      intro i acc hf
      unfold lc2Go
      rw [hx, List.getElem?_map]
      by_cases hi : i < xs.length
      · rw [List.getElem?_eq_getElem hi]
        dsimp only [Option.map]
        rw [ht _ (List.getElem_mem hi), List.drop_eq_getElem_cons hi, List.flatMap_cons]
        dsimp only
        rw [ih (i + 1) _ (by omega), List.append_assoc]
      · rw [List.getElem?_eq_none (by omega)]
        dsimp only [Option.map]
        rw [List.drop_eq_nil_of_le (by omega)]
        simp
  have h := key FUEL 0 [] (by show xs.length - 0 < 20000000; omega)
  simpa using h
theorem nxt_sq {xs : List PV} {S : Hs} (i : Nat) : nxt (.sq xs) i S = some xs[i]? := rfl
theorem nxt_lst {r : Nat} {xs : List PV} {S : Hs} (h : S[r]? = some (.lst xs)) (i : Nat) : nxt (.lst r) i S = some xs[i]? := by
  show (lstAt S r).map _ = _
  unfold lstAt
  rw [h]
  rfl
theorem nxt_rng {n : Nat} {S : Hs} (i : Nat) : nxt (.rng 0 n) i S = some ((List.range n).map fun (j : Nat) => PV.int j)[i]? := by
  dsimp only [nxt]
  by_cases h : i < n
  · rw [if_pos h, List.getElem?_map, List.getElem?_range h]; simp
  · rw [if_neg h, List.getElem?_eq_none (by simpa using h)]
theorem nxt_zip {xs ys : List PV} {S : Hs} (i : Nat) : nxt (.zip xs ys) i S = some ((xs.zip ys).map fun z => PV.tup [z.1, z.2])[i]? := by
  dsimp only [nxt]
  rw [List.getElem?_map, List.zip, List.getElem?_zipWith]
  cases xs[i]? <;> cases ys[i]? <;> rfl
theorem nxt_enum {xs : List PV} {S : Hs} (i : Nat) : nxt (.enum xs) i S = some (xs[i]?.map fun z => PV.tup [.int i, z]) := by
  dsimp only [nxt]
  cases xs[i]? <;> rfl

/-! ### states -/
structure Keeps (S S' : Hs) (ex : List Nat) : Prop where
  len : S.length ≤ S'.length
  same : ∀ i, i < S.length → i ∉ ex → S'[i]? = S[i]?
section
variable {S S' S'' : Hs} {ex : List Nat} {o : PObj} {i j : Nat}
theorem Keeps.refl : Keeps S S ex := ⟨Nat.le_refl _, fun _ _ _ => rfl⟩
theorem Keeps.trans (h : Keeps S S' ex) (k : Keeps S' S'' ex) : Keeps S S'' ex :=
  ⟨Nat.le_trans h.len k.len, fun i hi hx => (k.same i (Nat.lt_of_lt_of_le hi h.len) hx).trans (h.same i hi hx)⟩
theorem Keeps.new : Keeps S (S ++ [o]) ex := ⟨by simp, fun i hi _ => List.getElem?_append_left hi⟩
theorem Keeps.set (h : j ∈ ex) : Keeps S (S.set j o) ex := ⟨by simp, fun i hi hx => List.getElem?_set_ne fun z => hx (by rw [← z]; exact h)⟩
theorem Keeps.at (h : Keeps S S' ex) (e : S[i]? = some o) (hx : i ∉ ex) : S'[i]? = some o := (h.same i (List.getElem?_eq_some_iff.mp e).1 hx).trans e
theorem at_new (e : S[i]? = some o) {o' : PObj} : (S ++ [o'])[i]? = some o := (List.getElem?_append_left (List.getElem?_eq_some_iff.mp e).1).trans e
theorem at_last : (S ++ [o])[S.length]? = some o := by simp
theorem at_set (e : S[i]? = some o) {o' : PObj} : (S.set i o')[i]? = some o' := List.getElem?_set_self (List.getElem?_eq_some_iff.mp e).1
theorem at_else (e : S[i]? = some o) {o' : PObj} (h : j ≠ i) : (S.set j o')[i]? = some o := (List.getElem?_set_ne h).trans e
theorem lt_of_at (e : S[i]? = some o) : i < S.length := (List.getElem?_eq_some_iff.mp e).1
end
end D

/-! D13: plain data: equality, order, sorting, text. -/
namespace D
open PySem PySem.Spec PyProof.Rows L2

/-- how a kind of plain data is written as values -/
structure Enc (α : Type) [DecidableEq α] where
  pv : α → PV
  dt : α → PyData
  dep : Nat
  ok : α → Prop
  sh : α → Prop
  sl : α → Nat
  toD : ∀ S a, D.toD (dep + 1) S (pv a) = some (dt a)
  lay : ∀ a, ok a → (dt a).canLay0 = true
  depth : ∀ a, (dt a).depth ≤ dep
  eqv : ∀ a b, PyData.eqv (dt a) (dt b) = decide (a = b)
  alike : ∀ a b, PySem.W.alike (dt a) (dt b) = true
  show_ : ∀ a, sh a → (dt a).showable = true ∧ (dt a).hasDict = false ∧ (dt a).shown.length ≤ sl a
  inj : ∀ a b, PySem.W.keyToks (dt a) = PySem.W.keyToks (dt b) → a = b

theorem omap_map {α β γ : Type} {f : β → Option γ} {g : α → β} {h : α → γ} : ∀ (xs : List α), (∀ x ∈ xs, f (g x) = some (h x)) → omap f (xs.map g) = some (xs.map h)
  | [], _ => rfl
  | x :: xs, e => by
    rw [List.map_cons, omap, e x List.mem_cons_self, omap_map xs fun y hy => e y (List.mem_cons_of_mem _ hy)]
    rfl
theorem toD_mono {S : Hs} : ∀ (n : Nat) (p : PV) (d : PyData), toD n S p = some d → toD (n + 1) S p = some d
  | 0, _, _, h => by cases h
  | n + 1, p, d, h => by
    have all : ∀ (ps : List PV) (ds : List PyData), omap (toD n S) ps = some ds → omap (toD (n + 1) S) ps = some ds := by
      intro ps
      induction ps with
      | nil => intro ds h; exact h
      | cons p ps ih =>
        intro ds h
        unfold omap at h ⊢
        split at h
        · rename_i y ys e1 e2
          rw [toD_mono n _ _ e1, ih _ e2]
          exact h
        · cases h
    unfold toD at h ⊢
    cases p with
    | tup xs =>
      dsimp only at h ⊢
      cases q : omap (toD n S) xs with
      | none => rw [q] at h; cases h
      | some ds => rw [q] at h; rw [all _ _ q]; exact h
    | cl xs =>
      dsimp only at h ⊢
      cases q : omap (toD n S) xs with
      | none => rw [q] at h; cases h
      | some ds => rw [q] at h; rw [all _ _ q]; exact h
    | ref i =>
      dsimp only at h ⊢
      cases q0 : lstAt S i with
      | none => rw [q0] at h; cases h
      | some xs =>
        rw [q0] at h
        dsimp only at h ⊢
        cases q : omap (toD n S) xs with
        | none => rw [q] at h; cases h
        | some ds => rw [q] at h; rw [all _ _ q]; exact h
    | _ => exact h
theorem toD_le {S : Hs} {n m : Nat} {p : PV} {d : PyData} (hnm : n ≤ m) (h : toD n S p = some d) : toD m S p = some d := by
  induction hnm with
  | refl => exact h
  | step _ ih => exact toD_mono _ _ _ ih

/-! ### kinds of data -/
def eInt : Enc Int where
  pv := .int
  dt := .int
  dep := 0
  ok _ := True
  sh i := i.natAbs.log2 < 1920
  sl i := (toString i : Str).length
  toD _ _ := rfl
  lay _ _ := rfl
  depth _ := by simp [PyData.depth]
  eqv a b := by
    simp only [PyData.eqv]
    by_cases h : a = b <;> simp [h]
  alike _ _ := rfl
  show_ a h := ⟨by simp only [PyData.showable]; exact decide_eq_true h, rfl, Nat.le_of_eq (by simp only [PyData.shown])⟩
  inj a b h := by
    simp only [PySem.W.keyToks] at h
    injection h with h _
    injection h
def eStr : Enc Str where
  pv := .str
  dt := .str
  dep := 0
  ok x := PyData.strOk x = true
  sh x := PyData.strOk x = true
  sl x := 10 * x.length + 2
  toD _ _ := rfl
  lay _ h := by simp only [PyData.canLay0]; exact h
  depth _ := by simp [PyData.depth]
  eqv a b := by
    simp only [PyData.eqv]
    by_cases h : a = b <;> simp [h]
  alike _ _ := rfl
  show_ x h := ⟨rfl, rfl, by
    simp only [PyData.shown]
    refine PySem.StrLaws.reprText_len x fun c hc => ?_
    have h1 := h
    unfold PyData.strOk at h1
    rw [← Array.all_toList] at h1
    have := List.all_eq_true.mp h1 c hc
    have h2 : c < 0x110000 := by simpa using this
    exact Nat.lt_trans h2 (by decide)⟩
  inj a b h := by
    simp only [PySem.W.keyToks] at h
    injection h with h _
    injection h with h
    exact PySem.W.str_of_cps h
section
variable {α : Type} [DecidableEq α] (e : Enc α)
theorem Enc.canAll {xs : List α} (h : ∀ x ∈ xs, e.ok x) : PyData.canLayAll0 (xs.map e.dt) = true := by
  induction xs with
  | nil => rfl
  | cons x xs ih =>
    rw [List.map_cons, PyData.canLayAll0, e.lay x (h x List.mem_cons_self), ih fun y hy => h y (List.mem_cons_of_mem _ hy)]
    rfl
theorem Enc.depAll (xs : List α) : PyData.depthAll (xs.map e.dt) ≤ e.dep := by
  induction xs with
  | nil => simp [PyData.depthAll]
  | cons x xs ih =>
    rw [List.map_cons, PyData.depthAll]
    exact Nat.max_le.mpr ⟨e.depth x, ih⟩
theorem Enc.eqvAll : ∀ xs ys : List α, PyData.eqvAll (xs.map e.dt) (ys.map e.dt) = decide (xs = ys)
  | [], [] => by simp [PyData.eqvAll]
  | [], _ :: _ => by simp [PyData.eqvAll]
  | _ :: _, [] => by simp [PyData.eqvAll]
  | x :: xs, y :: ys => by
    rw [List.map_cons, List.map_cons, PyData.eqvAll, e.eqv, Enc.eqvAll xs ys]
    by_cases h1 : x = y <;> by_cases h2 : xs = ys <;> simp [h1, h2]
theorem Enc.alikeAll : ∀ xs ys : List α, PySem.W.alikeAll (xs.map e.dt) (ys.map e.dt) = true
  | [], _ => by simp [PySem.W.alikeAll]
  | _ :: _, [] => by simp [PySem.W.alikeAll]
  | x :: xs, y :: ys => by
    rw [List.map_cons, List.map_cons, PySem.W.alikeAll, e.alike, Enc.alikeAll xs ys]
    rfl
def slAll {α : Type} (f : α → Nat) : List α → Nat
  | [] => 0
  | x :: xs => f x + 2 + slAll f xs
theorem slAll_le {α : Type} {f : α → Nat} {b : Nat} : ∀ {xs : List α}, (∀ x ∈ xs, f x ≤ b) → slAll f xs ≤ xs.length * (b + 2)
  | [], _ => by simp [slAll]
  | x :: xs, h => by
    have h1 := h x List.mem_cons_self
    have h2 := slAll_le (xs := xs) fun y hy => h y (List.mem_cons_of_mem _ hy)
    rw [slAll, List.length_cons, Nat.succ_mul]
    omega
theorem Enc.shAll {xs : List α} (h : ∀ x ∈ xs, e.sh x) : PyData.showableAll (xs.map e.dt) = true ∧ PyData.hasDictAll (xs.map e.dt) = false ∧ piled (PyData.shownAll (xs.map e.dt)) ≤ slAll e.sl xs := by
  induction xs with
  | nil => exact ⟨rfl, rfl, Nat.le_of_eq (by simp [PyData.shownAll, piled, slAll])⟩
  | cons x xs ih =>
    obtain ⟨i1, i2, i3⟩ := ih fun y hy => h y (List.mem_cons_of_mem _ hy)
    obtain ⟨h1, h2, h3⟩ := e.show_ x (h x List.mem_cons_self)
    refine ⟨?_, ?_, ?_⟩
    · rw [List.map_cons, PyData.showableAll, h1, i1]; rfl
    · rw [List.map_cons, PyData.hasDictAll, h2, i2]; rfl
    · rw [List.map_cons, PyData.shownAll, piled_cons, slAll]
      omega
theorem tupleText_le (ts : List Str) : (tupleText ts).length ≤ piled ts + 3 := by
  unfold tupleText
  rw [strLen_append, strLen_append]
  have e1 : (("(" : String) : Str).length = 1 := rfl
  have e2 : ((if ts.length == 1 then ",)" else ")" : String) : Str).length ≤ 2 := by split <;> decide
  cases ts with
  | nil =>
    have e3 : (Str.join ", " []).length = 0 := rfl
    rw [e1, e3]
    omega
  | cons t ts =>
    have := join_length_add (t :: ts) (by simp)
    rw [e1]
    omega
theorem textFrom_le : ∀ (ts : List Str) (k : Nat) (acc : Str), (textFrom k acc ts).length ≤ acc.length + piled ts
  | [], k, acc => by show acc.length ≤ _; omega
  | t :: r, k, acc => by
    have ih := textFrom_le r (k + 1) (acc ++ (if k > 0 then ", " else "" : String) ++ t)
    have e : (acc ++ (if k > 0 then ", " else "" : String) ++ t).length = acc.length + (if k > 0 then 2 else 0) + t.length := by
      rw [strLen_append, strLen_append]
      split <;> rfl
    rw [piled_cons]
    show (textFrom (k + 1) _ r).length ≤ _
    have : (if k > 0 then 2 else 0 : Nat) ≤ 2 := by split <;> omega
    omega
theorem listText_le (ts : List Str) : (listText ts).length ≤ piled ts + 2 := by
  unfold listText
  rw [strLen_append]
  have := textFrom_le ts 0 "["
  have e1 : (("[" : String) : Str).length = 1 := rfl
  have e2 : (("]" : String) : Str).length = 1 := rfl
  omega
/-- tuples of such -/
def eTup : Enc (List α) where
  pv xs := .tup (xs.map e.pv)
  dt xs := .tuple (xs.map e.dt)
  dep := e.dep + 1
  ok xs := ∀ x ∈ xs, e.ok x
  sh xs := ∀ x ∈ xs, e.sh x
  sl xs := slAll e.sl xs + 3
  toD S xs := by
    show (omap (D.toD (e.dep + 1) S) (xs.map e.pv)).map PyData.tuple = _
    rw [omap_map xs fun x _ => e.toD S x]
    rfl
  lay xs h := by simp only [PyData.canLay0]; exact e.canAll h
  depth xs := by
    simp only [PyData.depth]
    exact Nat.succ_le_succ (e.depAll xs)
  eqv a b := by simp only [PyData.eqv]; exact e.eqvAll a b
  alike a b := by simp only [PySem.W.alike]; exact e.alikeAll a b
  show_ xs h := by
    obtain ⟨h1, h2, h3⟩ := e.shAll h
    refine ⟨by simp only [PyData.showable]; exact h1, by simp only [PyData.hasDict]; exact h2, ?_⟩
    simp only [PyData.shown]
    exact Nat.le_trans (tupleText_le _) (by omega)
  inj a b h := by
    have he : PyData.eqv (.tuple (a.map e.dt)) (.tuple (b.map e.dt)) = decide (a = b) := by simp only [PyData.eqv]; exact e.eqvAll a b
    have ha : PySem.W.alike (.tuple (a.map e.dt)) (.tuple (b.map e.dt)) = true := by simp only [PySem.W.alike]; exact e.alikeAll a b
    by_cases hab : a = b
    · exact hab
    · have hf := (PySem.W.toks_eqv _ _ ha).2 (by rw [he]; exact decide_eq_false hab) [] [.inl 0]
      rw [List.append_nil, h] at hf
      have h1 : lexLt itemOrd (PySem.W.keyToks (.tuple (b.map e.dt))) (PySem.W.keyToks (.tuple (b.map e.dt)) ++ [.inl 0]) = true := by
        have := PySem.W.lex_pre (PySem.W.keyToks (.tuple (b.map e.dt))) [] [.inl 0]
        rw [List.append_nil] at this
        rw [this]
        rfl
      rw [h1] at hf
      have h2 : lexLt itemOrd (PySem.W.keyToks (.tuple (b.map e.dt))) (PySem.W.keyToks (.tuple (b.map e.dt))) = false := lex_irrefl _
      rw [h2] at hf
      cases hf
/-! ### what the primitives give on them -/
variable {S : Hs} {r q : Nat}
theorem Enc.toD66 (hd : e.dep ≤ 64) (a : α) : D.toD 66 S (e.pv a) = some (e.dt a) := toD_le (by omega) (e.toD S a)
theorem Enc.dat (hd : e.dep ≤ 64) {a : α} (h : e.ok a) : datP S (e.pv a) = some (e.dt a) := by
  have h1 : SeqAt.shaped (e.dt a) = true := by
    unfold SeqAt.shaped
    rw [e.lay a h, Bool.true_and]
    exact decide_eq_true (Nat.le_trans (e.depth a) hd)
  unfold datP
  rw [e.toD66 hd a]
  exact if_pos h1
theorem Enc.datL (hd : e.dep ≤ 63) {xs : List α} (h : ∀ x ∈ xs, e.ok x) (hr : S[r]? = some (.lst (xs.map e.pv))) : datP S (.ref r) = some (.list (xs.map e.dt)) := by
  have h0 : D.toD 66 S (.ref r) = some (.list (xs.map e.dt)) := by
    have e1 : lstAt S r = some (xs.map e.pv) := by unfold lstAt; rw [hr]
    show (match lstAt S r with | some xs => (omap (D.toD 65 S) xs).map PyData.list | none => none) = _
    rw [e1]
    show (omap (D.toD 65 S) (xs.map e.pv)).map PyData.list = _
    rw [omap_map xs fun x _ => toD_le (by omega) (e.toD S x)]
    rfl
  have h1 : SeqAt.shaped (.list (xs.map e.dt)) = true := by
    unfold SeqAt.shaped
    have c : (PyData.list (xs.map e.dt)).canLay0 = true := by simp only [PyData.canLay0]; exact e.canAll h
    rw [c, Bool.true_and]
    refine decide_eq_true ?_
    simp only [PyData.depth]
    have := e.depAll xs
    omega
  unfold datP
  rw [h0]
  exact if_pos h1
theorem datP_str {x : Str} {d : PyData} (h : datP S (.str x) = some d) : d = .str x := by
  unfold datP at h
  have e : D.toD 66 S (.str x) = some (.str x) := rfl
  rw [e] at h
  dsimp only at h
  split at h
  · cases h; rfl
  · cases h
theorem eqv_str {a b : Str} : PyData.eqv (.str a) (.str b) = decide (a = b) := eStr.eqv a b
theorem eqP_dat {p z : PV} {d d' : PyData} (h1 : datP S p = some d) (h2 : datP S z = some d') : eqP p z S = .ok (.bl (PyData.eqv d d')) S := by
  unfold eqP
  split
  · rw [datP_str h1, datP_str h2, eqv_str]
  · unfold eqDP; rw [h1, h2]
theorem neP_dat {p z : PV} {d d' : PyData} (h1 : datP S p = some d) (h2 : datP S z = some d') : neP p z S = .ok (.bl (!PyData.eqv d d')) S := by
  unfold neP
  split
  · rw [datP_str h1, datP_str h2, eqv_str]
  · unfold neDP; rw [h1, h2]
theorem p_eqB {a b : Bool} : eqP (.bl a) (.bl b) S = .ok (.bl (a == b)) S := by
  rw [eqP_dat (d := .bool a) (d' := .bool b) rfl rfl]
  simp only [PyData.eqv]
theorem p_neB {a b : Bool} : neP (.bl a) (.bl b) S = .ok (.bl (!(a == b))) S := by
  rw [neP_dat (d := .bool a) (d' := .bool b) rfl rfl]
  simp only [PyData.eqv]
theorem p_eqS {a b : Str} : eqP (.str a) (.str b) S = .ok (.bl (decide (a = b))) S := nr rfl
theorem p_neS {a b : Str} : neP (.str a) (.str b) S = .ok (.bl (!decide (a = b))) S := nr rfl
theorem Enc.eq_ (hd : e.dep ≤ 64) {a b : α} (ha : e.ok a) (hb : e.ok b) : eqP (e.pv a) (e.pv b) S = .ok (.bl (decide (a = b))) S := by
  rw [eqP_dat (e.dat hd ha) (e.dat hd hb), e.eqv]
theorem Enc.ne_ (hd : e.dep ≤ 64) {a b : α} (ha : e.ok a) (hb : e.ok b) : neP (e.pv a) (e.pv b) S = .ok (.bl (!decide (a = b))) S := by
  rw [neP_dat (e.dat hd ha) (e.dat hd hb), e.eqv]
theorem p_eqI {a b : Int} : eqP (.int a) (.int b) S = .ok (.bl (decide (a = b))) S := eInt.eq_ (by decide) trivial trivial
theorem p_neI {a b : Int} : neP (.int a) (.int b) S = .ok (.bl (!decide (a = b))) S := eInt.ne_ (by decide) trivial trivial
theorem Enc.eqL (hd : e.dep ≤ 63) {xs ys : List α} (ha : ∀ x ∈ xs, e.ok x) (hb : ∀ x ∈ ys, e.ok x) (h1 : S[r]? = some (.lst (xs.map e.pv))) (h2 : S[q]? = some (.lst (ys.map e.pv))) : eqP (.ref r) (.ref q) S = .ok (.bl (decide (xs = ys))) S := by
  rw [eqP_dat (e.datL hd ha h1) (e.datL hd hb h2)]
  simp only [PyData.eqv, e.eqvAll]
theorem Enc.neL (hd : e.dep ≤ 63) {xs ys : List α} (ha : ∀ x ∈ xs, e.ok x) (hb : ∀ x ∈ ys, e.ok x) (h1 : S[r]? = some (.lst (xs.map e.pv))) (h2 : S[q]? = some (.lst (ys.map e.pv))) : neP (.ref r) (.ref q) S = .ok (.bl (!decide (xs = ys))) S := by
  rw [neP_dat (e.datL hd ha h1) (e.datL hd hb h2)]
  simp only [PyData.eqv, e.eqvAll]
theorem Enc.anyD (a : α) : ∀ ys : List α, ((ys.map e.dt).any fun z => PyData.eqv z (e.dt a)) = decide (a ∈ ys)
  | [] => by simp
  | y :: ys => by
    rw [List.map_cons, List.any_cons, e.eqv, Enc.anyD a ys]
    by_cases h1 : y = a
    · subst h1; simp
    · have : ¬ a = y := fun z => h1 z.symm
      simp [h1, this]
theorem Enc.inT (hd : e.dep ≤ 63) {a : α} {ys : List α} [dec : Decidable (a ∈ ys)] (ha : e.ok a) (hb : ∀ x ∈ ys, e.ok x) : inP (e.pv a) (.tup (ys.map e.pv)) S = .ok (.bl (decide (a ∈ ys))) S := by
  have h2 : datP S (.tup (ys.map e.pv)) = some (.tuple (ys.map e.dt)) := (eTup e).dat (show e.dep + 1 ≤ 64 by omega) hb
  unfold inP inB
  rw [e.dat (by omega) ha, h2]
  dsimp only
  show (match (some ((ys.map e.dt).any fun z => PyData.eqv z (e.dt a)) : Option Bool) with | some b => Res.ok (PV.bl b) S | none => .bad) = _
  rw [e.anyD]
  dsimp only
  congr
def Enc.le (a b : α) : Bool := PySem.W.dataLe false e.dt a b
theorem Enc.sort (hd : e.dep ≤ 64) {xs : List α} (hl : xs.length ≤ sizeLine) (hs : sortB (xs.map e.dt) = true) (hr : S[r]? = some (.lst (xs.map e.pv))) : sortP [.ref r] S = .ok (.ref S.length) (S ++ [.lst ((xs.mergeSort e.le).map e.pv)]) := by
  have e0 : ∀ a : α, encD S (e.pv a) = e.dt a := fun a => by unfold encD; rw [e.toD66 hd a]; rfl
  have e1 : lstAt S r = some (xs.map e.pv) := by unfold lstAt; rw [hr]
  have e2 : (xs.map e.pv).map (encD S) = xs.map e.dt := by
    rw [List.map_map]
    exact List.map_congr_left fun a _ => e0 a
  have c1 : (omap (D.toD 66 S) (xs.map e.pv)).isSome = true := by
    rw [omap_map xs fun x _ => e.toD66 hd x]
    rfl
  have c2 : alikeB (xs.map e.dt) = true := by
    unfold alikeB
    rw [List.all_eq_true]
    intro d hd'
    rw [List.all_eq_true]
    intro d2 hd2
    obtain ⟨a, _, rfl⟩ := List.mem_map.mp hd'
    obtain ⟨b, _, rfl⟩ := List.mem_map.mp hd2
    exact e.alike a b
  have c4 : ((xs.map e.pv).all fun q => decide ((encD S q).depth ≤ 64)) = true := by
    rw [List.all_eq_true]
    intro p hp
    obtain ⟨a, _, rfl⟩ := List.mem_map.mp hp
    rw [e0]
    exact decide_eq_true (Nat.le_trans (e.depth a) hd)
  have c5 : (xs.mergeSort e.le).map e.pv = (xs.map e.pv).mergeSort (PySem.W.dataLe false (encD S)) := by
    refine List.map_mergeSort fun a _ b _ => ?_
    show PySem.W.dataLe false e.dt a b = PySem.W.dataLe false (encD S) (e.pv a) (e.pv b)
    show PySem.W.sortLe (listOrd itemOrd) false (fun b => PySem.W.keyToks (e.dt b)) a b = PySem.W.sortLe (listOrd itemOrd) false (fun b => PySem.W.keyToks (encD S b)) (e.pv a) (e.pv b)
    unfold PySem.W.sortLe
    simp only [e0]
  show (match lstAt S r with | some xs => (if (omap (D.toD 66 S) xs).isSome = true ∧ alikeB (xs.map (encD S)) = true ∧ sortB (xs.map (encD S)) = true ∧ (xs.all fun q => decide ((encD S q).depth ≤ 64)) = true then newL (xs.mergeSort (PySem.W.dataLe false (encD S))) S else .bad) | none => .bad) = _
  rw [e1]
  dsimp only
  rw [e2, if_pos ⟨c1, c2, hs, c4⟩, ← c5]
  exact p_new (by rw [List.length_map, List.length_mergeSort]; exact hl)
theorem sorted_unique {α : Type} {le : α → α → Bool} (anti : ∀ a b, le a b = true → le b a = true → a = b) : ∀ {xs ys : List α}, xs.Pairwise (fun a b => le a b = true) → ys.Pairwise (fun a b => le a b = true) → xs.Perm ys → xs = ys
  | [], ys, _, _, h => (List.Perm.nil_eq h)
  | x :: xs, [], _, _, h => by have := h.length_eq; simp at this
  | x :: xs, y :: ys, h1, h2, h => by
    obtain ⟨a1, a2⟩ := List.pairwise_cons.mp h1
    obtain ⟨b1, b2⟩ := List.pairwise_cons.mp h2
    have exy : x = y := by
      have hx : x ∈ y :: ys := h.subset List.mem_cons_self
      have hy : y ∈ x :: xs := h.symm.subset List.mem_cons_self
      rcases List.mem_cons.mp hx with e | hx
      · exact e
      · rcases List.mem_cons.mp hy with e | hy
        · exact e.symm
        · exact anti x y (a1 y hy) (b1 x hx)
    subst exy
    rw [sorted_unique anti a2 b2 (List.Perm.cons_inv h)]
theorem Enc.le_total : PySem.W.TotalLe e.le := PySem.W.sortLe_total (listOrd itemOrd) false fun b => PySem.W.keyToks (e.dt b)
theorem Enc.le_anti (a b : α) (h1 : e.le a b = true) (h2 : e.le b a = true) : a = b := by
  have h1' : (!lexLt itemOrd (PySem.W.keyToks (e.dt b)) (PySem.W.keyToks (e.dt a))) = true := h1
  have h2' : (!lexLt itemOrd (PySem.W.keyToks (e.dt a)) (PySem.W.keyToks (e.dt b))) = true := h2
  refine e.inj a b ?_
  rw [Bool.not_eq_true'] at h1' h2'
  exact (listOrd itemOrd).total _ _ h2' h1'
theorem Enc.sort_perm {xs ys : List α} (h : xs.Perm ys) : xs.mergeSort e.le = ys.mergeSort e.le := by
  have tr : ∀ a b c, e.le a b = true → e.le b c = true → e.le a c = true := e.le_total.trans
  have to : ∀ a b, (e.le a b || e.le b a) = true := fun a b => Bool.or_eq_true_iff.mpr (e.le_total.total a b)
  refine sorted_unique e.le_anti (List.pairwise_mergeSort tr to xs) (List.pairwise_mergeSort tr to ys) ?_
  exact (List.mergeSort_perm xs e.le).trans (h.trans (List.mergeSort_perm ys e.le).symm)
theorem Enc.reprL (hd : e.dep ≤ 63) {xs : List α} (h : ∀ x ∈ xs, e.sh x) (hb : slAll e.sl xs + 2 ≤ sizeLine) (hr : S[r]? = some (.lst (xs.map e.pv))) : reprP [.ref r] S = .ok (.str (PyData.shown (.list (xs.map e.dt)))) S := by
  have h0 : D.toD 66 S (.ref r) = some (.list (xs.map e.dt)) := by
    have e1 : lstAt S r = some (xs.map e.pv) := by unfold lstAt; rw [hr]
    show (match lstAt S r with | some xs => (omap (D.toD 65 S) xs).map PyData.list | none => none) = _
    rw [e1]
    show (omap (D.toD 65 S) (xs.map e.pv)).map PyData.list = _
    rw [omap_map xs fun x _ => toD_le (by omega) (e.toD S x)]
    rfl
  obtain ⟨h1, h2, h3⟩ := e.shAll h
  show (match D.toD 66 S (.ref r) with | some d => (if d.showable = true ∧ d.hasDict = false ∧ d.shown.length ≤ sizeLine ∧ d.depth ≤ 66 then Res.ok (PV.str d.shown) S else .bad) | none => .bad) = _
  rw [h0]
  dsimp only
  refine if_pos ⟨by simp only [PyData.showable]; exact h1, by simp only [PyData.hasDict]; exact h2, ?_, ?_⟩
  · simp only [PyData.shown]
    exact Nat.le_trans (listText_le _) (by omega)
  · simp only [PyData.depth]
    have := e.depAll xs
    omega
end
end D

namespace K60
open PySem PySem.Spec PyProof.Rows L2 D
def topS (i : Nat) : Stmt := PySem.Challenge.pw_dispatchers_k60_mixtures.main.body.getD i (.Pass ⟨0, 0, 0, 0⟩)
/-! mixtures: slots 0=one 1=other 2=found 3=first 4=second 5=choices 6=front 7=kind -/
def m_mixtures_e1 : EM :=
  (op2 (binP .Add) (varM 6) (tupE (consA (varM 7) nilA)))
def m_mixtures_b1 : SM :=
  (seqS (asgS (lstE (consA (varM 3) (consA (varM 4) nilA))) (setG 5))
  (seqS (ifS (orM (truM (op2 (cmpP .Eq) (varM 3) (pureM (.str "any")))) (truM (op2 (cmpP .Eq) (varM 3) (varM 4)))) (asgS (lstE (consA (varM 4) nilA)) (setG 5)) (ifS (truM (op2 (cmpP .Eq) (varM 4) (pureM (.str "any")))) (asgS (lstE (consA (varM 3) nilA)) (setG 5)) nxS))
  (asgS (lc2M (itM (varM 2)) (setG 6) yesM (itM (varM 5)) (setG 7) yesM m_mixtures_e1 [6, 7] [7]) (setG 2))))
def m_mixtures : SM :=
  (seqS (asgS (lstE (consA (tupE nilA) nilA)) (setG 2))
  (seqS (forS (zipM (consA (varM 0) (consA (varM 1) nilA))) (tupG 2 (consG (setG 3) (consG (setG 4) nilG))) m_mixtures_b1)
  (retS (callM tupleP (consA (callM sortP (consA (varM 2) nilA)) nilA)))))
def f_mixtures_2 : List PV → Hs → Res PV := fun args S => bodyM 8 m_mixtures (pick [0, 1] args) S
def f_mixtures_0_one_other : List PV → Hs → Res PV := fun args S => bodyM 8 m_mixtures (pick [0, 1] args) S
/-! _law_mixtures: slots 0=_law_near 1=_law_far 2=_law_found 3=_law_a 4=_law_b 5=_law_front 6=_law_some 7=_law_longer 8=_law_x -/
def m__law_mixtures_e1 : EM :=
  (op2 (binP .Add) (varM 5) (tupE (consA (varM 8) nilA)))
def m__law_mixtures_b1 : SM :=
  (asgS (op2 (binP .Add) (varM 7) (lcM (itM (varM 6)) (setG 8) yesM m__law_mixtures_e1 [8])) (setG 7))
def m__law_mixtures_b2 : SM :=
  (seqS (parS 6 7 (consA (lstE (consA (varM 3) (consA (varM 4) nilA))) (consA (lstE nilA) nilA)))
  (seqS (ifS (orM (truM (op2 (cmpP .Eq) (varM 3) (varM 4))) (truM (op2 (cmpP .Eq) (varM 3) (pureM (.str "any"))))) (asgS (lstE (consA (varM 4) nilA)) (setG 6)) (ifS (truM (op2 (cmpP .Eq) (varM 4) (pureM (.str "any")))) (asgS (lstE (consA (varM 3) nilA)) (setG 6)) nxS))
  (seqS (forS (itM (varM 2)) (setG 5) m__law_mixtures_b1)
  (asgS (varM 7) (setG 2)))))
def m__law_mixtures : SM :=
  (seqS (asgS (lstE (consA (tupE nilA) nilA)) (setG 2))
  (seqS (forS (zipM (consA (varM 0) (consA (varM 1) nilA))) (tupG 2 (consG (setG 3) (consG (setG 4) nilG))) m__law_mixtures_b2)
  (retS (callM tupleP (consA (callM sortP (consA (varM 2) nilA)) nilA)))))
def f__law_mixtures_2 : List PV → Hs → Res PV := fun args S => bodyM 9 m__law_mixtures (pick [0, 1] args) S
/-! _law_next: slots 0=_law_m 1=_law_below 2=_law_great 3=_law_at 4=_law_found 5=_law_run -/
def m__law_next : SM :=
  (seqS (asgS (tupE (consA (op2 (binP .Add) (op2 getP (varM 0) (pureM (.str "turn"))) (pureM (.int 1))) (consA (op2 getP (varM 0) (pureM (.str "great"))) nilA))) (tupG 2 (consG (subG (varM 0) (pureM (.str "turn"))) (consG (setG 2) nilG))))
  (seqS (asgS (op2 (binP .Mod) (op2 getP (varM 0) (pureM (.str "turn"))) (callM max2P (consA (pureM (.int 1)) (consA (callM lenP (consA (varM 2) nilA)) nilA)))) (setG 3))
  (seqS (ifS (andM (truM (op2 (cmpP .NotEq) (varM 2) (lstE nilA))) (truM (op2 (cmpP .Gt) (op2 getP (varM 2) (varM 3)) (pureM (.int 0))))) (seqS (asgS (op2 (binP .Mod) (op2 getP (varM 2) (varM 3)) (varM 1)) (setG 4))
  (seqS (asgS (op2 (binP .FloorDiv) (op2 getP (varM 2) (varM 3)) (varM 1)) (subG (varM 2) (varM 3)))
  (retS (varM 4)))) nxS)
  (seqS (asgS (op2 (binP .Add) (op2 (binP .Add) (op2 (binP .Mult) (op2 getP (varM 0) (pureM (.str "run"))) (pureM (.int 6364136223846793))) (op2 (binP .Mult) (pureM (.int 1442695040888963)) (op2 getP (varM 0) (pureM (.str "turn"))))) (pureM (.int 13))) (setG 5))
  (seqS (asgS (op2 (binP .Mod) (varM 5) (pureM (.int 2305843009213693951))) (subG (varM 0) (pureM (.str "run"))))
  (retS (op2 (binP .Mod) (op2 (binP .FloorDiv) (op2 getP (varM 0) (pureM (.str "run"))) (pureM (.int 32749))) (varM 1))))))))
def f__law_next_2 : List PV → Hs → Res PV := fun args S => bodyM 6 m__law_next (pick [0, 1] args) S
/-! _law_of: slots 0=_law_m 1=_law_items -/
def m__law_of : SM :=
  (retS (op2 getP (varM 1) (callF f__law_next_2 (consA (varM 0) (consA (callM lenP (consA (varM 1) nilA)) nilA)) nilA)))
def f__law_of_2 : List PV → Hs → Res PV := fun args S => bodyM 2 m__law_of (pick [0, 1] args) S
/-! _law_begun: slots 0=_law_script 1=_law_run 2=_law_k 3=_law_cell -/
def m__law_begun_e1 : EM :=
  (varM 3)
def m__law_begun_c1 : TM :=
  (truM (op2 (cmpP .GtE) (varM 3) (op2 (binP .Pow) (pureM (.int 10)) (pureM (.int 18)))))
def m__law_begun_b1 : SM :=
  (asgS (op2 (binP .Mod) (op2 (binP .Add) (op2 (binP .Add) (op2 (binP .Mult) (varM 1) (pureM (.int 982451653))) (varM 3)) (op2 (binP .Mult) (pureM (.int 104729)) (varM 2))) (pureM (.int 2305843009213693951))) (setG 1))
def m__law_begun : SM :=
  (seqS (asgS (op2 (binP .Add) (pureM (.int 32452867)) (op2 (binP .Mult) (pureM (.int 43)) (callM lenP (consA (varM 0) nilA)))) (setG 1))
  (seqS (forS (enumM (consA (varM 0) nilA)) (tupG 2 (consG (setG 2) (consG (setG 3) nilG))) m__law_begun_b1)
  (retS (dispE (consP (pureM (.str "run")) (varM 1) (consP (pureM (.str "great")) (lcM (itM (varM 0)) (setG 3) m__law_begun_c1 m__law_begun_e1 [3]) (consP (pureM (.str "turn")) (pureM (.int 0)) nilP)))))))
def f__law_begun_1 : List PV → Hs → Res PV := fun args S => bodyM 4 m__law_begun (pick [0] args) S
/-! law: slots 0=_law_script 1=_law_m 2=_law_turn 3=_law_count 4=_law_near 5=_law_far 6=_law_due 7=_law_told 8=_law_lacking 9=_law_k -/
def m_law_e1 : EM :=
  (varM 9)
def m_law_c1 : TM :=
  (andM (truM (op2 (cmpP .Eq) (op2 getP (varM 4) (varM 9)) (pureM (.str "any")))) (truM (op2 (cmpP .NotEq) (op2 getP (varM 5) (varM 9)) (pureM (.str "any")))))
def m_law_e2 : EM :=
  (callF f__law_of_2 (consA (varM 1) (consA (lstE (consA (pureM (.str "any")) (consA (pureM (.str "any")) (consA (pureM (.str "a")) (consA (pureM (.str "b")) (consA (pureM (.str "ab_1")) nilA)))))) nilA)) nilA)
def m_law_e3 : EM :=
  (callF f__law_of_2 (consA (varM 1) (consA (lstE (consA (pureM (.str "any")) (consA (pureM (.str "any")) (consA (pureM (.str "a")) (consA (pureM (.str "b")) (consA (pureM (.str "ab_1")) nilA)))))) nilA)) nilA)
def m_law_b1 : SM :=
  (seqS (asgS (op2 (binP .Add) (pureM (.int 1)) (callF f__law_next_2 (consA (varM 1) (consA (pureM (.int 3)) nilA)) nilA)) (setG 3))
  (seqS (asgS (callM tupleP (consA (lcM (rng1M (consA (varM 3) nilA)) (setG 9) yesM m_law_e3 [9]) nilA)) (setG 4))
  (seqS (asgS (callM tupleP (consA (lcM (rng1M (consA (varM 3) nilA)) (setG 9) yesM m_law_e2 [9]) nilA)) (setG 5))
  (seqS (asgS (callF f__law_mixtures_2 (consA (varM 4) (consA (varM 5) nilA)) nilA) (setG 6))
  (seqS (asgS (lstE (consA (callF f_mixtures_2 (consA (varM 4) (consA (varM 5) nilA)) nilA) (consA (callF f_mixtures_2 (consA (varM 5) (consA (varM 4) nilA)) nilA) (consA (callF f_mixtures_0_one_other nilA (consA (varM 4) (consA (varM 5) nilA))) (consA (callF f_mixtures_2 (consA (varM 4) (consA (varM 4) nilA)) nilA) nilA))))) (setG 7))
  (seqS (ifS (truM (op2 (cmpP .NotEq) (callM reprP (consA (varM 7) nilA)) (callM reprP (consA (lstE (consA (varM 6) (consA (varM 6) (consA (varM 6) (consA (tupE (consA (varM 4) nilA)) nilA))))) nilA)))) (retS (pureM (.bl false))) nxS)
  (seqS (asgS (lcM (rng1M (consA (varM 3) nilA)) (setG 9) m_law_c1 m_law_e1 [9]) (setG 8))
  (ifS (truM (op2 (cmpP .NotEq) (op2 (cmpP .In) (varM 4) (op2 getP (varM 7) (pureM (.int 0)))) (op2 (cmpP .Eq) (varM 8) (lstE nilA)))) (retS (pureM (.bl false))) nxS))))))))
def m_law : SM :=
  (seqS (asgS (callF f__law_begun_1 (consA (varM 0) nilA) nilA) (setG 1))
  (seqS (forS (rng1M (consA (op2 (binP .Add) (pureM (.int 4)) (callM min2P (consA (pureM (.int 6)) (consA (callM lenP (consA (varM 0) nilA)) nilA)))) nilA)) (setG 2) m_law_b1)
  (seqS (asgS (callF f_mixtures_2 (consA (tupE (consA (pureM (.str "a")) (consA (pureM (.str "b")) (consA (pureM (.str "any")) nilA)))) (consA (tupE (consA (pureM (.str "c")) (consA (pureM (.str "b")) (consA (pureM (.str "d")) nilA)))) nilA)) nilA) (setG 7))
  (retS (andE (op2 (cmpP .Eq) (varM 7) (tupE (consA (tupE (consA (pureM (.str "a")) (consA (pureM (.str "b")) (consA (pureM (.str "d")) nilA)))) (consA (tupE (consA (pureM (.str "c")) (consA (pureM (.str "b")) (consA (pureM (.str "d")) nilA)))) nilA)))) (op2 (cmpP .Eq) (callF f_mixtures_2 (consA (tupE (consA (pureM (.str "any")) nilA)) (consA (tupE (consA (pureM (.str "any")) nilA)) nilA)) nilA) (tupE (consA (tupE (consA (pureM (.str "any")) nilA)) nilA))))))))
def f_law_1 : List PV → Hs → Res PV := fun args S => bodyM 10 m_law (pick [0] args) S

abbrev s_mixtures : Stmt := topS 1
abbrev N_mixtures : List Str := ["one", "other", "found", "first", "second", "choices", "front", "kind"]
theorem sc_mixtures : FnScope N_mixtures ["one", "other"] (defScope s_mixtures) := ⟨rfl, rfl, rfl, by decide +kernel, rfl, by decide +kernel, by decide +kernel⟩
theorem v_mixtures_found : vB N_mixtures (defScope s_mixtures) 2 "found" = true := by decide +kernel
theorem g_mixtures_sorted : gB (defScope s_mixtures) "sorted" = true := by decide +kernel
theorem g_mixtures_tuple : gB (defScope s_mixtures) "tuple" = true := by decide +kernel
theorem v_mixtures_other : vB N_mixtures (defScope s_mixtures) 1 "other" = true := by decide +kernel
theorem v_mixtures_one : vB N_mixtures (defScope s_mixtures) 0 "one" = true := by decide +kernel
theorem g_mixtures_zip : gB (defScope s_mixtures) "zip" = true := by decide +kernel
theorem t_mixtures_second : tB' N_mixtures (defScope s_mixtures) allB 4 "second" = true := by decide +kernel
theorem t_mixtures_first : tB' N_mixtures (defScope s_mixtures) allB 3 "first" = true := by decide +kernel
theorem t_mixtures_found : tB' N_mixtures (defScope s_mixtures) allB 2 "found" = true := by decide +kernel
theorem v_mixtures_first : vB N_mixtures (defScope s_mixtures) 3 "first" = true := by decide +kernel
theorem v_mixtures_second : vB N_mixtures (defScope s_mixtures) 4 "second" = true := by decide +kernel
theorem t_mixtures_choices : tB' N_mixtures (defScope s_mixtures) allB 5 "choices" = true := by decide +kernel
theorem b_mixtures {G : Pg} {k : Nat} {X : Cx}  (c : Ct G k N_mixtures (defScope s_mixtures) allB X) : DSs X (defBody s_mixtures) m_mixtures :=
  (dss_cons (s_set c t_mixtures_found (e_lst (a_cons (e_tup a_nil) a_nil)))
  (dss_cons (s_for c (i_zip c g_mixtures_zip (a_cons (e_var c v_mixtures_one) (a_cons (e_var c v_mixtures_other) a_nil))) (g_tup c (gs_cons (g_nm c t_mixtures_first) (gs_cons (g_nm c t_mixtures_second) gs_nil)))
  (dss_cons (s_set c t_mixtures_choices (e_lst (a_cons (e_var c v_mixtures_first) (a_cons (e_var c v_mixtures_second) a_nil))))
  (dss_cons (ds_if (DW.dt (dw_or (t_cmp c (e_var c v_mixtures_first) de_str) (dw_or1 (t_cmp c (e_var c v_mixtures_first) (e_var c v_mixtures_second)))))
  (dss_one (s_set c t_mixtures_choices (e_lst (a_cons (e_var c v_mixtures_second) a_nil))))
  (dss_one (ds_if (t_cmp c (e_var c v_mixtures_second) de_str)
  (dss_one (s_set c t_mixtures_choices (e_lst (a_cons (e_var c v_mixtures_first) a_nil))))
  dss_nil)))
  (dss_one (s_setLc2 c [("front", 6), ("kind", 7)] [7] t_mixtures_found (by decide +kernel) (i_seq (e_var c v_mixtures_found)) (by decide +kernel) (by decide +kernel) (by decide +kernel) (fun _ c1 => (g_nm c1 (by decide +kernel))) (fun _ c1 => dts_nil) (fun _ c1 => (i_seq (e_var c1 (by decide +kernel)))) (fun _ c1 => (g_nm c1 (by decide +kernel))) (fun _ c1 => dts_nil) (fun _ c1 => (e_bin c1 (e_var c1 (by decide +kernel)) (e_tup (a_cons (e_var c1 (by decide +kernel)) a_nil)))))))))
  (dss_one (ds_ret (e_tuple c (a_cons (e_sorted c (a_cons (e_var c v_mixtures_found) a_nil) g_mixtures_sorted) a_nil) g_mixtures_tuple)))))
abbrev s__law_mixtures : Stmt := topS 6
abbrev N__law_mixtures : List Str := ["_law_near", "_law_far", "_law_found", "_law_a", "_law_b", "_law_front", "_law_some", "_law_longer", "_law_x"]
theorem sc__law_mixtures : FnScope N__law_mixtures ["_law_near", "_law_far"] (defScope s__law_mixtures) := ⟨rfl, rfl, rfl, by decide +kernel, rfl, by decide +kernel, by decide +kernel⟩
theorem v__law_mixtures__law_found : vB N__law_mixtures (defScope s__law_mixtures) 2 "_law_found" = true := by decide +kernel
theorem g__law_mixtures_sorted : gB (defScope s__law_mixtures) "sorted" = true := by decide +kernel
theorem g__law_mixtures_tuple : gB (defScope s__law_mixtures) "tuple" = true := by decide +kernel
theorem v__law_mixtures__law_far : vB N__law_mixtures (defScope s__law_mixtures) 1 "_law_far" = true := by decide +kernel
theorem v__law_mixtures__law_near : vB N__law_mixtures (defScope s__law_mixtures) 0 "_law_near" = true := by decide +kernel
theorem g__law_mixtures_zip : gB (defScope s__law_mixtures) "zip" = true := by decide +kernel
theorem t__law_mixtures__law_b : tB' N__law_mixtures (defScope s__law_mixtures) allB 4 "_law_b" = true := by decide +kernel
theorem t__law_mixtures__law_a : tB' N__law_mixtures (defScope s__law_mixtures) allB 3 "_law_a" = true := by decide +kernel
theorem v__law_mixtures__law_longer : vB N__law_mixtures (defScope s__law_mixtures) 7 "_law_longer" = true := by decide +kernel
theorem t__law_mixtures__law_found : tB' N__law_mixtures (defScope s__law_mixtures) allB 2 "_law_found" = true := by decide +kernel
theorem t__law_mixtures__law_front : tB' N__law_mixtures (defScope s__law_mixtures) allB 5 "_law_front" = true := by decide +kernel
theorem v__law_mixtures__law_some : vB N__law_mixtures (defScope s__law_mixtures) 6 "_law_some" = true := by decide +kernel
theorem t__law_mixtures__law_longer : tB' N__law_mixtures (defScope s__law_mixtures) allB 7 "_law_longer" = true := by decide +kernel
theorem v__law_mixtures__law_a : vB N__law_mixtures (defScope s__law_mixtures) 3 "_law_a" = true := by decide +kernel
theorem v__law_mixtures__law_b : vB N__law_mixtures (defScope s__law_mixtures) 4 "_law_b" = true := by decide +kernel
theorem t__law_mixtures__law_some : tB' N__law_mixtures (defScope s__law_mixtures) allB 6 "_law_some" = true := by decide +kernel
theorem l__law_mixtures__law_some : lB N__law_mixtures (defScope s__law_mixtures) 6 "_law_some" = true := by decide +kernel
theorem l__law_mixtures__law_longer : lB N__law_mixtures (defScope s__law_mixtures) 7 "_law_longer" = true := by decide +kernel
theorem b__law_mixtures {G : Pg} {k : Nat} {X : Cx}  (c : Ct G k N__law_mixtures (defScope s__law_mixtures) allB X) : DSs X (defBody s__law_mixtures) m__law_mixtures :=
  (dss_cons (s_set c t__law_mixtures__law_found (e_lst (a_cons (e_tup a_nil) a_nil)))
  (dss_cons (s_for c (i_zip c g__law_mixtures_zip (a_cons (e_var c v__law_mixtures__law_near) (a_cons (e_var c v__law_mixtures__law_far) a_nil))) (g_tup c (gs_cons (g_nm c t__law_mixtures__law_a) (gs_cons (g_nm c t__law_mixtures__law_b) gs_nil)))
  (dss_cons (s_par c l__law_mixtures__law_some l__law_mixtures__law_longer (by decide +kernel) (a_cons (e_lst (a_cons (e_var c v__law_mixtures__law_a) (a_cons (e_var c v__law_mixtures__law_b) a_nil))) (a_cons (e_lst a_nil) a_nil)))
  (dss_cons (ds_if (DW.dt (dw_or (t_cmp c (e_var c v__law_mixtures__law_a) (e_var c v__law_mixtures__law_b)) (dw_or1 (t_cmp c (e_var c v__law_mixtures__law_a) de_str))))
  (dss_one (s_set c t__law_mixtures__law_some (e_lst (a_cons (e_var c v__law_mixtures__law_b) a_nil))))
  (dss_one (ds_if (t_cmp c (e_var c v__law_mixtures__law_b) de_str)
  (dss_one (s_set c t__law_mixtures__law_some (e_lst (a_cons (e_var c v__law_mixtures__law_a) a_nil))))
  dss_nil)))
  (dss_cons (s_for c (i_seq (e_var c v__law_mixtures__law_found)) (g_nm c t__law_mixtures__law_front)
  (dss_one (s_set c t__law_mixtures__law_longer (e_bin c (e_var c v__law_mixtures__law_longer) (e_lc c [("_law_x", 8)] (by decide +kernel) (i_seq (e_var c v__law_mixtures__law_some)) (by decide +kernel) (fun _ c1 => (g_nm c1 (by decide +kernel))) (fun _ c1 => dts_nil) (fun _ c1 => (e_bin c1 (e_var c1 (by decide +kernel)) (e_tup (a_cons (e_var c1 (by decide +kernel)) a_nil)))))))))
  (dss_one (s_set c t__law_mixtures__law_found (e_var c v__law_mixtures__law_longer)))))))
  (dss_one (ds_ret (e_tuple c (a_cons (e_sorted c (a_cons (e_var c v__law_mixtures__law_found) a_nil) g__law_mixtures_sorted) a_nil) g__law_mixtures_tuple)))))
abbrev s__law_next : Stmt := topS 4
abbrev N__law_next : List Str := ["_law_m", "_law_below", "_law_great", "_law_at", "_law_found", "_law_run"]
theorem sc__law_next : FnScope N__law_next ["_law_m", "_law_below"] (defScope s__law_next) := ⟨rfl, rfl, rfl, by decide +kernel, rfl, by decide +kernel, by decide +kernel⟩
theorem v__law_next__law_m : vB N__law_next (defScope s__law_next) 0 "_law_m" = true := by decide +kernel
theorem v__law_next__law_below : vB N__law_next (defScope s__law_next) 1 "_law_below" = true := by decide +kernel
theorem v__law_next__law_run : vB N__law_next (defScope s__law_next) 5 "_law_run" = true := by decide +kernel
theorem t__law_next__law_run : tB' N__law_next (defScope s__law_next) allB 5 "_law_run" = true := by decide +kernel
theorem v__law_next__law_great : vB N__law_next (defScope s__law_next) 2 "_law_great" = true := by decide +kernel
theorem v__law_next__law_at : vB N__law_next (defScope s__law_next) 3 "_law_at" = true := by decide +kernel
theorem v__law_next__law_found : vB N__law_next (defScope s__law_next) 4 "_law_found" = true := by decide +kernel
theorem t__law_next__law_found : tB' N__law_next (defScope s__law_next) allB 4 "_law_found" = true := by decide +kernel
theorem g__law_next_len : gB (defScope s__law_next) "len" = true := by decide +kernel
theorem g__law_next_max : gB (defScope s__law_next) "max" = true := by decide +kernel
theorem t__law_next__law_at : tB' N__law_next (defScope s__law_next) allB 3 "_law_at" = true := by decide +kernel
theorem t__law_next__law_great : tB' N__law_next (defScope s__law_next) allB 2 "_law_great" = true := by decide +kernel
theorem b__law_next {G : Pg} {k : Nat} {X : Cx}  (c : Ct G k N__law_next (defScope s__law_next) allB X) : DSs X (defBody s__law_next) m__law_next :=
  (dss_cons (s_asg (e_tup (a_cons (e_bin c (e_get c (e_var c v__law_next__law_m) de_str) de_int) (a_cons (e_get c (e_var c v__law_next__law_m) de_str) a_nil))) (g_tup c (gs_cons (g_sub c (e_var c v__law_next__law_m) de_str) (gs_cons (g_nm c t__law_next__law_great) gs_nil))) (c.far (by decide +kernel)))
  (dss_cons (s_set c t__law_next__law_at (e_bin c (e_get c (e_var c v__law_next__law_m) de_str) (e_max c (a_cons de_int (a_cons (e_len c (a_cons (e_var c v__law_next__law_great) a_nil) g__law_next_len) a_nil)) g__law_next_max)))
  (dss_cons (ds_if (DW.dt (dw_and (t_cmp c (e_var c v__law_next__law_great) (e_lst a_nil)) (dw_and1 (t_cmp c (e_get c (e_var c v__law_next__law_great) (e_var c v__law_next__law_at)) de_int))))
  (dss_cons (s_set c t__law_next__law_found (e_bin c (e_get c (e_var c v__law_next__law_great) (e_var c v__law_next__law_at)) (e_var c v__law_next__law_below)))
  (dss_cons (s_asg (e_bin c (e_get c (e_var c v__law_next__law_great) (e_var c v__law_next__law_at)) (e_var c v__law_next__law_below)) (g_sub c (e_var c v__law_next__law_great) (e_var c v__law_next__law_at)) rfl)
  (dss_one (ds_ret (e_var c v__law_next__law_found)))))
  dss_nil)
  (dss_cons (s_set c t__law_next__law_run (e_bin c (e_bin c (e_bin c (e_get c (e_var c v__law_next__law_m) de_str) de_int) (e_bin c de_int (e_get c (e_var c v__law_next__law_m) de_str))) de_int))
  (dss_cons (s_asg (e_bin c (e_var c v__law_next__law_run) de_int) (g_sub c (e_var c v__law_next__law_m) de_str) rfl)
  (dss_one (ds_ret (e_bin c (e_bin c (e_get c (e_var c v__law_next__law_m) de_str) de_int) (e_var c v__law_next__law_below)))))))))
abbrev s__law_of : Stmt := topS 5
abbrev N__law_of : List Str := ["_law_m", "_law_items"]
theorem sc__law_of : FnScope N__law_of ["_law_m", "_law_items"] (defScope s__law_of) := ⟨rfl, rfl, rfl, by decide +kernel, rfl, by decide +kernel, by decide +kernel⟩
theorem v__law_of__law_items : vB N__law_of (defScope s__law_of) 1 "_law_items" = true := by decide +kernel
theorem g__law_of_len : gB (defScope s__law_of) "len" = true := by decide +kernel
theorem v__law_of__law_m : vB N__law_of (defScope s__law_of) 0 "_law_m" = true := by decide +kernel
theorem g__law_of__law_next : gB (defScope s__law_of) "_law_next" = true := by decide +kernel
theorem b__law_of {G : Pg} {k : Nat} {X : Cx} (h__law_next_2 : CO G k ⟨"_law_next", 2, []⟩ f__law_next_2) (c : Ct G k N__law_of (defScope s__law_of) allB X) : DSs X (defBody s__law_of) m__law_of :=
  (dss_one (ds_ret (e_get c (e_var c v__law_of__law_items) (e_callP c h__law_next_2 g__law_of__law_next (a_cons (e_var c v__law_of__law_m) (a_cons (e_len c (a_cons (e_var c v__law_of__law_items) a_nil) g__law_of_len) a_nil))))))
abbrev s__law_begun : Stmt := topS 3
abbrev N__law_begun : List Str := ["_law_script", "_law_run", "_law_k", "_law_cell"]
theorem sc__law_begun : FnScope N__law_begun ["_law_script"] (defScope s__law_begun) := ⟨rfl, rfl, rfl, by decide +kernel, rfl, by decide +kernel, by decide +kernel⟩
theorem v__law_begun__law_script : vB N__law_begun (defScope s__law_begun) 0 "_law_script" = true := by decide +kernel
theorem v__law_begun__law_run : vB N__law_begun (defScope s__law_begun) 1 "_law_run" = true := by decide +kernel
theorem g__law_begun_enumerate : gB (defScope s__law_begun) "enumerate" = true := by decide +kernel
theorem t__law_begun__law_cell : tB' N__law_begun (defScope s__law_begun) allB 3 "_law_cell" = true := by decide +kernel
theorem t__law_begun__law_k : tB' N__law_begun (defScope s__law_begun) allB 2 "_law_k" = true := by decide +kernel
theorem v__law_begun__law_cell : vB N__law_begun (defScope s__law_begun) 3 "_law_cell" = true := by decide +kernel
theorem v__law_begun__law_k : vB N__law_begun (defScope s__law_begun) 2 "_law_k" = true := by decide +kernel
theorem t__law_begun__law_run : tB' N__law_begun (defScope s__law_begun) allB 1 "_law_run" = true := by decide +kernel
theorem g__law_begun_len : gB (defScope s__law_begun) "len" = true := by decide +kernel
theorem b__law_begun {G : Pg} {k : Nat} {X : Cx}  (c : Ct G k N__law_begun (defScope s__law_begun) allB X) : DSs X (defBody s__law_begun) m__law_begun :=
  (dss_cons (s_set c t__law_begun__law_run (e_bin c de_int (e_bin c de_int (e_len c (a_cons (e_var c v__law_begun__law_script) a_nil) g__law_begun_len))))
  (dss_cons (s_for c (i_enum c g__law_begun_enumerate (a_cons (e_var c v__law_begun__law_script) a_nil)) (g_tup c (gs_cons (g_nm c t__law_begun__law_k) (gs_cons (g_nm c t__law_begun__law_cell) gs_nil)))
  (dss_one (s_set c t__law_begun__law_run (e_bin c (e_bin c (e_bin c (e_bin c (e_var c v__law_begun__law_run) de_int) (e_var c v__law_begun__law_cell)) (e_bin c de_int (e_var c v__law_begun__law_k))) de_int))))
  (dss_one (ds_ret (e_dict (dp_cons de_str (e_var c v__law_begun__law_run) (dp_cons de_str (e_lc c [("_law_cell", 3)] (by decide +kernel) (i_seq (e_var c v__law_begun__law_script)) (by decide +kernel) (fun _ c1 => (g_nm c1 (by decide +kernel))) (fun _ c1 => (dts_one (t_cmp c1 (e_var c1 (by decide +kernel)) (e_bin c1 de_int de_int)))) (fun _ c1 => (e_var c1 (by decide +kernel)))) (dp_cons de_str de_int dp_nil))))))))
abbrev s_law : Stmt := topS 7
abbrev N_law : List Str := ["_law_script", "_law_m", "_law_turn", "_law_count", "_law_near", "_law_far", "_law_due", "_law_told", "_law_lacking", "_law_k"]
theorem sc_law : FnScope N_law ["_law_script"] (defScope s_law) := ⟨rfl, rfl, rfl, by decide +kernel, rfl, by decide +kernel, by decide +kernel⟩
theorem v_law__law_told : vB N_law (defScope s_law) 7 "_law_told" = true := by decide +kernel
theorem g_law_mixtures : gB (defScope s_law) "mixtures" = true := by decide +kernel
theorem t_law__law_told : tB' N_law (defScope s_law) allB 7 "_law_told" = true := by decide +kernel
theorem v_law__law_script : vB N_law (defScope s_law) 0 "_law_script" = true := by decide +kernel
theorem g_law_len : gB (defScope s_law) "len" = true := by decide +kernel
theorem g_law_min : gB (defScope s_law) "min" = true := by decide +kernel
theorem g_law_range : gB (defScope s_law) "range" = true := by decide +kernel
theorem t_law__law_turn : tB' N_law (defScope s_law) allB 2 "_law_turn" = true := by decide +kernel
theorem v_law__law_near : vB N_law (defScope s_law) 4 "_law_near" = true := by decide +kernel
theorem v_law__law_lacking : vB N_law (defScope s_law) 8 "_law_lacking" = true := by decide +kernel
theorem t_law__law_lacking : tB' N_law (defScope s_law) allB 8 "_law_lacking" = true := by decide +kernel
theorem v_law__law_count : vB N_law (defScope s_law) 3 "_law_count" = true := by decide +kernel
theorem g_law_repr : gB (defScope s_law) "repr" = true := by decide +kernel
theorem v_law__law_due : vB N_law (defScope s_law) 6 "_law_due" = true := by decide +kernel
theorem v_law__law_far : vB N_law (defScope s_law) 5 "_law_far" = true := by decide +kernel
theorem g_law__law_mixtures : gB (defScope s_law) "_law_mixtures" = true := by decide +kernel
theorem t_law__law_due : tB' N_law (defScope s_law) allB 6 "_law_due" = true := by decide +kernel
theorem g_law_tuple : gB (defScope s_law) "tuple" = true := by decide +kernel
theorem t_law__law_far : tB' N_law (defScope s_law) allB 5 "_law_far" = true := by decide +kernel
theorem t_law__law_near : tB' N_law (defScope s_law) allB 4 "_law_near" = true := by decide +kernel
theorem v_law__law_m : vB N_law (defScope s_law) 1 "_law_m" = true := by decide +kernel
theorem g_law__law_next : gB (defScope s_law) "_law_next" = true := by decide +kernel
theorem t_law__law_count : tB' N_law (defScope s_law) allB 3 "_law_count" = true := by decide +kernel
theorem g_law__law_begun : gB (defScope s_law) "_law_begun" = true := by decide +kernel
theorem t_law__law_m : tB' N_law (defScope s_law) allB 1 "_law_m" = true := by decide +kernel
theorem b_law {G : Pg} {k : Nat} {X : Cx} (h_mixtures_2 : CO G k ⟨"mixtures", 2, []⟩ f_mixtures_2) (h_mixtures_0_one_other : CO G k ⟨"mixtures", 0, ["one", "other"]⟩ f_mixtures_0_one_other) (h__law_mixtures_2 : CO G k ⟨"_law_mixtures", 2, []⟩ f__law_mixtures_2) (h__law_of_2 : CO G k ⟨"_law_of", 2, []⟩ f__law_of_2) (h__law_next_2 : CO G k ⟨"_law_next", 2, []⟩ f__law_next_2) (h__law_begun_1 : CO G k ⟨"_law_begun", 1, []⟩ f__law_begun_1) (c : Ct G k N_law (defScope s_law) allB X) : DSs X (defBody s_law) m_law :=
  (dss_cons (s_set c t_law__law_m (e_callP c h__law_begun_1 g_law__law_begun (a_cons (e_var c v_law__law_script) a_nil)))
  (dss_cons (s_for c (i_range1 c g_law_range (a_cons (e_bin c de_int (e_min c (a_cons de_int (a_cons (e_len c (a_cons (e_var c v_law__law_script) a_nil) g_law_len) a_nil)) g_law_min)) a_nil)) (g_nm c t_law__law_turn)
  (dss_cons (s_set c t_law__law_count (e_bin c de_int (e_callP c h__law_next_2 g_law__law_next (a_cons (e_var c v_law__law_m) (a_cons de_int a_nil)))))
  (dss_cons (s_set c t_law__law_near (e_tuple c (a_cons (e_lc c [("_law_k", 9)] (by decide +kernel) (i_range1 c g_law_range (a_cons (e_var c v_law__law_count) a_nil)) (by decide +kernel) (fun _ c1 => (g_nm c1 (by decide +kernel))) (fun _ c1 => dts_nil) (fun _ c1 => (e_callP c1 h__law_of_2 (by decide +kernel) (a_cons (e_var c1 (by decide +kernel)) (a_cons (e_lst (a_cons de_str (a_cons de_str (a_cons de_str (a_cons de_str (a_cons de_str a_nil)))))) a_nil))))) a_nil) g_law_tuple))
  (dss_cons (s_set c t_law__law_far (e_tuple c (a_cons (e_lc c [("_law_k", 9)] (by decide +kernel) (i_range1 c g_law_range (a_cons (e_var c v_law__law_count) a_nil)) (by decide +kernel) (fun _ c1 => (g_nm c1 (by decide +kernel))) (fun _ c1 => dts_nil) (fun _ c1 => (e_callP c1 h__law_of_2 (by decide +kernel) (a_cons (e_var c1 (by decide +kernel)) (a_cons (e_lst (a_cons de_str (a_cons de_str (a_cons de_str (a_cons de_str (a_cons de_str a_nil)))))) a_nil))))) a_nil) g_law_tuple))
  (dss_cons (s_set c t_law__law_due (e_callP c h__law_mixtures_2 g_law__law_mixtures (a_cons (e_var c v_law__law_near) (a_cons (e_var c v_law__law_far) a_nil))))
  (dss_cons (s_set c t_law__law_told (e_lst (a_cons (e_callP c h_mixtures_2 g_law_mixtures (a_cons (e_var c v_law__law_near) (a_cons (e_var c v_law__law_far) a_nil))) (a_cons (e_callP c h_mixtures_2 g_law_mixtures (a_cons (e_var c v_law__law_far) (a_cons (e_var c v_law__law_near) a_nil))) (a_cons (e_callK0 c h_mixtures_0_one_other g_law_mixtures (k_cons (e_var c v_law__law_near) (k_cons (e_var c v_law__law_far) k_nil))) (a_cons (e_callP c h_mixtures_2 g_law_mixtures (a_cons (e_var c v_law__law_near) (a_cons (e_var c v_law__law_near) a_nil))) a_nil))))))
  (dss_cons (ds_if (t_cmp c (e_repr c (a_cons (e_var c v_law__law_told) a_nil) g_law_repr) (e_repr c (a_cons (e_lst (a_cons (e_var c v_law__law_due) (a_cons (e_var c v_law__law_due) (a_cons (e_var c v_law__law_due) (a_cons (e_tup (a_cons (e_var c v_law__law_near) a_nil)) a_nil))))) a_nil) g_law_repr))
  (dss_one (ds_ret de_bl))
  dss_nil)
  (dss_cons (s_setLc c [("_law_k", 9)] t_law__law_lacking (by decide +kernel) (i_range1 c g_law_range (a_cons (e_var c v_law__law_count) a_nil)) (by decide +kernel) (fun _ c1 => (g_nm c1 (by decide +kernel))) (fun _ c1 => (dts_one (DW.dt (dw_and (t_cmp c1 (e_get c1 (e_var c1 (by decide +kernel)) (e_var c1 (by decide +kernel))) de_str) (dw_and1 (t_cmp c1 (e_get c1 (e_var c1 (by decide +kernel)) (e_var c1 (by decide +kernel))) de_str)))))) (fun _ c1 => (e_var c1 (by decide +kernel))))
  (dss_one (ds_if (t_cmp c (e_cmp c (e_var c v_law__law_near) (e_get c (e_var c v_law__law_told) de_int)) (e_cmp c (e_var c v_law__law_lacking) (e_lst a_nil)))
  (dss_one (ds_ret de_bl))
  dss_nil))))))))))
  (dss_cons (s_set c t_law__law_told (e_callP c h_mixtures_2 g_law_mixtures (a_cons (e_tup (a_cons de_str (a_cons de_str (a_cons de_str a_nil)))) (a_cons (e_tup (a_cons de_str (a_cons de_str (a_cons de_str a_nil)))) a_nil))))
  (dss_one (ds_ret (de_and (e_cmp c (e_var c v_law__law_told) (e_tup (a_cons (e_tup (a_cons de_str (a_cons de_str (a_cons de_str a_nil)))) (a_cons (e_tup (a_cons de_str (a_cons de_str (a_cons de_str a_nil)))) a_nil)))) (de_one (e_cmp c (e_callP c h_mixtures_2 g_law_mixtures (a_cons (e_tup (a_cons de_str a_nil)) (a_cons (e_tup (a_cons de_str a_nil)) a_nil))) (e_tup (a_cons (e_tup (a_cons de_str a_nil)) a_nil))))))))))
structure Fx (G : Pg) : Prop where
  bl : ∀ x ∈ bltL, G.mg x = none
  d_mixtures : ∃ f fd, FunD G.K "mixtures" "mixtures" (defArgs s_mixtures) (defBody s_mixtures) (defScope s_mixtures) [] [] f fd ∧ G.mg "mixtures" = some (.ref f)
  d__law_mixtures : ∃ f fd, FunD G.K "_law_mixtures" "_law_mixtures" (defArgs s__law_mixtures) (defBody s__law_mixtures) (defScope s__law_mixtures) [] [] f fd ∧ G.mg "_law_mixtures" = some (.ref f)
  d__law_next : ∃ f fd, FunD G.K "_law_next" "_law_next" (defArgs s__law_next) (defBody s__law_next) (defScope s__law_next) [] [] f fd ∧ G.mg "_law_next" = some (.ref f)
  d__law_of : ∃ f fd, FunD G.K "_law_of" "_law_of" (defArgs s__law_of) (defBody s__law_of) (defScope s__law_of) [] [] f fd ∧ G.mg "_law_of" = some (.ref f)
  d__law_begun : ∃ f fd, FunD G.K "_law_begun" "_law_begun" (defArgs s__law_begun) (defBody s__law_begun) (defScope s__law_begun) [] [] f fd ∧ G.mg "_law_begun" = some (.ref f)
  d_law : ∃ f fd, FunD G.K "law" "law" (defArgs s_law) (defBody s_law) (defScope s_law) [] [] f fd ∧ G.mg "law" = some (.ref f)
theorem c_mixtures_2 {G : Pg} (F : Fx G) (k : Nat) : CO G (k + 1) ⟨"mixtures", 2, []⟩ f_mixtures_2 := by
  obtain ⟨f, fd, F0, hm⟩ := F.d_mixtures
  exact c_fn (k := k + 0) F0 hm F.bl sc_mixtures (fun _ _ _ _ _ _ _ us ws h1 h2 => match us, ws, h1, h2 with | [_, _], [], _, _ => .of_eq rfl) rfl (by decide) fun X c => b_mixtures  c
theorem c_mixtures_0_one_other {G : Pg} (F : Fx G) (k : Nat) : CO G (k + 1) ⟨"mixtures", 0, ["one", "other"]⟩ f_mixtures_0_one_other := by
  obtain ⟨f, fd, F0, hm⟩ := F.d_mixtures
  exact c_fn (k := k + 0) F0 hm F.bl sc_mixtures (fun _ _ _ _ _ _ _ us ws h1 h2 => match us, ws, h1, h2 with | [], [_, _], _, _ => .of_eq rfl) rfl (by decide) fun X c => b_mixtures  c
theorem c__law_mixtures_2 {G : Pg} (F : Fx G) (k : Nat) : CO G (k + 1) ⟨"_law_mixtures", 2, []⟩ f__law_mixtures_2 := by
  obtain ⟨f, fd, F0, hm⟩ := F.d__law_mixtures
  exact c_fn (k := k + 0) F0 hm F.bl sc__law_mixtures (fun _ _ _ _ _ _ _ us ws h1 h2 => match us, ws, h1, h2 with | [_, _], [], _, _ => .of_eq rfl) rfl (by decide) fun X c => b__law_mixtures  c
theorem c__law_next_2 {G : Pg} (F : Fx G) (k : Nat) : CO G (k + 1) ⟨"_law_next", 2, []⟩ f__law_next_2 := by
  obtain ⟨f, fd, F0, hm⟩ := F.d__law_next
  exact c_fn (k := k + 0) F0 hm F.bl sc__law_next (fun _ _ _ _ _ _ _ us ws h1 h2 => match us, ws, h1, h2 with | [_, _], [], _, _ => .of_eq rfl) rfl (by decide) fun X c => b__law_next  c
theorem c__law_of_2 {G : Pg} (F : Fx G) (k : Nat) : CO G (k + 2) ⟨"_law_of", 2, []⟩ f__law_of_2 := by
  obtain ⟨f, fd, F0, hm⟩ := F.d__law_of
  exact c_fn (k := k + 1) F0 hm F.bl sc__law_of (fun _ _ _ _ _ _ _ us ws h1 h2 => match us, ws, h1, h2 with | [_, _], [], _, _ => .of_eq rfl) rfl (by decide) fun X c => b__law_of (c__law_next_2 F (k + 0)) c
theorem c__law_begun_1 {G : Pg} (F : Fx G) (k : Nat) : CO G (k + 1) ⟨"_law_begun", 1, []⟩ f__law_begun_1 := by
  obtain ⟨f, fd, F0, hm⟩ := F.d__law_begun
  exact c_fn (k := k + 0) F0 hm F.bl sc__law_begun (fun _ _ _ _ _ _ _ us ws h1 h2 => match us, ws, h1, h2 with | [_], [], _, _ => .of_eq rfl) rfl (by decide) fun X c => b__law_begun  c
theorem c_law_1 {G : Pg} (F : Fx G) (k : Nat) : CO G (k + 3) ⟨"law", 1, []⟩ f_law_1 := by
  obtain ⟨f, fd, F0, hm⟩ := F.d_law
  exact c_fn (k := k + 2) F0 hm F.bl sc_law (fun _ _ _ _ _ _ _ us ws h1 h2 => match us, ws, h1, h2 with | [_], [], _, _ => .of_eq rfl) rfl (by decide) fun X c => b_law (c_mixtures_2 F (k + 1)) (c_mixtures_0_one_other F (k + 1)) (c__law_mixtures_2 F (k + 1)) (c__law_of_2 F (k + 0)) (c__law_next_2 F (k + 1)) (c__law_begun_1 F (k + 1)) c
/-! the head -/
def fnL : List He.DefD := [⟨("mixtures", none), "mixtures", "mixtures", defArgs s_mixtures, defBody s_mixtures, defScope s_mixtures, [], []⟩, ⟨("_law_mixtures", none), "_law_mixtures", "_law_mixtures", defArgs s__law_mixtures, defBody s__law_mixtures, defScope s__law_mixtures, [], []⟩, ⟨("_law_next", none), "_law_next", "_law_next", defArgs s__law_next, defBody s__law_next, defScope s__law_next, [], []⟩, ⟨("_law_of", none), "_law_of", "_law_of", defArgs s__law_of, defBody s__law_of, defScope s__law_of, [], []⟩, ⟨("_law_begun", none), "_law_begun", "_law_begun", defArgs s__law_begun, defBody s__law_begun, defScope s__law_begun, [], []⟩, ⟨("law", none), "law", "law", defArgs s_law, defBody s_law, defScope s_law, [], []⟩]
def gloL : List He.Fa := [.glo "mixtures", .glo "_law_mixtures", .glo "_law_next", .glo "_law_of", .glo "_law_begun", .glo "law"]
abbrev faL : List He.Fa := bltL.map He.Fa.free ++ gloL
abbrev R : PySem.W.OpenRow := PySem.W.OpenLaw.row PySem.Challenge.rw_dispatchers_k60_mixtures
abbrev hk : PySem.W.Hook := He.hookD 4 faL fnL
def ob (s : PySem.W.SharedT) : He.AlD := He.obsDG 4 faL fnL (HandSHeadRun.getT s)
theorem ob_eq (s : PySem.W.SharedT) : ob s = hk.obs s.abs := He.obsDG_eq (HandSHeadRun.getT_eq s)
def loose : List Str := ["mixtures", "_law_begun", "_law_next", "_law_of", "_law_mixtures"]
theorem run (w : World) : HandSHeadRun.RunEq R (PySem.W.view R.prog [7]) hk ob 4000 loose w := by
  intro os
  kernel_rfl
theorem facts {P : Program} {w : World} {K : PySem.W.Frag} {h base : Heap} {mg : Str → Option Value} (X : K.In h) (M : h.Ns mainGlobals mg) (c : He.SaysD faL fnL K) : Fx ⟨P, w, K, mg, base⟩ := by
  refine ⟨free_all X M c, ?_, ?_, ?_, ?_, ?_, ?_⟩
  · obtain ⟨fd, F⟩ := c.def_ 0 (d := ⟨("mixtures", none), "mixtures", "mixtures", defArgs s_mixtures, defBody s_mixtures, defScope s_mixtures, [], []⟩) rfl
    exact ⟨_, fd, F, glo_at X M c 0 (x := "mixtures") rfl⟩
  · obtain ⟨fd, F⟩ := c.def_ 1 (d := ⟨("_law_mixtures", none), "_law_mixtures", "_law_mixtures", defArgs s__law_mixtures, defBody s__law_mixtures, defScope s__law_mixtures, [], []⟩) rfl
    exact ⟨_, fd, F, glo_at X M c 1 (x := "_law_mixtures") rfl⟩
  · obtain ⟨fd, F⟩ := c.def_ 2 (d := ⟨("_law_next", none), "_law_next", "_law_next", defArgs s__law_next, defBody s__law_next, defScope s__law_next, [], []⟩) rfl
    exact ⟨_, fd, F, glo_at X M c 2 (x := "_law_next") rfl⟩
  · obtain ⟨fd, F⟩ := c.def_ 3 (d := ⟨("_law_of", none), "_law_of", "_law_of", defArgs s__law_of, defBody s__law_of, defScope s__law_of, [], []⟩) rfl
    exact ⟨_, fd, F, glo_at X M c 3 (x := "_law_of") rfl⟩
  · obtain ⟨fd, F⟩ := c.def_ 4 (d := ⟨("_law_begun", none), "_law_begun", "_law_begun", defArgs s__law_begun, defBody s__law_begun, defScope s__law_begun, [], []⟩) rfl
    exact ⟨_, fd, F, glo_at X M c 4 (x := "_law_begun") rfl⟩
  · obtain ⟨fd, F⟩ := c.def_ 5 (d := ⟨("law", none), "law", "law", defArgs s_law, defBody s_law, defScope s_law, [], []⟩) rfl
    exact ⟨_, fd, F, glo_at X M c 5 (x := "law") rfl⟩
end K60

section
open PySem PySem.W PySem.Calls PyProof.Rows
theorem K60.holds_of (hlaw : ∀ ns : List Int, ns.length ≤ 63 → ∃ S', K60.f_law_1 [.cl (ns.map D.PV.int)] [] = .ok (.bl true) S') : PySem.Challenge.rw_dispatchers_k60_mixtures.Holds := by
  w_on; o_law
  refine HandSHeadRun.head_any (r := OpenLaw.row PySem.Challenge.rw_dispatchers_k60_mixtures) (q := view (OpenLaw.row PySem.Challenge.rw_dispatchers_k60_mixtures).prog [7]) (H := K60.hk) (ob := K60.ob) (M := 4000) (loose := K60.loose) (d := HandSHeadRun.topDef (OpenLaw.row PySem.Challenge.rw_dispatchers_k60_mixtures).prog 7) (kwd := []) K60.ob_eq
    (by kernel_rfl) (fun s => by kernel_rfl) K60.run (by kernel_rfl) (by kernel_rfl) (by kernel_rfl) (by rfl) (by first | assumption | decide +kernel) (by decide +kernel) ⟨rfl, rfl, rfl, rfl, rfl, by decide +kernel⟩ ?hw ?hc
  case hw => w_witness2
  case hc =>
    refine D.walk_end (l := PySem.Challenge.rw_dispatchers_k60_mixtures) (n := 63) (k := 3) K60.f_law_1 rfl (by decide) (by kernel_rfl) ⟨rfl, by decide, by decide⟩ ?F hlaw
    intro w mg f h Y M hm0
    obtain ⟨K, KX, c⟩ := Y
    have hm : mg ("law" : PySem.Str) = some (.ref f) := by
      have e : (HandSHeadRun.topDef (OpenLaw.row PySem.Challenge.rw_dispatchers_k60_mixtures).prog 7).name = ("law" : PySem.Str) := by kernel_rfl
      rw [← e]
      exact hm0
    refine ⟨K, KX, fun base _ _ => ?_⟩
    obtain ⟨f', h1, _, h3⟩ := (K60.c_law_1 (G := ⟨(PySem.Challenge.rw_dispatchers_k60_mixtures).prog, w, K, mg, base⟩) (K60.facts KX M c) 0).ex
    have e : f' = f := by
      have z : some (Value.ref f') = some (Value.ref f) := (show mg "law" = some (.ref f') from h1).symm.trans hm
      cases z; rfl
    subst e
    exact h3
end

namespace K60
open PySem PySem.Spec PyProof.Rows L2 D
theorem s1 : (("run" : Str) = "turn") = False := by decide
theorem s2 : (("run" : Str) = "great") = False := by decide
theorem s3 : (("great" : Str) = "turn") = False := by decide
theorem s4 : (("great" : Str) = "run") = False := by decide
theorem s5 : (("turn" : Str) = "run") = False := by decide
theorem s6 : (("turn" : Str) = "great") = False := by decide
/-- the drawing's dict and its list -/
def md (a t : Int) (g : Nat) : PObj := .dct [(.inr "run", .int a), (.inr "great", .ref g), (.inr "turn", .int t)]
structure Ms (S : Hs) (r g : Nat) : Prop where
  ne : r ≠ g
  dct : ∃ a t : Int, S[r]? = some (md a t g)
  lst : ∃ gs : List Int, S[g]? = some (.lst (gs.map PV.int)) ∧ gs.length ≤ 63
theorem md_turn {S : Hs} {r g : Nat} {a t : Int} (h : S[r]? = some (md a t g)) : getP (.ref r) (.str "turn") S = .ok (.int t) S := by
  simp only [getP, dctAt, h, md, keyP, dval, List.find?, Sum.inr.injEq, s1, s3, decide_false, decide_true, Option.map]
theorem md_great {S : Hs} {r g : Nat} {a t : Int} (h : S[r]? = some (md a t g)) : getP (.ref r) (.str "great") S = .ok (.ref g) S := by
  simp only [getP, dctAt, h, md, keyP, dval, List.find?, Sum.inr.injEq, s2, s3, decide_false, decide_true, Option.map]
theorem md_run {S : Hs} {r g : Nat} {a t : Int} (h : S[r]? = some (md a t g)) : getP (.ref r) (.str "run") S = .ok (.int a) S := by
  simp only [getP, dctAt, h, md, keyP, dval, List.find?, Sum.inr.injEq, decide_false, decide_true, Option.map]
theorem md_setTurn {S : Hs} {r g : Nat} {a t u : Int} (h : S[r]? = some (md a t g)) : setP (.ref r) (.str "turn") (.int u) S = .ok () (S.set r (md a u g)) := by
  simp only [setP, h, md, keyP, dput, List.any, List.map, List.length_cons, List.length_nil, Sum.inr.injEq, s1, s3, decide_false, decide_true, Bool.or_true, Bool.or_false, Bool.true_or, if_true, if_false, sizeLine, Nat.zero_add, Nat.reduceAdd, Nat.reducePow, Nat.reduceLT]
theorem md_setRun {S : Hs} {r g : Nat} {a t u : Int} (h : S[r]? = some (md a t g)) : setP (.ref r) (.str "run") (.int u) S = .ok () (S.set r (md u t g)) := by
  simp only [setP, h, md, keyP, dput, List.any, List.map, List.length_cons, List.length_nil, Sum.inr.injEq, s4, s5, decide_false, decide_true, Bool.or_true, Bool.or_false, Bool.true_or, if_true, if_false, sizeLine, Nat.zero_add, Nat.reduceAdd, Nat.reducePow, Nat.reduceLT]
theorem next_ok {S : Hs} {r g : Nat} {b : Int} (m : Ms S r g) (hb : 0 < b) (hb2 : b < 1073741824) : ∃ v S', f__law_next_2 [.ref r, .int b] S = .ok (.int v) S' ∧ 0 ≤ v ∧ v < b ∧ Ms S' r g ∧ Keeps S S' [r, g] := by
  obtain ⟨ne, ⟨a, t, hr⟩, gs, hg, hl⟩ := m
  have hr1 := at_set hr (o' := md a (t + 1) g)
  have hg1 := at_else (o' := md a (t + 1) g) hg ne
  have k1 : Keeps S (S.set r (md a (t + 1) g)) [r, g] := .set (by simp)
  unfold f__law_next_2 m__law_next
  simp only [w_body, w_seq, w_asg, w_tup, w_lst, w_cons, w_nil, w_op2, w_op1, w_var, w_pure, w_call, w_callF, w_tru, w_notM, w_andM, w_orM, w_notE, w_andE, w_orE, w_ifE, w_yes, w_ret, w_retN, w_expr, w_if, w_nx, w_par, w_for, w_set, w_tupG, w_consG, w_nilG, w_sub, w_it, w_rng1, w_zip, w_enum, w_lc, w_lc2, w_turn, w_turn2, w_nilP, w_consP, w_disp, thn_nx, thn_rt, thn_exc, toS_ok, toS_exc, toG_ok, toR_nx, toR_rt, toR_exc, Res.bind_ok, Res.bind_exc, startE, pick, wipeE, List.filterMap_cons, List.filterMap_nil, List.map_cons, List.map_nil, List.getElem?_cons_zero, List.getElem?_cons_succ, List.length_cons, List.length_nil, List.replicate, List.cons_append, List.nil_append, List.append_nil, List.set_cons_zero, List.set_cons_succ, binP, cmpP, p_addI, p_subI, p_lt, p_le, p_gt, p_ge, p_neg, p_truB, p_truT, p_lenT, p_lenC, p_max, p_min, p_tupT, Nat.reduceAdd, Nat.reduceSub, Nat.reduceEqDiff, Nat.reduceLeDiff, Nat.reduceLT, Nat.reducePow, Nat.zero_add, sizeLine, if_true, if_false, ite_true, ite_false, Bool.not_true, Bool.not_false, nx_nx, nx_ct, okR_ok, md_turn hr, md_great hr, md_setTurn hr]
  generalize S.set r (md a (t + 1) g) = S1 at hr1 hg1 k1
  simp only [w_body, w_seq, w_asg, w_tup, w_lst, w_cons, w_nil, w_op2, w_op1, w_var, w_pure, w_call, w_callF, w_tru, w_notM, w_andM, w_orM, w_notE, w_andE, w_orE, w_ifE, w_yes, w_ret, w_retN, w_expr, w_if, w_nx, w_par, w_for, w_set, w_tupG, w_consG, w_nilG, w_sub, w_it, w_rng1, w_zip, w_enum, w_lc, w_lc2, w_turn, w_turn2, w_nilP, w_consP, w_disp, thn_nx, thn_rt, thn_exc, toS_ok, toS_exc, toG_ok, toR_nx, toR_rt, toR_exc, Res.bind_ok, Res.bind_exc, startE, pick, wipeE, List.filterMap_cons, List.filterMap_nil, List.map_cons, List.map_nil, List.getElem?_cons_zero, List.getElem?_cons_succ, List.length_cons, List.length_nil, List.replicate, List.cons_append, List.nil_append, List.append_nil, List.set_cons_zero, List.set_cons_succ, binP, cmpP, p_addI, p_subI, p_lt, p_le, p_gt, p_ge, p_neg, p_truB, p_truT, p_lenT, p_lenC, p_max, p_min, p_tupT, Nat.reduceAdd, Nat.reduceSub, Nat.reduceEqDiff, Nat.reduceLeDiff, Nat.reduceLT, Nat.reducePow, Nat.zero_add, sizeLine, if_true, if_false, ite_true, ite_false, Bool.not_true, Bool.not_false, nx_nx, nx_ct, okR_ok, md_turn hr1, md_great hr1, p_lenL hg1, List.length_map]
  have h0 : (0 : Int) < if (gs.length : Int) > 1 then (gs.length : Int) else 1 := by split <;> omega
  simp only [w_body, w_seq, w_asg, w_tup, w_lst, w_cons, w_nil, w_op2, w_op1, w_var, w_pure, w_call, w_callF, w_tru, w_notM, w_andM, w_orM, w_notE, w_andE, w_orE, w_ifE, w_yes, w_ret, w_retN, w_expr, w_if, w_nx, w_par, w_for, w_set, w_tupG, w_consG, w_nilG, w_sub, w_it, w_rng1, w_zip, w_enum, w_lc, w_lc2, w_turn, w_turn2, w_nilP, w_consP, w_disp, thn_nx, thn_rt, thn_exc, toS_ok, toS_exc, toG_ok, toR_nx, toR_rt, toR_exc, Res.bind_ok, Res.bind_exc, startE, pick, wipeE, List.filterMap_cons, List.filterMap_nil, List.map_cons, List.map_nil, List.getElem?_cons_zero, List.getElem?_cons_succ, List.length_cons, List.length_nil, List.replicate, List.cons_append, List.nil_append, List.append_nil, List.set_cons_zero, List.set_cons_succ, binP, cmpP, p_addI, p_subI, p_lt, p_le, p_gt, p_ge, p_neg, p_truB, p_truT, p_lenT, p_lenC, p_max, p_min, p_tupT, Nat.reduceAdd, Nat.reduceSub, Nat.reduceEqDiff, Nat.reduceLeDiff, Nat.reduceLT, Nat.reducePow, Nat.zero_add, sizeLine, if_true, if_false, ite_true, ite_false, Bool.not_true, Bool.not_false, nx_nx, nx_ct, okR_ok, p_mod h0]
  have hat := Int.emod_nonneg (t + 1) (show (if (gs.length : Int) > 1 then (gs.length : Int) else 1) ≠ 0 by omega)
  have hat2 := Int.emod_lt_of_pos (t + 1) h0
  generalize (t + 1) % (if (gs.length : Int) > 1 then (gs.length : Int) else 1) = at_ at hat hat2

  have hr2 := at_new hr1 (o' := .lst [])
  have hg2 := at_new hg1 (o' := .lst [])
  have hn2 := at_last (S := S1) (o := .lst [])
  have k2 : Keeps S (S1 ++ [.lst []]) [r, g] := k1.trans .new
  simp only [w_body, w_seq, w_asg, w_tup, w_lst, w_cons, w_nil, w_op2, w_op1, w_var, w_pure, w_call, w_callF, w_tru, w_notM, w_andM, w_orM, w_notE, w_andE, w_orE, w_ifE, w_yes, w_ret, w_retN, w_expr, w_if, w_nx, w_par, w_for, w_set, w_tupG, w_consG, w_nilG, w_sub, w_it, w_rng1, w_zip, w_enum, w_lc, w_lc2, w_turn, w_turn2, w_nilP, w_consP, w_disp, thn_nx, thn_rt, thn_exc, toS_ok, toS_exc, toG_ok, toR_nx, toR_rt, toR_exc, Res.bind_ok, Res.bind_exc, startE, pick, wipeE, List.filterMap_cons, List.filterMap_nil, List.map_cons, List.map_nil, List.getElem?_cons_zero, List.getElem?_cons_succ, List.length_cons, List.length_nil, List.replicate, List.cons_append, List.nil_append, List.append_nil, List.set_cons_zero, List.set_cons_succ, binP, cmpP, p_addI, p_subI, p_lt, p_le, p_gt, p_ge, p_neg, p_truB, p_truT, p_lenT, p_lenC, p_max, p_min, p_tupT, Nat.reduceAdd, Nat.reduceSub, Nat.reduceEqDiff, Nat.reduceLeDiff, Nat.reduceLT, Nat.reducePow, Nat.zero_add, sizeLine, if_true, if_false, ite_true, ite_false, Bool.not_true, Bool.not_false, nx_nx, nx_ct, okR_ok, p_new (S := S1) (xs := []) (Nat.zero_le _)]
  generalize S1 ++ [PObj.lst []] = S2 at hr2 hg2 hn2 k2
  have e1 := eInt.neL (S := S2) (r := g) (q := S1.length) (by decide) (xs := gs) (ys := []) (fun _ _ => trivial) (fun _ _ => trivial) hg2 hn2
  simp only [w_body, w_seq, w_asg, w_tup, w_lst, w_cons, w_nil, w_op2, w_op1, w_var, w_pure, w_call, w_callF, w_tru, w_notM, w_andM, w_orM, w_notE, w_andE, w_orE, w_ifE, w_yes, w_ret, w_retN, w_expr, w_if, w_nx, w_par, w_for, w_set, w_tupG, w_consG, w_nilG, w_sub, w_it, w_rng1, w_zip, w_enum, w_lc, w_lc2, w_turn, w_turn2, w_nilP, w_consP, w_disp, thn_nx, thn_rt, thn_exc, toS_ok, toS_exc, toG_ok, toR_nx, toR_rt, toR_exc, Res.bind_ok, Res.bind_exc, startE, pick, wipeE, List.filterMap_cons, List.filterMap_nil, List.map_cons, List.map_nil, List.getElem?_cons_zero, List.getElem?_cons_succ, List.length_cons, List.length_nil, List.replicate, List.cons_append, List.nil_append, List.append_nil, List.set_cons_zero, List.set_cons_succ, binP, cmpP, p_addI, p_subI, p_lt, p_le, p_gt, p_ge, p_neg, p_truB, p_truT, p_lenT, p_lenC, p_max, p_min, p_tupT, Nat.reduceAdd, Nat.reduceSub, Nat.reduceEqDiff, Nat.reduceLeDiff, Nat.reduceLT, Nat.reducePow, Nat.zero_add, sizeLine, if_true, if_false, ite_true, ite_false, Bool.not_true, Bool.not_false, nx_nx, nx_ct, okR_ok, e1]
  -- the run
  have run : ∀ env4 : Option PV, ∃ v S', (SR.thn (SR.nx [some (PV.ref r), some (PV.int b), some (PV.ref g), some (PV.int at_), none, none] S2)
            (seqS
              (asgS
                (op2 addP
                  (op2 addP
                    (op2 mulP (op2 getP (varM 0) (pureM (PV.str (Str.ofString "run"))))
                      (pureM (PV.int 6364136223846793)))
                    (op2 mulP (pureM (PV.int 1442695040888963))
                      (op2 getP (varM 0) (pureM (PV.str (Str.ofString "turn"))))))
                  (pureM (PV.int 13)))
                (setG 5))
              (seqS
                (asgS (op2 modP (varM 5) (pureM (PV.int 2305843009213693951)))
                  (subG (varM 0) (pureM (PV.str (Str.ofString "run")))))
                (retS
                  (op2 modP (op2 fdivP (op2 getP (varM 0) (pureM (PV.str (Str.ofString "run")))) (pureM (PV.int 32749)))
                    (varM 1)))))).toR = .ok (.int v) S' ∧ 0 ≤ v ∧ v < b ∧ Ms S' r g ∧ D.Keeps S S' [r, g] := by
    intro _
    simp only [w_body, w_seq, w_asg, w_tup, w_lst, w_cons, w_nil, w_op2, w_op1, w_var, w_pure, w_call, w_callF, w_tru, w_notM, w_andM, w_orM, w_notE, w_andE, w_orE, w_ifE, w_yes, w_ret, w_retN, w_expr, w_if, w_nx, w_par, w_for, w_set, w_tupG, w_consG, w_nilG, w_sub, w_it, w_rng1, w_zip, w_enum, w_lc, w_lc2, w_turn, w_turn2, w_nilP, w_consP, w_disp, thn_nx, thn_rt, thn_exc, toS_ok, toS_exc, toG_ok, toR_nx, toR_rt, toR_exc, Res.bind_ok, Res.bind_exc, startE, pick, wipeE, List.filterMap_cons, List.filterMap_nil, List.map_cons, List.map_nil, List.getElem?_cons_zero, List.getElem?_cons_succ, List.length_cons, List.length_nil, List.replicate, List.cons_append, List.nil_append, List.append_nil, List.set_cons_zero, List.set_cons_succ, binP, cmpP, p_addI, p_subI, p_lt, p_le, p_gt, p_ge, p_neg, p_truB, p_truT, p_lenT, p_lenC, p_max, p_min, p_tupT, Nat.reduceAdd, Nat.reduceSub, Nat.reduceEqDiff, Nat.reduceLeDiff, Nat.reduceLT, Nat.reducePow, Nat.zero_add, sizeLine, if_true, if_false, ite_true, ite_false, Bool.not_true, Bool.not_false, nx_nx, nx_ct, okR_ok, md_run hr2, md_turn hr2, p_mulR (j := 6364136223846793) (by decide), p_mulL (i := 1442695040888963) (by decide), p_mod (j := 2305843009213693951) (by decide), md_setRun hr2]
    generalize (a * 6364136223846793 + 1442695040888963 * (t + 1) + 13) % 2305843009213693951 = a2
    have hr3 := at_set hr2 (o' := md a2 (t + 1) g)
    have hg3 := at_else (o' := md a2 (t + 1) g) hg2 ne
    have k3 : Keeps S (S2.set r (md a2 (t + 1) g)) [r, g] := k2.trans (.set (by simp))
    generalize S2.set r (md a2 (t + 1) g) = S3 at hr3 hg3 k3
    simp only [w_body, w_seq, w_asg, w_tup, w_lst, w_cons, w_nil, w_op2, w_op1, w_var, w_pure, w_call, w_callF, w_tru, w_notM, w_andM, w_orM, w_notE, w_andE, w_orE, w_ifE, w_yes, w_ret, w_retN, w_expr, w_if, w_nx, w_par, w_for, w_set, w_tupG, w_consG, w_nilG, w_sub, w_it, w_rng1, w_zip, w_enum, w_lc, w_lc2, w_turn, w_turn2, w_nilP, w_consP, w_disp, thn_nx, thn_rt, thn_exc, toS_ok, toS_exc, toG_ok, toR_nx, toR_rt, toR_exc, Res.bind_ok, Res.bind_exc, startE, pick, wipeE, List.filterMap_cons, List.filterMap_nil, List.map_cons, List.map_nil, List.getElem?_cons_zero, List.getElem?_cons_succ, List.length_cons, List.length_nil, List.replicate, List.cons_append, List.nil_append, List.append_nil, List.set_cons_zero, List.set_cons_succ, binP, cmpP, p_addI, p_subI, p_lt, p_le, p_gt, p_ge, p_neg, p_truB, p_truT, p_lenT, p_lenC, p_max, p_min, p_tupT, Nat.reduceAdd, Nat.reduceSub, Nat.reduceEqDiff, Nat.reduceLeDiff, Nat.reduceLT, Nat.reducePow, Nat.zero_add, sizeLine, if_true, if_false, ite_true, ite_false, Bool.not_true, Bool.not_false, nx_nx, nx_ct, okR_ok, md_run hr3, p_div (j := 32749) (by decide), p_mod hb]
    exact ⟨_, _, rfl, Int.emod_nonneg _ (by omega), Int.emod_lt_of_pos _ hb, ⟨ne, ⟨_, _, hr3⟩, _, hg3, hl⟩, k3⟩
  by_cases hgs : gs = []
  · subst hgs
    simp only [decide_true, Bool.not_true, w_body, w_seq, w_asg, w_tup, w_lst, w_cons, w_nil, w_op2, w_op1, w_var, w_pure, w_call, w_callF, w_tru, w_notM, w_andM, w_orM, w_notE, w_andE, w_orE, w_ifE, w_yes, w_ret, w_retN, w_expr, w_if, w_nx, w_par, w_for, w_set, w_tupG, w_consG, w_nilG, w_sub, w_it, w_rng1, w_zip, w_enum, w_lc, w_lc2, w_turn, w_turn2, w_nilP, w_consP, w_disp, thn_nx, thn_rt, thn_exc, toS_ok, toS_exc, toG_ok, toR_nx, toR_rt, toR_exc, Res.bind_ok, Res.bind_exc, startE, pick, wipeE, List.filterMap_cons, List.filterMap_nil, List.map_cons, List.map_nil, List.getElem?_cons_zero, List.getElem?_cons_succ, List.length_cons, List.length_nil, List.replicate, List.cons_append, List.nil_append, List.append_nil, List.set_cons_zero, List.set_cons_succ, binP, cmpP, p_addI, p_subI, p_lt, p_le, p_gt, p_ge, p_neg, p_truB, p_truT, p_lenT, p_lenC, p_max, p_min, p_tupT, Nat.reduceAdd, Nat.reduceSub, Nat.reduceEqDiff, Nat.reduceLeDiff, Nat.reduceLT, Nat.reducePow, Nat.zero_add, sizeLine, if_true, if_false, ite_true, ite_false, Bool.not_true, Bool.not_false, nx_nx, nx_ct, okR_ok, Bool.false_eq_true]
    exact run none
  · simp only [decide_eq_false hgs, w_body, w_seq, w_asg, w_tup, w_lst, w_cons, w_nil, w_op2, w_op1, w_var, w_pure, w_call, w_callF, w_tru, w_notM, w_andM, w_orM, w_notE, w_andE, w_orE, w_ifE, w_yes, w_ret, w_retN, w_expr, w_if, w_nx, w_par, w_for, w_set, w_tupG, w_consG, w_nilG, w_sub, w_it, w_rng1, w_zip, w_enum, w_lc, w_lc2, w_turn, w_turn2, w_nilP, w_consP, w_disp, thn_nx, thn_rt, thn_exc, toS_ok, toS_exc, toG_ok, toR_nx, toR_rt, toR_exc, Res.bind_ok, Res.bind_exc, startE, pick, wipeE, List.filterMap_cons, List.filterMap_nil, List.map_cons, List.map_nil, List.getElem?_cons_zero, List.getElem?_cons_succ, List.length_cons, List.length_nil, List.replicate, List.cons_append, List.nil_append, List.append_nil, List.set_cons_zero, List.set_cons_succ, binP, cmpP, p_addI, p_subI, p_lt, p_le, p_gt, p_ge, p_neg, p_truB, p_truT, p_lenT, p_lenC, p_max, p_min, p_tupT, Nat.reduceAdd, Nat.reduceSub, Nat.reduceEqDiff, Nat.reduceLeDiff, Nat.reduceLT, Nat.reducePow, Nat.zero_add, sizeLine, if_true, if_false, ite_true, ite_false, Bool.not_true, Bool.not_false, nx_nx, nx_ct, okR_ok]
    have hpos : 0 < gs.length := List.length_pos_iff.mpr hgs
    have hlt : at_.toNat < gs.length := by split at hat2 <;> omega
    have hget : atI (gs.map PV.int) at_ = some (.int gs[at_.toNat]) := by
      rw [atI_lt hat (by rw [List.length_map]; exact hlt)]
      simp
    simp only [w_body, w_seq, w_asg, w_tup, w_lst, w_cons, w_nil, w_op2, w_op1, w_var, w_pure, w_call, w_callF, w_tru, w_notM, w_andM, w_orM, w_notE, w_andE, w_orE, w_ifE, w_yes, w_ret, w_retN, w_expr, w_if, w_nx, w_par, w_for, w_set, w_tupG, w_consG, w_nilG, w_sub, w_it, w_rng1, w_zip, w_enum, w_lc, w_lc2, w_turn, w_turn2, w_nilP, w_consP, w_disp, thn_nx, thn_rt, thn_exc, toS_ok, toS_exc, toG_ok, toR_nx, toR_rt, toR_exc, Res.bind_ok, Res.bind_exc, startE, pick, wipeE, List.filterMap_cons, List.filterMap_nil, List.map_cons, List.map_nil, List.getElem?_cons_zero, List.getElem?_cons_succ, List.length_cons, List.length_nil, List.replicate, List.cons_append, List.nil_append, List.append_nil, List.set_cons_zero, List.set_cons_succ, binP, cmpP, p_addI, p_subI, p_lt, p_le, p_gt, p_ge, p_neg, p_truB, p_truT, p_lenT, p_lenC, p_max, p_min, p_tupT, Nat.reduceAdd, Nat.reduceSub, Nat.reduceEqDiff, Nat.reduceLeDiff, Nat.reduceLT, Nat.reducePow, Nat.zero_add, sizeLine, if_true, if_false, ite_true, ite_false, Bool.not_true, Bool.not_false, nx_nx, nx_ct, okR_ok, p_getL hg2, hget]
    by_cases hp : 0 < gs[at_.toNat]
    · simp only [decide_eq_true hp, w_body, w_seq, w_asg, w_tup, w_lst, w_cons, w_nil, w_op2, w_op1, w_var, w_pure, w_call, w_callF, w_tru, w_notM, w_andM, w_orM, w_notE, w_andE, w_orE, w_ifE, w_yes, w_ret, w_retN, w_expr, w_if, w_nx, w_par, w_for, w_set, w_tupG, w_consG, w_nilG, w_sub, w_it, w_rng1, w_zip, w_enum, w_lc, w_lc2, w_turn, w_turn2, w_nilP, w_consP, w_disp, thn_nx, thn_rt, thn_exc, toS_ok, toS_exc, toG_ok, toR_nx, toR_rt, toR_exc, Res.bind_ok, Res.bind_exc, startE, pick, wipeE, List.filterMap_cons, List.filterMap_nil, List.map_cons, List.map_nil, List.getElem?_cons_zero, List.getElem?_cons_succ, List.length_cons, List.length_nil, List.replicate, List.cons_append, List.nil_append, List.append_nil, List.set_cons_zero, List.set_cons_succ, binP, cmpP, p_addI, p_subI, p_lt, p_le, p_gt, p_ge, p_neg, p_truB, p_truT, p_lenT, p_lenC, p_max, p_min, p_tupT, Nat.reduceAdd, Nat.reduceSub, Nat.reduceEqDiff, Nat.reduceLeDiff, Nat.reduceLT, Nat.reducePow, Nat.zero_add, sizeLine, if_true, if_false, ite_true, ite_false, Bool.not_true, Bool.not_false, nx_nx, nx_ct, okR_ok, p_getL hg2, hget, p_mod hb, p_div ⟨hb, hb2⟩, p_setL hg2]
      have hix : ixN (gs.map PV.int).length at_ = some at_.toNat := by
        unfold ixN
        rw [if_pos hat, if_pos (by rw [List.length_map]; omega)]
      simp only [hix, w_body, w_seq, w_asg, w_tup, w_lst, w_cons, w_nil, w_op2, w_op1, w_var, w_pure, w_call, w_callF, w_tru, w_notM, w_andM, w_orM, w_notE, w_andE, w_orE, w_ifE, w_yes, w_ret, w_retN, w_expr, w_if, w_nx, w_par, w_for, w_set, w_tupG, w_consG, w_nilG, w_sub, w_it, w_rng1, w_zip, w_enum, w_lc, w_lc2, w_turn, w_turn2, w_nilP, w_consP, w_disp, thn_nx, thn_rt, thn_exc, toS_ok, toS_exc, toG_ok, toR_nx, toR_rt, toR_exc, Res.bind_ok, Res.bind_exc, startE, pick, wipeE, List.filterMap_cons, List.filterMap_nil, List.map_cons, List.map_nil, List.getElem?_cons_zero, List.getElem?_cons_succ, List.length_cons, List.length_nil, List.replicate, List.cons_append, List.nil_append, List.append_nil, List.set_cons_zero, List.set_cons_succ, binP, cmpP, p_addI, p_subI, p_lt, p_le, p_gt, p_ge, p_neg, p_truB, p_truT, p_lenT, p_lenC, p_max, p_min, p_tupT, Nat.reduceAdd, Nat.reduceSub, Nat.reduceEqDiff, Nat.reduceLeDiff, Nat.reduceLT, Nat.reducePow, Nat.zero_add, sizeLine, if_true, if_false, ite_true, ite_false, Bool.not_true, Bool.not_false, nx_nx, nx_ct, okR_ok]
      refine ⟨_, _, rfl, Int.emod_nonneg _ (by omega), Int.emod_lt_of_pos _ hb, ⟨ne, ⟨a, t + 1, at_else hr2 (Ne.symm ne)⟩, gs.set at_.toNat (gs[at_.toNat] / b), ?_, by simpa using hl⟩, k2.trans (.set (by simp))⟩
      rw [at_set hg2, List.map_set]
    · simp only [decide_eq_false hp, w_body, w_seq, w_asg, w_tup, w_lst, w_cons, w_nil, w_op2, w_op1, w_var, w_pure, w_call, w_callF, w_tru, w_notM, w_andM, w_orM, w_notE, w_andE, w_orE, w_ifE, w_yes, w_ret, w_retN, w_expr, w_if, w_nx, w_par, w_for, w_set, w_tupG, w_consG, w_nilG, w_sub, w_it, w_rng1, w_zip, w_enum, w_lc, w_lc2, w_turn, w_turn2, w_nilP, w_consP, w_disp, thn_nx, thn_rt, thn_exc, toS_ok, toS_exc, toG_ok, toR_nx, toR_rt, toR_exc, Res.bind_ok, Res.bind_exc, startE, pick, wipeE, List.filterMap_cons, List.filterMap_nil, List.map_cons, List.map_nil, List.getElem?_cons_zero, List.getElem?_cons_succ, List.length_cons, List.length_nil, List.replicate, List.cons_append, List.nil_append, List.append_nil, List.set_cons_zero, List.set_cons_succ, binP, cmpP, p_addI, p_subI, p_lt, p_le, p_gt, p_ge, p_neg, p_truB, p_truT, p_lenT, p_lenC, p_max, p_min, p_tupT, Nat.reduceAdd, Nat.reduceSub, Nat.reduceEqDiff, Nat.reduceLeDiff, Nat.reduceLT, Nat.reducePow, Nat.zero_add, sizeLine, if_true, if_false, ite_true, ite_false, Bool.not_true, Bool.not_false, nx_nx, nx_ct, okR_ok, Bool.false_eq_true]
      exact run none
end K60

namespace K60
open PySem PySem.Spec PyProof.Rows L2 D
theorem of_ok {S : Hs} {r g q : Nat} {xs : List PV} (m : Ms S r g) (hq : S[q]? = some (.lst xs)) (hr : q ≠ r) (hg : q ≠ g) (h0 : xs ≠ []) (hl : xs.length < 1000000000) :
    ∃ p S', f__law_of_2 [.ref r, .ref q] S = .ok p S' ∧ p ∈ xs ∧ Ms S' r g ∧ Keeps S S' [r, g] := by
  have hpos : 0 < xs.length := List.length_pos_iff.mpr h0
  obtain ⟨v, S', e, v0, v1, m', k⟩ := next_ok m (b := xs.length) (by omega) (by omega)
  have hq' : S'[q]? = some (.lst xs) := k.at hq (by simp [hr, hg])
  have hv : v.toNat < xs.length := by omega
  unfold f__law_of_2 m__law_of
  simp only [w_body, w_seq, w_asg, w_tup, w_lst, w_cons, w_nil, w_op2, w_op1, w_var, w_pure, w_call, w_callF, w_tru, w_notM, w_andM, w_orM, w_notE, w_andE, w_orE, w_ifE, w_yes, w_ret, w_retN, w_expr, w_if, w_nx, w_par, w_for, w_set, w_tupG, w_consG, w_nilG, w_sub, w_it, w_rng1, w_zip, w_enum, w_lc, w_lc2, w_turn, w_turn2, w_nilP, w_consP, w_disp, thn_nx, thn_rt, thn_exc, toS_ok, toS_exc, toG_ok, toR_nx, toR_rt, toR_exc, Res.bind_ok, Res.bind_exc, startE, pick, wipeE, List.filterMap_cons, List.filterMap_nil, List.map_cons, List.map_nil, List.getElem?_cons_zero, List.getElem?_cons_succ, List.length_cons, List.length_nil, List.replicate, List.cons_append, List.nil_append, List.append_nil, List.set_cons_zero, List.set_cons_succ, binP, cmpP, p_addI, p_subI, p_lt, p_le, p_gt, p_ge, p_neg, p_truB, p_truT, p_lenT, p_lenC, p_max, p_min, p_tupT, Nat.reduceAdd, Nat.reduceSub, Nat.reduceEqDiff, Nat.reduceLeDiff, Nat.reduceLT, Nat.reducePow, Nat.zero_add, sizeLine, if_true, if_false, ite_true, ite_false, Bool.not_true, Bool.not_false, nx_nx, nx_ct, okR_ok, p_lenL hq, e, p_getL hq', atI_lt v0 hv]
  exact ⟨_, _, rfl, List.getElem_mem hv, m', k⟩
theorem p_pow {S : Hs} : powP (.int 10) (.int 18) S = .ok (.int (10 ^ 18)) S := rfl
theorem md_new {a : Int} {g : Nat} : PObj.dct (dmerge [] [(Sum.inr "run", PV.int a), (Sum.inr "great", PV.ref g), (Sum.inr "turn", PV.int 0)]) = md a 0 g := by
  simp only [dmerge, md, List.foldl, dput, List.any, List.map, Sum.inr.injEq, s1, s2, s3, decide_false, Bool.or_false, Bool.false_or, Bool.false_eq_true, if_false, List.nil_append, List.cons_append]
theorem begun_ok {S : Hs} {ns : List Int} (hn : ns.length ≤ 63) : ∃ S', f__law_begun_1 [.cl (ns.map PV.int)] S = .ok (.ref (S.length + 1)) S' ∧ Ms S' (S.length + 1) S.length ∧ Keeps S S' [] := by
  unfold f__law_begun_1 m__law_begun
  simp only [w_body, w_seq, w_asg, w_tup, w_lst, w_cons, w_nil, w_op2, w_op1, w_var, w_pure, w_call, w_callF, w_tru, w_notM, w_andM, w_orM, w_notE, w_andE, w_orE, w_ifE, w_yes, w_ret, w_retN, w_expr, w_if, w_nx, w_par, w_for, w_set, w_tupG, w_consG, w_nilG, w_sub, w_it, w_rng1, w_zip, w_enum, w_lc, w_lc2, w_turn, w_turn2, w_nilP, w_consP, w_disp, thn_nx, thn_rt, thn_exc, toS_ok, toS_exc, toG_ok, toR_nx, toR_rt, toR_exc, Res.bind_ok, Res.bind_exc, startE, pick, wipeE, List.filterMap_cons, List.filterMap_nil, List.map_cons, List.map_nil, List.getElem?_cons_zero, List.getElem?_cons_succ, List.length_cons, List.length_nil, List.replicate, List.cons_append, List.nil_append, List.append_nil, List.set_cons_zero, List.set_cons_succ, binP, cmpP, p_addI, p_subI, p_lt, p_le, p_gt, p_ge, p_neg, p_truB, p_truT, p_lenT, p_lenC, p_max, p_min, p_tupT, Nat.reduceAdd, Nat.reduceSub, Nat.reduceEqDiff, Nat.reduceLeDiff, Nat.reduceLT, Nat.reducePow, Nat.zero_add, sizeLine, if_true, if_false, ite_true, ite_false, Bool.not_true, Bool.not_false, nx_nx, nx_ct, okR_ok, List.length_map, p_mulR (j := (ns.length : Int)) (by omega)]
  obtain ⟨env', S', e, rfl, a, x2, x3, rfl⟩ := for_inv (nx := nxt (.enum (ns.map PV.int))) (t := tupG 2 (consG (setG 2) (consG (setG 3) nilG)))
    (body := m__law_begun_b1)
    (fun _ env S' => S' = S ∧ ∃ (a : Int) (x2 x3 : Option PV), env = [some (.cl (ns.map PV.int)), some (.int a), x2, x3]) ns.length (by omega)
    (fun env S' _ => by rw [nxt_enum, List.getElem?_eq_none (by simp)]; rfl)
    (by
      rintro i env S' hi ⟨rfl, a, x2, x3, rfl⟩
      refine ⟨.tup [.int i, .int ns[i]], by rw [nxt_enum, List.getElem?_eq_getElem (by simpa using hi)]; simp, ?_⟩
      simp only [m__law_begun_b1, w_body, w_seq, w_asg, w_tup, w_lst, w_cons, w_nil, w_op2, w_op1, w_var, w_pure, w_call, w_callF, w_tru, w_notM, w_andM, w_orM, w_notE, w_andE, w_orE, w_ifE, w_yes, w_ret, w_retN, w_expr, w_if, w_nx, w_par, w_for, w_set, w_tupG, w_consG, w_nilG, w_sub, w_it, w_rng1, w_zip, w_enum, w_lc, w_lc2, w_turn, w_turn2, w_nilP, w_consP, w_disp, thn_nx, thn_rt, thn_exc, toS_ok, toS_exc, toG_ok, toR_nx, toR_rt, toR_exc, Res.bind_ok, Res.bind_exc, startE, pick, wipeE, List.filterMap_cons, List.filterMap_nil, List.map_cons, List.map_nil, List.getElem?_cons_zero, List.getElem?_cons_succ, List.length_cons, List.length_nil, List.replicate, List.cons_append, List.nil_append, List.append_nil, List.set_cons_zero, List.set_cons_succ, binP, cmpP, p_addI, p_subI, p_lt, p_le, p_gt, p_ge, p_neg, p_truB, p_truT, p_lenT, p_lenC, p_max, p_min, p_tupT, Nat.reduceAdd, Nat.reduceSub, Nat.reduceEqDiff, Nat.reduceLeDiff, Nat.reduceLT, Nat.reducePow, Nat.zero_add, sizeLine, if_true, if_false, ite_true, ite_false, Bool.not_true, Bool.not_false, nx_nx, nx_ct, okR_ok, p_mulR (j := 982451653) (by decide), p_mulL (i := 104729) (by decide), p_mod (j := 2305843009213693951) (by decide)]
      exact ⟨trivial, _, _, _, rfl⟩)
    (S := S) (env := [some (.cl (ns.map PV.int)), some (.int (32452867 + 43 * ns.length)), none, none]) ⟨rfl, _, _, _, rfl⟩
  simp only [e, w_body, w_seq, w_asg, w_tup, w_lst, w_cons, w_nil, w_op2, w_op1, w_var, w_pure, w_call, w_callF, w_tru, w_notM, w_andM, w_orM, w_notE, w_andE, w_orE, w_ifE, w_yes, w_ret, w_retN, w_expr, w_if, w_nx, w_par, w_for, w_set, w_tupG, w_consG, w_nilG, w_sub, w_it, w_rng1, w_zip, w_enum, w_lc, w_lc2, w_turn, w_turn2, w_nilP, w_consP, w_disp, thn_nx, thn_rt, thn_exc, toS_ok, toS_exc, toG_ok, toR_nx, toR_rt, toR_exc, Res.bind_ok, Res.bind_exc, startE, pick, wipeE, List.filterMap_cons, List.filterMap_nil, List.map_cons, List.map_nil, List.getElem?_cons_zero, List.getElem?_cons_succ, List.length_cons, List.length_nil, List.replicate, List.cons_append, List.nil_append, List.append_nil, List.set_cons_zero, List.set_cons_succ, binP, cmpP, p_addI, p_subI, p_lt, p_le, p_gt, p_ge, p_neg, p_truB, p_truT, p_lenT, p_lenC, p_max, p_min, p_tupT, Nat.reduceAdd, Nat.reduceSub, Nat.reduceEqDiff, Nat.reduceLeDiff, Nat.reduceLT, Nat.reducePow, Nat.zero_add, sizeLine, if_true, if_false, ite_true, ite_false, Bool.not_true, Bool.not_false, nx_nx, nx_ct, okR_ok, p_iterC]
  have e2 := lcGo_map (S := S') (nx := nxt (.sq (ns.map PV.int))) (turn := lcTurn (setG 3) m__law_begun_c1 m__law_begun_e1 [some (.cl (ns.map PV.int)), some (.int a), x2, none])
    (xs := ns) (f := PV.int) (g := fun i => if 10 ^ 18 ≤ i then some (.int i) else none) (nxt_sq) (fun i _ => by
      simp only [m__law_begun_c1, m__law_begun_e1, w_body, w_seq, w_asg, w_tup, w_lst, w_cons, w_nil, w_op2, w_op1, w_var, w_pure, w_call, w_callF, w_tru, w_notM, w_andM, w_orM, w_notE, w_andE, w_orE, w_ifE, w_yes, w_ret, w_retN, w_expr, w_if, w_nx, w_par, w_for, w_set, w_tupG, w_consG, w_nilG, w_sub, w_it, w_rng1, w_zip, w_enum, w_lc, w_lc2, w_turn, w_turn2, w_nilP, w_consP, w_disp, thn_nx, thn_rt, thn_exc, toS_ok, toS_exc, toG_ok, toR_nx, toR_rt, toR_exc, Res.bind_ok, Res.bind_exc, startE, pick, wipeE, List.filterMap_cons, List.filterMap_nil, List.map_cons, List.map_nil, List.getElem?_cons_zero, List.getElem?_cons_succ, List.length_cons, List.length_nil, List.replicate, List.cons_append, List.nil_append, List.append_nil, List.set_cons_zero, List.set_cons_succ, binP, cmpP, p_addI, p_subI, p_lt, p_le, p_gt, p_ge, p_neg, p_truB, p_truT, p_lenT, p_lenC, p_max, p_min, p_tupT, Nat.reduceAdd, Nat.reduceSub, Nat.reduceEqDiff, Nat.reduceLeDiff, Nat.reduceLT, Nat.reducePow, Nat.zero_add, sizeLine, if_true, if_false, ite_true, ite_false, Bool.not_true, Bool.not_false, nx_nx, nx_ct, okR_ok, p_pow]
      by_cases h : (10 : Int) ^ 18 ≤ i
      · simp only [decide_eq_true h, if_pos h, w_body, w_seq, w_asg, w_tup, w_lst, w_cons, w_nil, w_op2, w_op1, w_var, w_pure, w_call, w_callF, w_tru, w_notM, w_andM, w_orM, w_notE, w_andE, w_orE, w_ifE, w_yes, w_ret, w_retN, w_expr, w_if, w_nx, w_par, w_for, w_set, w_tupG, w_consG, w_nilG, w_sub, w_it, w_rng1, w_zip, w_enum, w_lc, w_lc2, w_turn, w_turn2, w_nilP, w_consP, w_disp, thn_nx, thn_rt, thn_exc, toS_ok, toS_exc, toG_ok, toR_nx, toR_rt, toR_exc, Res.bind_ok, Res.bind_exc, startE, pick, wipeE, List.filterMap_cons, List.filterMap_nil, List.map_cons, List.map_nil, List.getElem?_cons_zero, List.getElem?_cons_succ, List.length_cons, List.length_nil, List.replicate, List.cons_append, List.nil_append, List.append_nil, List.set_cons_zero, List.set_cons_succ, binP, cmpP, p_addI, p_subI, p_lt, p_le, p_gt, p_ge, p_neg, p_truB, p_truT, p_lenT, p_lenC, p_max, p_min, p_tupT, Nat.reduceAdd, Nat.reduceSub, Nat.reduceEqDiff, Nat.reduceLeDiff, Nat.reduceLT, Nat.reducePow, Nat.zero_add, sizeLine, if_true, if_false, ite_true, ite_false, Bool.not_true, Bool.not_false, nx_nx, nx_ct, okR_ok]
      · simp only [decide_eq_false h, if_neg h, w_body, w_seq, w_asg, w_tup, w_lst, w_cons, w_nil, w_op2, w_op1, w_var, w_pure, w_call, w_callF, w_tru, w_notM, w_andM, w_orM, w_notE, w_andE, w_orE, w_ifE, w_yes, w_ret, w_retN, w_expr, w_if, w_nx, w_par, w_for, w_set, w_tupG, w_consG, w_nilG, w_sub, w_it, w_rng1, w_zip, w_enum, w_lc, w_lc2, w_turn, w_turn2, w_nilP, w_consP, w_disp, thn_nx, thn_rt, thn_exc, toS_ok, toS_exc, toG_ok, toR_nx, toR_rt, toR_exc, Res.bind_ok, Res.bind_exc, startE, pick, wipeE, List.filterMap_cons, List.filterMap_nil, List.map_cons, List.map_nil, List.getElem?_cons_zero, List.getElem?_cons_succ, List.length_cons, List.length_nil, List.replicate, List.cons_append, List.nil_append, List.append_nil, List.set_cons_zero, List.set_cons_succ, binP, cmpP, p_addI, p_subI, p_lt, p_le, p_gt, p_ge, p_neg, p_truB, p_truT, p_lenT, p_lenC, p_max, p_min, p_tupT, Nat.reduceAdd, Nat.reduceSub, Nat.reduceEqDiff, Nat.reduceLeDiff, Nat.reduceLT, Nat.reducePow, Nat.zero_add, sizeLine, if_true, if_false, ite_true, ite_false, Bool.not_true, Bool.not_false, nx_nx, nx_ct, okR_ok, Bool.false_eq_true]) (by omega) []
  have e3 : ns.filterMap (fun i => if 10 ^ 18 ≤ i then some (PV.int i) else none) = (ns.filter fun i => decide (10 ^ 18 ≤ i)).map PV.int := by
    clear e e2 hn
    induction ns with
    | nil => rfl
    | cons n ns ih =>
      rw [List.filterMap_cons, List.filter_cons]
      by_cases h : (10 : Int) ^ 18 ≤ n
      · simp only [if_pos h, decide_eq_true h, if_true, List.map_cons, ih]
      · simp only [if_neg h, decide_eq_false h, Bool.false_eq_true, if_false, ih]
  rw [e3] at e2
  have hl2 : (ns.filter fun i => decide (10 ^ 18 ≤ i)).length ≤ ns.length := List.length_filter_le _ _
  simp only [e2, w_body, w_seq, w_asg, w_tup, w_lst, w_cons, w_nil, w_op2, w_op1, w_var, w_pure, w_call, w_callF, w_tru, w_notM, w_andM, w_orM, w_notE, w_andE, w_orE, w_ifE, w_yes, w_ret, w_retN, w_expr, w_if, w_nx, w_par, w_for, w_set, w_tupG, w_consG, w_nilG, w_sub, w_it, w_rng1, w_zip, w_enum, w_lc, w_lc2, w_turn, w_turn2, w_nilP, w_consP, w_disp, thn_nx, thn_rt, thn_exc, toS_ok, toS_exc, toG_ok, toR_nx, toR_rt, toR_exc, Res.bind_ok, Res.bind_exc, startE, pick, wipeE, List.filterMap_cons, List.filterMap_nil, List.map_cons, List.map_nil, List.getElem?_cons_zero, List.getElem?_cons_succ, List.length_cons, List.length_nil, List.replicate, List.cons_append, List.nil_append, List.append_nil, List.set_cons_zero, List.set_cons_succ, binP, cmpP, p_addI, p_subI, p_lt, p_le, p_gt, p_ge, p_neg, p_truB, p_truT, p_lenT, p_lenC, p_max, p_min, p_tupT, Nat.reduceAdd, Nat.reduceSub, Nat.reduceEqDiff, Nat.reduceLeDiff, Nat.reduceLT, Nat.reducePow, Nat.zero_add, sizeLine, if_true, if_false, ite_true, ite_false, Bool.not_true, Bool.not_false, nx_nx, nx_ct, okR_ok, p_new (S := S') (xs := (ns.filter fun i => decide (10 ^ 18 ≤ i)).map PV.int) (by rw [List.length_map]; show _ ≤ 2 ^ 24; omega), dispR, keysP, keyP]
  rw [md_new, List.length_append]
  refine ⟨_, rfl, ⟨by simp, ⟨a, 0, ?_⟩, _, at_new at_last, by omega⟩, Keeps.new.trans .new⟩
  have := at_last (S := S' ++ [PObj.lst ((ns.filter fun i => decide (10 ^ 18 ≤ i)).map PV.int)]) (o := md a 0 S'.length)
  rw [List.length_append] at this
  exact this
end K60

namespace K60
open PySem PySem.Spec PyProof.Rows L2 D
abbrev tS (xs : List Str) : PV := (eTup eStr).pv xs
def choices (a b : Str) : List Str := if a = "any" ∨ a = b then [b] else if b = "any" then [a] else [a, b]
def step (found : List (List Str)) (z : Str × Str) : List (List Str) := found.flatMap fun fr => (choices z.1 z.2).map fun k => fr ++ [k]
def mixL (zs : List (Str × Str)) : List (List Str) := zs.foldl step [[]]
theorem mixL_snoc (zs : List (Str × Str)) (z : Str × Str) : mixL (zs ++ [z]) = step (mixL zs) z := by
  unfold mixL
  rw [List.foldl_append]
  rfl
theorem choices_len (a b : Str) : (choices a b).length ≤ 2 := by
  unfold choices
  split
  · exact Nat.le_succ 1
  · split
    · exact Nat.le_succ 1
    · exact Nat.le_refl 2
theorem step_len (f : List (List Str)) (z : Str × Str) : (step f z).length ≤ 2 * f.length := by
  unfold step
  induction f with
  | nil => simp
  | cons x f ih =>
    rw [List.flatMap_cons, List.length_append, List.length_map, List.length_cons]
    have := choices_len z.1 z.2
    omega
theorem step_mem {f : List (List Str)} {z : Str × Str} {x : List Str} (h : x ∈ step f z) : ∃ fr ∈ f, ∃ k ∈ choices z.1 z.2, x = fr ++ [k] := by
  unfold step at h
  obtain ⟨fr, h1, h2⟩ := List.mem_flatMap.mp h
  obtain ⟨k, h3, rfl⟩ := List.mem_map.mp h2
  exact ⟨fr, h1, k, h3, rfl⟩
theorem fold_len : ∀ (zs : List (Str × Str)) (f : List (List Str)) (n : Nat), (∀ x ∈ f, x.length = n) → (zs.foldl step f).length ≤ 2 ^ zs.length * f.length ∧ ∀ x ∈ zs.foldl step f, x.length = n + zs.length
  | [], f, n, h => ⟨by simp, by simpa using h⟩
  | z :: zs, f, n, h => by
    obtain ⟨h1, h2⟩ := fold_len zs (step f z) (n + 1) fun x hx => by
      obtain ⟨fr, h3, k, _, rfl⟩ := step_mem hx
      rw [List.length_append, h fr h3]
      rfl
    refine ⟨?_, fun x hx => ?_⟩
    · rw [List.foldl_cons, List.length_cons, Nat.pow_succ]
      refine Nat.le_trans h1 ?_
      rw [Nat.mul_assoc]
      exact Nat.mul_le_mul_left _ (step_len f z)
    · rw [h2 x hx, List.length_cons]
      omega
theorem mix_len (zs : List (Str × Str)) : (mixL zs).length ≤ 2 ^ zs.length ∧ ∀ x ∈ mixL zs, x.length = zs.length := by
  obtain ⟨h1, h2⟩ := fold_len zs [[]] 0 (by simp)
  exact ⟨by simpa [mixL] using h1, by simpa [mixL] using h2⟩
theorem fold_ok {ok : Str → Prop} : ∀ (zs : List (Str × Str)) (f : List (List Str)), (∀ z ∈ zs, ok z.1 ∧ ok z.2) → (∀ x ∈ f, ∀ k ∈ x, ok k) → ∀ x ∈ zs.foldl step f, ∀ k ∈ x, ok k
  | [], f, _, h => h
  | z :: zs, f, hz, h => by
    refine fold_ok zs (step f z) (fun y hy => hz y (List.mem_cons_of_mem _ hy)) fun x hx k hk => ?_
    obtain ⟨fr, h3, c, hc, rfl⟩ := step_mem hx
    rcases List.mem_append.mp hk with hk | hk
    · exact h fr h3 k hk
    · have e : k = c := by simpa using hk
      subst e
      have h1 := hz z List.mem_cons_self
      unfold choices at hc
      split at hc
      · have : k = z.2 := by simpa using hc
        rw [this]; exact h1.2
      · split at hc
        · have : k = z.1 := by simpa using hc
          rw [this]; exact h1.1
        · simp at hc
          rcases hc with rfl | rfl
          · exact h1.1
          · exact h1.2
theorem mix_ok {ok : Str → Prop} {zs : List (Str × Str)} (hz : ∀ z ∈ zs, ok z.1 ∧ ok z.2) : ∀ x ∈ mixL zs, ∀ k ∈ x, ok k := fold_ok zs [[]] hz (by simp)
/-- a text that is one -/
abbrev SOk (x : Str) : Prop := PyData.strOk x = true
theorem any_ok : SOk "any" := by decide +kernel
theorem mixL_take {zs : List (Str × Str)} {i : Nat} (h : i < zs.length) : mixL (zs.take (i + 1)) = step (mixL (zs.take i)) zs[i] := by
  rw [List.take_succ_eq_append_getElem h, mixL_snoc]
theorem pow_small {n : Nat} (h : n ≤ 10) : 2 ^ n ≤ 1024 := Nat.pow_le_pow_right (n := 2) (by decide) h
abbrev leT := (eTup eStr).le
theorem str_eq {S : Hs} {a b : Str} (ha : SOk a) (hb : SOk b) : eqP (.str a) (.str b) S = .ok (.bl (decide (a = b))) S := eStr.eq_ (by decide) ha hb
theorem str_ne {S : Hs} {a b : Str} (ha : SOk a) (hb : SOk b) : neP (.str a) (.str b) S = .ok (.bl (!decide (a = b))) S := eStr.ne_ (by decide) ha hb
/-- the names that come next: .. -/
theorem comp_ok {S : Hs} {q c : Nat} {found : List (List Str)} {cs : List Str} {x0 x1 x3 x4 : Option PV} (hq : S[q]? = some (.lst (found.map tS))) (hc : S[c]? = some (.lst (cs.map PV.str))) (hf : found.length ≤ 1024) (hcs : cs.length ≤ 2) (hl : ∀ x ∈ found, x.length ≤ 1000) :
    lc2Go (nxt (.lst q)) (lc2Turn (setG 6) yesM (itM (varM 5)) (setG 7) yesM m_mixtures_e1 [7] [x0, x1, some (.ref q), x3, x4, some (.ref c), none, none]) FUEL 0 [] S
      = .ok ((found.flatMap fun fr => cs.map fun k => fr ++ [k]).map tS) S := by
  rw [lc2Go_map (xs := found) (f := tS) (g := fun fr => cs.map fun k => tS (fr ++ [k])) (nxt_lst hq) (fun fr hfr acc => ?_) (by omega)]
  · rw [List.map_flatMap]
    simp only [List.map_map]
    rfl
  · simp only [w_body, w_seq, w_asg, w_tup, w_lst, w_cons, w_nil, w_op2, w_op1, w_var, w_pure, w_call, w_callF, w_tru, w_notM, w_andM, w_orM, w_notE, w_andE, w_orE, w_ifE, w_yes, w_ret, w_retN, w_expr, w_if, w_nx, w_par, w_for, w_set, w_tupG, w_consG, w_nilG, w_sub, w_it, w_rng1, w_zip, w_enum, w_lc, w_lc2, w_turn, w_turn2, w_nilP, w_consP, w_disp, thn_nx, thn_rt, thn_exc, toS_ok, toS_exc, toG_ok, toR_nx, toR_rt, toR_exc, Res.bind_ok, Res.bind_exc, startE, pick, wipeE, List.filterMap_cons, List.filterMap_nil, List.map_cons, List.map_nil, List.getElem?_cons_zero, List.getElem?_cons_succ, List.length_cons, List.length_nil, List.replicate, List.cons_append, List.nil_append, List.append_nil, List.set_cons_zero, List.set_cons_succ, binP, cmpP, p_addI, p_subI, p_lt, p_le, p_gt, p_ge, p_neg, p_truB, p_truT, p_lenT, p_lenC, p_max, p_min, p_tupT, Nat.reduceAdd, Nat.reduceSub, Nat.reduceEqDiff, Nat.reduceLeDiff, Nat.reduceLT, Nat.reducePow, Nat.zero_add, sizeLine, if_true, if_false, ite_true, ite_false, Bool.not_true, Bool.not_false, nx_nx, nx_ct, okR_ok, p_iterL hc]
    rw [lcGo_map (xs := cs) (f := PV.str) (g := fun k => some (tS (fr ++ [k]))) (nxt_lst hc) (fun k _ => ?_) (by omega)]
    · rw [List.filterMap_eq_map']
    · have h1 := hl fr hfr
      show lcTurn _ _ _ _ _ _ = _
      simp only [m_mixtures_e1, w_body, w_seq, w_asg, w_tup, w_lst, w_cons, w_nil, w_op2, w_op1, w_var, w_pure, w_call, w_callF, w_tru, w_notM, w_andM, w_orM, w_notE, w_andE, w_orE, w_ifE, w_yes, w_ret, w_retN, w_expr, w_if, w_nx, w_par, w_for, w_set, w_tupG, w_consG, w_nilG, w_sub, w_it, w_rng1, w_zip, w_enum, w_lc, w_lc2, w_turn, w_turn2, w_nilP, w_consP, w_disp, thn_nx, thn_rt, thn_exc, toS_ok, toS_exc, toG_ok, toR_nx, toR_rt, toR_exc, Res.bind_ok, Res.bind_exc, startE, pick, wipeE, List.filterMap_cons, List.filterMap_nil, List.map_cons, List.map_nil, List.getElem?_cons_zero, List.getElem?_cons_succ, List.length_cons, List.length_nil, List.replicate, List.cons_append, List.nil_append, List.append_nil, List.set_cons_zero, List.set_cons_succ, binP, cmpP, p_addI, p_subI, p_lt, p_le, p_gt, p_ge, p_neg, p_truB, p_truT, p_lenT, p_lenC, p_max, p_min, p_tupT, Nat.reduceAdd, Nat.reduceSub, Nat.reduceEqDiff, Nat.reduceLeDiff, Nat.reduceLT, Nat.reducePow, Nat.zero_add, sizeLine, if_true, if_false, ite_true, ite_false, Bool.not_true, Bool.not_false, nx_nx, nx_ct, okR_ok]
      show (addP (.tup (fr.map PV.str)) (.tup [.str k]) S).bind _ = _
      rw [p_addT (by simp [sizeLine]; omega)]
      simp [tS, eTup, eStr]
theorem zip_nx {xs ys : List Str} {i : Nat} {S : Hs} (hi : i < (xs.zip ys).length) : nxt (.zip (xs.map PV.str) (ys.map PV.str)) i S = some (some (.tup [.str (xs.zip ys)[i].1, .str (xs.zip ys)[i].2])) := by
  rw [nxt_zip, List.zip_map, List.map_map, List.getElem?_map, List.getElem?_eq_getElem hi]
  rfl
/-- what the turn makes of its choices -/
theorem made_ok {S : Hs} {q c : Nat} {found : List (List Str)} {cs : List Str} {x0 x1 x3 x4 x6 x7 : Option PV} (hq : S[q]? = some (.lst (found.map tS))) (hc : S[c]? = some (.lst (cs.map PV.str))) (hf : found.length ≤ 1024) (hcs : cs.length ≤ 2) (hl : ∀ x ∈ found, x.length ≤ 1000) :
    asgS (lc2M (itM (varM 2)) (setG 6) yesM (itM (varM 5)) (setG 7) yesM m_mixtures_e1 [6, 7] [7]) (setG 2) [x0, x1, some (.ref q), x3, x4, some (.ref c), x6, x7] S
      = .nx [x0, x1, some (.ref S.length), x3, x4, some (.ref c), x6, x7] (S ++ [.lst ((found.flatMap fun fr => cs.map fun k => fr ++ [k]).map tS)]) := by
  have h1 : (found.flatMap fun fr => cs.map fun k => fr ++ [k]).length ≤ 2 * found.length := by
    clear hq hl hf
    induction found with
    | nil => simp
    | cons x f ih =>
      rw [List.flatMap_cons, List.length_append, List.length_map, List.length_cons]
      omega
  simp only [w_body, w_seq, w_asg, w_tup, w_lst, w_cons, w_nil, w_op2, w_op1, w_var, w_pure, w_call, w_callF, w_tru, w_notM, w_andM, w_orM, w_notE, w_andE, w_orE, w_ifE, w_yes, w_ret, w_retN, w_expr, w_if, w_nx, w_par, w_for, w_set, w_tupG, w_consG, w_nilG, w_sub, w_it, w_rng1, w_zip, w_enum, w_lc, w_lc2, w_turn, w_turn2, w_nilP, w_consP, w_disp, thn_nx, thn_rt, thn_exc, toS_ok, toS_exc, toG_ok, toR_nx, toR_rt, toR_exc, Res.bind_ok, Res.bind_exc, startE, pick, wipeE, List.filterMap_cons, List.filterMap_nil, List.map_cons, List.map_nil, List.getElem?_cons_zero, List.getElem?_cons_succ, List.length_cons, List.length_nil, List.replicate, List.cons_append, List.nil_append, List.append_nil, List.set_cons_zero, List.set_cons_succ, binP, cmpP, p_addI, p_subI, p_lt, p_le, p_gt, p_ge, p_neg, p_truB, p_truT, p_lenT, p_lenC, p_max, p_min, p_tupT, Nat.reduceAdd, Nat.reduceSub, Nat.reduceEqDiff, Nat.reduceLeDiff, Nat.reduceLT, Nat.reducePow, Nat.zero_add, sizeLine, if_true, if_false, ite_true, ite_false, Bool.not_true, Bool.not_false, nx_nx, nx_ct, okR_ok, p_iterL hq, comp_ok hq hc hf hcs hl, p_new (S := S) (xs := (found.flatMap fun fr => cs.map fun k => fr ++ [k]).map tS) (by rw [List.length_map]; show _ ≤ 2 ^ 24; omega)]
theorem mixtures_ok {S : Hs} {xs ys : List Str} (hx : ∀ x ∈ xs, SOk x) (hy : ∀ y ∈ ys, SOk y) (h0 : 0 < (xs.zip ys).length) (h10 : (xs.zip ys).length ≤ 10) :
    ∃ S', f_mixtures_2 [.tup (xs.map PV.str), .tup (ys.map PV.str)] S = .ok (.tup (((mixL (xs.zip ys)).mergeSort leT).map tS)) S' ∧ Keeps S S' [] := by
  unfold f_mixtures_2 m_mixtures
  simp only [w_body, w_seq, w_asg, w_tup, w_lst, w_cons, w_nil, w_op2, w_op1, w_var, w_pure, w_call, w_callF, w_tru, w_notM, w_andM, w_orM, w_notE, w_andE, w_orE, w_ifE, w_yes, w_ret, w_retN, w_expr, w_if, w_nx, w_par, w_for, w_set, w_tupG, w_consG, w_nilG, w_sub, w_it, w_rng1, w_zip, w_enum, w_lc, w_lc2, w_turn, w_turn2, w_nilP, w_consP, w_disp, thn_nx, thn_rt, thn_exc, toS_ok, toS_exc, toG_ok, toR_nx, toR_rt, toR_exc, Res.bind_ok, Res.bind_exc, startE, pick, wipeE, List.filterMap_cons, List.filterMap_nil, List.map_cons, List.map_nil, List.getElem?_cons_zero, List.getElem?_cons_succ, List.length_cons, List.length_nil, List.replicate, List.cons_append, List.nil_append, List.append_nil, List.set_cons_zero, List.set_cons_succ, binP, cmpP, p_addI, p_subI, p_lt, p_le, p_gt, p_ge, p_neg, p_truB, p_truT, p_lenT, p_lenC, p_max, p_min, p_tupT, Nat.reduceAdd, Nat.reduceSub, Nat.reduceEqDiff, Nat.reduceLeDiff, Nat.reduceLT, Nat.reducePow, Nat.zero_add, sizeLine, if_true, if_false, ite_true, ite_false, Bool.not_true, Bool.not_false, nx_nx, nx_ct, okR_ok, p_new (S := S) (xs := [PV.tup []]) (by decide), zipR_tup]
  have zok : ∀ z ∈ xs.zip ys, SOk z.1 ∧ SOk z.2 := fun z hz => ⟨hx _ (List.of_mem_zip hz).1, hy _ (List.of_mem_zip hz).2⟩
  obtain ⟨env', S', e, q, x3, x4, x5, x6, x7, rfl, hq, k⟩ := for_inv (nx := nxt (.zip (xs.map PV.str) (ys.map PV.str))) (t := tupG 2 (consG (setG 3) (consG (setG 4) nilG))) (body := m_mixtures_b1)
    (fun i env S' => ∃ (q : Nat) (x3 x4 x5 x6 x7 : Option PV), env = [some (.tup (xs.map PV.str)), some (.tup (ys.map PV.str)), some (.ref q), x3, x4, x5, x6, x7] ∧ S'[q]? = some (.lst ((mixL ((xs.zip ys).take i)).map tS)) ∧ Keeps S S' []) (xs.zip ys).length (by omega)
    (fun env S' _ => by
      rw [nxt_zip, List.getElem?_eq_none (by simp)])
    (by
      rintro i env S' hi ⟨q, x3, x4, x5, x6, x7, rfl, hq, k⟩
      refine ⟨_, zip_nx hi, ?_⟩
      obtain ⟨ha, hb⟩ := zok _ (List.getElem_mem hi)
      have hm : mixL ((xs.zip ys).take (i + 1)) = (mixL ((xs.zip ys).take i)).flatMap fun fr => (choices (xs.zip ys)[i].1 (xs.zip ys)[i].2).map fun k => fr ++ [k] := mixL_take hi
      have hlen := mix_len ((xs.zip ys).take i)
      have hti : ((xs.zip ys).take i).length = i := by rw [List.length_take]; omega
      rw [hti] at hlen
      have hsm := pow_small (n := i) (by omega)
      generalize (xs.zip ys)[i].1 = a at ha hm
      generalize (xs.zip ys)[i].2 = b at hb hm
      rw [hm]
      have fin : ∀ (S2 : Hs) (c : Nat) (x3 x4 x6 x7 : Option PV), S2[q]? = some (.lst ((mixL ((xs.zip ys).take i)).map tS)) → S2[c]? = some (.lst ((choices a b).map PV.str)) → Keeps S S2 [] →
          Nx (fun env S' => ∃ (q : Nat) (x3 x4 x5 x6 x7 : Option PV), env = [some (.tup (xs.map PV.str)), some (.tup (ys.map PV.str)), some (.ref q), x3, x4, x5, x6, x7] ∧ S'[q]? = some (.lst (((mixL ((xs.zip ys).take i)).flatMap fun fr => (choices a b).map fun k => fr ++ [k]).map tS)) ∧ Keeps S S' [])
            (asgS (lc2M (itM (varM 2)) (setG 6) yesM (itM (varM 5)) (setG 7) yesM m_mixtures_e1 [6, 7] [7]) (setG 2) [some (.tup (xs.map PV.str)), some (.tup (ys.map PV.str)), some (.ref q), x3, x4, some (.ref c), x6, x7] S2) := by
        intro S2 c x3 x4 x6 x7 h1 h2 h3
        rw [made_ok h1 h2 (by omega) (choices_len a b) (fun x hx => by rw [hlen.2 x hx]; omega)]
        exact ⟨_, _, _, _, _, _, rfl, at_last, h3.trans .new⟩
      have n1 := p_new (S := S') (xs := [PV.str a, PV.str b]) (by simp [sizeLine])
      have q1 := at_new hq (o' := .lst [.str a, .str b])
      have c1 := at_last (S := S') (o := .lst [.str a, .str b])
      have k1 : Keeps S (S' ++ [.lst [.str a, .str b]]) [] := k.trans .new
      simp only [m_mixtures_b1, w_seq, w_asg, w_if, w_lst, w_cons, w_nil, w_var, w_pure, w_op2, w_orM, w_tru, w_tupG, w_consG, w_nilG, w_set, w_nx, thn_nx, toS_ok, toG_ok, Res.bind_ok, List.getElem?_cons_zero, List.getElem?_cons_succ, List.set_cons_zero, List.set_cons_succ, List.length_cons, List.length_nil, Nat.zero_add, Nat.reduceAdd, if_true, n1, cmpP, str_eq ha any_ok, str_eq ha hb, str_eq hb any_ok, p_truB]
      have c0 : ∀ SS : Hs, (if decide (a = "any") = true then Res.ok true SS else Res.ok (decide (a = b)) SS) = .ok (decide (a = "any" ∨ a = b)) SS := fun SS => by
        by_cases h : a = "any" <;> simp [h]
      rw [c0]
      have nb := p_new (S := S' ++ [.lst [.str a, .str b]]) (xs := [PV.str b]) (by simp [sizeLine])
      have na := p_new (S := S' ++ [.lst [.str a, .str b]]) (xs := [PV.str a]) (by simp [sizeLine])
      by_cases h1 : a = "any" ∨ a = b
      · have hc : choices a b = [b] := if_pos h1
        simp only [decide_eq_true h1, toS_ok, if_true, nb, thn_nx]
        exact fin _ _ _ _ _ _ (at_new q1) (by rw [hc]; exact at_last) (k1.trans .new)
      · simp only [decide_eq_false h1, toS_ok, Bool.false_eq_true, if_false]
        by_cases h2 : b = "any"
        · have hc : choices a b = [a] := (if_neg h1).trans (if_pos h2)
          simp only [decide_eq_true h2, toS_ok, if_true, na, thn_nx]
          exact fin _ _ _ _ _ _ (at_new q1) (by rw [hc]; exact at_last) (k1.trans .new)
        · have hc : choices a b = [a, b] := (if_neg h1).trans (if_neg h2)
          simp only [decide_eq_false h2, Bool.false_eq_true, if_false, thn_nx]
          exact fin _ _ _ _ _ _ q1 (by rw [hc]; exact c1) k1)
    (S := S ++ [.lst [.tup []]]) (env := [some (.tup (xs.map PV.str)), some (.tup (ys.map PV.str)), some (.ref S.length), none, none, none, none, none]) ⟨_, _, _, _, _, _, rfl, at_last, .new⟩
  have e2 : (xs.zip ys).take (xs.zip ys).length = xs.zip ys := List.take_length
  rw [e2] at hq
  obtain ⟨hl1, hl2⟩ := mix_len (xs.zip ys)
  have hsm := pow_small h10
  have e3 := (eTup eStr).sort (S := S') (r := q) (xs := mixL (xs.zip ys)) (by decide) (by show _ ≤ 2 ^ 24; omega) (by
    unfold sortB
    rw [Bool.or_eq_true_iff]
    refine .inl (List.all_eq_true.mpr fun d hd => ?_)
    obtain ⟨x, hx', rfl⟩ := List.mem_map.mp hd
    have := hl2 x hx'
    cases x with
    | nil => rw [List.length_nil] at this; omega
    | cons c x => rfl) hq
  simp only [e, w_body, w_seq, w_asg, w_tup, w_lst, w_cons, w_nil, w_op2, w_op1, w_var, w_pure, w_call, w_callF, w_tru, w_notM, w_andM, w_orM, w_notE, w_andE, w_orE, w_ifE, w_yes, w_ret, w_retN, w_expr, w_if, w_nx, w_par, w_for, w_set, w_tupG, w_consG, w_nilG, w_sub, w_it, w_rng1, w_zip, w_enum, w_lc, w_lc2, w_turn, w_turn2, w_nilP, w_consP, w_disp, thn_nx, thn_rt, thn_exc, toS_ok, toS_exc, toG_ok, toR_nx, toR_rt, toR_exc, Res.bind_ok, Res.bind_exc, startE, pick, wipeE, List.filterMap_cons, List.filterMap_nil, List.map_cons, List.map_nil, List.getElem?_cons_zero, List.getElem?_cons_succ, List.length_cons, List.length_nil, List.replicate, List.cons_append, List.nil_append, List.append_nil, List.set_cons_zero, List.set_cons_succ, binP, cmpP, p_addI, p_subI, p_lt, p_le, p_gt, p_ge, p_neg, p_truB, p_truT, p_lenT, p_lenC, p_max, p_min, p_tupT, Nat.reduceAdd, Nat.reduceSub, Nat.reduceEqDiff, Nat.reduceLeDiff, Nat.reduceLT, Nat.reducePow, Nat.zero_add, sizeLine, if_true, if_false, ite_true, ite_false, Bool.not_true, Bool.not_false, nx_nx, nx_ct, okR_ok, e3, p_tupL at_last]
  exact ⟨_, rfl, k.trans .new⟩
end K60

namespace K60
open PySem PySem.Spec PyProof.Rows L2 D
def grown (cs : List Str) (fs : List (List Str)) : List (List Str) := fs.flatMap fun fr => cs.map fun k => fr ++ [k]
theorem grown_len {cs : List Str} (h : cs.length ≤ 2) (fs : List (List Str)) : (grown cs fs).length ≤ 2 * fs.length := by
  unfold grown
  induction fs with
  | nil => simp
  | cons x f ih =>
    rw [List.flatMap_cons, List.length_append, List.length_map, List.length_cons]
    omega
/-- the inner walk: longer grows -/
theorem inner_ok {S : Hs} {q c l : Nat} {found : List (List Str)} {cs : List Str} {x0 x1 x3 x4 x5 x8 : Option PV} (hq : S[q]? = some (.lst (found.map tS))) (hc : S[c]? = some (.lst (cs.map PV.str))) (hL : S[l]? = some (.lst [])) (hf : found.length ≤ 1024) (hcs : cs.length ≤ 2) (hl : ∀ x ∈ found, x.length ≤ 1000) :
    ∃ x5' x8' l' S', forGo (nxt (.lst q)) (setG 5) m__law_mixtures_b1 FUEL 0 [x0, x1, some (.ref q), x3, x4, x5, some (.ref c), some (.ref l), x8] S = .nx [x0, x1, some (.ref q), x3, x4, x5', some (.ref c), some (.ref l'), x8'] S' ∧ S'[l']? = some (.lst ((grown cs found).map tS)) ∧ Keeps S S' [] := by
  obtain ⟨env', S', e, x5', x8', l', rfl, h1, h2, h3, k⟩ := for_inv (nx := nxt (.lst q)) (t := setG 5) (body := m__law_mixtures_b1)
    (fun i env S' => ∃ (x5' x8' : Option PV) (l' : Nat), env = [x0, x1, some (.ref q), x3, x4, x5', some (.ref c), some (.ref l'), x8'] ∧ S'[q]? = some (.lst (found.map tS)) ∧ S'[c]? = some (.lst (cs.map PV.str)) ∧ S'[l']? = some (.lst ((grown cs (found.take i)).map tS)) ∧ Keeps S S' []) found.length (by omega)
    (fun env S' ⟨_, _, _, _, h, _⟩ => by rw [nxt_lst h, List.getElem?_eq_none (by simp)])
    (by
      rintro i env S' hi ⟨x5', x8', l', rfl, h1, h2, h3, k⟩
      refine ⟨tS found[i], by rw [nxt_lst h1, List.getElem?_map, List.getElem?_eq_getElem hi]; rfl, ?_⟩
      have hfr := hl _ (List.getElem_mem hi)
      have e1 := lcGo_map (S := S') (nx := nxt (.lst c)) (turn := lcTurn (setG 8) yesM m__law_mixtures_e1 [x0, x1, some (.ref q), x3, x4, some (tS found[i]), some (.ref c), some (.ref l'), none]) (xs := cs) (f := PV.str) (g := fun k => some (tS (found[i] ++ [k]))) (nxt_lst h2) (fun k _ => by
        simp only [m__law_mixtures_e1, w_body, w_seq, w_asg, w_tup, w_lst, w_cons, w_nil, w_op2, w_op1, w_var, w_pure, w_call, w_callF, w_tru, w_notM, w_andM, w_orM, w_notE, w_andE, w_orE, w_ifE, w_yes, w_ret, w_retN, w_expr, w_if, w_nx, w_par, w_for, w_set, w_tupG, w_consG, w_nilG, w_sub, w_it, w_rng1, w_zip, w_enum, w_lc, w_lc2, w_turn, w_turn2, w_nilP, w_consP, w_disp, thn_nx, thn_rt, thn_exc, toS_ok, toS_exc, toG_ok, toR_nx, toR_rt, toR_exc, Res.bind_ok, Res.bind_exc, startE, pick, wipeE, List.filterMap_cons, List.filterMap_nil, List.map_cons, List.map_nil, List.getElem?_cons_zero, List.getElem?_cons_succ, List.length_cons, List.length_nil, List.replicate, List.cons_append, List.nil_append, List.append_nil, List.set_cons_zero, List.set_cons_succ, binP, cmpP, p_addI, p_subI, p_lt, p_le, p_gt, p_ge, p_neg, p_truB, p_truT, p_lenT, p_lenC, p_max, p_min, p_tupT, Nat.reduceAdd, Nat.reduceSub, Nat.reduceEqDiff, Nat.reduceLeDiff, Nat.reduceLT, Nat.reducePow, Nat.zero_add, sizeLine, if_true, if_false, ite_true, ite_false, Bool.not_true, Bool.not_false, nx_nx, nx_ct, okR_ok]
        show (addP (.tup (found[i].map PV.str)) (.tup [.str k]) S').bind _ = _
        rw [p_addT (by simp [sizeLine]; omega)]
        simp [tS, eTup, eStr]) (by omega) []
      rw [List.filterMap_eq_map', List.nil_append] at e1
      have n1 := p_new (S := S') (xs := cs.map fun k => tS (found[i] ++ [k])) (by rw [List.length_map]; show _ ≤ 2 ^ 24; omega)
      have g1 := grown_len hcs (found.take i)
      have g2 : (found.take i).length ≤ found.length := by rw [List.length_take]; omega
      have n2 := p_new (S := S' ++ [.lst (cs.map fun k => tS (found[i] ++ [k]))]) (xs := (grown cs (found.take i)).map tS ++ cs.map fun k => tS (found[i] ++ [k])) (by
        rw [List.length_append, List.length_map, List.length_map]; show _ ≤ 2 ^ 24; omega)
      simp only [m__law_mixtures_b1, w_body, w_seq, w_asg, w_tup, w_lst, w_cons, w_nil, w_op2, w_op1, w_var, w_pure, w_call, w_callF, w_tru, w_notM, w_andM, w_orM, w_notE, w_andE, w_orE, w_ifE, w_yes, w_ret, w_retN, w_expr, w_if, w_nx, w_par, w_for, w_set, w_tupG, w_consG, w_nilG, w_sub, w_it, w_rng1, w_zip, w_enum, w_lc, w_lc2, w_turn, w_turn2, w_nilP, w_consP, w_disp, thn_nx, thn_rt, thn_exc, toS_ok, toS_exc, toG_ok, toR_nx, toR_rt, toR_exc, Res.bind_ok, Res.bind_exc, startE, pick, wipeE, List.filterMap_cons, List.filterMap_nil, List.map_cons, List.map_nil, List.getElem?_cons_zero, List.getElem?_cons_succ, List.length_cons, List.length_nil, List.replicate, List.cons_append, List.nil_append, List.append_nil, List.set_cons_zero, List.set_cons_succ, binP, cmpP, p_addI, p_subI, p_lt, p_le, p_gt, p_ge, p_neg, p_truB, p_truT, p_lenT, p_lenC, p_max, p_min, p_tupT, Nat.reduceAdd, Nat.reduceSub, Nat.reduceEqDiff, Nat.reduceLeDiff, Nat.reduceLT, Nat.reducePow, Nat.zero_add, sizeLine, if_true, if_false, ite_true, ite_false, Bool.not_true, Bool.not_false, nx_nx, nx_ct, okR_ok, p_iterL h2, e1, n1, p_addL (at_new h3) at_last, n2]
      refine ⟨_, _, _, rfl, at_new (at_new h1), at_new (at_new h2), ?_, (k.trans .new).trans .new⟩
      rw [at_last, List.take_succ_eq_append_getElem hi]
      congr 2
      unfold grown
      rw [List.flatMap_append, List.map_append]
      simp)
    (S := S) (env := [x0, x1, some (.ref q), x3, x4, x5, some (.ref c), some (.ref l), x8]) ⟨_, _, _, rfl, hq, hc, hL, .refl⟩
  rw [List.take_length] at h3
  exact ⟨x5', x8', l', S', e, h3, k⟩
theorem law_mixtures_ok {S : Hs} {xs ys : List Str} (hx : ∀ x ∈ xs, SOk x) (hy : ∀ y ∈ ys, SOk y) (h0 : 0 < (xs.zip ys).length) (h10 : (xs.zip ys).length ≤ 10) :
    ∃ S', f__law_mixtures_2 [.tup (xs.map PV.str), .tup (ys.map PV.str)] S = .ok (.tup (((mixL (xs.zip ys)).mergeSort leT).map tS)) S' ∧ Keeps S S' [] := by
  unfold f__law_mixtures_2 m__law_mixtures
  simp only [w_body, w_seq, w_asg, w_tup, w_lst, w_cons, w_nil, w_op2, w_op1, w_var, w_pure, w_call, w_callF, w_tru, w_notM, w_andM, w_orM, w_notE, w_andE, w_orE, w_ifE, w_yes, w_ret, w_retN, w_expr, w_if, w_nx, w_par, w_for, w_set, w_tupG, w_consG, w_nilG, w_sub, w_it, w_rng1, w_zip, w_enum, w_lc, w_lc2, w_turn, w_turn2, w_nilP, w_consP, w_disp, thn_nx, thn_rt, thn_exc, toS_ok, toS_exc, toG_ok, toR_nx, toR_rt, toR_exc, Res.bind_ok, Res.bind_exc, startE, pick, wipeE, List.filterMap_cons, List.filterMap_nil, List.map_cons, List.map_nil, List.getElem?_cons_zero, List.getElem?_cons_succ, List.length_cons, List.length_nil, List.replicate, List.cons_append, List.nil_append, List.append_nil, List.set_cons_zero, List.set_cons_succ, binP, cmpP, p_addI, p_subI, p_lt, p_le, p_gt, p_ge, p_neg, p_truB, p_truT, p_lenT, p_lenC, p_max, p_min, p_tupT, Nat.reduceAdd, Nat.reduceSub, Nat.reduceEqDiff, Nat.reduceLeDiff, Nat.reduceLT, Nat.reducePow, Nat.zero_add, sizeLine, if_true, if_false, ite_true, ite_false, Bool.not_true, Bool.not_false, nx_nx, nx_ct, okR_ok, p_new (S := S) (xs := [PV.tup []]) (by decide), zipR_tup]
  have zok : ∀ z ∈ xs.zip ys, SOk z.1 ∧ SOk z.2 := fun z hz => ⟨hx _ (List.of_mem_zip hz).1, hy _ (List.of_mem_zip hz).2⟩
  obtain ⟨env', S', e, q, x3, x4, x5, x6, x7, x8, rfl, hq, k⟩ := for_inv (nx := nxt (.zip (xs.map PV.str) (ys.map PV.str))) (t := tupG 2 (consG (setG 3) (consG (setG 4) nilG))) (body := m__law_mixtures_b2)
    (fun i env S' => ∃ (q : Nat) (x3 x4 x5 x6 x7 x8 : Option PV), env = [some (.tup (xs.map PV.str)), some (.tup (ys.map PV.str)), some (.ref q), x3, x4, x5, x6, x7, x8] ∧ S'[q]? = some (.lst ((mixL ((xs.zip ys).take i)).map tS)) ∧ Keeps S S' []) (xs.zip ys).length (by omega)
    (fun env S' _ => by
      rw [nxt_zip, List.getElem?_eq_none (by simp)])
    (by
      rintro i env S' hi ⟨q, x3, x4, x5, x6, x7, x8, rfl, hq, k⟩
      refine ⟨_, zip_nx hi, ?_⟩
      obtain ⟨ha, hb⟩ := zok _ (List.getElem_mem hi)
      have hm : mixL ((xs.zip ys).take (i + 1)) = grown (choices (xs.zip ys)[i].1 (xs.zip ys)[i].2) (mixL ((xs.zip ys).take i)) := mixL_take hi
      have hlen := mix_len ((xs.zip ys).take i)
      have hti : ((xs.zip ys).take i).length = i := by rw [List.length_take]; omega
      rw [hti] at hlen
      have hsm := pow_small (n := i) (by omega)
      generalize (xs.zip ys)[i].1 = a at ha hm
      generalize (xs.zip ys)[i].2 = b at hb hm
      rw [hm]
      have fin : ∀ (S2 : Hs) (c l : Nat) (x3 x4 x5 x8 : Option PV), S2[q]? = some (.lst ((mixL ((xs.zip ys).take i)).map tS)) → S2[c]? = some (.lst ((choices a b).map PV.str)) → S2[l]? = some (.lst []) → Keeps S S2 [] →
          Nx (fun env S' => ∃ (q : Nat) (x3 x4 x5 x6 x7 x8 : Option PV), env = [some (.tup (xs.map PV.str)), some (.tup (ys.map PV.str)), some (.ref q), x3, x4, x5, x6, x7, x8] ∧ S'[q]? = some (.lst ((grown (choices a b) (mixL ((xs.zip ys).take i))).map tS)) ∧ Keeps S S' [])
            (seqS (forS (itM (varM 2)) (setG 5) m__law_mixtures_b1) (asgS (varM 7) (setG 2)) [some (.tup (xs.map PV.str)), some (.tup (ys.map PV.str)), some (.ref q), x3, x4, x5, some (.ref c), some (.ref l), x8] S2) := by
        intro S2 c l x3 x4 x5 x8 h1 h2 h3 h4
        obtain ⟨x5', x8', l', S3, e, h5, k5⟩ := inner_ok (x0 := some (.tup (xs.map PV.str))) (x1 := some (.tup (ys.map PV.str))) (x3 := x3) (x4 := x4) (x5 := x5) (x8 := x8) h1 h2 h3 (by omega) (choices_len a b) (fun x hx => by rw [hlen.2 x hx]; omega)
        simp only [w_body, w_seq, w_asg, w_tup, w_lst, w_cons, w_nil, w_op2, w_op1, w_var, w_pure, w_call, w_callF, w_tru, w_notM, w_andM, w_orM, w_notE, w_andE, w_orE, w_ifE, w_yes, w_ret, w_retN, w_expr, w_if, w_nx, w_par, w_for, w_set, w_tupG, w_consG, w_nilG, w_sub, w_it, w_rng1, w_zip, w_enum, w_lc, w_lc2, w_turn, w_turn2, w_nilP, w_consP, w_disp, thn_nx, thn_rt, thn_exc, toS_ok, toS_exc, toG_ok, toR_nx, toR_rt, toR_exc, Res.bind_ok, Res.bind_exc, startE, pick, wipeE, List.filterMap_cons, List.filterMap_nil, List.map_cons, List.map_nil, List.getElem?_cons_zero, List.getElem?_cons_succ, List.length_cons, List.length_nil, List.replicate, List.cons_append, List.nil_append, List.append_nil, List.set_cons_zero, List.set_cons_succ, binP, cmpP, p_addI, p_subI, p_lt, p_le, p_gt, p_ge, p_neg, p_truB, p_truT, p_lenT, p_lenC, p_max, p_min, p_tupT, Nat.reduceAdd, Nat.reduceSub, Nat.reduceEqDiff, Nat.reduceLeDiff, Nat.reduceLT, Nat.reducePow, Nat.zero_add, sizeLine, if_true, if_false, ite_true, ite_false, Bool.not_true, Bool.not_false, nx_nx, nx_ct, okR_ok, p_iterL h1, e]
        exact ⟨_, _, _, _, _, _, _, rfl, h5, h4.trans k5⟩
      have n1 := p_new (S := S') (xs := [PV.str a, PV.str b]) (by simp [sizeLine])
      have n2 := p_new (S := S' ++ [.lst [.str a, .str b]]) (xs := []) (by simp [sizeLine])
      have q1 := at_new (at_new hq (o' := .lst [.str a, .str b])) (o' := .lst [])
      have c1 := at_new (at_last (S := S') (o := .lst [.str a, .str b])) (o' := .lst [])
      have l1 := at_last (S := S' ++ [.lst [.str a, .str b]]) (o := .lst [])
      have k1 : Keeps S (S' ++ [.lst [.str a, .str b]] ++ [.lst []]) [] := (k.trans .new).trans .new
      simp only [m__law_mixtures_b2, w_seq, w_par, w_if, w_asg, w_lst, w_cons, w_nil, w_var, w_pure, w_op2, w_orM, w_tru, w_tupG, w_consG, w_nilG, w_set, w_nx, thn_nx, toS_ok, toG_ok, Res.bind_ok, List.getElem?_cons_zero, List.getElem?_cons_succ, List.set_cons_zero, List.set_cons_succ, List.length_cons, List.length_nil, Nat.zero_add, Nat.reduceAdd, if_true, n1, n2, cmpP, str_eq ha any_ok, str_eq ha hb, str_eq hb any_ok, p_truB]
      have c0 : ∀ SS : Hs, (if decide (a = b) = true then Res.ok true SS else Res.ok (decide (a = "any")) SS) = .ok (decide (a = "any" ∨ a = b)) SS := fun SS => by
        by_cases h : a = b <;> simp [h]
      rw [c0]
      have nb := p_new (S := S' ++ [.lst [.str a, .str b]] ++ [.lst []]) (xs := [PV.str b]) (by simp [sizeLine])
      have na := p_new (S := S' ++ [.lst [.str a, .str b]] ++ [.lst []]) (xs := [PV.str a]) (by simp [sizeLine])
      by_cases h1 : a = "any" ∨ a = b
      · have hc : choices a b = [b] := if_pos h1
        simp only [decide_eq_true h1, toS_ok, if_true, nb, thn_nx]
        exact fin _ _ _ _ _ _ _ (at_new q1) (by rw [hc]; exact at_last) (at_new l1) (k1.trans .new)
      · simp only [decide_eq_false h1, toS_ok, Bool.false_eq_true, if_false]
        by_cases h2 : b = "any"
        · have hc : choices a b = [a] := (if_neg h1).trans (if_pos h2)
          simp only [decide_eq_true h2, toS_ok, if_true, na, thn_nx]
          exact fin _ _ _ _ _ _ _ (at_new q1) (by rw [hc]; exact at_last) (at_new l1) (k1.trans .new)
        · have hc : choices a b = [a, b] := (if_neg h1).trans (if_neg h2)
          simp only [decide_eq_false h2, Bool.false_eq_true, if_false, thn_nx]
          exact fin _ _ _ _ _ _ _ q1 (by rw [hc]; exact c1) l1 k1)
    (S := S ++ [.lst [.tup []]]) (env := [some (.tup (xs.map PV.str)), some (.tup (ys.map PV.str)), some (.ref S.length), none, none, none, none, none, none]) ⟨_, _, _, _, _, _, _, rfl, at_last, .new⟩
  have e2 : (xs.zip ys).take (xs.zip ys).length = xs.zip ys := List.take_length
  rw [e2] at hq
  obtain ⟨hl1, hl2⟩ := mix_len (xs.zip ys)
  have hsm := pow_small h10
  have e3 := (eTup eStr).sort (S := S') (r := q) (xs := mixL (xs.zip ys)) (by decide) (by show _ ≤ 2 ^ 24; omega) (by
    unfold sortB
    rw [Bool.or_eq_true_iff]
    refine .inl (List.all_eq_true.mpr fun d hd => ?_)
    obtain ⟨x, hx', rfl⟩ := List.mem_map.mp hd
    have := hl2 x hx'
    cases x with
    | nil => rw [List.length_nil] at this; omega
    | cons c x => rfl) hq
  simp only [e, w_body, w_seq, w_asg, w_tup, w_lst, w_cons, w_nil, w_op2, w_op1, w_var, w_pure, w_call, w_callF, w_tru, w_notM, w_andM, w_orM, w_notE, w_andE, w_orE, w_ifE, w_yes, w_ret, w_retN, w_expr, w_if, w_nx, w_par, w_for, w_set, w_tupG, w_consG, w_nilG, w_sub, w_it, w_rng1, w_zip, w_enum, w_lc, w_lc2, w_turn, w_turn2, w_nilP, w_consP, w_disp, thn_nx, thn_rt, thn_exc, toS_ok, toS_exc, toG_ok, toR_nx, toR_rt, toR_exc, Res.bind_ok, Res.bind_exc, startE, pick, wipeE, List.filterMap_cons, List.filterMap_nil, List.map_cons, List.map_nil, List.getElem?_cons_zero, List.getElem?_cons_succ, List.length_cons, List.length_nil, List.replicate, List.cons_append, List.nil_append, List.append_nil, List.set_cons_zero, List.set_cons_succ, binP, cmpP, p_addI, p_subI, p_lt, p_le, p_gt, p_ge, p_neg, p_truB, p_truT, p_lenT, p_lenC, p_max, p_min, p_tupT, Nat.reduceAdd, Nat.reduceSub, Nat.reduceEqDiff, Nat.reduceLeDiff, Nat.reduceLT, Nat.reducePow, Nat.zero_add, sizeLine, if_true, if_false, ite_true, ite_false, Bool.not_true, Bool.not_false, nx_nx, nx_ct, okR_ok, e3, p_tupL at_last]
  exact ⟨_, rfl, k.trans .new⟩
end K60

namespace K60
open PySem PySem.Spec PyProof.Rows L2 D
/-! ### the other way round -/
theorem choices_swap (a b : Str) : (choices b a).Perm (choices a b) := by
  unfold choices
  by_cases h1 : a = b
  · subst h1; exact .refl _
  · have h2 : ¬ b = a := fun z => h1 z.symm
    by_cases h3 : a = "any"
    · have h4 : ¬ b = "any" := fun z => h1 (h3.trans z.symm)
      simp [h1, h2, h3, h4]
    · by_cases h4 : b = "any"
      · simp [h1, h2, h3, h4]
      · simp [h1, h2, h3, h4]
        exact .swap _ _ _
theorem flatMap_perm {α β : Type} {f g : α → List β} (h : ∀ a, (f a).Perm (g a)) : ∀ {xs ys : List α}, xs.Perm ys → (xs.flatMap f).Perm (ys.flatMap g) := by
  intro xs ys p
  have p1 : (xs.flatMap f).Perm (ys.flatMap f) := p.flatMap_right f
  refine p1.trans ?_
  clear p p1 xs
  induction ys with
  | nil => exact .refl _
  | cons y ys ih =>
    rw [List.flatMap_cons, List.flatMap_cons]
    exact (h y).append ih
theorem fold_swap : ∀ (zs : List (Str × Str)) (f f' : List (List Str)), f.Perm f' → ((zs.map Prod.swap).foldl step f).Perm (zs.foldl step f')
  | [], _, _, h => h
  | z :: zs, f, f', h => by
    rw [List.map_cons, List.foldl_cons, List.foldl_cons]
    exact fold_swap zs _ _ (flatMap_perm (fun fr => (choices_swap z.1 z.2).map _) h)
theorem mix_swap (xs ys : List Str) : (mixL (ys.zip xs)).Perm (mixL (xs.zip ys)) := by
  have e : ∀ (xs ys : List Str), ys.zip xs = (xs.zip ys).map Prod.swap := by
    intro xs
    induction xs with
    | nil => intro ys; simp
    | cons x xs ih =>
      intro ys
      cases ys with
      | nil => rfl
      | cons y ys => rw [List.zip_cons_cons, List.zip_cons_cons, List.map_cons, ih]; rfl
  rw [e xs ys]
  exact fold_swap _ _ _ (.refl _)
/-! ### with itself -/
theorem fold_self : ∀ (xs : List Str) (fr : List Str), (xs.zip xs).foldl step [fr] = [fr ++ xs]
  | [], fr => by simp
  | x :: xs, fr => by
    rw [List.zip_cons_cons, List.foldl_cons]
    have : step [fr] (x, x) = [fr ++ [x]] := by
      unfold step choices
      simp
    rw [this, fold_self xs]
    simp
theorem mix_self (xs : List Str) : mixL (xs.zip xs) = [xs] := by
  have := fold_self xs []
  simpa [mixL] using this
/-! ### what is in it -/
def Match : List Str → List (Str × Str) → Prop
  | [], [] => True
  | k :: ks, z :: zs => k ∈ choices z.1 z.2 ∧ Match ks zs
  | _, _ => False
theorem mem_fold : ∀ (zs : List (Str × Str)) (f : List (List Str)) (x : List Str), x ∈ zs.foldl step f ↔ ∃ fr ∈ f, ∃ ks, x = fr ++ ks ∧ Match ks zs
  | [], f, x => by
    constructor
    · intro h; exact ⟨x, h, [], by simp, trivial⟩
    · rintro ⟨fr, h, ks, rfl, m⟩
      cases ks with
      | nil => simpa using h
      | cons _ _ => exact m.elim
  | z :: zs, f, x => by
    rw [List.foldl_cons, mem_fold zs]
    constructor
    · rintro ⟨fr, h, ks, rfl, m⟩
      obtain ⟨f0, h0, k, hk, rfl⟩ := step_mem h
      exact ⟨f0, h0, k :: ks, by simp, hk, m⟩
    · rintro ⟨fr, h, ks, rfl, m⟩
      cases ks with
      | nil => exact m.elim
      | cons k ks =>
        refine ⟨fr ++ [k], ?_, ks, by simp, m.2⟩
        unfold step
        exact List.mem_flatMap.mpr ⟨fr, h, List.mem_map.mpr ⟨k, m.1, rfl⟩⟩
theorem mem_mix {zs : List (Str × Str)} {x : List Str} : x ∈ mixL zs ↔ Match x zs := by
  unfold mixL
  rw [mem_fold]
  constructor
  · rintro ⟨fr, h, ks, rfl, m⟩
    have : fr = [] := by simpa using h
    subst this
    simpa using m
  · intro m; exact ⟨[], by simp, x, by simp, m⟩
theorem first_in {a b : Str} : a ∈ choices a b ↔ ¬ (a = "any" ∧ b ≠ "any") := by
  unfold choices
  by_cases h1 : a = "any"
  · subst h1
    by_cases h2 : b = "any"
    · subst h2; simp
    · simp [h2]
      exact fun z => h2 z.symm
  · by_cases h2 : a = b
    · subst h2; simp [h1]
    · by_cases h3 : b = "any" <;> simp [h1, h2, h3]
theorem near_in : ∀ {xs ys : List Str}, xs.length = ys.length → (Match xs (xs.zip ys) ↔ ∀ i : Nat, ∀ (h : i < xs.length) (h' : i < ys.length), ¬ (xs[i] = "any" ∧ ys[i] ≠ "any"))
  | [], [], _ => by simp [Match]
  | [], _ :: _, h => by cases h
  | _ :: _, [], h => by cases h
  | x :: xs, y :: ys, h => by
    rw [List.zip_cons_cons]
    show (x ∈ choices x y ∧ Match xs (xs.zip ys)) ↔ _
    rw [first_in, near_in (Nat.succ.inj h)]
    constructor
    · rintro ⟨h1, h2⟩ i hi hi'
      cases i with
      | zero => exact h1
      | succ i => exact h2 i (Nat.lt_of_succ_lt_succ hi) (Nat.lt_of_succ_lt_succ hi')
    · intro hh
      exact ⟨hh 0 (Nat.succ_pos _) (Nat.succ_pos _), fun i hi hi' => hh (i + 1) (Nat.succ_lt_succ hi) (Nat.succ_lt_succ hi')⟩
end K60

namespace K60
open PySem PySem.Spec PyProof.Rows L2 D
theorem Ms.keep {S S' : Hs} {r g : Nat} (m : Ms S r g) (k : Keeps S S' []) : Ms S' r g := by
  obtain ⟨ne, ⟨a, t, h1⟩, gs, h2, h3⟩ := m
  exact ⟨ne, ⟨a, t, k.at h1 (by simp)⟩, gs, k.at h2 (by simp), h3⟩
theorem Ms.lt {S : Hs} {r g : Nat} (m : Ms S r g) : r < S.length ∧ g < S.length := by
  obtain ⟨ne, ⟨a, t, h1⟩, gs, h2, h3⟩ := m
  exact ⟨lt_of_at h1, lt_of_at h2⟩
def names : List Str := ["any", "any", "a", "b", "ab_1"]
theorem names_ok : ∀ x ∈ names, SOk x ∧ x.length ≤ 4 := by decide +kernel
/-- names are drawn -/
theorem draw_ok {S : Hs} {r g n : Nat} {env : Sl} (m : Ms S r g) (h1 : (env.set 9 (some (.int 0)))[1]? = some (some (.ref r))) (hn : n ≤ 3) :
    ∃ xs S', lcGo (nxt (.rng 0 n)) (lcTurn (setG 9) yesM m_law_e3 env) FUEL 0 [] S = .ok ((xs : List Str).map PV.str) S' ∧ xs.length = n ∧ (∀ x ∈ xs, x ∈ names) ∧ Ms S' r g := by
  obtain ⟨ys, S', e, xs, rfl, h2, h3, h4⟩ := lc_inv (nx := nxt (.rng 0 n)) (turn := lcTurn (setG 9) yesM m_law_e3 env) (fun i acc S' => ∃ xs : List Str, acc = xs.map PV.str ∧ xs.length = i ∧ (∀ x ∈ xs, x ∈ names) ∧ Ms S' r g) n (by omega)
    (fun acc S' _ => by rw [nxt_rng, List.getElem?_eq_none (by simp)])
    (by
      rintro i acc S' hi ⟨xs, rfl, h2, h3, h4⟩
      refine ⟨.int i, by rw [nxt_rng, List.getElem?_map, List.getElem?_range hi]; rfl, ?_⟩
      have e1 : (env.set 9 (some (.int i)))[1]? = some (some (.ref r)) := by
        rw [List.getElem?_set_ne (by decide)] at h1 ⊢
        exact h1
      have n1 := p_new (S := S') (xs := names.map PV.str) (by decide)
      have m1 : Ms (S' ++ [.lst (names.map PV.str)]) r g := h4.keep .new
      obtain ⟨p, S2, e2, hp, m2, k2⟩ := of_ok m1 (q := S'.length) (xs := names.map PV.str) at_last (by have := h4.lt; omega) (by have := h4.lt; omega) (by decide) (by decide)
      obtain ⟨x, hx, rfl⟩ := List.mem_map.mp hp
      have e3 : newL [.str "any", .str "any", .str "a", .str "b", .str "ab_1"] S' = .ok (.ref S'.length) (S' ++ [.lst (names.map PV.str)]) := n1
      simp only [m_law_e3, w_body, w_seq, w_asg, w_tup, w_lst, w_cons, w_nil, w_op2, w_op1, w_var, w_pure, w_call, w_callF, w_tru, w_notM, w_andM, w_orM, w_notE, w_andE, w_orE, w_ifE, w_yes, w_ret, w_retN, w_expr, w_if, w_nx, w_par, w_for, w_set, w_tupG, w_consG, w_nilG, w_sub, w_it, w_rng1, w_zip, w_enum, w_lc, w_lc2, w_turn, w_turn2, w_nilP, w_consP, w_disp, thn_nx, thn_rt, thn_exc, toS_ok, toS_exc, toG_ok, toR_nx, toR_rt, toR_exc, Res.bind_ok, Res.bind_exc, startE, pick, wipeE, List.filterMap_cons, List.filterMap_nil, List.map_cons, List.map_nil, List.getElem?_cons_zero, List.getElem?_cons_succ, List.length_cons, List.length_nil, List.replicate, List.cons_append, List.nil_append, List.append_nil, List.set_cons_zero, List.set_cons_succ, binP, cmpP, p_addI, p_subI, p_lt, p_le, p_gt, p_ge, p_neg, p_truB, p_truT, p_lenT, p_lenC, p_max, p_min, p_tupT, Nat.reduceAdd, Nat.reduceSub, Nat.reduceEqDiff, Nat.reduceLeDiff, Nat.reduceLT, Nat.reducePow, Nat.zero_add, sizeLine, if_true, if_false, ite_true, ite_false, Bool.not_true, Bool.not_false, nx_nx, nx_ct, okR_ok, e1, e3, e2]
      refine ⟨xs ++ [x], by simp, by simp [h2], fun y hy => ?_, m2⟩
      rcases List.mem_append.mp hy with hy | hy
      · exact h3 y hy
      · have : y = x := by simpa using hy
        rw [this]; exact hx)
    (S := S) (acc := []) ⟨[], rfl, rfl, by simp, m⟩
  exact ⟨xs, S', e, h2, h3, h4⟩
theorem e23 : m_law_e2 = m_law_e3 := rfl
theorem mixK : f_mixtures_0_one_other = f_mixtures_2 := rfl
/-- what the texts of the tuples hold at most -/
theorem small_text {vs : List (List (List Str))} (h4 : vs.length ≤ 4) (h : ∀ v ∈ vs, v.length ≤ 8 ∧ ∀ x ∈ v, x.length ≤ 3 ∧ ∀ k ∈ x, SOk k ∧ k.length ≤ 4) : slAll (eTup (eTup eStr)).sl vs + 2 ≤ sizeLine ∧ ∀ v ∈ vs, (eTup (eTup eStr)).sh v := by
  have b1 : ∀ v ∈ vs, (eTup (eTup eStr)).sl v ≤ 8 * 137 + 3 := fun v hv => by
    show slAll (eTup eStr).sl v + 3 ≤ _
    have b2 : slAll (eTup eStr).sl v ≤ v.length * (135 + 2) := slAll_le fun x hx => by
      show slAll eStr.sl x + 3 ≤ 135
      have b3 : slAll eStr.sl x ≤ x.length * (42 + 2) := slAll_le fun k hk => by
        show 10 * k.length + 2 ≤ 42
        have := (((h v hv).2 x hx).2 k hk).2
        omega
      have := ((h v hv).2 x hx).1
      omega
    have := (h v hv).1
    omega
  have b4 := slAll_le b1
  refine ⟨?_, fun v hv x hx k hk => (((h v hv).2 x hx).2 k hk).1⟩
  show _ ≤ 2 ^ 24
  omega
end K60

namespace K60
open PySem PySem.Spec PyProof.Rows L2 D
theorem zip_len {xs ys : List Str} {n : Nat} (h1 : xs.length = n) (h2 : ys.length = n) : (xs.zip ys).length = n := by
  rw [List.length_zip, h1, h2, Nat.min_self]
theorem turn_ok {S : Hs} {r g : Nat} {sc : PV} {x2 x3 x4 x5 x6 x7 x8 x9 : Option PV} (m : Ms S r g) :
    Nx (fun env S' => ∃ x2 x3 x4 x5 x6 x7 x8 x9 : Option PV, env = [some sc, some (.ref r), x2, x3, x4, x5, x6, x7, x8, x9] ∧ Ms S' r g) (m_law_b1 [some sc, some (.ref r), x2, x3, x4, x5, x6, x7, x8, x9] S) := by
  obtain ⟨v, S1, e1, v0, v3, m1, k1⟩ := next_ok m (b := 3) (by decide) (by decide)
  obtain ⟨n, hn⟩ : ∃ n : Nat, 1 + v = n := ⟨(1 + v).toNat, by omega⟩
  have hn1 : 0 < n := by omega
  have hn3 : n ≤ 3 := by omega
  have rg := rngR_int (S := S1) (j := n) (by omega)
  have tn : (n : Int).toNat = n := by omega
  rw [tn] at rg
  obtain ⟨xs, S2, e2, lx, hx, m2⟩ := draw_ok (env := [some sc, some (.ref r), x2, some (.int n), x4, x5, x6, x7, x8, none]) (n := n) m1 rfl hn3
  have nx := p_new (S := S2) (xs := xs.map PV.str) (by rw [List.length_map]; show _ ≤ 2 ^ 24; omega)
  have m3 : Ms (S2 ++ [.lst (xs.map PV.str)]) r g := m2.keep .new
  have rg2 := rngR_int (S := S2 ++ [.lst (xs.map PV.str)]) (j := n) (by omega)
  rw [tn] at rg2
  obtain ⟨ys, S4, e4, ly, hy, m4⟩ := draw_ok (env := [some sc, some (.ref r), x2, some (.int n), some (.tup (xs.map PV.str)), x5, x6, x7, x8, none]) (n := n) m3 rfl hn3
  have ny := p_new (S := S4) (xs := ys.map PV.str) (by rw [List.length_map]; show _ ≤ 2 ^ 24; omega)
  have m5 : Ms (S4 ++ [.lst (ys.map PV.str)]) r g := m4.keep .new
  have okx : ∀ x ∈ xs, SOk x := fun x h => (names_ok x (hx x h)).1
  have oky : ∀ x ∈ ys, SOk x := fun x h => (names_ok x (hy x h)).1
  have zl := zip_len lx ly
  have zl2 := zip_len ly lx
  have zl3 := zip_len lx lx
  obtain ⟨S6, e6, k6⟩ := law_mixtures_ok (S := S4 ++ [.lst (ys.map PV.str)]) okx oky (by omega) (by omega)
  obtain ⟨S7, e7, k7⟩ := mixtures_ok (S := S6) okx oky (by omega) (by omega)
  obtain ⟨S8, e8, k8⟩ := mixtures_ok (S := S7) oky okx (by omega) (by omega)
  obtain ⟨S9, e9, k9⟩ := mixtures_ok (S := S8) okx oky (by omega) (by omega)
  obtain ⟨Sa, ea, ka⟩ := mixtures_ok (S := S9) okx okx (by omega) (by omega)
  have sw : (mixL (ys.zip xs)).mergeSort leT = (mixL (xs.zip ys)).mergeSort leT := (eTup eStr).sort_perm (mix_swap xs ys)
  have se : (mixL (xs.zip xs)).mergeSort leT = [xs] := by rw [mix_self]; simp
  rw [sw] at e8
  rw [se] at ea
  have ml := mix_len (xs.zip ys)
  have mo := mix_ok (ok := fun k => SOk k ∧ k.length ≤ 4) (zs := xs.zip ys) fun z hz => ⟨names_ok _ (hx _ (List.of_mem_zip hz).1), names_ok _ (hy _ (List.of_mem_zip hz).2)⟩
  have hD : ∀ x, x ∈ (mixL (xs.zip ys)).mergeSort leT ↔ x ∈ mixL (xs.zip ys) := fun x => List.mem_mergeSort
  have hDl : ((mixL (xs.zip ys)).mergeSort leT).length = (mixL (xs.zip ys)).length := List.length_mergeSort _
  generalize (mixL (xs.zip ys)).mergeSort leT = D at *
  have p8 : 2 ^ n ≤ 8 := by
    have : n = 1 ∨ n = 2 ∨ n = 3 := by omega
    rcases this with rfl | rfl | rfl <;> decide
  have m_a : Ms Sa r g := ((((m5.keep k6).keep k7).keep k8).keep k9).keep ka
  obtain ⟨T, hT⟩ : ∃ T : PObj, T = .lst ([D, D, D, [xs]].map (eTup (eTup eStr)).pv) := ⟨_, rfl⟩
  obtain ⟨P, hP⟩ : ∃ P : Nat → Bool, ∀ j, P j = (decide (xs.getD j "" = "any") && !decide (ys.getD j "" = "any")) := ⟨fun j => decide (xs.getD j "" = "any") && !decide (ys.getD j "" = "any"), fun _ => rfl⟩
  obtain ⟨S_b, hSb⟩ : ∃ S_b : Hs, S_b = Sa ++ [T] ++ [T] := ⟨_, rfl⟩
  have nt : newL [.tup (D.map tS), .tup (D.map tS), .tup (D.map tS), .tup [tS xs]] Sa = .ok (.ref Sa.length) (Sa ++ [T]) := by
    rw [hT]; exact p_new (S := Sa) (xs := [D, D, D, [xs]].map (eTup (eTup eStr)).pv) (by simp [sizeLine])
  have nd : newL [.tup (D.map tS), .tup (D.map tS), .tup (D.map tS), .tup [.tup (xs.map PV.str)]] (Sa ++ [T]) = .ok (.ref (Sa ++ [T]).length) (Sa ++ [T] ++ [T]) := by
    rw [hT]; exact p_new (S := Sa ++ [PObj.lst ([D, D, D, [xs]].map (eTup (eTup eStr)).pv)]) (xs := [D, D, D, [xs]].map (eTup (eTup eStr)).pv) (by simp [sizeLine])
  have small := small_text (vs := [D, D, D, [xs]]) (by simp) (fun w hw => by
    have hw' : w = D ∨ w = [xs] := by
      simp at hw
      exact hw
    rcases hw' with rfl | rfl
    · refine ⟨by rw [hDl]; rw [zl] at ml; omega, fun x hx' => ?_⟩
      have hx2 := (hD x).mp hx'
      exact ⟨by rw [ml.2 x hx2]; omega, mo x hx2⟩
    · refine ⟨by simp, fun x hx' => ?_⟩
      have : x = xs := by simpa using hx'
      subst this
      exact ⟨by omega, fun k hk => names_ok k (hx k hk)⟩)
  have t1 : (Sa ++ [T])[Sa.length]? = some (.lst ([D, D, D, [xs]].map (eTup (eTup eStr)).pv)) := by rw [← hT]; exact at_last
  have t2 : (Sa ++ [T] ++ [T])[Sa.length]? = some (.lst ([D, D, D, [xs]].map (eTup (eTup eStr)).pv)) := at_new t1
  have t3 : (Sa ++ [T] ++ [T])[(Sa ++ [T]).length]? = some (.lst ([D, D, D, [xs]].map (eTup (eTup eStr)).pv)) := by rw [← hT]; exact at_last
  have r1 := (eTup (eTup eStr)).reprL (S := Sa ++ [T]) (r := Sa.length) (by decide) small.2 small.1 t1
  have r2 := (eTup (eTup eStr)).reprL (S := Sa ++ [T] ++ [T]) (r := (Sa ++ [T]).length) (by decide) small.2 small.1 t3
  have m_b : Ms (Sa ++ [T] ++ [T]) r g := (m_a.keep .new).keep .new
  generalize PyData.shown (.list ([D, D, D, [xs]].map (eTup (eTup eStr)).dt)) = shown at r1 r2
  simp only [m_law_b1, w_body, w_seq, w_asg, w_tup, w_lst, w_cons, w_nil, w_op2, w_op1, w_var, w_pure, w_call, w_callF, w_tru, w_notM, w_andM, w_orM, w_notE, w_andE, w_orE, w_ifE, w_yes, w_ret, w_retN, w_expr, w_if, w_nx, w_par, w_for, w_set, w_tupG, w_consG, w_nilG, w_sub, w_it, w_rng1, w_zip, w_enum, w_lc, w_lc2, w_turn, w_turn2, w_nilP, w_consP, w_disp, thn_nx, thn_rt, thn_exc, toS_ok, toS_exc, toG_ok, toR_nx, toR_rt, toR_exc, Res.bind_ok, Res.bind_exc, startE, pick, wipeE, List.filterMap_cons, List.filterMap_nil, List.map_cons, List.map_nil, List.getElem?_cons_zero, List.getElem?_cons_succ, List.length_cons, List.length_nil, List.replicate, List.cons_append, List.nil_append, List.append_nil, List.set_cons_zero, List.set_cons_succ, binP, cmpP, p_addI, p_subI, p_lt, p_le, p_gt, p_ge, p_neg, p_truB, p_truT, p_lenT, p_lenC, p_max, p_min, p_tupT, Nat.reduceAdd, Nat.reduceSub, Nat.reduceEqDiff, Nat.reduceLeDiff, Nat.reduceLT, Nat.reducePow, Nat.zero_add, sizeLine, if_true, if_false, ite_true, ite_false, Bool.not_true, Bool.not_false, nx_nx, nx_ct, okR_ok, e1, hn, rg, e2, nx, p_tupL at_last, rg2, e23, e4, ny, e6, e7, e8, mixK, e9, ea, nt, r1, nd, r2, p_neS, decide_true, Bool.false_eq_true]
  have rg3 := rngR_int (S := Sa ++ [T] ++ [T]) (j := n) (by omega)
  rw [tn] at rg3
  have e5 := lcGo_map (S := Sa ++ [T] ++ [T]) (nx := nxt (.rng 0 n)) (turn := lcTurn (setG 9) m_law_c1 m_law_e1
                      [some sc, some (PV.ref r), x2, some (PV.int n), some (PV.tup (List.map PV.str xs)),
                        some (PV.tup (List.map PV.str ys)), some (PV.tup (List.map tS D)),
                        some (PV.ref (List.length Sa)), x8, none]) (xs := List.range n) (f := fun j : Nat => PV.int j) (g := fun j => if P j = true then some (.int j) else none) nxt_rng (fun j hj => by
      have hj : j < n := List.mem_range.mp hj
      have a1 : atI (xs.map PV.str) (j : Int) = some (.str (xs.getD j "")) := atI_nat (by rw [List.getElem?_map, List.getD_eq_getElem?_getD, List.getElem?_eq_getElem (by omega)]; rfl)
      have a2 : atI (ys.map PV.str) (j : Int) = some (.str (ys.getD j "")) := atI_nat (by rw [List.getElem?_map, List.getD_eq_getElem?_getD, List.getElem?_eq_getElem (by omega)]; rfl)
      simp only [m_law_c1, m_law_e1, w_body, w_seq, w_asg, w_tup, w_lst, w_cons, w_nil, w_op2, w_op1, w_var, w_pure, w_call, w_callF, w_tru, w_notM, w_andM, w_orM, w_notE, w_andE, w_orE, w_ifE, w_yes, w_ret, w_retN, w_expr, w_if, w_nx, w_par, w_for, w_set, w_tupG, w_consG, w_nilG, w_sub, w_it, w_rng1, w_zip, w_enum, w_lc, w_lc2, w_turn, w_turn2, w_nilP, w_consP, w_disp, thn_nx, thn_rt, thn_exc, toS_ok, toS_exc, toG_ok, toR_nx, toR_rt, toR_exc, Res.bind_ok, Res.bind_exc, startE, pick, wipeE, List.filterMap_cons, List.filterMap_nil, List.map_cons, List.map_nil, List.getElem?_cons_zero, List.getElem?_cons_succ, List.length_cons, List.length_nil, List.replicate, List.cons_append, List.nil_append, List.append_nil, List.set_cons_zero, List.set_cons_succ, binP, cmpP, p_addI, p_subI, p_lt, p_le, p_gt, p_ge, p_neg, p_truB, p_truT, p_lenT, p_lenC, p_max, p_min, p_tupT, Nat.reduceAdd, Nat.reduceSub, Nat.reduceEqDiff, Nat.reduceLeDiff, Nat.reduceLT, Nat.reducePow, Nat.zero_add, sizeLine, if_true, if_false, ite_true, ite_false, Bool.not_true, Bool.not_false, nx_nx, nx_ct, okR_ok, p_getT, a1, a2, p_eqS, p_neS]
      by_cases h1 : xs.getD j "" = "any"
      · by_cases h2 : ys.getD j "" = "any"
        · have : P j = false := by rw [hP, decide_eq_true h1, decide_eq_true h2]; rfl
          simp only [decide_eq_true h1, decide_eq_true h2, this, w_body, w_seq, w_asg, w_tup, w_lst, w_cons, w_nil, w_op2, w_op1, w_var, w_pure, w_call, w_callF, w_tru, w_notM, w_andM, w_orM, w_notE, w_andE, w_orE, w_ifE, w_yes, w_ret, w_retN, w_expr, w_if, w_nx, w_par, w_for, w_set, w_tupG, w_consG, w_nilG, w_sub, w_it, w_rng1, w_zip, w_enum, w_lc, w_lc2, w_turn, w_turn2, w_nilP, w_consP, w_disp, thn_nx, thn_rt, thn_exc, toS_ok, toS_exc, toG_ok, toR_nx, toR_rt, toR_exc, Res.bind_ok, Res.bind_exc, startE, pick, wipeE, List.filterMap_cons, List.filterMap_nil, List.map_cons, List.map_nil, List.getElem?_cons_zero, List.getElem?_cons_succ, List.length_cons, List.length_nil, List.replicate, List.cons_append, List.nil_append, List.append_nil, List.set_cons_zero, List.set_cons_succ, binP, cmpP, p_addI, p_subI, p_lt, p_le, p_gt, p_ge, p_neg, p_truB, p_truT, p_lenT, p_lenC, p_max, p_min, p_tupT, Nat.reduceAdd, Nat.reduceSub, Nat.reduceEqDiff, Nat.reduceLeDiff, Nat.reduceLT, Nat.reducePow, Nat.zero_add, sizeLine, if_true, if_false, ite_true, ite_false, Bool.not_true, Bool.not_false, nx_nx, nx_ct, okR_ok, Bool.false_eq_true]
        · have : P j = true := by rw [hP, decide_eq_true h1, decide_eq_false h2]; rfl
          simp only [decide_eq_true h1, decide_eq_false h2, this, w_body, w_seq, w_asg, w_tup, w_lst, w_cons, w_nil, w_op2, w_op1, w_var, w_pure, w_call, w_callF, w_tru, w_notM, w_andM, w_orM, w_notE, w_andE, w_orE, w_ifE, w_yes, w_ret, w_retN, w_expr, w_if, w_nx, w_par, w_for, w_set, w_tupG, w_consG, w_nilG, w_sub, w_it, w_rng1, w_zip, w_enum, w_lc, w_lc2, w_turn, w_turn2, w_nilP, w_consP, w_disp, thn_nx, thn_rt, thn_exc, toS_ok, toS_exc, toG_ok, toR_nx, toR_rt, toR_exc, Res.bind_ok, Res.bind_exc, startE, pick, wipeE, List.filterMap_cons, List.filterMap_nil, List.map_cons, List.map_nil, List.getElem?_cons_zero, List.getElem?_cons_succ, List.length_cons, List.length_nil, List.replicate, List.cons_append, List.nil_append, List.append_nil, List.set_cons_zero, List.set_cons_succ, binP, cmpP, p_addI, p_subI, p_lt, p_le, p_gt, p_ge, p_neg, p_truB, p_truT, p_lenT, p_lenC, p_max, p_min, p_tupT, Nat.reduceAdd, Nat.reduceSub, Nat.reduceEqDiff, Nat.reduceLeDiff, Nat.reduceLT, Nat.reducePow, Nat.zero_add, sizeLine, if_true, if_false, ite_true, ite_false, Bool.not_true, Bool.not_false, nx_nx, nx_ct, okR_ok]
      · have : P j = false := by rw [hP, decide_eq_false h1]; rfl
        simp only [decide_eq_false h1, this, w_body, w_seq, w_asg, w_tup, w_lst, w_cons, w_nil, w_op2, w_op1, w_var, w_pure, w_call, w_callF, w_tru, w_notM, w_andM, w_orM, w_notE, w_andE, w_orE, w_ifE, w_yes, w_ret, w_retN, w_expr, w_if, w_nx, w_par, w_for, w_set, w_tupG, w_consG, w_nilG, w_sub, w_it, w_rng1, w_zip, w_enum, w_lc, w_lc2, w_turn, w_turn2, w_nilP, w_consP, w_disp, thn_nx, thn_rt, thn_exc, toS_ok, toS_exc, toG_ok, toR_nx, toR_rt, toR_exc, Res.bind_ok, Res.bind_exc, startE, pick, wipeE, List.filterMap_cons, List.filterMap_nil, List.map_cons, List.map_nil, List.getElem?_cons_zero, List.getElem?_cons_succ, List.length_cons, List.length_nil, List.replicate, List.cons_append, List.nil_append, List.append_nil, List.set_cons_zero, List.set_cons_succ, binP, cmpP, p_addI, p_subI, p_lt, p_le, p_gt, p_ge, p_neg, p_truB, p_truT, p_lenT, p_lenC, p_max, p_min, p_tupT, Nat.reduceAdd, Nat.reduceSub, Nat.reduceEqDiff, Nat.reduceLeDiff, Nat.reduceLT, Nat.reducePow, Nat.zero_add, sizeLine, if_true, if_false, ite_true, ite_false, Bool.not_true, Bool.not_false, nx_nx, nx_ct, okR_ok, Bool.false_eq_true]) (by simp; omega) []
  have e5b : (List.range n).filterMap (fun j => if P j = true then some (PV.int j) else none) = (((List.range n).filter P).map fun j : Nat => (j : Int)).map PV.int := by
    rw [List.map_map]
    generalize List.range n = R
    induction R with
    | nil => rfl
    | cons j R ih =>
      rw [List.filterMap_cons, List.filter_cons]
      by_cases h : P j = true
      · simp only [h, if_true, List.map_cons, ih]; rfl
      · simp only [h, if_false, ih]; simp
  rw [e5b, List.nil_append] at e5
  have hll : ((List.range n).filter P).length ≤ n := by
    have := List.length_filter_le P (List.range n)
    rwa [List.length_range] at this
  have nl := p_new (S := Sa ++ [T] ++ [T]) (xs := (((List.range n).filter P).map fun j : Nat => (j : Int)).map PV.int) (by rw [List.length_map, List.length_map]; show _ ≤ 2 ^ 24; omega)
  have hin : xs ∈ D ↔ ((List.range n).filter P).map (fun j : Nat => (j : Int)) = [] := by
    rw [hD, mem_mix, near_in (by omega)]
    rw [List.map_eq_nil_iff, List.filter_eq_nil_iff]
    constructor
    · intro h j hj
      have hj : j < n := List.mem_range.mp hj
      have := h j (by omega) (by omega)
      rw [hP, List.getD_eq_getElem?_getD, List.getD_eq_getElem?_getD, List.getElem?_eq_getElem (by omega), List.getElem?_eq_getElem (by omega)]
      simpa using this
    · intro h j hj hj'
      have := h j (List.mem_range.mpr (by omega))
      have z : ¬ (decide (xs.getD j "" = "any") && !decide (ys.getD j "" = "any")) = true := by rw [← hP]; exact this
      rw [List.getD_eq_getElem?_getD, List.getD_eq_getElem?_getD, List.getElem?_eq_getElem hj, List.getElem?_eq_getElem hj'] at z
      simpa using z
  generalize ((List.range n).filter P).map (fun j : Nat => (j : Int)) = lk at *
  rw [← hSb] at rg3 e5 nl m_b t2
  have nz := p_new (S := S_b ++ [.lst (lk.map PV.int)]) (xs := []) (Nat.zero_le _)
  have t4 := at_new (at_new t2 (o' := .lst (lk.map PV.int))) (o' := .lst [])
  have t5 := at_new t2 (o' := .lst (lk.map PV.int))
  have l4 := at_new (at_last (S := S_b) (o := .lst (lk.map PV.int))) (o' := .lst [])
  have z4 := at_last (S := S_b ++ [.lst (lk.map PV.int)]) (o := .lst [])
  have q1 := eInt.eqL (S := S_b ++ [.lst (lk.map PV.int)] ++ [.lst []]) (xs := lk) (ys := []) (by decide) (fun _ _ => trivial) (fun _ _ => trivial) l4 z4
  have q2 : inP (.tup (xs.map PV.str)) (.tup (D.map tS)) (S_b ++ [.lst (lk.map PV.int)]) = .ok (.bl (decide (xs ∈ D))) (S_b ++ [.lst (lk.map PV.int)]) := (eTup eStr).inT (by decide) okx fun x hx' => (fun k hk => (mo x ((hD x).mp hx') k hk).1)
  have q3 : atI [(eTup (eTup eStr)).pv D, (eTup (eTup eStr)).pv D, (eTup (eTup eStr)).pv D, (eTup (eTup eStr)).pv [xs]] 0 = some (.tup (D.map tS)) := atI_nat (j := 0) rfl
  simp only [← hSb, rg3, e5, nl, w_body, w_seq, w_asg, w_tup, w_lst, w_cons, w_nil, w_op2, w_op1, w_var, w_pure, w_call, w_callF, w_tru, w_notM, w_andM, w_orM, w_notE, w_andE, w_orE, w_ifE, w_yes, w_ret, w_retN, w_expr, w_if, w_nx, w_par, w_for, w_set, w_tupG, w_consG, w_nilG, w_sub, w_it, w_rng1, w_zip, w_enum, w_lc, w_lc2, w_turn, w_turn2, w_nilP, w_consP, w_disp, thn_nx, thn_rt, thn_exc, toS_ok, toS_exc, toG_ok, toR_nx, toR_rt, toR_exc, Res.bind_ok, Res.bind_exc, startE, pick, wipeE, List.filterMap_cons, List.filterMap_nil, List.map_cons, List.map_nil, List.getElem?_cons_zero, List.getElem?_cons_succ, List.length_cons, List.length_nil, List.replicate, List.cons_append, List.nil_append, List.append_nil, List.set_cons_zero, List.set_cons_succ, binP, cmpP, p_addI, p_subI, p_lt, p_le, p_gt, p_ge, p_neg, p_truB, p_truT, p_lenT, p_lenC, p_max, p_min, p_tupT, Nat.reduceAdd, Nat.reduceSub, Nat.reduceEqDiff, Nat.reduceLeDiff, Nat.reduceLT, Nat.reducePow, Nat.zero_add, sizeLine, if_true, if_false, ite_true, ite_false, Bool.not_true, Bool.not_false, nx_nx, nx_ct, okR_ok, p_getL t5, q3, q2, nz, q1, p_neB]
  have q4 : decide (xs ∈ D) = decide (lk = []) := by
    by_cases h : lk = []
    · rw [decide_eq_true h, decide_eq_true (hin.mpr h)]
    · rw [decide_eq_false h, decide_eq_false fun z => h (hin.mp z)]
  rw [q4]
  simp only [BEq.rfl, w_body, w_seq, w_asg, w_tup, w_lst, w_cons, w_nil, w_op2, w_op1, w_var, w_pure, w_call, w_callF, w_tru, w_notM, w_andM, w_orM, w_notE, w_andE, w_orE, w_ifE, w_yes, w_ret, w_retN, w_expr, w_if, w_nx, w_par, w_for, w_set, w_tupG, w_consG, w_nilG, w_sub, w_it, w_rng1, w_zip, w_enum, w_lc, w_lc2, w_turn, w_turn2, w_nilP, w_consP, w_disp, thn_nx, thn_rt, thn_exc, toS_ok, toS_exc, toG_ok, toR_nx, toR_rt, toR_exc, Res.bind_ok, Res.bind_exc, startE, pick, wipeE, List.filterMap_cons, List.filterMap_nil, List.map_cons, List.map_nil, List.getElem?_cons_zero, List.getElem?_cons_succ, List.length_cons, List.length_nil, List.replicate, List.cons_append, List.nil_append, List.append_nil, List.set_cons_zero, List.set_cons_succ, binP, cmpP, p_addI, p_subI, p_lt, p_le, p_gt, p_ge, p_neg, p_truB, p_truT, p_lenT, p_lenC, p_max, p_min, p_tupT, Nat.reduceAdd, Nat.reduceSub, Nat.reduceEqDiff, Nat.reduceLeDiff, Nat.reduceLT, Nat.reducePow, Nat.zero_add, sizeLine, if_true, if_false, ite_true, ite_false, Bool.not_true, Bool.not_false, nx_nx, nx_ct, okR_ok, Bool.false_eq_true]
  exact ⟨_, _, _, _, _, _, _, _, rfl, (m_b.keep .new).keep .new⟩
end K60

namespace K60
open PySem PySem.Spec PyProof.Rows L2 D
theorem two_sorted {a b : List Str} (h : leT a b = true) : [a, b].mergeSort leT = [a, b] := by
  refine List.mergeSort_of_pairwise (List.pairwise_cons.mpr ⟨fun x hx => ?_, List.pairwise_singleton _ _⟩)
  have : x = b := by simpa using hx
  rw [this]; exact h
theorem law_ok (ns : List Int) (hn : ns.length ≤ 63) : ∃ S', f_law_1 [.cl (ns.map PV.int)] [] = .ok (.bl true) S' := by
  obtain ⟨S1, e1', m1', k1⟩ := begun_ok (S := []) hn
  have e1 : f__law_begun_1 [.cl (ns.map PV.int)] [] = .ok (.ref 1) S1 := e1'
  have m1 : Ms S1 1 0 := m1'
  unfold f_law_1 m_law
  obtain ⟨n, hN⟩ : ∃ n : Nat, (4 : Int) + (if (ns.length : Int) < 6 then (ns.length : Int) else 6) = n := ⟨(4 + if ns.length < 6 then ns.length else 6 : Nat), by split <;> split <;> omega⟩
  have hn2 : n ≤ 10 := by split at hN <;> omega
  have rg := rngR_int (S := S1) (j := n) (by omega)
  have tn : (n : Int).toNat = n := by omega
  rw [tn] at rg
  obtain ⟨env, S2, e2, x2, x3, x4, x5, x6, x7, x8, x9, rfl, m2⟩ := for_inv (nx := nxt (.rng 0 n)) (t := setG 2) (body := m_law_b1)
    (fun i env S' => ∃ x2 x3 x4 x5 x6 x7 x8 x9 : Option PV, env = [some (.cl (ns.map PV.int)), some (.ref 1), x2, x3, x4, x5, x6, x7, x8, x9] ∧ Ms S' 1 0) n (by omega)
    (fun env S' _ => by rw [nxt_rng, List.getElem?_eq_none (by simp)])
    (by
      rintro i env S' hi ⟨x2, x3, x4, x5, x6, x7, x8, x9, rfl, m⟩
      refine ⟨.int i, by rw [nxt_rng, List.getElem?_map, List.getElem?_range hi]; rfl, ?_⟩
      simp only [w_set, toG_ok, thn_nx, List.set_cons_zero, List.set_cons_succ]
      exact turn_ok m)
    (S := S1) (env := [some (.cl (ns.map PV.int)), some (.ref 1), none, none, none, none, none, none, none, none]) ⟨_, _, _, _, _, _, _, _, rfl, m1⟩
  have h1 : ∀ x ∈ (["a", "b", "any"] : List Str), SOk x := by decide +kernel
  have h2 : ∀ x ∈ (["c", "b", "d"] : List Str), SOk x := by decide +kernel
  have h3 : ∀ x ∈ (["any"] : List Str), SOk x := by decide +kernel
  have h4 : ∀ x ∈ (["a", "b", "d"] : List Str), SOk x := by decide +kernel
  obtain ⟨S3, e3, k3⟩ := mixtures_ok (S := S2) h1 h2 (by decide) (by decide)
  have v3 : (mixL ((["a", "b", "any"] : List Str).zip ["c", "b", "d"])).mergeSort leT = ([["a", "b", "d"], ["c", "b", "d"]] : List (List Str)) := by
    have : mixL ((["a", "b", "any"] : List Str).zip ["c", "b", "d"]) = ([["a", "b", "d"], ["c", "b", "d"]] : List (List Str)) := by decide +kernel
    rw [this]
    exact two_sorted (by decide +kernel)
  rw [v3] at e3
  obtain ⟨S4, e4, k4⟩ := mixtures_ok (S := S3) h3 h3 (by decide) (by decide)
  have v4 : (mixL ((["any"] : List Str).zip ["any"])).mergeSort leT = ([["any"]] : List (List Str)) := by rw [mix_self]; simp
  rw [v4] at e4
  have q1 : eqP (.tup [tS ["a", "b", "d"], tS ["c", "b", "d"]]) (.tup [.tup [.str "a", .str "b", .str "d"], .tup [.str "c", .str "b", .str "d"]]) S3 = .ok (.bl true) S3 :=
    (eTup (eTup eStr)).eq_ (a := [["a", "b", "d"], ["c", "b", "d"]]) (b := [["a", "b", "d"], ["c", "b", "d"]]) (by decide)
      (fun x hx => by simp at hx; rcases hx with rfl | rfl <;> assumption) (fun x hx => by simp at hx; rcases hx with rfl | rfl <;> assumption)
  have q2 : eqP (.tup [tS ["any"]]) (.tup [.tup [.str "any"]]) S4 = .ok (.bl true) S4 :=
    (eTup (eTup eStr)).eq_ (a := [["any"]]) (b := [["any"]]) (by decide) (fun x hx => by simp at hx; subst hx; exact h3) (fun x hx => by simp at hx; subst hx; exact h3)
  have e3' : f_mixtures_2 [.tup [.str "a", .str "b", .str "any"], .tup [.str "c", .str "b", .str "d"]] S2 = .ok (.tup [tS ["a", "b", "d"], tS ["c", "b", "d"]]) S3 := e3
  have e4' : f_mixtures_2 [.tup [.str "any"], .tup [.str "any"]] S3 = .ok (.tup [tS ["any"]]) S4 := e4
  simp only [w_body, w_seq, w_asg, w_tup, w_lst, w_cons, w_nil, w_op2, w_op1, w_var, w_pure, w_call, w_callF, w_tru, w_notM, w_andM, w_orM, w_notE, w_andE, w_orE, w_ifE, w_yes, w_ret, w_retN, w_expr, w_if, w_nx, w_par, w_for, w_set, w_tupG, w_consG, w_nilG, w_sub, w_it, w_rng1, w_zip, w_enum, w_lc, w_lc2, w_turn, w_turn2, w_nilP, w_consP, w_disp, thn_nx, thn_rt, thn_exc, toS_ok, toS_exc, toG_ok, toR_nx, toR_rt, toR_exc, Res.bind_ok, Res.bind_exc, startE, pick, wipeE, List.filterMap_cons, List.filterMap_nil, List.map_cons, List.map_nil, List.getElem?_cons_zero, List.getElem?_cons_succ, List.length_cons, List.length_nil, List.replicate, List.cons_append, List.nil_append, List.append_nil, List.set_cons_zero, List.set_cons_succ, binP, cmpP, p_addI, p_subI, p_lt, p_le, p_gt, p_ge, p_neg, p_truB, p_truT, p_lenT, p_lenC, p_max, p_min, p_tupT, Nat.reduceAdd, Nat.reduceSub, Nat.reduceEqDiff, Nat.reduceLeDiff, Nat.reduceLT, Nat.reducePow, Nat.zero_add, sizeLine, if_true, if_false, ite_true, ite_false, Bool.not_true, Bool.not_false, nx_nx, nx_ct, okR_ok, e1, List.length_map, hN, rg, e2, e3', q1, e4', q2]
  exact ⟨_, rfl⟩
theorem holds : PySem.Challenge.rw_dispatchers_k60_mixtures.Holds := holds_of law_ok
end K60

theorem PySem.Challenge.cw_dispatchers_k60_mixtures_holds : PySem.Challenge.rw_dispatchers_k60_mixtures.Holds := by
  exact K60.holds
