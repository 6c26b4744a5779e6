import PyProof.Rows.All
import Wide.All
import OpenK.AllK
import Wide.FinOn
import HandS.Base
import HandS.Call
import HandS.List
import HandS.Comp
import HandS.Dict
import HandS.Iter
import HandS.Walk
import HandS.Exc
import HandS.ExcOwn
import HandS.CallSlots
import HandS.TryMany
import HandS.HeadHook1
import HandS.Defaults
import HandS.TupAny
import HandS.TupMul
import HandS.IsInst
import HandS.SortInts
import HandS.Deep
import HandS.Wide
import HandS.SetFor
import HandS.Conv
import HandS.Evl
import KE.KTupSum
import PyProof.TupleOfSeq
import PyProof.ReprRoads
import HandS.More
import OpenK.KMore
import HandS.ExcSuper
import KE.KExcSuper
import KE.KSuper
import KE.KExcInit
import HandS.ExcField
import KE.GoesZip
import KE.GoesMore
import KE.GoesEnum
import KE.KDictZip
import KE.KDictPairs
import HandS.Style
import HandS.Words
import HandS.Head0
import HandS.Head1
import HandS.Head2
import HandS.HeadHook2
import HandS.Ends
import HandS.HeadEnd
import PySem.Challenge.RW_whichstay_k05_whole_words_compared
set_option Elab.async false
set_option linter.all false
set_option maxRecDepth 100000
set_option maxHeartbeats 1000000
namespace Mn
open PySem PySem.Spec L2
/-- data: what a value is, the heap left out -/
inductive D where
  | non | bl (b : Bool) | int (i : Int) | str (x : Str)
  | tup (xs : List D) | lst (xs : List D)
  | ins (C : Str) (fs : List (Str × D))
  | dic (kvs : List (List Key × D))
  /-- a list of ints that is read alone (the script) -/
  | scr (is : List Int)
  /-- a tuple of which it is known that it has no dict -/
  | tpb (xs : List D)
  /-- a built-in type, an own class -/
  | ty (T : String) | cls (C : Str)
  deriving Inhabited
/-- a slot: nothing, a value that stays as it is, an object of one's own that may change (lent: the caller's) -/
inductive Slot where
  | un | val (d : D) | own (lent : Bool) (d : D)
  deriving Inhabited
abbrev En := List Slot
abbrev Fg := PySem.W.Frag
def Sub (F H : Hp) : Prop := ∀ a o, F a = some o → H a = some o
theorem Sub.rfl {F : Hp} : Sub F F := fun _ _ h => h
theorem Sub.tr {F G H : Hp} (h : Sub F G) (k : Sub G H) : Sub F H := fun a o e => k a o (h a o e)
theorem Sub.add {F H : Hp} {p : Addr} {o : HO} (h : Sub F H) (hp : H p = none) : Sub (upd F p o) (upd H p o) := by
  intro a u e
  by_cases q : a = p
  · subst q
    rw [upd_same] at e ⊢
    exact e
  · rw [upd_ne q] at e ⊢
    exact h a u e
theorem Sub.up {F : Hp} {p : Addr} {o : HO} (hp : F p = none) : Sub F (upd F p o) := fun a u e => by
  have q : a ≠ p := fun z => by
    rw [z, hp] at e
    cases e
  rw [upd_ne q]
  exact e
theorem Sub.none {F H : Hp} {p : Addr} (h : Sub F H) (hp : H p = Option.none) : F p = Option.none := by
  cases q : F p with
  | none => rfl
  | some o =>
    have z := h p o q
    rw [hp] at z
    cases z
theorem Sub.sqL {K : Fg} {F H : Hp} {a : Addr} {vs : List V} (h : Sub F H) (q : SqL K F a vs) : SqL K H a vs := by
  rcases q with (q | ⟨o, q⟩) | q
  · exact .inl (.inl (h a _ q))
  · exact .inl (.inr ⟨o, h a _ q⟩)
  · exact .inr q
theorem Sub.sqT {K : Fg} {F H : Hp} {a : Addr} {vs : List V} (h : Sub F H) (q : SqT K F a vs) : SqT K H a vs := by
  rcases q with (q | ⟨o, q⟩) | q
  · exact .inl (.inl (h a _ q))
  · exact .inl (.inr ⟨o, h a _ q⟩)
  · exact .inr q
/-- a tuple without a dict -/
def TpB (H : Hp) (a : Addr) (vs : List V) : Prop := ∃ o : Obj, H a = some (.frz o (.tup vs)) ∧ o.dict = none
theorem TpB.sq {K : Fg} {H : Hp} {a : Addr} {vs : List V} (h : TpB H a vs) : SqT K H a vs := by
  obtain ⟨o, e, _⟩ := h
  exact .inl (.inr ⟨o, e⟩)
theorem Sub.tpb {F H : Hp} {a : Addr} {vs : List V} (h : Sub F H) (q : TpB F a vs) : TpB H a vs := by
  obtain ⟨o, e, d⟩ := q
  exact ⟨o, h _ _ e, d⟩
mutual
inductive Rep (K : Fg) (F : Hp) : V → D → Prop
  | non : Rep K F .non .non
  | bl (b : Bool) : Rep K F (.bl b) (.bl b)
  | int (i : Int) : Rep K F (.int i) (.int i)
  | str (x : Str) : Rep K F (.str x) (.str x)
  | tup {a : Addr} {vs : List V} {xs : List D} : F a = some (.tup vs) → Reps K F vs xs → Rep K F (.ref a) (.tup xs)
  | lst {a : Addr} {vs : List V} {xs : List D} : F a = some (.lst vs) → Reps K F vs xs → Rep K F (.ref a) (.lst xs)
  | scr {a : Addr} {is : List Int} : SqL K F a (is.map V.int) → Rep K F (.ref a) (.scr is)
  | ins {a dx : Addr} {C : Str} {gs : List (Str × V)} {fs : List (Str × D)} : F a = some (.ins (He.ga K C) dx gs) → RepF K F gs fs → Rep K F (.ref a) (.ins C fs)
  | dic {a : Addr} {gs : List (List Key × V)} {kvs : List (List Key × D)} : F a = some (.dT gs) → RepD K F gs kvs → Rep K F (.ref a) (.dic kvs)
  | tpb {a : Addr} {vs : List V} {xs : List D} : TpB F a vs → Reps K F vs xs → Rep K F (.ref a) (.tpb xs)
  | ty (T : String) : Rep K F (.ty T) (.ty T)
  | cls (C : Str) : Rep K F (.ref (He.ga K C)) (.cls C)
inductive Reps (K : Fg) (F : Hp) : List V → List D → Prop
  | nil : Reps K F [] []
  | cons {v : V} {d : D} {vs : List V} {ds : List D} : Rep K F v d → Reps K F vs ds → Reps K F (v :: vs) (d :: ds)
inductive RepF (K : Fg) (F : Hp) : List (Str × V) → List (Str × D) → Prop
  | nil : RepF K F [] []
  | cons {x : Str} {v : V} {d : D} {gs : List (Str × V)} {fs : List (Str × D)} : Rep K F v d → RepF K F gs fs → RepF K F ((x, v) :: gs) ((x, d) :: fs)
inductive RepD (K : Fg) (F : Hp) : List (List Key × V) → List (List Key × D) → Prop
  | nil : RepD K F [] []
  | cons {k : List Key} {v : V} {d : D} {gs : List (List Key × V)} {kvs : List (List Key × D)} : Rep K F v d → RepD K F gs kvs → RepD K F ((k, v) :: gs) ((k, d) :: kvs)
end
section
variable {K : Fg} {F G : Hp}
mutual
theorem Rep.mono (h : Sub F G) : ∀ {v : V} {d : D}, Rep K F v d → Rep K G v d
  | _, _, .non => .non
  | _, _, .bl b => .bl b
  | _, _, .int i => .int i
  | _, _, .str x => .str x
  | _, _, .tup q r => .tup (h _ _ q) (Reps.mono h r)
  | _, _, .lst q r => .lst (h _ _ q) (Reps.mono h r)
  | _, _, .scr q => .scr (h.sqL q)
  | _, _, .ins q r => .ins (h _ _ q) (RepF.mono h r)
  | _, _, .dic q r => .dic (h _ _ q) (RepD.mono h r)
  | _, _, .tpb q r => .tpb (h.tpb q) (Reps.mono h r)
  | _, _, .ty T => .ty T
  | _, _, .cls C => .cls C
theorem Reps.mono (h : Sub F G) : ∀ {vs : List V} {ds : List D}, Reps K F vs ds → Reps K G vs ds
  | _, _, .nil => .nil
  | _, _, .cons a r => .cons (Rep.mono h a) (Reps.mono h r)
theorem RepF.mono (h : Sub F G) : ∀ {gs : List (Str × V)} {fs : List (Str × D)}, RepF K F gs fs → RepF K G gs fs
  | _, _, .nil => .nil
  | _, _, .cons a r => .cons (Rep.mono h a) (RepF.mono h r)
theorem RepD.mono (h : Sub F G) : ∀ {gs : List (List Key × V)} {kvs : List (List Key × D)}, RepD K F gs kvs → RepD K G gs kvs
  | _, _, .nil => .nil
  | _, _, .cons a r => .cons (Rep.mono h a) (RepD.mono h r)
end
theorem Reps.length : ∀ {vs : List V} {ds : List D}, Reps K F vs ds → vs.length = ds.length
  | _, _, .nil => rfl
  | _, _, .cons _ r => congrArg Nat.succ (Reps.length r)
theorem Reps.app : ∀ {vs us : List V} {ds es : List D}, Reps K F vs ds → Reps K F us es → Reps K F (vs ++ us) (ds ++ es)
  | _, _, _, _, .nil, s => s
  | _, _, _, _, .cons a r, s => .cons a (Reps.app r s)
theorem Reps.at : ∀ {vs : List V} {ds : List D} {i : Nat} {d : D}, Reps K F vs ds → ds[i]? = some d → ∃ v, vs[i]? = some v ∧ Rep K F v d
  | _, _, _, _, .nil, e => by simp at e
  | _, _, 0, _, .cons a _, e => by
    simp at e
    subst e
    exact ⟨_, rfl, a⟩
  | _, _, i + 1, _, .cons _ r, e => by
    obtain ⟨v, h1, h2⟩ := Reps.at (i := i) r (by simpa using e)
    exact ⟨v, by simpa using h1, h2⟩
theorem Reps.atV : ∀ {vs : List V} {ds : List D} {i : Nat} {v : V}, Reps K F vs ds → vs[i]? = some v → ∃ d, ds[i]? = some d ∧ Rep K F v d
  | _, _, _, _, .nil, e => by simp at e
  | _, _, 0, _, .cons a _, e => by
    simp at e
    subst e
    exact ⟨_, rfl, a⟩
  | _, _, i + 1, _, .cons _ r, e => by
    obtain ⟨d, h1, h2⟩ := Reps.atV (i := i) r (by simpa using e)
    exact ⟨d, by simpa using h1, h2⟩
theorem Reps.tk : ∀ {vs : List V} {ds : List D} (n : Nat), Reps K F vs ds → Reps K F (vs.take n) (ds.take n)
  | _, _, 0, _ => .nil
  | _, _, _ + 1, .nil => .nil
  | _, _, n + 1, .cons a r => .cons a (Reps.tk n r)
theorem Reps.dp : ∀ {vs : List V} {ds : List D} (n : Nat), Reps K F vs ds → Reps K F (vs.drop n) (ds.drop n)
  | _, _, 0, r => r
  | _, _, _ + 1, .nil => .nil
  | _, _, n + 1, .cons _ r => Reps.dp n r
theorem Reps.put {v : V} {d : D} (q : Rep K F v d) : ∀ {vs : List V} {ds : List D} (i : Nat), Reps K F vs ds → Reps K F (vs.set i v) (ds.set i d)
  | _, _, _, .nil => .nil
  | _, _, 0, .cons _ r => .cons q r
  | _, _, i + 1, .cons a r => .cons a (Reps.put q i r)
theorem Reps.ints : ∀ {is : List Int}, Reps K F (is.map V.int) (is.map D.int)
  | [] => .nil
  | i :: r => .cons (.int i) Reps.ints
theorem RepF.look : ∀ {gs : List (Str × V)} {fs : List (Str × D)} {x : Str} {d : D}, RepF K F gs fs → fs.lookup x = some d → ∃ v, gs.lookup x = some v ∧ Rep K F v d
  | _, _, _, _, .nil, e => by cases e
  | _, _, x, d, .cons (x := y) (v := v) (d := d') (gs := gs) (fs := fs) a r, e => by
    rw [List.lookup_cons] at e ⊢
    cases q : x == y with
    | true =>
      rw [q] at e
      cases e
      exact ⟨v, rfl, a⟩
    | false =>
      rw [q] at e
      exact RepF.look r e
theorem RepF.lookN : ∀ {gs : List (Str × V)} {fs : List (Str × D)} {x : Str}, RepF K F gs fs → fs.lookup x = none → gs.lookup x = none
  | _, _, _, .nil, _ => rfl
  | _, _, x, .cons (x := y) (v := v) (d := d') (gs := gs) (fs := fs) a r, e => by
    rw [List.lookup_cons] at e ⊢
    cases q : x == y with
    | true =>
      rw [q] at e
      cases e
    | false =>
      rw [q] at e
      exact RepF.lookN r e
end
/-- what an object of one's own at a holds -/
def Cell (K : Fg) (F H : Hp) (a : Addr) : D → Prop
  | .lst xs => ∃ vs, H a = some (.lst vs) ∧ Reps K F vs xs
  | .ins C fs => ∃ dx gs, H a = some (.ins (He.ga K C) dx gs) ∧ RepF K F gs fs
  | .dic kvs => ∃ gs, H a = some (.dT gs) ∧ RepD K F gs kvs
  | _ => False
theorem Cell.some {K : Fg} {F H : Hp} {a : Addr} {d : D} (c : Cell K F H a d) : ∃ o, H a = some o := by
  cases d with
  | lst xs => obtain ⟨vs, h, _⟩ := c; exact ⟨_, h⟩
  | ins C fs => obtain ⟨_, _, h, _⟩ := c; exact ⟨_, h⟩
  | dic kvs => obtain ⟨_, h, _⟩ := c; exact ⟨_, h⟩
  | _ => exact c.elim
theorem Cell.to {K : Fg} {F H F' H' : Hp} {a : Addr} {d : D} (c : Cell K F H a d) (f : Sub F F') (h : H' a = H a) : Cell K F' H' a d := by
  cases d with
  | lst xs => obtain ⟨vs, q, r⟩ := c; exact ⟨vs, h.trans q, r.mono f⟩
  | ins C fs => obtain ⟨_, _, q, r⟩ := c; exact ⟨_, _, h.trans q, r.mono f⟩
  | dic kvs => obtain ⟨_, q, r⟩ := c; exact ⟨_, h.trans q, r.mono f⟩
  | _ => exact c.elim
/-- it stays from now on -/
theorem Cell.stay {K : Fg} {F H F' : Hp} {a : Addr} {d : D} (c : Cell K F H a d) (f : Sub F F') (h : F' a = H a) : Rep K F' (.ref a) d := by
  cases d with
  | lst xs =>
    obtain ⟨vs, q, r⟩ := c
    exact .lst (h.trans q) (r.mono f)
  | ins C fs => obtain ⟨_, _, q, r⟩ := c; exact .ins (h.trans q) (r.mono f)
  | dic kvs => obtain ⟨_, q, r⟩ := c; exact .dic (h.trans q) (r.mono f)
  | _ => exact c.elim
/-- a slot's value -/
def SlotR (K : Fg) (F H : Hp) : Slot → Option V → Prop
  | .un, _ => True
  | .val d, ov => ∃ v, ov = some v ∧ Rep K F v d
  | .own _ d, ov => ∃ a, ov = some (.ref a) ∧ F a = none ∧ Cell K F H a d
/-- a def's entry: the heap, the part of it that stays, the lent slots with their objects -/
structure Zr where
  H : Hp
  F : Hp
  P : List (Nat × Addr)
  /-- new objects that are in no slot as yet -/
  T : List (D × Addr) := []
  n : Nat := 0
structure SR (K : Fg) (Z : Zr) (F H : Hp) (en : En) (σ : L2.St) : Prop where
  ex : Sub F H
  len : en.length = σ.length
  ln : σ.length = Z.n
  rel : ∀ (i : Nat) (s : Slot) (ov : Option V), en[i]? = some s → σ[i]? = some ov → SlotR K F H s ov
  dist : ∀ (i j : Nat) (a : Addr) (b c : Bool) (d e : D), en[i]? = some (.own b d) → en[j]? = some (.own c e) → σ[i]? = some (some (.ref a)) → σ[j]? = some (some (.ref a)) → i = j
  k1 : ∀ a o, Z.H a = some o → a ∉ Z.P.map (·.2) → H a = some o
  k2 : ∀ a, Z.H a ≠ none → F a = Z.F a
  k3 : Sub Z.F F
  k4 : ∀ (i : Nat) (d : D) (a : Addr), en[i]? = some (.own false d) → σ[i]? = some (some (.ref a)) → Z.H a = none
  k5 : ∀ p ∈ Z.P, σ[p.1]? = some (some (.ref p.2)) ∧ ∃ d, en[p.1]? = some (.own true d)
  k6 : ∀ (i : Nat) (d : D) (a : Addr), en[i]? = some (.own true d) → σ[i]? = some (some (.ref a)) → (i, a) ∈ Z.P
  t1 : ∀ p ∈ Z.T, F p.2 = none ∧ Cell K F H p.2 p.1 ∧ Z.H p.2 = none
  t2 : ∀ p ∈ Z.T, ∀ (j : Nat) (b : Bool) (e : D), en[j]? = some (.own b e) → σ[j]? ≠ some (some (.ref p.2))
section
variable {K : Fg} {Z : Zr} {F H : Hp} {en : En} {σ : L2.St}
theorem SR.inEn (h : SR K Z F H en σ) {i : Nat} {s : Slot} (e : en[i]? = some s) : ∃ ov, σ[i]? = some ov ∧ SlotR K F H s ov := by
  have hi : i < en.length := (List.getElem?_eq_some_iff.mp e).1
  have hj : i < σ.length := by rw [← h.len]; exact hi
  exact ⟨σ[i], by simp [hj], h.rel i s _ e (by simp [hj])⟩
theorem SR.valAt (h : SR K Z F H en σ) {i : Nat} {d : D} (e : en[i]? = some (.val d)) : ∃ v, σ[i]? = some (some v) ∧ Rep K F v d := by
  obtain ⟨ov, h1, v, h2, h3⟩ := h.inEn e
  exact ⟨v, by rw [h1, h2], h3⟩
theorem SR.ownAt (h : SR K Z F H en σ) {i : Nat} {b : Bool} {d : D} (e : en[i]? = some (.own b d)) : ∃ a, σ[i]? = some (some (.ref a)) ∧ F a = none ∧ Cell K F H a d := by
  obtain ⟨ov, h1, a, h2, h3⟩ := h.inEn e
  exact ⟨a, by rw [h1, h2], h3⟩
/-- the entry's objects are known still -/
theorem SR.old (h : SR K Z F H en σ) {a : Addr} (q : Z.H a ≠ none) : H a ≠ none := by
  by_cases m : a ∈ Z.P.map (·.2)
  · obtain ⟨p, hp, rfl⟩ := List.mem_map.mp m
    obtain ⟨e1, d, e2⟩ := h.k5 p hp
    obtain ⟨a', h1, _, h3⟩ := h.ownAt e2
    rw [e1] at h1
    cases h1
    obtain ⟨o, ho⟩ := h3.some
    rw [ho]
    exact Option.some_ne_none o
  · cases z : Z.H a with
    | none => exact absurd z q
    | some o =>
      rw [h.k1 a o z m]
      exact Option.some_ne_none o
theorem SR.new (h : SR K Z F H en σ) {p : Addr} (q : H p = none) : Z.H p = none := by
  cases z : Z.H p with
  | none => rfl
  | some o => exact absurd q (h.old (by rw [z]; exact Option.some_ne_none o))
theorem SR.ne (h : SR K Z F H en σ) {p a : Addr} {d : D} (q : H p = none) (c : Cell K F H a d) : a ≠ p := fun z => by
  obtain ⟨o, ho⟩ := c.some
  rw [z, q] at ho
  cases ho
/-- more of the heap, all told objects as they stand -/
theorem SR.grow {F' H' : Hp} (h : SR K Z F H en σ) (f : Sub F F') (x : Sub F' H') (k : ∀ a o, H a = some o → H' a = some o) (n : ∀ a, H a ≠ none → F' a = F a) : SR K Z F' H' en σ where
  ex := x
  len := h.len
  ln := h.ln
  rel := fun i s ov e1 e2 => by
    have r := h.rel i s ov e1 e2
    cases s with
    | un => trivial
    | val d => obtain ⟨v, h1, h2⟩ := r; exact ⟨v, h1, h2.mono f⟩
    | own b d =>
      obtain ⟨a, h1, h2, h3⟩ := r
      obtain ⟨o, ho⟩ := h3.some
      refine ⟨a, h1, ?_, h3.to f (by rw [ho]; exact k a o ho)⟩
      rw [n a (by rw [ho]; exact Option.some_ne_none o)]
      exact h2
  dist := h.dist
  k1 := fun a o e m => k a o (h.k1 a o e m)
  k2 := fun a e => (n a (h.old e)).trans (h.k2 a e)
  k3 := h.k3.tr f
  k4 := h.k4
  k5 := h.k5
  k6 := h.k6
  t1 := fun p hp => by
    obtain ⟨e1, e2, e3⟩ := h.t1 p hp
    obtain ⟨o, ho⟩ := e2.some
    refine ⟨?_, e2.to f (by rw [ho]; exact k _ o ho), e3⟩
    rw [n _ (by rw [ho]; exact Option.some_ne_none o)]
    exact e1
  t2 := h.t2
/-- a new object that stays -/
theorem SR.laid {p : Addr} {o : HO} (h : SR K Z F H en σ) (q : H p = none) : SR K Z (upd F p o) (upd H p o) en σ := by
  have fp := h.ex.none q
  refine h.grow (.up fp) (h.ex.add q) (fun a u e => ?_) fun a e => ?_
  · have ne : a ≠ p := fun z => by rw [z, q] at e; cases e
    rw [upd_ne ne]
    exact e
  · have ne : a ≠ p := fun z => by rw [z] at e; exact e q
    exact upd_ne ne
/-- a new object that is of no slot as yet, and is not told to stay -/
theorem SR.fresh {p : Addr} {o : HO} (h : SR K Z F H en σ) (q : H p = none) : SR K Z F (upd H p o) en σ := by
  refine h.grow .rfl (fun a u e => ?_) (fun a u e => ?_) fun _ _ => rfl
  · have e' := h.ex a u e
    have ne : a ≠ p := fun z => by rw [z, q] at e'; cases e'
    rw [upd_ne ne]
    exact e'
  · have ne : a ≠ p := fun z => by rw [z, q] at e; cases e
    rw [upd_ne ne]
    exact e
end
end Mn
set_option Elab.async false
set_option linter.all false
set_option maxRecDepth 100000
set_option maxHeartbeats 1000000
namespace Mn
open PySem PySem.Spec L2
theorem get_put {α : Type} {l : List α} {i j : Nat} {x y : α} (h : (l.set i x)[j]? = some y) : (i = j ∧ y = x) ∨ (i ≠ j ∧ l[j]? = some y) := by
  by_cases e : i = j
  · subst e
    by_cases hi : i < l.length
    · rw [List.getElem?_set_self hi] at h
      exact .inl ⟨rfl, (Option.some.inj h).symm⟩
    · rw [List.getElem?_eq_none (by simpa using hi)] at h
      cases h
  · rw [List.getElem?_set_ne e] at h
    exact .inr ⟨e, h⟩
theorem put_other {α : Type} {l : List α} {i j : Nat} {x y : α} (e : i ≠ j) (h : l[j]? = some y) : (l.set i x)[j]? = some y := by
  rw [List.getElem?_set_ne e]
  exact h
section
variable {K : Fg} {Z : Zr} {F H : Hp} {en : En} {σ : L2.St}
theorem SR.notP (h : SR K Z F H en σ) {i : Nat} (nl : ∀ d, en[i]? ≠ some (.own true d)) : ∀ p ∈ Z.P, p.1 ≠ i := fun p hp e => by
  obtain ⟨_, d, q⟩ := h.k5 p hp
  rw [e] at q
  exact nl d q
/-- slot i holds a value (it was not lent) -/
theorem SR.setVal {i : Nat} {v : V} {d : D} (h : SR K Z F H en σ) (nl : ∀ d, en[i]? ≠ some (.own true d)) (r : Rep K F v d) : SR K Z F H (en.set i (.val d)) (σ.set i (some v)) where
  ex := h.ex
  len := by rw [List.length_set, List.length_set]; exact h.len
  ln := by rw [List.length_set]; exact h.ln
  rel := fun j s ov e1 e2 => by
    rcases get_put e1 with ⟨q, e⟩ | ⟨ne, e⟩
    · subst q
      subst e
      rcases get_put e2 with ⟨_, e⟩ | ⟨ne, _⟩
      · exact ⟨v, e, r⟩
      · exact absurd rfl ne
    · rcases get_put e2 with ⟨q, _⟩ | ⟨_, e3⟩
      · exact absurd q ne
      · exact h.rel j s ov e e3
  dist := fun j k a b c d e e1 e2 e3 e4 => by
    rcases get_put e1 with ⟨_, z⟩ | ⟨n1, e1⟩
    · cases z
    rcases get_put e2 with ⟨_, z⟩ | ⟨n2, e2⟩
    · cases z
    rcases get_put e3 with ⟨z, _⟩ | ⟨_, e3⟩
    · exact absurd z n1
    rcases get_put e4 with ⟨z, _⟩ | ⟨_, e4⟩
    · exact absurd z n2
    exact h.dist j k a b c d e e1 e2 e3 e4
  k1 := h.k1
  k2 := h.k2
  k3 := h.k3
  k4 := fun j d a e1 e2 => by
    rcases get_put e1 with ⟨_, z⟩ | ⟨n1, e1⟩
    · cases z
    rcases get_put e2 with ⟨z, _⟩ | ⟨_, e2⟩
    · exact absurd z n1
    exact h.k4 j d a e1 e2
  k5 := fun p hp => by
    obtain ⟨e1, d, e2⟩ := h.k5 p hp
    have ne : i ≠ p.1 := fun z => h.notP nl p hp z.symm
    exact ⟨put_other ne e1, d, put_other ne e2⟩
  k6 := fun j d a e1 e2 => by
    rcases get_put e1 with ⟨_, z⟩ | ⟨n1, e1⟩
    · cases z
    rcases get_put e2 with ⟨z, _⟩ | ⟨_, e2⟩
    · exact absurd z n1
    exact h.k6 j d a e1 e2
  t1 := h.t1
  t2 := fun p hp j b e e1 e2 => by
    rcases get_put e1 with ⟨_, z⟩ | ⟨n1, e1⟩
    · cases z
    rcases get_put e2 with ⟨z, _⟩ | ⟨_, e2⟩
    · exact absurd z n1
    exact h.t2 p hp j b e e1 e2
/-- slot i holds nothing that is told -/
theorem SR.setUn {i : Nat} {x : Option V} (h : SR K Z F H en σ) (nl : ∀ d, en[i]? ≠ some (.own true d)) : SR K Z F H (en.set i .un) (σ.set i x) where
  ex := h.ex
  len := by rw [List.length_set, List.length_set]; exact h.len
  ln := by rw [List.length_set]; exact h.ln
  rel := fun j s ov e1 e2 => by
    rcases get_put e1 with ⟨q, e⟩ | ⟨ne, e⟩
    · subst e
      trivial
    · rcases get_put e2 with ⟨q, _⟩ | ⟨_, e3⟩
      · exact absurd q ne
      · exact h.rel j s ov e e3
  dist := fun j k a b c d e e1 e2 e3 e4 => by
    rcases get_put e1 with ⟨_, z⟩ | ⟨n1, e1⟩
    · cases z
    rcases get_put e2 with ⟨_, z⟩ | ⟨n2, e2⟩
    · cases z
    rcases get_put e3 with ⟨z, _⟩ | ⟨_, e3⟩
    · exact absurd z n1
    rcases get_put e4 with ⟨z, _⟩ | ⟨_, e4⟩
    · exact absurd z n2
    exact h.dist j k a b c d e e1 e2 e3 e4
  k1 := h.k1
  k2 := h.k2
  k3 := h.k3
  k4 := fun j d a e1 e2 => by
    rcases get_put e1 with ⟨_, z⟩ | ⟨n1, e1⟩
    · cases z
    rcases get_put e2 with ⟨z, _⟩ | ⟨_, e2⟩
    · exact absurd z n1
    exact h.k4 j d a e1 e2
  k5 := fun p hp => by
    obtain ⟨e1, d, e2⟩ := h.k5 p hp
    have ne : i ≠ p.1 := fun z => h.notP nl p hp z.symm
    exact ⟨put_other ne e1, d, put_other ne e2⟩
  k6 := fun j d a e1 e2 => by
    rcases get_put e1 with ⟨_, z⟩ | ⟨n1, e1⟩
    · cases z
    rcases get_put e2 with ⟨z, _⟩ | ⟨_, e2⟩
    · exact absurd z n1
    exact h.k6 j d a e1 e2
  t1 := h.t1
  t2 := fun p hp j b e e1 e2 => by
    rcases get_put e1 with ⟨_, z⟩ | ⟨n1, e1⟩
    · cases z
    rcases get_put e2 with ⟨z, _⟩ | ⟨_, e2⟩
    · exact absurd z n1
    exact h.t2 p hp j b e e1 e2
/-- slot i holds a new object of one's own -/
theorem SR.setOwn {i : Nat} {a : Addr} {d : D} (h : SR K Z F H en σ) (nl : ∀ d, en[i]? ≠ some (.own true d)) (fa : F a = none) (c : Cell K F H a d) (za : Z.H a = none)
    (na : ∀ (j : Nat) (b : Bool) (e : D), en[j]? = some (.own b e) → σ[j]? = some (some (.ref a)) → i = j) (nt : ∀ p ∈ Z.T, p.2 ≠ a) : SR K Z F H (en.set i (.own false d)) (σ.set i (some (.ref a))) where
  ex := h.ex
  len := by rw [List.length_set, List.length_set]; exact h.len
  ln := by rw [List.length_set]; exact h.ln
  rel := fun j s ov e1 e2 => by
    rcases get_put e1 with ⟨q, e⟩ | ⟨ne, e⟩
    · subst q
      subst e
      rcases get_put e2 with ⟨_, e⟩ | ⟨ne, _⟩
      · exact ⟨a, e, fa, c⟩
      · exact absurd rfl ne
    · rcases get_put e2 with ⟨q, _⟩ | ⟨_, e3⟩
      · exact absurd q ne
      · exact h.rel j s ov e e3
  dist := fun j k a' b c' d' e e1 e2 e3 e4 => by
    rcases get_put e1 with ⟨q1, z1⟩ | ⟨n1, e1⟩
    · rcases get_put e3 with ⟨_, z3⟩ | ⟨n3, _⟩
      · rcases get_put e2 with ⟨q2, _⟩ | ⟨n2, e2⟩
        · rw [← q1, q2]
        · rcases get_put e4 with ⟨z, _⟩ | ⟨_, e4⟩
          · exact absurd z n2
          · cases z3
            rw [← q1]
            exact na k c' e e2 e4
      · exact absurd q1 n3
    · rcases get_put e3 with ⟨z, _⟩ | ⟨_, e3⟩
      · exact absurd z n1
      rcases get_put e2 with ⟨q2, _⟩ | ⟨n2, e2⟩
      · rcases get_put e4 with ⟨_, z4⟩ | ⟨n4, _⟩
        · cases z4
          rw [← q2]
          exact (na j b d' e1 e3).symm
        · exact absurd q2 n4
      · rcases get_put e4 with ⟨z, _⟩ | ⟨_, e4⟩
        · exact absurd z n2
        exact h.dist j k a' b c' d' e e1 e2 e3 e4
  k1 := h.k1
  k2 := h.k2
  k3 := h.k3
  k4 := fun j d a' e1 e2 => by
    rcases get_put e1 with ⟨q1, z⟩ | ⟨n1, e1⟩
    · rcases get_put e2 with ⟨_, z2⟩ | ⟨n2, _⟩
      · cases z2
        exact za
      · exact absurd q1 n2
    rcases get_put e2 with ⟨z, _⟩ | ⟨_, e2⟩
    · exact absurd z n1
    exact h.k4 j d a' e1 e2
  k5 := fun p hp => by
    obtain ⟨e1, d, e2⟩ := h.k5 p hp
    have ne : i ≠ p.1 := fun z => h.notP nl p hp z.symm
    exact ⟨put_other ne e1, d, put_other ne e2⟩
  k6 := fun j d a e1 e2 => by
    rcases get_put e1 with ⟨_, z⟩ | ⟨n1, e1⟩
    · cases z
    rcases get_put e2 with ⟨z, _⟩ | ⟨_, e2⟩
    · exact absurd z n1
    exact h.k6 j d a e1 e2
  t1 := h.t1
  t2 := fun p hp j b e e1 e2 => by
    rcases get_put e1 with ⟨q1, z⟩ | ⟨n1, e1⟩
    · rcases get_put e2 with ⟨_, z2⟩ | ⟨n2, _⟩
      · cases z2
        exact nt p hp rfl
      · exact absurd q1 n2
    rcases get_put e2 with ⟨z, _⟩ | ⟨_, e2⟩
    · exact absurd z n1
    exact h.t2 p hp j b e e1 e2
/-- the object of slot i stays from now on -/
theorem SR.stay {i : Nat} {a : Addr} {d : D} (h : SR K Z F H en σ) (ei : en[i]? = some (.own false d)) (es : σ[i]? = some (some (.ref a))) :
    ∃ F', Sub F F' ∧ SR K Z F' H (en.set i (.val d)) σ ∧ Rep K F' (.ref a) d := by
  obtain ⟨a', e', fa, c⟩ := h.ownAt ei
  rw [es] at e'
  cases e'
  obtain ⟨o, ho⟩ := c.some
  have fs : Sub F (upd F a o) := .up fa
  have rp : Rep K (upd F a o) (.ref a) d := c.stay fs (by rw [upd_same, ho])
  have hi : i < σ.length := (List.getElem?_eq_some_iff.mp es).1
  have sσ : σ.set i (some (.ref a)) = σ := by
    apply List.ext_getElem?
    intro j
    by_cases q : i = j
    · subst q
      rw [List.getElem?_set_self hi, es]
    · rw [List.getElem?_set_ne q]
  have za := h.k4 i d a ei es
  have base : ∀ (j : Nat) (s : Slot) (ov : Option V), i ≠ j → en[j]? = some s → σ[j]? = some ov → SlotR K (upd F a o) H s ov := fun j s ov ne e1 e2 => by
    have r := h.rel j s ov e1 e2
    cases s with
    | un => trivial
    | val e => obtain ⟨v, h1, h2⟩ := r; exact ⟨v, h1, h2.mono fs⟩
    | own b e =>
      obtain ⟨a', h1, h2, h3⟩ := r
      have na : a' ≠ a := fun z => by
        subst z
        rw [h1] at e2
        exact ne (h.dist i j a' false b d e ei e1 es e2)
      refine ⟨a', h1, ?_, h3.to fs rfl⟩
      rw [upd_ne na]
      exact h2
  refine ⟨upd F a o, fs, ?_, rp⟩
  exact {
    ex := fun b u e => by
      by_cases q : b = a
      · subst q
        rw [upd_same] at e
        rw [ho]
        exact e
      · rw [upd_ne q] at e
        exact h.ex b u e
    len := by rw [List.length_set]; exact h.len
    ln := h.ln
    rel := fun j s ov e1 e2 => by
      rcases get_put e1 with ⟨q, e⟩ | ⟨ne, e⟩
      · subst q
        subst e
        rw [es] at e2
        exact ⟨_, (Option.some.inj e2).symm, rp⟩
      · exact base j s ov ne e e2
    dist := fun j k a b c d e e1 e2 e3 e4 => by
      rcases get_put e1 with ⟨_, z⟩ | ⟨n1, e1⟩
      · cases z
      rcases get_put e2 with ⟨_, z⟩ | ⟨n2, e2⟩
      · cases z
      exact h.dist j k a b c d e e1 e2 e3 e4
    k1 := h.k1
    k2 := fun b e => by
      have q : b ≠ a := fun z => by rw [z] at e; exact e za
      rw [upd_ne q]
      exact h.k2 b e
    k3 := h.k3.tr fs
    k4 := fun j d a e1 e2 => by
      rcases get_put e1 with ⟨_, z⟩ | ⟨n1, e1⟩
      · cases z
      exact h.k4 j d a e1 e2
    k5 := fun p hp => by
      obtain ⟨e1, d', e2⟩ := h.k5 p hp
      have ne : i ≠ p.1 := fun z => by
        rw [← z, ei] at e2
        cases e2
      exact ⟨e1, d', put_other ne e2⟩
    k6 := fun j d a e1 e2 => by
      rcases get_put e1 with ⟨_, z⟩ | ⟨n1, e1⟩
      · cases z
      exact h.k6 j d a e1 e2
    t1 := fun p hp => by
      obtain ⟨e1, e2, e3⟩ := h.t1 p hp
      have na : p.2 ≠ a := fun z => h.t2 p hp i false d ei (by rw [es, z])
      exact ⟨by rw [upd_ne na]; exact e1, e2.to fs rfl, e3⟩
    t2 := fun p hp j b e e1 e2 => by
      rcases get_put e1 with ⟨_, z⟩ | ⟨n1, e1⟩
      · cases z
      exact h.t2 p hp j b e e1 e2 }
/-- the object of slot i is changed -/
theorem SR.put {i : Nat} {a : Addr} {b : Bool} {d d' : D} {o : HO} (h : SR K Z F H en σ) (ei : en[i]? = some (.own b d)) (es : σ[i]? = some (some (.ref a))) (c : Cell K F (upd H a o) a d') :
    SR K Z F (upd H a o) (en.set i (.own b d')) σ := by
  obtain ⟨a', e', fa, c0⟩ := h.ownAt ei
  rw [es] at e'
  cases e'
  have none_of : ∀ c u, F c = some u → c ≠ a := fun c u e z => by
    rw [z, fa] at e
    cases e
  exact {
    ex := fun c u e => by
      rw [upd_ne (none_of c u e)]
      exact h.ex c u e
    len := by rw [List.length_set]; exact h.len
    ln := h.ln
    rel := fun j s ov e1 e2 => by
      rcases get_put e1 with ⟨q, e⟩ | ⟨ne, e⟩
      · subst q
        subst e
        rw [es] at e2
        exact ⟨a, (Option.some.inj e2).symm, fa, c⟩
      · have r := h.rel j s ov e e2
        cases s with
        | un => trivial
        | val e => exact r
        | own b' e' =>
          obtain ⟨a2, h1, h2, h3⟩ := r
          have na : a2 ≠ a := fun z => by
            subst z
            rw [h1] at e2
            exact ne (h.dist i j a2 b b' d e' ei e es e2)
          exact ⟨a2, h1, h2, h3.to .rfl (upd_ne na)⟩
    dist := fun j k a2 b2 c2 d2 e2 h1 h2 h3 h4 => by
      rcases get_put h1 with ⟨q1, z1⟩ | ⟨n1, h1⟩
      · rcases get_put h2 with ⟨q2, _⟩ | ⟨n2, h2⟩
        · rw [← q1, q2]
        · subst q1
          exact h.dist i k a2 b c2 d e2 ei h2 h3 h4
      · rcases get_put h2 with ⟨q2, _⟩ | ⟨n2, h2⟩
        · subst q2
          exact h.dist j i a2 b2 b d2 d h1 ei h3 h4
        · exact h.dist j k a2 b2 c2 d2 e2 h1 h2 h3 h4
    k1 := fun c1 u e m => by
      have q : c1 ≠ a := fun z => by
        rw [z] at e m
        cases b with
        | true => exact m (List.mem_map.mpr ⟨(i, a), h.k6 i d a ei es, rfl⟩)
        | false =>
          rw [h.k4 i d a ei es] at e
          cases e
      rw [upd_ne q]
      exact h.k1 c1 u e m
    k2 := h.k2
    k3 := h.k3
    k4 := fun j d2 a2 e1 e2 => by
      rcases get_put e1 with ⟨q, z⟩ | ⟨n1, e1⟩
      · subst q
        cases z
        exact h.k4 i d a2 ei e2
      exact h.k4 j d2 a2 e1 e2
    k5 := fun p hp => by
      obtain ⟨e1, d2, e2⟩ := h.k5 p hp
      by_cases q : i = p.1
      · rw [← q] at e2 ⊢
        rw [ei] at e2
        cases e2
        refine ⟨by rw [q]; exact e1, d', ?_⟩
        exact List.getElem?_set_self (List.getElem?_eq_some_iff.mp ei).1
      · exact ⟨e1, d2, put_other q e2⟩
    k6 := fun j d2 a2 e1 e2 => by
      rcases get_put e1 with ⟨q, z⟩ | ⟨n1, e1⟩
      · subst q
        cases z
        exact h.k6 i d a2 ei e2
      exact h.k6 j d2 a2 e1 e2
    t1 := fun p hp => by
      obtain ⟨e1, e2, e3⟩ := h.t1 p hp
      have na : p.2 ≠ a := fun z => h.t2 p hp i b d ei (by rw [es, z])
      exact ⟨e1, e2.to .rfl (upd_ne na), e3⟩
    t2 := fun p hp j b2 e e1 e2 => by
      rcases get_put e1 with ⟨q, z⟩ | ⟨n1, e1⟩
      · rw [← q] at e2
        exact h.t2 p hp i b d ei e2
      exact h.t2 p hp j b2 e e1 e2 }
end
inductive Res (α : Type) where
  | ok (a : α) (e : En) | exn (C : Str) (fs : List (Str × D)) (e : En) | bad
abbrev Fx (α : Type) := En → Res α
/-- an operand: a datum, or what a slot holds when it is asked -/
inductive Opd where
  | dat (d : D) | slot (i : Nat)
inductive SRes where
  | nx (e : En) | bk (e : En) | ct (e : En) | rt (r : Slot) (e : En) | ex (C : Str) (fs : List (Str × D)) (e : En) | bad
abbrev Fs := En → SRes
def Fx.bind {α β : Type} (m : Fx α) (f : α → Fx β) : Fx β := fun en => match m en with
  | .ok a e => f a e
  | .exn C fs e => .exn C fs e
  | .bad => .bad
def Fx.ret {α : Type} (a : α) : Fx α := fun en => .ok a en
/-- what is asked for a result -/
def RP {α : Type} (K : Fg) (W : WX) (Z : Zr) (F : Hp) (σ : L2.St) (r : Res α) (P : α → En → Hp → Hp → Prop) : Prop :=
  match r with
  | .ok a en' => ∀ F' H', SR K Z F' H' en' σ → Sub F F' → P a en' F' H'
  | .exn C fs en' => ∀ d gs F' H', SR K Z F' H' en' σ → Sub F F' → H' d = some (.xd gs) → RepF K F' gs fs → W (.ref (He.ga K C)) (some d) σ H'
  | .bad => False
/-- an operand's value -/
def OV (K : Fg) (F : Hp) (σ : L2.St) : Opd → V → Prop
  | .dat d, v => Rep K F v d
  | .slot i, v => σ[i]? = some (some v)
/-- a right side: a value, or a new object of one's own -/
def RV (K : Fg) (Z : Zr) (F H : Hp) (en : En) (σ : L2.St) : Slot → V → Prop
  | .val d, v => Rep K F v d
  | .own false d, v => ∃ a, v = .ref a ∧ F a = none ∧ Cell K F H a d ∧ Z.H a = none ∧ (∀ (j : Nat) (b : Bool) (e : D), en[j]? = some (.own b e) → σ[j]? ≠ some (some (.ref a))) ∧ ∀ p ∈ Z.T, p.2 ≠ a
  | _, _ => False
/-- the readings: of an operand, a stored value, a right side, a test, a row of operands, of stored values -/
def cO (K : Fg) (W : WX) (m : Fx Opd) : TE := fun σ H Q => ∃ Z F en, SR K Z F H en σ ∧ RP K W Z F σ (m en) fun r en' F' H' => ∀ v, OV K F' σ r v → Q v H'
def cV (K : Fg) (W : WX) (m : Fx D) : TE := fun σ H Q => ∃ Z F en, SR K Z F H en σ ∧ RP K W Z F σ (m en) fun d en' F' H' => ∀ v, Rep K F' v d → Q v H'
def cR (K : Fg) (W : WX) (m : Fx Slot) : TE := fun σ H Q => ∃ Z F en, SR K Z F H en σ ∧ RP K W Z F σ (m en) fun r en' F' H' => ∀ v, RV K Z F' H' en' σ r v → Q v H'
def cT (K : Fg) (W : WX) (m : Fx Bool) : TT := fun σ H Q => ∃ Z F en, SR K Z F H en σ ∧ RP K W Z F σ (m en) fun b en' F' H' => Q b H'
end Mn
set_option Elab.async false
set_option linter.all false
set_option maxRecDepth 100000
set_option maxHeartbeats 1000000
namespace Mn
open PySem PySem.Spec L2
theorem _root_.L2.PE.weak {X : Cx} {e : Expr} {t u : TE} (h : PE X e t) (k : ∀ σ H Q, u σ H Q → t σ H Q) : PE X e u := ⟨fun pins s σ H Q I q => h.run pins s σ H Q I (k σ H Q q)⟩
theorem _root_.L2.PT.weak {X : Cx} {e : Expr} {t u : TT} (h : PT X e t) (k : ∀ σ H Q, u σ H Q → t σ H Q) : PT X e u := ⟨fun pins s σ H Q I q => h.run pins s σ H Q I (k σ H Q q)⟩
theorem _root_.L2.PW.weak {X : Cx} {e : Expr} {t u : TT} (h : PW X e t) (k : ∀ σ H Q, u σ H Q → t σ H Q) : PW X e u := ⟨fun wh pins s σ H Q I q => h.run wh pins s σ H Q I (k σ H Q q)⟩
theorem _root_.L2.PA.weak {X : Cx} {es : List Expr} {t u : TA} (h : PA X es t) (k : ∀ σ H Q, u σ H Q → t σ H Q) : PA X es u := ⟨fun pos pins s σ H Q I q => h.run pos pins s σ H Q I (k σ H Q q)⟩
theorem _root_.L2.PS.weak {X : Cx} {e : Stmt} {t u : TS} (h : PS X e t) (k : ∀ D σ H, u D σ H → t D σ H) : PS X e u := ⟨fun pins s σ H D I q => h.run pins s σ H D I (k D σ H q)⟩
theorem _root_.L2.PSs.weak {X : Cx} {e : List Stmt} {t u : TS} (h : PSs X e t) (k : ∀ D σ H, u D σ H → t D σ H) : PSs X e u := ⟨fun pins s σ H D I q => h.run pins s σ H D I (k D σ H q)⟩
section
variable {K : Fg} {W : WX} {Z : Zr} {F H : Hp} {en : En} {σ : L2.St}
theorem RP.from {α : Type} {r : Res α} {F0 : Hp} {P : α → En → Hp → Hp → Prop} (s : Sub F0 F) (h : RP K W Z F0 σ r P) : RP K W Z F σ r P := by
  cases r with
  | ok a e => exact fun F' H' q f => h F' H' q (s.tr f)
  | exn C fs e => exact fun d gs F' H' q f => h d gs F' H' q (s.tr f)
  | bad => exact h
theorem RP.mono {α : Type} {r : Res α} {P P' : α → En → Hp → Hp → Prop} (h : RP K W Z F σ r P) (k : ∀ a e F' H', SR K Z F' H' e σ → Sub F F' → P a e F' H' → P' a e F' H') : RP K W Z F σ r P' := by
  cases r with
  | ok a e => exact fun F' H' q f => k a e F' H' q f (h F' H' q f)
  | exn C fs e => exact h
  | bad => exact h
theorem RP.split {α β : Type} {m : Fx α} {f : α → Fx β} {P : β → En → Hp → Hp → Prop} (h : RP K W Z F σ (m.bind f en) P) : RP K W Z F σ (m en) fun a e1 F1 H1 => RP K W Z F1 σ (f a e1) P := by
  unfold Fx.bind at h
  cases q : m en with
  | ok a e =>
    rw [q] at h
    exact fun F' H' _ f => h.from f
  | exn C fs e =>
    rw [q] at h
    exact h
  | bad =>
    rw [q] at h
    exact h
end
def getD (en : En) : Opd → Option D
  | .dat d => some d
  | .slot i => match en[i]? with
    | some (.val d) => some d
    | some (.own _ d) => some d
    | _ => none
def getDs (en : En) : List Opd → Option (List D)
  | [] => some []
  | o :: r => match getD en o with
    | some d => match getDs en r with
      | some ds => some (d :: ds)
      | none => none
    | none => none
/-- the value stands for the datum as of now -/
def Now (K : Fg) (F H : Hp) (v : V) (d : D) : Prop := Rep K F v d ∨ ∃ a, v = .ref a ∧ F a = none ∧ Cell K F H a d
inductive Nows (K : Fg) (F H : Hp) : List V → List D → Prop
  | nil : Nows K F H [] []
  | cons {v : V} {d : D} {vs : List V} {ds : List D} : Now K F H v d → Nows K F H vs ds → Nows K F H (v :: vs) (d :: ds)
inductive OVs (K : Fg) (F : Hp) (σ : L2.St) : List Opd → List V → Prop
  | nil : OVs K F σ [] []
  | cons {o : Opd} {v : V} {os : List Opd} {vs : List V} : OV K F σ o v → OVs K F σ os vs → OVs K F σ (o :: os) (v :: vs)
section
variable {K : Fg} {W : WX} {Z : Zr} {F H : Hp} {en : En} {σ : L2.St}
theorem OV.mono {F' : Hp} {o : Opd} {v : V} (f : Sub F F') (h : OV K F σ o v) : OV K F' σ o v := by
  cases o with
  | dat d => exact Rep.mono f h
  | slot i => exact h
theorem SR.now (h : SR K Z F H en σ) {o : Opd} {v : V} {d : D} (q : OV K F σ o v) (g : getD en o = some d) : Now K F H v d := by
  cases o with
  | dat d' =>
    cases g
    exact .inl q
  | slot i =>
    have q' : σ[i]? = some (some v) := q
    unfold getD at g
    dsimp only at g
    cases e : en[i]? with
    | none =>
      rw [e] at g
      cases g
    | some s =>
      rw [e] at g
      cases s with
      | un => cases g
      | val d' =>
        cases g
        obtain ⟨v', h1, h2⟩ := h.valAt e
        rw [q'] at h1
        cases h1
        exact .inl h2
      | own b d' =>
        cases g
        obtain ⟨a, h1, h2, h3⟩ := h.ownAt e
        rw [q'] at h1
        cases h1
        exact .inr ⟨a, rfl, h2, h3⟩
theorem SR.nows (h : SR K Z F H en σ) : ∀ {os : List Opd} {vs : List V} {ds : List D}, OVs K F σ os vs → getDs en os = some ds → Nows K F H vs ds
  | _, _, _, .nil, g => by
    cases g
    exact .nil
  | _, _, ds, .cons (o := o) (os := os) a r, g => by
    unfold getDs at g
    cases e : getD en o with
    | none =>
      rw [e] at g
      cases g
    | some d =>
      rw [e] at g
      cases e2 : getDs en os with
      | none =>
        rw [e2] at g
        cases g
      | some ds' =>
        rw [e2] at g
        cases g
        exact .cons (h.now a e) (SR.nows h r e2)
theorem Now.lst {v : V} {xs : List D} (x : Sub F H) (h : Now K F H v (.lst xs)) : ∃ a vs, v = .ref a ∧ H a = some (.lst vs) ∧ Reps K F vs xs := by
  rcases h with h | ⟨a, rfl, _, c⟩
  · cases h with
    | lst q r => exact ⟨_, _, rfl, x _ _ q, r⟩
  · obtain ⟨vs, q, r⟩ := c
    exact ⟨a, vs, rfl, q, r⟩
theorem Now.rep {v : V} {d : D} (h : Now K F H v d) (nc : ∀ a, ¬ Cell K F H a d) : Rep K F v d := by
  rcases h with h | ⟨a, _, _, c⟩
  · exact h
  · exact (nc a c).elim
theorem Now.int {v : V} {i : Int} (h : Now K F H v (.int i)) : v = .int i := by
  cases h.rep fun _ c => c
  rfl
theorem Now.bl {v : V} {b : Bool} (h : Now K F H v (.bl b)) : v = .bl b := by
  cases h.rep fun _ c => c
  rfl
theorem Now.non {v : V} (h : Now K F H v .non) : v = .non := by
  cases h.rep fun _ c => c
  rfl
theorem Now.str {v : V} {x : Str} (h : Now K F H v (.str x)) : v = .str x := by
  cases h.rep fun _ c => c
  rfl
theorem Now.tup {v : V} {xs : List D} (x : Sub F H) (h : Now K F H v (.tup xs)) : ∃ a vs, v = .ref a ∧ SqT K H a vs ∧ Reps K F vs xs ∧ Rep K F v (.tup xs) := by
  have h' := h.rep fun _ c => c
  cases h' with
  | tup q r => exact ⟨_, _, rfl, SqT.of (x _ _ q), r, .tup q r⟩
theorem Now.tpb {v : V} {xs : List D} (x : Sub F H) (h : Now K F H v (.tpb xs)) : ∃ a vs, v = .ref a ∧ TpB H a vs ∧ Reps K F vs xs ∧ Rep K F v (.tpb xs) := by
  have h' := h.rep fun _ c => c
  cases h' with
  | tpb q r => exact ⟨_, _, rfl, x.tpb q, r, .tpb q r⟩
theorem Now.scr {v : V} {is : List Int} (x : Sub F H) (h : Now K F H v (.scr is)) : ∃ a, v = .ref a ∧ SqL K H a (is.map V.int) := by
  have h' := h.rep fun _ c => c
  cases h' with
  | scr q => exact ⟨_, rfl, x.sqL q⟩
theorem Now.ins {v : V} {C : Str} {fs : List (Str × D)} (x : Sub F H) (h : Now K F H v (.ins C fs)) : ∃ a dx gs, v = .ref a ∧ H a = some (.ins (He.ga K C) dx gs) ∧ RepF K F gs fs := by
  rcases h with h | ⟨a, rfl, _, c⟩
  · cases h with
    | ins q r => exact ⟨_, _, _, rfl, x _ _ q, r⟩
  · obtain ⟨dx, gs, q, r⟩ := c
    exact ⟨a, dx, gs, rfl, q, r⟩
theorem Now.dic {v : V} {kvs : List (List Key × D)} (x : Sub F H) (h : Now K F H v (.dic kvs)) : ∃ a gs, v = .ref a ∧ H a = some (.dT gs) ∧ RepD K F gs kvs := by
  rcases h with h | ⟨a, rfl, _, c⟩
  · cases h with
    | dic q r => exact ⟨_, _, rfl, x _ _ q, r⟩
  · obtain ⟨gs, q, r⟩ := c
    exact ⟨a, gs, rfl, q, r⟩
/-- an object that is of no slot is told to stay -/
theorem SR.hold {a : Addr} {d : D} (h : SR K Z F H en σ) (fa : F a = none) (c : Cell K F H a d) (za : Z.H a = none) (na : ∀ (j : Nat) (b : Bool) (e : D), en[j]? = some (.own b e) → σ[j]? ≠ some (some (.ref a))) (nt : ∀ p ∈ Z.T, p.2 ≠ a) :
    ∃ F', Sub F F' ∧ SR K Z F' H en σ ∧ Rep K F' (.ref a) d := by
  obtain ⟨o, ho⟩ := c.some
  have fs : Sub F (upd F a o) := .up fa
  refine ⟨upd F a o, fs, ?_, c.stay fs (by rw [upd_same, ho])⟩
  exact {
    ex := fun b u e => by
      by_cases q : b = a
      · subst q
        rw [upd_same] at e
        rw [ho]
        exact e
      · rw [upd_ne q] at e
        exact h.ex b u e
    len := h.len
    ln := h.ln
    rel := fun j s ov e1 e2 => by
      have r := h.rel j s ov e1 e2
      cases s with
      | un => trivial
      | val e => obtain ⟨v, h1, h2⟩ := r; exact ⟨v, h1, h2.mono fs⟩
      | own b e =>
        obtain ⟨a', h1, h2, h3⟩ := r
        have ne : a' ≠ a := fun z => by
          subst z
          rw [h1] at e2
          exact na j b e e1 e2
        refine ⟨a', h1, ?_, h3.to fs rfl⟩
        rw [upd_ne ne]
        exact h2
    dist := h.dist
    k1 := h.k1
    k2 := fun b e => by
      have q : b ≠ a := fun z => by rw [z] at e; exact e za
      rw [upd_ne q]
      exact h.k2 b e
    k3 := h.k3.tr fs
    k4 := h.k4
    k5 := h.k5
    k6 := h.k6
    t1 := fun p hp => by
      obtain ⟨e1, e2, e3⟩ := h.t1 p hp
      exact ⟨by rw [upd_ne (nt p hp)]; exact e1, e2.to fs rfl, e3⟩
    t2 := h.t2 }
end
abbrev EO (X : Cx) (W : WX) (m : Fx Opd) (e : Expr) : Prop := PE X e (cO X.K W m)
abbrev EV (X : Cx) (W : WX) (m : Fx D) (e : Expr) : Prop := PE X e (cV X.K W m)
abbrev ER (X : Cx) (W : WX) (m : Fx Slot) (e : Expr) : Prop := PE X e (cR X.K W m)
abbrev ET (X : Cx) (W : WX) (m : Fx Bool) (e : Expr) : Prop := PT X e (cT X.K W m)
def mV (m : Fx Slot) : Fx D := m.bind fun s en => match s with
  | .val d => .ok d en
  | .own false d => .ok d en
  | _ => .bad
def mO (m : Fx D) : Fx Opd := m.bind fun d en => .ok (.dat d) en
def mS (m : Fx D) : Fx Slot := m.bind fun d en => .ok (.val d) en
section
variable {X : Cx} {W : WX} {e : Expr} {pos : Pos}
theorem ev_of {m : Fx Slot} (h : ER X W m e) : EV X W (mV m) e := by
  refine h.weak fun σ H Q ⟨Z, F, en, sr, q⟩ => ⟨Z, F, en, sr, (RP.split q).mono fun s e1 F1 H1 sr1 f1 p v rv => ?_⟩
  cases s with
  | un => exact rv.elim
  | val d => exact p F1 H1 sr1 .rfl v rv
  | own b d =>
    cases b with
    | true => exact rv.elim
    | false =>
      obtain ⟨a, rfl, fa, c, za, na, nt⟩ := rv
      obtain ⟨F2, f2, sr2, r2⟩ := sr1.hold fa c za na nt
      exact p F2 H1 sr2 f2 _ r2
theorem eo_of {m : Fx D} (h : EV X W m e) : EO X W (mO m) e := by
  refine h.weak fun σ H Q ⟨Z, F, en, sr, q⟩ => ⟨Z, F, en, sr, (RP.split q).mono fun d e1 F1 H1 sr1 f1 p v r => p F1 H1 sr1 .rfl v r⟩
theorem er_of {m : Fx D} (h : EV X W m e) : ER X W (mS m) e := by
  refine h.weak fun σ H Q ⟨Z, F, en, sr, q⟩ => ⟨Z, F, en, sr, (RP.split q).mono fun d e1 F1 H1 sr1 f1 p v r => p F1 H1 sr1 .rfl v r⟩
def mNameO (i : Nat) : Fx Opd := fun en => match en[i]? with
  | some (.val _) => .ok (.slot i) en
  | some (.own _ _) => .ok (.slot i) en
  | _ => .bad
/-- the value of a name that is kept elsewhere: an object of one's own stays from then on -/
def mNameV (i : Nat) : Fx D := fun en => match en[i]? with
  | some (.val d) => .ok d en
  | some (.own false d) => .ok d (en.set i (.val d))
  | _ => .bad
theorem eo_name {i : Nat} {x : Str} (h : PE X (.Name x pos) (tVar i)) : EO X W (mNameO i) (.Name x pos) := by
  refine h.weak fun σ H Q ⟨Z, F, en, sr, q⟩ => ?_
  unfold mNameO at q
  cases e : en[i]? with
  | none =>
    rw [e] at q
    exact q.elim
  | some s =>
    rw [e] at q
    cases s with
    | un => exact q.elim
    | val d =>
      obtain ⟨v, h1, _⟩ := sr.valAt e
      exact ⟨v, h1, q F H sr .rfl v h1⟩
    | own b d =>
      obtain ⟨a, h1, _⟩ := sr.ownAt e
      exact ⟨_, h1, q F H sr .rfl _ h1⟩
theorem ev_name {i : Nat} {x : Str} (h : PE X (.Name x pos) (tVar i)) : EV X W (mNameV i) (.Name x pos) := by
  refine h.weak fun σ H Q ⟨Z, F, en, sr, q⟩ => ?_
  unfold mNameV at q
  cases e : en[i]? with
  | none =>
    rw [e] at q
    exact q.elim
  | some s =>
    rw [e] at q
    cases s with
    | un => exact q.elim
    | val d =>
      obtain ⟨v, h1, h2⟩ := sr.valAt e
      exact ⟨v, h1, q F H sr .rfl v h2⟩
    | own b d =>
      cases b with
      | true => exact q.elim
      | false =>
        obtain ⟨a, h1, _⟩ := sr.ownAt e
        obtain ⟨F2, f2, sr2, r2⟩ := sr.stay e h1
        exact ⟨_, h1, q F2 H sr2 f2 _ r2⟩
def mC (d : D) : Fx D := Fx.ret d
theorem ev_c {v : V} {d : D} (h : PE X e (tC v)) (r : ∀ F, Rep X.K F v d) : EV X W (mC d) e := by
  refine h.weak fun σ H Q ⟨Z, F, en, sr, q⟩ => ?_
  exact q F H sr .rfl v (r F)
/-- what an operation gives -/
def Gives (K : Fg) (Z : Zr) (F H : Hp) (en : En) (σ : L2.St) (s : Slot) (Q : VK) : Prop := ∀ v F' H', SR K Z F' H' en σ → Sub F F' → RV K Z F' H' en σ s v → Q v H'
def Op2 (K : Fg) (r : R2) (op : D → D → Option Slot) : Prop := ∀ Z F H en σ x y dx dy s Q, SR K Z F H en σ → Now K F H x dx → Now K F H y dy → op dx dy = some s → Gives K Z F H en σ s Q → r x y H Q
def OpN (K : Fg) (r : List V → Hp → VK → Prop) (op : List D → Option Slot) : Prop := ∀ Z F H en σ xs ds s Q, SR K Z F H en σ → Nows K F H xs ds → op ds = some s → Gives K Z F H en σ s Q → r xs H Q
def fin2 (op : D → D → Option Slot) (x y : Opd) : Fx Slot := fun en => match getD en x with
  | some dx => match getD en y with
    | some dy => match op dx dy with
      | some s => .ok s en
      | none => .bad
    | none => .bad
  | none => .bad
def finN (op : List D → Option Slot) (xs : List Opd) : Fx Slot := fun en => match getDs en xs with
  | some ds => match op ds with
    | some s => .ok s en
    | none => .bad
  | none => .bad
def m2 (op : D → D → Option Slot) (ma mb : Fx Opd) : Fx Slot := ma.bind fun x => mb.bind fun y => fin2 op x y
theorem op2_run {K : Fg} {Z : Zr} {F H : Hp} {en : En} {σ : L2.St} {r : R2} {op : D → D → Option Slot} (ok : Op2 K r op) {x y : Opd} {v u : V} {Q : VK} (sr : SR K Z F H en σ) (hx : OV K F σ x v) (hy : OV K F σ y u)
    (q : RP K W Z F σ (fin2 op x y en) fun s en' F' H' => ∀ v, RV K Z F' H' en' σ s v → Q v H') : r v u H Q := by
  unfold fin2 at q
  cases e1 : getD en x with
  | none =>
    rw [e1] at q
    exact q.elim
  | some dx =>
    rw [e1] at q
    cases e2 : getD en y with
    | none =>
      rw [e2] at q
      exact q.elim
    | some dy =>
      rw [e2] at q
      dsimp only at q
      cases e3 : op dx dy with
      | none =>
        rw [e3] at q
        exact q.elim
      | some s =>
        rw [e3] at q
        exact ok Z F H en σ v u dx dy s Q sr (sr.now hx e1) (sr.now hy e2) e3 fun v F' H' sr' f' rv => q F' H' sr' f' v rv
theorem t2_of {r : R2} {op : D → D → Option Slot} {ma mb : Fx Opd} (ok : Op2 X.K r op) : ∀ σ H Q, cR X.K W (m2 op ma mb) σ H Q → tOp r (cO X.K W ma) (cO X.K W mb) σ H Q := fun σ H Q ⟨Z, F, en, sr, q⟩ => by
  refine ⟨Z, F, en, sr, (RP.split q).mono fun x e1 F1 H1 sr1 f1 p v ov => ?_⟩
  refine ⟨Z, F1, e1, sr1, (RP.split p).mono fun y e2 F2 H2 sr2 f2 p2 u ou => ?_⟩
  exact op2_run ok sr2 (ov.mono f2) ou p2
theorem er_bin {a b : Expr} {o : Operator} {r : R2} {op : D → D → Option Slot} {ma mb : Fx Opd} (ho : OpR X (binaryOp o) r) (ok : Op2 X.K r op) (ha : EO X W ma a) (hb : EO X W mb b) : ER X W (m2 op ma mb) (.BinOp a o b pos) :=
  (pe_op ho ha hb).weak (t2_of ok)
theorem er_cmp {a b : Expr} {o : CmpOp} {r : R2} {op : D → D → Option Slot} {ma mb : Fx Opd} (ho : OpR X (compareOp o) r) (ok : Op2 X.K r op) (hm : behindInMarks o b = false) (ha : EO X W ma a) (hb : EO X W mb b) : ER X W (m2 op ma mb) (.Compare a [o] [b] pos) :=
  (pe_cmpR ho ha hb hm).weak (t2_of ok)
theorem er_ix {a b : Expr} {r : R2} {op : D → D → Option Slot} {ma mb : Fx Opd} (hr : IxR X r) (ok : Op2 X.K r op) (hs : PlainIx b) (ha : EO X W ma a) (hb : EO X W mb b) : ER X W (m2 op ma mb) (.Subscript a b pos) :=
  (pe_ix hr ha hb hs).weak (t2_of ok)
end
def cOs (K : Fg) (W : WX) (m : Fx (List Opd)) : TA := fun σ H Q => ∃ Z F en, SR K Z F H en σ ∧ RP K W Z F σ (m en) fun r en' F' H' => ∀ vs, OVs K F' σ r vs → Q vs H'
def cVs (K : Fg) (W : WX) (m : Fx (List D)) : TA := fun σ H Q => ∃ Z F en, SR K Z F H en σ ∧ RP K W Z F σ (m en) fun ds en' F' H' => ∀ vs, Reps K F' vs ds → Q vs H'
def mOs : List (Fx Opd) → Fx (List Opd)
  | [] => Fx.ret []
  | m :: r => m.bind fun x => (mOs r).bind fun xs => Fx.ret (x :: xs)
def mVs : List (Fx D) → Fx (List D)
  | [] => Fx.ret []
  | m :: r => m.bind fun x => (mVs r).bind fun xs => Fx.ret (x :: xs)
def notStar : Expr → Bool
  | .Starred _ _ => false
  | _ => true
theorem star_cons {e : Expr} {es : List Expr} {env : PySem.Env} (h : notStar e = true) : starEach (e :: es) env = (false, eval e env) :: starEach es env := by
  cases e <;> first | rfl | cases h
theorem star_none {env : PySem.Env} {pos : Pos} : ∀ {es : List Expr}, es.all notStar = true → (backTo pos (starEach es env)).any (·.1) = false
  | [], _ => rfl
  | e :: es, h => by
    rw [List.all_cons, Bool.and_eq_true] at h
    rw [star_cons h.1]
    show (false || (backTo pos (starEach es env)).any (·.1)) = false
    rw [star_none h.2]
    rfl
section
variable {X : Cx} {W : WX} {e : Expr} {es : List Expr} {pos : Pos}
theorem OVs.mono {K : Fg} {F F' : Hp} {σ : L2.St} (f : Sub F F') : ∀ {os : List Opd} {vs : List V}, OVs K F σ os vs → OVs K F' σ os vs
  | _, _, .nil => .nil
  | _, _, .cons a r => .cons (a.mono f) (OVs.mono f r)
theorem as_nil : PA X [] (cOs X.K W (mOs [])) := pa_nil.weak fun σ H Q ⟨Z, F, en, sr, q⟩ => q F H sr .rfl [] .nil
theorem as_cons {m : Fx Opd} {ms : List (Fx Opd)} (he : EO X W m e) (hr : PA X es (cOs X.K W (mOs ms))) (ns : notStar e = true) : PA X (e :: es) (cOs X.K W (mOs (m :: ms))) := by
  refine (pa_cons he hr (star_cons ns)).weak fun σ H Q ⟨Z, F, en, sr, q⟩ => ?_
  refine ⟨Z, F, en, sr, (RP.split q).mono fun x e1 F1 H1 sr1 f1 p v ov => ?_⟩
  refine ⟨Z, F1, e1, sr1, (RP.split p).mono fun xs e2 F2 H2 sr2 f2 p2 vs ovs => ?_⟩
  exact p2 F2 H2 sr2 .rfl (v :: vs) (.cons (ov.mono f2) ovs)
theorem vs_nil : PA X [] (cVs X.K W (mVs [])) := pa_nil.weak fun σ H Q ⟨Z, F, en, sr, q⟩ => q F H sr .rfl [] .nil
theorem vs_cons {m : Fx D} {ms : List (Fx D)} (he : EV X W m e) (hr : PA X es (cVs X.K W (mVs ms))) (ns : notStar e = true) : PA X (e :: es) (cVs X.K W (mVs (m :: ms))) := by
  refine (pa_cons he hr (star_cons ns)).weak fun σ H Q ⟨Z, F, en, sr, q⟩ => ?_
  refine ⟨Z, F, en, sr, (RP.split q).mono fun x e1 F1 H1 sr1 f1 p v ov => ?_⟩
  refine ⟨Z, F1, e1, sr1, (RP.split p).mono fun xs e2 F2 H2 sr2 f2 p2 vs ovs => ?_⟩
  exact p2 F2 H2 sr2 .rfl (v :: vs) (.cons (ov.mono f2) ovs)
/-- a call of a built-in by values -/
def mN (op : List D → Option Slot) (ms : List (Fx Opd)) : Fx Slot := (mOs ms).bind fun xs => finN op xs
theorem opN_run {K : Fg} {Z : Zr} {F H : Hp} {en : En} {σ : L2.St} {r : List V → Hp → VK → Prop} {op : List D → Option Slot} (ok : OpN K r op) {xs : List Opd} {vs : List V} {Q : VK} (sr : SR K Z F H en σ) (hx : OVs K F σ xs vs)
    (q : RP K W Z F σ (finN op xs en) fun s en' F' H' => ∀ v, RV K Z F' H' en' σ s v → Q v H') : r vs H Q := by
  unfold finN at q
  cases e1 : getDs en xs with
  | none =>
    rw [e1] at q
    exact q.elim
  | some ds =>
    rw [e1] at q
    dsimp only at q
    cases e3 : op ds with
    | none =>
      rw [e3] at q
      exact q.elim
    | some s =>
      rw [e3] at q
      exact ok Z F H en σ vs ds s Q sr (sr.nows hx e1) e3 fun v F' H' sr' f' rv => q F' H' sr' f' v rv
theorem tN_of {r : List V → Hp → VK → Prop} {op : List D → Option Slot} {ms : List (Fx Opd)} (ok : OpN X.K r op) : ∀ σ H Q, cR X.K W (mN op ms) σ H Q → tCB r (cOs X.K W (mOs ms)) σ H Q := fun σ H Q ⟨Z, F, en, sr, q⟩ =>
  ⟨Z, F, en, sr, (RP.split q).mono fun x e1 F1 H1 sr1 f1 p v ov => opN_run ok sr1 ov p⟩
theorem er_callB {x : Str} {p : Pos} {id : String} {r : List V → Hp → VK → Prop} {op : List D → Option Slot} {ms : List (Fx Opd)} (hc : CallR X (.builtin id) r) (ok : OpN X.K r op) (hg : Gl X x) (hm : X.mg x = none) (hv : bootBuiltins x = some (.builtin id))
    (hn : x ≠ "__name__") (hdb : (x == ("__debug__" : Str)) = false) (ha : PA X (e :: es) (cOs X.K W (mOs ms))) (ns : (e :: es).all notStar = true) : ER X W (mN op ms) (.Call (.Name x p) (e :: es) [] pos) := by
  have ns' := ns
  rw [List.all_cons, Bool.and_eq_true] at ns'
  exact (pe_callB hc hg hm hv ha hn hdb (star_cons ns'.1) (star_none ns'.2)).weak (tN_of ok)
theorem er_callTy {x : Str} {p : Pos} {T : String} {r : List V → Hp → VK → Prop} {op : List D → Option Slot} {ms : List (Fx Opd)} (hc : CallR X (.type T) r) (ok : OpN X.K r op) (hg : Gl X x) (hm : X.mg x = none) (hv : bootBuiltins x = some (.type T))
    (hn : x ≠ "__name__") (hdb : (x == ("__debug__" : Str)) = false) (ha : PA X (e :: es) (cOs X.K W (mOs ms))) (ns : (e :: es).all notStar = true) : ER X W (mN op ms) (.Call (.Name x p) (e :: es) [] pos) := by
  have ns' := ns
  rw [List.all_cons, Bool.and_eq_true] at ns'
  exact (pe_callTy hc hg hm hv ha hn hdb (star_cons ns'.1) (star_none ns'.2)).weak (tN_of ok)
/-- displays -/
def mTup (ms : List (Fx D)) : Fx D := (mVs ms).bind fun ds en => if ds.length ≤ 1000 then .ok (.tup ds) en else .bad
def mLst (ms : List (Fx D)) : Fx Slot := (mVs ms).bind fun ds en => if ds.length ≤ 1000 then .ok (.own false (.lst ds)) en else .bad
theorem ev_tup {ms : List (Fx D)} {k : Nat} (ha : PA X es (cVs X.K W (mVs ms))) : EV X W (mTup ms) (.Tuple es k pos) := by
  refine (pe_tup ha).weak fun σ H Q ⟨Z, F, en, sr, q⟩ => ⟨Z, F, en, sr, (RP.split q).mono fun ds e1 F1 H1 sr1 f1 p vs r => ?_⟩
  by_cases c : ds.length ≤ 1000
  · rw [if_pos c] at p
    refine ⟨by rw [r.length]; exact Nat.le_trans c (by decide), fun a ha => ?_⟩
    have fa := sr1.ex.none ha
    exact p _ _ (sr1.laid ha) (.up fa) _ (.tup upd_same (r.mono (.up fa)))
  · rw [if_neg c] at p
    exact p.elim
theorem RV.new {K : Fg} {Z : Zr} {F H : Hp} {en : En} {σ : L2.St} {a : Addr} {o : HO} {d : D} (sr : SR K Z F H en σ) (ha : H a = none) (c : Cell K F (upd H a o) a d) : RV K Z F (upd H a o) en σ (.own false d) (.ref a) := by
  refine ⟨a, rfl, sr.ex.none ha, c, sr.new ha, fun j b e e1 e2 => ?_, fun p hp z => ?_⟩
  · obtain ⟨a', h1, _, h3⟩ := sr.ownAt e1
    rw [e2] at h1
    cases h1
    obtain ⟨o, ho⟩ := h3.some
    rw [ha] at ho
    cases ho
  · obtain ⟨_, h3, _⟩ := sr.t1 p hp
    obtain ⟨o, ho⟩ := h3.some
    rw [z, ha] at ho
    cases ho
theorem er_lst {ms : List (Fx D)} (ha : PA X es (cVs X.K W (mVs ms))) : ER X W (mLst ms) (.List es pos) := by
  refine (pe_lst ha).weak fun σ H Q ⟨Z, F, en, sr, q⟩ => ⟨Z, F, en, sr, (RP.split q).mono fun ds e1 F1 H1 sr1 f1 p vs r => ?_⟩
  by_cases c : ds.length ≤ 1000
  · rw [if_pos c] at p
    refine ⟨by rw [r.length]; exact Nat.le_trans c (by decide), fun a ha => ?_⟩
    exact p _ _ (sr1.fresh ha) .rfl _ (RV.new sr1 ha ⟨vs, upd_same, r⟩)
  · rw [if_neg c] at p
    exact p.elim
end
end Mn
set_option Elab.async false
set_option linter.all false
set_option maxRecDepth 100000
set_option maxHeartbeats 1000000
namespace Mn
open PySem PySem.Spec L2
/-- what a def does: its arguments as slots; its answer; its arguments as they stand behind it -/
abbrev Sem := En → Res Slot
/-- room, and no text of a list is being made -/
structure RoomG (k : Nat) (A : Around) : Prop where
  r : Room k A
  g : A.guards = some []
theorem RoomG.mono {j k : Nat} {A : Around} (h : RoomG k A) (l : j ≤ k) : RoomG j A := ⟨h.r.mono l, h.g⟩
theorem RoomG.deeper {k : Nat} {A : Around} (h : RoomG (k + 1) A) (env : PySem.Env) : RoomG k (A.deeper env) := ⟨h.r.deeper env, h.g⟩
/-- an answer -/
def AV (K : Fg) (Z : Zr) (F H : Hp) : Slot → V → Prop
  | .val d, v => Rep K F v d
  | .own false d, v => ∃ a, v = .ref a ∧ F a = none ∧ Cell K F H a d ∧ Z.H a = none
  | _, _ => False
def spOf (K : Fg) (m : Sem) : Sp := fun vs H Q E => ∃ (Z : Zr) (F : Hp) (args : En), Z.H = H ∧ Z.F = F ∧ SR K Z F H args (vs.map some) ∧ match m args with
  | .ok r args' => ∀ v F' H', SR K Z F' H' args' (vs.map some) → AV K Z F' H' r v → Q v H'
  | .exn C fs args' => ∀ d gs F' H', SR K Z F' H' args' (vs.map some) → H' d = some (.xd gs) → RepF K F' gs fs → E (.ref (He.ga K C)) (some d) H'
  | .bad => False
structure FnG (P : Program) (w : World) (K : Fg) (mg : Str → Option Value) (base : Heap) (k : Nat) (f : Addr) (fd : FuncData) (ps : List Str) (m : Sem) : Prop where
  run : ∀ (A : Around) (outer : List PySem.Env) (s : Shared) (H : Hp) (args : Args) (us : List Value) (vs : List V) (Q : VK) (E : XK), RoomG k A → Env0 P w K mg base A outer s H → BindsTo s fd args (ps.zip us) → Vals vs us → vs.length = ps.length → spOf K m vs H Q E →
    codeAny (model P w) A (.call (.ref f) args) (CR (L2.CX P w) outer P w H s Q E) s
theorem FnG.mono {P : Program} {w : World} {K : Fg} {mg : Str → Option Value} {base : Heap} {j k : Nat} {f : Addr} {fd : FuncData} {ps : List Str} {m : Sem} (h : FnG P w K mg base j f fd ps m) (l : j ≤ k) : FnG P w K mg base k f fd ps m :=
  ⟨fun A outer s H args us vs Q E r => h.run A outer s H args us vs Q E (r.mono l)⟩
/-- a def by its body -/
theorem fng {P : Program} {w : World} {K : Fg} {mg : Str → Option Value} {base : Heap} {k : Nat} {f : Addr} {name qual : Str} {params : Arguments} {body : List Stmt} {scope : Scope} {dV kV doc pm cdv ct oc : Value} {an od : Option Addr} {osl : Array (Option Value)}
    {N ps : List Str} {m : Sem} (lk : K.lookup f = some ⟨oc, od, .func (PySem.W.fnOf name qual params body scope dV kV doc pm an cdv ct), osl⟩) (hcd : PySem.W.codeIn K cdv qual = true) (S : FnScope N ps scope)
    (hb : ∀ (A : Around) (outer : List PySem.Env) (s : Shared) (H : Hp) (vs : List V) (Q : VK) (E : XK), RoomG k (A.deeper (PyProof.Rows.envOfC qual scope s.heap.objs.size f cdv)) → vs.length = ps.length → spOf K m vs H Q E →
      ∃ t, PSs (cxOf (L2.CX P w) P w K mg base N qual scope f cdv A outer s H E) body t ∧ t { nx := fun _ H' => Q .non H', rt := Q } (start N vs) H) :
    FnG P w K mg base (k + 1) f (PySem.W.fnOf name qual params body scope dV kV doc pm an cdv ct) ps m := by
  constructor
  intro A outer s H args us vs Q E hr e0 hbd r hl hsp
  have inK : K.In s.heap := e0.mod.kin.keeps fun b o e => (e0.bs b o e).1
  have noLim : s.heap.NoLimit := e0.mod.nolimit.keeps fun b o e => (e0.bs b o e).1
  have kinds : ∀ y ∈ ps.zip us, scope.names.lookup y.1 = some .local ∨ (scope.names.lookup y.1 = some .cell ∧ ((cellsFrom (s.heap.objs.size + 1) scope.names []).lookup y.1).isSome = true) := by
    rintro ⟨n, v⟩ hy
    rcases S.par n (List.of_mem_zip hy).1 with q | q
    · exact Or.inl q
    · exact Or.inr ⟨q, PySem.W.cellsFrom_some _ _ _ (Or.inl q)⟩
  refine codeAny_call_function hr.r.depth (inK _ _ lk) rfl S.co S.gen rfl (PySem.W.codeRec_of inK hcd) (hbd _ _ _ _ ?_)
  refine wpAny_newFunctionEnv_cells S.kind kinds fun env he s1 x => ?_
  subst he
  refine ⟨noLim.keeps x.toInCall.keep, codeAny_func ?_⟩
  obtain ⟨t, ht, hq⟩ := hb A outer s H vs Q E (hr.deeper _) hl hsp
  have I := inv_start (CX := L2.CX P w) (E := E) S hr.r.hd e0 hl r x
  refine wpAny_mono (ht.run [] s1 (start N vs) H _ I hq) (fun fl s' hs => ?_) fun e s' hs => hs
  cases fl with
  | ret u =>
    obtain ⟨v, σ', H', J, rv, q⟩ := hs
    exact ⟨v, H', J.os, J.bare, J.base, J.hok, rv, q⟩
  | next =>
    obtain ⟨σ', H', J, q⟩ := hs
    exact ⟨V.non, H', J.os, J.bare, J.base, J.hok, rfl, q⟩
  | brk =>
    obtain ⟨_, _, _, q⟩ := hs
    exact q.elim
  | cont =>
    obtain ⟨_, _, _, q⟩ := hs
    exact q.elim
section
variable {X : Cx} {W : WX} {k : Nat} {f : Addr} {fd : FuncData} {ps : List Str} {m : Sem}
theorem run_g {pins : List (Addr × Obj)} {σ : L2.St} {H : Hp} {s : Shared} {Q : VK} {us : List Value} {vs : List V} {args : Args} (G : FnG X.prog X.w X.K X.mg X.base k f fd ps m) (hr : RoomG k X.A) (tk : Takes X W)
    (hb : BindsTo s fd args (ps.zip us)) (I : Inv X pins σ H s) (r : Vals vs us) (hl : vs.length = ps.length) (h : spOf X.K m vs H Q fun cls d H' => W cls d σ H') :
    codeAny (model X.prog X.w) X.A (.call (.ref f) args) (fun r s' => match r with | .ok (.ret u) => EP X pins σ Q u s' | .ok _ => False | .error e => X.xe e s') s := by
  refine codeAny_mono (G.run X.A X.stack s H args us vs Q (fun cls d H' => W cls d σ H') hr I.env0 hb r hl h) fun r s' hq => ?_
  cases r with
  | error e => exact passAt tk σ pins H s e s' I hq
  | ok fl =>
    cases fl with
    | ret u => exact I.after hq
    | next => exact hq.elim
    | brk => exact hq.elim
    | cont => exact hq.elim
def tCallG (K : Fg) (W : WX) (m : Sem) (t : TA) : TE := fun σ H Q => t σ H fun vs H1 => spOf K m vs H1 Q fun cls d H' => W cls d σ H'
theorem pe_callG {x : Str} {p pos : Pos} {e : Expr} {es : List Expr} {t : TA} (G : FnG X.prog X.w X.K X.mg X.base k f fd ps m) (hr : RoomG k X.A) (hg : Gl X x) (hm : X.mg x = some (.ref f)) (hk : PySem.W.keepIn X.K (.ref f) = true) (hb : Binds X.K fd ps []) (tk : Takes X W)
    (ha : PA X (e :: es) t) (hn : (e :: es).length = ps.length) (hl : ∀ σ H Q, t σ H Q → t σ H fun vs H1 => vs.length = (e :: es).length ∧ Q vs H1) (hdb : (x == ("__debug__" : Str)) = false) (ns : (e :: es).all notStar = true) : PE X (.Call (.Name x p) (e :: es) [] pos) (tCallG X.K W m t) := by
  have ns' := ns
  rw [List.all_cons, Bool.and_eq_true] at ns'
  refine ⟨fun pins s σ H Q I h => ?_⟩
  refine wpAny_Call_Name_kw (ld_glob I hg hm ?_ hdb)
  refine PySem.W.callWith_K (h₀ := X.base) I.ok.mod.kin hk (thn (ha.run pos pins s σ H _ I (hl σ H _ h)) fun us s1 ⟨vs, H1, I1, r, l, q⟩ => ⟨I1.kIn, ?_⟩) (star_cons ns'.1) (star_none ns'.2)
  have l2 : us.length = ps.length := by rw [← r.length, l, hn]
  have b := hb s1 us I1.kIn (by rw [List.append_nil]; exact l2)
  rw [List.append_nil] at b
  exact wpAny_call (codeAny_mono (run_g G hr tk b I1 r (by rw [l, hn]) q) fun r s' hq => by
    rcases r with e | (v | _ | _ | _) <;> exact hq)
end
section
variable {K : Fg} {Z : Zr} {F H : Hp} {en : En} {σ : L2.St}
theorem Reps.slot {F' : Hp} {vs : List V} {ds : List D} (r : Reps K F' vs ds) : ∀ (i : Nat) (s : Slot) (ov : Option V), (ds.map Slot.val)[i]? = some s → (vs.map some)[i]? = some ov → SlotR K F' H s ov := fun i s ov e1 e2 => by
  rw [List.getElem?_map] at e1 e2
  cases q : ds[i]? with
  | none =>
    rw [q] at e1
    cases e1
  | some d =>
    rw [q] at e1
    cases e1
    obtain ⟨v, h1, h2⟩ := r.at q
    rw [h1] at e2
    cases e2
    exact ⟨v, rfl, h2⟩
theorem val_of_map {ds : List D} {i : Nat} {b : Bool} {d : D} (h : (ds.map Slot.val)[i]? = some (.own b d)) : False := by
  rw [List.getElem?_map] at h
  cases q : ds[i]? with
  | none =>
    rw [q] at h
    cases h
  | some d =>
    rw [q] at h
    cases h
/-- plain values as arguments -/
theorem Reps.args {vs : List V} {ds : List D} (x : Sub F H) (r : Reps K F vs ds) : SR K ⟨H, F, [], [], vs.length⟩ F H (ds.map .val) (vs.map some) where
  ex := x
  len := by rw [List.length_map, List.length_map, r.length]
  ln := List.length_map ..
  rel := r.slot
  dist := fun i j a b c d e h _ _ _ => (val_of_map h).elim
  k1 := fun _ _ e _ => e
  k2 := fun _ _ => rfl
  k3 := .rfl
  k4 := fun i d a h _ => (val_of_map h).elim
  k5 := fun p hp => by cases hp
  k6 := fun i d a h _ => (val_of_map h).elim
  t1 := fun p hp => by cases hp
  t2 := fun p hp => by cases hp
theorem SR.back {F' H' : Hp} {args : En} {τ : L2.St} {n : Nat} (h : SR K Z F H en σ) (c : SR K ⟨H, F, [], [], n⟩ F' H' args τ) : SR K Z F' H' en σ :=
  h.grow c.k3 c.ex (fun a o e => c.k1 a o e (by simp)) c.k2
theorem AV.rv {F' H' : Hp} {r : Slot} {v : V} {Z' : Zr} (h : SR K Z F' H' en σ) (e0 : ∀ a, Z'.H a = none → Z.H a = none) (ow : ∀ (j : Nat) (b : Bool) (e : D) (a : Addr), en[j]? = some (.own b e) → σ[j]? = some (some (.ref a)) → Z'.H a ≠ none) (ot : ∀ p ∈ Z.T, Z'.H p.2 ≠ none) (q : AV K Z' F' H' r v) : RV K Z F' H' en σ r v := by
  cases r with
  | un => exact q
  | val d => exact q
  | own b d =>
    cases b with
    | true => exact q
    | false =>
      obtain ⟨a, rfl, fa, c, za⟩ := q
      exact ⟨a, rfl, fa, c, e0 a za, fun j b e h1 h2 => ow j b e a h1 h2 za, fun p hp z => ot p hp (by rw [z]; exact za)⟩
end
theorem SR.ownNe {K : Fg} {Z : Zr} {F H : Hp} {en : En} {σ : L2.St} (h : SR K Z F H en σ) {j : Nat} {b : Bool} {e : D} {a : Addr} (h1 : en[j]? = some (.own b e)) (h2 : σ[j]? = some (some (.ref a))) : H a ≠ none := by
  obtain ⟨a', g1, _, g3⟩ := h.ownAt h1
  rw [h2] at g1
  cases g1
  obtain ⟨o, ho⟩ := g3.some
  rw [ho]
  exact Option.some_ne_none o
theorem SR.tmpNe {K : Fg} {Z : Zr} {F H : Hp} {en : En} {σ : L2.St} (h : SR K Z F H en σ) {p : D × Addr} (hp : p ∈ Z.T) : H p.2 ≠ none := by
  obtain ⟨_, g3, _⟩ := h.t1 p hp
  obtain ⟨o, ho⟩ := g3.some
  rw [ho]
  exact Option.some_ne_none o
def mCall (m : Sem) (ms : List (Fx D)) : Fx Slot := (mVs ms).bind fun ds en => match m (ds.map .val) with
  | .ok r _ => .ok r en
  | .exn C fs _ => .exn C fs en
  | .bad => .bad
theorem vs_len {K : Fg} {W : WX} : ∀ {ms : List (Fx D)} {σ : L2.St} {H : Hp} {Q : List V → Hp → Prop}, cVs K W (mVs ms) σ H Q → cVs K W (mVs ms) σ H fun vs H1 => vs.length = ms.length ∧ Q vs H1 := by
  have key : ∀ (ms : List (Fx D)) (en : En) (ds : List D) (e1 : En), mVs ms en = .ok ds e1 → ds.length = ms.length := by
    intro ms
    induction ms with
    | nil =>
      intro en ds e1 h
      cases h
      rfl
    | cons m r ih =>
      intro en ds e1 h
      unfold mVs Fx.bind at h
      cases q : m en with
      | ok a e2 =>
        rw [q] at h
        dsimp only at h
        cases q2 : mVs r e2 with
        | ok as e3 =>
          rw [q2] at h
          cases h
          show as.length + 1 = r.length + 1
          rw [ih e2 as _ q2]
        | exn C fs e3 =>
          rw [q2] at h
          cases h
        | bad =>
          rw [q2] at h
          cases h
      | exn C fs e2 =>
        rw [q] at h
        cases h
      | bad =>
        rw [q] at h
        cases h
  intro ms σ H Q ⟨Z, F, en, sr, q⟩
  refine ⟨Z, F, en, sr, ?_⟩
  cases e : mVs ms en with
  | ok ds e1 =>
    rw [e] at q
    exact fun F' H' s f vs r => ⟨by rw [r.length, key ms en ds e1 e], q F' H' s f vs r⟩
  | exn C fs e1 =>
    rw [e] at q
    exact q
  | bad =>
    rw [e] at q
    exact q
section
variable {X : Cx} {W : WX} {k : Nat} {f : Addr} {fd : FuncData} {ps : List Str} {m : Sem}
theorem er_call {x : Str} {p pos : Pos} {e : Expr} {es : List Expr} {ms : List (Fx D)} (G : FnG X.prog X.w X.K X.mg X.base k f fd ps m) (hr : RoomG k X.A) (hg : Gl X x) (hm : X.mg x = some (.ref f)) (hk : PySem.W.keepIn X.K (.ref f) = true) (hb : Binds X.K fd ps []) (tk : Takes X W)
    (ha : PA X (e :: es) (cVs X.K W (mVs ms))) (hn : (e :: es).length = ps.length) (hms : ms.length = (e :: es).length) (hdb : (x == ("__debug__" : Str)) = false) (ns : (e :: es).all notStar = true) : ER X W (mCall m ms) (.Call (.Name x p) (e :: es) [] pos) := by
  refine (pe_callG G hr hg hm hk hb tk ha hn (fun σ H Q h => by rw [← hms]; exact vs_len h) hdb ns).weak fun σ H Q ⟨Z, F, en, sr, q⟩ => ?_
  refine ⟨Z, F, en, sr, (RP.split q).mono fun ds e1 F1 H1 sr1 f1 p vs r => ?_⟩
  refine ⟨⟨H1, F1, [], [], vs.length⟩, F1, ds.map .val, rfl, rfl, r.args sr1.ex, ?_⟩
  cases c : m (ds.map .val) with
  | ok a args' =>
    rw [c] at p
    intro v F' H' s2 av
    have sr2 := sr1.back s2
    refine p F' H' sr2 s2.k3 v (av.rv sr2 (fun a h => sr1.new h) (fun j b e a h1 h2 => sr1.ownNe h1 h2) fun p hp => sr1.tmpNe hp)
  | exn C fs args' =>
    rw [c] at p
    intro d gs F' H' s2 hd rf
    exact p d gs F' H' (sr1.back s2) s2.k3 hd rf
  | bad =>
    rw [c] at p
    exact p.elim
end
end Mn
set_option Elab.async false
set_option linter.all false
set_option maxRecDepth 100000
set_option maxHeartbeats 1000000
namespace Mn
open PySem PySem.Spec L2
def truth : D → Option Bool
  | .non => some false
  | .bl b => some b
  | .int i => some (i != 0)
  | .str x => if x.length ≤ sizeLine then some ((x.length : Int) != 0) else none
  | .lst xs => some (!xs.isEmpty)
  | .tup xs => some (!xs.isEmpty)
  | .tpb xs => some (!xs.isEmpty)
  | _ => none
def mT (mo : Fx Opd) : Fx Bool := mo.bind fun o en => match getD en o with
  | some d => match truth d with
    | some b => .ok b en
    | none => .bad
  | none => .bad
/-- of a value that is a bool -/
def mB (m : Fx Slot) : Fx Bool := m.bind fun s en => match s with
  | .val (.bl b) => .ok b en
  | _ => .bad
def plainTest : Expr → Bool
  | .UnaryOp .. => false
  | .BoolOp .. => false
  | .IfExp .. => false
  | .Compare .. => false
  | _ => true
theorem plain_test {e : Expr} {env : PySem.Env} (h : plainTest e = true) : ∀ whole, isTrue e env whole = (do let v ← whole; standAt e.pos; holding [v] (truthy v)) := by
  intro whole
  cases e with
  | UnaryOp op a p => cases h
  | BoolOp op vs p => cases h
  | IfExp a b c p => cases h
  | Compare a b c p => cases h
  | _ => rfl
section
variable {K : Fg} {Z : Zr} {F H : Hp} {en : En} {σ : L2.St}
theorem Reps.empty {vs : List V} {xs : List D} (r : Reps K F vs xs) : xs.isEmpty = vs.isEmpty := by
  cases r <;> rfl
theorem tru_of {v : V} {d : D} {b : Bool} (x : Sub F H) (n : Now K F H v d) (t : truth d = some b) : TruV K v H b := by
  cases d with
  | non => cases n.non; cases t; rfl
  | bl c => cases n.bl; cases t; rfl
  | int i => cases n.int; cases t; rfl
  | str y =>
    cases n.str
    unfold truth at t
    dsimp only at t
    by_cases c : y.length ≤ sizeLine
    · rw [if_pos c] at t
      cases t
      exact ⟨c, rfl⟩
    · rw [if_neg c] at t
      cases t
  | lst xs =>
    obtain ⟨a, vs, rfl, q, r⟩ := n.lst x
    cases t
    exact .inl ⟨vs, SqL.of q, by rw [r.empty]⟩
  | tup xs =>
    obtain ⟨a, vs, rfl, q, r, _⟩ := n.tup x
    cases t
    exact .inr (.inl ⟨vs, q, by rw [r.empty]⟩)
  | tpb xs =>
    obtain ⟨a, vs, rfl, q, r, _⟩ := n.tpb x
    cases t
    exact .inr (.inl ⟨vs, q.sq, by rw [r.empty]⟩)
  | _ => cases t
end
section
variable {X : Cx} {W : WX} {e a b c : Expr} {pos : Pos}
theorem et_of {mo : Fx Opd} (h : EO X W mo e) (hp : plainTest e = true) : ET X W (mT mo) e := by
  refine (pt_truth h (plain_test hp)).weak fun σ H Q ⟨Z, F, en, sr, q⟩ => ⟨Z, F, en, sr, (RP.split q).mono fun o e1 F1 H1 sr1 f1 p v ov => ?_⟩
  cases g : getD e1 o with
  | none =>
    rw [g] at p
    exact p.elim
  | some d =>
    rw [g] at p
    dsimp only at p
    cases t : truth d with
    | none =>
      rw [t] at p
      exact p.elim
    | some k =>
      rw [t] at p
      exact ⟨k, tru_of sr1.ex (sr1.now ov g) t, p F1 H1 sr1 .rfl⟩
theorem cb_of {m : Fx Slot} : ∀ σ H Q, cT X.K W (mB m) σ H Q → tTest (cR X.K W m) σ H Q := fun σ H Q ⟨Z, F, en, sr, q⟩ => by
  refine ⟨Z, F, en, sr, (RP.split q).mono fun s e1 F1 H1 sr1 f1 p v rv => ?_⟩
  cases s with
  | un => exact p.elim
  | own b d => exact p.elim
  | val d =>
    cases d with
    | bl k =>
      have rv' : Rep X.K F1 v (.bl k) := rv
      cases rv'
      exact ⟨k, rfl, p F1 H1 sr1 .rfl⟩
    | _ => exact p.elim
theorem et_cmp {o : CmpOp} {r : R2} {op : D → D → Option Slot} {ma mb : Fx Opd} (ho : OpR X (compareOp o) r) (ok : Op2 X.K r op) (hm : behindInMarks o b = false) (ha : EO X W ma a) (hb : EO X W mb b) : ET X W (mB (m2 op ma mb)) (.Compare a [o] [b] pos) :=
  (pt_cmpR ho ha hb hm).weak fun σ H Q h => by
    have h2 := cb_of σ H Q h
    exact t2_of ok σ H _ h2
def mNot (m : Fx Bool) : Fx Bool := m.bind fun b en => .ok (!b) en
theorem et_not {m : Fx Bool} (h : ET X W m e) : ET X W (mNot m) (.UnaryOp .Not e pos) := by
  refine (pt_not h).weak fun σ H Q ⟨Z, F, en, sr, q⟩ => ⟨Z, F, en, sr, (RP.split q).mono fun k e1 F1 H1 sr1 f1 p => p F1 H1 sr1 .rfl⟩
abbrev EW (X : Cx) (W : WX) (m : Fx Bool) (e : Expr) : Prop := PW X e (cT X.K W m)
def mAnd (m n : Fx Bool) : Fx Bool := m.bind fun b en => if b = true then n en else .ok false en
def mOr (m n : Fx Bool) : Fx Bool := m.bind fun b en => if b = true then .ok true en else n en
theorem ew_and1 {m : Fx Bool} (h : ET X W m e) : EW X W m (.BoolOp .And [e] pos) := pw_and1 h
theorem ew_or1 {m : Fx Bool} (h : ET X W m e) : EW X W m (.BoolOp .Or [e] pos) := pw_or1 h
theorem ew_and {m n : Fx Bool} {r : List Expr} (h : ET X W m e) (k : EW X W n (.BoolOp .And (a :: r) pos)) : EW X W (mAnd m n) (.BoolOp .And (e :: a :: r) pos) := by
  refine (pw_and h k).weak fun σ H Q ⟨Z, F, en, sr, q⟩ => ⟨Z, F, en, sr, (RP.split q).mono fun b e1 F1 H1 sr1 f1 p => ?_⟩
  cases b with
  | true => exact ⟨Z, F1, e1, sr1, p⟩
  | false => exact p F1 H1 sr1 .rfl
theorem ew_or {m n : Fx Bool} {r : List Expr} (h : ET X W m e) (k : EW X W n (.BoolOp .Or (a :: r) pos)) : EW X W (mOr m n) (.BoolOp .Or (e :: a :: r) pos) := by
  refine (pw_or h k).weak fun σ H Q ⟨Z, F, en, sr, q⟩ => ⟨Z, F, en, sr, (RP.split q).mono fun b e1 F1 H1 sr1 f1 p => ?_⟩
  cases b with
  | true => exact p F1 H1 sr1 .rfl
  | false => exact ⟨Z, F1, e1, sr1, p⟩
theorem et_bool {m : Fx Bool} (h : EW X W m e) : ET X W m e := h.pt
/-- a test's answer as a value -/
def mBV (m : Fx Bool) : Fx Slot := m.bind fun b en => .ok (.val (.bl b)) en
/-- and, or, not as values, of bools -/
def mAndV (m n : Fx Slot) : Fx Slot := m.bind fun s en => match s with
  | .val (.bl true) => n en
  | .val (.bl false) => .ok (.val (.bl false)) en
  | _ => .bad
def mOrV (m n : Fx Slot) : Fx Slot := m.bind fun s en => match s with
  | .val (.bl true) => .ok (.val (.bl true)) en
  | .val (.bl false) => n en
  | _ => .bad
def mNotV (m : Fx Slot) : Fx Slot := m.bind fun s en => match s with
  | .val (.bl b) => .ok (.val (.bl (!b))) en
  | _ => .bad
theorem er_one {o : BoolOp} {m : Fx Slot} (h : ER X W m e) : ER X W m (.BoolOp o [e] pos) := pe_one h
theorem er_and {m n : Fx Slot} {r : List Expr} (h : ER X W m e) (k : ER X W n (.BoolOp .And (a :: r) pos)) : ER X W (mAndV m n) (.BoolOp .And (e :: a :: r) pos) := by
  refine (pe_and h k).weak fun σ H Q ⟨Z, F, en, sr, q⟩ => ⟨Z, F, en, sr, (RP.split q).mono fun s e1 F1 H1 sr1 f1 p v rv => ?_⟩
  cases s with
  | un => exact p.elim
  | own b d => exact p.elim
  | val d =>
    cases d with
    | bl b =>
      have rv' : Rep X.K F1 v (.bl b) := rv
      cases rv'
      refine ⟨b, rfl, ?_⟩
      cases b with
      | true => exact ⟨Z, F1, e1, sr1, p⟩
      | false => exact p F1 H1 sr1 .rfl _ (.bl false)
    | _ => exact p.elim
theorem er_or {m n : Fx Slot} {r : List Expr} (h : ER X W m e) (k : ER X W n (.BoolOp .Or (a :: r) pos)) : ER X W (mOrV m n) (.BoolOp .Or (e :: a :: r) pos) := by
  refine (pe_or h k).weak fun σ H Q ⟨Z, F, en, sr, q⟩ => ⟨Z, F, en, sr, (RP.split q).mono fun s e1 F1 H1 sr1 f1 p v rv => ?_⟩
  cases s with
  | un => exact p.elim
  | own b d => exact p.elim
  | val d =>
    cases d with
    | bl b =>
      have rv' : Rep X.K F1 v (.bl b) := rv
      cases rv'
      refine ⟨b, rfl, ?_⟩
      cases b with
      | true => exact p F1 H1 sr1 .rfl _ (.bl true)
      | false => exact ⟨Z, F1, e1, sr1, p⟩
    | _ => exact p.elim
theorem er_not {m : Fx Slot} (h : ER X W m e) : ER X W (mNotV m) (.UnaryOp .Not e pos) := by
  refine (pe_not h).weak fun σ H Q ⟨Z, F, en, sr, q⟩ => ⟨Z, F, en, sr, (RP.split q).mono fun s e1 F1 H1 sr1 f1 p v rv => ?_⟩
  cases s with
  | un => exact p.elim
  | own b d => exact p.elim
  | val d =>
    cases d with
    | bl b =>
      have rv' : Rep X.K F1 v (.bl b) := rv
      cases rv'
      exact ⟨b, rfl, p F1 H1 sr1 .rfl _ (.bl _)⟩
    | _ => exact p.elim
/-- a if t else b -/
def mIf {α : Type} (t : Fx Bool) (m n : Fx α) : Fx α := t.bind fun b en => if b = true then m en else n en
theorem er_if {t : Fx Bool} {m n : Fx Slot} (ht : ET X W t c) (ha : ER X W m a) (hb : ER X W n b) : ER X W (mIf t m n) (.IfExp c a b pos) := by
  refine (pe_ifExp ht ha hb).weak fun σ H Q ⟨Z, F, en, sr, q⟩ => ⟨Z, F, en, sr, (RP.split q).mono fun k e1 F1 H1 sr1 f1 p => ?_⟩
  cases k with
  | true => exact ⟨Z, F1, e1, sr1, p⟩
  | false => exact ⟨Z, F1, e1, sr1, p⟩
/-- a op b op' c -/
def mCh (op op' : D → D → Option Slot) (ma mb mc : Fx Opd) : Fx Slot := ma.bind fun x => mb.bind fun y => (fin2 op x y).bind fun s => match s with
  | .val (.bl true) => mc.bind fun z => fin2 op' y z
  | .val (.bl false) => fun en => .ok (.val (.bl false)) en
  | _ => fun _ => .bad
theorem ch_of {r r' : R2} {op op' : D → D → Option Slot} {ma mb mc : Fx Opd} (ok : Op2 X.K r op) (ok' : Op2 X.K r' op') : ∀ σ H Q, cR X.K W (mCh op op' ma mb mc) σ H Q → tChain r r' (cO X.K W ma) (cO X.K W mb) (cO X.K W mc) σ H Q := fun σ H Q ⟨Z, F, en, sr, q⟩ => by
  refine ⟨Z, F, en, sr, (RP.split q).mono fun x e1 F1 H1 sr1 f1 p v ov => ?_⟩
  refine ⟨Z, F1, e1, sr1, (RP.split p).mono fun y e2 F2 H2 sr2 f2 p2 u ou => ?_⟩
  refine op2_run ok sr2 (ov.mono f2) ou ((RP.split p2).mono fun s e3 F3 H3 sr3 f3 p3 z rz => ?_)
  cases s with
  | un => exact p3.elim
  | own b d => exact p3.elim
  | val d =>
    cases d with
    | bl b =>
      have rz' : Rep X.K F3 z (.bl b) := rz
      cases rz'
      refine ⟨b, rfl, ?_⟩
      cases b with
      | true => exact ⟨Z, F3, e3, sr3, (RP.split p3).mono fun t e4 F4 H4 sr4 f4 p4 w ow => op2_run ok' sr4 ((ou.mono f3).mono f4) ow p4⟩
      | false => exact p3 F3 H3 sr3 .rfl _ (.bl false)
    | _ => exact p3.elim
theorem er_chain {o o' : CmpOp} {r r' : R2} {op op' : D → D → Option Slot} {ma mb mc : Fx Opd} (ho : OpR X (compareOp o) r) (ok : Op2 X.K r op) (ho' : OpR X (compareOp o') r') (ok' : Op2 X.K r' op') (hm : lastMarks [o, o'] [b, c] = false)
    (ha : EO X W ma a) (hb : EO X W mb b) (hc : EO X W mc c) : ER X W (mCh op op' ma mb mc) (.Compare a [o, o'] [b, c] pos) := (pe_chain ho ho' ha hb hc hm).weak (ch_of ok ok')
theorem et_chain {o o' : CmpOp} {r r' : R2} {op op' : D → D → Option Slot} {ma mb mc : Fx Opd} (ho : OpR X (compareOp o) r) (ok : Op2 X.K r op) (ho' : OpR X (compareOp o') r') (ok' : Op2 X.K r' op') (hm : lastMarks [o, o'] [b, c] = false)
    (ha : EO X W ma a) (hb : EO X W mb b) (hc : EO X W mc c) : ET X W (mB (mCh op op' ma mb mc)) (.Compare a [o, o'] [b, c] pos) :=
  (pt_chain ho ho' ha hb hc hm).weak fun σ H Q h => ch_of ok ok' σ H _ (cb_of σ H Q h)
/-- an operation on one value -/
def Op1 (K : Fg) (r : V → Hp → VK → Prop) (op : D → Option Slot) : Prop := ∀ Z F H en σ x dx s Q, SR K Z F H en σ → Now K F H x dx → op dx = some s → Gives K Z F H en σ s Q → r x H Q
def m1 (op : D → Option Slot) (ma : Fx Opd) : Fx Slot := ma.bind fun x en => match getD en x with
  | some dx => match op dx with
    | some s => .ok s en
    | none => .bad
  | none => .bad
theorem t1_of {r : V → Hp → VK → Prop} {op : D → Option Slot} {ma : Fx Opd} (ok : Op1 X.K r op) : ∀ σ H Q, cR X.K W (m1 op ma) σ H Q → cO X.K W ma σ H fun x H1 => r x H1 Q := fun σ H Q ⟨Z, F, en, sr, q⟩ => by
  refine ⟨Z, F, en, sr, (RP.split q).mono fun x e1 F1 H1 sr1 f1 p v ov => ?_⟩
  cases g : getD e1 x with
  | none =>
    rw [g] at p
    exact p.elim
  | some d =>
    rw [g] at p
    dsimp only at p
    cases t : op d with
    | none =>
      rw [t] at p
      exact p.elim
    | some s =>
      rw [t] at p
      exact ok Z F1 H1 e1 σ v d s Q sr1 (sr1.now ov g) t fun v F' H' s2 f2 rv => p F' H' s2 f2 v rv
theorem er_un {o : UnaryOp} {r : V → Hp → VK → Prop} {op : D → Option Slot} {ma : Fx Opd} (ho : UnR X (unaryOp o) r) (ok : Op1 X.K r op) (ha : EO X W ma a) : ER X W (m1 op ma) (.UnaryOp o a pos) := (pe_un ho ha).weak (t1_of ok)
/-- a field of an object; cs: the classes of which it is known that the field is no class's own -/
def fldOp (cs : List (Str × List Str)) (f : Str) : D → Option Slot
  | .ins C fs => match cs.lookup C with
    | some l => if f ∈ l then (fs.lookup f).map .val else none
    | none => none
  | _ => none
def ClsOk (K : Fg) (cs : List (Str × List Str)) : Prop := ∀ C l, cs.lookup C = some l → Cls K (He.ga K C) ∧ ∀ f ∈ l, NoAttr K (He.ga K C) f
theorem fld_ok {K : Fg} {cs : List (Str × List Str)} {f : Str} (hc : ClsOk K cs) : Op1 K (fun x H Q => ∃ a C dx fs v, x = .ref a ∧ H a = some (.ins C dx fs) ∧ Cls K C ∧ NoAttr K C f ∧ fs.lookup f = some v ∧ Q v H) (fldOp cs f) := by
  intro Z F H en σ x dx s Q sr n h g
  cases dx with
  | ins C fs =>
    unfold fldOp at h
    dsimp only at h
    cases e : cs.lookup C with
    | none =>
      rw [e] at h
      cases h
    | some l =>
      rw [e] at h
      dsimp only at h
      by_cases m : f ∈ l
      · rw [if_pos m] at h
        cases e2 : fs.lookup f with
        | none =>
          rw [e2] at h
          cases h
        | some d =>
          rw [e2] at h
          cases h
          obtain ⟨a, dx, gs, rfl, ha, rf⟩ := n.ins sr.ex
          obtain ⟨v, h1, h2⟩ := rf.look e2
          obtain ⟨c1, c2⟩ := hc C l e
          exact ⟨a, _, dx, gs, v, rfl, ha, c1, c2 f m, h1, g v F H sr .rfl h2⟩
      · rw [if_neg m] at h
        cases h
  | _ => cases h
def noBase : Expr → Bool
  | .Call .. => false
  | _ => true
theorem no_base {o : Expr} {f : Str} {env : PySem.Env} {w : PySem.Sem Value} (h : noBase o = true) : attributeBase o f env w = w := by
  cases o <;> first | rfl | cases h
theorem er_fld {cs : List (Str × List Str)} {f : Str} {ma : Fx Opd} (hc : ClsOk X.K cs) (hb : noBase a = true) (ha : EO X W ma a) : ER X W (m1 (fldOp cs f) ma) (.Attribute a f pos) := (pe_fld ha (no_base hb)).weak (t1_of (fld_ok hc))
def cP (K : Fg) (W : WX) (m : Fx (Option Int)) : St → Hp → (Option Int → Hp → Prop) → Prop := fun σ H Q => ∃ Z F en, SR K Z F H en σ ∧ RP K W Z F σ (m en) fun o en' F' H' => Q o H'
def mP : Option (Fx Opd) → Fx (Option Int)
  | none => Fx.ret none
  | some m => m.bind fun o en => match getD en o with
    | some (.int i) => .ok (some i) en
    | _ => .bad
theorem _root_.L2.PO.weak {X : Cx} {e : Option Expr} {t u : TO} (h : PO X e t) (k : ∀ σ H Q, u σ H Q → t σ H Q) : PO X e u := ⟨fun pins s σ H Q I q => h.run pins s σ H Q I (k σ H Q q)⟩
theorem ep_none : PO X none (cP X.K W (mP none)) := po_none.weak fun σ H Q ⟨Z, F, en, sr, q⟩ => q F H sr .rfl
theorem ep_some {m : Fx Opd} (h : EO X W m e) : PO X (some e) (cP X.K W (mP (some m))) := by
  refine (po_some h).weak fun σ H Q ⟨Z, F, en, sr, q⟩ => ⟨Z, F, en, sr, (RP.split q).mono fun o e1 F1 H1 sr1 f1 p v ov => ?_⟩
  cases g : getD e1 o with
  | none =>
    rw [g] at p
    exact p.elim
  | some d =>
    rw [g] at p
    cases d with
    | int i =>
      cases (sr1.now ov g).int
      exact ⟨i, rfl, p F1 H1 sr1 .rfl⟩
    | _ => exact p.elim
def OpS (K : Fg) (r : V → Option Int → Option Int → Hp → VK → Prop) (op : D → Option Int → Option Int → Option Slot) : Prop := ∀ Z F H en σ x dx lo hi s Q, SR K Z F H en σ → Now K F H x dx → op dx lo hi = some s → Gives K Z F H en σ s Q → r x lo hi H Q
def mSl (op : D → Option Int → Option Int → Option Slot) (ma : Fx Opd) (ml mh : Option (Fx Opd)) : Fx Slot := ma.bind fun x => (mP ml).bind fun lo => (mP mh).bind fun hi en => match getD en x with
  | some dx => match op dx lo hi with
    | some s => .ok s en
    | none => .bad
  | none => .bad
theorem er_slice {r : V → Option Int → Option Int → Hp → VK → Prop} {op : D → Option Int → Option Int → Option Slot} {ma : Fx Opd} {ml mh : Option (Fx Opd)} {lo hi : Option Expr} {p2 : Pos} (hr : SlR X r) (ok : OpS X.K r op) (ha : EO X W ma a)
    (hl : PO X lo (cP X.K W (mP ml))) (hh : PO X hi (cP X.K W (mP mh))) : ER X W (mSl op ma ml mh) (.Subscript a (.Slice lo hi none p2) pos) := by
  refine (pe_slice hr ha hl hh).weak fun σ H Q ⟨Z, F, en, sr, q⟩ => ⟨Z, F, en, sr, (RP.split q).mono fun x e1 F1 H1 sr1 f1 p v ov => ?_⟩
  refine ⟨Z, F1, e1, sr1, (RP.split p).mono fun l e2 F2 H2 sr2 f2 p2 => ⟨Z, F2, e2, sr2, (RP.split p2).mono fun h e3 F3 H3 sr3 f3 p3 => ?_⟩⟩
  cases g : getD e3 x with
  | none =>
    rw [g] at p3
    exact p3.elim
  | some d =>
    rw [g] at p3
    dsimp only at p3
    cases t : op d l h with
    | none =>
      rw [t] at p3
      exact p3.elim
    | some s =>
      rw [t] at p3
      exact ok Z F3 H3 e3 σ v d l h s Q sr3 (sr3.now ((ov.mono f2).mono f3) g) t fun v F' H' s2 f2 rv => p3 F' H' s2 f2 v rv
end
end Mn
set_option Elab.async false
set_option linter.all false
set_option maxRecDepth 100000
set_option maxHeartbeats 1000000
namespace Mn
open PySem PySem.Spec L2
def Zr.tmp (Z : Zr) : Slot → V → Zr
  | .own false d, .ref a => { Z with T := (d, a) :: Z.T }
  | _, _ => Z
def RVs (K : Fg) (F H : Hp) (en : En) (σ : L2.St) : Zr → List Slot → List V → Prop
  | _, [], [] => True
  | Z, r :: rs, v :: vs => RV K Z F H en σ r v ∧ RVs K F H en σ (Z.tmp r v) rs vs
  | _, _, _ => False
section
variable {K : Fg} {W : WX} {Z : Zr} {F H : Hp} {en : En} {σ : L2.St}
theorem SR.drop {p : D × Addr} (h : SR K { Z with T := p :: Z.T } F H en σ) : SR K Z F H en σ :=
  ⟨h.ex, h.len, h.ln, h.rel, h.dist, h.k1, h.k2, h.k3, h.k4, h.k5, h.k6, fun q hq => h.t1 q (List.mem_cons_of_mem _ hq), fun q hq => h.t2 q (List.mem_cons_of_mem _ hq)⟩
theorem SR.hang {d : D} {a : Addr} (h : SR K Z F H en σ) (r : RV K Z F H en σ (.own false d) (.ref a)) : SR K { Z with T := (d, a) :: Z.T } F H en σ := by
  obtain ⟨a', e, fa, c, za, na, nt⟩ := r
  cases e
  refine ⟨h.ex, h.len, h.ln, h.rel, h.dist, h.k1, h.k2, h.k3, h.k4, h.k5, h.k6, fun q hq => ?_, fun q hq => ?_⟩
  · rcases List.mem_cons.mp hq with e | hq
    · subst e
      exact ⟨fa, c, za⟩
    · exact h.t1 q hq
  · rcases List.mem_cons.mp hq with e | hq
    · subst e
      exact na
    · exact h.t2 q hq
theorem SR.tmp {r : Slot} {v : V} (h : SR K Z F H en σ) (q : RV K Z F H en σ r v) : SR K (Z.tmp r v) F H en σ := by
  cases r with
  | un => exact h
  | val d => exact h
  | own b d =>
    cases b with
    | true => exact h
    | false =>
      obtain ⟨a, rfl, _⟩ := id q
      exact h.hang q
theorem SR.untmp {r : Slot} {v : V} (h : SR K (Z.tmp r v) F H en σ) : SR K Z F H en σ := by
  cases r with
  | un => exact h
  | val d => exact h
  | own b d =>
    cases b with
    | true => exact h
    | false =>
      cases v with
      | ref a => exact SR.drop h
      | _ => exact h
/-- a right side that has waited -/
theorem RV.later {r : Slot} {v : V} {F' H' : Hp} {en' : En} (q : RV K Z F H en σ r v) (f : Sub F F') (h : SR K (Z.tmp r v) F' H' en' σ) : RV K Z F' H' en' σ r v := by
  cases r with
  | un => exact q
  | val d => exact Rep.mono f q
  | own b d =>
    cases b with
    | true => exact q
    | false =>
      obtain ⟨a, rfl, fa, c, za, na, nt⟩ := q
      have h' : SR K { Z with T := (d, a) :: Z.T } F' H' en' σ := h
      obtain ⟨e1, e2, e3⟩ := h'.t1 (d, a) List.mem_cons_self
      exact ⟨a, rfl, e1, e2, e3, h'.t2 (d, a) List.mem_cons_self, nt⟩
theorem RP.tmp {α : Type} {r : Res α} {s : Slot} {v : V} {P : α → En → Hp → Hp → Prop} (h : RP K W Z F σ r P) : RP K W (Z.tmp s v) F σ r P := by
  cases r with
  | ok a e => exact fun F' H' q f => h F' H' q.untmp f
  | exn C fs e => exact fun d gs F' H' q f => h d gs F' H' q.untmp f
  | bad => exact h
end
def mRs : List (Fx Slot) → Fx (List Slot)
  | [] => Fx.ret []
  | m :: r => m.bind fun x => (mRs r).bind fun xs => Fx.ret (x :: xs)
def cRs (K : Fg) (W : WX) (m : Fx (List Slot)) : TA := fun σ H Q => ∃ Z F en, SR K Z F H en σ ∧ RP K W Z F σ (m en) fun rs en' F' H' => ∀ vs, RVs K F' H' en' σ Z rs vs → Q vs H'
section
variable {X : Cx} {W : WX} {e : Expr} {es : List Expr} {pos : Pos}
theorem rs_nil : PA X [] (cRs X.K W (mRs [])) := pa_nil.weak fun σ H Q ⟨Z, F, en, sr, q⟩ => q F H sr .rfl [] trivial
theorem rs_cons {m : Fx Slot} {ms : List (Fx Slot)} (he : ER X W m e) (hr : PA X es (cRs X.K W (mRs ms))) (ns : notStar e = true) : PA X (e :: es) (cRs X.K W (mRs (m :: ms))) := by
  refine (pa_cons he hr (star_cons ns)).weak fun σ H Q ⟨Z, F, en, sr, q⟩ => ?_
  refine ⟨Z, F, en, sr, (RP.split q).mono fun x e1 F1 H1 sr1 f1 p v rv => ?_⟩
  refine ⟨Z.tmp x v, F1, e1, sr1.tmp rv, RP.tmp ((RP.split p).mono fun xs e2 F2 H2 sr2 f2 p2 => p2) |>.mono fun xs e2 F2 H2 sr2 f2 p2 vs rvs => ?_⟩
  exact p2 F2 H2 sr2.untmp .rfl (v :: vs) ⟨rv.later f2 sr2, rvs⟩
end
def SQ (K : Fg) (W : WX) (Z : Zr) (F : Hp) (D : Ends) : SRes → Prop
  | .nx e => ∀ σ' F' H', SR K Z F' H' e σ' → Sub F F' → D.nx σ' H'
  | .bk e => ∀ σ' F' H', SR K Z F' H' e σ' → Sub F F' → D.bk σ' H'
  | .ct e => ∀ σ' F' H', SR K Z F' H' e σ' → Sub F F' → D.ct σ' H'
  | .rt r e => ∀ v σ' F' H', SR K Z F' H' e σ' → Sub F F' → AV K Z F' H' r v → D.rt v H'
  | .ex C fs e => ∀ d gs σ' F' H', SR K Z F' H' e σ' → Sub F F' → H' d = some (.xd gs) → RepF K F' gs fs → W (.ref (He.ga K C)) (some d) σ' H'
  | .bad => False
theorem SQ.from {K : Fg} {W : WX} {Z : Zr} {F F1 : Hp} {D : Ends} {r : SRes} (s : Sub F F1) (q : SQ K W Z F D r) : SQ K W Z F1 D r := by
  cases r with
  | nx e => exact fun σ' F' H' h f => q σ' F' H' h (s.tr f)
  | bk e => exact fun σ' F' H' h f => q σ' F' H' h (s.tr f)
  | ct e => exact fun σ' F' H' h f => q σ' F' H' h (s.tr f)
  | rt r e => exact fun v σ' F' H' h f => q v σ' F' H' h (s.tr f)
  | ex C fs e => exact fun d gs σ' F' H' h f => q d gs σ' F' H' h (s.tr f)
  | bad => exact q
def cS (K : Fg) (W : WX) (m : Fs) : TS := fun D σ H => ∃ Z F en, SR K Z F H en σ ∧ SQ K W Z F D (m en)
abbrev ES (X : Cx) (W : WX) (m : Fs) (s : Stmt) : Prop := PS X s (cS X.K W m)
abbrev ESs (X : Cx) (W : WX) (m : Fs) (s : List Stmt) : Prop := PSs X s (cS X.K W m)
def sSkip : Fs := fun en => .nx en
def sSeq (a b : Fs) : Fs := fun en => match a en with
  | .nx e => b e
  | r => r
/-- an expression's result goes on -/
def sOf {α : Type} (m : Fx α) (f : α → Fs) : Fs := fun en => match m en with
  | .ok a e => f a e
  | .exn C fs e => .ex C fs e
  | .bad => .bad
theorem SQ.of {α : Type} {K : Fg} {W : WX} {Z : Zr} {F : Hp} {σ : L2.St} {D : Ends} {en : En} {m : Fx α} {f : α → Fs} (q : SQ K W Z F D (sOf m f en)) : RP K W Z F σ (m en) fun a e1 F1 H1 => SR K Z F1 H1 e1 σ ∧ Sub F F1 ∧ SQ K W Z F1 D (f a e1) := by
  unfold sOf at q
  cases e : m en with
  | ok a e1 =>
    rw [e] at q
    exact fun F' H' s f => ⟨s, f, SQ.from f q⟩
  | exn C fs e1 =>
    rw [e] at q
    exact fun d gs F' H' s f hd r => q d gs σ F' H' s f hd r
  | bad =>
    rw [e] at q
    exact q
def sRet (m : Fx Slot) : Fs := sOf m fun r en => .rt r en
def sDrop (m : Fx Slot) : Fs := sOf m fun _ en => .nx en
def sIf (t : Fx Bool) (a b : Fs) : Fs := sOf t fun k => if k = true then a else b
def lent (en : En) (i : Nat) : Bool := match en[i]? with
  | some (.own true _) => true
  | _ => false
theorem not_lent {en : En} {i : Nat} (h : lent en i = false) : ∀ d, en[i]? ≠ some (.own true d) := fun d e => by
  unfold lent at h
  rw [e] at h
  cases h
def sSet (i : Nat) (m : Fx Slot) : Fs := sOf m fun r en => if lent en i = true then .bad else .nx (en.set i r)
section
variable {X : Cx} {W : WX} {st : Stmt} {sts : List Stmt} {e c : Expr} {pos : Pos}
theorem AV.of {K : Fg} {Z : Zr} {F H : Hp} {en : En} {σ : L2.St} {r : Slot} {v : V} (h : RV K Z F H en σ r v) : AV K Z F H r v := by
  cases r with
  | un => exact h
  | val d => exact h
  | own b d =>
    cases b with
    | true => exact h
    | false =>
      obtain ⟨a, h1, h2, h3, h4, _⟩ := h
      exact ⟨a, h1, h2, h3, h4⟩
theorem es_nil : ESs X W sSkip [] := pss_nil.weak fun D σ H ⟨Z, F, en, sr, q⟩ => q σ F H sr .rfl
theorem seq_of {a b : Fs} : ∀ D σ H, cS X.K W (sSeq a b) D σ H → tSeq (cS X.K W a) (cS X.K W b) D σ H := fun D σ H ⟨Z, F, en, sr, q⟩ => by
  refine ⟨Z, F, en, sr, ?_⟩
  unfold sSeq at q
  cases r : a en with
  | nx e1 =>
    rw [r] at q
    exact fun σ' F' H' s f => ⟨Z, F', e1, s, SQ.from f q⟩
  | bk e1 => rw [r] at q; exact q
  | ct e1 => rw [r] at q; exact q
  | rt v e1 => rw [r] at q; exact q
  | ex C fs e1 => rw [r] at q; exact q
  | bad => rw [r] at q; exact q
theorem es_cons {a b : Fs} (h : ES X W a st) (k : ESs X W b sts) : ESs X W (sSeq a b) (st :: sts) := (pss_cons h k).weak seq_of
theorem es_ret {m : Fx Slot} (h : ER X W m e) : ES X W (sRet m) (.Return (some e) pos) :=
  (ps_ret h).weak fun D σ H ⟨Z, F, en, sr, q⟩ => ⟨Z, F, en, sr, (SQ.of q).mono fun r e1 F1 H1 sr1 f1 ⟨s, f, p⟩ v rv => p v σ F1 H1 sr1 .rfl (AV.of rv)⟩
def sRetN : Fs := fun en => .rt (.val .non) en
theorem es_retN : ES X W sRetN (.Return none pos) := ps_retN.weak fun D σ H ⟨Z, F, en, sr, q⟩ => q .non σ F H sr .rfl .non
theorem es_pass : ES X W sSkip (.Pass pos) := ps_pass.weak fun D σ H ⟨Z, F, en, sr, q⟩ => q σ F H sr .rfl
def sBreak : Fs := fun en => .bk en
def sCont : Fs := fun en => .ct en
theorem es_break : ES X W sBreak (.Break pos) := ps_break.weak fun D σ H ⟨Z, F, en, sr, q⟩ => q σ F H sr .rfl
theorem es_cont : ES X W sCont (.Continue pos) := ps_continue.weak fun D σ H ⟨Z, F, en, sr, q⟩ => q σ F H sr .rfl
theorem es_doc {x : Str} {j : Nat} {p : Pos} : ES X W sSkip (.Expr (.Constant (.str x) j p) pos) := ps_doc.weak fun D σ H ⟨Z, F, en, sr, q⟩ => q σ F H sr .rfl
theorem es_if {t : Fx Bool} {a b : Fs} {sa sb : List Stmt} (ht : ET X W t c) (ha : ESs X W a sa) (hb : ESs X W b sb) : ES X W (sIf t a b) (.If c sa sb pos) :=
  (ps_if ht ha hb).weak fun D σ H ⟨Z, F, en, sr, q⟩ => ⟨Z, F, en, sr, (SQ.of q).mono fun k e1 F1 H1 sr1 f1 ⟨s, f, p⟩ => by
    cases k with
    | true => exact ⟨Z, F1, e1, sr1, p⟩
    | false => exact ⟨Z, F1, e1, sr1, p⟩⟩
def notComp : Expr → Bool
  | .ListComp .. => false
  | .SetComp .. => false
  | .DictComp .. => false
  | _ => true
theorem no_swap {t : Option Expr} {l : Nat} {env : PySem.Env} (h : notComp e = true) : swapsWith e t l env = pure false := by
  cases e <;> first | rfl | cases h
theorem es_drop {m : Fx Slot} (h : ER X W m e) (nc : notComp e = true) : ES X W (sDrop m) (.Expr e pos) :=
  (ps_expr h (no_swap nc)).weak fun D σ H ⟨Z, F, en, sr, q⟩ => ⟨Z, F, en, sr, (SQ.of q).mono fun r e1 F1 H1 sr1 f1 ⟨s, f, p⟩ v rv => p σ F1 H1 sr1 .rfl⟩
/-- a right side is stored -/
theorem SR.store {K : Fg} {Z : Zr} {F H : Hp} {en : En} {σ : L2.St} {i : Nat} {r : Slot} {v : V} (h : SR K Z F H en σ) (nl : lent en i = false) (rv : RV K Z F H en σ r v) : SR K Z F H (en.set i r) (σ.set i (some v)) := by
  cases r with
  | un => exact rv.elim
  | val d => exact h.setVal (not_lent nl) rv
  | own b d =>
    cases b with
    | true => exact rv.elim
    | false =>
      obtain ⟨a, rfl, fa, c, za, na, nt⟩ := rv
      exact h.setOwn (not_lent nl) fa c za (fun j b e e1 e2 => absurd e2 (na j b e e1)) nt
theorem es_set {i : Nat} {x : Str} {p : Pos} {m : Fx Slot} (hN : X.N.Nodup) (hi : X.N[i]? = some x) (hx : Loc X.env.scope x) (hf : X.fn x = true) (h : ER X W m e) (nc : notComp e = true) : ES X W (sSet i m) (.Assign [.Name x p] e pos) := by
  refine (ps_set hN hi hx h (no_swap nc) (Or.inl hf)).weak fun D σ H ⟨Z, F, en, sr, q⟩ => ⟨Z, F, en, sr, (SQ.of q).mono fun r e1 F1 H1 sr1 f1 ⟨s, f, p⟩ v rv => ?_⟩
  cases l : lent e1 i with
  | true =>
    rw [l] at p
    exact p.elim
  | false =>
    rw [l] at p
    exact p (σ.set i (some v)) F1 H1 (sr1.store l rv) .rfl
end
inductive Tg where
  | nm (i : Nat) | tp (ts : List Tg)
mutual
def bindT : Tg → D → En → Option En
  | .nm i, d, en => if lent en i = true then none else some (en.set i (.val d))
  | .tp ts, .tup ds, en => bindTs ts ds en
  | .tp ts, .tpb ds, en => bindTs ts ds en
  | .tp _, _, _ => none
def bindTs : List Tg → List D → En → Option En
  | [], [], en => some en
  | t :: ts, d :: ds, en => match bindT t d en with
    | some e => bindTs ts ds e
    | none => none
  | _, _, _ => none
end
mutual
def slotsT : Tg → List Nat
  | .nm i => [i]
  | .tp ts => slotsTs ts
def slotsTs : List Tg → List Nat
  | [] => []
  | t :: ts => slotsT t ++ slotsTs ts
end
def cG (K : Fg) (t : Tg) : TG := fun v σ H Q => ∃ Z F en d, SR K Z F H en σ ∧ Rep K F v d ∧ match bindT t d en with
  | some e => ∀ σ', SR K Z F H e σ' → (∀ j, j ∉ slotsT t → σ'[j]? = σ[j]?) → Q σ' H
  | none => False
def cGs (K : Fg) (ts : List Tg) : TGs := fun vs σ H Q => ∃ Z F en ds, SR K Z F H en σ ∧ Reps K F vs ds ∧ match bindTs ts ds en with
  | some e => ∀ σ', SR K Z F H e σ' → (∀ j, j ∉ slotsTs ts → σ'[j]? = σ[j]?) → Q σ' H
  | none => False
theorem _root_.L2.PG.weak {X : Cx} {e : Expr} {t u : TG} (h : PG X e t) (k : ∀ v σ H Q, u v σ H Q → t v σ H Q) : PG X e u := ⟨fun pins s σ H v w Q I r q => h.run pins s σ H v w Q I r (k v σ H Q q)⟩
theorem _root_.L2.PGs.weak {X : Cx} {e : List Expr} {t u : TGs} (h : PGs X e t) (k : ∀ v σ H Q, u v σ H Q → t v σ H Q) : PGs X e u := ⟨fun pins s σ H v w Q I r q => h.run pins s σ H v w Q I r (k v σ H Q q)⟩
theorem asg_cons {e : Expr} {es : List Expr} {env : PySem.Env} (h : notStar e = true) : assignEach (e :: es) env = (false, assign e env) :: assignEach es env := by
  cases e <;> first | rfl | cases h
theorem asg_len {env : PySem.Env} : ∀ {es : List Expr}, es.all notStar = true → (assignEach es env).length = es.length ∧ (assignEach es env).findIdx? (·.1) = none
  | [], _ => ⟨rfl, rfl⟩
  | e :: es, h => by
    rw [List.all_cons, Bool.and_eq_true] at h
    obtain ⟨h1, h2⟩ := asg_len (env := env) h.2
    rw [asg_cons h.1]
    refine ⟨congrArg (· + 1) h1, ?_⟩
    rw [List.findIdx?_cons, h2]
    rfl
section
variable {X : Cx} {pos : Pos} {e : Expr} {es : List Expr}
theorem eg_name {i : Nat} {x : Str} (hN : X.N.Nodup) (hi : X.N[i]? = some x) (hx : Loc X.env.scope x) (hf : X.fn x = true ∨ X.env.scope.names.lookup x = some .local) : PG X (.Name x pos) (cG X.K (.nm i)) := by
  refine (pg_name hN hi hx hf).weak fun v σ H Q ⟨Z, F, en, d, sr, r, q⟩ => ?_
  unfold bindT at q
  cases l : lent en i with
  | true =>
    rw [l] at q
    exact q.elim
  | false =>
    rw [l] at q
    refine q (σ.set i (some v)) (sr.setVal (not_lent l) r) fun j hj => ?_
    have ne : i ≠ j := fun z => hj (by rw [← z]; exact List.mem_singleton.mpr rfl)
    exact List.getElem?_set_ne ne
theorem egs_nil : PGs X [] (cGs X.K []) := pgs_nil.weak fun vs σ H Q ⟨Z, F, en, ds, sr, r, q⟩ => by
  cases r with
  | nil => exact ⟨rfl, q σ sr fun _ _ => rfl⟩
  | cons a r => exact q.elim
theorem egs_cons {t : Tg} {ts : List Tg} (h : PG X e (cG X.K t)) (k : PGs X es (cGs X.K ts)) (ns : notStar e = true) : PGs X (e :: es) (cGs X.K (t :: ts)) := by
  refine (pgs_cons h k (by rw [asg_cons ns]; rfl)).weak fun vs σ H Q ⟨Z, F, en, ds, sr, r, q⟩ => ?_
  cases r with
  | nil => exact q.elim
  | @cons v d vs ds a r =>
    unfold bindTs at q
    refine ⟨v, vs, rfl, Z, F, en, d, sr, a, ?_⟩
    cases b : bindT t d en with
    | none =>
      rw [b] at q
      exact q.elim
    | some e1 =>
      rw [b] at q
      intro σ1 s1 k1
      refine ⟨Z, F, e1, ds, s1, r, ?_⟩
      dsimp only at q
      cases b2 : bindTs ts ds e1 with
      | none =>
        rw [b2] at q
        exact q.elim
      | some e2 =>
        rw [b2] at q
        intro σ2 s2 k2
        refine q σ2 s2 fun j hj => ?_
        have hj' : j ∉ slotsT t ++ slotsTs ts := hj
        rw [List.mem_append, not_or] at hj'
        rw [k2 j hj'.2, k1 j hj'.1]
theorem bindTs_len : ∀ {ts : List Tg} {xs : List D} {en e : En}, bindTs ts xs en = some e → xs.length = ts.length := by
  intro ts
  induction ts with
  | nil =>
    intro xs en e hb
    cases xs with
    | nil => rfl
    | cons x xs => cases hb
  | cons t ts ih =>
    intro xs en e hb
    cases xs with
    | nil => cases hb
    | cons x xs =>
      unfold bindTs at hb
      cases q : bindT t x en with
      | none =>
        rw [q] at hb
        cases hb
      | some e1 =>
        rw [q] at hb
        exact congrArg (· + 1) (ih hb)
theorem eg_tup {ts : List Tg} {k : Nat} (hc : X.calm = true) (h : PGs X es (cGs X.K ts)) (ns : es.all notStar = true) (hl : es.length = ts.length) : PG X (.Tuple es k pos) (cG X.K (.tp ts)) := by
  obtain ⟨l1, l2⟩ := asg_len (env := X.env) ns
  refine (pg_tup hc h l1 l2).weak fun v σ H Q ⟨Z, F, en, d, sr, r, q⟩ => ?_
  cases r with
  | @tup a vs xs s rs =>
    unfold bindT at q
    cases b : bindTs ts xs en with
    | none =>
      rw [b] at q
      exact q.elim
    | some e1 =>
      rw [b] at q
      refine ⟨a, vs, rfl, SqT.of (sr.ex _ _ s), by rw [rs.length, bindTs_len b, hl], Z, F, en, xs, sr, rs, ?_⟩
      rw [b]
      exact q
  | @tpb a vs xs s rs =>
    unfold bindT at q
    cases b : bindTs ts xs en with
    | none =>
      rw [b] at q
      exact q.elim
    | some e1 =>
      rw [b] at q
      refine ⟨a, vs, rfl, (sr.ex.tpb s).sq, by rw [rs.length, bindTs_len b, hl], Z, F, en, xs, sr, rs, ?_⟩
      rw [b]
      exact q
  | _ => exact q.elim
end
end Mn
set_option Elab.async false
set_option linter.all false
set_option maxRecDepth 100000
set_option maxHeartbeats 1000000
namespace Mn
open PySem PySem.Spec L2
/-- J gives values that stand for ds, as long as F stays -/
structure Gw (K : Fg) (F : Hp) (ds : List D) (J : It) : Prop where
  go : ∀ i H, i < ds.length → Sub F H → J.go i H
  stop : ∀ H, Sub F H → J.stop ds.length H
  yld : ∀ i H x H' d, ds[i]? = some d → Sub F H → J.yld i H x H' → ∀ Z F1 en σ, SR K Z F1 H en σ → Sub F F1 → ∃ F2, Sub F1 F2 ∧ SR K Z F2 H' en σ ∧ Rep K F2 x d
/-- a term that is walked: its data -/
def EI (X : Cx) (W : WX) (m : Fx (List D)) (tg iter : Expr) : Prop := ∃ wi : TI, PI X tg iter wi ∧ ∀ σ H R, (∃ Z F en, SR X.K Z F H en σ ∧ RP X.K W Z F σ (m en) fun ds en' F' H' => ∀ J, Gw X.K F' ds J → R J H') → wi σ H R
def itemsOf : D → Option (List D)
  | .lst xs => some xs
  | .tup xs => some xs
  | .tpb xs => some xs
  | .scr is => some (is.map .int)
  | _ => none
def mIt (m : Fx D) : Fx (List D) := m.bind fun d en => match itemsOf d with
  | some ds => .ok ds en
  | none => .bad
theorem gw_l {K : Fg} {F : Hp} {a : Addr} {vs : List V} {ds : List D} (q : SqL K F a vs) (r : Reps K F vs ds) : Gw K F ds (Itl K a) where
  go := fun i H hi f => ⟨vs, vs[i]'(by rw [r.length]; exact hi), f.sqL q, by simp [r.length, hi]⟩
  stop := fun H f => ⟨vs, f.sqL q, by rw [r.length]; exact Nat.le_refl _⟩
  yld := fun i H x H' d hd f y Z F1 en σ sr f1 => by
    obtain ⟨e, y⟩ := y
    subst e
    obtain ⟨v, h1, h2⟩ := r.at hd
    have e2 := y vs (f.sqL q)
    rw [h1] at e2
    cases e2
    exact ⟨F1, .rfl, sr, h2.mono f1⟩
theorem gw_t {K : Fg} {F : Hp} {a : Addr} {vs : List V} {ds : List D} (q : SqT K F a vs) (r : Reps K F vs ds) : Gw K F ds (Itt K a) where
  go := fun i H hi f => ⟨vs, vs[i]'(by rw [r.length]; exact hi), f.sqT q, by simp [r.length, hi]⟩
  stop := fun H f => ⟨vs, f.sqT q, by rw [r.length]; exact Nat.le_refl _⟩
  yld := fun i H x H' d hd f y Z F1 en σ sr f1 => by
    obtain ⟨e, y⟩ := y
    subst e
    obtain ⟨v, h1, h2⟩ := r.at hd
    have e2 := y vs (f.sqT q)
    rw [h1] at e2
    cases e2
    exact ⟨F1, .rfl, sr, h2.mono f1⟩
/-- a list or a tuple -/
def iSeq (K : Fg) (tl : TE) : TI := fun σ H R => tl σ H fun x H1 => ∃ a, x = .ref a ∧ ((∃ xs, SqL K H1 a xs ∧ R (Itl K a) H1) ∨ ∃ xs, SqT K H1 a xs ∧ R (Itt K a) H1)
theorem pi_seq {X : Cx} {tg l : Expr} {tl : TE} (hl : PE X l tl) : PI X tg l (iSeq X.K tl) := by
  constructor
  intro pins s σ H R I h
  refine thn (hl.run pins s σ H _ I h) ?_
  rintro v s1 ⟨x, H1, I1, r1, a, rfl, q⟩
  cases r1
  have own : ∀ (J : It) (tn : Nat → Heap → Prop) (s2 : Shared), Inv X pins σ H1 s2 → Turn X.prog X.w X.K tg J [s1.heap.objs.size] s1.heap.objs.size tn → tn 0 s2.heap → R J H1 → PIE X pins σ tg R (.ref s1.heap.objs.size) s2 := by
    intro J tn s2 I2 T t0 r
    refine ⟨s1.heap.objs.size, [s1.heap.objs.size], tn, J, H1, rfl, I2, T, t0, fun b hb => ?_, r⟩
    rw [List.mem_singleton.mp hb]
    exact I1.fpOk (Nat.le_refl _) (I1.hok.fresh (Nat.le_refl _))
  rcases q with ⟨xs, hq, r⟩ | ⟨xs, hq, r⟩
  · obtain ⟨its, rv, p, _⟩ := I1.list hq
    exact wpAny_pyIter_list p.isList (own _ _ _ (I1.kept (t' := s1.toks) fun b o e => Heap.get?_push_of_some _ e) (turn_list a _) ⟨_, Heap.get?_push_size _ rfl, rfl, rfl⟩ r)
  · obtain ⟨its, rv, p, _⟩ := I1.tuple hq
    exact wpAny_pyIter_tuple (show s1.heap.IsTuple a its.toArray from p) (own _ _ _ (I1.kept (t' := s1.toks) fun b o e => Heap.get?_push_of_some _ e) (turn_tuple a _) ⟨_, Heap.get?_push_size _ rfl, rfl, rfl⟩ r)
section
variable {X : Cx} {W : WX} {tg e : Expr}
theorem ei_seq {m : Fx D} (h : EV X W m e) : EI X W (mIt m) tg e := by
  refine ⟨_, pi_seq h, fun σ H R ⟨Z, F, en, sr, q⟩ => ⟨Z, F, en, sr, (RP.split q).mono fun d e1 F1 H1 sr1 f1 p v r => ?_⟩⟩
  cases r with
  | @lst a vs xs q r => exact ⟨a, rfl, .inl ⟨vs, SqL.of (sr1.ex _ _ q), p F1 H1 sr1 .rfl _ (gw_l (SqL.of q) r)⟩⟩
  | @tup a vs xs q r => exact ⟨a, rfl, .inr ⟨vs, SqT.of (sr1.ex _ _ q), p F1 H1 sr1 .rfl _ (gw_t (SqT.of q) r)⟩⟩
  | @tpb a vs xs q r => exact ⟨a, rfl, .inr ⟨vs, (sr1.ex.tpb q).sq, p F1 H1 sr1 .rfl _ (gw_t q.sq r)⟩⟩
  | @scr a is q => exact ⟨a, rfl, .inl ⟨_, sr1.ex.sqL q, p F1 H1 sr1 .rfl _ (gw_l q Reps.ints)⟩⟩
  | _ => exact p.elim
def rng (lo : Int) (n : Nat) : List D := (List.range n).map fun i => .int (lo + (i : Nat))
theorem gw_r {K : Fg} {F : Hp} {lo : Int} {n : Nat} : Gw K F (rng lo n) (Itr lo n) where
  go := fun i H hi _ => by
    unfold rng at hi
    rw [List.length_map, List.length_range] at hi
    exact hi
  stop := fun H _ => by
    unfold rng
    rw [List.length_map, List.length_range]
    exact Nat.le_refl _
  yld := fun i H x H' d hd f y Z F1 en σ sr f1 => by
    obtain ⟨e, y⟩ := y
    subst e y
    have hd0 : ((List.range n).map fun i : Nat => D.int (lo + (i : Nat)))[i]? = some d := hd
    unfold rng at hd
    rw [List.getElem?_map, List.getElem?_range] at hd
    · cases hd
      exact ⟨F1, .rfl, sr, .int _⟩
    · have q := (List.getElem?_eq_some_iff.mp hd0).1
      rw [List.length_map, List.length_range] at q
      exact q
def small (i : Int) : Bool := decide (-(2 ^ 62) ≤ i) && decide (i < 2 ^ 62)
def mR1 (ma : Fx Opd) : Fx (List D) := ma.bind fun x en => match getD en x with
  | some (.int j) => if small j = true then .ok (rng 0 j.toNat) en else .bad
  | _ => .bad
def mR2 (ma mb : Fx Opd) : Fx (List D) := ma.bind fun x => mb.bind fun y en => match getD en x, getD en y with
  | some (.int i), some (.int j) => if (small i && small j) = true then .ok (rng i (j - i).toNat) en else .bad
  | _, _ => .bad
theorem small_of {i : Int} (h : small i = true) : -(2 ^ 62) ≤ i ∧ i < 2 ^ 62 := by
  unfold small at h
  rw [Bool.and_eq_true, decide_eq_true_eq, decide_eq_true_eq] at h
  exact h
theorem ei_r1 {ma : Fx Opd} {p pos : Pos} {a : Expr} (hg : Gl X "range") (hm : X.mg "range" = none) (ha : EO X W ma a) (ns : notStar a = true) : EI X W (mR1 ma) tg (.Call (.Name "range" p) [a] [] pos) := by
  refine ⟨_, pi_range1 hg hm (pa_cons ha pa_nil (star_cons ns)) (star_cons ns), fun σ H R ⟨Z, F, en, sr, q⟩ => ⟨Z, F, en, sr, (RP.split q).mono fun x e1 F1 H1 sr1 f1 p v ov => ?_⟩⟩
  cases g : getD e1 x with
  | none =>
    rw [g] at p
    exact p.elim
  | some d =>
    rw [g] at p
    cases d with
    | int j =>
      cases (sr1.now ov g).int
      dsimp only at p
      by_cases c : small j = true
      · rw [if_pos c] at p
        obtain ⟨c1, c2⟩ := small_of c
        exact ⟨j, rfl, c1, c2, p F1 H1 sr1 .rfl _ gw_r⟩
      · rw [if_neg c] at p
        exact p.elim
    | _ => exact p.elim
theorem ei_r2 {ma mb : Fx Opd} {p pos : Pos} {a b : Expr} (hg : Gl X "range") (hm : X.mg "range" = none) (ha : EO X W ma a) (hb : EO X W mb b) (ns : notStar a = true) (ns2 : notStar b = true) : EI X W (mR2 ma mb) tg (.Call (.Name "range" p) [a, b] [] pos) := by
  have s2 : starEach [b] X.env = [(false, eval b X.env)] := star_cons ns2
  refine ⟨_, pi_range2 hg hm (pa_cons ha (pa_cons hb pa_nil (star_cons ns2)) (star_cons ns)) ((star_cons ns).trans (by rw [s2])) s2, fun σ H R ⟨Z, F, en, sr, q⟩ => ⟨Z, F, en, sr, (RP.split q).mono fun x e1 F1 H1 sr1 f1 p v ov => ?_⟩⟩
  refine ⟨Z, F1, e1, sr1, (RP.split p).mono fun y e2 F2 H2 sr2 f2 p2 u ou => ?_⟩
  cases g : getD e2 x with
  | none =>
    rw [g] at p2
    exact p2.elim
  | some d =>
    rw [g] at p2
    cases d with
    | int i =>
      cases g2 : getD e2 y with
      | none =>
        rw [g2] at p2
        exact p2.elim
      | some d =>
        rw [g2] at p2
        cases d with
        | int j =>
          cases (sr2.now (ov.mono f2) g).int
          cases (sr2.now ou g2).int
          dsimp only at p2
          by_cases c : (small i && small j) = true
          · rw [if_pos c] at p2
            rw [Bool.and_eq_true] at c
            obtain ⟨c1, c2⟩ := small_of c.1
            obtain ⟨c3, c4⟩ := small_of c.2
            exact ⟨i, j, rfl, ⟨c1, c2, c3, c4⟩, p2 F2 H2 sr2 .rfl _ gw_r⟩
          · rw [if_neg c] at p2
            exact p2.elim
        | _ => exact p2.elim
    | _ => exact p2.elim
end
def forL (t : Tg) (body : Fs) : List D → Fs
  | [], en => .nx en
  | d :: ds, en => match bindT t d en with
    | none => .bad
    | some e => match body e with
      | .nx e => forL t body ds e
      | .ct e => forL t body ds e
      | .bk e => .nx e
      | r => r
def sFor (t : Tg) (m : Fx (List D)) (body : Fs) : Fs := sOf m fun ds => forL t body ds
def notSet : Expr → Bool
  | .Set .. => false
  | _ => true
theorem no_set {e : Expr} {env : PySem.Env} (h : notSet e = true) : ∀ x, foldedSetIterable e env x = pure x := by
  intro x
  cases e <;> first | rfl | cases h
theorem drop_step {α : Type} {l : List α} {i : Nat} (h : i < l.length) : ∃ x, l[i]? = some x ∧ l.drop i = x :: l.drop (i + 1) := ⟨l[i], by simp [h], by simp⟩
section
variable {X : Cx} {W : WX} {tg iter c : Expr} {sts : List Stmt} {pos : Pos}
theorem es_for {t : Tg} {m : Fx (List D)} {b : Fs} (hp : PassesOwn (model X.prog X.w) X.A X.env X.xe) (hc : X.calm = true) (hi : EI X W m tg iter) (hg : PG X tg (cG X.K t)) (hb : ESs X W b sts) (ns : notSet iter = true) : ES X W (sFor t m b) (.For tg iter sts [] pos) := by
  obtain ⟨wi, h1, h2⟩ := hi
  refine (ps_for hp hc h1 hg hb (no_set ns)).weak fun D σ H ⟨Z, F, en, sr, q⟩ => h2 σ H _ ⟨Z, F, en, sr, (SQ.of q).mono fun ds e1 F1 H1 sr1 f1 ⟨_, _, p⟩ J g => ?_⟩
  refine ⟨fun i n σ' H' => n = ds.length - i ∧ i ≤ ds.length ∧ ∃ F2 e2, Sub F1 F2 ∧ SR X.K Z F2 H' e2 σ' ∧ SQ X.K W Z F2 D (forL t b (ds.drop i) e2), ⟨ds.length, by simp, Nat.zero_le _, F1, e1, .rfl, sr1, p⟩, ?_⟩
  rintro i n σ' H' ⟨rfl, hi, F2, e2, f2, sr2, p2⟩
  by_cases hlt : i < ds.length
  · obtain ⟨d, hd, ed⟩ := drop_step hlt
    rw [ed] at p2
    refine .inr ⟨g.go i H' hlt (f2.tr sr2.ex), fun σ3 H3 => ∃ F3 e3, Sub F1 F3 ∧ SR X.K Z F3 H3 e3 σ3 ∧ SQ X.K W Z F3 D (forL t b (ds.drop (i + 1)) e3), fun σ3 H3 ⟨F3, e3, f3, s3, p3⟩ => ⟨ds.length - (i + 1), by omega, rfl, hlt, F3, e3, f3, s3, p3⟩, fun x H3 y => ?_⟩
    obtain ⟨F3, f3, sr3, rx⟩ := g.yld i H' x H3 d hd (f2.tr sr2.ex) y Z F2 e2 σ' sr2 f2
    refine ⟨Z, F3, e2, d, sr3, rx, ?_⟩
    unfold forL at p2
    cases hb2 : bindT t d e2 with
    | none =>
      rw [hb2] at p2
      exact p2.elim
    | some e4 =>
      rw [hb2] at p2
      dsimp only at p2
      intro σ4 s4 _
      refine ⟨Z, F3, e4, s4, ?_⟩
      cases r : b e4 with
      | nx e =>
        rw [r] at p2
        exact fun σ5 F5 H5 s5 f5 => ⟨F5, e, (f2.tr f3).tr f5, s5, SQ.from (f3.tr f5) p2⟩
      | ct e =>
        rw [r] at p2
        exact fun σ5 F5 H5 s5 f5 => ⟨F5, e, (f2.tr f3).tr f5, s5, SQ.from (f3.tr f5) p2⟩
      | bk e =>
        rw [r] at p2
        exact SQ.from (r := .nx e) f3 p2
      | rt v e => rw [r] at p2; exact SQ.from (r := .rt v e) f3 p2
      | ex C fs e => rw [r] at p2; exact SQ.from (r := .ex C fs e) f3 p2
      | bad => rw [r] at p2; exact p2
  · have e : i = ds.length := by omega
    subst e
    refine .inl ⟨g.stop H' (f2.tr sr2.ex), ?_⟩
    rw [List.drop_length] at p2
    exact p2 σ' F2 H' sr2 .rfl
end
end Mn
set_option Elab.async false
set_option linter.all false
set_option maxRecDepth 100000
set_option maxHeartbeats 1000000
namespace Mn
open PySem PySem.Spec L2
def whileL (t : Fx Bool) (body : Fs) : Nat → Fs
  | 0, _ => .bad
  | n + 1, en => match t en with
    | .ok true e => match body e with
      | .nx e => whileL t body n e
      | .ct e => whileL t body n e
      | .bk e => .nx e
      | r => r
    | .ok false e => .nx e
    | .exn C fs e => .ex C fs e
    | .bad => .bad
def sWhile (t : Fx Bool) (body : Fs) : Fs := whileL t body 100000
section
variable {X : Cx} {W : WX} {c : Expr} {sts : List Stmt} {pos : Pos}
theorem es_while {t : Fx Bool} {b : Fs} (hp : PassesOwn (model X.prog X.w) X.A X.env X.xe) (ht : ET X W t c) (hb : ESs X W b sts) : ES X W (sWhile t b) (.While c sts [] pos) := by
  refine (ps_while hp ht hb).weak fun D σ H ⟨Z, F, en, sr, q⟩ => ?_
  refine ⟨fun n σ' H' => ∃ F2 e2, Sub F F2 ∧ SR X.K Z F2 H' e2 σ' ∧ SQ X.K W Z F2 D (whileL t b n e2), ⟨100000, F, en, .rfl, sr, q⟩, ?_⟩
  rintro n σ' H' ⟨F2, e2, f2, s2, p2⟩
  cases n with
  | zero => exact p2.elim
  | succ n =>
    refine ⟨Z, F2, e2, s2, ?_⟩
    unfold whileL at p2
    cases r : t e2 with
    | ok k e3 =>
      rw [r] at p2
      intro F3 H3 s3 f3
      cases k with
      | false => exact p2 σ' F3 H3 s3 f3
      | true =>
        dsimp only at p2
        show ∃ N : L2.St → Hp → Prop, _
        refine ⟨fun σ5 H5 => ∃ F5 e5, Sub F F5 ∧ SR X.K Z F5 H5 e5 σ5 ∧ SQ X.K W Z F5 D (whileL t b n e5), fun σ5 H5 h => ⟨n, Nat.lt_succ_self n, h⟩, Z, F3, e3, s3, ?_⟩
        cases r2 : b e3 with
        | nx e =>
          rw [r2] at p2
          exact fun σ5 F5 H5 s5 f5 => ⟨F5, e, (f2.tr f3).tr f5, s5, SQ.from (f3.tr f5) p2⟩
        | ct e =>
          rw [r2] at p2
          exact fun σ5 F5 H5 s5 f5 => ⟨F5, e, (f2.tr f3).tr f5, s5, SQ.from (f3.tr f5) p2⟩
        | bk e => rw [r2] at p2; exact SQ.from (r := .nx e) f3 p2
        | rt v e => rw [r2] at p2; exact SQ.from (r := .rt v e) f3 p2
        | ex C fs e => rw [r2] at p2; exact SQ.from (r := .ex C fs e) f3 p2
        | bad => rw [r2] at p2; exact p2.elim
    | exn C fs e3 =>
      rw [r] at p2
      exact fun d gs F3 H3 s3 f3 hd rf => p2 d gs σ' F3 H3 s3 f3 hd rf
    | bad =>
      rw [r] at p2
      exact p2.elim
end
def wipeEn (en : En) : List Nat → En
  | [] => en
  | v :: vs => (wipeEn en vs).set v .un
def restore (e0 : En) : List Nat → En → En
  | [], e => e
  | v :: vs, e => restore e0 vs (match e0[v]? with
    | some (.val d) => e.set v (.val d)
    | _ => e)
theorem wipeEn_get {en : En} {i : Nat} {s : Slot} : ∀ {vs : List Nat}, (wipeEn en vs)[i]? = some s → s = .un ∨ (en[i]? = some s ∧ i ∉ vs)
  | [], h => .inr ⟨h, by simp⟩
  | v :: vs, h => by
    unfold wipeEn at h
    rcases get_put h with ⟨_, e⟩ | ⟨ne, h⟩
    · exact .inl e
    · rcases wipeEn_get h with e | ⟨e, m⟩
      · exact .inl e
      · exact .inr ⟨e, by
          rw [List.mem_cons, not_or]
          exact ⟨fun z => ne z.symm, m⟩⟩
theorem wipeEn_in {en : En} {i : Nat} : ∀ {vs : List Nat}, i ∈ vs → i < en.length → (wipeEn en vs)[i]? = some .un
  | v :: vs, h, l => by
    have len : ∀ vs : List Nat, (wipeEn en vs).length = en.length := fun vs => by
      induction vs with
      | nil => rfl
      | cons v vs ih =>
        unfold wipeEn
        rw [List.length_set, ih]
    unfold wipeEn
    by_cases e : v = i
    · subst e
      exact List.getElem?_set_self (by rw [len]; exact l)
    · rw [List.getElem?_set_ne e]
      rcases List.mem_cons.mp h with z | z
      · exact absurd z.symm e
      · exact wipeEn_in z l
theorem wipeEn_len {en : En} : ∀ {vs : List Nat}, (wipeEn en vs).length = en.length
  | [] => rfl
  | v :: vs => by
    unfold wipeEn
    rw [List.length_set, wipeEn_len]
theorem wipe_in {σ : L2.St} {i : Nat} : ∀ {vs : List Nat}, i ∈ vs → i < σ.length → (wipe σ vs)[i]? = some none
  | v :: vs, h, l => by
    unfold wipe
    by_cases e : v = i
    · subst e
      exact List.getElem?_set_self (by rw [wipe_length]; exact l)
    · rw [List.getElem?_set_ne e]
      rcases List.mem_cons.mp h with z | z
      · exact absurd z.symm e
      · exact wipe_in z l
theorem wipe_same {σ τ : L2.St} {vs : List Nat} (hl : τ.length = σ.length) (h : ∀ j : Nat, j ∉ vs → τ[j]? = σ[j]?) : wipe τ vs = wipe σ vs := by
  apply List.ext_getElem?
  intro j
  by_cases m : j ∈ vs
  · by_cases l : j < σ.length
    · rw [wipe_in m l, wipe_in m (by rw [hl]; exact l)]
    · rw [List.getElem?_eq_none (by rw [wipe_length]; omega), List.getElem?_eq_none (by rw [wipe_length]; omega)]
  · rw [wipe_out m, wipe_out m, h j m]
theorem wipeEn_same {e f : En} {vs : List Nat} (hl : e.length = f.length) (h : ∀ j : Nat, j ∉ vs → e[j]? = f[j]?) : wipeEn e vs = wipeEn f vs := by
  apply List.ext_getElem?
  intro j
  by_cases m : j ∈ vs
  · by_cases l : j < f.length
    · rw [wipeEn_in m l, wipeEn_in m (by rw [hl]; exact l)]
    · rw [List.getElem?_eq_none (by rw [wipeEn_len]; omega), List.getElem?_eq_none (by rw [wipeEn_len]; omega)]
  · have out : ∀ {en : En} {vs : List Nat}, j ∉ vs → (wipeEn en vs)[j]? = en[j]? := by
      intro en vs
      induction vs with
      | nil => intro _; rfl
      | cons v vs ih =>
        intro m
        rw [List.mem_cons, not_or] at m
        unfold wipeEn
        rw [List.getElem?_set_ne (fun z => m.1 z.symm), ih m.2]
    rw [out m, out m, h j m]
section
variable {K : Fg} {Z : Zr} {F H : Hp} {en : En} {σ τ : L2.St}
theorem SR.notTrue (h : SR K Z F H en σ) {v : Nat} (nl : ∀ p ∈ Z.P, p.1 ≠ v) : ∀ d, en[v]? ≠ some (.own true d) := fun d e => by
  obtain ⟨a, h1, _⟩ := h.ownAt e
  exact nl _ (h.k6 v d a e h1) rfl
theorem SR.wipe (h : SR K Z F H en σ) : ∀ {vs : List Nat}, (∀ p ∈ Z.P, p.1 ∉ vs) → SR K Z F H (wipeEn en vs) (L2.wipe σ vs)
  | [], _ => h
  | v :: vs, nl => by
    have ih := SR.wipe h (vs := vs) fun p hp m => nl p hp (List.mem_cons_of_mem _ m)
    exact ih.setUn (ih.notTrue fun p hp e => nl p hp (by rw [e]; exact List.mem_cons_self))
/-- slots of which nothing is told may hold anything -/
theorem SR.swap (h : SR K Z F H en σ) (hl : τ.length = σ.length) (k : ∀ j : Nat, en[j]? ≠ some Slot.un → τ[j]? = σ[j]?) : SR K Z F H en τ where
  ex := h.ex
  len := h.len.trans hl.symm
  ln := hl.trans h.ln
  rel := fun i s ov e1 e2 => by
    cases s with
    | un => trivial
    | val d => rw [k i (by rw [e1]; intro z; cases z)] at e2; exact h.rel i _ ov e1 e2
    | own b d => rw [k i (by rw [e1]; intro z; cases z)] at e2; exact h.rel i _ ov e1 e2
  dist := fun i j a b c d e e1 e2 e3 e4 => by
    rw [k i (by rw [e1]; intro z; cases z)] at e3
    rw [k j (by rw [e2]; intro z; cases z)] at e4
    exact h.dist i j a b c d e e1 e2 e3 e4
  k1 := h.k1
  k2 := h.k2
  k3 := h.k3
  k4 := fun i d a e1 e2 => by
    rw [k i (by rw [e1]; intro z; cases z)] at e2
    exact h.k4 i d a e1 e2
  k5 := fun p hp => by
    obtain ⟨e1, d, e2⟩ := h.k5 p hp
    exact ⟨by rw [k p.1 (by rw [e2]; intro z; cases z)]; exact e1, d, e2⟩
  k6 := fun i d a e1 e2 => by
    rw [k i (by rw [e1]; intro z; cases z)] at e2
    exact h.k6 i d a e1 e2
  t1 := h.t1
  t2 := fun p hp j b e e1 => by
    rw [k j (by rw [e1]; intro z; cases z)]
    exact h.t2 p hp j b e e1
theorem SR.unwipe {vs : List Nat} (h : SR K Z F H (wipeEn en vs) (L2.wipe σ vs)) : SR K Z F H (wipeEn en vs) σ := by
  refine h.swap (wipe_length σ vs).symm fun j ne => ?_
  by_cases m : j ∈ vs
  · by_cases l : j < en.length
    · exact absurd (wipeEn_in m l) ne
    · have l2 := h.len
      rw [wipeEn_len, wipe_length] at l2
      rw [List.getElem?_eq_none (by omega), List.getElem?_eq_none (by rw [wipe_length]; omega)]
  · rw [wipe_out m]
theorem SR.restore {e0 : En} : ∀ {vs : List Nat} {e : En}, SR K Z F H e σ → (∀ p ∈ Z.P, p.1 ∉ vs) → (∀ (v : Nat) (d : D), e0[v]? = some (.val d) → ∃ x, σ[v]? = some (some x) ∧ Rep K F x d) → SR K Z F H (restore e0 vs e) σ
  | [], _, h, _, _ => h
  | v :: vs, e, h, nl, k => by
    unfold Mn.restore
    refine SR.restore ?_ (fun p hp m => nl p hp (List.mem_cons_of_mem _ m)) k
    split
    · rename_i d q
      obtain ⟨x, h1, h2⟩ := k v d q
      have s := h.setVal (h.notTrue fun p hp z => nl p hp (by rw [z]; exact List.mem_cons_self)) h2
      have es : σ.set v (some x) = σ := by
        apply List.ext_getElem?
        intro j
        by_cases z : v = j
        · subst z
          rw [List.getElem?_set_self (List.getElem?_eq_some_iff.mp h1).1, h1]
        · rw [List.getElem?_set_ne z]
      rw [es] at s
      exact s
    · exact h
/-- a waiting object is changed -/
theorem SR.putTmp {a : Addr} {d d' : D} {o : HO} (h : SR K { Z with T := (d, a) :: Z.T } F H en σ) (nt : ∀ p ∈ Z.T, p.2 ≠ a) (c : Cell K F (upd H a o) a d') : SR K { Z with T := (d', a) :: Z.T } F (upd H a o) en σ := by
  obtain ⟨fa, c0, za⟩ := h.t1 (d, a) List.mem_cons_self
  have ns := h.t2 (d, a) List.mem_cons_self
  exact {
    ex := fun b u e => by
      have ne : b ≠ a := fun z => by
        rw [z] at e
        have z2 : F a = none := fa
        rw [z2] at e
        cases e
      rw [upd_ne ne]
      exact h.ex b u e
    len := h.len
    ln := h.ln
    rel := fun i s ov e1 e2 => by
      have r := h.rel i s ov e1 e2
      cases s with
      | un => trivial
      | val d => exact r
      | own b d2 =>
        obtain ⟨a2, h1, h2, h3⟩ := r
        have ne : a2 ≠ a := fun z => by
          subst z
          rw [h1] at e2
          exact ns i b d2 e1 e2
        exact ⟨a2, h1, h2, h3.to .rfl (upd_ne ne)⟩
    dist := h.dist
    k1 := fun b u e m => by
      have ne : b ≠ a := fun z => by
        rw [z] at e
        have z2 : Z.H a = none := za
        rw [z2] at e
        cases e
      rw [upd_ne ne]
      exact h.k1 b u e m
    k2 := h.k2
    k3 := h.k3
    k4 := h.k4
    k5 := h.k5
    k6 := h.k6
    t1 := fun p hp => by
      rcases List.mem_cons.mp hp with e | hp
      · subst e
        exact ⟨fa, c, za⟩
      · obtain ⟨e1, e2, e3⟩ := h.t1 p (List.mem_cons_of_mem _ hp)
        exact ⟨e1, e2.to .rfl (upd_ne (nt p hp)), e3⟩
    t2 := fun p hp => by
      rcases List.mem_cons.mp hp with e | hp
      · subst e
        exact ns
      · exact h.t2 p (List.mem_cons_of_mem _ hp) }
end
abbrev W0 : WX := fun _ _ _ _ => False
def lim : Nat := 1000000
def lcL (t : Tg) (tt : Fx Bool) (te : Fx D) (vs : List Nat) : List D → List D → En → Res (List D)
  | [], acc, en => .ok acc en
  | d :: ds, acc, en => match bindT t d (wipeEn en vs) with
    | none => .bad
    | some e => match tt e with
      | .ok true e => match te e with
        | .ok x e => lcL t tt te vs ds (acc ++ [x]) e
        | _ => .bad
      | .ok false e => lcL t tt te vs ds acc e
      | _ => .bad
def noneLent (en : En) (vs : List Nat) : Bool := vs.all fun v => !lent en v
def mLc (vs : List Nat) (t : Tg) (m : Fx (List D)) (tt : Fx Bool) (te : Fx D) : Fx Slot := m.bind fun ds en =>
  if (noneLent en vs && decide (ds.length < lim)) = true then match lcL t tt te vs ds [] en with
    | .ok acc e => .ok (.own false (.lst acc)) (restore en vs (wipeEn e vs))
    | _ => .bad
  else .bad
abbrev Zr.acc (Z : Zr) (xs : List D) (a : Addr) : Zr := { Z with T := (.lst xs, a) :: Z.T }
theorem noLent {K : Fg} {Z : Zr} {F H : Hp} {en : En} {σ : L2.St} {vs : List Nat} (h : SR K Z F H en σ) (q : noneLent en vs = true) : ∀ p ∈ Z.P, p.1 ∉ vs := fun p hp m => by
  have z := List.all_eq_true.mp q p.1 m
  obtain ⟨_, d, e⟩ := h.k5 p hp
  unfold lent at z
  rw [e] at z
  cases z
/-- the loop: its turns, its end -/
theorem lc_loop {K : Fg} {Z : Zr} {F1 H1 : Hp} {ds acc0 accf : List D} {e0 ef : En} {J : It} {t : Tg} {tt : Fx Bool} {te : Fx D} {vs : List Nat} {σ : L2.St} {Dl : Addr} {End : Hp → Prop}
    (gw : Gw K F1 ds J) (nl : ∀ p ∈ Z.P, p.1 ∉ vs) (nt : ∀ p ∈ Z.T, p.2 ≠ Dl) (hts : ∀ j ∈ slotsT t, j ∈ vs) (s0 : SR K (Z.acc acc0 Dl) F1 H1 (wipeEn e0 vs) (wipe σ vs)) (hl : acc0.length + ds.length < lim)
    (hr : lcL t tt te vs ds acc0 e0 = .ok accf ef) (fin : ∀ F2 H2, Sub F1 F2 → SR K (Z.acc accf Dl) F2 H2 (wipeEn ef vs) (wipe σ vs) → End H2) :
    ∃ W : Nat → Nat → Hp → Prop, (∃ m, W 0 m H1) ∧ ∀ i m H, W i m H → (J.stop i H ∧ End H) ∨ (J.go i H ∧ ∃ Nx : Hp → Prop, (∀ H', Nx H' → ∃ m', m' < m ∧ W (i + 1) m' H') ∧ ∀ x H', J.yld i H x H' →
      cG K t x (wipe σ vs) H' fun σ2 H2 => wipe σ2 vs = wipe σ vs ∧ cT K W0 tt σ2 H2 fun b H3 => if b = true then cV K W0 te σ2 H3 fun y H4 => ∃ acc, H4 Dl = some (.lst acc) ∧ acc.length < sizeLine ∧ Nx (upd H4 Dl (.lst (acc ++ [y]))) else Nx H3) := by
  refine ⟨fun i n H => n = ds.length - i ∧ i ≤ ds.length ∧ ∃ F2 e2 acc, Sub F1 F2 ∧ SR K (Z.acc acc Dl) F2 H (wipeEn e2 vs) (wipe σ vs) ∧ lcL t tt te vs (ds.drop i) acc e2 = .ok accf ef ∧ acc.length ≤ acc0.length + i, ⟨ds.length, by simp, Nat.zero_le _, F1, e0, acc0, .rfl, s0, hr, Nat.le_refl _⟩, ?_⟩
  rintro i n H ⟨rfl, hi, F2, e2, acc, f2, s2, r2, l2⟩
  by_cases hlt : i < ds.length
  · obtain ⟨d, hd, ed⟩ := drop_step hlt
    rw [ed] at r2
    refine .inr ⟨gw.go i H hlt (f2.tr s2.ex), fun H3 => ∃ F3 e3 acc, Sub F1 F3 ∧ SR K (Z.acc acc Dl) F3 H3 (wipeEn e3 vs) (wipe σ vs) ∧ lcL t tt te vs (ds.drop (i + 1)) acc e3 = .ok accf ef ∧ acc.length ≤ acc0.length + (i + 1),
      fun H3 h => ⟨ds.length - (i + 1), by omega, rfl, hlt, h⟩, fun x H3 y => ?_⟩
    obtain ⟨F3, f3, s3, rx⟩ := gw.yld i H x H3 d hd (f2.tr s2.ex) y _ F2 _ _ s2 f2
    refine ⟨_, F3, _, d, s3, rx, ?_⟩
    unfold lcL at r2
    cases hb : bindT t d (wipeEn e2 vs) with
    | none =>
      rw [hb] at r2
      cases r2
    | some e4 =>
      rw [hb] at r2
      dsimp only at r2
      intro σ4 s4 k4
      have len4 : σ4.length = (wipe σ vs).length := by
        have a := s4.len
        have b := s3.len
        have c : e4.length = (wipeEn e2 vs).length := by
          have key : ∀ (ts : Tg) (d : D) (en e : En), bindT ts d en = some e → e.length = en.length := by
            intro ts
            refine Tg.rec (motive_1 := fun ts => ∀ (d : D) (en e : En), bindT ts d en = some e → e.length = en.length) (motive_2 := fun ts => ∀ (ds : List D) (en e : En), bindTs ts ds en = some e → e.length = en.length) ?_ ?_ ?_ ?_ ts
            · intro i d en e h
              unfold bindT at h
              split at h
              · cases h
              · cases h
                exact List.length_set
            · intro ts ih d en e h
              cases d with
              | tup ds =>
                unfold bindT at h
                exact ih ds en e h
              | tpb ds =>
                unfold bindT at h
                exact ih ds en e h
              | _ => cases h
            · intro ds en e h
              cases ds with
              | nil => cases h; rfl
              | cons => cases h
            · intro t ts iht ihts ds en e h
              cases ds with
              | nil => cases h
              | cons d ds =>
                unfold bindTs at h
                cases q : bindT t d en with
                | none =>
                  rw [q] at h
                  cases h
                | some e1 =>
                  rw [q] at h
                  exact (ihts ds e1 e h).trans (iht d en e1 q)
          exact key t d _ _ hb
        omega
      have ws : wipe σ4 vs = wipe σ vs := by
        have a : wipe σ4 vs = wipe (wipe σ vs) vs := wipe_same len4 fun j m => k4 j fun z => m (hts j z)
        have b : wipe (wipe σ vs) vs = wipe σ vs := wipe_same (wipe_length σ vs) fun j m => wipe_out m
        rw [a, b]
      refine ⟨ws, _, F3, e4, s4, ?_⟩
      cases ht : tt e4 with
      | exn C fs e =>
        rw [ht] at r2
        cases r2
      | bad =>
        rw [ht] at r2
        cases r2
      | ok k e5 =>
        rw [ht] at r2
        intro F5 H5 s5 f5
        cases k with
        | false =>
          dsimp only at r2
          have s6 := s5.wipe (vs := vs) nl
          rw [ws] at s6
          exact ⟨F5, e5, acc, (f2.tr f3).tr f5, s6, r2, by omega⟩
        | true =>
          dsimp only at r2
          show cV K W0 te σ4 H5 _
          refine ⟨_, F5, e5, s5, ?_⟩
          cases hv : te e5 with
          | exn C fs e =>
            rw [hv] at r2
            cases r2
          | bad =>
            rw [hv] at r2
            cases r2
          | ok z e7 =>
            rw [hv] at r2
            intro F7 H7 s7 f7 y ry
            obtain ⟨_, ⟨us, hu, ru⟩, _⟩ := s7.t1 (.lst acc, Dl) List.mem_cons_self
            refine ⟨us, hu, ?_, F7, e7, acc ++ [z], ((f2.tr f3).tr f5).tr f7, ?_, r2, ?_⟩
            · rw [ru.length]
              have : lim ≤ sizeLine := by decide
              omega
            · have s8 := s7.wipe (vs := vs) nl
              rw [ws] at s8
              exact s8.putTmp nt ⟨us ++ [y], upd_same, ru.app (.cons ry .nil)⟩
            · rw [List.length_append]
              show acc.length + 1 ≤ _
              omega
  · have e : i = ds.length := by omega
    subst e
    rw [List.drop_length] at r2
    cases r2
    exact .inl ⟨gw.stop H (f2.tr s2.ex), fin F2 H f2 s2⟩
section
variable {X : Cx} {W : WX} {tg iter elt : Expr} {ifs : List Expr} {scope : Scope} {own : List (Str × Nat)} {pos : Pos}
theorem lc_of {wi : TI} {t : Tg} {m : Fx (List D)} {tt : Fx Bool} {te : Fx D} {vs : List Nat} (h2 : ∀ σ H R, (∃ Z F en, SR X.K Z F H en σ ∧ RP X.K W Z F σ (m en) fun ds en' F' H' => ∀ J, Gw X.K F' ds J → R J H') → wi σ H R) (hts : ∀ j ∈ slotsT t, j ∈ vs) :
    ∀ σ H Q, cR X.K W (mLc vs t m tt te) σ H Q → tLc wi (cG X.K t) (cT X.K W0 tt) (cV X.K W0 te) vs σ H Q := fun σ H Q ⟨Z, F, en, sr, q⟩ => by
  refine h2 σ H _ ⟨Z, F, en, sr, (RP.split q).mono fun ds e1 F1 H1 sr1 f1 p J g => ?_⟩
  intro Dl hD
  by_cases c : (noneLent e1 vs && decide (ds.length < lim)) = true
  · rw [if_pos c] at p
    rw [Bool.and_eq_true, decide_eq_true_eq] at c
    have nl := noLent sr1 c.1
    cases r : lcL t tt te vs ds [] e1 with
    | exn C fs e =>
      rw [r] at p
      exact p.elim
    | bad =>
      rw [r] at p
      exact p.elim
    | ok accf ef =>
      rw [r] at p
      have rv := RV.new (d := .lst []) (o := .lst []) sr1 hD ⟨[], upd_same, .nil⟩
      have nt : ∀ p ∈ Z.T, p.2 ≠ Dl := by
        obtain ⟨a, e, _, _, _, _, nt⟩ := rv
        cases e
        exact nt
      have s0 : SR X.K (Z.acc [] Dl) F1 (upd H1 Dl (.lst [])) e1 σ := (sr1.fresh hD).hang (by
        obtain ⟨a, e, x1, x2, x3, x4, x5⟩ := rv
        exact ⟨a, e, x1, x2, x3, x4, x5⟩)
      refine lc_loop g nl nt hts (s0.wipe nl) (by simpa using c.2) r fun F2 H2 f2 s2 => ?_
      have s3 := s2.unwipe
      have s4 : SR X.K (Z.acc accf Dl) F2 H2 (restore e1 vs (wipeEn ef vs)) σ := s3.restore nl fun v d q => by
        obtain ⟨x, h1, h2⟩ := sr1.valAt q
        exact ⟨x, h1, h2.mono f2⟩
      obtain ⟨x1, x2, x3⟩ := s4.t1 (.lst accf, Dl) List.mem_cons_self
      exact p F2 H2 s4.drop f2 _ ⟨Dl, rfl, x1, x2, x3, s4.t2 (.lst accf, Dl) List.mem_cons_self, nt⟩
  · rw [if_neg c] at p
    exact p.elim
theorem er_lc {t : Tg} {m : Fx (List D)} {tt : Fx Bool} {te : Fx D} (hc : X.calm = true) (hN : X.N.Nodup) (hi : EI X W m tg iter) (ok : BlkOk X.N X.env.scope scope own) (hts : ∀ j ∈ slotsT t, j ∈ own.map (·.2))
    (hg : ∀ (s : Shared) (H : Hp) (C : Addr) (cl : List (Str × Addr)) (fp : List Addr), PG (X.blk s H scope (compEnvC scope cl C X.env) fp) tg (cG X.K t))
    (ht : ∀ (s : Shared) (H : Hp) (C : Addr) (cl : List (Str × Addr)) (fp : List Addr), PTs (X.blk s H scope (compEnvC scope cl C X.env) fp) ifs (cT X.K W0 tt))
    (he : ∀ (s : Shared) (H : Hp) (C : Addr) (cl : List (Str × Addr)) (fp : List Addr), EV (X.blk s H scope (compEnvC scope cl C X.env) fp) W0 te elt) (ns : notSet iter = true) :
    ER X W (mLc (own.map (·.2)) t m tt te) (.ListComp elt [⟨tg, iter, ifs, 0⟩] scope pos) := by
  obtain ⟨wi, h1, h2⟩ := hi
  exact (pe_lc hc hN h1 ok hg ht he (no_set ns)).weak (lc_of h2 hts)
theorem es_setLc {t : Tg} {m : Fx (List D)} {tt : Fx Bool} {te : Fx D} {i : Nat} {y : Str} {py spos : Pos} (hc : X.calm = true) (hN : X.N.Nodup) (hy : X.N[i]? = some y) (hyl : X.env.scope.names.lookup y = some .local)
    (hsw : swapsWith (.ListComp elt [⟨tg, iter, ifs, 0⟩] scope pos) (some (.Name y py)) spos.line X.env = pure true) (hi : EI X W m tg iter) (ok : BlkOk X.N X.env.scope scope own) (hts : ∀ j ∈ slotsT t, j ∈ own.map (·.2))
    (hg : ∀ (s : Shared) (H : Hp) (C : Addr) (cl : List (Str × Addr)) (fp : List Addr), PG (X.blk s H scope (compEnvC scope cl C X.env) fp) tg (cG X.K t))
    (ht : ∀ (s : Shared) (H : Hp) (C : Addr) (cl : List (Str × Addr)) (fp : List Addr), PTs (X.blk s H scope (compEnvC scope cl C X.env) fp) ifs (cT X.K W0 tt))
    (he : ∀ (s : Shared) (H : Hp) (C : Addr) (cl : List (Str × Addr)) (fp : List Addr), EV (X.blk s H scope (compEnvC scope cl C X.env) fp) W0 te elt) (ns : notSet iter = true) :
    ES X W (sSet i (mLc (own.map (·.2)) t m tt te)) (.Assign [.Name y py] (.ListComp elt [⟨tg, iter, ifs, 0⟩] scope pos) spos) := by
  obtain ⟨wi, h1, h2⟩ := hi
  refine (ps_setLc hc hN hy hyl hsw h1 ok hg ht he (no_set ns)).weak fun D σ H ⟨Z, F, en, sr, q⟩ => lc_of h2 hts σ H _ ⟨Z, F, en, sr, (SQ.of q).mono fun r e1 F1 H1 sr1 f1 ⟨s, f, p⟩ v rv => ?_⟩
  cases l : lent e1 i with
  | true =>
    rw [l] at p
    exact p.elim
  | false =>
    rw [l] at p
    exact p (σ.set i (some v)) F1 H1 (sr1.store l rv) .rfl
def mYes : Fx Bool := fun en => .ok true en
theorem ets_nil : PTs X [] (cT X.K W mYes) := ⟨fun pins s σ H Q I ⟨Z, F, en, sr, q⟩ => pts_nil.run pins s σ H Q I (q F H sr .rfl)⟩
theorem ets_one {c : Expr} {tt : Fx Bool} (h : ET X W tt c) : PTs X [c] (cT X.K W tt) := pts_one h
end
end Mn
set_option Elab.async false
set_option linter.all false
set_option maxRecDepth 100000
set_option maxHeartbeats 1000000
namespace Mn
open PySem PySem.Spec L2
/-- the arguments behind a call: the lent ones as they are now -/
def pickA (a e : Slot) : Slot := match a with
  | .own true _ => e
  | _ => a
def fin : En → En → En
  | a :: as, e :: es => pickA a e :: fin as es
  | as, _ => as
/-- a def of n parameters and m names in all -/
def semOf (n m : Nat) (body : Fs) : Sem := fun args => if args.length = n then match body (args ++ List.replicate (m - n) .un) with
    | .nx e => .ok (.val .non) (fin args e)
    | .rt r e => .ok r (fin args e)
    | .ex C fs e => .exn C fs (fin args e)
    | _ => .bad
  else .bad
theorem fin_len : ∀ {as es : En}, (fin as es).length = as.length
  | [], es => by cases es <;> rfl
  | a :: as, [] => rfl
  | a :: as, e :: es => congrArg (· + 1) (fin_len (as := as) (es := es))
theorem fin_at : ∀ {as es : En} {i : Nat} {s : Slot}, as.length ≤ es.length → (fin as es)[i]? = some s → ∃ a, as[i]? = some a ∧ ((∃ d, a = .own true d ∧ es[i]? = some s) ∨ ((∀ d, a ≠ .own true d) ∧ s = a)) := by
  intro as
  induction as with
  | nil =>
    intro es i s _ h
    have z : fin [] es = [] := by cases es <;> rfl
    rw [z] at h
    simp at h
  | cons a as ih =>
    intro es i s l h
    cases es with
    | nil => simp at l
    | cons e es =>
      cases i with
      | zero =>
        have h2 : some (pickA a e) = some s := h
        have h3 := Option.some.inj h2
        refine ⟨a, rfl, ?_⟩
        cases a with
        | un => exact .inr ⟨fun d z => (by cases z), h3.symm⟩
        | val d => exact .inr ⟨fun d z => (by cases z), h3.symm⟩
        | own b d =>
          cases b with
          | true => exact .inl ⟨d, rfl, congrArg some h3⟩
          | false => exact .inr ⟨fun d z => (by cases z), h3.symm⟩
      | succ i =>
        have h2 : (fin as es)[i]? = some s := h
        obtain ⟨a', h1, h3⟩ := ih (es := es) (i := i) (by simpa using l) h2
        exact ⟨a', h1, h3⟩
section
variable {K : Fg} {Z : Zr} {F H F' H' : Hp} {args e : En} {σ τ : L2.St}
/-- more slots, of which nothing is told -/
theorem SR.more (h : SR K Z F H args τ) (n : Nat) (xs : L2.St) (hx : xs.length = n) : SR K { Z with n := Z.n + n } F H (args ++ List.replicate n .un) (τ ++ xs) := by
  have back : ∀ {i : Nat} {s : Slot}, (args ++ List.replicate n Slot.un)[i]? = some s → s = .un ∨ args[i]? = some s := fun {i s} q => by
    by_cases l : i < args.length
    · rw [List.getElem?_append_left l] at q
      exact .inr q
    · rw [List.getElem?_append_right (by omega), List.getElem?_replicate] at q
      split at q
      · exact .inl (Option.some.inj q).symm
      · cases q
  have backV : ∀ {i : Nat} {s : Slot} {ov : Option V}, args[i]? = some s → (τ ++ xs)[i]? = some ov → τ[i]? = some ov := fun {i s ov} q e => by
    have l : i < τ.length := by rw [← h.len]; exact (List.getElem?_eq_some_iff.mp q).1
    rw [List.getElem?_append_left l] at e
    exact e
  have fwd : ∀ {i : Nat} {s : Slot}, args[i]? = some s → (args ++ List.replicate n Slot.un)[i]? = some s := fun {i s} q => by
    rw [List.getElem?_append_left (List.getElem?_eq_some_iff.mp q).1]
    exact q
  have fwdV : ∀ {i : Nat} {ov : Option V}, τ[i]? = some ov → (τ ++ xs)[i]? = some ov := fun {i ov} q => by
    rw [List.getElem?_append_left (List.getElem?_eq_some_iff.mp q).1]
    exact q
  exact {
    ex := h.ex
    len := by rw [List.length_append, List.length_append, List.length_replicate, h.len, hx]
    ln := by rw [List.length_append, hx, h.ln]
    rel := fun i s ov e1 e2 => by
      rcases back e1 with z | e1
      · subst z
        trivial
      · exact h.rel i s ov e1 (backV e1 e2)
    dist := fun i j a b c d e e1 e2 e3 e4 => by
      rcases back e1 with z | e1
      · cases z
      rcases back e2 with z | e2
      · cases z
      exact h.dist i j a b c d e e1 e2 (backV e1 e3) (backV e2 e4)
    k1 := h.k1
    k2 := h.k2
    k3 := h.k3
    k4 := fun i d a e1 e2 => by
      rcases back e1 with z | e1
      · cases z
      exact h.k4 i d a e1 (backV e1 e2)
    k5 := fun p hp => by
      obtain ⟨e1, d, e2⟩ := h.k5 p hp
      exact ⟨fwdV e1, d, fwd e2⟩
    k6 := fun i d a e1 e2 => by
      rcases back e1 with z | e1
      · cases z
      exact h.k6 i d a e1 (backV e1 e2)
    t1 := h.t1
    t2 := fun p hp j b e e1 e2 => by
      rcases back e1 with z | e1
      · cases z
      exact h.t2 p hp j b e e1 (backV e1 e2) }
theorem SR.fin {m : Nat} (h0 : SR K Z F H args τ) (h : SR K { Z with n := m } F' H' e σ) (f : Sub F F') (hl : args.length ≤ e.length) (hz : ∀ a, H a ≠ none → Z.H a ≠ none) : SR K Z F' H' (fin args e) τ := by
  have old : ∀ {i : Nat} {b : Bool} {d : D}, (Mn.fin args e)[i]? = some (.own b d) → b = true ∧ e[i]? = some (.own true d) ∧ ∃ a, (i, a) ∈ Z.P ∧ τ[i]? = some (some (.ref a)) ∧ σ[i]? = some (some (.ref a)) := fun {i b d} q => by
    obtain ⟨a, h1, h2⟩ := fin_at hl q
    rcases h2 with ⟨d', rfl, h2⟩ | ⟨h2, h3⟩
    · obtain ⟨x, g1, _⟩ := h0.ownAt h1
      have m := h0.k6 i d' x h1 g1
      obtain ⟨g2, d2, g3⟩ := h.k5 _ m
      rw [h2] at g3
      cases g3
      exact ⟨rfl, h2, x, m, g1, g2⟩
    · subst h3
      cases b with
      | true => exact absurd rfl (h2 d)
      | false =>
        obtain ⟨x, g1, _, g3⟩ := h0.ownAt h1
        obtain ⟨o, ho⟩ := g3.some
        exact absurd (h0.k4 i d x h1 g1) (hz x (by rw [ho]; exact Option.some_ne_none o))
  exact {
    ex := h.ex
    len := by rw [fin_len]; exact h0.len
    ln := h0.ln
    rel := fun i s ov e1 e2 => by
      obtain ⟨a, h1, h2⟩ := fin_at hl e1
      cases s with
      | un => trivial
      | val d =>
        rcases h2 with ⟨d', rfl, h2⟩ | ⟨h2, h3⟩
        · obtain ⟨x, g1, _⟩ := h0.ownAt h1
          obtain ⟨_, d2, g3⟩ := h.k5 _ (h0.k6 i d' x h1 g1)
          rw [h2] at g3
          cases g3
        · subst h3
          obtain ⟨v, r1, r2⟩ := h0.rel i _ ov h1 e2
          exact ⟨v, r1, r2.mono f⟩
      | own b d =>
        obtain ⟨rfl, g2, x, m, g3, g4⟩ := old e1
        rw [g3] at e2
        cases e2
        obtain ⟨y, q1, q2, q3⟩ := h.ownAt g2
        rw [g4] at q1
        cases q1
        exact ⟨x, rfl, q2, q3⟩
    dist := fun i j a b c d e' e1 e2 e3 e4 => by
      obtain ⟨rfl, g2, x, m, g3, g4⟩ := old e1
      obtain ⟨rfl, k2, y, n, k3, k4⟩ := old e2
      rw [e3] at g3
      cases g3
      rw [e4] at k3
      cases k3
      exact h.dist i j a true true d e' g2 k2 g4 k4
    k1 := h.k1
    k2 := h.k2
    k3 := h.k3
    k4 := fun i d a e1 e2 => by
      obtain ⟨z, _⟩ := old e1
      cases z
    k5 := fun p hp => by
      obtain ⟨g1, d1, g2⟩ := h0.k5 p hp
      obtain ⟨_, d2, g3⟩ := h.k5 p hp
      refine ⟨g1, d2, ?_⟩
      have li : p.1 < (Mn.fin args e).length := by rw [fin_len]; exact (List.getElem?_eq_some_iff.mp g2).1
      obtain ⟨a, q1, q2⟩ := fin_at hl (i := p.1) (s := (Mn.fin args e)[p.1]) (by simp [li])
      rw [g2] at q1
      cases q1
      rcases q2 with ⟨_, _, q2⟩ | ⟨q2, _⟩
      · rw [g3] at q2
        have z : (Mn.fin args e)[p.1] = .own true d2 := (Option.some.inj q2).symm
        simp [li, z]
      · exact absurd rfl (q2 d1)
    k6 := fun i d a e1 e2 => by
      obtain ⟨_, _, x, m, g3, _⟩ := old e1
      rw [e2] at g3
      cases g3
      exact m
    t1 := h.t1
    t2 := fun p hp j b d e1 e2 => by
      obtain ⟨rfl, g2, x, m, g3, g4⟩ := old e1
      rw [e2] at g3
      cases g3
      exact h.t2 p hp j true d g2 g4 }
end
section
variable {P : Program} {w : World} {K : Fg} {mg : Str → Option Value} {base : Heap}
/-- the wish of a def's body -/
abbrev wE (E : XK) : WX := fun cls d _ H => E cls d H
/-- a def by its body -/
theorem def_ok {x qual : Str} {params : Arguments} {body : List Stmt} {scope : Scope} {f : Addr} {fd : FuncData} {N ps : List Str} {k : Nat} {b : Fs} (D : FunD K x qual params body scope [] [] f fd) (S : FnScope N ps scope)
    (hb : ∀ (cdv : Value) (A : Around) (outer : List PySem.Env) (s : Shared) (H : Hp) (E : XK), RoomG k (A.deeper (PyProof.Rows.envOfC qual scope s.heap.objs.size f cdv)) →
      ESs (cxOf (L2.CX P w) P w K mg base N qual scope f cdv A outer s H E) (wE E) b body) : FnG P w K mg base (k + 1) f fd ps (semOf ps.length N.length b) := by
  obtain ⟨oc, od, dV, kV, doc, pm, an, cdv, ct, osl, rfl, lk, hcd, _, _⟩ := D.ex
  refine fng lk hcd S fun A outer s H vs Q E hr hl ⟨Z, F, args, zH, zF, sr, q⟩ => ⟨_, hb cdv A outer s H E hr, ?_⟩
  have la : args.length = ps.length := by
    have z := sr.len
    rw [List.length_map] at z
    omega
  have hpl : ps.length ≤ N.length := by
    have z := congrArg List.length S.pre
    rw [List.length_take] at z
    omega
  unfold semOf at q
  rw [if_pos la] at q
  have sr2 : SR K { Z with n := Z.n + (N.length - ps.length) } F H (args ++ List.replicate (N.length - ps.length) .un) (L2.start N vs) := by
    unfold L2.start
    rw [hl]
    exact sr.more (N.length - ps.length) _ List.length_replicate
  have hz : ∀ a, H a ≠ none → Z.H a ≠ none := fun a h => by rw [zH]; exact h
  refine ⟨_, F, _, sr2, ?_⟩
  have back : ∀ {e : En} {σ' : L2.St} {F' H' : Hp}, SR K { Z with n := Z.n + (N.length - ps.length) } F' H' e σ' → Sub F F' → SR K Z F' H' (fin args e) (vs.map some) := fun {e σ' F' H'} s f => sr.fin s f (by
    have z1 := s.len
    have z2 := s.ln
    have z3 := sr.len
    have z4 := sr.ln
    dsimp only at z2
    omega) hz
  cases r : b (args ++ List.replicate (N.length - ps.length) .un) with
  | nx e =>
    rw [r] at q
    exact fun σ' F' H' s f => q .non F' H' (back s f) .non
  | bk e =>
    rw [r] at q
    exact q.elim
  | ct e =>
    rw [r] at q
    exact q.elim
  | rt v e =>
    rw [r] at q
    exact fun u σ' F' H' s f av => q u F' H' (back s f) av
  | ex C fs e =>
    rw [r] at q
    exact fun d gs σ' F' H' s f hd rf => q d gs F' H' (back s f) hd rf
  | bad =>
    rw [r] at q
    exact q.elim
end
end Mn
set_option Elab.async false
set_option linter.all false
set_option maxRecDepth 100000
set_option maxHeartbeats 1000000
namespace Mn
open PySem PySem.Spec L2
section
variable {K : Fg} {Z : Zr} {F H : Hp} {en : En} {σ : L2.St} {Q : VK}
theorem Gives.v {d : D} {v : V} (g : Gives K Z F H en σ (.val d) Q) (sr : SR K Z F H en σ) (r : Rep K F v d) : Q v H := g v F H sr .rfl r
theorem Gives.tup {vs : List V} {xs : List D} (g : Gives K Z F H en σ (.val (.tup xs)) Q) (sr : SR K Z F H en σ) (r : Reps K F vs xs) : ∀ p, H p = none → Q (.ref p) (upd H p (.tup vs)) := fun p hp => by
  have fp := sr.ex.none hp
  exact g _ _ _ (sr.laid hp) (.up fp) (.tup upd_same (r.mono (.up fp)))
theorem Gives.lst {vs : List V} {xs : List D} (g : Gives K Z F H en σ (.own false (.lst xs)) Q) (sr : SR K Z F H en σ) (r : Reps K F vs xs) : ∀ p, H p = none → Q (.ref p) (upd H p (.lst vs)) := fun p hp =>
  g _ F _ (sr.fresh hp) .rfl (RV.new sr hp ⟨vs, upd_same, r⟩)
theorem Reps.int : ∀ {vs : List V} {is : List Int}, Reps K F vs (is.map D.int) → vs = is.map V.int
  | _, [], .nil => rfl
  | _, i :: r, .cons a q => by
    cases a
    rw [Reps.int q]
    rfl
theorem Reps.bl : ∀ {vs : List V} {bs : List Bool}, Reps K F vs (bs.map D.bl) → vs = bs.map V.bl
  | _, [], .nil => rfl
  | _, i :: r, .cons a q => by
    cases a
    rw [Reps.bl q]
    rfl
end
/-- all ints, all bools -/
def intsD : List D → Option (List Int)
  | [] => some []
  | .int i :: r => match intsD r with
    | some is => some (i :: is)
    | none => none
  | _ :: _ => none
def blsD : List D → Option (List Bool)
  | [] => some []
  | .bl i :: r => match blsD r with
    | some is => some (i :: is)
    | none => none
  | _ :: _ => none
theorem ints_of : ∀ {ds : List D} {is : List Int}, intsD ds = some is → ds = is.map D.int
  | [], _, h => by cases h; rfl
  | d :: ds, is, h => by
    cases d with
    | int i =>
      unfold intsD at h
      cases q : intsD ds with
      | none => rw [q] at h; cases h
      | some js =>
        rw [q] at h
        cases h
        rw [ints_of q]
        rfl
    | _ => cases h
theorem ints_map : ∀ {is : List Int}, intsD (is.map D.int) = some is
  | [] => rfl
  | i :: r => by
    show (match intsD (r.map D.int) with | some is => some (i :: is) | none => none) = _
    rw [ints_map]
theorem bls_of : ∀ {ds : List D} {is : List Bool}, blsD ds = some is → ds = is.map D.bl
  | [], _, h => by cases h; rfl
  | d :: ds, is, h => by
    cases d with
    | bl i =>
      unfold blsD at h
      cases q : blsD ds with
      | none => rw [q] at h; cases h
      | some js =>
        rw [q] at h
        cases h
        rw [bls_of q]
        rfl
    | _ => cases h
theorem bls_map : ∀ {is : List Bool}, blsD (is.map D.bl) = some is
  | [] => rfl
  | i :: r => by
    show (match blsD (r.map D.bl) with | some is => some (i :: is) | none => none) = _
    rw [bls_map]
section
variable {K : Fg} {F H : Hp} {v : V} {d : D}
/-- a sequence as it stands now -/
theorem Now.seq {ds : List D} (x : Sub F H) (h : Now K F H v d) (e : itemsOf d = some ds) : ∃ a vs, v = .ref a ∧ (SqL K H a vs ∨ SqT K H a vs) ∧ Reps K F vs ds := by
  cases d with
  | lst xs =>
    cases e
    obtain ⟨a, vs, e1, e2, e3⟩ := h.lst x
    exact ⟨a, vs, e1, .inl (SqL.of e2), e3⟩
  | tup xs =>
    cases e
    obtain ⟨a, vs, e1, e2, e3, _⟩ := h.tup x
    exact ⟨a, vs, e1, .inr e2, e3⟩
  | tpb xs =>
    cases e
    obtain ⟨a, vs, e1, e2, e3, _⟩ := h.tpb x
    exact ⟨a, vs, e1, .inr e2.sq, e3⟩
  | scr is =>
    cases e
    obtain ⟨a, e1, e2⟩ := h.scr x
    exact ⟨a, _, e1, .inl e2, Reps.ints⟩
  | _ => cases e
/-- a list as it stands now -/
def lItems : D → Option (List D)
  | .lst xs => some xs
  | .scr is => some (is.map .int)
  | _ => none
theorem Now.lsq {ds : List D} (x : Sub F H) (h : Now K F H v d) (e : lItems d = some ds) : ∃ a vs, v = .ref a ∧ SqL K H a vs ∧ Reps K F vs ds := by
  cases d with
  | lst xs =>
    cases e
    obtain ⟨a, vs, e1, e2, e3⟩ := h.lst x
    exact ⟨a, vs, e1, SqL.of e2, e3⟩
  | scr is =>
    cases e
    obtain ⟨a, e1, e2⟩ := h.scr x
    exact ⟨a, _, e1, e2, Reps.ints⟩
  | _ => cases e
end
mutual
def toP : D → PyData
  | .non => .none
  | .bl b => .bool b
  | .int i => .int i
  | .str x => .str x
  | .tup xs => .tuple (toPs xs)
  | .tpb xs => .tuple (toPs xs)
  | .lst xs => .list (toPs xs)
  | .scr is => .list (is.map PyData.int)
  | _ => .none
def toPs : List D → List PyData
  | [] => []
  | x :: r => toP x :: toPs r
end
mutual
def plain : D → Bool
  | .tup xs => plains xs
  | .tpb xs => plains xs
  | .lst xs => plains xs
  | .ins _ _ => false
  | .dic _ => false
  | .ty _ => false
  | .cls _ => false
  | _ => true
def plains : List D → Bool
  | [] => true
  | x :: r => plain x && plains r
end
section
variable {K : Fg} {F H : Hp}
theorem dp_ints : ∀ {is : List Int}, DpAll K H (is.map V.int) (is.map PyData.int)
  | [] => .nil
  | i :: r => .cons (.int i) dp_ints
mutual
theorem Rep.dp (x : Sub F H) : ∀ {v : V} {d : D}, Rep K F v d → plain d = true → Dp K H v (toP d)
  | _, _, .non, _ => .non
  | _, _, .bl b, _ => .bl b
  | _, _, .int i, _ => .int i
  | _, _, .str z, _ => .str z
  | _, _, .tup q r, h => .tup (SqT.of (x _ _ q)) (Reps.dp' x r h)
  | _, _, .lst q r, h => .lst (SqL.of (x _ _ q)) (Reps.dp' x r h)
  | _, _, .scr q, _ => .lst (x.sqL q) dp_ints
  | _, _, .ins _ _, h => by cases h
  | _, _, .dic _ _, h => by cases h
  | _, _, .tpb q r, h => .tup (x.tpb q).sq (Reps.dp' x r h)
  | _, _, .ty _, h => by cases h
  | _, _, .cls _, h => by cases h
theorem Reps.dp' (x : Sub F H) : ∀ {vs : List V} {ds : List D}, Reps K F vs ds → plains ds = true → DpAll K H vs (toPs ds)
  | _, _, .nil, _ => .nil
  | _, _, .cons a r, h => by
    have h' : (plain _ && plains _) = true := h
    rw [Bool.and_eq_true] at h'
    exact .cons (Rep.dp x a h'.1) (Reps.dp' x r h'.2)
end
theorem Now.dp {v : V} {d : D} (x : Sub F H) (h : Now K F H v d) (p : plain d = true) : Dp K H v (toP d) := by
  rcases h with h | ⟨a, rfl, _, c⟩
  · exact h.dp x p
  · cases d with
    | lst xs =>
      obtain ⟨vs, q, r⟩ := c
      exact .lst (SqL.of q) (Reps.dp' x r p)
    | ins C fs => cases p
    | dic kvs => cases p
    | _ => exact c.elim
end
def canEq (x y : D) : Bool := plain x && plain y && SeqAt.shaped (toP x) && SeqAt.shaped (toP y)
def eqD (x y : D) : Option Slot := if canEq x y = true then some (.val (.bl (PyData.eqv (toP x) (toP y)))) else none
def neD (x y : D) : Option Slot := if canEq x y = true then some (.val (.bl (!PyData.eqv (toP x) (toP y)))) else none
theorem canEq_of {x y : D} (h : canEq x y = true) : plain x = true ∧ plain y = true ∧ SeqAt.shaped (toP x) = true ∧ SeqAt.shaped (toP y) = true := by
  unfold canEq at h
  rw [Bool.and_eq_true, Bool.and_eq_true, Bool.and_eq_true] at h
  exact ⟨h.1.1.1, h.1.1.2, h.1.2, h.2⟩
section
variable {K : Fg}
theorem ok_eq : Op2 K (rEqD K) eqD := by
  intro Z F H en σ x y dx dy s Q sr hx hy e g
  unfold eqD at e
  by_cases c : canEq dx dy = true
  · rw [if_pos c] at e
    cases e
    obtain ⟨p1, p2, s1, s2⟩ := canEq_of c
    exact ⟨_, _, hx.dp sr.ex p1, hy.dp sr.ex p2, s1, s2, g.v sr (.bl _)⟩
  · rw [if_neg c] at e
    cases e
theorem ok_ne : Op2 K (rNeD K) neD := by
  intro Z F H en σ x y dx dy s Q sr hx hy e g
  unfold neD at e
  by_cases c : canEq dx dy = true
  · rw [if_pos c] at e
    cases e
    obtain ⟨p1, p2, s1, s2⟩ := canEq_of c
    exact ⟨_, _, hx.dp sr.ex p1, hy.dp sr.ex p2, s1, s2, g.v sr (.bl _)⟩
  · rw [if_neg c] at e
    cases e
end
abbrev rOr (r r' : R2) : R2 := fun x y H Q => r x y H Q ∨ r' x y H Q
abbrev rAddS : R2 := fun x y H Q => ∃ i j, x = .str i ∧ y = .str j ∧ i.length + j.length ≤ sizeLine ∧ Q (.str (i ++ j)) H
def rAddA (K : Fg) : R2 := rOr (rI0 fun i j => .int (i + j)) (rOr rAddS (rOr (rCatA K) rCat))
def addD : D → D → Option Slot
  | .int i, .int j => some (.val (.int (i + j)))
  | .str i, .str j => if i.length + j.length ≤ sizeLine then some (.val (.str (i ++ j))) else none
  | .tup xs, .tup ys => if xs.length + ys.length ≤ sizeLine then some (.val (.tup (xs ++ ys))) else none
  | .lst xs, .lst ys => if xs.length + ys.length ≤ sizeLine then some (.own false (.lst (xs ++ ys))) else none
  | _, _ => none
theorem opr_add {X : Cx} : OpR X (binaryOp .Add) (rAddA X.K) := OpR.or op_add (OpR.or op_add_str (OpR.or op_catA op_cat))
section
variable {K : Fg}
theorem ok_add : Op2 K (rAddA K) addD := by
  intro Z F H en σ x y dx dy s Q sr hx hy e g
  unfold addD at e
  split at e
  · cases e
    cases hx.int
    cases hy.int
    exact .inl ⟨_, _, rfl, rfl, g.v sr (.int _)⟩
  · split at e
    · rename_i c
      cases e
      cases hx.str
      cases hy.str
      exact .inr (.inl ⟨_, _, rfl, rfl, c, g.v sr (.str _)⟩)
    · cases e
  · split at e
    · rename_i xs ys c
      cases e
      obtain ⟨a, vs, rfl, q1, r1, p1⟩ := hx.tup sr.ex
      obtain ⟨b, us, rfl, q2, r2, p2⟩ := hy.tup sr.ex
      refine .inr (.inr (.inl ⟨a, b, vs, us, rfl, rfl, q1, q2, by rw [r1.length, r2.length]; exact c, fun e => ?_, fun _ e => ?_, fun _ _ => g.tup sr (r1.app r2)⟩))
      · subst e
        cases r1
        exact g.v sr p2
      · subst e
        cases r2
        rw [List.append_nil] at g
        exact g.v sr p1
    · cases e
  · split at e
    · rename_i xs ys c
      cases e
      obtain ⟨a, vs, rfl, q1, r1⟩ := hx.lst sr.ex
      obtain ⟨b, us, rfl, q2, r2⟩ := hy.lst sr.ex
      exact .inr (.inr (.inr ⟨a, b, vs, us, rfl, rfl, q1, q2, by rw [r1.length, r2.length]; exact c, g.lst sr (r1.app r2)⟩))
    · cases e
  · cases e
theorem Reps.rep {F : Hp} {vs : List V} {xs : List D} (r : Reps K F vs xs) : ∀ n : Nat, Reps K F (List.replicate n vs).flatten (List.replicate n xs).flatten
  | 0 => .nil
  | n + 1 => by
    rw [List.replicate_succ, List.flatten_cons, List.replicate_succ, List.flatten_cons]
    exact r.app (Reps.rep r n)
/-- an op of ints -/
def iOp (c : Int → Int → Bool) (f : Int → Int → D) : D → D → Option Slot
  | .int i, .int j => if c i j = true then some (.val (f i j)) else none
  | _, _ => none
theorem ok_iOp {c : Int → Int → Bool} {f : Int → Int → D} {C : Int → Int → Prop} {g : Int → Int → V} (hc : ∀ i j, c i j = true → C i j) (hf : ∀ F i j, Rep K F (g i j) (f i j)) : Op2 K (rI C g) (iOp c f) := by
  intro Z F H en σ x y dx dy s Q sr hx hy e gv
  unfold iOp at e
  split at e
  · split at e
    · rename_i i j c
      cases e
      cases hx.int
      cases hy.int
      exact ⟨_, _, rfl, rfl, hc _ _ c, gv.v sr (hf _ _ _)⟩
    · cases e
  · cases e
theorem ok_iOp0 {f : Int → Int → D} {g : Int → Int → V} (hf : ∀ F i j, Rep K F (g i j) (f i j)) : Op2 K (rI0 g) (iOp (fun _ _ => true) f) := by
  intro Z F H en σ x y dx dy s Q sr hx hy e gv
  unfold iOp at e
  split at e
  · split at e
    · rename_i i j c
      cases e
      cases hx.int
      cases hy.int
      exact ⟨_, _, rfl, rfl, gv.v sr (hf _ _ _)⟩
    · cases e
  · cases e
end
def subD := iOp (fun _ _ => true) fun i j => .int (i - j)
def fdivD := iOp (fun _ j => decide (j ≠ 0) && decide (j.natAbs < 1073741824)) fun i j => .int (i.fdiv j)
def modD := iOp (fun _ j => decide (j ≠ 0)) fun i j => .int (i.fmod j)
def powD := iOp (fun i j => decide (0 ≤ j) && decide (j ≤ 1000000) && decide (i.natAbs < 2 ^ 64)) fun i j => .int (i ^ j.toNat)
def ltD := iOp (fun _ _ => true) fun i j => .bl (decide (i < j))
def leD := iOp (fun _ _ => true) fun i j => .bl (decide (i ≤ j))
def gtD := iOp (fun _ _ => true) fun i j => .bl (decide (j < i))
def geD := iOp (fun _ _ => true) fun i j => .bl (decide (j ≤ i))
section
variable {K : Fg}
theorem ok_sub : Op2 K (rI0 fun i j => .int (i - j)) subD := ok_iOp0 fun _ _ _ => .int _
theorem ok_fdiv : Op2 K (rI CDivN fun i j => .int (i.fdiv j)) fdivD := ok_iOp (fun i j h => by
  rw [Bool.and_eq_true, decide_eq_true_eq, decide_eq_true_eq] at h
  exact h) fun _ _ _ => .int _
theorem ok_mod : Op2 K (rI (fun _ j => j ≠ 0) fun i j => .int (i.fmod j)) modD := ok_iOp (fun i j h => by
  rw [decide_eq_true_eq] at h
  exact h) fun _ _ _ => .int _
theorem ok_pow : Op2 K (rI CPow fun i j => .int (i ^ j.toNat)) powD := ok_iOp (fun i j h => by
  rw [Bool.and_eq_true, Bool.and_eq_true, decide_eq_true_eq, decide_eq_true_eq, decide_eq_true_eq] at h
  exact ⟨h.1.1, h.1.2, h.2⟩) fun _ _ _ => .int _
theorem ok_lt : Op2 K (rI0 fun i j => .bl (decide (i < j))) ltD := ok_iOp0 fun _ _ _ => .bl _
theorem ok_le : Op2 K (rI0 fun i j => .bl (decide (i ≤ j))) leD := ok_iOp0 fun _ _ _ => .bl _
theorem ok_gt : Op2 K (rI0 fun i j => .bl (decide (j < i))) gtD := ok_iOp0 fun _ _ _ => .bl _
theorem ok_ge : Op2 K (rI0 fun i j => .bl (decide (j ≤ i))) geD := ok_iOp0 fun _ _ _ => .bl _
end
def negD : D → Option Slot
  | .int i => some (.val (.int (-i)))
  | _ => none
theorem ok_neg {K : Fg} : Op1 K (rU fun i => .int (-i)) negD := by
  intro Z F H en σ x dx s Q sr n e g
  cases dx with
  | int i =>
    cases e
    cases n.int
    exact ⟨i, rfl, g.v sr (.int _)⟩
  | _ => cases e
def isNon : D → Bool
  | .non => true
  | _ => false
theorem Now.isNon {K : Fg} {F H : Hp} {v : V} {d : D} (h : Now K F H v d) : decide (v = V.non) = isNon d := by
  rcases h with h | ⟨a, rfl, _, c⟩
  · cases h <;> rfl
  · cases d with
    | non => exact c.elim
    | _ => rfl
def isD (x y : D) : Option Slot := match y with
  | .non => some (.val (.bl (isNon x)))
  | _ => none
def isntD (x y : D) : Option Slot := match y with
  | .non => some (.val (.bl (!isNon x)))
  | _ => none
section
variable {K : Fg}
theorem ok_is : Op2 K (fun x y H Q => y = .non ∧ Q (.bl (decide (x = .non))) H) isD := by
  intro Z F H en σ x y dx dy s Q sr hx hy e g
  cases dy with
  | non =>
    cases e
    refine ⟨hy.non, ?_⟩
    rw [hx.isNon]
    exact g.v sr (.bl _)
  | _ => cases e
theorem ok_isnt : Op2 K (fun x y H Q => y = .non ∧ Q (.bl (!decide (x = .non))) H) isntD := by
  intro Z F H en σ x y dx dy s Q sr hx hy e g
  cases dy with
  | non =>
    cases e
    refine ⟨hy.non, ?_⟩
    rw [hx.isNon]
    exact g.v sr (.bl _)
  | _ => cases e
end
def flat : D → Bool
  | .non => true
  | .bl _ => true
  | .int _ => true
  | .str _ => true
  | _ => false
section
variable {K : Fg} {F H : Hp}
theorem Rep.flat {v : V} {d : D} (h : Rep K F v d) (f : Mn.flat d = true) : flatV v = true := by
  cases h <;> first | rfl | cases f
theorem Reps.flat {vs : List V} {ds : List D} (h : Reps K F vs ds) (f : ds.all Mn.flat = true) : vs.all flatV = true := by
  induction vs generalizing ds with
  | nil => rfl
  | cons v vs ih =>
    cases h with
    | cons a r =>
      rw [List.all_cons, Bool.and_eq_true] at f ⊢
      exact ⟨a.flat f.1, ih r f.2⟩
theorem eqV_of {v u : V} {d e : D} (h : Rep K F v d) (k : Rep K F u e) (f : Mn.flat d = true) (g : Mn.flat e = true) : eqV v u = PyData.eqv (toP d) (toP e) := by
  cases h <;> first | (cases f; done) | (cases k <;> first | (cases g; done) | (unfold eqV toP PyData.eqv; rfl))
theorem inV_of {v : V} {d : D} {vs : List V} {ds : List D} (h : Rep K F v d) (f : Mn.flat d = true) (r : Reps K F vs ds) (g : ds.all Mn.flat = true) : inV v vs = ds.any fun z => PyData.eqv (toP z) (toP d) := by
  unfold inV
  induction vs generalizing ds with
  | nil =>
    cases r
    rfl
  | cons u us ih =>
    cases r with
    | cons a r =>
      rw [List.all_cons, Bool.and_eq_true] at g
      rw [List.any_cons, List.any_cons, eqV_of a h g.1 f, ih r g.2]
end
def isIn (x : D) (ds : List D) : Bool := ds.any fun z => PyData.eqv (toP z) (toP x)
def inOp (neg : Bool) (x y : D) : Option Slot := match itemsOf y with
  | none => none
  | some ds => if (flat x && ds.all flat) = true then some (.val (.bl (if neg then !isIn x ds else isIn x ds)))
    else match y with
      | .lst ds => if (plain x && plains ds && SeqAt.shaped (toP x) && SeqAt.shaped (.list (toPs ds))) = true then some (.val (.bl (if neg then !isIn x ds else isIn x ds))) else none
      | _ => none
def rInA (K : Fg) : R2 := rOr (rIn K false) (rInD K)
def rNotInA (K : Fg) : R2 := rOr (rIn K true) (rNotInD K)
theorem any_toPs {x : D} : ∀ {ds : List D}, ((toPs ds).any fun z => PyData.eqv z (toP x)) = isIn x ds
  | [] => rfl
  | d :: r => by
    show (PyData.eqv (toP d) (toP x) || (toPs r).any _) = (PyData.eqv (toP d) (toP x) || r.any _)
    rw [any_toPs]
    rfl
section
variable {K : Fg}
theorem ok_in : Op2 K (rInA K) (inOp false) := by
  intro Z F H en σ x y dx dy s Q sr hx hy e g
  unfold inOp at e
  cases q : itemsOf dy with
  | none => rw [q] at e; cases e
  | some ds =>
    rw [q] at e
    dsimp only at e
    by_cases c : (flat dx && ds.all flat) = true
    · rw [if_pos c] at e
      cases e
      rw [Bool.and_eq_true] at c
      obtain ⟨a, vs, rfl, hq, r⟩ := hy.seq sr.ex q
      have rx : Rep K F x dx := hx.rep fun a z => by cases dx <;> first | exact z | cases c.1
      refine .inl ⟨a, vs, rfl, hq, rx.flat c.1, r.flat c.2, ?_⟩
      rw [inV_of rx c.1 r c.2]
      exact g.v sr (.bl _)
    · rw [if_neg c] at e
      cases dy with
      | lst xs =>
        cases q
        dsimp only at e
        split at e
        · rename_i c2
          cases e
          rw [Bool.and_eq_true, Bool.and_eq_true, Bool.and_eq_true] at c2
          refine .inr ⟨toP dx, toPs ds, hx.dp sr.ex c2.1.1.1, hy.dp sr.ex c2.1.1.2, c2.1.2, c2.2, ?_⟩
          rw [any_toPs]
          exact g.v sr (.bl _)
        · cases e
      | _ => cases e
theorem ok_notIn : Op2 K (rNotInA K) (inOp true) := by
  intro Z F H en σ x y dx dy s Q sr hx hy e g
  unfold inOp at e
  cases q : itemsOf dy with
  | none => rw [q] at e; cases e
  | some ds =>
    rw [q] at e
    dsimp only at e
    by_cases c : (flat dx && ds.all flat) = true
    · rw [if_pos c] at e
      cases e
      rw [Bool.and_eq_true] at c
      obtain ⟨a, vs, rfl, hq, r⟩ := hy.seq sr.ex q
      have rx : Rep K F x dx := hx.rep fun a z => by cases dx <;> first | exact z | cases c.1
      refine .inl ⟨a, vs, rfl, hq, rx.flat c.1, r.flat c.2, ?_⟩
      rw [inV_of rx c.1 r c.2]
      exact g.v sr (.bl _)
    · rw [if_neg c] at e
      cases dy with
      | lst xs =>
        cases q
        dsimp only at e
        split at e
        · rename_i c2
          cases e
          rw [Bool.and_eq_true, Bool.and_eq_true, Bool.and_eq_true] at c2
          refine .inr ⟨toP dx, toPs ds, hx.dp sr.ex c2.1.1.1, hy.dp sr.ex c2.1.1.2, c2.1.2, c2.2, ?_⟩
          rw [any_toPs]
          exact g.v sr (.bl _)
        · cases e
      | _ => cases e
end
def ixD (x y : D) : Option Slot := match itemsOf x with
  | none => none
  | some ds => match y with
    | .int i => (atI ds i).map .val
    | _ => none
def rIxA (K : Fg) : R2 := fun x y H Q => rIxL K x y H Q ∨ rIxT K x y H Q
theorem ixr_seq {X : Cx} : IxR X (rIxA X.K) := IxR.or ix_list ix_tup
theorem Reps.atI {K : Fg} {F : Hp} {vs : List V} {ds : List D} {i : Int} {d : D} (r : Reps K F vs ds) (e : L2.atI ds i = some d) : ∃ v, L2.atI vs i = some v ∧ Rep K F v d := by
  unfold L2.atI at e ⊢
  rw [r.length]
  cases q : ixN ds.length i with
  | none => rw [q] at e; cases e
  | some j =>
    rw [q] at e
    exact r.at e
theorem ok_ix {K : Fg} : Op2 K (rIxA K) ixD := by
  intro Z F H en σ x y dx dy s Q sr hx hy e g
  unfold ixD at e
  cases q : itemsOf dx with
  | none => rw [q] at e; cases e
  | some ds =>
    rw [q] at e
    cases dy with
    | int i =>
      cases hy.int
      obtain ⟨a, vs, rfl, hq, r⟩ := hx.seq sr.ex q
      cases q2 : L2.atI ds i with
      | none =>
        dsimp only at e
        rw [q2] at e
        cases e
      | some d =>
        dsimp only at e
        rw [q2] at e
        cases e
        obtain ⟨v, e1, e2⟩ := r.atI q2
        rcases hq with hq | hq
        · exact .inl ⟨a, vs, i, v, rfl, rfl, hq, e1, g.v sr e2⟩
        · exact .inr ⟨a, vs, i, v, rfl, rfl, hq, e1, g.v sr e2⟩
    | _ => cases e
def cutD (xs : List D) (lo hi : Option Int) : List D := (xs.drop (HT.sIx xs.length 0 lo)).take (HT.sIx xs.length xs.length hi - HT.sIx xs.length 0 lo)
def slD (x : D) (lo hi : Option Int) : Option Slot := match x with
  | .tup xs => some (.val (.tup (cutD xs lo hi)))
  | .lst xs => some (.own false (.lst (cutD xs lo hi)))
  | .scr is => some (.own false (.lst (cutD (is.map .int) lo hi)))
  | _ => none
def rSlA2 (K : Fg) : V → Option Int → Option Int → Hp → VK → Prop := fun x lo hi H Q => rSlL K x lo hi H Q ∨ rSlA K x lo hi H Q
theorem slr_seq {X : Cx} : SlR X (rSlA2 X.K) := SlR.or sl_list sl_tupA
theorem Reps.cut {K : Fg} {F : Hp} {vs : List V} {ds : List D} {lo hi : Option Int} (r : Reps K F vs ds) : Reps K F (cutV vs lo hi) (cutD ds lo hi) := by
  unfold cutV cutD
  rw [r.length]
  exact (r.dp _).tk _
theorem cut_all {xs : List D} {lo hi : Option Int} (h : HT.sIx xs.length 0 lo = 0 ∧ HT.sIx xs.length xs.length hi = xs.length) : cutD xs lo hi = xs := by
  unfold cutD
  rw [h.1, h.2]
  simp
theorem ok_sl {K : Fg} : OpS K (rSlA2 K) slD := by
  intro Z F H en σ x dx lo hi s Q sr hx e g
  cases dx with
  | tup xs =>
    cases e
    obtain ⟨a, vs, rfl, q, r, p⟩ := hx.tup sr.ex
    refine .inr ⟨a, vs, rfl, q, fun w => ?_, fun _ => g.tup sr r.cut⟩
    rw [r.length] at w
    rw [cut_all w] at g
    exact g.v sr p
  | lst xs =>
    cases e
    obtain ⟨a, vs, rfl, q, r⟩ := hx.lst sr.ex
    exact .inl ⟨a, vs, rfl, SqL.of q, g.lst sr r.cut⟩
  | scr is =>
    cases e
    obtain ⟨a, rfl, q⟩ := hx.scr sr.ex
    exact .inl ⟨a, _, rfl, q, g.lst sr (Reps.ints.cut)⟩
  | _ => cases e
end Mn
set_option Elab.async false
set_option linter.all false
set_option maxRecDepth 100000
set_option maxHeartbeats 1000000
namespace Mn
open PySem PySem.Spec PyProof.Rows L2
def newT (us : List Value) : Obj := { cls := .type "tuple", data := .seq us.toArray }
section
variable {X : Cx} {pins : List (Addr × Obj)} {σ : L2.St} {H : Hp} {s : Shared} {vs : List V} {us : List Value}
theorem laidB (I : Inv X pins σ H s) (r : Vals vs us) (z : vs.length ≤ sizeLine) : Inv X pins σ (upd H s.heap.objs.size (.frz (newT us) (.tup vs))) { s with heap := s.heap.push (newT us) } :=
  I.laid (t' := s.toks) (fun b u e => Heap.get?_push_of_some _ e) (Nat.le_refl _) ⟨Heap.get?_push_size _ rfl, z, us, r, ⟨_, Heap.get?_push_size _ rfl, rfl, 0, rfl⟩⟩
/-- what a new bare tuple of the values vs gives -/
def NewB (H : Hp) (vs : List V) (Q : VK) : Prop := ∀ p o, H p = none → o.dict = none → Q (.ref p) (upd H p (.frz o (.tup vs)))
theorem newB (I : Inv X pins σ H s) (r : Vals vs us) (z : vs.length ≤ sizeLine) {Q : VK} (q : NewB H vs Q) : EP X pins σ Q (.ref s.heap.objs.size) { s with heap := s.heap.push (newT us) } :=
  ⟨.ref s.heap.objs.size, _, laidB I r z, rfl, q _ _ (I.hok.fresh (Nat.le_refl _)) rfl⟩
end
def tTupB (t : TA) : TE := fun σ H Q => t σ H fun xs H1 => xs.length ≤ sizeLine ∧ NewB H1 xs Q
section
variable {X : Cx} {es : List Expr} {t : TA} {pos : Pos}
theorem pe_tupB {k : Nat} (h : PA X es t) : PE X (.Tuple es k pos) (tTupB t) := ⟨fun pins s σ H Q I hq =>
  wpAny_Tuple_spliced (thn (h.run pos pins s σ H _ I hq) fun us s1 ⟨xs, H1, I1, r, z, q⟩ => ⟨by rw [← r.length]; exact z, newB I1 r z q⟩)⟩
end
section
variable {K : Fg} {Z : Zr} {F H : Hp} {en : En} {σ : L2.St} {Q : VK}
theorem Gives.tpb {vs : List V} {xs : List D} (g : Gives K Z F H en σ (.val (.tpb xs)) Q) (sr : SR K Z F H en σ) (r : Reps K F vs xs) : NewB H vs Q := fun p o hp ho => by
  have fp := sr.ex.none hp
  exact g _ _ _ (sr.laid hp) (.up fp) (.tpb ⟨o, upd_same, ho⟩ (r.mono (.up fp)))
end
/-- a display of a bare tuple -/
def mTupB (ms : List (Fx D)) : Fx D := (mVs ms).bind fun ds en => if ds.length ≤ 1000 then .ok (.tpb ds) en else .bad
section
variable {X : Cx} {W : WX} {es : List Expr} {pos : Pos}
theorem ev_tupB {ms : List (Fx D)} {k : Nat} (ha : PA X es (cVs X.K W (mVs ms))) : EV X W (mTupB ms) (.Tuple es k pos) := by
  refine (pe_tupB ha).weak fun σ H Q ⟨Z, F, en, sr, q⟩ => ⟨Z, F, en, sr, (RP.split q).mono fun ds e1 F1 H1 sr1 f1 p vs r => ?_⟩
  by_cases c : ds.length ≤ 1000
  · rw [if_pos c] at p
    refine ⟨by rw [r.length]; exact Nat.le_trans c (by decide), ?_⟩
    exact Gives.tpb (fun v F' H' s2 f2 rv => p F' H' s2 f2 v rv) sr1 r
  · rw [if_neg c] at p
    exact p.elim
end
/-- a bare tuple added, cut, made of a list -/
def rCatB : R2 := fun x y H Q => ∃ a b xs ys, x = .ref a ∧ y = .ref b ∧ TpB H a xs ∧ TpB H b ys ∧ xs.length + ys.length ≤ sizeLine ∧ (xs = [] → Q (.ref b) H) ∧ (xs ≠ [] → ys = [] → Q (.ref a) H) ∧ (xs ≠ [] → ys ≠ [] → NewB H (xs ++ ys) Q)
def rCutB (K : Fg) : V → Option Int → Option Int → Hp → VK → Prop := fun x lo hi H Q => ∃ a xs, x = .ref a ∧ TpB H a xs ∧
  (HT.sIx xs.length 0 lo = 0 ∧ HT.sIx xs.length xs.length hi = xs.length → Q (.ref a) H) ∧ (¬ (HT.sIx xs.length 0 lo = 0 ∧ HT.sIx xs.length xs.length hi = xs.length) → NewB H (cutV xs lo hi) Q)
def rTupB (K : Fg) : List V → Hp → VK → Prop := fun xs H Q => ∃ p ys, xs = [.ref p] ∧ SqL K H p ys ∧ NewB H ys Q
section
variable {X : Cx}
theorem op_catB : OpR X (binaryOp .Add) rCatB := by
  intro pins s σ H x y v u Q I rx ry ⟨a, b, xs, ys, ex, ey, ha, hb, hz, q0, q1, q2⟩
  subst ex ey
  cases rx
  cases ry
  obtain ⟨its, r1, p1, _⟩ := I.tuple (ha.sq (K := X.K))
  obtain ⟨jts, r2, p2, _⟩ := I.tuple (hb.sq (K := X.K))
  by_cases hx : xs = []
  · subst hx
    cases r1
    exact cat_tup0 p1 p2 ⟨.ref b, H, I, rfl, q0 rfl⟩
  · refine HT.cat_tup p1 p2 (fun z => hx (r1.nil_iff.mp z)) (fun z => ⟨.ref a, H, I, rfl, q1 hx (r2.nil_iff.mp z)⟩) (fun z => ?_) (by rw [← r1.length, ← r2.length]; exact hz)
    exact newB I (r1.append r2) (by rw [List.length_append]; exact hz) (q2 hx fun e => z (r2.nil_iff.mpr e))
theorem sl_catB : SlR X (rCutB X.K) := by
  intro pins s σ H x v vl vu lo hi sl Q I rx hs pl pu ⟨a, xs, ex, ha, q1, q2⟩
  subst ex
  by_cases hw : HT.sIx xs.length 0 lo = 0 ∧ HT.sIx xs.length xs.length hi = xs.length
  · exact sl_tupA pins s σ H _ v vl vu lo hi sl Q I rx hs pl pu ⟨a, xs, rfl, ha.sq, fun _ => q1 hw, fun z => absurd hw z⟩
  · cases rx
    obtain ⟨its, r, p, hz⟩ := I.tuple (ha.sq (K := X.K))
    have el : its.toArray.size = xs.length := by rw [List.size_toArray, r.length]
    refine ⟨"tuple", _, PyProof.Rows.slot_tuple_getitem.lookup, p.typeIs, HT.getItem_tuple_cut p hs pl pu (by rw [el]; exact hw) ?_ (by rw [el]; exact hz)⟩
    rw [el]
    exact newB I ((r.drop _).take _) (Nat.le_trans (cutV_length xs lo hi) hz) (q2 hw)
theorem call_tupB : CallR X (.type "tuple") (rTupB X.K) := by
  intro pins s σ H xs us Q I r ⟨p, ys, ex, hq, q⟩
  subst ex
  obtain ⟨u, eu, rx⟩ := vals1 r
  subst eu
  cases rx
  obtain ⟨its, r', pl, hz⟩ := I.list hq
  refine call_tuple_list pl.isList (fun h' kp => ?_) (by rw [List.size_toArray, ← r'.length]; exact hz)
  exact newB (I.kept (t' := s.toks) kp) r' hz q
end
def addE : D → D → Option Slot
  | .tpb xs, .tpb ys => if xs.length + ys.length ≤ sizeLine then some (.val (.tpb (xs ++ ys))) else none
  | x, y => addD x y
def slE (x : D) (lo hi : Option Int) : Option Slot := match x with
  | .tpb xs => some (.val (.tpb (cutD xs lo hi)))
  | x => slD x lo hi
theorem opr_addE {X : Cx} : OpR X (binaryOp .Add) (rOr (rAddA X.K) rCatB) := OpR.or opr_add op_catB
theorem slr_E {X : Cx} : SlR X (fun x lo hi H Q => rSlA2 X.K x lo hi H Q ∨ rCutB X.K x lo hi H Q) := SlR.or slr_seq sl_catB
section
variable {K : Fg}
theorem ok_addE : Op2 K (rOr (rAddA K) rCatB) addE := by
  intro Z F H en σ x y dx dy s Q sr hx hy e g
  unfold addE at e
  split at e
  · split at e
    · rename_i xs ys c
      cases e
      obtain ⟨a, vs, rfl, q1, r1, p1⟩ := hx.tpb sr.ex
      obtain ⟨b, us, rfl, q2, r2, p2⟩ := hy.tpb sr.ex
      refine .inr ⟨a, b, vs, us, rfl, rfl, q1, q2, by rw [r1.length, r2.length]; exact c, fun e => ?_, fun _ e => ?_, fun _ _ => g.tpb sr (r1.app r2)⟩
      · subst e
        cases r1
        exact g.v sr p2
      · subst e
        cases r2
        rw [List.append_nil] at g
        exact g.v sr p1
    · cases e
  · exact .inl (ok_add Z F H en σ x y dx dy s Q sr hx hy e g)
theorem ok_slE : OpS K (fun x lo hi H Q => rSlA2 K x lo hi H Q ∨ rCutB K x lo hi H Q) slE := by
  intro Z F H en σ x dx lo hi s Q sr hx e g
  unfold slE at e
  split at e
  · rename_i xs
    cases e
    obtain ⟨a, vs, rfl, q, r, p⟩ := hx.tpb sr.ex
    refine .inr ⟨a, vs, rfl, q, fun w => ?_, fun _ => g.tpb sr r.cut⟩
    rw [r.length] at w
    rw [cut_all w] at g
    exact g.v sr p
  · exact .inl (ok_sl Z F H en σ x dx lo hi s Q sr hx e g)
end
theorem mul_same (l : Addr) (its : Array Value) (n : Nat) (dd : Option Addr) (sl : Array (Option Value)) (x : Int) (u : Tok) (b0 : (decide (x < -(2 ^ 63)) || decide (x ≥ 2 ^ 63)) = false) (b1 : (its.isEmpty || x == 1) = true) :
    Meets (Builtin.«tuple.__mul__» ⟨[.ref l, .int x u], []⟩) (fun _ R s => s.heap.get? l = some { cls := .type "tuple", dict := dd, data := .seq its n, slots := sl } ∧ R (.ok (.ret (.ref l))) s) :=
  .of_wp fun prog w A R s h => by
    obtain ⟨hp, g, d, tk, os⟩ := s
    obtain ⟨hl, h⟩ := h
    have f1 := AutoSeq1.idx_int
    wp_walk using wpAny_loadPart' hl
    repeat (first
      | (refine wpAny_ite_false (decide_eq_false (by rw [b0]; exact Bool.false_ne_true)) ?_; wp_walk using wpAny_loadPart' hl)
      | (refine wpAny_ite_true (decide_eq_true b1) ?_; wp_walk using wpAny_loadPart' hl))
    exact ⟨_, rfl, h⟩
theorem mul_nil (l : Addr) (its : Array Value) (n : Nat) (dd : Option Addr) (sl : Array (Option Value)) (x : Int) (u : Tok) (b0 : (decide (x < -(2 ^ 63)) || decide (x ≥ 2 ^ 63)) = false) (b1 : (its.isEmpty || x == 1) = false) (b2 : (decide (x ≤ 0) || its.isEmpty) = true) :
    Meets (Builtin.«tuple.__mul__» ⟨[.ref l, .int x u], []⟩) (fun _ R s => s.heap.get? l = some { cls := .type "tuple", dict := dd, data := .seq its n, slots := sl } ∧ R (.ok (.ret (.ref s.heap.objs.size))) { s with heap := s.heap.push { cls := .type "tuple", data := .seq #[] } }) :=
  .of_wp fun prog w A R s h => by
    obtain ⟨hp, g, d, tk, os⟩ := s
    obtain ⟨hl, h⟩ := h
    have f1 := AutoSeq1.idx_int
    wp_walk using wpAny_loadPart' hl
    repeat (first
      | (refine wpAny_ite_false (decide_eq_false (by rw [b0]; exact Bool.false_ne_true)) ?_; wp_walk using wpAny_loadPart' hl)
      | (refine wpAny_ite_false (decide_eq_false (by rw [b1]; exact Bool.false_ne_true)) ?_; wp_walk using wpAny_loadPart' hl)
      | (refine wpAny_ite_true (decide_eq_true b2) ?_; wp_walk using wpAny_loadPart' hl))
    exact ⟨_, rfl, h⟩
end Mn
set_option Elab.async false
set_option linter.all false
set_option maxRecDepth 100000
set_option maxHeartbeats 1000000
namespace Mn
open PySem PySem.Spec PyProof.Rows L2
def rMulS (K : Fg) : R2 := fun x y H Q => ∃ l k xs, x = .ref l ∧ y = .int k ∧ SqT K H l xs ∧ -(2 ^ 63) ≤ k ∧ k < 2 ^ 63 ∧ ((xs = [] ∨ k = 1) ∧ Q (.ref l) H ∨ (xs ≠ [] ∧ k ≤ 0) ∧ ∀ p, H p = none → Q (.ref p) (upd H p (.tup [])))
section
variable {X : Cx}
theorem op_mulS : OpR X (binaryOp .Mult) (rMulS X.K) := by
  intro pins s σ H x y v u Q I rx ry ⟨l, k, xs, ex, ey, hT, h1, h2, h⟩
  subst ex ey
  cases rx
  obtain ⟨t, rfl⟩ := ry
  obtain ⟨its, r, ⟨⟨cls, dd, data, sl⟩, ho, hc, n, hd⟩, hz⟩ := I.tuple hT
  simp only at hc hd
  subst hc hd
  have b0 : (decide (k < -(2 ^ 63)) || decide (k ≥ 2 ^ 63)) = false := by
    rw [decide_eq_false (by omega), decide_eq_false (by omega)]
    rfl
  have em : xs = [] ↔ its.toArray.isEmpty = true := by
    rw [← r.nil_iff]
    cases its <;> simp
  rcases h with ⟨h, q⟩ | ⟨⟨h, h0⟩, q⟩
  · have b1 : (its.toArray.isEmpty || k == 1) = true := by
      rw [Bool.or_eq_true]
      rcases h with h | h
      · exact .inl (em.mp h)
      · exact .inr (by rw [h]; rfl)
    exact wpAny_binaryOp_repeat_ref (T := "tuple") (U := "int") (by decide) ⟨_, ho, rfl⟩ (fun s' => typeIs_int s' k t) noFill_tuple_mul F.fills_int_mul F.slot_int_rmul repeat_tuple F.slot_int_index.lookup
      (call_meets F.slot_int_rmul (typeIs_int s k t) F.entry_int_rmul (F.args_int_rmul_2 _ _) (int_rmul_tuple k t l its.toArray n dd sl)
        ⟨ho, rfl, ⟨_, ho, rfl⟩, call_meets F.slot_tuple_mul ⟨_, ho, rfl⟩ F.entry_tuple_mul (F.args_tuple_mul_2 _ _) (mul_same l its.toArray n dd sl k t b0 b1) ⟨ho, ⟨.ref l, H, I, rfl, q⟩⟩⟩)
  · have ne : its.toArray.isEmpty = false := by
      cases e : its.toArray.isEmpty with
      | false => rfl
      | true => exact absurd (em.mpr e) h
    have b1 : (its.toArray.isEmpty || k == 1) = false := by
      rw [ne, Bool.false_or]
      exact beq_eq_false_iff_ne.mpr (by omega)
    have b2 : (decide (k ≤ 0) || its.toArray.isEmpty) = true := by
      rw [decide_eq_true h0]
      rfl
    refine wpAny_binaryOp_repeat_ref (T := "tuple") (U := "int") (by decide) ⟨_, ho, rfl⟩ (fun s' => typeIs_int s' k t) noFill_tuple_mul F.fills_int_mul F.slot_int_rmul repeat_tuple F.slot_int_index.lookup
      (call_meets F.slot_int_rmul (typeIs_int s k t) F.entry_int_rmul (F.args_int_rmul_2 _ _) (int_rmul_tuple k t l its.toArray n dd sl)
        ⟨ho, rfl, ⟨_, ho, rfl⟩, call_meets F.slot_tuple_mul ⟨_, ho, rfl⟩ F.entry_tuple_mul (F.args_tuple_mul_2 _ _) (mul_nil l its.toArray n dd sl k t b0 b1 b2) ⟨ho, ?_⟩⟩)
    refine ⟨.ref s.heap.objs.size, _, I.laid (t' := s.toks) (o := .tup []) (fun b ob q => Heap.get?_push_of_some _ q) (Nat.le_refl _) ⟨Nat.zero_le _, [], .nil, IsTup.new _ _⟩, rfl, q _ (I.hok.fresh (Nat.le_refl _))⟩
end
def rMulA (K : Fg) : R2 := rOr (rI CMulW fun i j => .int (i * j)) (rOr rRep (rOr (rRepT K) (rMulS K)))
theorem opr_mul {X : Cx} : OpR X (binaryOp .Mult) (rMulA X.K) := OpR.or op_mulW (OpR.or op_rep (OpR.or op_repT op_mulS))
def mulD : D → D → Option Slot
  | .int i, .int j => if i.natAbs.log2 + j.natAbs.log2 < 1000000 then some (.val (.int (i * j))) else none
  | .lst xs, .int k => if -(2 ^ 63) ≤ k ∧ k < 2 ^ 63 ∧ xs.length * k.toNat ≤ sizeLine then some (.own false (.lst (List.replicate k.toNat xs).flatten)) else none
  | .tup xs, .int k => if -(2 ^ 63) ≤ k ∧ k ≤ 1000 ∧ xs.length ≤ 1000 then some (.val (.tup (List.replicate k.toNat xs).flatten)) else none
  | _, _ => none
theorem ok_mul {K : Fg} : Op2 K (rMulA K) mulD := by
  intro Z F H en σ x y dx dy s Q sr hx hy e g
  unfold mulD at e
  split at e
  · split at e
    · rename_i i j c
      cases e
      cases hx.int
      cases hy.int
      exact .inl ⟨_, _, rfl, rfl, c, g.v sr (.int _)⟩
    · cases e
  · split at e
    · rename_i xs k c
      cases e
      cases hy.int
      obtain ⟨a, vs, rfl, q, r⟩ := hx.lst sr.ex
      exact .inr (.inl ⟨a, k, vs, rfl, rfl, q, c.1, c.2.1, by rw [r.length]; exact c.2.2, g.lst sr (r.rep _)⟩)
    · cases e
  · split at e
    · rename_i xs k c
      cases e
      cases hy.int
      obtain ⟨a, vs, rfl, q, r, p⟩ := hx.tup sr.ex
      by_cases h : xs = []
      · subst h
        cases r
        refine .inr (.inr (.inr ⟨a, k, [], rfl, rfl, q, c.1, by omega, .inl ⟨.inl rfl, ?_⟩⟩))
        have z : (List.replicate k.toNat ([] : List D)).flatten = [] := by simp
        rw [z] at g
        exact g.v sr p
      · have hv : vs ≠ [] := fun z => by
          subst z
          cases r
          exact h rfl
        by_cases h1 : k = 1
        · subst h1
          refine .inr (.inr (.inr ⟨a, 1, vs, rfl, rfl, q, c.1, by omega, .inl ⟨.inr rfl, ?_⟩⟩))
          have z : (List.replicate (1 : Int).toNat xs).flatten = xs := by simp
          rw [z] at g
          exact g.v sr p
        · by_cases h0 : k ≤ 0
          · refine .inr (.inr (.inr ⟨a, k, vs, rfl, rfl, q, c.1, by omega, .inr ⟨⟨hv, h0⟩, ?_⟩⟩))
            have z : k.toNat = 0 := by omega
            rw [z] at g
            exact g.tup sr .nil
          · exact .inr (.inr (.inl ⟨a, k, vs, rfl, rfl, q, hv, by omega, c.2.1, by rw [r.length]; exact c.2.2, g.tup sr (r.rep _)⟩))
    · cases e
  · cases e
def ap1 (f : D → Option Slot) : List D → Option Slot
  | [d] => f d
  | _ => none
section
variable {K : Fg} {F H : Hp}
theorem Nows.one {vs : List V} {ds : List D} (h : Nows K F H vs ds) {d : D} (e : ds = [d]) : ∃ v, vs = [v] ∧ Now K F H v d := by
  subst e
  cases h with
  | cons a r =>
    cases r
    exact ⟨_, rfl, a⟩
theorem ap1_ok {r : List V → Hp → VK → Prop} {f : D → Option Slot} (h : ∀ Z F H en σ v d s Q, SR K Z F H en σ → Now K F H v d → f d = some s → Gives K Z F H en σ s Q → r [v] H Q) : OpN K r (ap1 f) := by
  intro Z F H en σ xs ds s Q sr n e g
  unfold ap1 at e
  split at e
  · obtain ⟨v, rfl, n1⟩ := n.one rfl
    exact h Z F H en σ v _ s Q sr n1 e g
  · cases e
end
/-- len -/
def lenD (d : D) : Option Slot := match itemsOf d with
  | some ds => some (.val (.int (ds.length : Nat)))
  | none => match d with
    | .str z => if z.length ≤ sizeLine then some (.val (.int (z.length : Nat))) else none
    | _ => none
abbrev rLenQ (K : Fg) : List V → Hp → VK → Prop := fun xs H Q => (∃ p ys, xs = [.ref p] ∧ (SqL K H p ys ∨ SqT K H p ys) ∧ Q (.int ys.length) H) ∨ (∃ z : Str, xs = [.str z] ∧ z.length ≤ sizeLine ∧ Q (.int z.length) H)
theorem cr_len {X : Cx} : CallR X (.builtin "len") (rLenQ X.K) := CallR.or call_len_seq call_len_str
theorem ok_len {K : Fg} : OpN K (rLenQ K) (ap1 lenD) := ap1_ok fun Z F H en σ v d s Q sr n e g => by
  unfold lenD at e
  cases q : itemsOf d with
  | some ds =>
    rw [q] at e
    cases e
    obtain ⟨a, vs, rfl, hq, r⟩ := n.seq sr.ex q
    refine .inl ⟨a, vs, rfl, hq, ?_⟩
    rw [r.length]
    exact g.v sr (.int _)
  | none =>
    rw [q] at e
    cases d with
    | str z =>
      dsimp only at e
      split at e
      · rename_i c
        cases e
        cases n.str
        exact .inr ⟨z, rfl, c, g.v sr (.int _)⟩
      · cases e
    | _ => cases e
/-- all, any -/
def allD (d : D) : Option Slot := match lItems d with
  | some ds => match blsD ds with
    | some bs => some (.val (.bl (bs.all id)))
    | none => none
  | none => none
def anyD (d : D) : Option Slot := match lItems d with
  | some ds => match blsD ds with
    | some bs => some (.val (.bl (bs.any id)))
    | none => none
  | none => none
theorem ok_all {K : Fg} : OpN K (rAll K) (ap1 allD) := ap1_ok fun Z F H en σ v d s Q sr n e g => by
  unfold allD at e
  cases q : lItems d with
  | none => rw [q] at e; cases e
  | some ds =>
    rw [q] at e
    dsimp only at e
    cases q2 : blsD ds with
    | none => rw [q2] at e; cases e
    | some bs =>
      rw [q2] at e
      cases e
      obtain ⟨a, vs, rfl, hq, r⟩ := n.lsq sr.ex q
      rw [bls_of q2] at r
      rw [r.bl] at hq
      exact ⟨a, bs, rfl, hq, g.v sr (.bl _)⟩
theorem ok_any {K : Fg} : OpN K (rAny K) (ap1 anyD) := ap1_ok fun Z F H en σ v d s Q sr n e g => by
  unfold anyD at e
  cases q : lItems d with
  | none => rw [q] at e; cases e
  | some ds =>
    rw [q] at e
    dsimp only at e
    cases q2 : blsD ds with
    | none => rw [q2] at e; cases e
    | some bs =>
      rw [q2] at e
      cases e
      obtain ⟨a, vs, rfl, hq, r⟩ := n.lsq sr.ex q
      rw [bls_of q2] at r
      rw [r.bl] at hq
      exact ⟨a, bs, rfl, hq, g.v sr (.bl _)⟩
/-- sum -/
def rSumT (K : Fg) : List V → Hp → VK → Prop := fun vs H Q => ∃ (a : Addr) (ns : List Int), vs = [V.ref a] ∧ SqT K H a (ns.map V.int) ∧ Q (.int ns.sum) H
theorem cr_sumT {X : Cx} (hc : X.calm = true) : CallR X (.builtin "sum") (rSumT X.K) := by
  intro pins s σ H vs us Q I r ⟨a, ns, ev, hs, q⟩
  subst ev
  obtain ⟨its, rv, hl, _⟩ := I.tuple hs
  rw [Vals.ref1 r]
  have hi := rv.ints
  obtain ⟨xs, e⟩ := hi.allInts.items
  have hn : numsOf (intItems xs).toList = ns := by rw [← e]; exact hi.numsOf
  rw [nums_intItems] at hn
  rw [e] at hl
  refine PySem.W.ktm_sumG (I.ok.hd hc) hl fun h' tk t' hk => ?_
  rw [preSum_eq, List.take_of_length_le (by simp), hn]
  exact ⟨.int _, H, I.kept hk, ⟨_, rfl⟩, q⟩
def rSumQ (K : Fg) : List V → Hp → VK → Prop := fun xs H Q => rSum K xs H Q ∨ rSumT K xs H Q
theorem cr_sumQ {X : Cx} (hc : X.calm = true) : CallR X (.builtin "sum") (rSumQ X.K) := CallR.or (cr_sum hc) (cr_sumT hc)
def sumD (d : D) : Option Slot := match itemsOf d with
  | some ds => match intsD ds with
    | some is => some (.val (.int is.sum))
    | none => none
  | none => none
theorem ok_sum {K : Fg} : OpN K (rSumQ K) (ap1 sumD) := ap1_ok fun Z F H en σ v d s Q sr n e g => by
  unfold sumD at e
  cases q : itemsOf d with
  | none => rw [q] at e; cases e
  | some ds =>
    rw [q] at e
    dsimp only at e
    cases q2 : intsD ds with
    | none => rw [q2] at e; cases e
    | some is =>
      rw [q2] at e
      cases e
      obtain ⟨a, vs, rfl, hq, r⟩ := n.seq sr.ex q
      rw [ints_of q2] at r
      rw [r.int] at hq
      rcases hq with hq | hq
      · exact .inl ⟨a, is, rfl, hq, g.v sr (.int _)⟩
      · exact .inr ⟨a, is, rfl, hq, g.v sr (.int _)⟩
end Mn
set_option Elab.async false
set_option linter.all false
set_option maxRecDepth 100000
set_option maxHeartbeats 1000000
namespace Mn
open PySem PySem.Spec PyProof.Rows L2
abbrev Tag := String ⊕ Str
def valT (K : Fg) : Tag → Value
  | .inl T => .type T
  | .inr C => .ref (He.ga K C)
def tagD : D → Option Tag
  | .non => some (.inl "NoneType")
  | .bl _ => some (.inl "bool")
  | .int _ => some (.inl "int")
  | .str _ => some (.inl "str")
  | .tup _ => some (.inl "tuple")
  | .tpb _ => some (.inl "tuple")
  | .lst _ => some (.inl "list")
  | .scr _ => some (.inl "list")
  | .dic _ => some (.inl "dict")
  | .ins C _ => some (.inr C)
  | _ => none
def clsD : D → Option Tag
  | .ty T => some (.inl T)
  | .cls C => some (.inr C)
  | _ => none
structure InsTy (K : Fg) (C : Addr) : Prop where
  cl : Cls K C
  ha : PySem.W.findIn K (.ref C) "__class__" = some (some (.builtin "object.__class__"))
  hn : PySem.W.specialIn K (.builtin "object.__class__") "__get__" = some (some (.builtin "getset_descriptor.__get__"))
  htk : PySem.W.takesIn K (.builtin "object.__class__") = some true
  hm : PySem.W.mroIn K C (.type "object") = some true
abbrev IsTab := List (Tag × Tag × Bool)
structure IsOk (K : Fg) (tab : IsTab) (cs : List Str) : Prop where
  t : ∀ p ∈ tab, PySem.W.kitOne K (valT K p.1) (valT K p.2.1) = some p.2.2
  c : ∀ C ∈ cs, InsTy K (He.ga K C)
def isOne (tab : IsTab) (t c : Tag) : Option Bool := (tab.find? fun p => decide (p.1 = t ∧ p.2.1 = c)).map (·.2.2)
theorem isOne_of {K : Fg} {tab : IsTab} {cs : List Str} (h : IsOk K tab cs) {t c : Tag} {b : Bool} (e : isOne tab t c = some b) : PySem.W.kitOne K (valT K t) (valT K c) = some b := by
  unfold isOne at e
  cases q : tab.find? fun p => decide (p.1 = t ∧ p.2.1 = c) with
  | none => rw [q] at e; cases e
  | some p =>
    rw [q] at e
    cases e
    have m := List.mem_of_find?_eq_some q
    have z := List.find?_some q
    rw [decide_eq_true_eq] at z
    have k := h.t p m
    rw [z.1, z.2] at k
    exact k
def clsAll : List D → Option (List Tag)
  | [] => some []
  | d :: r => match clsD d with
    | none => none
    | some c => match clsAll r with
      | some cs => some (c :: cs)
      | none => none
def isAny (tab : IsTab) (t : Tag) : List Tag → Option Bool
  | [] => some false
  | c :: r => match isOne tab t c with
    | some true => some true
    | some false => isAny tab t r
    | none => none
def goodTag (cs : List Str) : Tag → Bool
  | .inl _ => true
  | .inr C => decide (C ∈ cs)
def isiD (tab : IsTab) (cs : List Str) : List D → Option Slot
  | [x, c] => match tagD x with
    | none => none
    | some t => if goodTag cs t = true then match c with
        | .tup ds => match clsAll ds with
          | none => none
          | some ks => (isAny tab t ks).map fun b => .val (.bl b)
        | c => match clsD c with
          | none => none
          | some k => (isOne tab t k).map fun b => .val (.bl b)
      else none
  | _ => none
section
variable {K : Fg} {F H : Hp}
theorem clsV {v : V} {d : D} {k : Tag} (h : Rep K F v d) (e : clsD d = some k) : ClsV v (valT K k) := by
  cases h <;> first | (cases e; done) | skip
  · cases e
    exact .ty _
  · cases e
    exact .own _
theorem tyX_of {v : V} {d : D} {t : Tag} {cs : List Str} (hc : ∀ C ∈ cs, InsTy K (He.ga K C)) (x : Sub F H) (n : Now K F H v d) (e : tagD d = some t) (g : goodTag cs t = true) : TyX K H v (valT K t) := by
  cases d with
  | non => cases e; cases n.non; exact .base .non
  | bl b => cases e; cases n.bl; exact .base (.bl b)
  | int i => cases e; cases n.int; exact .base (.int i)
  | str z => cases e; cases n.str; exact .base (.str z)
  | tup xs =>
    cases e
    obtain ⟨a, vs, rfl, q, _, _⟩ := n.tup x
    rcases q with (q | ⟨o, q⟩) | ⟨o, its, m, q, c, _⟩
    · exact .base (.tup q)
    · exact .fTuple q
    · exact .kTuple q c
  | tpb xs =>
    cases e
    obtain ⟨a, vs, rfl, ⟨o, q, _⟩, _, _⟩ := n.tpb x
    exact .fTuple q
  | lst xs =>
    cases e
    obtain ⟨a, vs, rfl, q, _⟩ := n.lst x
    exact .base (.lst q)
  | scr is =>
    cases e
    obtain ⟨a, rfl, q⟩ := n.scr x
    rcases q with (q | ⟨o, q⟩) | ⟨o, its, m, q, c, _⟩
    · exact .base (.lst q)
    · exact .base (.frz q)
    · exact .kList q c
  | dic kvs =>
    cases e
    obtain ⟨a, gs, rfl, q, _⟩ := n.dic x
    exact .base (.dT q)
  | ins C fs =>
    cases e
    obtain ⟨a, dx, gs, rfl, q, _⟩ := n.ins x
    have z := hc C (of_decide_eq_true g)
    exact .base (.ins q z.cl z.ha z.hn z.htk z.hm)
  | ty T => cases e
  | cls C => cases e
end
/-- isinstance by a tuple of classes, any tuple -/
def rIsiU (K : Fg) : List V → Hp → VK → Prop := fun xs H Q => ∃ (x : V) (tp : Addr) (cs : List V) (t : Value) (us : List Value) (b : Bool), xs = [x, .ref tp] ∧ SqT K H tp cs ∧ Paired ClsV cs us ∧ TyX K H x t ∧ PySem.W.kitAny K t us = some b ∧ Q (.bl b) H
theorem call_isiU {X : Cx} : CallR X (.builtin "isinstance") (rIsiU X.K) := by
  intro pins s σ H xs us Q I r ⟨x, tp, cs, t, ws, b, ex, hT, k, ty, e, q⟩
  subst ex
  obtain ⟨u1, u2, eu, r1, r2⟩ := vals2 r
  subst eu
  cases (show u2 = Value.ref tp from r2)
  obtain ⟨P, Z, p, hx⟩ := kit_of I r1 ty
  obtain ⟨its, rv, ⟨⟨c0, dd, data, sl⟩, ho, hc, n, hd⟩, _⟩ := I.tuple hT
  simp only at hc hd
  subst hc hd
  have e3 := ClsV.all k rv
  subst e3
  exact PySem.W.kia_tup Z I.kIn p ho e hx fun tk => ⟨.bl b, H, I.tok tk, rfl, q⟩
abbrev rIsiQ (K : Fg) : List V → Hp → VK → Prop := fun xs H Q => rIsi K xs H Q ∨ rIsiU K xs H Q
theorem cr_isi {X : Cx} : CallR X (.builtin "isinstance") (rIsiQ X.K) := CallR.or call_isi call_isiU
section
variable {K : Fg}
theorem isAny_of {tab : IsTab} {cs : List Str} (h : IsOk K tab cs) {t : Tag} : ∀ {ks : List Tag} {b : Bool}, isAny tab t ks = some b → PySem.W.kitAny K (valT K t) (ks.map (valT K)) = some b
  | [], b, e => e
  | c :: r, b, e => by
    unfold isAny at e
    show (match PySem.W.kitOne K (valT K t) (valT K c) with | some true => some true | some false => PySem.W.kitAny K (valT K t) (r.map (valT K)) | none => none) = _
    cases q2 : isOne tab t c with
    | none => rw [q2] at e; cases e
    | some k =>
      rw [q2] at e
      rw [isOne_of h q2]
      cases k with
      | true => exact e
      | false => exact isAny_of h e
theorem clsAll_of {F : Hp} : ∀ {vs : List V} {ds : List D} {ks : List Tag}, Reps K F vs ds → clsAll ds = some ks → Paired ClsV vs (ks.map (valT K))
  | _, _, _, .nil, e => by cases e; exact .nil
  | _, _, _, .cons (d := d) (ds := ds) a r, e => by
    unfold clsAll at e
    cases q : clsD d with
    | none => rw [q] at e; cases e
    | some c =>
      rw [q] at e
      dsimp only at e
      cases q2 : clsAll ds with
      | none => rw [q2] at e; cases e
      | some cs =>
        rw [q2] at e
        cases e
        exact .cons (clsV a q) (clsAll_of r q2)
theorem ok_isi {tab : IsTab} {cs : List Str} (h : IsOk K tab cs) : OpN K (rIsiQ K) (isiD tab cs) := by
  intro Z F H en σ xs ds s Q sr n e g
  unfold isiD at e
  split at e
  · rename_i x c
    cases n with
    | cons nx r =>
      cases r with
      | cons nc r =>
        cases r
        cases q : tagD x with
        | none => rw [q] at e; cases e
        | some t =>
          rw [q] at e
          dsimp only at e
          by_cases gt : goodTag cs t = true
          · rw [if_pos gt] at e
            have ty := tyX_of h.c sr.ex nx q gt
            split at e
            · rename_i ds
              cases q2 : clsAll ds with
              | none => rw [q2] at e; cases e
              | some ks =>
                rw [q2] at e
                dsimp only at e
                cases q3 : isAny tab t ks with
                | none => rw [q3] at e; cases e
                | some b =>
                  rw [q3] at e
                  cases e
                  obtain ⟨a, vs, rfl, hT, r, _⟩ := nc.tup sr.ex
                  exact .inr ⟨_, a, vs, _, _, b, rfl, hT, clsAll_of r q2, ty, isAny_of h q3, g.v sr (.bl b)⟩
            · cases q2 : clsD c with
              | none => rw [q2] at e; cases e
              | some k =>
                rw [q2] at e
                dsimp only at e
                cases q3 : isOne tab t k with
                | none => rw [q3] at e; cases e
                | some b =>
                  rw [q3] at e
                  cases e
                  have rc := nc.rep fun a z => by cases c <;> first | exact z | cases q2
                  exact .inl ⟨_, _, _, _, b, rfl, clsV rc q2, ty, isOne_of h q3, g.v sr (.bl b)⟩
          · rw [if_neg gt] at e
            cases e
  · cases e
end
def listD (d : D) : Option Slot := (itemsOf d).map fun ds => .own false (.lst ds)
abbrev rListQ (K : Fg) : List V → Hp → VK → Prop := fun xs H Q => ∃ p ys, xs = [.ref p] ∧ (SqL K H p ys ∨ SqT K H p ys) ∧ ∀ l, H l = none → Q (.ref l) (upd H l (.lst ys))
abbrev rTupQ (K : Fg) : List V → Hp → VK → Prop := fun xs H Q => ∃ p ys, xs = [.ref p] ∧ ((SqL K H p ys ∧ ∀ l, H l = none → Q (.ref l) (upd H l (.tup ys))) ∨ (SqT K H p ys ∧ Q (.ref p) H))
section
variable {K : Fg}
theorem ok_list : OpN K (rListQ K) (ap1 listD) := ap1_ok fun Z F H en σ v d s Q sr n e g => by
  unfold listD at e
  cases q : itemsOf d with
  | none => rw [q] at e; cases e
  | some ds =>
    rw [q] at e
    cases e
    obtain ⟨a, vs, rfl, hq, r⟩ := n.seq sr.ex q
    exact ⟨a, vs, rfl, hq, g.lst sr r⟩
/-- bare: a list makes a bare tuple -/
def tupD (bare : Bool) : D → Option Slot
  | .tup xs => some (.val (.tup xs))
  | .tpb xs => some (.val (.tpb xs))
  | .lst xs => some (.val (if bare then .tpb xs else .tup xs))
  | .scr is => some (.val (if bare then .tpb (is.map .int) else .tup (is.map .int)))
  | _ => none
abbrev rTupA (K : Fg) : List V → Hp → VK → Prop := fun xs H Q => rTupQ K xs H Q ∨ rTupB K xs H Q
theorem cr_tup {X : Cx} : CallR X (.type "tuple") (rTupA X.K) := CallR.or call_tuple_of call_tupB
theorem ok_tup {bare : Bool} : OpN K (rTupA K) (ap1 (tupD bare)) := ap1_ok fun Z F H en σ v d s Q sr n e g => by
  have key : ∀ {xs : List D} {a : Addr} {vs : List V}, v = .ref a → SqL K H a vs → Reps K F vs xs → s = .val (if bare then .tpb xs else .tup xs) → rTupA K [v] H Q := fun {xs a vs} ev hq r es => by
    subst ev es
    cases bare with
    | true => exact .inr ⟨a, vs, rfl, hq, Gives.tpb g sr r⟩
    | false => exact .inl ⟨a, vs, rfl, .inl ⟨hq, Gives.tup g sr r⟩⟩
  cases d with
  | tup xs =>
    cases e
    obtain ⟨a, vs, rfl, q, r, p⟩ := n.tup sr.ex
    exact .inl ⟨a, vs, rfl, .inr ⟨q, g.v sr p⟩⟩
  | tpb xs =>
    cases e
    obtain ⟨a, vs, rfl, q, r, p⟩ := n.tpb sr.ex
    exact .inl ⟨a, vs, rfl, .inr ⟨q.sq, g.v sr p⟩⟩
  | lst xs =>
    cases e
    obtain ⟨a, vs, ev, q, r⟩ := n.lst sr.ex
    exact key ev (SqL.of q) r rfl
  | scr is =>
    cases e
    obtain ⟨a, ev, q⟩ := n.scr sr.ex
    exact key ev q Reps.ints rfl
  | _ => cases e
end
abbrev rAbs : List V → Hp → VK → Prop := fun xs H Q => ∃ i, xs = [.int i] ∧ Q (.int (if i < 0 then -i else i)) H
abbrev rInt1 : List V → Hp → VK → Prop := fun xs H Q => (∃ i, xs = [.int i] ∧ Q (.int i) H) ∨ ∃ k, xs = [.bl k] ∧ Q (.int (if k then 1 else 0)) H
def absD : D → Option Slot
  | .int i => some (.val (.int (if i < 0 then -i else i)))
  | _ => none
def intD : D → Option Slot
  | .int i => some (.val (.int i))
  | .bl k => some (.val (.int (if k then 1 else 0)))
  | _ => none
theorem ok_abs {K : Fg} : OpN K rAbs (ap1 absD) := ap1_ok fun Z F H en σ v d s Q sr n e g => by
  cases d with
  | int i => cases e; cases n.int; exact ⟨i, rfl, g.v sr (.int _)⟩
  | _ => cases e
theorem ok_int {K : Fg} : OpN K rInt1 (ap1 intD) := ap1_ok fun Z F H en σ v d s Q sr n e g => by
  cases d with
  | int i => cases e; cases n.int; exact .inl ⟨i, rfl, g.v sr (.int _)⟩
  | bl k => cases e; cases n.bl; exact .inr ⟨k, rfl, g.v sr (.int _)⟩
  | _ => cases e
def maxI (i j : Int) : Int := if j > i then j else i
def minI (i j : Int) : Int := if j < i then j else i
abbrev rMax2Q (K : Fg) : List V → Hp → VK → Prop := fun xs H Q => (∃ i j, xs = [.int i, .int j] ∧ Q (.int (if j > i then j else i)) H) ∨ rMax K xs H Q
abbrev rMin2Q (K : Fg) : List V → Hp → VK → Prop := fun xs H Q => (∃ i j, xs = [.int i, .int j] ∧ Q (.int (if j < i then j else i)) H) ∨ rMin K xs H Q
theorem cr_maxQ {X : Cx} (hc : X.calm = true) : CallR X (.builtin "max") (rMax2Q X.K) := CallR.or (call_max2 hc) (cr_max hc)
theorem cr_minQ {X : Cx} (hc : X.calm = true) : CallR X (.builtin "min") (rMin2Q X.K) := CallR.or (call_min2 hc) (cr_min hc)
def maxL : List Int → Int
  | [] => 0
  | [i] => i
  | i :: r => maxI i (maxL r)
def minL : List Int → Int
  | [] => 0
  | [i] => i
  | i :: r => minI i (minL r)
theorem maxL_ge : ∀ {l : List Int} {m : Int}, m ∈ l → (∀ y, y ∈ l → y ≤ m) → maxL l = m
  | [i], m, h, _ => by
    rw [List.mem_singleton] at h
    subst h
    rfl
  | i :: j :: r, m, h, k => by
    show maxI i (maxL (j :: r)) = m
    have big : ∀ (l : List Int), l ≠ [] → maxL l ∈ l := fun l => by
      induction l with
      | nil => intro z; exact absurd rfl z
      | cons a l ih =>
        intro _
        cases l with
        | nil => exact List.mem_singleton.mpr rfl
        | cons b l =>
          show maxI a (maxL (b :: l)) ∈ _
          unfold maxI
          split
          · exact List.mem_cons_of_mem _ (ih (by simp))
          · exact List.mem_cons_self
    have up : ∀ (l : List Int) (y : Int), y ∈ l → y ≤ maxL l := fun l => by
      induction l with
      | nil => intro y z; cases z
      | cons a l ih =>
        intro y z
        cases l with
        | nil =>
          rw [List.mem_singleton] at z
          subst z
          exact Int.le_refl _
        | cons b l =>
          show y ≤ maxI a (maxL (b :: l))
          unfold maxI
          rcases List.mem_cons.mp z with z | z
          · subst z
            split <;> omega
          · have := ih y z
            split <;> omega
    have h1 := up (i :: j :: r) m h
    have h2 := k _ (big (i :: j :: r) (by simp))
    exact Int.le_antisymm h2 h1
theorem minL_le : ∀ {l : List Int} {m : Int}, m ∈ l → (∀ y, y ∈ l → m ≤ y) → minL l = m
  | [i], m, h, _ => by
    rw [List.mem_singleton] at h
    subst h
    rfl
  | i :: j :: r, m, h, k => by
    show minI i (minL (j :: r)) = m
    have big : ∀ (l : List Int), l ≠ [] → minL l ∈ l := fun l => by
      induction l with
      | nil => intro z; exact absurd rfl z
      | cons a l ih =>
        intro _
        cases l with
        | nil => exact List.mem_singleton.mpr rfl
        | cons b l =>
          show minI a (minL (b :: l)) ∈ _
          unfold minI
          split
          · exact List.mem_cons_of_mem _ (ih (by simp))
          · exact List.mem_cons_self
    have up : ∀ (l : List Int) (y : Int), y ∈ l → minL l ≤ y := fun l => by
      induction l with
      | nil => intro y z; cases z
      | cons a l ih =>
        intro y z
        cases l with
        | nil =>
          rw [List.mem_singleton] at z
          subst z
          exact Int.le_refl _
        | cons b l =>
          show minI a (minL (b :: l)) ≤ y
          unfold minI
          rcases List.mem_cons.mp z with z | z
          · subst z
            split <;> omega
          · have := ih y z
            split <;> omega
    have h1 := up (i :: j :: r) m h
    have h2 := k _ (big (i :: j :: r) (by simp))
    exact Int.le_antisymm h1 h2
def bestD (f : Int → Int → Int) (l : List Int → Int) : List D → Option Slot
  | [.int i, .int j] => some (.val (.int (f i j)))
  | [d] => match lItems d with
    | none => none
    | some ds => match intsD ds with
      | some (i :: r) => some (.val (.int (l (i :: r))))
      | _ => none
  | _ => none
section
variable {K : Fg}
theorem ok_max : OpN K (rMax2Q K) (bestD maxI maxL) := by
  intro Z F H en σ xs ds s Q sr n e g
  unfold bestD at e
  split at e
  · cases e
    cases n with
    | cons a r =>
      cases r with
      | cons b r =>
        cases r
        cases a.int
        cases b.int
        exact .inl ⟨_, _, rfl, g.v sr (.int _)⟩
  · rename_i d
    obtain ⟨v, rfl, n1⟩ := n.one rfl
    cases q : lItems d with
    | none => rw [q] at e; cases e
    | some ds =>
      rw [q] at e
      dsimp only at e
      split at e
      · rename_i i r q2
        cases e
        obtain ⟨a, vs, rfl, hq, rr⟩ := n1.lsq sr.ex q
        rw [ints_of q2] at rr
        rw [rr.int] at hq
        refine .inr ⟨a, _, rfl, hq, by simp, fun m h1 h2 => ?_⟩
        rw [maxL_ge h1 h2] at g
        exact g.v sr (.int _)
      · cases e
  · cases e
theorem ok_min : OpN K (rMin2Q K) (bestD minI minL) := by
  intro Z F H en σ xs ds s Q sr n e g
  unfold bestD at e
  split at e
  · cases e
    cases n with
    | cons a r =>
      cases r with
      | cons b r =>
        cases r
        cases a.int
        cases b.int
        exact .inl ⟨_, _, rfl, g.v sr (.int _)⟩
  · rename_i d
    obtain ⟨v, rfl, n1⟩ := n.one rfl
    cases q : lItems d with
    | none => rw [q] at e; cases e
    | some ds =>
      rw [q] at e
      dsimp only at e
      split at e
      · rename_i i r q2
        cases e
        obtain ⟨a, vs, rfl, hq, rr⟩ := n1.lsq sr.ex q
        rw [ints_of q2] at rr
        rw [rr.int] at hq
        refine .inr ⟨a, _, rfl, hq, by simp, fun m h1 h2 => ?_⟩
        rw [minL_le h1 h2] at g
        exact g.v sr (.int _)
      · cases e
  · cases e
end
end Mn
set_option Elab.async false
set_option linter.all false
set_option maxRecDepth 100000
set_option maxHeartbeats 1000000
namespace Mn
open PySem PySem.Spec PyProof.Rows L2
section
variable {prog : Program} {w : World} {A : Around} {E : Value → Shared → Prop} {s : Shared}
theorem sorted_seq {l : Addr} {T : String} {o : Obj} {vs : List Value} {n : Nat} {ns : List Int} {Q : Value → Shared → Prop} (hT : T = "list" ∨ T = "tuple") (ho : s.heap.get? l = some o) (hc : o.cls = .type T) (hd : o.data = .seq vs.toArray n) (hI : IntsAre vs ns) (hz : vs.length ≤ sizeLine)
    (h : ∀ (h1 h' : Heap) (out : List Value) (ep : Nat), (∀ b u, s.heap.get? b = some u → h1.get? b = some u) → (∀ b u, h1.get? b = some u → h'.get? b = some u) → h'.get? h1.objs.size = some (seqObj "list" out.toArray ep) → IntsAre out (out.map SrtO.iv) → (out.map SrtO.iv).Perm ns → (out.map SrtO.iv).Pairwise (· ≤ ·) → Q (.ref h1.objs.size) { s with heap := h' }) :
    wpAny (model prog w) A (call (.builtin "sorted") [.ref l]) Q E s := by
  refine Calls.call_function_entry kind_sorted plain_sorted entry_sorted (args_sorted1 _) ?_
  unfold Builtin.«sorted»
  refine wpAny_bind (m := checkCount "sorted" 1 1 _) (wpAny_pure ?_)
  refine wpAny_bind (wpAny_collect_seq l hT ho hc hd (fun h1 k1 => ?_) (by rw [List.size_toArray]; exact hz))
  have ev : vs.toArray.toList = vs := by simp
  rw [ev]
  refine wpAny_bind (wpAny_newList ?_ hz)
  have hoL : (h1.push (seqObj "list" vs.toArray 0)).get? h1.objs.size = some (seqObj "list" vs.toArray 0) := Heap.get?_push_size _ rfl
  show wpAny _ _ _ _ _ { s with heap := h1.push (seqObj "list" vs.toArray 0) }
  refine wpAny_bind (wpAny_holding (wpAny_call_entry slot_list_sort ⟨_, hoL, rfl⟩ entry_list_sort (SrtO.list_sort_ord SrtO.swo_int hoL hz (fun h2 => SrtO.ints_sortable hI h2) fun out hs hb => ⟨_, rfl, ?_⟩) (args_list_sort _)))
  obtain ⟨k2, k3, k4⟩ := SrtO.ints_out hI hs hb
  obtain ⟨ep, he⟩ := sortedHeap_at (vs := vs) (out := out.toArray) hoL
  exact wpAny_pure ⟨_, rfl, h _ _ out ep k1 (fun b u q1 => by
    have lt := Heap.lt_size q1
    rw [sortedHeap_old (Nat.ne_of_lt lt) (by rw [size_push']; exact Nat.lt_succ_of_lt lt)]
    exact Heap.get?_push_of_some _ q1) he k2 k3 k4⟩
end
/-- ascending order -/
def insI (x : Int) : List Int → List Int
  | [] => [x]
  | y :: r => if x ≤ y then x :: y :: r else y :: insI x r
def sortI : List Int → List Int
  | [] => []
  | x :: r => insI x (sortI r)
theorem insI_perm (x : Int) : ∀ l, (insI x l).Perm (x :: l)
  | [] => .refl _
  | y :: r => by
    unfold insI
    split
    · exact .refl _
    · exact ((insI_perm x r).cons y).trans (.swap x y r)
theorem sortI_perm : ∀ l, (sortI l).Perm l
  | [] => .refl _
  | x :: r => (insI_perm x (sortI r)).trans ((sortI_perm r).cons x)
theorem insI_up (x : Int) : ∀ {l : List Int}, l.Pairwise (· ≤ ·) → (insI x l).Pairwise (· ≤ ·)
  | [], _ => by simp [insI]
  | y :: r, h => by
    rw [List.pairwise_cons] at h
    unfold insI
    split
    · rename_i c
      rw [List.pairwise_cons, List.pairwise_cons]
      refine ⟨fun z hz => ?_, h⟩
      rcases List.mem_cons.mp hz with e | hz
      · omega
      · have := h.1 z hz
        omega
    · rename_i c
      rw [List.pairwise_cons]
      refine ⟨fun z hz => ?_, insI_up x h.2⟩
      rcases List.mem_cons.mp ((insI_perm x r).mem_iff.mp hz) with e | hz
      · omega
      · exact h.1 z hz
theorem sortI_up : ∀ l, (sortI l).Pairwise (· ≤ ·)
  | [] => .nil
  | x :: r => insI_up x (sortI_up r)
theorem up_unique : ∀ {l m : List Int}, l.Perm m → l.Pairwise (· ≤ ·) → m.Pairwise (· ≤ ·) → l = m
  | [], m, p, _, _ => (List.Perm.nil_eq p)
  | x :: l, [], p, _, _ => by
    have := p.length_eq
    simp at this
  | x :: l, y :: m, p, h, k => by
    rw [List.pairwise_cons] at h k
    have e : x = y := by
      have a : x ∈ y :: m := p.mem_iff.mp List.mem_cons_self
      have b : y ∈ x :: l := p.mem_iff.mpr List.mem_cons_self
      rcases List.mem_cons.mp a with a | a
      · exact a
      · rcases List.mem_cons.mp b with b | b
        · exact b.symm
        · have h1 := h.1 y b
          have h2 := k.1 x a
          omega
    subst e
    rw [up_unique (List.Perm.cons_inv p) h.2 k.2]
theorem sortI_eq {l m : List Int} (p : m.Perm l) (h : m.Pairwise (· ≤ ·)) : m = sortI l := up_unique (p.trans (sortI_perm l).symm) h (sortI_up l)
def rSortQ (K : Fg) : List V → Hp → VK → Prop := fun vs H Q => ∃ (a : Addr) (ns : List Int), vs = [V.ref a] ∧ (SqL K H a (ns.map V.int) ∨ SqT K H a (ns.map V.int)) ∧ ∀ p, H p = none → Q (.ref p) (upd H p (.lst ((sortI ns).map V.int)))
theorem cr_sortQ {X : Cx} : CallR X (.builtin "sorted") (rSortQ X.K) := by
  intro pins s σ H vs us Q I r ⟨a, ns, ev, hs, q⟩
  subst ev
  rw [Vals.ref1 r]
  have fin : ∀ {its : List Value}, Vals (ns.map V.int) its → (ns.map V.int).length ≤ sizeLine → ∀ (h1 h' : Heap) (out : List Value) (ep : Nat), (∀ b u, s.heap.get? b = some u → h1.get? b = some u) → (∀ b u, h1.get? b = some u → h'.get? b = some u) → h'.get? h1.objs.size = some (seqObj "list" out.toArray ep) → IntsAre out (out.map SrtO.iv) → (out.map SrtO.iv).Perm ns → (out.map SrtO.iv).Pairwise (· ≤ ·) → EP X pins σ Q (.ref h1.objs.size) { s with heap := h' } := by
    intro its rv hz h1 h' out ep k1 k2 e i1 i2 i3
    have I1 : Inv X pins σ H { s with heap := h1 } := I.kept (t' := s.toks) k1
    have eo := sortI_eq i2 i3
    refine ⟨.ref _, _, I1.laid (t' := s.toks) k2 (Nat.le_refl _) (o := .lst ((sortI ns).map V.int)) ⟨?_, out, ep, ?_, e⟩, rfl, q _ (I1.hok.fresh (Nat.le_refl _))⟩
    · rw [List.length_map] at hz ⊢
      rw [(sortI_perm ns).length_eq]
      exact hz
    · rw [← eo]
      exact vals_of_ints i1
  rcases hs with hs | hs
  · obtain ⟨its, rv, ⟨o, n, ho, hc, _, hd⟩, hz⟩ := I.list hs
    exact sorted_seq (.inl rfl) ho hc hd rv.ints (by rw [← rv.length]; exact hz) (fin rv hz)
  · obtain ⟨its, rv, ⟨o, ho, hc, n, hd⟩, hz⟩ := I.tuple hs
    exact sorted_seq (.inr rfl) ho hc hd rv.ints (by rw [← rv.length]; exact hz) (fin rv hz)
def sortD (d : D) : Option Slot := match itemsOf d with
  | none => none
  | some ds => match intsD ds with
    | some is => some (.own false (.lst ((sortI is).map .int)))
    | none => none
theorem ok_sort {K : Fg} : OpN K (rSortQ K) (ap1 sortD) := ap1_ok fun Z F H en σ v d s Q sr n e g => by
  unfold sortD at e
  cases q : itemsOf d with
  | none => rw [q] at e; cases e
  | some ds =>
    rw [q] at e
    dsimp only at e
    cases q2 : intsD ds with
    | none => rw [q2] at e; cases e
    | some is =>
      rw [q2] at e
      cases e
      obtain ⟨a, vs, rfl, hq, r⟩ := n.seq sr.ex q
      rw [ints_of q2] at r
      rw [r.int] at hq
      exact ⟨a, is, rfl, hq, g.lst sr Reps.ints⟩
mutual
theorem noDict : ∀ d : D, (toP d).hasDict = false
  | .non => by unfold toP PyData.hasDict; rfl
  | .bl _ => by unfold toP PyData.hasDict; rfl
  | .int _ => by unfold toP PyData.hasDict; rfl
  | .str _ => by unfold toP PyData.hasDict; rfl
  | .tup xs => by
    unfold toP PyData.hasDict
    exact noDicts xs
  | .tpb xs => by
    unfold toP PyData.hasDict
    exact noDicts xs
  | .lst xs => by
    unfold toP PyData.hasDict
    exact noDicts xs
  | .scr is => by
    unfold toP PyData.hasDict
    induction is with
    | nil => rfl
    | cons i r ih =>
      rw [List.map_cons]
      unfold PyData.hasDictAll PyData.hasDict
      exact ih
  | .ins _ _ => by unfold toP PyData.hasDict; rfl
  | .dic _ => by unfold toP PyData.hasDict; rfl
  | .ty _ => by unfold toP PyData.hasDict; rfl
  | .cls _ => by unfold toP PyData.hasDict; rfl
theorem noDicts : ∀ ds : List D, PyData.hasDictAll (toPs ds) = false
  | [] => by unfold toPs PyData.hasDictAll; rfl
  | d :: r => by
    unfold toPs PyData.hasDictAll
    rw [noDict d, noDicts r]
    rfl
end
def shown (d : D) : Str := (toP d).shown
def rRepr (K : Fg) : List V → Hp → VK → Prop := fun vs H Q => ∃ v d, vs = [v] ∧ Dp K H v d ∧ d.hasDict = false ∧ d.showable = true ∧ d.depth ≤ 60 ∧ d.shown.length ≤ sizeLine ∧ Q (.str d.shown) H
theorem cr_repr {X : Cx} (hg : X.A.guards = some []) (hu : X.A.units + 64 < cLine) : CallR X (.builtin "repr") (rRepr X.K) := by
  intro pins s σ H vs us Q I r ⟨v, d, ev, hp, hd, hs, hz, hl, q⟩
  subst ev
  obtain ⟨u, eu, ru⟩ := vals1 r
  subst eu
  have at_ref : ∀ a, u = .ref a → wpAny (model X.prog X.w) X.A (call (.builtin "repr") [u]) (EP X pins σ Q) X.xe s := fun a e => by
    obtain ⟨as, rd⟩ := Dp.reads I d v u hp ru
    subst e
    exact repr_of_reads' rd hs (PyData.noDict_hsm hd) hg (by omega) (fun b o e => e) (fun h' w tk hk => ⟨.str _, H, I.kept hk, ⟨_, rfl⟩, q⟩) hl
  cases hp with
  | non =>
    cases ru
    exact PySem.P.repr_of_none ⟨.str _, H, I.tok _, ⟨_, rfl⟩, by unfold PyData.shown at q; exact q⟩
  | bl b =>
    cases ru
    exact PySem.P.repr_of_bool ⟨.str _, H, I.tok _, ⟨_, rfl⟩, by unfold PyData.shown at q; exact q⟩
  | int i =>
    obtain ⟨t, rfl⟩ := ru
    exact PySem.P.repr_of_int (by unfold PyData.showable at hs; exact of_decide_eq_true hs) ⟨.str _, H, I.tok _, ⟨_, rfl⟩, by unfold PyData.shown at q; exact q⟩
  | str z =>
    obtain ⟨t, rfl⟩ := ru
    exact PySem.P.repr_of_str ⟨.str _, H, I.tok _, ⟨_, rfl⟩, by unfold PyData.shown at q; exact q⟩ (by unfold PyData.shown at hl; exact hl)
  | lst h1 h2 => cases ru; exact at_ref _ rfl
  | tup h1 h2 => cases ru; exact at_ref _ rfl
def reprD (d : D) : Option Slot := if (plain d && (toP d).showable && decide ((toP d).depth ≤ 60) && decide ((shown d).length ≤ sizeLine)) = true then some (.val (.str (shown d))) else none
theorem ok_repr {K : Fg} : OpN K (rRepr K) (ap1 reprD) := ap1_ok fun Z F H en σ v d s Q sr n e g => by
  unfold reprD at e
  split at e
  · rename_i c
    cases e
    rw [Bool.and_eq_true, Bool.and_eq_true, Bool.and_eq_true, decide_eq_true_eq, decide_eq_true_eq] at c
    exact ⟨v, toP d, rfl, n.dp sr.ex c.1.1.1, noDict d, c.1.1.2, c.1.2, c.2, g.v sr (.str _)⟩
  · cases e
def eqE (x y : D) : Option Slot := match x, y with
  | .str a, .str b => some (.val (.bl (decide (a = b))))
  | x, y => eqD x y
def neE (x y : D) : Option Slot := match x, y with
  | .str a, .str b => some (.val (.bl (!decide (a = b))))
  | x, y => neD x y
theorem str_inj {a b : Str} : decide (V.str a = V.str b) = decide (a = b) := by
  by_cases h : a = b
  · rw [decide_eq_true h, decide_eq_true (congrArg V.str h)]
  · rw [decide_eq_false h, decide_eq_false fun e => h (V.str.inj e)]
section
variable {K : Fg}
theorem ok_eqE : Op2 K (rOr rEq (rEqD K)) eqE := by
  intro Z F H en σ x y dx dy s Q sr hx hy e g
  unfold eqE at e
  split at e
  · cases e
    cases hx.str
    cases hy.str
    refine .inl ⟨rfl, ?_⟩
    rw [str_inj]
    exact g.v sr (.bl _)
  · exact .inr (ok_eq Z F H en σ x y dx dy s Q sr hx hy e g)
theorem ok_neE : Op2 K (rOr rNe (rNeD K)) neE := by
  intro Z F H en σ x y dx dy s Q sr hx hy e g
  unfold neE at e
  split at e
  · cases e
    cases hx.str
    cases hy.str
    refine .inl ⟨rfl, ?_⟩
    rw [str_inj]
    exact g.v sr (.bl _)
  · exact .inr (ok_ne Z F H en σ x y dx dy s Q sr hx hy e g)
end
def mRgB : Option (Fx Opd) → Fx Opd → Fx (Int × Int)
  | none, mb => mb.bind fun y en => match getD en y with
    | some (.int j) => .ok (0, j) en
    | _ => .bad
  | some ma, mb => ma.bind fun x => mb.bind fun y en => match getD en x, getD en y with
    | some (.int i), some (.int j) => .ok (i, j) en
    | _, _ => .bad
def rgOk (p : Int × Int) : Bool := decide (-(2 ^ 62) ≤ p.1 ∧ p.1 < 2 ^ 62 ∧ -(2 ^ 62) ≤ p.2 ∧ p.2 < 2 ^ 62 ∧ (p.2 - p.1).toNat ≤ 2 ^ 24)
def rgD (i j : Int) : List D := (List.range (j - i).toNat).map fun k => D.int (i + (k : Nat))
theorem rg_reps {K : Fg} {F : Hp} {i j : Int} : Reps K F (rgV i j) (rgD i j) := by
  unfold rgV rgD
  generalize List.range (j - i).toNat = l
  induction l with
  | nil => exact .nil
  | cons a r ih => exact .cons (.int _) ih
def mLstRg (m : Fx (Int × Int)) : Fx Slot := m.bind fun p en => if rgOk p = true then .ok (.own false (.lst (rgD p.1 p.2))) en else .bad
def mTupRg (m : Fx (Int × Int)) : Fx Slot := m.bind fun p en => if rgOk p = true then .ok (.val (.tup (rgD p.1 p.2))) en else .bad
abbrev cRg (K : Fg) (W : WX) (m : Fx (Int × Int)) : L2.St → Hp → (Int → Int → Hp → Prop) → Prop := fun σ H Q => ∃ Z F en, SR K Z F H en σ ∧ RP K W Z F σ (m en) fun p en' F' H' => Q p.1 p.2 H'
section
variable {X : Cx} {W : WX} {e a b : Expr} {p pos : Pos}
theorem rg_1 {mb : Fx Opd} (hg : Gl X "range") (hm : X.mg "range" = none) (hb : EO X W mb b) (ns : notStar b = true) : PRg X (.Call (.Name "range" p) [b] [] pos) (cRg X.K W (mRgB none mb)) := by
  intro pins s σ H Q I ⟨Z, F, en, sr, q⟩
  refine prg_1 hg hm hb (star_cons ns) pins s σ H Q I ⟨Z, F, en, sr, (RP.split q).mono fun y e1 F1 H1 sr1 f1 p v ov => ?_⟩
  cases g : getD e1 y with
  | none => rw [g] at p; exact p.elim
  | some d =>
    rw [g] at p
    cases d with
    | int j =>
      cases (sr1.now ov g).int
      exact ⟨j, rfl, p F1 H1 sr1 .rfl⟩
    | _ => exact p.elim
theorem rg_2 {ma mb : Fx Opd} (hg : Gl X "range") (hm : X.mg "range" = none) (ha : EO X W ma a) (hb : EO X W mb b) (ns : notStar a = true) (ns2 : notStar b = true) (hp : (backTo pos (starEach [b] X.env)).any (·.1) = false) : PRg X (.Call (.Name "range" p) [a, b] [] pos) (cRg X.K W (mRgB (some ma) mb)) := by
  intro pins s σ H Q I ⟨Z, F, en, sr, q⟩
  refine prg_2 hg hm ha hb (star_cons ns) (star_cons ns2) hp pins s σ H Q I ⟨Z, F, en, sr, (RP.split q).mono fun x e1 F1 H1 sr1 f1 p v ov => ?_⟩
  refine ⟨Z, F1, e1, sr1, (RP.split p).mono fun y e2 F2 H2 sr2 f2 p2 u ou => ?_⟩
  cases g : getD e2 x with
  | none => rw [g] at p2; exact p2.elim
  | some d =>
    rw [g] at p2
    cases d with
    | int i =>
      cases g2 : getD e2 y with
      | none => rw [g2] at p2; exact p2.elim
      | some d2 =>
        rw [g2] at p2
        cases d2 with
        | int j =>
          cases (sr2.now (ov.mono f2) g).int
          cases (sr2.now ou g2).int
          exact ⟨i, j, rfl, rfl, p2 F2 H2 sr2 .rfl⟩
        | _ => exact p2.elim
    | _ => exact p2.elim
theorem rgOk_of {q : Int × Int} (h : rgOk q = true) : RgOk q.1 q.2 := by
  unfold rgOk at h
  rw [decide_eq_true_eq] at h
  exact h
theorem er_lstRg {m : Fx (Int × Int)} (hc : X.calm = true) (hg : Gl X "list") (hm : X.mg "list" = none) (he : PRg X e (cRg X.K W m)) (ns : notStar e = true) : ER X W (mLstRg m) (.Call (.Name "list" p) [e] [] pos) := by
  refine (pe_listRg hc hg hm he (star_cons ns)).weak fun σ H Q ⟨Z, F, en, sr, q⟩ => ⟨Z, F, en, sr, (RP.split q).mono fun r e1 F1 H1 sr1 f1 p => ?_⟩
  by_cases c : rgOk r = true
  · rw [if_pos c] at p
    exact ⟨rgOk_of c, Gives.lst (fun v F' H' s2 f2 rv => p F' H' s2 f2 v rv) sr1 rg_reps⟩
  · rw [if_neg c] at p
    exact p.elim
theorem er_tupRg {m : Fx (Int × Int)} (hc : X.calm = true) (hg : Gl X "tuple") (hm : X.mg "tuple" = none) (he : PRg X e (cRg X.K W m)) (ns : notStar e = true) : ER X W (mTupRg m) (.Call (.Name "tuple" p) [e] [] pos) := by
  refine (pe_tupRg hc hg hm he (star_cons ns)).weak fun σ H Q ⟨Z, F, en, sr, q⟩ => ⟨Z, F, en, sr, (RP.split q).mono fun r e1 F1 H1 sr1 f1 p => ?_⟩
  by_cases c : rgOk r = true
  · rw [if_pos c] at p
    exact ⟨rgOk_of c, Gives.tup (fun v F' H' s2 f2 rv => p F' H' s2 f2 v rv) sr1 rg_reps⟩
  · rw [if_neg c] at p
    exact p.elim
end
end Mn
set_option Elab.async false
set_option linter.all false
set_option maxRecDepth 100000
set_option maxHeartbeats 1000000
namespace Mn
open PySem PySem.Spec PyProof.Rows L2
structure Mth (X : Cx) (name : Str) (x : V) (H : Hp) (T id : String) (r : V → List V → Hp → VK → Prop) : Prop where
  pa : PlainAttrs T
  sl : PySem.Slot T name id
  ty : typeOf (.builtin id) = pure (.type "method_descriptor")
  is : ∀ (pins : List (Addr × Obj)) (σ : L2.St) (s : Shared) (v : Value), Inv X pins σ H s → RelV x v → s.TypeIs v T ∧ ∀ a, v = .ref a → ∃ ob, s.heap.get? a = some ob ∧ ob.dict = none
  rule : MtR X id r
theorem few_of {env : PySem.Env} {pos : Pos} : ∀ {es : List Expr}, es.all notStar = true → (backTo pos (starEach es env)).all (fun x => !x.1) = true
  | [], _ => rfl
  | e :: es, h => by
    rw [List.all_cons, Bool.and_eq_true] at h
    rw [star_cons h.1]
    show (true && (backTo pos (starEach es env)).all fun x => !x.1) = true
    rw [few_of h.2]
    rfl
section
variable {X : Cx} {o : Expr} {es : List Expr} {to : TE} {t : TA} {name : Str} {apos cpos : Pos}
def tMX (X : Cx) (name : Str) (to : TE) (t : TA) : TE := fun σ H Q => to σ H fun x H1 => ∃ T id r, Mth X name x H1 T id r ∧ t σ H1 fun xs H2 => r x xs H2 Q
theorem pe_mx {e : Expr} (ho : PE X o to) (ha : PA X (e :: es) t) (hb : noBase o = true) (ns : (e :: es).all notStar = true) (hl : (e :: es).length < 30) (hline : (apos.endLine == cpos.line) = true) :
    PE X (.Call (.Attribute o name apos) (e :: es) [] cpos) (tMX X name to t) := by
  have ns' := ns
  rw [List.all_cons, Bool.and_eq_true] at ns'
  refine ⟨fun pins s σ H Q I h => ?_⟩
  refine wpAny_Call_method_late (no_base hb) (by rw [few_of ns]; simpa [keywordEach, backToKw] using hl) hline rfl (thn (ho.run pins s σ H _ I h) fun v s1 ⟨x, H1, I1, r1, T, id, r, m, q1⟩ => ?_)
  obtain ⟨h1, h2⟩ := m.is pins σ s1 v I1 r1
  have hA := ha.run cpos pins s1 σ H1 _ I1 q1
  refine ⟨T, id, m.pa, m.sl, m.ty, h1, h2, ?_⟩
  rw [star_cons ns'.1] at hA ⊢
  refine Calls.callWith_builtin (by show (false || (backTo cpos (starEach es X.env)).any (·.1)) = false; rw [star_none ns'.2]; rfl) (Calls.evalArgs_plain ?_)
  exact thn hA fun us s2 ⟨vs, H2, I2, r2, q2⟩ => m.rule pins s2 σ H2 x vs v us Q I2 r1 r2 q2
def tMX0 (X : Cx) (name : Str) (to : TE) : TE := fun σ H Q => to σ H fun x H1 => ∃ T id r, Mth X name x H1 T id r ∧ r x [] H1 Q
theorem pe_mx0 (ho : PE X o to) (hb : noBase o = true) (hline : (apos.endLine == cpos.line) = true) : PE X (.Call (.Attribute o name apos) [] [] cpos) (tMX0 X name to) := by
  refine ⟨fun pins s σ H Q I h => ?_⟩
  refine wpAny_Call_method0_late (no_base hb) hline (thn (ho.run pins s σ H _ I h) fun v s1 ⟨x, H1, I1, r1, T, id, r, m, q1⟩ => ?_)
  obtain ⟨h1, h2⟩ := m.is pins σ s1 v I1 r1
  exact ⟨T, id, m.pa, m.sl, m.ty, h1, h2, Calls.callWith_builtin rfl (PySem.evalArgs_none (m.rule pins s1 σ H1 x [] v [] Q I1 r1 .nil q1))⟩
end
section
variable {X : Cx} {H : Hp}
theorem mth_list {name : Str} {id : String} {r : V → List V → Hp → VK → Prop} {a : Addr} {vs : List V} (sl : PySem.Slot "list" name id) (ty : typeOf (.builtin id) = pure (.type "method_descriptor")) (m : MtR X id r) (q : SqL X.K H a vs) : Mth X name (.ref a) H "list" id r :=
  ⟨PySem.F.plainAttrs_list, sl, ty, fun pins σ s v I rv => tyV_is I rv (.inl ⟨rfl, vs, q⟩), m⟩
theorem mth_tup {name : Str} {id : String} {r : V → List V → Hp → VK → Prop} {a : Addr} {vs : List V} (sl : PySem.Slot "tuple" name id) (ty : typeOf (.builtin id) = pure (.type "method_descriptor")) (m : MtR X id r) (q : TpB H a vs) : Mth X name (.ref a) H "tuple" id r :=
  ⟨PySem.F.plainAttrs_tuple, sl, ty, fun pins σ s v I rv => by
    cases rv
    obtain ⟨o, e, d⟩ := q
    obtain ⟨h1, h2⟩ := (show ObjOk X.prog X.w H s.heap a (.frz o (.tup vs)) from I.hok a _ e)
    obtain ⟨_, _, _, o2, g1, g2, _⟩ := (show ObjOk X.prog X.w H s.heap a (.tup vs) from h2)
    refine ⟨⟨o2, g1, g2⟩, fun b e2 => ?_⟩
    cases e2
    exact ⟨o, h1, d⟩, m⟩
end
theorem ty_append : typeOf (.builtin "list.append") = pure (.type "method_descriptor") := by show builtinType _ = _; rw [builtinType_eq_fast]; kernel_rfl
theorem ty_extend : typeOf (.builtin "list.extend") = pure (.type "method_descriptor") := by show builtinType _ = _; rw [builtinType_eq_fast]; kernel_rfl
theorem ty_pop : typeOf (.builtin "list.pop") = pure (.type "method_descriptor") := by show builtinType _ = _; rw [builtinType_eq_fast]; kernel_rfl
theorem ty_remove : typeOf (.builtin "list.remove") = pure (.type "method_descriptor") := by show builtinType _ = _; rw [builtinType_eq_fast]; kernel_rfl
theorem ty_reverse : typeOf (.builtin "list.reverse") = pure (.type "method_descriptor") := by show builtinType _ = _; rw [builtinType_eq_fast]; kernel_rfl
theorem ty_insert : typeOf (.builtin "list.insert") = pure (.type "method_descriptor") := by show builtinType _ = _; rw [builtinType_eq_fast]; kernel_rfl
theorem ty_index : typeOf (.builtin "list.index") = pure (.type "method_descriptor") := by show builtinType _ = _; rw [builtinType_eq_fast]; kernel_rfl
theorem ty_count : typeOf (.builtin "list.count") = pure (.type "method_descriptor") := by show builtinType _ = _; rw [builtinType_eq_fast]; kernel_rfl
theorem ty_tcount : typeOf (.builtin "tuple.count") = pure (.type "method_descriptor") := by show builtinType _ = _; rw [builtinType_eq_fast]; kernel_rfl
/-- what the method does to the list, and what it gives -/
abbrev Mop := List D → List D → Option (List D × D)
def MuOk (K : Fg) (r : V → List V → Hp → VK → Prop) (op : Mop) : Prop := ∀ (F H : Hp) (a : Addr) (us : List V) (xs : List D) (vs : List V) (ds : List D) (ys : List D) (d : D) (Q : VK), Sub F H → F a = none → H a = some (.lst us) → Reps K F us xs → Reps K F vs ds → op xs ds = some (ys, d) →
  (∀ us' v, Reps K F us' ys → Rep K F v d → Q v (upd H a (.lst us'))) → r (.ref a) vs H Q
def mMt (i : Nat) (op : Mop) (ms : List (Fx D)) : Fx D := fun en => match en[i]? with
  | some (.own _ (.lst _)) => ((mVs ms).bind fun ds en => match en[i]? with
    | some (.own b (.lst xs)) => match op xs ds with
      | some (ys, d) => .ok d (en.set i (.own b (.lst ys)))
      | none => .bad
    | _ => .bad) en
  | _ => .bad
section
variable {X : Cx} {W : WX} {es : List Expr} {apos cpos npos : Pos}
theorem ev_mt {i : Nat} {x name : Str} {id : String} {r : V → List V → Hp → VK → Prop} {op : Mop} {ms : List (Fx D)} (sl : PySem.Slot "list" name id) (ty : typeOf (.builtin id) = pure (.type "method_descriptor")) (m : MtR X id r) (ok : MuOk X.K r op)
    (hx : PE X (.Name x npos) (tVar i)) {e : Expr} (ha : PA X (e :: es) (cVs X.K W (mVs ms))) (ns : (e :: es).all notStar = true) (hl : (e :: es).length < 30) (hline : (apos.endLine == cpos.line) = true) : EV X W (mMt i op ms) (.Call (.Attribute (.Name x npos) name apos) (e :: es) [] cpos) := by
  refine (pe_mx hx ha rfl ns hl hline).weak fun σ H Q ⟨Z, F, en, sr, q⟩ => ?_
  unfold mMt at q
  split at q
  · rename_i b0 xs0 e0
    obtain ⟨a, h1, h2, us, h3, h4⟩ := sr.ownAt e0
    refine ⟨_, h1, "list", id, r, mth_list sl ty m (SqL.of h3), ?_⟩
    refine ⟨Z, F, en, sr, (RP.split q).mono fun ds e1 F1 H1 sr1 f1 p vs rv => ?_⟩
    split at p
    · rename_i b xs e2
      cases c : op xs ds with
      | none =>
        rw [c] at p
        exact p.elim
      | some yd =>
        rw [c] at p
        obtain ⟨a', g1, g2, us', g3, g4⟩ := sr1.ownAt e2
        rw [h1] at g1
        cases g1
        exact ok F1 H1 a us' xs vs ds yd.1 yd.2 Q sr1.ex g2 g3 g4 rv c fun ws v k1 k2 => p F1 _ (sr1.put e2 h1 ⟨ws, upd_same, k1⟩) .rfl v k2
    · exact p.elim
  · exact q.elim
theorem ev_mt0 {i : Nat} {x name : Str} {id : String} {r : V → List V → Hp → VK → Prop} {op : Mop} (sl : PySem.Slot "list" name id) (ty : typeOf (.builtin id) = pure (.type "method_descriptor")) (m : MtR X id r) (ok : MuOk X.K r op)
    (hx : PE X (.Name x npos) (tVar i)) (hline : (apos.endLine == cpos.line) = true) : EV X W (mMt i op []) (.Call (.Attribute (.Name x npos) name apos) [] [] cpos) := by
  refine (pe_mx0 hx rfl hline).weak fun σ H Q ⟨Z, F, en, sr, q⟩ => ?_
  unfold mMt at q
  split at q
  · rename_i b0 xs0 e0
    obtain ⟨a, h1, h2, us, h3, h4⟩ := sr.ownAt e0
    refine ⟨_, h1, "list", id, r, mth_list sl ty m (SqL.of h3), ?_⟩
    have q' : RP X.K W Z F σ (match en[i]? with
      | some (.own b (.lst xs)) => match op xs [] with
        | some (ys, d) => .ok d (en.set i (.own b (.lst ys)))
        | none => .bad
      | _ => .bad) _ := q
    rw [e0] at q'
    dsimp only at q'
    cases c : op xs0 [] with
    | none =>
      rw [c] at q'
      exact q'.elim
    | some yd =>
      rw [c] at q'
      exact ok F H a us xs0 [] [] yd.1 yd.2 Q sr.ex h2 h3 h4 .nil c fun ws v k1 k2 => q' F _ (sr.put e0 h1 ⟨ws, upd_same, k1⟩) .rfl v k2
  · exact q.elim
end
def opAppend : Mop := fun xs ds => match ds with
  | [d] => if xs.length < sizeLine then some (xs ++ [d], .non) else none
  | _ => none
def opExtend : Mop := fun xs ds => match ds with
  | [.lst zs] => if xs.length + zs.length ≤ sizeLine then some (xs ++ zs, .non) else none
  | _ => none
def opPop : Mop := fun xs ds => match ds with
  | [] => match xs[xs.length - 1]? with
    | some d => some (xs.dropLast, d)
    | none => none
  | [.int k] => if -(2 ^ 63) ≤ k ∧ k < 2 ^ 63 then match ixN xs.length k with
      | some j => match xs[j]? with
        | some d => some (xs.eraseIdx j, d)
        | none => none
      | none => none
    else none
  | _ => none
def opRemove : Mop := fun xs ds => match ds with
  | [.int k] => match intsD xs with
    | some ns => match ns.findIdx? (fun n => decide (n = k)) with
      | some j => some ((ns.eraseIdx j).map .int, .non)
      | none => none
    | none => none
  | _ => none
def opReverse : Mop := fun xs ds => match ds with
  | [] => some (xs.reverse, .non)
  | _ => none
def opSort : Mop := fun xs ds => match ds with
  | [] => match intsD xs with
    | some ns => some ((sortI ns).map .int, .non)
    | none => none
  | _ => none
section
variable {K : Fg}
theorem Reps.one {F : Hp} {vs : List V} {d : D} (h : Reps K F vs [d]) : ∃ v, vs = [v] ∧ Rep K F v d := by
  cases h with
  | cons a r =>
    cases r
    exact ⟨_, rfl, a⟩
theorem Reps.none {F : Hp} {vs : List V} (h : Reps K F vs []) : vs = [] := by
  cases h
  rfl
theorem mu_append : MuOk K rAppend opAppend := by
  intro F H a us xs vs ds ys d Q f fa ha rx rv e k
  unfold opAppend at e
  split at e
  · split at e
    · rename_i d0 c
      cases e
      obtain ⟨v, rfl, r⟩ := rv.one
      exact ⟨a, us, v, rfl, rfl, ha, by rw [rx.length]; exact c, k _ _ (rx.app (.cons r .nil)) .non⟩
    · cases e
  · cases e
theorem mu_extend : MuOk K rExtend opExtend := by
  intro F H a us xs vs ds ys d Q f fa ha rx rv e k
  unfold opExtend at e
  split at e
  · split at e
    · rename_i zs c
      cases e
      obtain ⟨v, rfl, r⟩ := rv.one
      cases r with
      | @lst b ws _ q r => exact ⟨a, b, us, ws, rfl, rfl, ha, f _ _ q, by rw [rx.length, r.length]; exact c, k _ _ (rx.app r) .non⟩
    · cases e
  · cases e
theorem Reps.at' {F : Hp} {vs : List V} {ds : List D} {i : Nat} {d : D} (r : Reps K F vs ds) (e : ds[i]? = some d) : ∃ v, vs[i]? = some v ∧ Rep K F v d := r.at e
theorem Reps.erase {F : Hp} {vs : List V} {ds : List D} (r : Reps K F vs ds) : ∀ i : Nat, Reps K F (vs.eraseIdx i) (ds.eraseIdx i) := by
  induction vs generalizing ds with
  | nil =>
    cases r
    intro i
    simpa using Reps.nil
  | cons v vs ih =>
    cases r with
    | cons a r =>
      intro i
      cases i with
      | zero => simpa using r
      | succ i => simpa using Reps.cons a (ih r i)
theorem Reps.last {F : Hp} {vs : List V} {ds : List D} (r : Reps K F vs ds) : Reps K F vs.dropLast ds.dropLast := by
  rw [List.dropLast_eq_take, List.dropLast_eq_take, r.length]
  exact r.tk _
theorem Reps.rev {F : Hp} {vs : List V} {ds : List D} (r : Reps K F vs ds) : Reps K F vs.reverse ds.reverse := by
  induction vs generalizing ds with
  | nil =>
    cases r
    exact .nil
  | cons v vs ih =>
    cases r with
    | cons a r =>
      rw [List.reverse_cons, List.reverse_cons]
      exact (ih r).app (.cons a .nil)
abbrev rPopQ : V → List V → Hp → VK → Prop := fun x xs H Q => rPop x xs H Q ∨ rPopAt x xs H Q
theorem mt_popQ {X : Cx} : MtR X "list.pop" rPopQ := MtR.or mt_pop mt_popAt
theorem mu_pop : MuOk K rPopQ opPop := by
  intro F H a us xs vs ds ys d Q f fa ha rx rv e k
  unfold opPop at e
  split at e
  · cases q : xs[xs.length - 1]? with
    | none => rw [q] at e; cases e
    | some d0 =>
      rw [q] at e
      cases e
      obtain ⟨v, h1, h2⟩ := rx.at q
      have ev := rv.none
      subst ev
      exact .inl ⟨a, us, v, rfl, rfl, ha, by rw [rx.length]; exact h1, k _ _ rx.last h2⟩
  · rename_i i
    split at e
    · rename_i bd
      cases q : ixN xs.length i with
      | none => rw [q] at e; cases e
      | some j =>
        rw [q] at e
        dsimp only at e
        cases q2 : xs[j]? with
        | none => rw [q2] at e; cases e
        | some d0 =>
          rw [q2] at e
          cases e
          obtain ⟨v, h1, h2⟩ := rx.at q2
          obtain ⟨w, rfl, rw'⟩ := rv.one
          cases rw'
          obtain ⟨s1, s2, s3, s4⟩ := ixN_seq q
          exact .inr ⟨a, us, i, j, v, rfl, rfl, ha, bd.1, bd.2, by rw [rx.length]; exact s1, h1, k _ _ (rx.erase j) h2⟩
    · cases e
  · cases e
theorem mu_remove : MuOk K rRemI opRemove := by
  intro F H a us xs vs ds ys d Q f fa ha rx rv e k
  unfold opRemove at e
  split at e
  · rename_i i
    cases q : intsD xs with
    | none => rw [q] at e; cases e
    | some ns =>
      rw [q] at e
      dsimp only at e
      cases q2 : ns.findIdx? (fun n => decide (n = i)) with
      | none => rw [q2] at e; cases e
      | some j =>
        rw [q2] at e
        cases e
        rw [ints_of q] at rx
        rw [rx.int] at ha
        obtain ⟨w, rfl, rw'⟩ := rv.one
        cases rw'
        obtain ⟨h1, h2, h3⟩ := List.findIdx?_eq_some_iff_getElem.mp q2
        rw [decide_eq_true_eq] at h2
        refine ⟨a, ns, i, j, rfl, rfl, ha, by rw [List.getElem?_eq_getElem h1, h2], fun m hm e => ?_, k _ _ Reps.ints .non⟩
        obtain ⟨g1, g2⟩ := List.getElem?_eq_some_iff.mp e
        exact h3 m hm (by rw [decide_eq_true_eq]; exact g2)
  · cases e
theorem mu_reverse : MuOk K rReverse opReverse := by
  intro F H a us xs vs ds ys d Q f fa ha rx rv e k
  unfold opReverse at e
  split at e
  · cases e
    have ev := rv.none
    subst ev
    exact ⟨a, us, rfl, rfl, ha, k _ _ rx.rev .non⟩
  · cases e
theorem mu_sort : MuOk K rSortI opSort := by
  intro F H a us xs vs ds ys d Q f fa ha rx rv e k
  unfold opSort at e
  split at e
  · cases q : intsD xs with
    | none => rw [q] at e; cases e
    | some ns =>
      rw [q] at e
      cases e
      rw [ints_of q] at rx
      rw [rx.int] at ha
      have ev := rv.none
      subst ev
      refine ⟨a, ns, rfl, rfl, ha, fun ns' p1 p2 => ?_⟩
      have e2 := sortI_eq p1 p2
      subst e2
      exact k _ _ Reps.ints .non
  · cases e
end
end Mn
set_option Elab.async false
set_option linter.all false
set_option maxRecDepth 100000
set_option maxHeartbeats 1000000
namespace Mn
open PySem PySem.Spec PyProof.Rows L2
/-- a list: false; a bare tuple: true -/
def kindB : D → Option Bool
  | .lst _ => some false
  | .scr _ => some false
  | .tpb _ => some true
  | _ => none
def mRd (k : Bool) (op : D → List D → Option Slot) (mo : Fx Opd) (ms : List (Fx D)) : Fx Slot := mo.bind fun x en => match getD en x with
  | some dx => if kindB dx = some k then ((mVs ms).bind fun ds e2 => match getD e2 x with
      | some dy => if kindB dy = some k then match op dy ds with
          | some s => .ok s e2
          | none => .bad
        else .bad
      | none => .bad) en
    else .bad
  | none => .bad
def RdOk (K : Fg) (k : Bool) (r : V → List V → Hp → VK → Prop) (op : D → List D → Option Slot) : Prop := ∀ Z F H en σ x dx vs ds s Q, SR K Z F H en σ → Now K F H x dx → kindB dx = some k → Reps K F vs ds → op dx ds = some s → Gives K Z F H en σ s Q → r x vs H Q
section
variable {X : Cx} {W : WX} {es : List Expr} {apos cpos : Pos} {o e : Expr}
theorem mth_of {k : Bool} {K : Fg} {name : Str} {id : String} {r : V → List V → Hp → VK → Prop} {F H : Hp} {v : V} {d : D} (sl : PySem.Slot (if k then "tuple" else "list") name id) (ty : typeOf (.builtin id) = pure (.type "method_descriptor")) (m : MtR X id r)
    (x : Sub F H) (n : Now X.K F H v d) (e : kindB d = some k) : Mth X name v H (if k then "tuple" else "list") id r := by
  cases d with
  | lst xs =>
    cases e
    obtain ⟨a, vs, rfl, q, _⟩ := n.lst x
    exact mth_list sl ty m (SqL.of q)
  | scr is =>
    cases e
    obtain ⟨a, rfl, q⟩ := n.scr x
    exact mth_list sl ty m q
  | tpb xs =>
    cases e
    obtain ⟨a, vs, rfl, q, _⟩ := n.tpb x
    exact mth_tup sl ty m q
  | _ => cases e
theorem er_rd {k : Bool} {name : Str} {id : String} {r : V → List V → Hp → VK → Prop} {op : D → List D → Option Slot} {mo : Fx Opd} {ms : List (Fx D)} (sl : PySem.Slot (if k then "tuple" else "list") name id) (ty : typeOf (.builtin id) = pure (.type "method_descriptor")) (m : MtR X id r) (ok : RdOk X.K k r op)
    (ho : EO X W mo o) (ha : PA X (e :: es) (cVs X.K W (mVs ms))) (hb : noBase o = true) (ns : (e :: es).all notStar = true) (hl : (e :: es).length < 30) (hline : (apos.endLine == cpos.line) = true) :
    ER X W (mRd k op mo ms) (.Call (.Attribute o name apos) (e :: es) [] cpos) := by
  refine (pe_mx ho ha hb ns hl hline).weak fun σ H Q ⟨Z, F, en, sr, q⟩ => ?_
  refine ⟨Z, F, en, sr, (RP.split q).mono fun x e1 F1 H1 sr1 f1 p v ov => ?_⟩
  cases g : getD e1 x with
  | none => rw [g] at p; exact p.elim
  | some dx =>
    rw [g] at p
    dsimp only at p
    by_cases c : kindB dx = some k
    · rw [if_pos c] at p
      refine ⟨_, id, r, mth_of (K := X.K) sl ty m sr1.ex (sr1.now ov g) c, ?_⟩
      refine ⟨Z, F1, e1, sr1, (RP.split p).mono fun ds e2 F2 H2 sr2 f2 p2 vs rv => ?_⟩
      cases g2 : getD e2 x with
      | none => rw [g2] at p2; exact p2.elim
      | some dy =>
        rw [g2] at p2
        dsimp only at p2
        by_cases c2 : kindB dy = some k
        · rw [if_pos c2] at p2
          cases c3 : op dy ds with
          | none => rw [c3] at p2; exact p2.elim
          | some s =>
            rw [c3] at p2
            exact ok Z F2 H2 e2 σ v dy vs ds s Q sr2 (sr2.now (ov.mono f2) g2) c2 rv c3 fun v F' H' s2 f2 rv => p2 F' H' s2 f2 v rv
        · rw [if_neg c2] at p2
          exact p2.elim
    · rw [if_neg c] at p
      exact p.elim
/-- tuple.count of ints -/
def rCntT (K : Fg) : V → List V → Hp → VK → Prop := fun x xs H Q => ∃ (p : Addr) (ns : List Int) (k : Int), x = .ref p ∧ xs = [.int k] ∧ SqT K H p (ns.map V.int) ∧ Q (.int (ns.count k : Nat)) H
theorem mt_tcount : MtR X "tuple.count" (rCntT X.K) := by
  intro pins s σ H x xs v us Q I rx rxs ⟨p, ns, k, ex, exs, hs, q⟩
  subst ex exs
  cases rx
  obtain ⟨u, rfl, t, rfl⟩ := rxs.one
  obtain ⟨its, rv, ⟨⟨c0, dd, data, sl⟩, ho, hc, n, hd⟩, _⟩ := I.tuple hs
  simp only at hc hd
  subst hc hd
  have hi := ints_of_vals rv
  refine call_meets PySem.F.slot_tuple_count ⟨_, ho, rfl⟩ PySem.F.entry_tuple_count (PySem.F.args_tuple_count_2 _ _)
    (SeqAt.tuple_countAt p its.toArray n dd sl (.int k t) (eqk k)) ⟨ho, fun y hy => (eqk_gives hi y (by simpa using hy)).at _ _, ?_⟩
  have ec : its.toArray.toList.countP (eqk k) = ns.count k := eqk_count hi
  exact ⟨.int (ns.count k : Nat), H, I.tok _, ⟨s.toks, by rw [ec]⟩, q⟩
end
def cntD (x : D) (ds : List D) : Option Slot := match itemsOf x, ds with
  | some xs, [.int k] => match intsD xs with
    | some ns => some (.val (.int (ns.count k : Nat)))
    | none => none
  | _, _ => none
def indexD (x : D) (ds : List D) : Option Slot := match itemsOf x, ds with
  | some xs, [d] => if (flat d && xs.all flat) = true then match xs.findIdx? (fun z => PyData.eqv (toP z) (toP d)) with
      | some j => some (.val (.int (j : Nat)))
      | none => none
    else none
  | _, _ => none
section
variable {K : Fg}
theorem rd_count : RdOk K false (rCntI K) cntD := by
  intro Z F H en σ x dx vs ds s Q sr n kb rv e g
  unfold cntD at e
  split at e
  · rename_i xs k q
    cases q2 : intsD xs with
    | none => rw [q2] at e; cases e
    | some ns =>
      rw [q2] at e
      cases e
      have li : lItems dx = some xs := by cases dx <;> first | exact q | cases kb
      obtain ⟨a, us, rfl, hq, r⟩ := n.lsq sr.ex li
      rw [ints_of q2] at r
      rw [r.int] at hq
      obtain ⟨w, rfl, rw'⟩ := rv.one
      cases rw'
      exact ⟨a, ns, k, rfl, rfl, hq, g.v sr (.int _)⟩
  · cases e
theorem rd_tcount : RdOk K true (rCntT K) cntD := by
  intro Z F H en σ x dx vs ds s Q sr n kb rv e g
  unfold cntD at e
  split at e
  · rename_i xs k q
    cases q2 : intsD xs with
    | none => rw [q2] at e; cases e
    | some ns =>
      rw [q2] at e
      cases e
      cases dx with
      | tpb ys =>
        cases q
        obtain ⟨a, us, rfl, hq, r, _⟩ := n.tpb sr.ex
        rw [ints_of q2] at r
        have hq' := hq.sq (K := K)
        rw [r.int] at hq'
        obtain ⟨w, rfl, rw'⟩ := rv.one
        cases rw'
        exact ⟨a, ns, k, rfl, rfl, hq', g.v sr (.int _)⟩
      | _ => cases kb
  · cases e
theorem rd_index : RdOk K false (rIndex K) indexD := by
  intro Z F H en σ x dx vs ds s Q sr n kb rv e g
  unfold indexD at e
  split at e
  · rename_i xs d q
    split at e
    · rename_i c
      rw [Bool.and_eq_true] at c
      cases q2 : xs.findIdx? (fun z => PyData.eqv (toP z) (toP d)) with
      | none => rw [q2] at e; cases e
      | some j =>
        rw [q2] at e
        cases e
        have li : lItems dx = some xs := by cases dx <;> first | exact q | cases kb
        obtain ⟨a, us, rfl, hq, r⟩ := n.lsq sr.ex li
        obtain ⟨w, rfl, rw'⟩ := rv.one
        obtain ⟨h1, h2, h3⟩ := List.findIdx?_eq_some_iff_getElem.mp q2
        obtain ⟨z, g1, g2⟩ := r.at (List.getElem?_eq_getElem h1)
        have fl : ∀ {i : Nat} {d' : D}, xs[i]? = some d' → flat d' = true := fun {i d'} e => List.all_eq_true.mp c.2 d' (List.mem_of_getElem? e)
        refine ⟨a, us, w, j, z, rfl, rfl, hq, rw'.flat c.1, r.flat c.2, g1, ?_, fun m z' hm hz => ?_, g.v sr (.int _)⟩
        · rw [eqV_of g2 rw' (fl (List.getElem?_eq_getElem h1)) c.1]
          exact h2
        · obtain ⟨d', k1, k2⟩ := r.atV hz
          rw [eqV_of k2 rw' (fl k1) c.1]
          obtain ⟨l1, l2⟩ := List.getElem?_eq_some_iff.mp k1
          have := h3 m hm
          rw [l2] at this
          exact Bool.not_eq_true _ ▸ this
    · cases e
  · cases e
end
def putIx (i : Nat) (j : D) (d : D) : Fs := fun en => match en[i]? with
  | some (.own b (.lst xs)) => match j with
    | .int k => match ixN xs.length k with
      | some m => .nx (en.set i (.own b (.lst (xs.set m d))))
      | none => .bad
    | _ => .bad
  | _ => .bad
/-- a store of an item: the name was asked already, then its index, then it is stored -/
def sPutAt (i : Nat) (mi : Fx Opd) (d : D) : Fs := fun en => match en[i]? with
  | some (.own _ _) => sOf mi (fun o en => match getD en o with
    | some j => putIx i j d en
    | none => .bad) en
  | _ => .bad
def sPuts : List (Nat × Fx Opd) → List D → Fs
  | [], [] => sSkip
  | (i, mi) :: r, d :: ds => sSeq (sPutAt i mi d) (sPuts r ds)
  | _, _ => fun _ => .bad
/-- what a store asks: no exception leaves it -/
def cPut (K : Fg) (W : WX) (f : D → Fs) : TG := fun v σ H Q => ∃ Z F en d, SR K Z F H en σ ∧ Rep K F v d ∧ match f d en with
  | .nx e => ∀ F' H', SR K Z F' H' e σ → Sub F F' → Q σ H'
  | .ex C fs e => ∀ x gs F' H', SR K Z F' H' e σ → Sub F F' → H' x = some (.xd gs) → RepF K F' gs fs → W (.ref (He.ga K C)) (some x) σ H'
  | _ => False
def cPuts (K : Fg) (W : WX) (f : List D → Fs) : TGs := fun vs σ H Q => ∃ Z F en ds, SR K Z F H en σ ∧ Reps K F vs ds ∧ match f ds en with
  | .nx e => ∀ F' H', SR K Z F' H' e σ → Sub F F' → Q σ H'
  | .ex C fs e => ∀ x gs F' H', SR K Z F' H' e σ → Sub F F' → H' x = some (.xd gs) → RepF K F' gs fs → W (.ref (He.ga K C)) (some x) σ H'
  | _ => False
/-- an index that is no slice -/
def noSl : Expr → Bool
  | .Slice .. => false
  | .Tuple .. => false
  | _ => true
section
variable {X : Cx} {W : WX} {ix : Expr} {npos pos : Pos} {x : Str}
theorem asg_sub {o : Expr} {env : PySem.Env} (h : noSl ix = true) : ∀ v, assign (.Subscript o ix pos) env v = (do
      let ov ← holding [v] (eval o env)
      let iv ← holding [v, ov] (eval ix env)
      standAt pos
      holding [v, ov, iv] (setItem ov iv v)
      release [v, ov, iv] []) := by
  intro v
  cases ix <;> first | rfl | cases h
theorem eg_put {i : Nat} {mi : Fx Opd} (hx : PE X (.Name x npos) (tVar i)) (hi : EO X W mi ix) (ns : noSl ix = true) : PG X (.Subscript (.Name x npos) ix pos) (cPut X.K W (sPutAt i mi)) := by
  refine (pg_sub hx hi set_list (asg_sub ns)).weak fun v σ H Q ⟨Z, F, en, d, sr, r, q⟩ => ?_
  unfold sPutAt at q
  cases e0 : en[i]? with
  | none => rw [e0] at q; exact q.elim
  | some s0 =>
    rw [e0] at q
    cases s0 with
    | un => exact q.elim
    | val d0 => exact q.elim
    | own b d0 =>
      obtain ⟨a, h1, h2, h3⟩ := sr.ownAt e0
      refine ⟨_, h1, Z, F, en, sr, ?_⟩
      unfold sOf at q
      cases m : mi en with
      | bad => rw [m] at q; exact q.elim
      | exn C fs e => rw [m] at q; exact fun x gs F' H' s f hd rf => q x gs F' H' s f hd rf
      | ok o e1 =>
        rw [m] at q
        intro F1 H1 sr1 f1 u ou
        dsimp only at q
        cases g : getD e1 o with
        | none => rw [g] at q; exact q.elim
        | some j =>
          rw [g] at q
          dsimp only at q
          unfold putIx at q
          cases e2 : e1[i]? with
          | none => rw [e2] at q; exact q.elim
          | some s1 =>
            rw [e2] at q
            cases s1 with
            | un => exact q.elim
            | val d0 => exact q.elim
            | own b1 d1 =>
              cases d1 with
              | lst xs =>
                obtain ⟨a', g1, g2, us, g3, g4⟩ := sr1.ownAt e2
                rw [h1] at g1
                cases g1
                cases j with
                | int k =>
                  dsimp only at q
                  cases c : ixN xs.length k with
                  | none => rw [c] at q; exact q.elim
                  | some m' =>
                    rw [c] at q
                    cases (sr1.now ou g).int
                    exact ⟨a, us, k, m', rfl, rfl, g3, by rw [g4.length]; exact c, q F1 _ (sr1.put e2 h1 ⟨us.set m' v, upd_same, g4.put (r.mono f1) m'⟩) f1⟩
                | _ => exact q.elim
              | _ => exact q.elim
theorem ep_nil : PGs X [] (cPuts X.K W (sPuts [])) := pgs_nil.weak fun vs σ H Q ⟨Z, F, en, ds, sr, r, q⟩ => by
  cases r with
  | nil => exact ⟨rfl, q F H sr .rfl⟩
  | cons a r => exact q.elim
theorem ep_cons {t : Expr} {ts : List Expr} {i : Nat} {mi : Fx Opd} {r : List (Nat × Fx Opd)} (h : PG X t (cPut X.K W (sPutAt i mi))) (k : PGs X ts (cPuts X.K W (sPuts r))) (ns : notStar t = true) : PGs X (t :: ts) (cPuts X.K W (sPuts ((i, mi) :: r))) := by
  refine (pgs_cons h k (by rw [asg_cons ns]; rfl)).weak fun vs σ H Q ⟨Z, F, en, ds, sr, rr, q⟩ => ?_
  cases rr with
  | nil => exact q.elim
  | @cons v d vs ds a rr =>
    unfold sPuts sSeq at q
    refine ⟨v, vs, rfl, Z, F, en, d, sr, a, ?_⟩
    cases b : sPutAt i mi d en with
    | nx e => rw [b] at q; exact fun F' H' s f => ⟨Z, F', e, ds, s, rr.mono f, by
        dsimp only at q
        cases b2 : sPuts r ds e with
        | nx e2 => rw [b2] at q; exact fun F2 H2 s2 f2 => q F2 H2 s2 (f.tr f2)
        | ex C fs e2 => rw [b2] at q; exact fun x gs F2 H2 s2 f2 hd rf => q x gs F2 H2 s2 (f.tr f2) hd rf
        | bk e2 => rw [b2] at q; exact q.elim
        | ct e2 => rw [b2] at q; exact q.elim
        | rt v e2 => rw [b2] at q; exact q.elim
        | bad => rw [b2] at q; exact q.elim⟩
    | ex C fs e => rw [b] at q; exact fun x gs F' H' s f hd rf => q x gs F' H' s f hd rf
    | bk e => rw [b] at q; exact q.elim
    | ct e => rw [b] at q; exact q.elim
    | rt v e => rw [b] at q; exact q.elim
    | bad => rw [b] at q; exact q.elim
/-- x[i] = v -/
def sPut (i : Nat) (mi : Fx Opd) (mv : Fx D) : Fs := sOf mv fun d en => match sPutAt i mi d en with
  | .nx e => .nx e
  | .ex C fs e => .ex C fs e
  | _ => .bad
theorem es_put {i : Nat} {mi : Fx Opd} {mv : Fx D} {e : Expr} {spos : Pos} (hx : PE X (.Name x npos) (tVar i)) (hi : EO X W mi ix) (he : EV X W mv e) (ns : noSl ix = true) (nc : notComp e = true) : ES X W (sPut i mi mv) (.Assign [.Subscript (.Name x npos) ix pos] e spos) := by
  have hw : swappedStores [.Subscript (.Name x npos) ix pos] e X.env = pure none := rfl
  have hsw : swapsWithSole [.Subscript (.Name x npos) ix pos] e spos.line X.env = pure false := no_swap (t := some (.Subscript (.Name x npos) ix pos)) (l := spos.line) (env := X.env) nc
  refine (ps_asg he (eg_put hx hi ns) hsw hw (by rfl)).weak fun D σ H ⟨Z, F, en, sr, q⟩ => ⟨Z, F, en, sr, (SQ.of q).mono fun d e1 F1 H1 sr1 f1 ⟨s, f, p⟩ v rv => ?_⟩
  refine ⟨Z, F1, e1, d, sr1, rv, ?_⟩
  cases b : sPutAt i mi d e1 with
  | nx e => rw [b] at p; exact fun F' H' s f => p σ F' H' s f
  | ex C fs e => rw [b] at p; exact fun x gs F' H' s f hd rf => p x gs σ F' H' s f hd rf
  | bk e => rw [b] at p; exact p.elim
  | ct e => rw [b] at p; exact p.elim
  | rt v e => rw [b] at p; exact p.elim
  | bad => rw [b] at p; exact p.elim
/-- x[i], y[j] = v, w -/
def sPut2 (ps : List (Nat × Fx Opd)) (mv : Fx D) : Fs := sOf mv fun d en => match d with
  | .tup ds => if ds.length = ps.length then match sPuts ps ds en with
      | .nx e => .nx e
      | .ex C fs e => .ex C fs e
      | _ => .bad
    else .bad
  | .tpb ds => if ds.length = ps.length then match sPuts ps ds en with
      | .nx e => .nx e
      | .ex C fs e => .ex C fs e
      | _ => .bad
    else .bad
  | _ => .bad
theorem es_put2 {ps : List (Nat × Fx Opd)} {mv : Fx D} {e : Expr} {ts : List Expr} {k : Nat} {spos : Pos} (hc : X.calm = true) (hp : PGs X ts (cPuts X.K W (sPuts ps))) (he : EV X W mv e) (ns : ts.all notStar = true) (hl : ts.length = ps.length) (nc : notComp e = true)
    (hw : swappedStores [.Tuple ts k pos] e X.env = pure none) : ES X W (sPut2 ps mv) (.Assign [.Tuple ts k pos] e spos) := by
  obtain ⟨l1, l2⟩ := asg_len (env := X.env) ns
  have hsw : swapsWithSole [.Tuple ts k pos] e spos.line X.env = pure false := no_swap (t := some (.Tuple ts k pos)) (l := spos.line) (env := X.env) nc
  refine (ps_asg he (pg_tup hc hp l1 l2) hsw hw (by rfl)).weak fun D σ H ⟨Z, F, en, sr, q⟩ => ⟨Z, F, en, sr, (SQ.of q).mono fun d e1 F1 H1 sr1 f1 ⟨s, f, p⟩ v rv => ?_⟩
  cases rv with
  | @tup a vs xs hT rs =>
    dsimp only at p
    by_cases c : xs.length = ps.length
    · rw [if_pos c] at p
      refine ⟨a, vs, rfl, SqT.of (sr1.ex _ _ hT), by rw [rs.length, c, hl], Z, F1, e1, xs, sr1, rs, ?_⟩
      cases b : sPuts ps xs e1 with
      | nx e => rw [b] at p; exact fun F' H' s f => p σ F' H' s f
      | ex C fs e => rw [b] at p; exact fun x gs F' H' s f hd rf => p x gs σ F' H' s f hd rf
      | bk e => rw [b] at p; exact p.elim
      | ct e => rw [b] at p; exact p.elim
      | rt v e => rw [b] at p; exact p.elim
      | bad => rw [b] at p; exact p.elim
    · rw [if_neg c] at p
      exact p.elim
  | @tpb a vs xs hT rs =>
    dsimp only at p
    by_cases c : xs.length = ps.length
    · rw [if_pos c] at p
      refine ⟨a, vs, rfl, (sr1.ex.tpb hT).sq, by rw [rs.length, c, hl], Z, F1, e1, xs, sr1, rs, ?_⟩
      cases b : sPuts ps xs e1 with
      | nx e => rw [b] at p; exact fun F' H' s f => p σ F' H' s f
      | ex C fs e => rw [b] at p; exact fun x gs F' H' s f hd rf => p x gs σ F' H' s f hd rf
      | bk e => rw [b] at p; exact p.elim
      | ct e => rw [b] at p; exact p.elim
      | rt v e => rw [b] at p; exact p.elim
      | bad => rw [b] at p; exact p.elim
    · rw [if_neg c] at p
      exact p.elim
  | _ => exact p.elim
end
def setAll : En → List Nat → List Slot → En
  | en, i :: is, r :: rs => setAll (en.set i r) is rs
  | en, _, _ => en
def setAllV : L2.St → List Nat → List V → L2.St
  | σ, i :: is, v :: vs => setAllV (σ.set i (some v)) is vs
  | σ, _, _ => σ
section
variable {K : Fg} {Z : Zr} {F H : Hp} {en : En} {σ : L2.St}
theorem RVs.set {r : Slot} {v : V} {i : Nat} : ∀ {rs : List Slot} {vs : List V} {Z1 Z2 : Zr}, RVs K F H en σ Z1 rs vs → Z2.H = Z1.H → (∀ p ∈ Z2.T, p ∈ Z1.T) → (∀ b d a, r = .own b d → v = .ref a → (d, a) ∈ Z1.T) → RVs K F H (en.set i r) (σ.set i (some v)) Z2 rs vs
  | [], [], _, _, _, _, _, _ => trivial
  | [], _ :: _, _, _, h, _, _, _ => h.elim
  | _ :: _, [], _, _, h, _, _, _ => h.elim
  | s :: rs, u :: vs, Z1, Z2, h, e, t, w => by
    obtain ⟨h1, h2⟩ := h
    refine ⟨?_, ?_⟩
    · cases s with
      | un => exact h1
      | val d => exact h1
      | own b d =>
        cases b with
        | true => exact h1
        | false =>
          obtain ⟨a, ea, fa, c, za, na, nt'⟩ := h1
          refine ⟨a, ea, fa, c, by rw [e]; exact za, fun j b e1 g1 g2 => ?_, fun p hp => nt' p (t p hp)⟩
          rcases get_put g2 with ⟨q, k2⟩ | ⟨q, k2⟩
          · rcases get_put g1 with ⟨_, k1⟩ | ⟨q1, _⟩
            · exact nt' _ (w b e1 a k1.symm (Option.some.inj k2).symm) rfl
            · exact q1 q
          · rcases get_put g1 with ⟨q2, _⟩ | ⟨_, k1⟩
            · exact q q2
            · exact na j b e1 k1 k2
    · have e2 : (Z2.tmp s u).H = (Z1.tmp s u).H := by
        have k : ∀ Z : Zr, (Z.tmp s u).H = Z.H := fun Z => by
          cases s with
          | own b d => cases b <;> cases u <;> rfl
          | _ => rfl
        rw [k, k, e]
      refine RVs.set h2 e2 (fun p hp => ?_) (fun b d a k1 k2 => ?_)
      · cases s with
        | un => exact t p hp
        | val d => exact t p hp
        | own b d =>
          cases b with
          | true => exact t p hp
          | false =>
            cases u with
            | ref a =>
              rcases List.mem_cons.mp hp with z | z
              · rw [z]
                exact List.mem_cons_self
              · exact List.mem_cons_of_mem _ (t p z)
            | _ => exact t p hp
      · have m := w b d a k1 k2
        cases s with
        | un => exact m
        | val d => exact m
        | own b d =>
          cases b with
          | true => exact m
          | false =>
            cases u with
            | ref a => exact List.mem_cons_of_mem _ m
            | _ => exact m
def okAll (en : En) : List Nat → List Slot → Bool
  | [], [] => true
  | i :: is, _ :: rs => !lent en i && okAll en is rs
  | _, _ => false
theorem lent_set {i j : Nat} {r : Slot} (h : ∀ d, r ≠ .own true d) (l : lent en j = false) : lent (en.set i r) j = false := by
  unfold lent
  cases q : (en.set i r)[j]? with
  | none => rfl
  | some s =>
    rcases get_put q with ⟨_, e⟩ | ⟨_, e⟩
    · cases s with
      | own b d =>
        cases b with
        | true => exact absurd e.symm (h d)
        | false => rfl
      | _ => rfl
    · unfold lent at l
      rw [e] at l
      exact l
theorem okAll_set {i : Nat} {r : Slot} (h : ∀ d, r ≠ .own true d) : ∀ {is : List Nat} {rs : List Slot}, okAll en is rs = true → okAll (en.set i r) is rs = true
  | [], [], _ => rfl
  | j :: is, s :: rs, k => by
    unfold okAll at k ⊢
    rw [Bool.and_eq_true, Bool.not_eq_true'] at k ⊢
    exact ⟨lent_set h k.1, okAll_set h k.2⟩
  | [], _ :: _, k => by cases k
  | _ :: _, [], k => by cases k
theorem SR.storeAll : ∀ {is : List Nat} {rs : List Slot} {vs : List V} {en : En} {σ : L2.St}, SR K Z F H en σ → RVs K F H en σ Z rs vs → okAll en is rs = true → SR K Z F H (setAll en is rs) (setAllV σ is vs)
  | [], [], [], en, σ, h, _, _ => h
  | i :: is, r :: rs, v :: vs, en, σ, h, w, ok => by
    unfold okAll at ok
    rw [Bool.and_eq_true, Bool.not_eq_true'] at ok
    obtain ⟨w1, w2⟩ := w
    have nr : ∀ d, r ≠ .own true d := fun d e => by
      subst e
      exact w1
    show SR K Z F H (setAll (en.set i r) is rs) (setAllV (σ.set i (some v)) is vs)
    refine SR.storeAll (h.store ok.1 w1) ?_ (okAll_set nr ok.2)
    refine RVs.set w2 ?_ (fun p hp => ?_) (fun b d a e1 e2 => ?_)
    · cases r with
      | own b d => cases b <;> cases v <;> rfl
      | _ => rfl
    · cases r with
      | own b d =>
        cases b with
        | true => exact hp
        | false =>
          cases v with
          | ref a => exact List.mem_cons_of_mem _ hp
          | _ => exact hp
      | _ => exact hp
    · subst e1 e2
      cases b with
      | true => exact absurd rfl (nr d)
      | false => exact List.mem_cons_self
  | [], _ :: _, _, _, _, _, _, ok => by cases ok
  | _ :: _, [], _, _, _, _, _, ok => by cases ok
  | [], [], _ :: _, _, _, _, w, _ => w.elim
  | _ :: _, _ :: _, [], _, _, _, w, _ => w.elim
end
def sPar (is : List Nat) (ms : List (Fx Slot)) : Fs := sOf (mRs ms) fun rs en => if okAll en is rs = true then .nx (setAll en is rs) else .bad
section
variable {X : Cx} {W : WX} {spos : Pos}
theorem es_par2 {i j : Nat} {x y : Str} {a b : Expr} {ms : List (Fx Slot)} {px py pt : Pos} {kt k2 : Nat} {pt2 : Pos} (hc : X.calm = true) (hN : X.N.Nodup) (hi : X.N[i]? = some x) (hj : X.N[j]? = some y) (hij : i ≠ j)
    (hx : X.env.scope.names.lookup x = some .local) (hy : X.env.scope.names.lookup y = some .local) (ha : PA X [a, b] (cRs X.K W (mRs ms)))
    (hw : swappedStores [.Tuple [.Name x px, .Name y py] kt pt] (.Tuple [a, b] k2 pt2) X.env = pure (some [x, y])) :
    ES X W (sPar [i, j] ms) (.Assign [.Tuple [.Name x px, .Name y py] kt pt] (.Tuple [a, b] k2 pt2) spos) := by
  have hsw : swapsWithSole [.Tuple [.Name x px, .Name y py] kt pt] (.Tuple [a, b] k2 pt2) spos.line X.env = pure false := no_swap (e := .Tuple [a, b] k2 pt2) (t := some (.Tuple [.Name x px, .Name y py] kt pt)) (l := spos.line) (env := X.env) rfl
  refine (ps_par hc hN hi hj hij hx hy ha hw hsw).weak fun D σ H ⟨Z, F, en, sr, q⟩ => ⟨Z, F, en, sr, (SQ.of q).mono fun rs e1 F1 H1 sr1 f1 ⟨s, f, p⟩ vs w => ?_⟩
  by_cases c : okAll e1 [i, j] rs = true
  · rw [if_pos c] at p
    have z := sr1.storeAll w c
    match rs, vs, c, w with
    | [r1, r2], [v1, v2], c, w => exact ⟨v1, v2, rfl, p _ F1 H1 z .rfl⟩
    | [], _, c, _ => cases c
    | [_], _, c, _ => simp [okAll] at c
    | _ :: _ :: _ :: _, _, c, _ => simp [okAll] at c
    | [_, _], [], c, w => exact w.elim
    | [_, _], [_], c, w => exact w.2.elim
    | [_, _], _ :: _ :: _ :: _, c, w => exact w.2.2.elim
  · rw [if_neg c] at p
    exact p.elim
end
end Mn
set_option Elab.async false
set_option linter.all false
set_option maxRecDepth 100000
set_option maxHeartbeats 1000000
namespace Mn
open PySem PySem.Spec L2
def argOf (en : En) : Opd → Option Slot
  | .dat d => some (.val d)
  | .slot i => match en[i]? with
    | some (.val d) => some (.val d)
    | some (.own _ d) => some (.own true d)
    | _ => none
def argsOf (en : En) : List Opd → Option En
  | [] => some []
  | o :: r => match argOf en o with
    | some s => match argsOf en r with
      | some ss => some (s :: ss)
      | none => none
    | none => none
def slotsO : List Opd → List Nat
  | [] => []
  | .dat _ :: r => slotsO r
  | .slot i :: r => i :: slotsO r
/-- the slots behind the call -/
def backE : En → List Opd → En → En
  | en, .slot i :: os, .own true d :: as => match en[i]? with
    | some (.own b _) => backE (en.set i (.own b d)) os as
    | _ => backE en os as
  | en, _ :: os, _ :: as => backE en os as
  | en, _, _ => en
/-- where the lent ones stand -/
def lends : En → List V → Nat → List (Nat × Addr)
  | .own true _ :: as, .ref a :: vs, j => (j, a) :: lends as vs (j + 1)
  | _ :: as, _ :: vs, j => lends as vs (j + 1)
  | _, _, _ => []
theorem lends_in : ∀ {as : En} {vs : List V} {j : Nat} {p : Nat × Addr}, p ∈ lends as vs j → ∃ k d, p.1 = j + k ∧ as[k]? = some (.own true d) ∧ vs[k]? = some (.ref p.2) := by
  intro as
  induction as with
  | nil => intro vs j p h; cases vs <;> cases h
  | cons s as ih =>
    intro vs j p h
    have next : ∀ {vs : List V}, p ∈ lends as vs (j + 1) → ∀ v : V, ∃ k d, p.1 = j + k ∧ (s :: as)[k]? = some (.own true d) ∧ (v :: vs)[k]? = some (.ref p.2) := fun h v => by
      obtain ⟨k, d, e1, e2, e3⟩ := ih h
      exact ⟨k + 1, d, by omega, by simpa using e2, by simpa using e3⟩
    cases vs with
    | nil =>
      cases s with
      | own b d => cases b <;> cases h
      | _ => cases h
    | cons v vs =>
      cases s with
      | un => exact next h v
      | val d => exact next h v
      | own b d =>
        cases b with
        | false => exact next h v
        | true =>
          cases v with
          | ref a =>
            rcases List.mem_cons.mp h with e | h
            · subst e
              exact ⟨0, d, rfl, rfl, rfl⟩
            · exact next h _
          | _ => exact next h _
theorem lends_of : ∀ {as : En} {vs : List V} {j k : Nat} {d : D} {a : Addr}, as[k]? = some (.own true d) → vs[k]? = some (.ref a) → (j + k, a) ∈ lends as vs j := by
  intro as
  induction as with
  | nil => intro vs j k d a h; simp at h
  | cons s as ih =>
    intro vs j k d a h h2
    cases vs with
    | nil => simp at h2
    | cons v vs =>
      cases k with
      | zero =>
        simp at h h2
        subst h h2
        exact List.mem_cons_self
      | succ k =>
        have q := ih (vs := vs) (j := j + 1) (k := k) (d := d) (a := a) (by simpa using h) (by simpa using h2)
        have e : j + (k + 1) = j + 1 + k := by omega
        rw [e]
        cases s with
        | un => exact q
        | val d => exact q
        | own b d =>
          cases b with
          | false => exact q
          | true =>
            cases v with
            | ref b => exact List.mem_cons_of_mem _ q
            | _ => exact q
section
variable {K : Fg} {Z : Zr} {F H : Hp} {en : En} {σ : L2.St}
theorem OVs.length {os : List Opd} {vs : List V} (h : OVs K F σ os vs) : os.length = vs.length := by
  induction os generalizing vs with
  | nil => cases h; rfl
  | cons o os ih =>
    cases h with
    | cons a r => exact congrArg (· + 1) (ih r)
theorem OVs.at : ∀ {os : List Opd} {vs : List V} {k : Nat} {o : Opd}, OVs K F σ os vs → os[k]? = some o → ∃ v, vs[k]? = some v ∧ OV K F σ o v
  | _, _, 0, o, .cons a _, e => by
    simp at e
    subst e
    exact ⟨_, rfl, a⟩
  | _, _, k + 1, o, .cons _ r, e => by
    obtain ⟨v, h1, h2⟩ := OVs.at (k := k) r (by simpa using e)
    exact ⟨v, by simpa using h1, h2⟩
  | _, _, _, _, .nil, e => by simp at e
theorem argsOf_at : ∀ {os : List Opd} {as : En} {k : Nat} {s : Slot}, argsOf en os = some as → as[k]? = some s → ∃ o, os[k]? = some o ∧ argOf en o = some s
  | [], as, k, s, h, e => by cases h; simp at e
  | o :: os, as, k, s, h, e => by
    unfold argsOf at h
    cases q : argOf en o with
    | none => rw [q] at h; cases h
    | some s0 =>
      rw [q] at h
      dsimp only at h
      cases q2 : argsOf en os with
      | none => rw [q2] at h; cases h
      | some ss =>
        rw [q2] at h
        cases h
        cases k with
        | zero =>
          simp at e
          subst e
          exact ⟨o, rfl, q⟩
        | succ k =>
          obtain ⟨o', h1, h2⟩ := argsOf_at (k := k) q2 (by simpa using e)
          exact ⟨o', by simpa using h1, h2⟩
theorem argsOf_len : ∀ {os : List Opd} {as : En}, argsOf en os = some as → as.length = os.length
  | [], as, h => by cases h; rfl
  | o :: os, as, h => by
    unfold argsOf at h
    cases q : argOf en o with
    | none => rw [q] at h; cases h
    | some s0 =>
      rw [q] at h
      dsimp only at h
      cases q2 : argsOf en os with
      | none => rw [q2] at h; cases h
      | some ss =>
        rw [q2] at h
        cases h
        exact congrArg (· + 1) (argsOf_len q2)
theorem argOf_own {o : Opd} {b : Bool} {d : D} (h : argOf en o = some (.own b d)) : b = true ∧ ∃ i b', o = .slot i ∧ en[i]? = some (.own b' d) := by
  cases o with
  | dat d' => cases h
  | slot i =>
    unfold argOf at h
    dsimp only at h
    cases q : en[i]? with
    | none => rw [q] at h; cases h
    | some s =>
      rw [q] at h
      cases s with
      | un => cases h
      | val d' => cases h
      | own b' d' => cases h; exact ⟨rfl, i, b', rfl, q⟩
theorem slotsO_at : ∀ {os : List Opd} {k l : Nat} {i : Nat}, (slotsO os).Nodup → os[k]? = some (.slot i) → os[l]? = some (.slot i) → k = l := by
  have mem : ∀ {os : List Opd} {k i : Nat}, os[k]? = some (.slot i) → i ∈ slotsO os := by
    intro os
    induction os with
    | nil => intro k i h; simp at h
    | cons o os ih =>
      intro k i h
      cases k with
      | zero =>
        simp at h
        subst h
        exact List.mem_cons_self
      | succ k =>
        have q := ih (k := k) (i := i) (by simpa using h)
        cases o with
        | dat d => exact q
        | slot j => exact List.mem_cons_of_mem _ q
  intro os
  induction os with
  | nil => intro k l i _ h; simp at h
  | cons o os ih =>
    intro k l i nd h1 h2
    have nd' : (slotsO os).Nodup := by
      cases o with
      | dat d => exact nd
      | slot j => exact (List.nodup_cons.mp nd).2
    cases k with
    | zero =>
      simp at h1
      subst h1
      cases l with
      | zero => rfl
      | succ l => exact absurd (mem (k := l) (by simpa using h2)) (List.nodup_cons.mp nd).1
    | succ k =>
      cases l with
      | zero =>
        simp at h2
        subst h2
        exact absurd (mem (k := k) (by simpa using h1)) (List.nodup_cons.mp nd).1
      | succ l => exact congrArg (· + 1) (ih nd' (by simpa using h1) (by simpa using h2))
/-- arguments, some lent -/
theorem SR.lend (h : SR K Z F H en σ) {os : List Opd} {vs : List V} {as : En} (ov : OVs K F σ os vs) (e : argsOf en os = some as) (nd : (slotsO os).Nodup) : SR K ⟨H, F, lends as vs 0, [], vs.length⟩ F H as (vs.map some) := by
  have at_arg : ∀ {k : Nat} {s : Slot} {v : V}, as[k]? = some s → vs[k]? = some v → ∃ o, os[k]? = some o ∧ argOf en o = some s ∧ OV K F σ o v := fun {k s v} e1 e2 => by
    obtain ⟨o, h1, h2⟩ := argsOf_at e e1
    obtain ⟨v', h3, h4⟩ := ov.at h1
    rw [e2] at h3
    cases h3
    exact ⟨o, h1, h2, h4⟩
  have back : ∀ {k : Nat} {x : Option V}, (vs.map some)[k]? = some x → ∃ v, vs[k]? = some v ∧ x = some v := fun {k x} q => by
    rw [List.getElem?_map] at q
    cases q2 : vs[k]? with
    | none => rw [q2] at q; cases q
    | some v => rw [q2] at q; cases q; exact ⟨v, rfl, rfl⟩
  exact {
    ex := h.ex
    len := by rw [argsOf_len e, List.length_map, ov.length]
    ln := List.length_map ..
    rel := fun i s x e1 e2 => by
      obtain ⟨v, g1, rfl⟩ := back e2
      obtain ⟨o, k1, k2, k3⟩ := at_arg e1 g1
      cases o with
      | dat d =>
        cases k2
        exact ⟨v, rfl, k3⟩
      | slot i =>
        have k3' : σ[i]? = some (some v) := k3
        unfold argOf at k2
        dsimp only at k2
        cases q : en[i]? with
        | none => rw [q] at k2; cases k2
        | some s0 =>
          rw [q] at k2
          cases s0 with
          | un => cases k2
          | val d =>
            cases k2
            obtain ⟨u, u1, u2⟩ := h.valAt q
            rw [k3'] at u1
            cases u1
            exact ⟨_, rfl, u2⟩
          | own b d =>
            cases k2
            obtain ⟨a, u1, u2, u3⟩ := h.ownAt q
            rw [k3'] at u1
            cases u1
            exact ⟨a, rfl, u2, u3⟩
    dist := fun i j a b c d d2 e1 e2 e3 e4 => by
      obtain ⟨v, g1, g2⟩ := back e3
      obtain ⟨w, g3, g4⟩ := back e4
      cases g2
      cases g4
      obtain ⟨o, k1, k2, k3⟩ := at_arg e1 g1
      obtain ⟨o2, l1, l2, l3⟩ := at_arg e2 g3
      obtain ⟨_, s1, b1, rfl, m1⟩ := argOf_own k2
      obtain ⟨_, s2, b2, rfl, m2⟩ := argOf_own l2
      have z := h.dist s1 s2 a b1 b2 d d2 m1 m2 k3 l3
      subst z
      exact slotsO_at nd k1 l1
    k1 := fun _ _ e _ => e
    k2 := fun _ _ => rfl
    k3 := .rfl
    k4 := fun i d a e1 e2 => by
      obtain ⟨o, g1, g2⟩ := argsOf_at e e1
      obtain ⟨z, _⟩ := argOf_own g2
      cases z
    k5 := fun p hp => by
      obtain ⟨k, d, g1, g2, g3⟩ := lends_in hp
      have e1 : p.1 = k := by omega
      rw [e1]
      exact ⟨by rw [List.getElem?_map, g3]; rfl, d, g2⟩
    k6 := fun i d a e1 e2 => by
      obtain ⟨v, g1, g2⟩ := back e2
      cases g2
      have q := lends_of (j := 0) e1 g1
      rw [Nat.zero_add] at q
      exact q
    t1 := fun p hp => by cases hp
    t2 := fun p hp => by cases hp }
/-- what is known of the slots behind -/
theorem backE_len : ∀ {os : List Opd} {as : En} {en : En}, (backE en os as).length = en.length
  | [], as, en => by cases as <;> rfl
  | o :: os, [], en => by cases o <;> rfl
  | o :: os, s :: as, en => by
    cases o with
    | dat d => exact backE_len (os := os) (as := as) (en := en)
    | slot i =>
      cases s with
      | un => exact backE_len (os := os) (as := as) (en := en)
      | val d => exact backE_len (os := os) (as := as) (en := en)
      | own b d =>
        cases b with
        | false => exact backE_len (os := os) (as := as) (en := en)
        | true =>
          unfold backE
          split
          · rw [backE_len, List.length_set]
          · exact backE_len
theorem slotsO_mem : ∀ {os : List Opd} {k i : Nat}, os[k]? = some (Opd.slot i) → i ∈ slotsO os := by
  intro os
  induction os with
  | nil => intro k i h; simp at h
  | cons o os ih =>
    intro k i h
    cases k with
    | zero =>
      simp at h
      subst h
      exact List.mem_cons_self
    | succ k =>
      have q := ih (k := k) (i := i) (by simpa using h)
      cases o with
      | dat d => exact q
      | slot j => exact List.mem_cons_of_mem _ q
theorem backE_at : ∀ {os : List Opd} {as : En} {en : En} {i : Nat} {s : Slot}, (slotsO os).Nodup → (backE en os as)[i]? = some s →
    (en[i]? = some s ∧ ∀ (k : Nat) (d : D), os[k]? = some (Opd.slot i) → as[k]? = some (Slot.own true d) → ∀ b e, s ≠ Slot.own b e) ∨ ∃ (k : Nat) (b : Bool) (d0 d : D), os[k]? = some (Opd.slot i) ∧ as[k]? = some (Slot.own true d) ∧ en[i]? = some (Slot.own b d0) ∧ s = Slot.own b d := by
  intro os
  induction os with
  | nil =>
    intro as en i s _ h
    have z : backE en [] as = en := by cases as <;> rfl
    rw [z] at h
    exact .inl ⟨h, fun k d e => by simp at e⟩
  | cons o os ih =>
    intro as en i s nd h
    cases as with
    | nil =>
      have z : backE en (o :: os) [] = en := by cases o <;> rfl
      rw [z] at h
      exact .inl ⟨h, fun k d _ e => by simp at e⟩
    | cons s0 as =>
      have same : (slotsO os).Nodup → backE en (o :: os) (s0 :: as) = backE en os as → (o = Opd.slot i → (∃ d, s0 = Slot.own true d) → ∀ b e, en[i]? ≠ some (Slot.own b e)) → (en[i]? = some s ∧ ∀ (k : Nat) (d : D), (o :: os)[k]? = some (Opd.slot i) → (s0 :: as)[k]? = some (Slot.own true d) → ∀ b e, s ≠ Slot.own b e) ∨ ∃ (k : Nat) (b : Bool) (d0 d : D), (o :: os)[k]? = some (Opd.slot i) ∧ (s0 :: as)[k]? = some (Slot.own true d) ∧ en[i]? = some (Slot.own b d0) ∧ s = Slot.own b d := fun nd' z w => by
        rw [z] at h
        rcases ih nd' h with ⟨h1, h2⟩ | ⟨k, b, d0, d, h1, h2, h3, h4⟩
        · refine .inl ⟨h1, fun k d e1 e2 b e => ?_⟩
          cases k with
          | zero =>
            simp at e1 e2
            intro q
            rw [q] at h1
            exact w e1 ⟨d, e2⟩ b e h1
          | succ k => exact h2 k d (by simpa using e1) (by simpa using e2) b e
        · exact .inr ⟨k + 1, b, d0, d, by simpa using h1, by simpa using h2, h3, h4⟩
      cases o with
      | dat d => exact same nd rfl fun e => by cases e
      | slot j =>
        obtain ⟨nd1, nd2⟩ := List.nodup_cons.mp nd
        cases s0 with
        | un => exact same nd2 rfl fun _ ⟨d, e⟩ => by cases e
        | val d => exact same nd2 rfl fun _ ⟨d, e⟩ => by cases e
        | own b d =>
          cases b with
          | false => exact same nd2 rfl fun _ ⟨d, e⟩ => by cases e
          | true =>
            have nomod : (∀ b e, en[j]? ≠ some (Slot.own b e)) → backE en (Opd.slot j :: os) (Slot.own true d :: as) = backE en os as := fun w => by
              show (match en[j]? with | some (.own b _) => backE (en.set j (.own b d)) os as | _ => backE en os as) = _
              split
              · rename_i b e q
                exact absurd q (w b e)
              · rfl
            cases q : en[j]? with
            | none =>
              have w : ∀ b e, en[j]? ≠ some (Slot.own b e) := fun b e z => by
                rw [q] at z
                cases z
              exact same nd2 (nomod w) fun e1 _ => by
                cases e1
                exact w
            | some t =>
              cases t with
              | un =>
                have w : ∀ b e, en[j]? ≠ some (Slot.own b e) := fun b e z => by
                  rw [q] at z
                  cases z
                exact same nd2 (nomod w) fun e1 _ => by
                  cases e1
                  exact w
              | val t =>
                have w : ∀ b e, en[j]? ≠ some (Slot.own b e) := fun b e z => by
                  rw [q] at z
                  cases z
                exact same nd2 (nomod w) fun e1 _ => by
                  cases e1
                  exact w
              | own b d0 =>
                have z : backE en (Opd.slot j :: os) (Slot.own true d :: as) = backE (en.set j (.own b d)) os as := by
                  show (match en[j]? with | some (.own b _) => backE (en.set j (.own b d)) os as | _ => backE en os as) = _
                  rw [q]
                rw [z] at h
                rcases ih nd2 h with ⟨h1, h2⟩ | ⟨k, b1, d1, d2, h1, h2, h3, h4⟩
                · rcases get_put h1 with ⟨g1, g2⟩ | ⟨g1, g2⟩
                  · subst g1
                    exact .inr ⟨0, b, d0, d, rfl, rfl, q, g2⟩
                  · refine .inl ⟨g2, fun k d' e1 e2 b' e => ?_⟩
                    cases k with
                    | zero =>
                      simp at e1
                      exact absurd e1 g1
                    | succ k => exact h2 k d' (by simpa using e1) (by simpa using e2) b' e
                · have ne : j ≠ i := fun e => nd1 (by rw [e]; exact slotsO_mem h1)
                  rw [List.getElem?_set_ne ne] at h3
                  exact .inr ⟨k + 1, b1, d1, d2, by simpa using h1, by simpa using h2, h3, h4⟩
/-- behind a call that was lent something -/
theorem SR.backL (h : SR K Z F H en σ) {F' H' : Hp} {os : List Opd} {vs : List V} {as as' : En} (ov : OVs K F σ os vs) (e : argsOf en os = some as) (nd : (slotsO os).Nodup) (c : SR K ⟨H, F, lends as vs 0, [], vs.length⟩ F' H' as' (vs.map some)) :
    SR K Z F' H' (backE en os as') σ := by
  have valV : ∀ {k : Nat} {a : Addr}, (vs.map some)[k]? = some (some (V.ref a)) → vs[k]? = some (V.ref a) := fun {k a} q => by
    rw [List.getElem?_map] at q
    cases q2 : vs[k]? with
    | none => rw [q2] at q; cases q
    | some v => rw [q2] at q; cases q; rfl
  -- a lent one: its slot, its address
  have lentP : ∀ {p : Nat × Addr}, p ∈ lends as vs 0 → ∃ i b d d', os[p.1]? = some (Opd.slot i) ∧ en[i]? = some (Slot.own b d) ∧ σ[i]? = some (some (V.ref p.2)) ∧ as'[p.1]? = some (Slot.own true d') := fun {p} hp => by
    obtain ⟨k, d, g1, g2, g3⟩ := lends_in hp
    have e1 : p.1 = k := by omega
    obtain ⟨o, k1, k2⟩ := argsOf_at e g2
    obtain ⟨_, i, b, rfl, k3⟩ := argOf_own k2
    obtain ⟨v, k4, k5⟩ := ov.at k1
    rw [g3] at k4
    cases k4
    obtain ⟨_, d', k6⟩ := c.k5 p hp
    rw [e1] at k6 ⊢
    exact ⟨i, b, d, d', k1, k3, k5, k6⟩
  have lentK : ∀ {k i : Nat} {d : D}, os[k]? = some (Opd.slot i) → as'[k]? = some (Slot.own true d) → ∃ a, σ[i]? = some (some (V.ref a)) ∧ (k, a) ∈ lends as vs 0 ∧ F' a = none ∧ Cell K F' H' a d := fun {k i d} e1 e2 => by
    obtain ⟨a, g1, g2, g3⟩ := c.ownAt e2
    have g4 := c.k6 k d a e2 g1
    obtain ⟨v, k4, k5⟩ := ov.at e1
    rw [valV g1] at k4
    cases k4
    exact ⟨a, k5, g4, g2, g3⟩
  have pos : ∀ {i : Nat} {b : Bool} {d : D}, (backE en os as')[i]? = some (Slot.own b d) → ∃ d0, en[i]? = some (Slot.own b d0) := fun {i b d} q => by
    rcases backE_at nd q with ⟨g, _⟩ | ⟨_, _, d0, _, _, _, g, z⟩
    · exact ⟨d, g⟩
    · cases z
      exact ⟨d0, g⟩
  have kept : ∀ {a : Addr}, H a ≠ none → (∀ p ∈ lends as vs 0, p.2 ≠ a) → H' a = H a := fun {a} q1 q2 => by
    cases z : H a with
    | none => exact absurd z q1
    | some o =>
      refine c.k1 a o z fun m => ?_
      obtain ⟨p, hp, e⟩ := List.mem_map.mp m
      exact q2 p hp e
  exact {
    ex := c.ex
    len := by rw [backE_len]; exact h.len
    ln := h.ln
    rel := fun i s x e1 e2 => by
      rcases backE_at nd e1 with ⟨g, w⟩ | ⟨k, b, d0, d, g1, g2, g3, rfl⟩
      · have r := h.rel i s x g e2
        cases s with
        | un => trivial
        | val d => obtain ⟨v, h1, h2⟩ := r; exact ⟨v, h1, h2.mono c.k3⟩
        | own b d =>
          obtain ⟨a, h1, h2, h3⟩ := r
          obtain ⟨o, ho⟩ := h3.some
          have hn : H a ≠ none := by rw [ho]; exact Option.some_ne_none o
          refine ⟨a, h1, by rw [c.k2 a hn]; exact h2, h3.to c.k3 (kept hn fun p hp z => ?_)⟩
          obtain ⟨i2, b2, d2, d3, m1, m2, m3, m4⟩ := lentP hp
          subst h1
          rw [z] at m3
          have z2 := h.dist i2 i a b2 b d2 d m2 g m3 e2
          subst z2
          exact w p.1 d3 m1 m4 b d rfl
      · obtain ⟨a, m1, m2, m3, m4⟩ := lentK g1 g2
        rw [m1] at e2
        cases e2
        exact ⟨a, rfl, m3, m4⟩
    dist := fun i j a b c2 d d2 e1 e2 e3 e4 => by
      obtain ⟨_, g1⟩ := pos e1
      obtain ⟨_, g2⟩ := pos e2
      exact h.dist i j a b c2 _ _ g1 g2 e3 e4
    k1 := fun a o e1 m => by
      have h1 := h.k1 a o e1 m
      refine c.k1 a o h1 fun m2 => ?_
      obtain ⟨p, hp, z⟩ := List.mem_map.mp m2
      obtain ⟨i2, b2, d2, d3, m1, m2, m3, m4⟩ := lentP hp
      rw [z] at m3
      cases b2 with
      | true => exact m (List.mem_map.mpr ⟨(i2, a), h.k6 i2 d2 a m2 m3, rfl⟩)
      | false =>
        have z2 := h.k4 i2 d2 a m2 m3
        rw [z2] at e1
        cases e1
    k2 := fun a e1 => (c.k2 a (h.old e1)).trans (h.k2 a e1)
    k3 := h.k3.tr c.k3
    k4 := fun i d a e1 e2 => by
      obtain ⟨_, g⟩ := pos e1
      exact h.k4 i _ a g e2
    k5 := fun p hp => by
      obtain ⟨e1, d, e2⟩ := h.k5 p hp
      refine ⟨e1, ?_⟩
      have li : p.1 < (backE en os as').length := by rw [backE_len]; exact (List.getElem?_eq_some_iff.mp e2).1
      have q : (backE en os as')[p.1]? = some (backE en os as')[p.1] := List.getElem?_eq_getElem li
      rcases backE_at nd q with ⟨g, _⟩ | ⟨k, b, d0, d1, g1, g2, g3, g4⟩
      · rw [e2] at g
        exact ⟨d, by rw [q, ← g]⟩
      · rw [e2] at g3
        cases g3
        exact ⟨d1, by rw [q, g4]⟩
    k6 := fun i d a e1 e2 => by
      obtain ⟨_, g⟩ := pos e1
      exact h.k6 i _ a g e2
    t1 := fun p hp => by
      obtain ⟨e1, e2, e3⟩ := h.t1 p hp
      have hn := h.tmpNe hp
      refine ⟨by rw [c.k2 _ hn]; exact e1, e2.to c.k3 (kept hn fun q hq z => ?_), e3⟩
      obtain ⟨i2, b2, d2, d3, m1, m2, m3, m4⟩ := lentP hq
      rw [z] at m3
      exact h.t2 p hp i2 b2 d2 m2 m3
    t2 := fun p hp j b d e1 e2 => by
      obtain ⟨_, g⟩ := pos e1
      exact h.t2 p hp j b _ g e2 }
end
end Mn
set_option Elab.async false
set_option linter.all false
set_option maxRecDepth 100000
set_option maxHeartbeats 1000000
namespace Mn
open PySem PySem.Spec L2
def nodupB : List Nat → Bool
  | [] => true
  | i :: r => decide (i ∉ r) && nodupB r
theorem nodupB_of : ∀ {l : List Nat}, nodupB l = true → l.Nodup
  | [], _ => .nil
  | i :: r, h => by
    unfold nodupB at h
    rw [Bool.and_eq_true, decide_eq_true_eq] at h
    exact List.nodup_cons.mpr ⟨h.1, nodupB_of h.2⟩
/-- the call itself, its arguments known -/
def callE (m : Sem) (os : List Opd) : Fx Slot := fun en => if nodupB (slotsO os) = true then match argsOf en os with
    | none => .bad
    | some as => match m as with
      | .ok r as' => .ok r (backE en os as')
      | .exn C fs as' => .exn C fs (backE en os as')
      | .bad => .bad
  else .bad
def mCallX (m : Sem) (ms ks : List (Fx Opd)) : Fx Slot := (mOs ms).bind fun xs => (mOs ks).bind fun ys => callE m (xs ++ ys)
/-- what binds the parameters -/
def BindsK (K : Fg) (fd : FuncData) (ps : List Str) (n : Nat) (ks : List Str) : Prop := ∀ (s : Shared) (us ws : List Value), K.In s.heap → us.length = n → ws.length = ks.length → BindsTo s fd ⟨us, ks.zip ws⟩ (ps.zip (us ++ ws))
section
variable {K : Fg} {W : WX} {Z : Zr} {F H : Hp} {en : En} {σ : L2.St}
theorem OVs.app {xs ys : List Opd} {vs us : List V} (h : OVs K F σ xs vs) (k : OVs K F σ ys us) : OVs K F σ (xs ++ ys) (vs ++ us) := by
  induction xs generalizing vs with
  | nil => cases h; exact k
  | cons o os ih =>
    cases h with
    | cons a r => exact .cons a (ih r)
theorem sp_call {m : Sem} {os : List Opd} {vs : List V} {Q : VK} (sr : SR K Z F H en σ) (ov : OVs K F σ os vs) (q : RP K W Z F σ (callE m os en) fun s en' F' H' => ∀ v, RV K Z F' H' en' σ s v → Q v H') : spOf K m vs H Q fun cls d H' => W cls d σ H' := by
  unfold callE at q
  by_cases nd : nodupB (slotsO os) = true
  · rw [if_pos nd] at q
    cases a : argsOf en os with
    | none => rw [a] at q; exact q.elim
    | some as =>
      rw [a] at q
      dsimp only at q
      have nd' := nodupB_of nd
      refine ⟨_, F, as, rfl, rfl, sr.lend ov a nd', ?_⟩
      cases r : m as with
      | ok x as' =>
        rw [r] at q
        intro v F' H' s2 av
        have sr2 := sr.backL ov a nd' s2
        refine q F' H' sr2 s2.k3 v ?_
        exact av.rv sr2 (fun b hb => sr.new hb) (fun j b e c h1 h2 => by
          rcases backE_at nd' h1 with ⟨g, _⟩ | ⟨_, _, d0, _, _, _, g, z⟩
          · exact sr.ownNe g h2
          · exact sr.ownNe g h2) fun p hp => sr.tmpNe hp
      | exn C fs as' =>
        rw [r] at q
        exact fun d gs F' H' s2 hd rf => q d gs F' H' (sr.backL ov a nd' s2) s2.k3 hd rf
      | bad => rw [r] at q; exact q.elim
  · rw [if_neg nd] at q
    exact q.elim
end
theorem mOs_len {K : Fg} {W : WX} {Z : Zr} {F : Hp} {σ : L2.St} : ∀ {ms : List (Fx Opd)} {en : En} {os : List Opd} {e1 : En}, mOs ms en = .ok os e1 → os.length = ms.length
  | [], en, os, e1, h => by cases h; rfl
  | m :: r, en, os, e1, h => by
    unfold mOs Fx.bind at h
    cases q : m en with
    | ok a e2 =>
      rw [q] at h
      dsimp only at h
      cases q2 : mOs r e2 with
      | ok as e3 =>
        rw [q2] at h
        cases h
        exact congrArg (· + 1) (mOs_len (K := K) (W := W) (Z := Z) (F := F) (σ := σ) q2)
      | exn C fs e3 => rw [q2] at h; cases h
      | bad => rw [q2] at h; cases h
    | exn C fs e2 => rw [q] at h; cases h
    | bad => rw [q] at h; cases h
theorem RP.okLen {K : Fg} {W : WX} {Z : Zr} {F : Hp} {σ : L2.St} {ms : List (Fx Opd)} {en : En} {P : List Opd → En → Hp → Hp → Prop} (h : RP K W Z F σ (mOs ms en) P) : RP K W Z F σ (mOs ms en) fun os e F' H' => os.length = ms.length ∧ P os e F' H' := by
  cases e : mOs ms en with
  | ok os e1 =>
    rw [e] at h
    exact fun F' H' s f => ⟨mOs_len (K := K) (W := W) (Z := Z) (F := F) (σ := σ) e, h F' H' s f⟩
  | exn C fs e1 => rw [e] at h; exact h
  | bad => rw [e] at h; exact h
def goodKw (kws : List Keyword) (ks : List Str) : Bool := decide (kws.map (fun k => match k with | ⟨n, _, _⟩ => n) = ks.map some)
theorem kw_all {env : PySem.Env} {pos : Pos} : ∀ {kws : List Keyword} {ks : List Str}, kws.map (fun k => match k with | ⟨n, _, _⟩ => n) = ks.map some → (backToKw pos (keywordEach kws env)).all (·.1.isSome) = true ∧ (backToKw pos (keywordEach kws env)).filterMap (·.1) = ks ∧ (backToKw pos (keywordEach kws env)).any (·.1.isNone) = false
  | [], [], _ => ⟨rfl, rfl, rfl⟩
  | ⟨n, e, p⟩ :: kws, k :: ks, h => by
    rw [List.map_cons, List.map_cons] at h
    obtain ⟨h1, h2⟩ := List.cons.inj h
    have h1' : n = some k := h1
    subst h1'
    obtain ⟨g1, g2, g3⟩ := kw_all (env := env) (pos := pos) h2
    refine ⟨?_, ?_, ?_⟩
    · show (true && (backToKw pos (keywordEach kws env)).all (·.1.isSome)) = true
      rw [g1]
      rfl
    · show k :: (backToKw pos (keywordEach kws env)).filterMap (·.1) = k :: ks
      rw [g2]
    · show (false || (backToKw pos (keywordEach kws env)).any (·.1.isNone)) = false
      rw [g3]
      rfl
  | [], _ :: _, h => by cases h
  | _ :: _, [], h => by cases h
section
variable {X : Cx} {W : WX} {k : Nat} {f : Addr} {fd : FuncData} {ps : List Str} {m : Sem} {x : Str} {p pos : Pos} {e : Expr} {es : List Expr} {ms ks : List (Fx Opd)} {kws : List Keyword} {kn : List Str}
/-- the keywords' values -/
theorem pk_nilM : PK X [] (cOs X.K W (mOs [])) := ⟨fun pos pins s σ H Q I ⟨Z, F, en, sr, q⟩ => wpAny_evalAll_nil ⟨[], H, I, .nil, q F H sr .rfl [] .nil⟩⟩
theorem pk_consM {nm : Option Str} {kp : Pos} {mo : Fx Opd} (he : EO X W mo e) (hr : PK X kws (cOs X.K W (mOs ks))) : PK X (⟨nm, e, kp⟩ :: kws) (cOs X.K W (mOs (mo :: ks))) := by
  refine ⟨fun pos pins s σ H Q I ⟨Z, F, en, sr, q⟩ => (pk_cons he hr).run pos pins s σ H Q I ⟨Z, F, en, sr, (RP.split q).mono fun o e1 F1 H1 sr1 f1 p v ov => ?_⟩⟩
  refine ⟨Z, F1, e1, sr1, (RP.split p).mono fun xs e2 F2 H2 sr2 f2 p2 vs ovs => ?_⟩
  exact p2 F2 H2 sr2 .rfl (v :: vs) (.cons (ov.mono f2) ovs)
theorem run_x {pins : List (Addr × Obj)} {σ : L2.St} {H : Hp} {s : Shared} {Q : VK} {us ws : List Value} {vs zs : List V} {n : Nat} (G : FnG X.prog X.w X.K X.mg X.base k f fd ps m) (hr : RoomG k X.A) (tk : Takes X W) (hb : BindsK X.K fd ps n kn) (hn : n + kn.length = ps.length)
    (I : Inv X pins σ H s) (r : Vals vs us) (rz : Vals zs ws) (l1 : vs.length = n) (l2 : zs.length = kn.length) (h : spOf X.K m (vs ++ zs) H Q fun cls d H' => W cls d σ H') : wpAny (model X.prog X.w) X.A (call (.ref f) us (kn.zip ws)) (EP X pins σ Q) X.xe s := by
  refine wpAny_call (codeAny_mono (run_g (us := us ++ ws) (vs := vs ++ zs) G hr tk (hb s us ws I.kIn (r.length.symm.trans l1) (rz.length.symm.trans l2)) I (r.append rz) (by rw [List.length_append, l1, l2, hn]) h) fun r s' hq => ?_)
  rcases r with e | (v | _ | _ | _) <;> exact hq
theorem er_callX0 (G : FnG X.prog X.w X.K X.mg X.base k f fd ps m) (hr : RoomG k X.A) (hg : Gl X x) (hm : X.mg x = some (.ref f)) (hk : PySem.W.keepIn X.K (.ref f) = true) (hb : BindsK X.K fd ps 0 kn) (hn : 0 + kn.length = ps.length) (tk : Takes X W)
    (hkw : PK X kws (cOs X.K W (mOs ks))) (hl : ks.length = kn.length) (gk : goodKw kws kn = true) (hdb : (x == ("__debug__" : Str)) = false) : ER X W (mCallX m [] ks) (.Call (.Name x p) [] kws pos) := by
  obtain ⟨g1, g2, g3⟩ := kw_all (env := X.env) (pos := pos) (of_decide_eq_true gk)
  refine ⟨fun pins s σ H Q I ⟨Z, F, en, sr, q⟩ => ?_⟩
  refine wpAny_Call_Name_kw (ld_glob I hg hm ?_ hdb)
  refine PySem.W.callWith_KW0 (h₀ := X.base) I.ok.mod.kin hk g1 ?_ (by rw [g3]; rfl)
  refine thn (hkw.run pos pins s σ H (fun vs H1 => vs.length = kn.length ∧ spOf X.K m ([] ++ vs) H1 Q fun cls d H' => W cls d σ H') I ⟨Z, F, en, sr, ?_⟩) fun ws s2 ⟨zs, H2, I2, rz, l2, q2⟩ => ⟨I2.kIn, ?_⟩
  · have q' : RP X.K W Z F σ (((mOs ks).bind fun ys => callE m ([] ++ ys)) en) fun s en' F' H' => ∀ v, RV X.K Z F' H' en' σ s v → Q v H' := q
    refine (RP.okLen (RP.split q')).mono fun os e1 F1 H1 sr1 f1 ⟨lo, p⟩ vs ov => ?_
    exact ⟨by rw [← ov.length, lo, hl], sp_call sr1 ov p⟩
  · rw [g2]
    exact run_x (us := []) (vs := []) G hr tk hb hn I2 .nil rz rfl l2 q2
theorem er_callX {n : Nat} (G : FnG X.prog X.w X.K X.mg X.base k f fd ps m) (hr : RoomG k X.A) (hg : Gl X x) (hm : X.mg x = some (.ref f)) (hk : PySem.W.keepIn X.K (.ref f) = true) (hb : BindsK X.K fd ps n kn) (hn : n + kn.length = ps.length) (tk : Takes X W)
    (ha : PA X (e :: es) (cOs X.K W (mOs ms))) (hms : ms.length = n) (hkw : PK X kws (cOs X.K W (mOs ks))) (hl : ks.length = kn.length) (gk : goodKw kws kn = true) (ns : (e :: es).all notStar = true) (hdb : (x == ("__debug__" : Str)) = false) : ER X W (mCallX m ms ks) (.Call (.Name x p) (e :: es) kws pos) := by
  obtain ⟨g1, g2, g3⟩ := kw_all (env := X.env) (pos := pos) (of_decide_eq_true gk)
  have ns' := ns
  rw [List.all_cons, Bool.and_eq_true] at ns'
  refine ⟨fun pins s σ H Q I ⟨Z, F, en, sr, q⟩ => ?_⟩
  refine wpAny_Call_Name_kw (ld_glob I hg hm ?_ hdb)
  refine PySem.W.callWith_KW (h₀ := X.base) I.ok.mod.kin hk g1 ?_ (by rw [g3, star_none ns]; rfl) (star_cons ns'.1)
  refine thn (ha.run pos pins s σ H (fun vs H1 => vs.length = n ∧ cOs X.K W (mOs ks) σ H1 fun zs H2 => zs.length = kn.length ∧ spOf X.K m (vs ++ zs) H2 Q fun cls d H' => W cls d σ H') I ⟨Z, F, en, sr, ?_⟩) fun us s1 ⟨vs, H1, I1, r, l1, q1⟩ => ?_
  · refine (RP.okLen (RP.split q)).mono fun xs e1 F1 H1 sr1 f1 ⟨lx, p⟩ vs ov => ?_
    refine ⟨by rw [← ov.length, lx, hms], Z, F1, e1, sr1, (RP.okLen (RP.split p)).mono fun ys e2 F2 H2 sr2 f2 ⟨ly, p2⟩ zs ow => ?_⟩
    exact ⟨by rw [← ow.length, ly, hl], sp_call sr2 ((ov.mono f2).app ow) p2⟩
  · refine thn (hkw.run pos pins s1 σ H1 _ I1 q1) fun ws s2 ⟨zs, H2, I2, rz, l2, q2⟩ => ⟨I2.kIn, ?_⟩
    rw [g2]
    exact run_x G hr tk hb hn I2 r rz l1 l2 q2
end
end Mn
set_option Elab.async false
set_option linter.all false
set_option maxRecDepth 100000
set_option maxHeartbeats 1000000
namespace Mn
open PySem PySem.Spec PySem.W PySem.Calls PyProof.Rows PySem.HandSPX
/-- the text of such an __init__ -/
def erB (txt fld arg : Str) (p0 p1 p2 p3 p4 p5 q1 q2 q3 q4 : Pos) (j : Nat) : List Stmt :=
  [.Expr (.Call (.Attribute (.Call (.Name "super" p0) [] [] p1) "__init__" p2) [.Constant (.str txt) j p3] [] p4) p5, .Assign [.Attribute (.Name "self" q1) fld q2] (.Name arg q3) q4]
/-- what is asked of the class at C, its base's base all the way, and of its __init__ at fI -/
structure ErrTxt (prog : Program) (K : Frag) (C fI : Addr) (fld arg : Str) : Prop where
  cd : ∃ cd D, clsIn K C = some cd ∧ cd.mro = .ref C :: .ref D :: ESX.exTail ∧ cd.hasDict = true
  ex : excInitIn K C [.type "Exception", .type "BaseException", .type "object"] "Exception.__new__" = true
  sup : ks_superIn K C C "__init__" = some (some (.builtin "Exception.__init__"))
  sB : subIn K (.ref C) (.type "Exception") = some true
  sa : findIn K (.ref C) "__setattr__" = some (some (.builtin "object.__setattr__"))
  noF : findIn K (.ref C) fld = some none
  iC : findIn K (.ref C) "__init__" = some (some (.ref fI))
  tC : typeIn K (.ref fI) = some (.type "function")
  mS : mroIn K C (.ref C) = some true
  op : nsIn K cStatics "thirdparty.any" = some none
  kC : keepIn K (.ref C) = true
  exB : subIn K (.ref C) (.type "BaseException") = some true
  tyC : typeIn K (.ref C) = some (.type "type")
  sn : nsIn K mainGlobals "super" = some none
  top : (prog.main.scope.names.lookup ("super" : Str)).isSome = false
  fn : ∃ (oc : Value) (od : Option Addr) (fd : FuncData) (osl : Array (Option Value)) (txt : Str) (p0 p1 p2 p3 p4 p5 q1 q2 q3 q4 : Pos) (j : Nat) (cc cda : Addr) (vs : Array Value) (file : Str) (tf : Tok) (ar : Arg) (d1 d2 : Value) (e1 e2 : Option Addr) (s1 s2 : Array (Option Value)),
    K.lookup fI = some ⟨oc, od, .func fd, osl⟩ ∧ fd.body = .stmts (erB txt fld arg p0 p1 p2 p3 p4 p5 q1 q2 q3 q4 j) ∧ (p2.endLine == p4.line) = true ∧ fd.globals = mainGlobals ∧ fd.builtins = builtinsNs ∧ fd.closure = [(("__class__" : Str), cc)] ∧ fd.code = .ref cda ∧ codeIn K fd.code fd.qualname = true ∧
      fd.scope.kind = .function ∧ fd.scope.isCoroutine = false ∧ fd.scope.isGenerator = false ∧ fd.scope.names.lookup ("super" : Str) = some .globalImplicit ∧ fd.scope.names.lookup ("__class__" : Str) = some .free ∧ fd.scope.names.lookup ("self" : Str) = some .local ∧ fd.scope.names.lookup arg = some .local ∧
      (∀ y ∈ fd.scope.names, y.2 ≠ .cell) ∧ (fd.params.posonlyargs ++ fd.params.args).head? = some ar ∧ ar.arg = "self" ∧
      K.lookup cda = some ⟨d1, e1, .fields vs, s1⟩ ∧ vs[2]? = some (.str file tf) ∧ ((prog.main.file : Str) == file) = true ∧ K.lookup cc = some ⟨d2, e2, .cell (some (.ref C)), s2⟩ ∧
      ∀ (s : Shared) (x : Addr) (v : Value), K.In s.heap → BindsTo s fd ⟨[.ref x, v], []⟩ [("self", .ref x), (arg, v)]
theorem ex_has (X : String) (hX : ESX.exTail.contains (.type X) = true) {C D : Addr} : (Value.ref C :: Value.ref D :: ESX.exTail).contains (.type X) = true := by
  rw [List.contains_cons, List.contains_cons, hX, Bool.or_true, Bool.or_true]
section
variable {prog : Program} {w : World} {A : Around} {R : Result → Shared → Prop} {hp : Heap} {g : Array GenState} {d : Drawn} {t : Nat} {os : OsState}
theorem er_store {K : Frag} {nm : Str} {tk : Tok} {v : Value} {x C D : Addr} {fv : Array Value} {cd : ClassData}
    (X : K.In hp) (hx : hp.get? x = some { cls := .ref C, data := .fields fv }) (hcd : clsIn K C = some cd) (hm : cd.mro = .ref C :: .ref D :: ESX.exTail) (hh : cd.hasDict = true) (ha : findIn K (.ref C) nm = some none)
    (hq : ∀ h' tk' dx, (∀ b o, b ≠ x → hp.get? b = some o → h'.get? b = some o) → hp.objs.size ≤ dx → dx ≠ x → h'.get? x = some { cls := .ref C, dict := some dx, data := .fields fv } →
      h'.Ns1 dx (fun y => if y = nm then some v else none) → R (.ok (.ret .none)) ⟨h', g, d, tk', os⟩) :
    codeAny (model prog w) A (.call (.builtin "object.__setattr__") ⟨[.ref x, .str nm tk, v], []⟩) R ⟨hp, g, d, t, os⟩ := by
  have J : InstAt hp x { cls := .ref C, data := .fields fv } C none := ⟨hx, rfl, rfl, trivial⟩
  have apart : x ≠ hp.objs.size := Nat.ne_of_lt (Heap.lt_size hx)
  have S := F.store_object
  have mroO : mroIn K C (.type "object") = some true := by
    unfold mroIn
    rw [hcd, Option.bind_some, hm, if_neg (show ¬ (List.isEmpty (Value.ref C :: Value.ref D :: ESX.exTail) = true) from Bool.false_ne_true), ex_has "object" (by decide +kernel)]
  have isO : Looks (model prog w) hp (isInstance (.ref x) (.type "object")) true := J.type.andThen (looks_mroIn X mroO)
  refine codeAny_call_builtin S.slot.plain S.entry (@check_slot (model prog w) _ _ ⟨hp, g, d, t, os⟩ "object.__setattr__" "object" "__setattr__" (.ref x) [.str nm tk, v] [] _ S.kind S.split isO (S.args (.ref x) (.str nm tk) v) ?_)
  have lm : Looks (model prog w) hp (mroOf (.ref C)) cd.mro := (looks_clsIn X hcd).andThen .now
  have lt : Looks (model prog w) hp (Builtin.ObjectAttr.storeTaker? none) none := .now
  have pass : refuseLoop (.ref x) "__setattr__" cd.mro = pure () := by
    rw [hm, refuseLoop_ref, refuseLoop_ref]
    exact F.store_Exception.passes _
  have lc : Looks (model prog w) hp (classData C) cd := looks_clsIn X hcd
  rw [osa_eq, refuse_eq]
  refine wpAny_bind (wpAny_bind (J.type.at (wpAny_bind (lm.at ?_))))
  rw [pass]
  refine wpAny_pure (wpAny_bind (J.type.at (wpAny_bind ((looks_findIn X ha).at (wpAny_bind (lt.at ?_))))))
  obtain ⟨nm', bs, mro, ns, qn, hd, sn, sb, ab, col, del⟩ := cd
  dsimp only at hh
  subst hh
  show wpAny _ _ (Builtin.ObjectAttr.storeInOwnDict (.ref x) (.ref C) (.str nm tk) nm v false) _ _ _
  unfold Builtin.ObjectAttr.storeInOwnDict Builtin.ObjectAttr.ownDictForStores
  repeat (first | with_reducible refine store_in_new ?_ ?_ | with_reducible refine wpAny_loadPart_at hx ?_ | with_reducible refine lc.at ?_ | wp_step)
  · exact ⟨_, #[], _, (Heap.get?_update_ne _ _ _ _ apart.symm).trans (Heap.get?_push_at rfl rfl), rfl, fun e he => absurd he (by simp), fun _ => rfl⟩
  · intro h' tk' hn' hs
    have hx1 : (hp.push { cls := .type "dict", data := .dict #[] }).get? x = some { cls := .ref C, data := .fields fv } := Heap.get?_push_of_some _ hx
    refine hq h' tk' hp.objs.size (fun b o hb ho => ?_) (Nat.le_refl _) apart.symm ?_ hn'
    · exact (hs.2 b (Nat.ne_of_lt (Heap.lt_size ho))).trans ((Heap.get?_update_ne _ _ _ _ hb).trans (Heap.get?_push_of_some _ ho))
    · exact (hs.2 x apart).trans (Heap.get?_update_self _ hx1 rfl)
end
section
variable {prog : Program} {w : World} {A : Around} {E : Value → Shared → Prop} {s : Shared} {c : Code} {env : PySem.Env}
theorem mc_at {o : Expr} {name : Str} {apos pos : Pos} {args : List Expr} {Q : Value → Shared → Prop} (hform : methodCallForm (args.length + ([] : List Keyword).length) (backTo pos (starEach args env)) (backToKw pos (keywordEach [] env)) = true)
    (hline : (apos.endLine == pos.line) = true) (h : PySem.wpAt (model prog w) A c (attributeBase o name env (eval o env)) (fun ov s₁ => ∀ pl : PySem.Sem Bool, wpAny (model prog w) A (getMethod ov name pl) (fun fx s₂ => wpAny (model prog w) A (callWith pos fx.1 fx.2 (backTo pos (starEach args env)) []) Q E s₂) E s₁) E s) :
    PySem.wpAt (model prog w) A c (eval (.Call (.Attribute o name apos) args [] pos) env) Q E s := by
  rw [arm_eval_Call]
  have hpos : methodCallPos true o env apos pos = pure pos := by unfold methodCallPos; simp [hline]
  refine PySem.wpAt_bind (PySem.wpAt_mono h (fun ov s₁ h₁ => PySem.wpAt_of_wpAny (wpAny_bind (wpAny_standAt ?_))) fun _ _ x => x)
  unfold methodCall
  rw [hform]
  refine wpAny_bind (wpAny_holding ?_)
  unfold calleeOf
  rw [if_pos rfl]
  refine wpAny_mono (h₁ _) (fun fx s₂ h₂ => ?_) fun _ _ x => x
  exact wpAny_bind (wpAny_of_eq hpos h₂)
end
theorem still_in {K : Frag} {h h' : Heap} {x : Addr} (X : K.In h) (hx : K.lookup x = none) (k : ∀ b o, b ≠ x → h.get? b = some o → h'.get? b = some o) : K.In h' := fun a o e =>
  k a o (fun z => by rw [z, hx] at e; cases e) (X a o e)
/-- what it leaves -/
structure InitDone (h h' : Heap) (x C dx t1 : Addr) (fld : Str) (v : Value) : Prop where
  keep : ∀ b o, b ≠ x → h.get? b = some o → h'.get? b = some o
  obj : h'.get? x = some { cls := .ref C, dict := some dx, data := .fields #[.ref t1, .none, .none, .none, .bool false, .none] }
  big : h.objs.size ≤ dx
  ne : dx ≠ x
  ns : h'.Ns1 dx (fun y => if y = fld then some v else none)
section
variable {prog : Program} {w : World} {A : Around} {R : Result → Shared → Prop} {s : Shared} {K : Frag} {mg mb : Str → Option Value} {C fI : Addr} {fld arg : Str}
theorem er_init (T : ErrTxt prog K C fI fld arg) {x t0 : Addr} {v : Value} (X : K.In s.heap) (hlim : s.heap.NoLimit) (hg : s.heap.Ns mainGlobals mg) (hb : s.heap.Ns builtinsNs mb) (hmb : mb "super" = some (.type "super"))
    (hx : s.heap.get? x = some (excO C t0)) (hnx : K.lookup x = none) (hroom : A.depth < recursionLimit) (ha : arg ≠ "self") (hd1 : (arg == ("__debug__" : Str)) = false)
    (hq : ∀ h' tk dx t1, InitDone s.heap h' x C dx t1 fld v → R (.ok (.ret .none)) { s with heap := h', toks := tk }) :
    codeAny (model prog w) A (.call (.ref fI) ⟨[.ref x, v], []⟩) R s := by
  obtain ⟨oc, od, fd, osl, txt, p0, p1, p2, p3, p4, p5, q1, q2, q3, q4, j, cc, cda, vs, file, tf, ar, d1, d2, e1, e2, s1, s2, ho, hbody, hline, hgl, hbl, hcl, hco, hcd, hk, hnc, hng, nsup, ncls, nself, narg, ncell, hhead, har, hcode, hvs, hfile, hcell, hbind⟩ := T.fn
  obtain ⟨cd, D, kcd, kmro, kdict⟩ := T.cd
  refine ks_codeAny_call_defAt (binds := [("self", .ref x), (arg, v)]) hroom (X _ _ ho) rfl hlim (codeRec_of X hcd) hbody (hbind s x v X) ncell (fun y hy => ?_) (fun h₀ hns k₀ => ?_) hnc hng hk
  · rcases List.mem_cons.mp hy with e | hy
    · subst e
      exact nself
    · rcases List.mem_cons.mp hy with e | hy
      · subst e
        exact narg
      · cases hy
  obtain ⟨hp, gg, dr, tk, os⟩ := s
  have X0 : K.In h₀ := X.keeps k₀
  have hx0 : h₀.get? x = some (excO C t0) := k₀ _ _ hx
  have notc : ∀ {t : Addr}, notCls (excO C t) = true := rfl
  have I0 : InstAt h₀ x (excO C t0) C none := ⟨hx0, rfl, rfl, trivial⟩
  obtain ⟨oD, hD1, hD2⟩ : ∃ oD, h₀.get? C = some oD ∧ oD.data = .cls cd := by
    unfold clsIn at kcd
    split at kcd
    · rename_i c d cd' sl ho
      cases kcd
      exact ⟨_, X0 _ _ ho, rfl⟩
    · cases kcd
  have xC : x ≠ C := ks_ne X0 I0 kcd
  have lself : (fun y => ([(("self" : Str), Value.ref x), (arg, v)] : List (Str × Value)).reverse.lookup y) ("self" : Str) = some (.ref x) := by
    show ([(arg, v), (("self" : Str), Value.ref x)] : List (Str × Value)).lookup ("self" : Str) = _
    rw [List.lookup_cons]
    have z : (("self" : Str) == arg) = false := beq_eq_false_iff_ne.mpr ha.symm
    rw [z]
    rfl
  have larg : (fun y => ([(("self" : Str), Value.ref x), (arg, v)] : List (Str × Value)).reverse.lookup y) arg = some v := by
    show ([(arg, v), (("self" : Str), Value.ref x)] : List (Str × Value)).lookup arg = _
    rw [List.lookup_cons, beq_self_eq_true]
  have hself : fd.scope.names.lookup ar.arg = some .local := by
    rw [har]
    exact nself
  obtain ⟨nmC, N', qn, bs, bm, hdct, sn, sub, ab, col, dd, k0, k1, k2, k3, k5, hC0, _⟩ := excInit_of X0 T.ex
  have Lx : hp.objs.size ≠ x := Nat.ne_of_gt (Heap.lt_size hx)
  unfold erB
  refine ks_wpAt_execs_cons (ks_wpAt_Expr_any (mc_at rfl hline ?_) (by show (fd.scope.kind == .module && _) = false; rw [hk]; rfl) (no_swap rfl))
  refine ks_wpAt_super_base (env := callEnv fd hp.objs.size fI) nsup ncls (by decide) rfl (k₀ _ _ (X _ _ ho)) rfl hhead hco (X0 _ _ hcode) rfl hvs hfile T.top ?_
  refine ks_loadName_global hk nsup (loadGlobal_builtin (env := callEnv fd hp.objs.size fI) (mg := mg) (mb := mb) (by show h₀.Ns fd.globals mg; rw [hgl]; exact hg.keeps k₀) (mg_none_of X hg T.sn) (by show h₀.Ns fd.builtins mb; rw [hbl]; exact hb.keeps k₀) hmb ⟨rfl, ?_⟩)
  refine wpAny_loadName_free (env := callEnv fd hp.objs.size fI) (c := cc) hk ncls (by show fd.closure.lookup _ = _; rw [hcl]; rfl) ⟨_, X0 _ _ hcell, rfl⟩ ?_
  refine wpAny_loadName_local (env := callEnv fd hp.objs.size fI) hk hself hns (by rw [har]; exact lself) ?_
  refine ks_wpAny_isType_cls hD1 hD2 ⟨rfl, ?_⟩
  refine ks_wpAny_call_super hD1 hD2 hx0 rfl (fun c e => by cases e) (looks_mroIn X0 T.mS) (fun h1 so k1 => ?_)
  intro pl
  have X1 : K.In h1 := X0.keeps k1
  have I1 : InstAt h1 x (excO C t0) C none := ⟨k1 _ _ hx0, rfl, rfl, trivial⟩
  refine kxs_getMethod kxs_Exception so (looks_opaque X1 T.op) (l₀ := cd.mro) ?_ rfl X1 ?_ (I1.type.andThen (looks_subIn X1 T.sB)) xC (by decide) ?_
  · exact fun A Q E s k q => wpAny_bind ((looks_clsIn X1 kcd) A _ E s k (wpAny_pure q))
  · have z := T.sup
    unfold ks_superIn at z
    rw [kcd] at z
    exact z
  refine ESX.callWith_bound (x := x) ?_ rfl rfl
  refine Calls.spliced_cons (Calls.Constant_str (pos := p3) (k := j) (Calls.spliced_nil ⟨Heap.get?_push_at rfl rfl, ?_⟩))
  have kp : ∀ b o, h1.get? b = some o → (h1.push (kxs_mw "Exception.__init__" x)).get? b = some o := fun b o e => Heap.get?_push_of_some _ e
  refine ESX.call_bw (kp _ _ (k1 _ _ hC0)) (kp _ _ (k1 _ _ hx0)) (Heap.get?_push_at rfl rfl) (by rw [sizeLine_eq]; show 1 ≤ 16777216; decide) (fun h2 t1 k2 hx2 => ?_)
  have k02 : ∀ b o, b ≠ x → hp.get? b = some o → h2.get? b = some o := fun b o hb e => k2 b o hb (kp b o (k1 b o (k₀ b o e)))
  have X2 : K.In h2 := still_in X hnx k02
  have hns2 : h2.Ns hp.objs.size (fun y => ([(("self" : Str), Value.ref x), (arg, v)] : List (Str × Value)).reverse.lookup y) := hns.at fun o q => k2 _ o Lx (kp _ o (k1 _ o q))
  refine ks_wpAt_execs_cons (ks_wpAt_Assign_Attr (PySem.wpAt_of_wpAny (wpAny_Name (wpAny_loadName_local (env := callEnv fd hp.objs.size fI) hk narg hns2 larg ?_) hd1)) (no_swap rfl))
  refine wpAny_Name (wpAny_loadName_local (env := callEnv fd hp.objs.size fI) hk nself hns2 lself ?_) (by decide)
  refine set_plain X2 (ox := excO C t1) (od := none) ⟨hx2, rfl, rfl, trivial⟩ T.sa ?_
  refine er_store X2 hx2 kcd kmro kdict T.noF (fun h3 tk3 dx k3 big ne obj ns => ?_)
  exact PySem.wpAt_of_wpAny (wpAny_execs_nil (hq h3 tk3 dx t1 ⟨fun b o hb e => k3 b o hb (k02 b o hb e), obj, Nat.le_of_lt (Nat.lt_of_lt_of_le hns2.lt big), ne, ns⟩))
end
end Mn
set_option Elab.async false
set_option linter.all false
set_option maxRecDepth 100000
set_option maxHeartbeats 1000000
namespace Mn
open PySem PySem.Spec PySem.W PySem.Calls PyProof.Rows PySem.HandSPX
/-- a made error -/
structure ErMade (h h' : Heap) (e C d : Addr) (fld : Str) (v : Value) : Prop where
  keep : ∀ b o, h.get? b = some o → h'.get? b = some o
  new : h.objs.size ≤ e
  obj : ∃ oe vs, h'.get? e = some oe ∧ oe.cls = .ref C ∧ oe.dict = some d ∧ oe.data = .fields vs ∧ vs[1]? = some .none
  big : h.objs.size ≤ d
  ne : d ≠ e
  ns : h'.Ns1 d (fun y => if y = fld then some v else none)
section
variable {prog : Program} {w : World} {A : Around} {R : Result → Shared → Prop} {s : Shared} {K : Frag} {mg mb : Str → Option Value} {C fI : Addr} {fld arg : Str}
theorem er_made (T : ErrTxt prog K C fI fld arg) {v : Value} (X : K.In s.heap) (hlim : s.heap.NoLimit) (hg : s.heap.Ns mainGlobals mg) (hb : s.heap.Ns builtinsNs mb) (hmb : mb "super" = some (.type "super")) (hroom : A.depth + 1 < recursionLimit)
    (ha : arg ≠ "self") (hd1 : (arg == ("__debug__" : Str)) = false) (hq : ∀ h' tk e d, ErMade s.heap h' e C d fld v → R (.ok (.ret (.ref e))) { s with heap := h', toks := tk }) :
    codeAny (model prog w) A (.call (.ref C) ⟨[v], []⟩) R s := by
  obtain ⟨nmC, N', qn, bs, bm, hdct, sn, sub, ab, col, dd, k0, k1, k2, k3, k5, hC, hT⟩ := excInit_of X T.ex
  obtain ⟨hp, g, dr, tk, os⟩ := s
  have k : ∀ b o, hp.get? b = some o → ((hp.push (kdv_tup [v])).push (excO C hp.objs.size)).get? b = some o := fun b o e => Heap.get?_push_of_some _ (Heap.get?_push_of_some _ e)
  have at1 : ((hp.push (kdv_tup [v])).push (excO C hp.objs.size)).get? (hp.objs.size + 1) = some (excO C hp.objs.size) := by heap_get
  have nx : K.lookup (hp.objs.size + 1) = none := by
    cases e : K.lookup (hp.objs.size + 1) with
    | none => rfl
    | some o =>
      have z : hp.get? (hp.objs.size + 1) = some o := X _ _ e
      exact absurd (Nat.lt_of_succ_lt (Heap.lt_size z)) (Nat.lt_irrefl _)
  refine call_own F.excBase_Exception hT hC (looks_findIn X T.iC) (fun self => bind_fn X self T.tC) (by rw [sizeLine_eq]; show 1 ≤ 16777216; decide) ?_
  refine er_init (s := ⟨(hp.push (kdv_tup [v])).push (excO C hp.objs.size), g, dr, tk, os⟩) T (X.keeps k) (hlim.keeps k) (hg.keeps k) (hb.keeps k) hmb at1 nx ?_ ha hd1 fun h' tk' dx t1 ⟨k', hx, dn, dne, hns⟩ => ?_
  · show A.depth + 1 < recursionLimit
    exact hroom
  · have old : ∀ b o, hp.get? b = some o → h'.get? b = some o := fun b o e => k' b o (Nat.ne_of_lt (Nat.lt_succ_of_lt (Heap.lt_size e))) (k b o e)
    have z : hp.objs.size + 1 + 1 ≤ dx := by
      first
        | (simpa only [Heap.size_push] using dn)
        | exact dn
        | (have q := dn; rw [Heap.size_push, Heap.size_push] at q; exact q)
    exact ⟨rfl, hq h' tk' (hp.objs.size + 1) dx ⟨old, Nat.le_succ _, ⟨_, _, hx, rfl, rfl, rfl, rfl⟩, Nat.le_trans (Nat.le_trans (Nat.le_succ _) (Nat.le_succ _)) z, dne, hns⟩⟩
end
theorem relO_one {f : Str} {v : L2.V} {u : Value} (r : L2.RelV v u) (y : Str) : L2.RelO (List.lookup y [(f, v)]) (if y = f then some u else none) := by
  by_cases h : y = f
  · subst h
    rw [if_pos rfl, List.lookup_cons, beq_self_eq_true]
    exact r
  · rw [if_neg h, List.lookup_cons, beq_eq_false_iff_ne.mpr h]
    trivial
/-- raise C(e) -/
def sRaise (C fld : Str) (m : Fx D) : Fs := sOf m fun d en => .ex C [(fld, d)] en
section
variable {X : L2.Cx} {W : L2.WX} {a : Expr} {p pos pos2 : Pos} {x fld arg : Str} {fI : Addr} {k : Nat}
def tMkE (K : Fg) (W : L2.WX) (x fld : Str) (m : Fx D) : L2.St → L2.Hp → L2.XK → Prop := fun σ H Q => ∃ Z F en, SR K Z F H en σ ∧ RP K W Z F σ (m en) fun d en' F' H' => ∀ v, Rep K F' v d → ∀ dd, H' dd = none → Q (.ref (He.ga K x)) (some dd) (L2.upd H' dd (.xd [(fld, v)]))
theorem pmk_err {m : Fx D} (T : ErrTxt X.prog X.K (He.ga X.K x) fI fld arg) (hr : RoomG (k + 1) X.A) (he : EV X W m a) (hg : L2.Gl X x) (hm : X.mg x = some (.ref (He.ga X.K x))) (ns : notStar a = true) (ha : arg ≠ "self") (hd1 : (arg == ("__debug__" : Str)) = false) (hdb : (x == ("__debug__" : Str)) = false) :
    L2.PMk X (.Call (.Name x p) [a] [] pos) (tMkE X.K W x fld m) := by
  intro pins s σ H Q I h
  have hs1 : starEach [a] X.env = (false, eval a X.env) :: starEach [] X.env := star_cons ns
  refine wpAny_Call_Name_kw (L2.ld_glob I hg hm ?_ hdb)
  refine PySem.W.callWith_K (h₀ := X.base) I.ok.mod.kin T.kC ?_ hs1 rfl
  rw [hs1]
  obtain ⟨Z, F, en, sr, q⟩ := h
  refine Calls.spliced_cons (L2.thn (he.run pins s σ H (fun v H1 => ∀ dd, H1 dd = none → Q (.ref (He.ga X.K x)) (some dd) (L2.upd H1 dd (.xd [(fld, v)]))) I ⟨Z, F, en, sr, q.mono fun d e1 F1 H1 s1 f1 z v r => z v r⟩) fun u s1 ⟨v, H1, I1, rv, q1⟩ => Calls.spliced_nil ⟨I1.kIn, ?_⟩)
  show wpAny _ _ (call (.ref (He.ga X.K x)) [u]) _ _ _
  have hlim := I1.nolimit
  obtain ⟨mb, b1, b2⟩ := I1.ok.mod.blt
  have hgs : s1.heap.Ns mainGlobals X.mg := I1.ok.mod.glob.keeps I1.bk
  have hbs : s1.heap.Ns builtinsNs mb := b1.keeps I1.bk
  have hmb : mb "super" = some (.type "super") := (b2 _ (by decide)).trans (by decide +kernel)
  obtain ⟨hp, g, dr, tk, os⟩ := s1
  refine wpAny_call (er_made T I1.kIn hlim hgs hbs hmb (by have := hr.r.dp; omega) ha hd1 fun h' tk' e d M => ?_)
  show L2.MkP X pins σ Q (.ref e) ⟨h', g, dr, tk', os⟩
  obtain ⟨oe, fv, hoe, hc, hd, hdat, h1⟩ := M.obj
  have hns := M.ns
  obtain ⟨G, g1, g2⟩ := L2.restrict h' fun b => decide (b ≠ e)
  have gk : ∀ b, b ≠ e → G.get? b = h'.get? b := fun b hb => g1 b (decide_eq_true hb)
  have ge : G.get? e = none := g2 e (by simp)
  have old : ∀ b o, hp.get? b = some o → G.get? b = some o := fun b o q => (gk b (Nat.ne_of_lt (Nat.lt_of_lt_of_le (Heap.lt_size q) M.new))).trans (M.keep b o q)
  have ob : L2.ObjOk X.prog X.w (L2.upd H1 d (.xd [(fld, v)])) G d (.xd [(fld, v)]) := ⟨_, hns.at (fun o q => (gk d M.ne).trans q), fun f => relO_one rv f⟩
  have J : L2.Inv X pins σ (L2.upd H1 d (.xd [(fld, v)])) ⟨G, g, dr, tk', os⟩ := I1.laid (t' := tk') old M.big ob
  refine ⟨e, oe, fv, ⟨G, g, dr, tk', os⟩, _, .ref (He.ga X.K x), some d, rfl, J, fun b o q => ?_, ge, hoe, ⟨hc, hd⟩, hdat, h1, ?_, rfl, I1.bare, L2.raises_own T.exB T.tyC, q1 d (I1.hok.fresh M.big)⟩
  · by_cases hb : b = e
    · have q' : G.get? b = some o := q
      rw [hb, ge] at q'
      cases q'
    · exact (gk b hb).symm.trans q
  · rw [L2.upd_ne (Ne.symm M.ne)]
    exact I1.hok.fresh M.new
theorem es_raise {m : Fx D} (hc : X.calm = true) (tk : L2.Takes X W) (T : ErrTxt X.prog X.K (He.ga X.K x) fI fld arg) (hr : RoomG (k + 1) X.A) (he : EV X W m a) (hg : L2.Gl X x) (hm : X.mg x = some (.ref (He.ga X.K x))) (ns : notStar a = true) (ha : arg ≠ "self") (hd1 : (arg == ("__debug__" : Str)) = false) (hdb : (x == ("__debug__" : Str)) = false) :
    ES X W (sRaise x fld m) (.Raise (some (.Call (.Name x p) [a] [] pos)) none pos2) := by
  refine (L2.ps_raise hc tk (pmk_err (W := W) T hr he hg hm ns ha hd1 hdb)).weak fun D σ H ⟨Z, F, en, sr, q⟩ => ⟨Z, F, en, sr, (SQ.of q).mono fun d e1 F1 H1 sr1 f1 ⟨s, f, z⟩ v r dd hdd => ?_⟩
  exact z dd _ σ F1 _ (sr1.fresh hdd) .rfl L2.upd_same (.cons r .nil)
end
end Mn
set_option Elab.async false
set_option linter.all false
set_option maxRecDepth 100000
set_option maxHeartbeats 1000000
namespace Mn
open PySem PySem.Spec PyProof.Rows L2
abbrev Clause := Value × Option Nat × (Addr → Value → Option Addr → TS)
/-- an ending behind a named clause: the name is gone -/
def Ends.gone (D : Ends) (i : Nat) : Ends := { nx := fun σ H => D.nx (σ.set i none) H, rt := D.rt, bk := fun σ H => D.bk (σ.set i none) H, ct := fun σ H => D.ct (σ.set i none) H }
/-- what the clauses wish -/
def wM (K : Fg) (Wout : WX) (D : Ends) : List Clause → WX
  | [] => Wout
  | (c, oi, ts) :: r => fun cls d σ H => ∃ b, PySem.W.exmOne K cls c = some b ∧ (b = true → ∀ a, H a = none → match oi with
      | none => ts a cls d D σ H
      | some i => ts a cls d (Ends.gone D i) (σ.set i (some (.ref a))) H) ∧ (b = false → wM K Wout D r cls d σ H)
inductive ClOk (X : Cx) : List ExceptHandler → List Clause → Prop
  | nil : ClOk X [] []
  | un {x : Str} {c : Value} {ts : Addr → Value → Option Addr → TS} {b0 : Stmt} {su : List Stmt} {np pos' : Pos} {hds : List ExceptHandler} {l : List Clause} (hc : Names X x c)
      (hsu : ∀ (a : Addr) (oe : Obj) (cls : Value) (d : Option Addr) (pn : List (Addr × Obj)), Zc cls d oe → (∃ vs, oe.data = .fields vs) → PSs (X.suite a ((a, oe) :: pn)) (b0 :: su) (ts a cls d)) (r : ClOk X hds l) :
      ClOk X (.ExceptHandler (some (.Name x np)) none (b0 :: su) pos' :: hds) ((c, none, ts) :: l)
  | nm {x n : Str} {i : Nat} {c : Value} {ts : Addr → Value → Option Addr → TS} {b0 : Stmt} {su : List Stmt} {np pos' : Pos} {hds : List ExceptHandler} {l : List Clause} (hc : Names X x c) (hi : X.N[i]? = some n) (hln : X.env.kindOf n = some .local)
      (hsu : ∀ (a : Addr) (oe : Obj) (cls : Value) (d : Option Addr) (pn : List (Addr × Obj)), Zc cls d oe → (∃ vs, oe.data = .fields vs) → PSs (X.suite a ((a, oe) :: pn)) (b0 :: su) (ts a cls d)) (r : ClOk X hds l) :
      ClOk X (.ExceptHandler (some (.Name x np)) (some n) (b0 :: su) pos' :: hds) ((c, some i, ts) :: l)
section
variable {X : Cx} {body : List Stmt} {h0 : ExceptHandler} {hds : List ExceptHandler} {l : List Clause} {pos : Pos} {tb : WX → TS} {Wout : WX}
theorem ps_tryM (hs : X.stack = X.env :: X.outer) (hf : X.env.frame = some X.env.locals) (hN : X.N.Nodup) (tk : Takes X Wout)
    (hb : ∀ (W : WX) (pn : List (Addr × Obj)) (xe : Value → Shared → Prop), Takes (X.tr pn xe) W → PassesOwn (model X.prog X.w) X.A X.env xe → PSs (X.tr pn xe) body (tb W))
    (hh : ClOk X (h0 :: hds) l) : PS X (.Try body (h0 :: hds) [] [] pos) (fun D σ H => tb (wM X.K Wout D l) D σ H) := by
  refine ⟨fun pins s σ H D I h => ?_⟩
  have okX := I.ok
  have frX : X.A.frames = some (X.env :: X.outer) := by rw [okX.frames, hs]
  refine wpAny_Try_except ?_
  have B1 := (hb (wM X.K Wout D l) (X.pn ++ pins) (fun e s₁ => wpAny (model X.prog X.w) X.A (noteFrame e X.env) (fun _ s₂ => wpAny (model X.prog X.w) X.A (setFlight e none) (fun _ s₃ =>
    wpAny (model X.prog X.w) X.A (handleBy e X.env (h0 :: hds)) (SP X pins D) X.xe s₃) X.xe s₂) X.xe s₁) (fun u s' xx => ?caught) PassesOwn.looking).run [] s σ H D (I.toTry _) h
  case caught =>
    obtain ⟨a, B, sI, pins', σ1, H1, cls, d, rfl, J0, nb, up, sky, na, os, ag, wi⟩ := xx
    have J : Inv X pins σ1 H1 sI := J0.ofTry okX
    have sk : Sky B (X.env :: X.outer) a (Zc cls d) X.env.locals s'.heap := by rw [← hs]; exact sky
    show wpAny (model X.prog X.w) X.A (noteFrame (.ref a) X.env) _ _ _
    refine Sky.land Zc.steady frX hf sk fun h3 fl3 up3 => ?_
    have J3 : Inv X pins σ1 H1 { s' with heap := h3 } := J.landed nb fl3.1 (up.trans up3) os ag
    obtain ⟨o3, v3, g3, z3, d3⟩ := fl3.there
    have offFr : a ∉ frs (X.env :: X.outer) := fun hm => by
      obtain ⟨_, o', e', hnf⟩ := fl3.2.2.1.mem hm
      rw [g3] at e'
      cases e'
      exact hnf _ d3
    have nL : a ≠ X.env.locals := fun z => offFr (List.mem_filterMap.mpr ⟨X.env, List.mem_cons_self, by rw [hf, z]⟩)
    have nF : a ∉ X.fs := fun hm => by
      obtain ⟨e, he, q⟩ := List.mem_filterMap.mp hm
      exact offFr (List.mem_filterMap.mpr ⟨e, List.mem_cons_of_mem _ he, q⟩)
    have S3 := J3.suite g3 d3 na nL nF
    have LT : PySem.W.Looks (model X.prog X.w) h3 (typeOf (.ref a)) cls := fun A Q E s k q => wpAny_typeOf_ref (k _ _ g3) (by rw [z3.1]; exact q)
    have test : ∀ {x : Str} {c : Value} {np : Pos} {Q : Value → Shared → Prop} {E : Value → Shared → Prop}, Names X x c → Q c { s' with heap := h3 } → wpAny (model X.prog X.w) (X.A.mark (some (.ref a))) (eval (.Name x np) X.env) Q E { s' with heap := h3 } := fun {x c np Q E} hc q => by
      obtain ⟨hg, hdbg, hm | ⟨hm, hv, hnn⟩⟩ := hc
      · exact ld_glob (X := X.suite a ((a, o3) :: (X.pn ++ pins))) S3 hg hm q hdbg
      · exact ld_blt (X := X.suite a ((a, o3) :: (X.pn ++ pins))) S3 hg hm hv q hnn hdbg
    have along : ∀ {hds' : List ExceptHandler} {l' : List Clause}, ClOk X hds' l' → wM X.K Wout D l' cls d σ1 H1 → wpAny (model X.prog X.w) X.A (handleBy (.ref a) X.env hds') (SP X pins D) X.xe { s' with heap := h3 } := by
      intro hds' l' hk
      induction hk with
      | nil =>
        intro wi
        refine wpAny_handleBy_nil ?_
        obtain ⟨m1, m2, m3, oe, vs, T, oT, ts', he, hz, hd, h1, hr⟩ := id fl3
        unfold PySem.passOn
        refine wpAny_bind (wpAny_field he hd h1 ?_)
        rw [if_neg (show ¬ ((Value.ref T == Value.none) = true) from by simp)]
        have last : wpAny (model X.prog X.w) X.A (setFlight (.ref a) X.env.frame) (fun _ s4 => wpAny (model X.prog X.w) X.A (throw (.ref a) : PySem.Sem Flow) (SP X pins D) X.xe s4) X.xe { s' with heap := h3 } := by
          rw [hf]
          refine HandSPX.setFlight_upZ fl3 fun h4 g4 up4 => wpAny_throw (tk _ _ ?_)
          exact ⟨a, B, sI, pins, σ1, H1, cls, d, rfl, J, nb, (up.trans up3).trans up4, .inr (.inr (by rw [hs]; exact g4)), na, os, ag, wi⟩
        first
          | exact wpAny_bind (wpAny_pure (wpAny_bind last))
          | exact wpAny_bind last
      | @un x c ts b0 su np pos' hds2 l2 hc hsu r ih =>
        intro wi
        obtain ⟨b, hb1, hyes, hno⟩ := wi
        refine wpAny_handleBy_cons (codeAny_handlers_test ?_) (by intro q; cases q)
        refine test hc ((PySem.W.exm_one (M := model X.prog X.w) J3.kIn LT hb1).here ?_)
        cases b with
        | true =>
          refine codeAny_handlers_suite ?_
          refine HandSPX.lands_againZ fl3 fun h4 fl4 up4 => ?_
          have J4 : Inv X pins σ1 H1 { s' with heap := h4 } := J.landed nb fl4.1 ((up.trans up3).trans up4) os ag
          obtain ⟨o4, v4, g4, z4, d4⟩ := fl4.there
          have S4 := J4.suite g4 d4 na nL nF
          refine wpAny_mono ((hsu a o4 cls d (X.pn ++ pins) z4 ⟨_, d4⟩).run [] _ _ H1 _ S4 (hyes rfl a na)) (fun f s6 hsp => ?_) (fun _ _ z => False.elim z)
          cases f with
          | next => obtain ⟨σ6, H6, S6, q6⟩ := hsp; exact ⟨_, _, S6.unsuite okX, q6⟩
          | brk => obtain ⟨σ6, H6, S6, q6⟩ := hsp; exact ⟨_, _, S6.unsuite okX, q6⟩
          | cont => obtain ⟨σ6, H6, S6, q6⟩ := hsp; exact ⟨_, _, S6.unsuite okX, q6⟩
          | ret u => obtain ⟨v6, σ6, H6, S6, r6, q6⟩ := hsp; exact ⟨_, _, _, S6.unsuite okX, r6, q6⟩
        | false =>
          show wpAny _ X.A (handleBy (.ref a) X.env hds2) _ _ _
          exact ih (hno rfl)
      | @nm x n i c ts b0 su np pos' hds2 l2 hc hi hln hsu r ih =>
        intro wi
        obtain ⟨b, hb1, hyes, hno⟩ := wi
        refine wpAny_handleBy_cons (codeAny_handlers_test ?_) (by intro q; cases q)
        refine test hc ((PySem.W.exm_one (M := model X.prog X.w) J3.kIn LT hb1).here ?_)
        cases b with
        | true =>
          refine codeAny_handlers_suite_as ?_
          refine HandSPX.lands_againZ fl3 fun h4 fl4 up4 => ?_
          have J4 : Inv X pins σ1 H1 { s' with heap := h4 } := J.landed nb fl4.1 ((up.trans up3).trans up4) os ag
          obtain ⟨o4, v4, g4, z4, d4⟩ := fl4.there
          have S4 := J4.suite g4 d4 na nL nF
          refine store_ok (X := X.suite a ((a, o4) :: (X.pn ++ pins))) (v := .ref a) S4 hN hi (.inl hln) rfl (fun s5 S5 => ?_) (.inr hln)
          refine wpAny_mono ((hsu a o4 cls d (X.pn ++ pins) z4 ⟨_, d4⟩).run [] s5 _ H1 _ S5 (hyes rfl a na)) (fun f s6 hsp => ?_) (fun _ _ z => False.elim z)
          have gone : ∀ {σ6 : L2.St} {H6 : Hp} {Q : Shared → Prop}, Inv (X.suite a ((a, o4) :: (X.pn ++ pins))) [] σ6 H6 s6 → (∀ s7, Inv X pins (σ6.set i none) H6 s7 → Q s7) →
              wpAny (model X.prog X.w) X.A (do bindName X.env n .none; unbindBehindTheSuite X.env n pos') (fun _ s7 => Q s7) X.xe s6 := fun {σ6 H6 Q} S6 hq => gone_ok (S6.unsuite okX) hN hi hln hq
          cases f with
          | next => obtain ⟨σ6, H6, S6, q6⟩ := hsp; exact gone S6 fun s7 J7 => ⟨_, _, J7, q6⟩
          | brk => obtain ⟨σ6, H6, S6, q6⟩ := hsp; exact gone S6 fun s7 J7 => ⟨_, _, J7, q6⟩
          | cont => obtain ⟨σ6, H6, S6, q6⟩ := hsp; exact gone S6 fun s7 J7 => ⟨_, _, J7, q6⟩
          | ret u => obtain ⟨v6, σ6, H6, S6, r6, q6⟩ := hsp; exact gone S6 fun s7 J7 => ⟨_, _, _, J7, r6, q6⟩
        | false =>
          show wpAny _ X.A (handleBy (.ref a) X.env hds2) _ _ _
          exact ih (hno rfl)
    exact along hh wi
  refine wpAny_mono B1 (fun f s1 hsp => ?_) (fun e s1 he => he)
  cases f with
  | next => obtain ⟨σ', H', J', q⟩ := hsp; exact wpAny_execs_nil ⟨σ', H', J'.ofTry okX, q⟩
  | brk => obtain ⟨σ', H', J', q⟩ := hsp; exact ⟨σ', H', J'.ofTry okX, q⟩
  | cont => obtain ⟨σ', H', J', q⟩ := hsp; exact ⟨σ', H', J'.ofTry okX, q⟩
  | ret u => obtain ⟨v, σ', H', J', r, q⟩ := hsp; exact ⟨v, σ', H', J'.ofTry okX, r, q⟩
end
end Mn
set_option Elab.async false
set_option linter.all false
set_option maxRecDepth 100000
set_option maxHeartbeats 1000000
namespace Mn
open PySem PySem.Spec L2
/-- a clause's suite: return e.f; return (s, e.f); return (s,) -/
inductive Su where
  | fld (f : Str) | pair (s f : Str) | tag (s : Str)
def Su.val : Su → List (Str × D) → Option D
  | .fld f, fs => fs.lookup f
  | .pair s f, fs => (fs.lookup f).map fun d => .tup [.str s, d]
  | .tag s, _ => some (.tup [.str s])
abbrev Hd := Str × Option Nat × Su
abbrev ExTab := List (Str × Str × Bool)
def exLook (tab : ExTab) (C S : Str) : Option Bool := (tab.find? fun p => decide (p.1 = C ∧ p.2.1 = S)).map (·.2.2)
def unset (en : En) : Option Nat → Option En
  | none => some en
  | some i => if (lent en i || decide (en.length ≤ i)) = true then none else some (en.set i .un)
def sHands (tab : ExTab) (xf : List (Str × List Str)) : List Hd → Str → List (Str × D) → Fs
  | [], C, fs, en => .ex C fs en
  | (S, oi, su) :: r, C, fs, en => match exLook tab C S with
    | none => .bad
    | some false => sHands tab xf r C fs en
    | some true => match unset en oi with
      | none => .bad
      | some e => match su.val fs with
        | none => .bad
        | some d => .rt (.val d) e
def sTry (tab : ExTab) (xf : List (Str × List Str)) (b : Fs) (hs : List Hd) : Fs := fun en => match b en with
  | .ex C fs e => sHands tab xf hs C fs e
  | r => r
/-- the tables hold -/
structure ExOk (K : Fg) (tab : ExTab) (xf : List (Str × List Str)) : Prop where
  t : ∀ p ∈ tab, PySem.W.exmOne K (.ref (He.ga K p.1)) (.ref (He.ga K p.2.1)) = some p.2.2 ∧ ∃ l, (p.1, l) ∈ xf
  x : ∀ p ∈ xf, XfC K (He.ga K p.1) ∧ ∀ f ∈ p.2, PySem.W.findIn K (.ref (He.ga K p.1)) f = some none
theorem exLook_of {tab : ExTab} {C S : Str} {b : Bool} (e : exLook tab C S = some b) : (C, S, b) ∈ tab := by
  unfold exLook at e
  cases q : tab.find? fun p => decide (p.1 = C ∧ p.2.1 = S) with
  | none => rw [q] at e; cases e
  | some p =>
    rw [q] at e
    cases e
    have m := List.mem_of_find?_eq_some q
    have z := List.find?_some q
    rw [decide_eq_true_eq] at z
    obtain ⟨z1, z2⟩ := z
    obtain ⟨a, b, c⟩ := p
    cases z1
    cases z2
    exact m
/-- the fields that a suite reads -/
def Su.fs : Su → List Str
  | .fld f => [f]
  | .pair _ f => [f]
  | .tag _ => []
def readsOk (xf : List (Str × List Str)) (su : Su) : Bool := xf.all fun p => su.fs.all fun f => decide (f ∈ p.2)
/-- a suite's reading -/
def cSu (K : Fg) (xf : List (Str × List Str)) (oi : Option Nat) (su : Su) : Addr → Value → Option Addr → TS := fun a cls d De σ H => ∃ (C : Str) (l : List Str) (dd : Addr) (gs : List (Str × V)) (fs : List (Str × D)) (Z : Zr) (F : Hp) (en : En) (v : Mn.D),
  cls = .ref (He.ga K C) ∧ (C, l) ∈ xf ∧ d = some dd ∧ H dd = some (.xd gs) ∧ RepF K F gs fs ∧ (∀ i, oi = some i → σ[i]? = some (some (.ref a))) ∧ SR K Z F H en σ ∧ su.val fs = some v ∧ ∀ u σ' F' H', SR K Z F' H' en σ' → Sub F F' → Rep K F' u v → De.rt u H'
section
variable {X : Cx} {tab : ExTab} {xf : List (Str × List Str)} {pos p1 p2 p3 : Pos} {a : Addr} {oe : Obj} {cls : Value} {d : Option Addr} {pn : List (Addr × Obj)} {n : Str} {i k : Nat}
theorem su_fld {f : Str} (T : ExOk X.K tab xf) (rd : readsOk xf (.fld f) = true) (hi : X.N[i]? = some n) (hv : Vis X.env.scope n) (hd : (n == ("__debug__" : Str)) = false) (hcd : (n == ("__classdict__" : Str)) = false) (hz : Zc cls d oe) (hf : ∃ vs, oe.data = .fields vs) :
    PSs (X.suite a ((a, oe) :: pn)) [.Return (some (.Attribute (.Name n p1) f p2)) pos] (cSu X.K xf (some i) (.fld f) a cls d) := by
  refine ⟨fun pins s σ H De I ⟨C, l, dd, gs, fs, Z, F, en, v, ec, m, ed, hH, rf, si, sr, sv, q⟩ => ?_⟩
  obtain ⟨x1, x2⟩ := T.x _ m
  have hfl : f ∈ l := of_decide_eq_true (List.all_eq_true.mp (List.all_eq_true.mp rd _ m) f List.mem_cons_self)
  have he : PE (X.suite a ((a, oe) :: pn)) (.Name n p1) (tVar i) := pe_var hi hv hd hcd
  refine (pss_cons (ps_ret (pe_xf x1 (x2 f hfl) hz hf he (no_base rfl))) pss_nil).run pins s σ H De I ?_
  obtain ⟨u, h1, h2⟩ := rf.look (show fs.lookup f = some v from sv)
  exact ⟨_, si i rfl, rfl, ec, dd, gs, u, ed, hH, h1, q u σ F H sr .rfl h2⟩
theorem su_pair {f : Str} {z : Str} (T : ExOk X.K tab xf) (rd : readsOk xf (.pair z f) = true) (hi : X.N[i]? = some n) (hv : Vis X.env.scope n) (hd : (n == ("__debug__" : Str)) = false) (hcd : (n == ("__classdict__" : Str)) = false) (hz : Zc cls d oe) (hf : ∃ vs, oe.data = .fields vs) {j : Nat} {p4 : Pos} :
    PSs (X.suite a ((a, oe) :: pn)) [.Return (some (.Tuple [.Constant (.str z) j p4, .Attribute (.Name n p1) f p2] k p3)) pos] (cSu X.K xf (some i) (.pair z f) a cls d) := by
  refine ⟨fun pins s σ H De I ⟨C, l, dd, gs, fs, Z, F, en, v, ec, m, ed, hH, rf, si, sr, sv, q⟩ => ?_⟩
  obtain ⟨x1, x2⟩ := T.x _ m
  have hfl : f ∈ l := of_decide_eq_true (List.all_eq_true.mp (List.all_eq_true.mp rd _ m) f List.mem_cons_self)
  have he : PE (X.suite a ((a, oe) :: pn)) (.Name n p1) (tVar i) := pe_var hi hv hd hcd
  refine (pss_cons (ps_ret (pe_tup (pa_cons pe_str (pa_cons (pe_xf x1 (x2 f hfl) hz hf he (no_base rfl)) pa_nil rfl) rfl))) pss_nil).run pins s σ H De I ?_
  cases e : fs.lookup f with
  | none =>
    have sv' : (fs.lookup f).map (fun d => Mn.D.tup [.str z, d]) = some v := sv
    rw [e] at sv'
    cases sv'
  | some w =>
    have sv' : (fs.lookup f).map (fun d => Mn.D.tup [.str z, d]) = some v := sv
    rw [e] at sv'
    cases sv'
    obtain ⟨u, h1, h2⟩ := rf.look e
    refine ⟨_, si i rfl, rfl, ec, dd, gs, u, ed, hH, h1, by show 2 ≤ sizeLine; decide, fun p hp => ?_⟩
    have fp := sr.ex.none hp
    exact q _ σ _ _ (sr.laid hp) (.up fp) (.tup upd_same (.cons (.str z) (.cons (h2.mono (.up fp)) .nil)))
theorem su_tag {z : Str} {oi : Option Nat} {j : Nat} {p4 : Pos} : PSs (X.suite a ((a, oe) :: pn)) [.Return (some (.Tuple [.Constant (.str z) j p4] k p3)) pos] (cSu X.K xf oi (.tag z) a cls d) := by
  refine ⟨fun pins s σ H De I ⟨C, l, dd, gs, fs, Z, F, en, v, ec, m, ed, hH, rf, si, sr, sv, q⟩ => ?_⟩
  refine (pss_cons (ps_ret (pe_tup (pa_cons pe_str pa_nil rfl))) pss_nil).run pins s σ H De I ?_
  cases sv
  refine ⟨by show 1 ≤ sizeLine; decide, fun p hp => ?_⟩
  have fp := sr.ex.none hp
  exact q _ σ _ _ (sr.laid hp) (.up fp) (.tup upd_same (.cons (.str z) .nil))
end
/-- the clauses of the text and of the term -/
inductive HdOk (X : Cx) (xf : List (Str × List Str)) : List ExceptHandler → List Hd → Prop
  | nil : HdOk X xf [] []
  | un {x : Str} {S : Str} {su : Su} {b0 : Stmt} {st : List Stmt} {np pos' : Pos} {hds : List ExceptHandler} {l : List Hd} (hc : Names X x (.ref (He.ga X.K S)))
      (hsu : ∀ (a : Addr) (oe : Obj) (cls : Value) (d : Option Addr) (pn : List (Addr × Obj)), Zc cls d oe → (∃ vs, oe.data = .fields vs) → PSs (X.suite a ((a, oe) :: pn)) (b0 :: st) (cSu X.K xf none su a cls d)) (r : HdOk X xf hds l) :
      HdOk X xf (.ExceptHandler (some (.Name x np)) none (b0 :: st) pos' :: hds) ((S, none, su) :: l)
  | nm {x n : Str} {i : Nat} {S : Str} {su : Su} {b0 : Stmt} {st : List Stmt} {np pos' : Pos} {hds : List ExceptHandler} {l : List Hd} (hc : Names X x (.ref (He.ga X.K S))) (hi : X.N[i]? = some n) (hln : X.env.kindOf n = some .local)
      (hsu : ∀ (a : Addr) (oe : Obj) (cls : Value) (d : Option Addr) (pn : List (Addr × Obj)), Zc cls d oe → (∃ vs, oe.data = .fields vs) → PSs (X.suite a ((a, oe) :: pn)) (b0 :: st) (cSu X.K xf (some i) su a cls d)) (r : HdOk X xf hds l) :
      HdOk X xf (.ExceptHandler (some (.Name x np)) (some n) (b0 :: st) pos' :: hds) ((S, some i, su) :: l)
def clOf (K : Fg) (xf : List (Str × List Str)) (h : Hd) : Clause := (.ref (He.ga K h.1), h.2.1, cSu K xf h.2.1 h.2.2)
theorem HdOk.cl {X : Cx} {xf : List (Str × List Str)} {hds : List ExceptHandler} {l : List Hd} (h : HdOk X xf hds l) : ClOk X hds (l.map (clOf X.K xf)) := by
  induction h with
  | nil => exact .nil
  | un hc hsu r ih => exact .un hc hsu ih
  | nm hc hi hln hsu r ih => exact .nm hc hi hln hsu ih
section
variable {K : Fg} {W : WX} {Z : Zr} {tab : ExTab} {xf : List (Str × List Str)}
theorem hands_ok (T : ExOk K tab xf) {De : Ends} : ∀ {hs : List Hd} {C : Str} {fs : List (Str × Mn.D)} {en : En} {F H : Hp} {σ : L2.St} {dd : Addr} {gs : List (Str × V)}, SR K Z F H en σ → H dd = some (.xd gs) → RepF K F gs fs → SQ K W Z F De (sHands tab xf hs C fs en) →
    wM K W De (hs.map (clOf K xf)) (.ref (He.ga K C)) (some dd) σ H
  | [], C, fs, en, F, H, σ, dd, gs, sr, hd, rf, q => q dd gs σ F H sr .rfl hd rf
  | (S, oi, su) :: r, C, fs, en, F, H, σ, dd, gs, sr, hd, rf, q => by
    unfold sHands at q
    cases e : exLook tab C S with
    | none => rw [e] at q; exact q.elim
    | some b =>
      rw [e] at q
      have m := exLook_of e
      obtain ⟨t1, l, t2⟩ := T.t _ m
      refine ⟨b, t1, fun eb a ha => ?_, fun eb => ?_⟩
      · subst eb
        dsimp only at q
        cases e2 : unset en oi with
        | none => rw [e2] at q; exact q.elim
        | some en' =>
          rw [e2] at q
          dsimp only at q
          cases e3 : su.val fs with
          | none => rw [e3] at q; exact q.elim
          | some v =>
            rw [e3] at q
            cases oi with
            | none =>
              cases e2
              exact ⟨C, l, dd, gs, fs, Z, F, en, v, rfl, t2, rfl, hd, rf, fun i z => (by cases z), sr, e3, fun u σ' F' H' s f ru => q u σ' F' H' s f ru⟩
            | some i =>
              have e2' : (if (lent en i || decide (en.length ≤ i)) = true then none else some (en.set i .un)) = some en' := e2
              by_cases l2 : (lent en i || decide (en.length ≤ i)) = true
              · rw [if_pos l2] at e2'
                cases e2'
              · rw [if_neg l2] at e2'
                cases e2'
                rw [Bool.not_eq_true, Bool.or_eq_false_iff, decide_eq_false_iff_not] at l2
                refine ⟨C, l, dd, gs, fs, Z, F, en.set i .un, v, rfl, t2, rfl, hd, rf, fun i' z => ?_, sr.setUn (not_lent l2.1), e3, fun u σ' F' H' s f ru => q u σ' F' H' s f ru⟩
                cases z
                have len := sr.len
                exact List.getElem?_set_self (by omega)
      · subst eb
        exact hands_ok T sr hd rf q
end
section
variable {X : Cx} {W : WX} {tab : ExTab} {xf : List (Str × List Str)} {body : List Stmt} {h0 : ExceptHandler} {hds : List ExceptHandler} {pos : Pos}
theorem es_try {b : Fs} {l : List Hd} (T : ExOk X.K tab xf) (hs : X.stack = X.env :: X.outer) (hf : X.env.frame = some X.env.locals) (hN : X.N.Nodup) (tk : Takes X W)
    (hb : ∀ (W' : WX) (pn : List (Addr × Obj)) (xe : Value → Shared → Prop), Takes (X.tr pn xe) W' → PassesOwn (model X.prog X.w) X.A X.env xe → ESs (X.tr pn xe) W' b body)
    (hh : HdOk X xf (h0 :: hds) l) : ES X W (sTry tab xf b l) (.Try body (h0 :: hds) [] [] pos) := by
  refine (ps_tryM (tb := fun W' => cS X.K W' b) hs hf hN tk hb hh.cl).weak fun De σ H ⟨Z, F, en, sr, q⟩ => ⟨Z, F, en, sr, ?_⟩
  unfold sTry at q
  cases r : b en with
  | ex C fs e =>
    rw [r] at q
    exact fun d gs σ' F' H' s f hd rf => hands_ok T s hd rf (SQ.from f q)
  | nx e => rw [r] at q; exact q
  | bk e => rw [r] at q; exact q
  | ct e => rw [r] at q; exact q
  | rt v e => rw [r] at q; exact q
  | bad => rw [r] at q; exact q
end
end Mn
set_option Elab.async false
set_option linter.all false
set_option maxRecDepth 100000
set_option maxHeartbeats 1000000
namespace Mn
open PySem PySem.Spec L2
def cI (K : Fg) (W : WX) (m : Fx (List D)) : TI := fun σ H R => ∃ Z F en, SR K Z F H en σ ∧ RP K W Z F σ (m en) fun ds en' F' H' => ∀ J, Gw K F' ds J → R J H'
theorem EI.pi {X : Cx} {W : WX} {m : Fx (List D)} {tg iter : Expr} (h : EI X W m tg iter) : PI X tg iter (cI X.K W m) := by
  obtain ⟨wi, h1, h2⟩ := h
  exact ⟨fun pins s σ H R I q => h1.run pins s σ H R I (h2 σ H R q)⟩
theorem PI.ei {X : Cx} {W : WX} {m : Fx (List D)} {tg iter : Expr} (h : PI X tg iter (cI X.K W m)) : EI X W m tg iter := ⟨_, h, fun _ _ _ q => q⟩
def lcL2 (t : Tg) (tt : Fx Bool) (m1 : Fx (List D)) (t1 : Tg) (tt1 : Fx Bool) (te : Fx D) (vs vs1 : List Nat) : List D → List D → En → Res (List D)
  | [], acc, en => .ok acc en
  | d :: ds, acc, en => match bindT t d (wipeEn en vs) with
    | none => .bad
    | some e => match tt e with
      | .ok true e => match m1 e with
        | .ok ds1 e => if (noneLent e vs1 && decide (acc.length + ds1.length < lim)) = true then match lcL t1 tt1 te vs1 ds1 acc e with
            | .ok acc' e' => lcL2 t tt m1 t1 tt1 te vs vs1 ds acc' (wipeEn e' vs1)
            | _ => .bad
          else .bad
        | _ => .bad
      | .ok false e => lcL2 t tt m1 t1 tt1 te vs vs1 ds acc e
      | _ => .bad
def mLc2 (vs vs1 : List Nat) (t : Tg) (m : Fx (List D)) (tt : Fx Bool) (t1 : Tg) (m1 : Fx (List D)) (tt1 : Fx Bool) (te : Fx D) : Fx Slot := m.bind fun ds en =>
  if noneLent en vs = true then match lcL2 t tt m1 t1 tt1 te vs vs1 ds [] en with
    | .ok acc e => .ok (.own false (.lst acc)) (restore en vs (wipeEn e vs))
    | _ => .bad
  else .bad
theorem wipe_wipe {σ : L2.St} {vs vs1 : List Nat} (h : ∀ i ∈ vs1, i ∈ vs) : wipe (wipe σ vs1) vs = wipe σ vs := by
  refine wipe_same (wipe_length σ vs1) fun j hj => ?_
  exact wipe_out fun m => hj (h j m)
theorem RP.okOnly {α : Type} {K : Fg} {Z : Zr} {F : Hp} {σ : L2.St} {r : Res α} {P : α → En → Hp → Hp → Prop} {a : α} {e : En} (h : r = .ok a e) (q : ∀ F' H', SR K Z F' H' e σ → Sub F F' → P a e F' H') : RP K W0 Z F σ r P := by
  subst h
  exact q
section
variable {X : Cx} {W : WX} {tg iter tg1 iter1 elt : Expr} {ifs ifs1 : List Expr} {scope : Scope} {own : List (Str × Nat)} {vs1 : List Nat} {pos : Pos}
theorem lc2_of {t t1 : Tg} {m m1 : Fx (List D)} {tt tt1 : Fx Bool} {te : Fx D} {vs : List Nat} (hts : ∀ j ∈ slotsT t, j ∈ vs) (hts1 : ∀ j ∈ slotsT t1, j ∈ vs1) (hsub : ∀ j ∈ vs1, j ∈ vs) :
    ∀ σ H Q, cR X.K W (mLc2 vs vs1 t m tt t1 m1 tt1 te) σ H Q → tLc2 (cI X.K W m) (cG X.K t) (cT X.K W0 tt) (cI X.K W0 m1) (cG X.K t1) (cT X.K W0 tt1) (cV X.K W0 te) vs vs1 σ H Q := fun σ H Q ⟨Z, F, en, sr, q⟩ => by
  refine ⟨Z, F, en, sr, (RP.split q).mono fun ds e1 F1 H1 sr1 f1 p J gw => ?_⟩
  intro Dl hD
  by_cases c : noneLent e1 vs = true
  · rw [if_pos c] at p
    have nl := noLent sr1 c
    cases r : lcL2 t tt m1 t1 tt1 te vs vs1 ds [] e1 with
    | exn C fs e => rw [r] at p; exact p.elim
    | bad => rw [r] at p; exact p.elim
    | ok accf ef =>
      rw [r] at p
      have rv := RV.new (d := .lst []) (o := .lst []) sr1 hD ⟨[], upd_same, .nil⟩
      obtain ⟨a0, ea, x1, x2, x3, x4, nt⟩ := id rv
      cases ea
      have s0 : SR X.K (Z.acc [] Dl) F1 (upd H1 Dl (.lst [])) e1 σ := (sr1.fresh hD).hang rv
      refine ⟨fun i n H => n = ds.length - i ∧ i ≤ ds.length ∧ ∃ F2 e2 acc, Sub F1 F2 ∧ SR X.K (Z.acc acc Dl) F2 H (wipeEn e2 vs) (wipe σ vs) ∧ lcL2 t tt m1 t1 tt1 te vs vs1 (ds.drop i) acc e2 = .ok accf ef, ⟨ds.length, by simp, Nat.zero_le _, F1, e1, [], .rfl, s0.wipe nl, r⟩, ?_⟩
      rintro i n H ⟨rfl, hi, F2, e2, acc, f2, s2, r2⟩
      by_cases hlt : i < ds.length
      · obtain ⟨d, hd, ed⟩ := drop_step hlt
        rw [ed] at r2
        refine .inr ⟨gw.go i H hlt (f2.tr s2.ex), fun H3 => ∃ F3 e3 acc, Sub F1 F3 ∧ SR X.K (Z.acc acc Dl) F3 H3 (wipeEn e3 vs) (wipe σ vs) ∧ lcL2 t tt m1 t1 tt1 te vs vs1 (ds.drop (i + 1)) acc e3 = .ok accf ef,
          fun H3 h => ⟨ds.length - (i + 1), by omega, rfl, hlt, h⟩, fun x H3 y => ?_⟩
        obtain ⟨F3, f3, s3, rx⟩ := gw.yld i H x H3 d hd (f2.tr s2.ex) y _ F2 _ _ s2 f2
        refine ⟨_, F3, _, d, s3, rx, ?_⟩
        unfold lcL2 at r2
        cases hb : bindT t d (wipeEn e2 vs) with
        | none => rw [hb] at r2; cases r2
        | some e4 =>
          rw [hb] at r2
          dsimp only at r2
          intro σ4 s4 k4
          have len4 : σ4.length = (wipe σ vs).length := s4.ln.trans s3.ln.symm
          have ws : wipe σ4 vs = wipe σ vs := by
            rw [wipe_same (τ := σ4) (σ := wipe σ vs) len4 fun j hj => k4 j fun m => hj (hts j m)]
            exact wipe_wipe fun _ h => h
          refine ⟨ws, ?_⟩
          have wlen : ∀ {e : En}, SR X.K (Z.acc acc Dl) F3 H3 e σ4 → True := fun _ => trivial
          cases ht : tt e4 with
          | exn C fs e => rw [ht] at r2; cases r2
          | bad => rw [ht] at r2; cases r2
          | ok b e5 =>
            rw [ht] at r2
            refine ⟨_, F3, e4, s4, RP.okOnly ht fun F5 H5 s5 f5 => ?_⟩
            cases b with
            | false =>
              dsimp only at r2
              rw [if_neg (by decide)]
              refine ⟨F5, e5, acc, (f2.tr f3).tr f5, ?_, r2⟩
              have z := s5.wipe (vs := vs) fun p hp => nl p hp
              rw [ws] at z
              exact z
            | true =>
              dsimp only at r2
              rw [if_pos rfl]
              cases h1 : m1 e5 with
              | exn C fs e => rw [h1] at r2; cases r2
              | bad => rw [h1] at r2; cases r2
              | ok ds1 e6 =>
                rw [h1] at r2
                dsimp only at r2
                refine ⟨_, F5, e5, s5, RP.okOnly h1 fun F6 H6 s6 f6 J1 gw1 => ?_⟩
                by_cases c2 : (noneLent e6 vs1 && decide (acc.length + ds1.length < lim)) = true
                · rw [if_pos c2] at r2
                  rw [Bool.and_eq_true, decide_eq_true_eq] at c2
                  cases r3 : lcL t1 tt1 te vs1 ds1 acc e6 with
                  | exn C fs e => rw [r3] at r2; cases r2
                  | bad => rw [r3] at r2; cases r2
                  | ok acc2 e7 =>
                    rw [r3] at r2
                    dsimp only at r2
                    have nl1 : ∀ p ∈ Z.P, p.1 ∉ vs1 := fun p hp m => nl p hp (hsub _ m)
                    refine lc_loop gw1 nl1 nt hts1 (s6.wipe nl1) c2.2 r3 fun F8 H8 f8 s8 => ?_
                    refine ⟨F8, wipeEn e7 vs1, acc2, (((f2.tr f3).tr f5).tr f6).tr f8, ?_, r2⟩
                    have z := s8.wipe (vs := vs) fun p hp => nl p hp
                    rw [wipe_wipe hsub, ws] at z
                    exact z
                · rw [if_neg c2] at r2
                  cases r2
      · have e : i = ds.length := by omega
        subst e
        rw [List.drop_length] at r2
        cases r2
        refine .inl ⟨gw.stop H (f2.tr s2.ex), ?_⟩
        have s4 : SR X.K (Z.acc accf Dl) F2 H (restore e1 vs (wipeEn ef vs)) σ := s2.unwipe.restore nl fun v d q => by
          obtain ⟨x, h1, h2⟩ := sr1.valAt q
          exact ⟨x, h1, h2.mono f2⟩
        obtain ⟨x1, x2, x3⟩ := s4.t1 (.lst accf, Dl) List.mem_cons_self
        exact p F2 H s4.drop f2 _ ⟨Dl, rfl, x1, x2, x3, s4.t2 (.lst accf, Dl) List.mem_cons_self, nt⟩
  · rw [if_neg c] at p
    exact p.elim
theorem er_lc2 {t t1 : Tg} {m m1 : Fx (List D)} {tt tt1 : Fx Bool} {te : Fx D} (hc : X.calm = true) (hN : X.N.Nodup) (hi : EI X W m tg iter) (ok : BlkOk X.N X.env.scope scope own) (hts : ∀ j ∈ slotsT t, j ∈ own.map (·.2)) (hts1 : ∀ j ∈ slotsT t1, j ∈ vs1) (hsub : ∀ j ∈ vs1, j ∈ own.map (·.2))
    (hg : ∀ (s : Shared) (H : Hp) (C : Addr) (cl : List (Str × Addr)) (fp : List Addr), PG (X.blk s H scope (compEnvC scope cl C X.env) fp) tg (cG X.K t))
    (ht : ∀ (s : Shared) (H : Hp) (C : Addr) (cl : List (Str × Addr)) (fp : List Addr), PTs (X.blk s H scope (compEnvC scope cl C X.env) fp) ifs (cT X.K W0 tt))
    (hi1 : ∀ (s : Shared) (H : Hp) (C : Addr) (cl : List (Str × Addr)) (fp : List Addr), EI (X.blk s H scope (compEnvC scope cl C X.env) fp) W0 m1 tg1 iter1)
    (hg1 : ∀ (s : Shared) (H : Hp) (C : Addr) (cl : List (Str × Addr)) (fp : List Addr), PG (X.blk s H scope (compEnvC scope cl C X.env) fp) tg1 (cG X.K t1))
    (ht1 : ∀ (s : Shared) (H : Hp) (C : Addr) (cl : List (Str × Addr)) (fp : List Addr), PTs (X.blk s H scope (compEnvC scope cl C X.env) fp) ifs1 (cT X.K W0 tt1))
    (he : ∀ (s : Shared) (H : Hp) (C : Addr) (cl : List (Str × Addr)) (fp : List Addr), EV (X.blk s H scope (compEnvC scope cl C X.env) fp) W0 te elt) (ns : notSet iter = true) (ns1 : notSet iter1 = true) :
    ER X W (mLc2 (own.map (·.2)) vs1 t m tt t1 m1 tt1 te) (.ListComp elt [⟨tg, iter, ifs, 0⟩, ⟨tg1, iter1, ifs1, 0⟩] scope pos) :=
  (pe_lc2 hc hN hi.pi ok hsub hg ht (fun s H C cl fp => (hi1 s H C cl fp).pi) hg1 ht1 he (no_set ns) (fun _ => no_set ns1)).weak (lc2_of hts hts1 hsub)
theorem es_setLc2 {t t1 : Tg} {m m1 : Fx (List D)} {tt tt1 : Fx Bool} {te : Fx D} {i : Nat} {y : Str} {py spos : Pos} (hc : X.calm = true) (hN : X.N.Nodup) (hy : X.N[i]? = some y) (hyl : X.env.scope.names.lookup y = some .local)
    (hsw : swapsWith (.ListComp elt [⟨tg, iter, ifs, 0⟩, ⟨tg1, iter1, ifs1, 0⟩] scope pos) (some (.Name y py)) spos.line X.env = pure true) (hi : EI X W m tg iter) (ok : BlkOk X.N X.env.scope scope own) (hts : ∀ j ∈ slotsT t, j ∈ own.map (·.2)) (hts1 : ∀ j ∈ slotsT t1, j ∈ vs1) (hsub : ∀ j ∈ vs1, j ∈ own.map (·.2))
    (hg : ∀ (s : Shared) (H : Hp) (C : Addr) (cl : List (Str × Addr)) (fp : List Addr), PG (X.blk s H scope (compEnvC scope cl C X.env) fp) tg (cG X.K t))
    (ht : ∀ (s : Shared) (H : Hp) (C : Addr) (cl : List (Str × Addr)) (fp : List Addr), PTs (X.blk s H scope (compEnvC scope cl C X.env) fp) ifs (cT X.K W0 tt))
    (hi1 : ∀ (s : Shared) (H : Hp) (C : Addr) (cl : List (Str × Addr)) (fp : List Addr), EI (X.blk s H scope (compEnvC scope cl C X.env) fp) W0 m1 tg1 iter1)
    (hg1 : ∀ (s : Shared) (H : Hp) (C : Addr) (cl : List (Str × Addr)) (fp : List Addr), PG (X.blk s H scope (compEnvC scope cl C X.env) fp) tg1 (cG X.K t1))
    (ht1 : ∀ (s : Shared) (H : Hp) (C : Addr) (cl : List (Str × Addr)) (fp : List Addr), PTs (X.blk s H scope (compEnvC scope cl C X.env) fp) ifs1 (cT X.K W0 tt1))
    (he : ∀ (s : Shared) (H : Hp) (C : Addr) (cl : List (Str × Addr)) (fp : List Addr), EV (X.blk s H scope (compEnvC scope cl C X.env) fp) W0 te elt) (ns : notSet iter = true) (ns1 : notSet iter1 = true) :
    ES X W (sSet i (mLc2 (own.map (·.2)) vs1 t m tt t1 m1 tt1 te)) (.Assign [.Name y py] (.ListComp elt [⟨tg, iter, ifs, 0⟩, ⟨tg1, iter1, ifs1, 0⟩] scope pos) spos) := by
  refine (ps_setLc2 hc hN hy hyl hsw hi.pi ok hsub hg ht (fun s H C cl fp => (hi1 s H C cl fp).pi) hg1 ht1 he (no_set ns) (fun _ => no_set ns1)).weak fun D σ H ⟨Z, F, en, sr, q⟩ => lc2_of hts hts1 hsub σ H _ ⟨Z, F, en, sr, (SQ.of q).mono fun r e1 F1 H1 sr1 f1 ⟨s, f, p⟩ v rv => ?_⟩
  cases l : lent e1 i with
  | true =>
    rw [l] at p
    exact p.elim
  | false =>
    rw [l] at p
    exact p (σ.set i (some v)) F1 H1 (sr1.store l rv) .rfl
end
end Mn
set_option Elab.async false
set_option linter.all false
set_option maxRecDepth 100000
set_option maxHeartbeats 1000000
namespace Mn
open PySem PySem.Spec L2
theorem make_guards {A : Around} {C : Addr} {us : List Value} {kw : List (Str × Value)} : (A.under (.builtin "type.__call__" ⟨.ref C :: us, kw⟩)).guards = A.guards := by
  first | rfl | simp [Around.under, Code.weight, Code.isCreation, Code.isGuard, Code.isCaller, Code.frames, Code.isFrame, guardIds]
theorem RoomG.make {k : Nat} {A : Around} (r : RoomG (k + 1) A) (C : Addr) (us : List Value) (kw : List (Str × Value)) : RoomG k (A.under (.builtin "type.__call__" ⟨.ref C :: us, kw⟩)) := ⟨r.r.make C us kw, make_guards.trans r.g⟩
section
variable {K : Fg} {Z : Zr} {F H : Hp} {en : En} {σ : L2.St}
/-- a new object and values as arguments -/
theorem new_args {C : Str} {x dx : Addr} {vs : List V} {ds : List D} (ex : Sub F H) (hx : H x = none) (hd : H dx = none) (ne : dx ≠ x) (r : Reps K F vs ds) :
    SR K ⟨upd (upd H dx (.own x)) x (.ins (He.ga K C) dx []), F, [(0, x)], [], (V.ref x :: vs).length⟩ F (upd (upd H dx (.own x)) x (.ins (He.ga K C) dx [])) (.own true (.ins C []) :: ds.map .val) ((V.ref x :: vs).map some) := by
  have fx := ex.none hx
  have tl : ∀ {i : Nat} {b : Bool} {d : D}, (Slot.own true (.ins C []) :: ds.map Slot.val)[i]? = some (.own b d) → i = 0 ∧ b = true ∧ d = .ins C [] := fun {i b d} h => by
    cases i with
    | zero => simp at h; exact ⟨rfl, h.1, h.2.symm⟩
    | succ i =>
      rw [List.getElem?_cons_succ] at h
      exact (val_of_map h).elim
  exact {
    ex := fun a o e => by
      have h1 := ex a o e
      have n1 : a ≠ x := fun z => by rw [z, hx] at h1; cases h1
      have n2 : a ≠ dx := fun z => by rw [z, hd] at h1; cases h1
      rw [upd_ne n1, upd_ne n2]
      exact h1
    len := by simp [r.length]
    ln := by simp
    rel := fun i s ov e1 e2 => by
      cases i with
      | zero =>
        simp at e1 e2
        subst e1 e2
        exact ⟨x, rfl, fx, dx, [], upd_same, .nil⟩
      | succ i =>
        rw [List.getElem?_cons_succ] at e1
        rw [List.map_cons, List.getElem?_cons_succ] at e2
        exact r.slot i s ov e1 e2
    dist := fun i j a b c d e e1 e2 _ _ => (tl e1).1.trans (tl e2).1.symm
    k1 := fun _ _ e _ => e
    k2 := fun _ _ => rfl
    k3 := .rfl
    k4 := fun i d a e1 _ => by
      have z := (tl e1).2.1
      cases z
    k5 := fun p hp => by
      rw [List.mem_singleton] at hp
      subst hp
      exact ⟨rfl, _, rfl⟩
    k6 := fun i d a e1 e2 => by
      have z := (tl e1).1
      subst z
      simp at e2
      subst e2
      exact List.mem_singleton.mpr rfl
    t1 := fun p hp => by cases hp
    t2 := fun p hp => by cases hp }
/-- behind the making -/
theorem SR.made (h : SR K Z F H en σ) {F' H' : Hp} {C : Str} {x dx : Addr} {n : Nat} {as' : En} {τ : L2.St} (hx : H x = none) (hd : H dx = none) (ne : dx ≠ x)
    (c : SR K ⟨upd (upd H dx (.own x)) x (.ins (He.ga K C) dx []), F, [(0, x)], [], n⟩ F' H' as' τ) : SR K Z F' H' en σ := by
  have up : ∀ a, H a ≠ none → a ≠ x ∧ upd (upd H dx (.own x)) x (.ins (He.ga K C) dx []) a = H a := fun a q => by
    have n1 : a ≠ x := fun z => q (by rw [z]; exact hx)
    have n2 : a ≠ dx := fun z => q (by rw [z]; exact hd)
    exact ⟨n1, by rw [upd_ne n1, upd_ne n2]⟩
  refine h.grow c.k3 c.ex (fun a o e => ?_) fun a q => ?_
  · obtain ⟨n1, e2⟩ := up a (by rw [e]; exact Option.some_ne_none o)
    exact c.k1 a o (e2.trans e) (by simpa using n1)
  · obtain ⟨_, e2⟩ := up a q
    refine c.k2 a ?_
    show upd (upd H dx (.own x)) x (.ins (He.ga K C) dx []) a ≠ none
    rw [e2]
    exact q
end
/-- C(values) -/
def makeE (C : Str) (m : Sem) (ds : List D) : Fx Slot := fun en => match m (.own true (.ins C []) :: ds.map .val) with
  | .ok (.val .non) (.own true d :: _) => .ok (.own false d) en
  | .exn E fs _ => .exn E fs en
  | _ => .bad
def mMake (C : Str) (m : Sem) (ms ks : List (Fx D)) : Fx Slot := (mVs ms).bind fun xs => (mVs ks).bind fun ys => makeE C m (xs ++ ys)
section
variable {X : Cx} {W : WX} {k : Nat} {f : Addr} {fd : FuncData} {ps : List Str} {m : Sem} {C : Str} {x : Str} {p pos : Pos} {e : Expr} {es : List Expr} {ms ks : List (Fx D)} {kws : List Keyword} {kn : List Str}
theorem run_new {pins : List (Addr × Obj)} {Z : Zr} {F : Hp} {en : En} {σ : L2.St} {H : Hp} {s : Shared} {Q : VK} {us ws : List Value} {vs zs : List V} {ds : List D} {n : Nat} (M : Mk X.K (He.ga X.K C) f) (G : FnG X.prog X.w X.K X.mg X.base k f fd ps m) (hr : RoomG (k + 1) X.A) (tk : Takes X W)
    (hb : BindsK X.K fd ps (n + 1) kn) (hn : n + 1 + kn.length = ps.length) (I : Inv X pins σ H s) (r : Vals vs us) (rz : Vals zs ws) (l1 : vs.length = n) (l2 : zs.length = kn.length) (sr : SR X.K Z F H en σ) (rd : Reps X.K F (vs ++ zs) ds)
    (q : RP X.K W Z F σ (makeE C m ds en) fun s en' F' H' => ∀ v, RV X.K Z F' H' en' σ s v → Q v H') : wpAny (model X.prog X.w) X.A (call (.ref (He.ga X.K C)) us (kn.zip ws)) (EP X pins σ Q) X.xe s := by
  have hx : H (s.heap.objs.size + 1) = none := I.hok.fresh (Nat.le_succ _)
  have hd : H s.heap.objs.size = none := I.hok.fresh (Nat.le_refl _)
  have ne : s.heap.objs.size ≠ s.heap.objs.size + 1 := Nat.ne_of_lt (Nat.lt_succ_self _)
  have I2 := Inv.made (C := He.ga X.K C) I
  have r2 : Vals (V.ref (s.heap.objs.size + 1) :: (vs ++ zs)) (Value.ref (s.heap.objs.size + 1) :: (us ++ ws)) := .cons rfl (r.append rz)
  have la := new_args (C := C) sr.ex hx hd ne rd
  have hsp : spOf X.K m (V.ref (s.heap.objs.size + 1) :: (vs ++ zs)) (upd (upd H s.heap.objs.size (.own (s.heap.objs.size + 1))) (s.heap.objs.size + 1) (.ins (He.ga X.K C) s.heap.objs.size [])) (fun v H2 => v = .non ∧ Q (.ref (s.heap.objs.size + 1)) H2) fun cls d H' => W cls d σ H' := by
    refine ⟨_, F, _, rfl, rfl, la, ?_⟩
    unfold makeE at q
    cases c : m (.own true (.ins C []) :: ds.map .val) with
    | bad => rw [c] at q; exact q.elim
    | exn E fs as' =>
      rw [c] at q
      exact fun d gs F' H' s2 hdd rf => q d gs F' H' (sr.made hx hd ne s2) s2.k3 hdd rf
    | ok a as' =>
      rw [c] at q
      cases a with
      | un => exact q.elim
      | own b d => exact q.elim
      | val d =>
        cases d with
        | non =>
          cases as' with
          | nil => exact q.elim
          | cons a0 ar =>
            cases a0 with
            | un => exact q.elim
            | val d => exact q.elim
            | own b d =>
              cases b with
              | false => exact q.elim
              | true =>
                intro v F' H' s2 av
                have av' : Rep X.K F' v .non := av
                cases av'
                refine ⟨rfl, ?_⟩
                have sr2 := sr.made hx hd ne s2
                obtain ⟨a, e1, fa, cl⟩ := s2.ownAt (i := 0) rfl
                have ea : s.heap.objs.size + 1 = a := by
                  have z : some (some (V.ref (s.heap.objs.size + 1))) = some (some (V.ref a)) := e1
                  cases z
                  rfl
                subst ea
                exact q F' H' sr2 s2.k3 _ ⟨_, rfl, fa, cl, sr.new hx, fun j b e h1 h2 => sr.ownNe h1 h2 hx, fun p hp z => sr.tmpNe hp (by rw [z]; exact hx)⟩
        | _ => exact q.elim
  have l3 : (V.ref (s.heap.objs.size + 1) :: (vs ++ zs)).length = ps.length := by
    rw [List.length_cons, List.length_append, l1, l2, ← hn]
    omega
  refine wpAny_call (make_map (f := f) I.kIn M.makes M.init (beq_iff_eq.mp M.fn) (codeAny_mono (G.run _ X.stack _ _ ⟨Value.ref (s.heap.objs.size + 1) :: us, kn.zip ws⟩ (Value.ref (s.heap.objs.size + 1) :: (us ++ ws)) _ _ (fun cls d H' => W cls d σ H') (hr.make _ us (kn.zip ws))
    (I2.env0.make _ us _) (hb _ (Value.ref (s.heap.objs.size + 1) :: us) ws I2.kIn (by rw [List.length_cons, ← r.length, l1]) (rz.length.symm.trans l2)) r2 l3 hsp) fun r s' hq' => ?_))
  cases r with
  | error e => exact passAt tk σ pins _ _ e s' I2 hq'
  | ok fl =>
    cases fl with
    | ret u =>
      obtain ⟨v, H', I3, rv, ev, q3⟩ := I2.after hq'
      subst ev
      exact ⟨rv, ⟨V.ref (s.heap.objs.size + 1), H', I3, rfl, q3⟩⟩
    | next => exact False.elim hq'
    | brk => exact False.elim hq'
    | cont => exact False.elim hq'
theorem pkv_nil : PK X [] (cVs X.K W (mVs [])) := ⟨fun pos pins s σ H Q I ⟨Z, F, en, sr, q⟩ => wpAny_evalAll_nil ⟨[], H, I, .nil, q F H sr .rfl [] .nil⟩⟩
theorem pkv_cons {nm : Option Str} {kp : Pos} {mo : Fx D} (he : EV X W mo e) (hr : PK X kws (cVs X.K W (mVs ks))) : PK X (⟨nm, e, kp⟩ :: kws) (cVs X.K W (mVs (mo :: ks))) := by
  refine ⟨fun pos pins s σ H Q I ⟨Z, F, en, sr, q⟩ => (pk_cons he hr).run pos pins s σ H Q I ⟨Z, F, en, sr, (RP.split q).mono fun o e1 F1 H1 sr1 f1 p v ov => ?_⟩⟩
  refine ⟨Z, F1, e1, sr1, (RP.split p).mono fun xs e2 F2 H2 sr2 f2 p2 vs ovs => ?_⟩
  exact p2 F2 H2 sr2 .rfl (v :: vs) (.cons (ov.mono f2) ovs)
theorem mVs_len : ∀ {ms : List (Fx D)} {en : En} {os : List D} {e1 : En}, mVs ms en = .ok os e1 → os.length = ms.length
  | [], en, os, e1, h => by cases h; rfl
  | m :: r, en, os, e1, h => by
    unfold mVs Fx.bind at h
    cases q : m en with
    | ok a e2 =>
      rw [q] at h
      dsimp only at h
      cases q2 : mVs r e2 with
      | ok as e3 =>
        rw [q2] at h
        cases h
        exact congrArg (· + 1) (mVs_len q2)
      | exn C fs e3 => rw [q2] at h; cases h
      | bad => rw [q2] at h; cases h
    | exn C fs e2 => rw [q] at h; cases h
    | bad => rw [q] at h; cases h
theorem RP.lenV {K : Fg} {Z : Zr} {F : Hp} {σ : L2.St} {ms : List (Fx D)} {en : En} {P : List D → En → Hp → Hp → Prop} (h : RP K W Z F σ (mVs ms en) P) : RP K W Z F σ (mVs ms en) fun os e F' H' => os.length = ms.length ∧ P os e F' H' := by
  cases e : mVs ms en with
  | ok os e1 =>
    rw [e] at h
    exact fun F' H' s f => ⟨mVs_len e, h F' H' s f⟩
  | exn C fs e1 => rw [e] at h; exact h
  | bad => rw [e] at h; exact h
theorem er_make {n : Nat} (M : Mk X.K (He.ga X.K C) f) (G : FnG X.prog X.w X.K X.mg X.base k f fd ps m) (hr : RoomG (k + 1) X.A) (hg : Gl X x) (hm : X.mg x = some (.ref (He.ga X.K C))) (hb : BindsK X.K fd ps (n + 1) kn) (hn : n + 1 + kn.length = ps.length) (tk : Takes X W)
    (ha : PA X (e :: es) (cVs X.K W (mVs ms))) (hms : ms.length = n) (hkw : PK X kws (cVs X.K W (mVs ks))) (hl : ks.length = kn.length) (gk : goodKw kws kn = true) (ns : (e :: es).all notStar = true) (hdb : (x == ("__debug__" : Str)) = false) : ER X W (mMake C m ms ks) (.Call (.Name x p) (e :: es) kws pos) := by
  obtain ⟨g1, g2, g3⟩ := kw_all (env := X.env) (pos := pos) (of_decide_eq_true gk)
  have ns' := ns
  rw [List.all_cons, Bool.and_eq_true] at ns'
  refine ⟨fun pins s σ H Q I ⟨Z, F, en, sr, q⟩ => ?_⟩
  refine wpAny_Call_Name_kw (ld_glob I hg hm ?_ hdb)
  refine PySem.W.callWith_KW (h₀ := X.base) I.ok.mod.kin M.kp g1 ?_ (by rw [g3, star_none ns]; rfl) (star_cons ns'.1)
  let P2 : List V → List V → Hp → Prop := fun vs zs H2 => vs.length = n ∧ zs.length = kn.length ∧ ∃ F2 e2 ds, SR X.K Z F2 H2 e2 σ ∧ Reps X.K F2 (vs ++ zs) ds ∧ RP X.K W Z F2 σ (makeE C m ds e2) fun s en' F' H' => ∀ v, RV X.K Z F' H' en' σ s v → Q v H'
  refine thn (ha.run pos pins s σ H (fun vs H1 => cVs X.K W (mVs ks) σ H1 fun zs H2 => P2 vs zs H2) I ⟨Z, F, en, sr, ?_⟩) fun us s1 ⟨vs, H1, I1, r, q1⟩ => ?_
  · refine (RP.lenV (RP.split q)).mono fun xs e1 F1 H1 sr1 f1 ⟨lx, p⟩ vs rv => ?_
    refine ⟨Z, F1, e1, sr1, (RP.lenV (RP.split p)).mono fun ys e2 F2 H2 sr2 f2 ⟨ly, p2⟩ zs rz => ?_⟩
    exact ⟨by rw [rv.length, lx, hms], by rw [rz.length, ly, hl], F2, e2, _, sr2, (rv.mono f2).app rz, p2⟩
  · refine thn (hkw.run pos pins s1 σ H1 _ I1 q1) fun ws s2 ⟨zs, H2, I2, rz, l1, l2, F2, e2, ds, sr2, rd, q2⟩ => ⟨I2.kIn, ?_⟩
    rw [g2]
    exact run_new M G hr tk hb hn I2 r rz l1 l2 sr2 rd q2
theorem er_make0 (M : Mk X.K (He.ga X.K C) f) (G : FnG X.prog X.w X.K X.mg X.base k f fd ps m) (hr : RoomG (k + 1) X.A) (hg : Gl X x) (hm : X.mg x = some (.ref (He.ga X.K C))) (hb : BindsK X.K fd ps 1 kn) (hn : 1 + kn.length = ps.length) (tk : Takes X W)
    (hkw : PK X kws (cVs X.K W (mVs ks))) (hl : ks.length = kn.length) (gk : goodKw kws kn = true) (hdb : (x == ("__debug__" : Str)) = false) : ER X W (mMake C m [] ks) (.Call (.Name x p) [] kws pos) := by
  obtain ⟨g1, g2, g3⟩ := kw_all (env := X.env) (pos := pos) (of_decide_eq_true gk)
  refine ⟨fun pins s σ H Q I ⟨Z, F, en, sr, q⟩ => ?_⟩
  refine wpAny_Call_Name_kw (ld_glob I hg hm ?_ hdb)
  refine PySem.W.callWith_KW0 (h₀ := X.base) I.ok.mod.kin M.kp g1 ?_ (by rw [g3]; rfl)
  let P2 : List V → Hp → Prop := fun zs H2 => zs.length = kn.length ∧ ∃ F2 e2 ds, SR X.K Z F2 H2 e2 σ ∧ Reps X.K F2 zs ds ∧ RP X.K W Z F2 σ (makeE C m ds e2) fun s en' F' H' => ∀ v, RV X.K Z F' H' en' σ s v → Q v H'
  refine thn (hkw.run pos pins s σ H P2 I ⟨Z, F, en, sr, ?_⟩) fun ws s2 ⟨zs, H2, I2, rz, l2, F2, e2, ds, sr2, rd, q2⟩ => ⟨I2.kIn, ?_⟩
  · have q' : RP X.K W Z F σ (((mVs ks).bind fun ys => makeE C m ([] ++ ys)) en) fun s en' F' H' => ∀ v, RV X.K Z F' H' en' σ s v → Q v H' := q
    refine (RP.lenV (RP.split q')).mono fun ys e2 F2 H2 sr2 f2 ⟨ly, p2⟩ zs rz => ?_
    exact ⟨by rw [rz.length, ly, hl], F2, e2, _, sr2, rz, p2⟩
  · rw [g2]
    exact run_new (us := []) (vs := []) (n := 0) M G hr tk hb hn I2 .nil rz rfl l2 sr2 rd q2
end
end Mn
set_option Elab.async false
set_option linter.all false
set_option maxRecDepth 100000
set_option maxHeartbeats 1000000
namespace Mn
open PySem PySem.Spec L2
def putFD (f : Str) (d : D) : List (Str × D) → List (Str × D)
  | [] => [(f, d)]
  | (g, x) :: r => if g = f then (g, d) :: r else (g, x) :: putFD f d r
theorem RepF.put {K : Fg} {F : Hp} {f : Str} {v : V} {d : D} (r : Rep K F v d) : ∀ {gs : List (Str × V)} {fs : List (Str × D)}, RepF K F gs fs → RepF K F (putF f v gs) (putFD f d fs)
  | _, _, .nil => .cons r .nil
  | _, _, .cons (x := x) (v := w) (d := e) (gs := gs) (fs := fs) a q => by
    unfold putF putFD
    by_cases h : x = f
    · rw [if_pos h, if_pos h]
      exact .cons r q
    · rw [if_neg h, if_neg h]
      exact .cons a (RepF.put r q)
theorem RepF.length {K : Fg} {F : Hp} {gs : List (Str × V)} {fs : List (Str × D)} (h : RepF K F gs fs) : gs.length = fs.length := by
  induction gs generalizing fs with
  | nil => cases h; rfl
  | cons g gs ih =>
    cases h with
    | cons a r => exact congrArg (· + 1) (ih r)
/-- name.f = d -/
def sFldAt (cs : List (Str × List Str)) (i : Nat) (f : Str) (d : D) : Fs := fun en => match en[i]? with
  | some (.own b (.ins C fs)) => match cs.lookup C with
    | some l => if f ∈ l ∧ fs.length < 1000 then .nx (en.set i (.own b (.ins C (putFD f d fs)))) else .bad
    | none => .bad
  | _ => .bad
def sFlds (cs : List (Str × List Str)) : List (Nat × Str) → List D → Fs
  | [], [] => sSkip
  | (i, f) :: r, d :: ds => sSeq (sFldAt cs i f d) (sFlds cs r ds)
  | _, _ => fun _ => .bad
section
variable {X : Cx} {W : WX} {npos pos : Pos} {x f : Str} {cs : List (Str × List Str)}
theorem eg_fld {i : Nat} (hc : ClsOk X.K cs) (hx : PE X (.Name x npos) (tVar i)) : PG X (.Attribute (.Name x npos) f pos) (cPut X.K W (sFldAt cs i f)) := by
  refine ⟨fun pins s σ H v u Q I r ⟨Z, F, en, d, sr, rd, q⟩ => ?_⟩
  rw [assign_Attribute]
  unfold sFldAt at q
  cases e0 : en[i]? with
  | none => rw [e0] at q; exact q.elim
  | some s0 =>
    rw [e0] at q
    cases s0 with
    | un => exact q.elim
    | val d0 => exact q.elim
    | own b d0 =>
      cases d0 with
      | ins C fs =>
        dsimp only at q
        cases e1 : cs.lookup C with
        | none => rw [e1] at q; exact q.elim
        | some l =>
          rw [e1] at q
          dsimp only at q
          by_cases c : f ∈ l ∧ fs.length < 1000
          · rw [if_pos c] at q
            obtain ⟨a, h1, h2, dx, gs, h3, h4⟩ := sr.ownAt e0
            obtain ⟨c1, c2⟩ := hc C l e1
            refine wpAny_bind (wpAny_holding (thn (hx.run pins s σ H (fun y H1 => y = V.ref a ∧ H1 = H) I ⟨_, h1, rfl, rfl⟩) fun ov s1 ⟨y, H1, I1, ry, ey, eH⟩ => ?_))
            subst ey eH
            obtain rfl : ov = Value.ref a := ry
            refine wpAny_bind (wpAny_standAt (wpAny_bind (wpAny_holding (setattr_ok I1 h3 c1 (c2 f c.1) (by rw [h4.length]; exact c.2) r fun s2 I2 => wpAny_release ⟨σ, _, I2, ?_⟩))))
            exact q F _ (sr.put e0 h1 ⟨dx, _, upd_same, h4.put rd⟩) .rfl
          · rw [if_neg c] at q
            exact q.elim
      | _ => exact q.elim
theorem ef_nil : PGs X [] (cPuts X.K W (sFlds cs [])) := pgs_nil.weak fun vs σ H Q ⟨Z, F, en, ds, sr, r, q⟩ => by
  cases r with
  | nil => exact ⟨rfl, q F H sr .rfl⟩
  | cons a r => exact q.elim
theorem ef_cons {t : Expr} {ts : List Expr} {i : Nat} {r : List (Nat × Str)} (h : PG X t (cPut X.K W (sFldAt cs i f))) (k : PGs X ts (cPuts X.K W (sFlds cs r))) (ns : notStar t = true) : PGs X (t :: ts) (cPuts X.K W (sFlds cs ((i, f) :: r))) := by
  refine (pgs_cons h k (by rw [asg_cons ns]; rfl)).weak fun vs σ H Q ⟨Z, F, en, ds, sr, rr, q⟩ => ?_
  cases rr with
  | nil => exact q.elim
  | @cons v d vs ds a rr =>
    unfold sFlds sSeq at q
    refine ⟨v, vs, rfl, Z, F, en, d, sr, a, ?_⟩
    cases b : sFldAt cs i f d en with
    | nx e => rw [b] at q; exact fun F' H' s f' => ⟨Z, F', e, ds, s, rr.mono f', by
        dsimp only at q
        cases b2 : sFlds cs r ds e with
        | nx e2 => rw [b2] at q; exact fun F2 H2 s2 f2 => q F2 H2 s2 (f'.tr f2)
        | ex C fs e2 => rw [b2] at q; exact fun x gs F2 H2 s2 f2 hd rf => q x gs F2 H2 s2 (f'.tr f2) hd rf
        | bk e2 => rw [b2] at q; exact q.elim
        | ct e2 => rw [b2] at q; exact q.elim
        | rt v e2 => rw [b2] at q; exact q.elim
        | bad => rw [b2] at q; exact q.elim⟩
    | ex C fs e => rw [b] at q; exact fun x gs F' H' s f hd rf => q x gs F' H' s f hd rf
    | bk e => rw [b] at q; exact q.elim
    | ct e => rw [b] at q; exact q.elim
    | rt v e => rw [b] at q; exact q.elim
    | bad => rw [b] at q; exact q.elim
/-- name.f = e -/
def sFldSet (cs : List (Str × List Str)) (i : Nat) (f : Str) (mv : Fx D) : Fs := sOf mv fun d en => match sFldAt cs i f d en with
  | .nx e => .nx e
  | _ => .bad
theorem es_fld {i : Nat} {mv : Fx D} {e : Expr} {spos : Pos} (hc : ClsOk X.K cs) (hx : PE X (.Name x npos) (tVar i)) (he : EV X W mv e) (nc : notComp e = true) : ES X W (sFldSet cs i f mv) (.Assign [.Attribute (.Name x npos) f pos] e spos) := by
  have hw : swappedStores [.Attribute (.Name x npos) f pos] e X.env = pure none := rfl
  have hsw : swapsWithSole [.Attribute (.Name x npos) f pos] e spos.line X.env = pure false := no_swap (t := some (.Attribute (.Name x npos) f pos)) (l := spos.line) (env := X.env) nc
  refine (ps_asg he (eg_fld (W := W) hc hx) hsw hw (by rfl)).weak fun D σ H ⟨Z, F, en, sr, q⟩ => ⟨Z, F, en, sr, (SQ.of q).mono fun d e1 F1 H1 sr1 f1 ⟨s, f', p⟩ v rv => ?_⟩
  refine ⟨Z, F1, e1, d, sr1, rv, ?_⟩
  cases b : sFldAt cs i f d e1 with
  | nx e => rw [b] at p; exact fun F' H' s f => p σ F' H' s f
  | ex C fs e => rw [b] at p; exact p.elim
  | bk e => rw [b] at p; exact p.elim
  | ct e => rw [b] at p; exact p.elim
  | rt v e => rw [b] at p; exact p.elim
  | bad => rw [b] at p; exact p.elim
/-- a.f, b.g = v, w -/
def sFldSets (cs : List (Str × List Str)) (ps : List (Nat × Str)) (mv : Fx D) : Fs := sOf mv fun d en => match d with
  | .tup ds => if ds.length = ps.length then match sFlds cs ps ds en with
      | .nx e => .nx e
      | _ => .bad
    else .bad
  | _ => .bad
theorem es_flds {ps : List (Nat × Str)} {mv : Fx D} {e : Expr} {ts : List Expr} {k : Nat} {spos : Pos} (hc : X.calm = true) (hp : PGs X ts (cPuts X.K W (sFlds cs ps))) (he : EV X W mv e) (ns : ts.all notStar = true) (hl : ts.length = ps.length) (nc : notComp e = true)
    (hw : swappedStores [.Tuple ts k pos] e X.env = pure none) : ES X W (sFldSets cs ps mv) (.Assign [.Tuple ts k pos] e spos) := by
  obtain ⟨l1, l2⟩ := asg_len (env := X.env) ns
  have hsw : swapsWithSole [.Tuple ts k pos] e spos.line X.env = pure false := no_swap (t := some (.Tuple ts k pos)) (l := spos.line) (env := X.env) nc
  refine (ps_asg he (pg_tup hc hp l1 l2) hsw hw (by rfl)).weak fun D σ H ⟨Z, F, en, sr, q⟩ => ⟨Z, F, en, sr, (SQ.of q).mono fun d e1 F1 H1 sr1 f1 ⟨s, f, p⟩ v rv => ?_⟩
  cases rv with
  | @tup a vs xs hT rs =>
    dsimp only at p
    by_cases c : xs.length = ps.length
    · rw [if_pos c] at p
      refine ⟨a, vs, rfl, SqT.of (sr1.ex _ _ hT), by rw [rs.length, c, hl], Z, F1, e1, xs, sr1, rs, ?_⟩
      cases b : sFlds cs ps xs e1 with
      | nx e => rw [b] at p; exact fun F' H' s f => p σ F' H' s f
      | ex C fs e => rw [b] at p; exact p.elim
      | bk e => rw [b] at p; exact p.elim
      | ct e => rw [b] at p; exact p.elim
      | rt v e => rw [b] at p; exact p.elim
      | bad => rw [b] at p; exact p.elim
    · rw [if_neg c] at p
      exact p.elim
  | _ => exact p.elim
def sUnp (t : Tg) (mv : Fx D) : Fs := sOf mv fun d en => match bindT t d en with
  | some e => .nx e
  | none => .bad
theorem es_unp {t : Tg} {tg : Expr} {mv : Fx D} {e : Expr} {spos : Pos} (hg : PG X tg (cG X.K t)) (he : EV X W mv e) (nc : notComp e = true) (nt : notStar tg = true) (hw : swappedStores [tg] e X.env = pure none) : ES X W (sUnp t mv) (.Assign [tg] e spos) := by
  have hsw : swapsWithSole [tg] e spos.line X.env = pure false := no_swap (t := some tg) (l := spos.line) (env := X.env) nc
  refine (ps_asg he hg hsw hw (by rw [asg_cons nt]; rfl)).weak fun D σ H ⟨Z, F, en, sr, q⟩ => ⟨Z, F, en, sr, (SQ.of q).mono fun d e1 F1 H1 sr1 f1 ⟨s, f, p⟩ v rv => ⟨Z, F1, e1, d, sr1, rv, ?_⟩⟩
  cases b : bindT t d e1 with
  | none => rw [b] at p; exact p.elim
  | some e2 =>
    rw [b] at p
    exact fun σ' s' _ => p σ' F1 H1 s' .rfl
end
end Mn
set_option Elab.async false
set_option linter.all false
set_option maxRecDepth 100000
set_option maxHeartbeats 1000000
namespace Mn
open PySem PySem.Spec L2
open PySem.Sem (wp)
abbrev ZpC (h : Heap) (z TI TO : Addr) (q : Value) (f : Bool) : Prop :=
  h.get? z = some { cls := .type "zip", dict := none, data := .fields #[q, .bool f, .bool false, .ref TI, .ref TO], slots := #[] }
/-- a zip's cell between two turns -/
def ZpS (h : Heap) (z TI TO : Addr) : Prop := ∃ q f, ZpC h z TI TO q f ∧ (q = .none ∨ ∃ T : Addr, q = rawInt T)
section
variable {prog : Program} {w : World} {A : Around} {E : Value → Shared → Prop} {s : Shared} {z TI TO i1 i2 : Addr} {fp1 fp2 : List Addr} {n1 n2 i : Nat} {P1 P2 : Nat → Value → Prop} {St1 St2 : Nat → Heap → Prop}
theorem wp_alive {a : Addr} {Q : Option Obj → Shared → Prop} (h : Q (s.heap.get? a) s) : wpAny (model prog w) A (loadIfAlive a) Q E s := fun _ _ _ => h
theorem zp_free {Q : Bool → Shared → Prop} (zc : ZpS s.heap z TI TO) (hQ : ∀ b h', ZpS h' z TI TO → Heap.SameBut z s.heap h' → Q b { s with heap := h' }) :
    wpAny (model prog w) A (Builtin.SmallTypes.ownedTupleIsFree (.ref z)) Q E s := by
  obtain ⟨q, f, zc, hq⟩ := zc
  have here : ∀ b, Q b s := fun b => hQ b s.heap ⟨q, f, zc, hq⟩ (.refl _ _)
  unfold Builtin.SmallTypes.ownedTupleIsFree
  rcases hq with rfl | ⟨T, rfl⟩
  · exact wpAny_bind (wpAny_field zc rfl (x := .none) rfl (wpAny_pure (here true)))
  · refine wpAny_bind (wpAny_field zc rfl (x := rawInt T) rfl ?_)
    show wpAny _ _ (loadIfAlive ((T : Int).toNat) >>= _) _ _ _
    rw [Int.toNat_natCast]
    refine wpAny_bind (wp_alive ?_)
    cases s.heap.get? T with
    | none =>
      simp only [Option.isNone_none, if_true]
      exact wpAny_pure (here true)
    | some oT =>
      simp only [Option.isNone_some, Bool.false_eq_true, if_false]
      refine wpAny_bind (wpAny_field zc rfl (x := .bool f) rfl ?_)
      cases f with
      | true =>
        rw [if_neg (show ¬ ((Value.bool true != Value.bool true) = true) from Bool.false_ne_true)]
        exact wpAny_pure (here false)
      | false =>
        rw [if_pos (show (Value.bool false != Value.bool true) = true from rfl)]
        exact wpAny_bind (wpAny_setField_rec zc (by simp) fun h' z1 s1 => wpAny_pure (hQ false h' ⟨_, true, z1, .inr ⟨T, rfl⟩⟩ s1))
/-- one turn of a zip -/
theorem zp_next {Q : Value → Shared → Prop} (S : ZipSep2 z TI TO i1 i2 fp1 fp2) (D1 : Draws prog w A i1 fp1 n1 P1 St1) (D2 : Draws prog w A i2 fp2 n2 P2 St2)
    (zc : ZpS s.heap z TI TO) (ti : IsTupOf2 s.heap TI (.ref i1) (.ref i2)) (to : ∃ a b, IsTupOf2 s.heap TO a b) (st1 : St1 i s.heap) (st2 : St2 i s.heap) (l1 : i < n1) (l2 : i < n2)
    (hQ : ∀ x y h' tk, P1 i x → P2 i y → ZpS h' z TI TO → (∃ a b, IsTupOf2 h' TO a b) → St1 (i + 1) h' → St2 (i + 1) h' → IsTupOf2 h' s.heap.objs.size x y → h'.objs.size = s.heap.objs.size + 1 →
      (∀ c o, c ≠ z → c ≠ TO → c ≠ i1 → c ≠ i2 → s.heap.get? c = some o → h'.get? c = some o) → Q (.ref s.heap.objs.size) { s with heap := h', toks := tk }) :
    wpAny (model prog w) A (Builtin.«zip.__next__» ⟨[.ref z], []⟩) (fun fin s' => ∃ v, fin = .done (.ret v) ∧ Q v s') E s := by
  obtain ⟨hp, g, d, tk0, os⟩ := s
  obtain ⟨a1, a2, to⟩ := to
  obtain ⟨q0, f0, zf, zq⟩ := id zc
  show wpAny _ _ (field (.ref z) 2 >>= _) _ _ _
  refine wpAny_bind (wpAny_field zf rfl (x := .bool false) rfl ?_)
  show wpAny _ _ (field (.ref z) 3 >>= _) _ _ _
  refine wpAny_bind (wpAny_field zf rfl (x := .ref TI) rfl ?_)
  refine wpAny_bind (wpAny_seqItems ti rfl ?_)
  show wpAny _ _ (Builtin.SmallTypes.ownedTupleIsFree (.ref z) >>= _) _ _ _
  refine wpAny_bind (zp_free zc fun b g0 zc0 hs0 => ?_)
  obtain ⟨q0, f0, zf0, zq0⟩ := id zc0
  replace hs0 : Heap.SameBut z hp g0 := hs0
  have to0 : IsTupOf2 g0 TO a1 a2 := hs0.extBut _ _ S.TOz to
  cases b with
  | true =>
    simp only [if_true]
    refine wpAny_bind (wpAny_rule ?_)
    refine wpAny_bind (wpAny_field zf0 rfl (x := .ref TO) rfl ?_)
    refine wpAny_bind (wpAny_setField_rec zf0 (by simp) fun g1 zf1 hs1 => ?_)
    replace zf1 : ZpC g1 z TI TO .ellipsis f0 := zf1
    replace hs1 : Heap.SameBut z g0 g1 := hs1
    refine wpAny_bind ?_
    simp only [List.zipIdx_cons, List.zipIdx_nil, List.forIn_cons, List.forIn_nil]
    refine wpAny_bind (wpAny_bind (wpAny_onRaise ?_))
    show wpAny _ _ (Builtin.SmallTypes.nextOf (.ref i1) >>= _) _ _ ⟨g1, g, d, tk0, os⟩
    refine wpAny_bind (D1.item i _ _ _ l1 (D1.over (D1.over st1 hs0 S.zf1) hs1 S.zf1) fun x p1 tk1 hx sn1 hp1 => wpAny_pure ?_)
    replace hp1 : Heap.SameBut i1 g1 p1 := hp1
    have to1 : IsTupOf2 p1 TO a1 a2 := hp1.extBut _ _ S.Ti1 (hs1.extBut _ _ S.TOz to0)
    refine wpAny_bind (wpAny_seqItems (s := ⟨p1, g, d, tk1, os⟩) to1 rfl ?_)
    refine wpAny_bind (updateSeq_IsTupOf2 (s := ⟨p1, g, d, tk1, os⟩) to1 fun g2 to2 hs2 => ?_)
    replace to2 : IsTupOf2 g2 TO x a2 := to2
    replace hs2 : Heap.SameBut TO p1 g2 := hs2
    refine wpAny_bind (wpAny_letGo (wpAny_pure ?_))
    refine wpAny_bind (wpAny_bind (wpAny_onRaise ?_))
    show wpAny _ _ (Builtin.SmallTypes.nextOf (.ref i2) >>= _) _ _ ⟨g2, g, d, tk1, os⟩
    refine wpAny_bind (D2.item i _ _ _ l2 (D2.over (D2.over (D2.over (D2.over st2 hs0 S.zf2) hs1 S.zf2) hp1 S.sep1_2) hs2 S.Tf2) fun y p2 tk2 hy sn2 hp2 => wpAny_pure ?_)
    replace hp2 : Heap.SameBut i2 g2 p2 := hp2
    have to3 : IsTupOf2 p2 TO x a2 := hp2.extBut _ _ S.Ti2 to2
    refine wpAny_bind (wpAny_seqItems (s := ⟨p2, g, d, tk2, os⟩) to3 rfl ?_)
    refine wpAny_bind (updateSeq_IsTupOf2 (s := ⟨p2, g, d, tk2, os⟩) to3 fun g3 to4 hs3 => ?_)
    replace to4 : IsTupOf2 g3 TO x y := to4
    replace hs3 : Heap.SameBut TO p2 g3 := hs3
    refine wpAny_bind (wpAny_letGo (wpAny_pure (wpAny_pure ?_)))
    refine wpAny_bind (wpAny_seqItems (s := ⟨g3, g, d, tk2, os⟩) to4 rfl ?_)
    refine wpAny_bind (wpAny_newTuple ?_)
    have hsz : g3.objs.size = hp.objs.size := by rw [hs3.1, hp2.1, hs2.1, hp1.1, hs1.1, hs0.1]
    have zf3 : ZpC g3 z TI TO .ellipsis f0 := hs3.extBut _ _ S.TOz.symm (hp2.extBut _ _ S.zi2 (hs2.extBut _ _ S.TOz.symm (hp1.extBut _ _ S.zi1 zf1)))
    have hkk : ∀ c o, c ≠ z → c ≠ TO → c ≠ i1 → c ≠ i2 → hp.get? c = some o → g3.get? c = some o := fun c o cz cT c1 c2 e =>
      hs3.extBut _ _ cT (hp2.extBut _ _ c2 (hs2.extBut _ _ cT (hp1.extBut _ _ c1 (hs1.extBut _ _ cz (hs0.extBut _ _ cz e)))))
    have hj1 : St1 (i + 1) g3 := D1.over (D1.over (D1.over sn1 hs2 S.Tf1) hp2 S.sep2_1) hs3 S.Tf1
    have hj2 : St2 (i + 1) g3 := D2.over sn2 hs3 S.Tf2
    have zlt : z < g3.objs.size := Heap.lt_size zf3
    show wpAny _ _ (Builtin.SmallTypes.ownedTupleHandOut (.ref z) (.ref g3.objs.size) >>= _) _ _ ⟨g3.push { cls := .type "tuple", data := .seq #[x, y] }, g, d, tk2, os⟩
    refine wpAny_bind ?_
    unfold Builtin.SmallTypes.ownedTupleHandOut
    have zf4 : ZpC (g3.push { cls := .type "tuple", data := .seq #[x, y] }) z TI TO .ellipsis f0 := Heap.get?_push_of_some _ zf3
    refine wpAny_bind (wpAny_setField_rec zf4 (by simp) fun h5 zf5 hs5 => ?_)
    replace zf5 : ZpC h5 z TI TO (rawInt g3.objs.size) f0 := zf5
    refine wpAny_setField_rec zf5 (by simp) fun h6 zf6 hs6 => ?_
    replace zf6 : ZpC h6 z TI TO (rawInt g3.objs.size) false := zf6
    replace hs5 : Heap.SameBut z (g3.push { cls := .type "tuple", data := .seq #[x, y] }) h5 := hs5
    replace hs6 : Heap.SameBut z h5 h6 := hs6
    have up : ∀ c o, c ≠ z → g3.get? c = some o → h6.get? c = some o := fun c o c1 e => hs6.extBut _ _ c1 (hs5.extBut _ _ c1 (Heap.get?_push_of_some _ e))
    have new : IsTupOf2 h6 g3.objs.size x y := hs6.extBut _ _ (Nat.ne_of_gt zlt) (hs5.extBut _ _ (Nat.ne_of_gt zlt) (Heap.get?_push_size _ rfl))
    have sz6 : h6.objs.size = g3.objs.size + 1 := by rw [hs6.1, hs5.1, Heap.size_push]
    have zs : ZpS h6 z TI TO := ⟨_, _, zf6, .inr ⟨_, rfl⟩⟩
    rw [hsz] at new sz6
    refine wpAny_pure ⟨_, rfl, ?_⟩
    show Q (.ref g3.objs.size) ⟨h6, g, d, tk2, os⟩
    rw [hsz]
    exact hQ x y h6 tk2 hx hy zs ⟨_, _, up _ _ S.TOz to4⟩ (D1.frame _ _ _ hj1 fun b hb o e => up b o (fun q => S.zf1 (q ▸ hb)) e) (D2.frame _ _ _ hj2 fun b hb o e => up b o (fun q => S.zf2 (q ▸ hb)) e) new sz6 fun c o cz cT c1 c2 e => up c o cz (hkk c o cz cT c1 c2 e)
  | false =>
    simp only [Bool.false_eq_true, if_false]
    refine wpAny_bind ?_
    rw [← Array.forIn_toList]
    simp only [List.forIn_cons, List.forIn_nil]
    refine wpAny_bind (wpAny_bind (wpAny_holding ?_))
    show wpAny _ _ (Builtin.SmallTypes.nextOf (.ref i1) >>= _) _ _ ⟨g0, g, d, tk0, os⟩
    refine wpAny_bind (D1.item i _ _ _ l1 (D1.over st1 hs0 S.zf1) fun x p1 tk1 hx sn1 hp1 => wpAny_pure ?_)
    replace hp1 : Heap.SameBut i1 g0 p1 := hp1
    refine wpAny_pure ?_
    refine wpAny_bind (wpAny_bind (wpAny_holding ?_))
    show wpAny _ _ (Builtin.SmallTypes.nextOf (.ref i2) >>= _) _ _ ⟨p1, g, d, tk1, os⟩
    refine wpAny_bind (D2.item i _ _ _ l2 (D2.over (D2.over st2 hs0 S.zf2) hp1 S.sep1_2) fun y p2 tk2 hy sn2 hp2 => wpAny_pure ?_)
    replace hp2 : Heap.SameBut i2 p1 p2 := hp2
    refine wpAny_pure (wpAny_pure ?_)
    show wpAny _ _ (newTuple [x, y] >>= _) _ _ ⟨p2, g, d, tk2, os⟩
    refine wpAny_bind (wpAny_newTuple ?_)
    have hsz : p2.objs.size = hp.objs.size := by rw [hp2.1, hp1.1, hs0.1]
    have zs : ZpS p2 z TI TO := ⟨_, _, hp2.extBut _ _ S.zi2 (hp1.extBut _ _ S.zi1 zf0), zq0⟩
    have up : ∀ c o, p2.get? c = some o → (p2.push { cls := .type "tuple", data := .seq #[x, y] }).get? c = some o := fun c o e => Heap.get?_push_of_some _ e
    have new : IsTupOf2 (p2.push { cls := .type "tuple", data := .seq #[x, y] }) p2.objs.size x y := Heap.get?_push_size _ rfl
    have sz6 : (p2.push { cls := .type "tuple", data := .seq #[x, y] }).objs.size = p2.objs.size + 1 := Heap.size_push ..
    refine wpAny_pure ⟨_, rfl, ?_⟩
    show Q (.ref p2.objs.size) ⟨_, g, d, tk2, os⟩
    rw [hsz] at new sz6 ⊢
    obtain ⟨q1, f1, z1, r1⟩ := zs
    exact hQ x y _ tk2 hx hy ⟨q1, f1, up _ _ z1, r1⟩ ⟨_, _, up _ _ (hp2.extBut _ _ S.Ti2 (hp1.extBut _ _ S.Ti1 to0))⟩ (D1.frame _ _ _ (D1.over sn1 hp2 S.sep2_1) fun b _ o e => up b o e) (D2.frame _ _ _ sn2 fun b _ o e => up b o e) new sz6
      fun c o cz cT c1 c2 e => up c o (hp2.extBut _ _ c2 (hp1.extBut _ _ c1 (hs0.extBut _ _ cz e)))
/-- the last turn of a zip -/
theorem zp_end {Q : Fin → Shared → Prop} (S : ZipSep2 z TI TO i1 i2 fp1 fp2) (D1 : Draws prog w A i1 fp1 n1 P1 St1) (D2 : Draws prog w A i2 fp2 n2 P2 St2)
    (zc : ZpS s.heap z TI TO) (ti : IsTupOf2 s.heap TI (.ref i1) (.ref i2)) (to : ∃ a b, IsTupOf2 s.heap TO a b) (st1 : St1 i s.heap) (st2 : St2 i s.heap) (l1 : i ≤ n1) (l2 : i ≤ n2) (hend : i = n1 ∨ i = n2)
    (hE : ∀ h' tk e, (∀ c o, c ≠ z → c ≠ TO → c ≠ i1 → c ≠ i2 → s.heap.get? c = some o → h'.get? c = some o) → (∃ o, h'.get? e = some o ∧ o.cls = .type "StopIteration") → E (.ref e) { s with heap := h', toks := tk }) :
    wpAny (model prog w) A (Builtin.«zip.__next__» ⟨[.ref z], []⟩) Q E s := by
  obtain ⟨hp, g, d, tk0, os⟩ := s
  obtain ⟨a1, a2, to⟩ := to
  obtain ⟨q0, f0, zf, zq⟩ := id zc
  show wpAny _ _ (field (.ref z) 2 >>= _) _ _ _
  refine wpAny_bind (wpAny_field zf rfl (x := .bool false) rfl ?_)
  show wpAny _ _ (field (.ref z) 3 >>= _) _ _ _
  refine wpAny_bind (wpAny_field zf rfl (x := .ref TI) rfl ?_)
  refine wpAny_bind (wpAny_seqItems ti rfl ?_)
  show wpAny _ _ (Builtin.SmallTypes.ownedTupleIsFree (.ref z) >>= _) _ _ _
  refine wpAny_bind (zp_free zc fun b g0 zc0 hs0 => ?_)
  obtain ⟨q0, f0, zf0, zq0⟩ := id zc0
  replace hs0 : Heap.SameBut z hp g0 := hs0
  have to0 : IsTupOf2 g0 TO a1 a2 := hs0.extBut _ _ S.TOz to
  cases b with
  | true =>
    simp only [if_true]
    refine wpAny_bind (wpAny_rule ?_)
    refine wpAny_bind (wpAny_field zf0 rfl (x := .ref TO) rfl ?_)
    refine wpAny_bind (wpAny_setField_rec zf0 (by simp) fun g1 zf1 hs1 => ?_)
    replace zf1 : ZpC g1 z TI TO .ellipsis f0 := zf1
    replace hs1 : Heap.SameBut z g0 g1 := hs1
    refine wpAny_bind ?_
    simp only [List.zipIdx_cons, List.zipIdx_nil, List.forIn_cons, List.forIn_nil]
    refine wpAny_bind (wpAny_bind (wpAny_onRaise ?_))
    show wpAny _ _ (Builtin.SmallTypes.nextOf (.ref i1) >>= _) _ _ ⟨g1, g, d, tk0, os⟩
    have fin : ∀ (q : Heap) (e : Addr) (tk : Nat) (E' : Value → Shared → Prop), ZpC q z TI TO .ellipsis f0 → (∃ o, q.get? e = some o ∧ o.cls = .type "StopIteration") → (∀ c o, c ≠ z → c ≠ TO → c ≠ i1 → c ≠ i2 → hp.get? c = some o → q.get? c = some o) →
        wpAny (model prog w) A (setField (.ref z) 0 .none) (fun _ s' => E (.ref e) s') E' ⟨q, g, d, tk, os⟩ := fun q e tk E' zq ⟨oe, he, ce⟩ k => by
      have ez : e ≠ z := fun x => by
        subst x
        rw [zq] at he
        cases he
        simp at ce
      refine wpAny_setField_rec (s := ⟨q, g, d, tk, os⟩) zq (by simp) fun q' _ hq' => ?_
      replace hq' : Heap.SameBut z q q' := hq'
      exact hE q' tk e (fun c o cz cT c1 c2 x => hq'.extBut _ _ cz (k c o cz cT c1 c2 x)) ⟨oe, hq'.extBut _ _ ez he, ce⟩
    by_cases k1 : i < n1
    · refine wpAny_bind (D1.item i _ _ _ k1 (D1.over (D1.over st1 hs0 S.zf1) hs1 S.zf1) fun x p1 tk1 hx sn1 hp1 => wpAny_pure ?_)
      replace hp1 : Heap.SameBut i1 g1 p1 := hp1
      have to1 : IsTupOf2 p1 TO a1 a2 := hp1.extBut _ _ S.Ti1 (hs1.extBut _ _ S.TOz to0)
      refine wpAny_bind (wpAny_seqItems (s := ⟨p1, g, d, tk1, os⟩) to1 rfl ?_)
      refine wpAny_bind (updateSeq_IsTupOf2 (s := ⟨p1, g, d, tk1, os⟩) to1 fun g2 to2 hs2 => ?_)
      replace hs2 : Heap.SameBut TO p1 g2 := hs2
      refine wpAny_bind (wpAny_letGo (wpAny_pure ?_))
      have e2 : i = n2 := by omega
      refine wpAny_bind (wpAny_bind (wpAny_onRaise ?_))
      show wpAny _ _ (Builtin.SmallTypes.nextOf (.ref i2) >>= _) _ _ ⟨g2, g, d, tk1, os⟩
      refine wpAny_bind (D2.done ⟨g2, g, d, tk1, os⟩ _ _ (by rw [← e2]; exact D2.over (D2.over (D2.over (D2.over st2 hs0 S.zf2) hs1 S.zf2) hp1 S.sep1_2) hs2 S.Tf2) fun q e hq he => ?_)
      replace hq : Heap.ExtBut i2 g2 q := hq
      exact fin q e tk1 _ (hq _ _ S.zi2 (hs2.extBut _ _ S.TOz.symm (hp1.extBut _ _ S.zi1 zf1))) he fun c o cz cT c1 c2 x => hq _ _ c2 (hs2.extBut _ _ cT (hp1.extBut _ _ c1 (hs1.extBut _ _ cz (hs0.extBut _ _ cz x))))
    · have e1 : i = n1 := by omega
      refine wpAny_bind (D1.done ⟨g1, g, d, tk0, os⟩ _ _ (by rw [← e1]; exact D1.over (D1.over st1 hs0 S.zf1) hs1 S.zf1) fun q e hq he => ?_)
      replace hq : Heap.ExtBut i1 g1 q := hq
      exact fin q e tk0 _ (hq _ _ S.zi1 zf1) he fun c o cz cT c1 c2 x => hq _ _ c1 (hs1.extBut _ _ cz (hs0.extBut _ _ cz x))
  | false =>
    simp only [Bool.false_eq_true, if_false]
    refine wpAny_bind ?_
    rw [← Array.forIn_toList]
    simp only [List.forIn_cons, List.forIn_nil]
    refine wpAny_bind (wpAny_bind (wpAny_holding ?_))
    show wpAny _ _ (Builtin.SmallTypes.nextOf (.ref i1) >>= _) _ _ ⟨g0, g, d, tk0, os⟩
    by_cases k1 : i < n1
    · refine wpAny_bind (D1.item i _ _ _ k1 (D1.over st1 hs0 S.zf1) fun x p1 tk1 hx sn1 hp1 => wpAny_pure ?_)
      replace hp1 : Heap.SameBut i1 g0 p1 := hp1
      refine wpAny_pure ?_
      have e2 : i = n2 := by omega
      refine wpAny_bind (wpAny_bind (wpAny_holding ?_))
      show wpAny _ _ (Builtin.SmallTypes.nextOf (.ref i2) >>= _) _ _ ⟨p1, g, d, tk1, os⟩
      refine wpAny_bind (D2.done ⟨p1, g, d, tk1, os⟩ _ _ (by rw [← e2]; exact D2.over (D2.over st2 hs0 S.zf2) hp1 S.sep1_2) fun q e hq he => ?_)
      replace hq : Heap.ExtBut i2 p1 q := hq
      exact hE q tk1 e (fun c o cz cT c1 c2 x => hq _ _ c2 (hp1.extBut _ _ c1 (hs0.extBut _ _ cz x))) he
    · have e1 : i = n1 := by omega
      refine wpAny_bind (D1.done ⟨g0, g, d, tk0, os⟩ _ _ (by rw [← e1]; exact D1.over st1 hs0 S.zf1) fun q e hq he => ?_)
      replace hq : Heap.ExtBut i1 g0 q := hq
      exact hE q tk0 e (fun c o cz cT c1 c2 x => hq _ _ c1 (hs0.extBut _ _ cz x)) he
end
end Mn
set_option Elab.async false
set_option linter.all false
set_option maxRecDepth 100000
set_option maxHeartbeats 1000000
namespace Mn
open PySem PySem.Spec L2 PyProof.Rows
open PySem.Sem (wp)
section
variable {prog : Program} {w : World} {A : Around} {E : Value → Shared → Prop} {s : Shared} {e it : Addr} {wr : List Addr} {i : Nat} {R : Value → Heap → Prop} {old : Value}
theorem en_next {Q : Value → Shared → Prop}
    (hin : ∀ Q' E' : Value → Shared → Prop, (∀ x h1 tk, R x h1 → (∀ b o, b ∉ wr → s.heap.get? b = some o → h1.get? b = some o) → Q' x { s with heap := h1, toks := tk }) → wpAny (model prog w) A (Builtin.SmallTypes.nextOf (.ref it)) Q' E' s)
    (ec : IsEnum s.heap e it i old) (ew : e ∉ wr)
    (hQ : ∀ x h1 h' tk, R x h1 → (∀ b o, b ∉ wr → s.heap.get? b = some o → h1.get? b = some o) → IsEnumOut h' e it ((i : Int) + 1) x h1.objs.size →
      h'.get? h1.objs.size = some { cls := .type "tuple", data := .seq #[.int i tk, x] } → h'.objs.size = h1.objs.size + 1 →
      (∀ b o, b ≠ e → h1.get? b = some o → h'.get? b = some o) → Q (.ref h1.objs.size) { s with heap := h', toks := tk + 1 }) :
    wpAny (model prog w) A (Builtin.«enumerate.__next__» ⟨[.ref e], []⟩) (fun fin s' => ∃ v, fin = .done (.ret v) ∧ Q v s') E s := by
  obtain ⟨hp, g, d, tk0, os⟩ := s
  show wpAny _ _ (field (.ref e) 2 >>= _) _ _ _
  refine wpAny_bind (wpAny_field ec rfl (x := .ref it) rfl ?_)
  refine wpAny_bind (hin _ _ fun x h1 tk hx hk => ?_)
  replace hk : ∀ b o, b ∉ wr → hp.get? b = some o → h1.get? b = some o := hk
  have e1 : IsEnum h1 e it i old := hk _ _ ew ec
  have el : e < h1.objs.size := Heap.lt_size e1
  show wpAny _ _ (field (.ref e) 3 >>= _) _ _ ⟨h1, g, d, tk, os⟩
  refine wpAny_bind (wpAny_field e1 rfl (x := rawInt i) rfl ?_)
  show wpAny _ _ (field (.ref e) 4 >>= _) _ _ ⟨h1, g, d, tk, os⟩
  refine wpAny_bind (wpAny_field e1 rfl (x := .none) rfl ?_)
  show wpAny _ _ (mkInt i >>= _) _ _ ⟨h1, g, d, tk, os⟩
  refine wpAny_bind (wpAny_mkInt ?_)
  show wpAny _ _ (setField (.ref e) 3 (rawInt ((i : Int) + 1)) >>= _) _ _ ⟨h1, g, d, tk + 1, os⟩
  refine wpAny_bind (wpAny_setField_rec e1 (by simp) fun h2 e2 s2 => ?_)
  replace s2 : Heap.SameBut e h1 h2 := s2
  replace e2 : IsEnum h2 e it ((i : Int) + 1) old := e2
  show wpAny _ _ (setField (.ref e) 4 .none >>= _) _ _ ⟨h2, g, d, tk + 1, os⟩
  refine wpAny_bind (wpAny_setField_rec e2 (by simp) fun h3 e3 s3 => ?_)
  replace s3 : Heap.SameBut e h2 h3 := s3
  replace e3 : IsEnum h3 e it ((i : Int) + 1) old := e3
  show wpAny _ _ (newTuple [.int i tk, x] >>= _) _ _ ⟨h3, g, d, tk + 1, os⟩
  refine wpAny_bind (wpAny_newTuple ?_)
  have e4 : IsEnum (h3.push { cls := .type "tuple", data := .seq #[.int i tk, x] }) e it ((i : Int) + 1) old := Heap.get?_push_of_some _ e3
  generalize hh4 : h3.push { cls := .type "tuple", data := .seq #[.int i tk, x] } = h4 at e4
  have hsz : h3.objs.size = h1.objs.size := by rw [s3.1, s2.1]
  have t4 : h4.get? h1.objs.size = some { cls := .type "tuple", data := .seq #[.int i tk, x] } := by rw [← hh4, ← hsz]; exact Heap.get?_push_size _ rfl
  have z4 : h4.objs.size = h1.objs.size + 1 := by rw [← hh4, Heap.size_push, hsz]
  have k4 : ∀ b o, b ≠ e → h1.get? b = some o → h4.get? b = some o := fun b o q hb => by
    rw [← hh4]; exact Heap.get?_push_of_some _ (s3.extBut b o q (s2.extBut b o q hb))
  show wpAny _ _ (Builtin.SmallTypes.ownedTupleIsFree (.ref e) >>= _) _ _ ⟨h4, g, d, tk + 1, os⟩
  rw [hsz]
  clear hh4 e3 s3 e2 s2 e1 hsz h3 h2
  refine wpAny_bind ?_
  unfold Builtin.SmallTypes.ownedTupleIsFree
  refine wpAny_bind (wpAny_field e4 rfl (x := .none) rfl (wpAny_pure ?_))
  simp only [if_true]
  refine wpAny_bind (wpAny_rule ?_)
  refine wpAny_bind (wpAny_field e4 rfl (x := old) rfl ?_)
  refine wpAny_bind (wpAny_setField_rec e4 (by simp) fun h5 e5 s5 => ?_)
  replace s5 : Heap.SameBut e h4 h5 := s5
  replace e5 : IsEnum h5 e it ((i : Int) + 1) x := e5
  show wpAny _ _ (Builtin.SmallTypes.ownedTupleHandOut (.ref e) (.ref h1.objs.size) >>= _) _ _ ⟨h5, g, d, tk + 1, os⟩
  refine wpAny_bind ?_
  unfold Builtin.SmallTypes.ownedTupleHandOut
  refine wpAny_bind (wpAny_setField_rec e5 (by simp) fun h6 e6 s6 => ?_)
  replace s6 : Heap.SameBut e h5 h6 := s6
  replace e6 : IsEnumOut h6 e it ((i : Int) + 1) x h1.objs.size := e6
  refine wpAny_setField_rec e6 (by simp) fun h7 e7 s7 => ?_
  replace s7 : Heap.SameBut e h6 h7 := s7
  replace e7 : IsEnumOut h7 e it ((i : Int) + 1) x h1.objs.size := e7
  have up : ∀ b o, b ≠ e → h4.get? b = some o → h7.get? b = some o := fun b o q hb => s7.extBut b o q (s6.extBut b o q (s5.extBut b o q hb))
  refine wpAny_bind (wpAny_letGo (wpAny_pure ⟨_, rfl, hQ x h1 h7 tk hx hk e7 (up _ _ (Nat.ne_of_gt el) t4) ?_ fun b o q hb => up b o q (k4 b o q hb)⟩))
  rw [s7.1, s6.1, s5.1, z4]
theorem py_en {Q : Option Value → Shared → Prop}
    (hin : ∀ Q' E' : Value → Shared → Prop, (∀ x h1 tk, R x h1 → (∀ b o, b ∉ wr → s.heap.get? b = some o → h1.get? b = some o) → Q' x { s with heap := h1, toks := tk }) → wpAny (model prog w) A.in1 (Builtin.SmallTypes.nextOf (.ref it)) Q' E' s)
    (ec : IsEnum s.heap e it i old) (ew : e ∉ wr)
    (hQ : ∀ x h1 h' tk, R x h1 → (∀ b o, b ∉ wr → s.heap.get? b = some o → h1.get? b = some o) → IsEnumOut h' e it ((i : Int) + 1) x h1.objs.size →
      h'.get? h1.objs.size = some { cls := .type "tuple", data := .seq #[.int i tk, x] } → h'.objs.size = h1.objs.size + 1 →
      (∀ b o, b ≠ e → h1.get? b = some o → h'.get? b = some o) → Q (some (.ref h1.objs.size)) { s with heap := h', toks := tk + 1 }) :
    wpAny (model prog w) A (pyNext (.ref e)) Q E s := by
  have ht : s.TypeIs (.ref e) "enumerate" := ⟨_, ec, rfl⟩
  unfold pyNext
  exact wpAny_bind (wpAny_attempt (wpAny_callSpecial?_slot (name := Str.ofString "__next__") ht F.slot_enumerate_next
    (wpAny_call_entry F.slot_enumerate_next ht F.entry_enumerate_next
      (en_next hin ec ew fun x h1 h' tk a b c d k q => wpAny_pure (hQ x h1 h' tk a b c d k q)) (F.args_enumerate_next_1 _))))
theorem py_en_end {Q : Option Value → Shared → Prop}
    (hin : ∀ Q' E' : Value → Shared → Prop, (∀ h1 tk x, (∃ o, h1.get? x = some o ∧ o.cls = .type "StopIteration") → (∀ b o, b ∉ wr → s.heap.get? b = some o → h1.get? b = some o) → E' (.ref x) { s with heap := h1, toks := tk }) → wpAny (model prog w) A.in1 (Builtin.SmallTypes.nextOf (.ref it)) Q' E' s)
    (ec : IsEnum s.heap e it i old) (hQ : ∀ h1 tk, (∀ b o, b ∉ wr → s.heap.get? b = some o → h1.get? b = some o) → Q none { s with heap := h1, toks := tk }) :
    wpAny (model prog w) A (pyNext (.ref e)) Q E s := by
  have ht : s.TypeIs (.ref e) "enumerate" := ⟨_, ec, rfl⟩
  unfold pyNext
  refine wpAny_bind (wpAny_attempt (wpAny_callSpecial?_slot (name := Str.ofString "__next__") ht F.slot_enumerate_next
    (wpAny_call_entry F.slot_enumerate_next ht F.entry_enumerate_next ?_ (F.args_enumerate_next_1 _))))
  show wpAny _ _ (field (.ref e) 2 >>= _) _ _ _
  refine wpAny_bind (wpAny_field ec rfl (x := .ref it) rfl ?_)
  refine wpAny_bind (hin _ _ fun h1 tk x hx hk => ?_)
  obtain ⟨o, ho, hc⟩ := hx
  refine wpAny_bind (wpAny_isInstance (T := "StopIteration") (b := true) ⟨o, ho, hc⟩ isSubtype_stop ?_)
  exact wpAny_pure (hQ _ _ hk)
theorem nx_zip {z TI TO i1 i2 : Addr} {fp1 fp2 : List Addr} {n1 n2 : Nat} {P1 P2 : Nat → Value → Prop} {St1 St2 : Nat → Heap → Prop} {Q : Value → Shared → Prop} (S : ZipSep2 z TI TO i1 i2 fp1 fp2) (D1 : Draws prog w A.in1 i1 fp1 n1 P1 St1) (D2 : Draws prog w A.in1 i2 fp2 n2 P2 St2)
    (zc : ZpS s.heap z TI TO) (ti : IsTupOf2 s.heap TI (.ref i1) (.ref i2)) (to : ∃ a b, IsTupOf2 s.heap TO a b) (st1 : St1 i s.heap) (st2 : St2 i s.heap) (l1 : i < n1) (l2 : i < n2)
    (hQ : ∀ x y h' tk, P1 i x → P2 i y → ZpS h' z TI TO → (∃ a b, IsTupOf2 h' TO a b) → St1 (i + 1) h' → St2 (i + 1) h' → IsTupOf2 h' s.heap.objs.size x y → h'.objs.size = s.heap.objs.size + 1 →
      (∀ c o, c ≠ z → c ≠ TO → c ≠ i1 → c ≠ i2 → s.heap.get? c = some o → h'.get? c = some o) → Q (.ref s.heap.objs.size) { s with heap := h', toks := tk }) :
    wpAny (model prog w) A (Builtin.SmallTypes.nextOf (.ref z)) Q E s := by
  have ht : s.TypeIs (.ref z) "zip" := let ⟨_, _, q, _⟩ := zc; ⟨_, q, rfl⟩
  unfold Builtin.SmallTypes.nextOf
  exact wpAny_bind (wpAny_callSpecial?_slot (name := Str.ofString "__next__") ht F.slot_zip_next
    (wpAny_call_entry F.slot_zip_next ht F.entry_zip_next (zp_next S D1 D2 zc ti to st1 st2 l1 l2 fun x y h' tk a1 a2 a3 a4 a5 a6 a7 a8 a9 => wpAny_pure (hQ x y h' tk a1 a2 a3 a4 a5 a6 a7 a8 a9)) (F.args_zip_next_1 _)))
theorem nx_zip_end {z TI TO i1 i2 : Addr} {fp1 fp2 : List Addr} {n1 n2 : Nat} {P1 P2 : Nat → Value → Prop} {St1 St2 : Nat → Heap → Prop} {Q : Value → Shared → Prop} (S : ZipSep2 z TI TO i1 i2 fp1 fp2) (D1 : Draws prog w A.in1 i1 fp1 n1 P1 St1) (D2 : Draws prog w A.in1 i2 fp2 n2 P2 St2)
    (zc : ZpS s.heap z TI TO) (ti : IsTupOf2 s.heap TI (.ref i1) (.ref i2)) (to : ∃ a b, IsTupOf2 s.heap TO a b) (st1 : St1 i s.heap) (st2 : St2 i s.heap) (l1 : i ≤ n1) (l2 : i ≤ n2) (hend : i = n1 ∨ i = n2)
    (hE : ∀ h' tk x, (∀ c o, c ≠ z → c ≠ TO → c ≠ i1 → c ≠ i2 → s.heap.get? c = some o → h'.get? c = some o) → (∃ o, h'.get? x = some o ∧ o.cls = .type "StopIteration") → E (.ref x) { s with heap := h', toks := tk }) :
    wpAny (model prog w) A (Builtin.SmallTypes.nextOf (.ref z)) Q E s := by
  have ht : s.TypeIs (.ref z) "zip" := let ⟨_, _, q, _⟩ := zc; ⟨_, q, rfl⟩
  unfold Builtin.SmallTypes.nextOf
  exact wpAny_bind (wpAny_callSpecial?_slot (name := Str.ofString "__next__") ht F.slot_zip_next
    (wpAny_call_entry F.slot_zip_next ht F.entry_zip_next (zp_end S D1 D2 zc ti to st1 st2 l1 l2 hend hE) (F.args_zip_next_1 _)))
end
def SqK (k : Bool) (K : Fg) (H : Hp) (a : Addr) (xs : List V) : Prop := match k with
  | true => SqL K H a xs
  | false => SqT K H a xs
def LtK (k : Bool) (h : Heap) (a : Addr) (its : Array Value) : Prop := match k with
  | true => h.IsList a its
  | false => h.IsTuple a its
def ItK (k : Bool) (h : Heap) (it a : Addr) (i : Nat) : Prop := match k with
  | true => h.IsListIter it a i
  | false => h.IsTupleIter it a i
theorem itK_at {k : Bool} {h h' : Heap} {it a : Addr} {i : Nat} (q : ItK k h it a i) (f : ∀ o, h.get? it = some o → h'.get? it = some o) : ItK k h' it a i := by
  cases k with
  | true => exact Heap.IsListIter.at q f
  | false => exact Heap.IsTupleIter.at q f
theorem itK_some {k : Bool} {h : Heap} {it a : Addr} {i : Nat} (q : ItK k h it a i) : ∃ o, h.get? it = some o ∧ ∀ v, o.data ≠ .cell v := by
  cases k with
  | true =>
    obtain ⟨o, e, _, d⟩ := q
    exact ⟨o, e, fun v z => by rw [d] at z; cases z⟩
  | false =>
    obtain ⟨o, e, _, d⟩ := q
    exact ⟨o, e, fun v z => by rw [d] at z; cases z⟩
theorem ltK_some {k : Bool} {h : Heap} {a : Addr} {its : Array Value} (q : LtK k h a its) : ∃ o, h.get? a = some o := by
  cases k with
  | true => obtain ⟨o, e, _⟩ := q; exact ⟨o, e⟩
  | false => obtain ⟨o, e, _⟩ := q; exact ⟨o, e⟩
theorem ltK_at {k : Bool} {h h' : Heap} {a : Addr} {its : Array Value} (q : LtK k h a its) (f : ∀ o, h.get? a = some o → h'.get? a = some o) : LtK k h' a its := by
  cases k with
  | true => exact Heap.IsList.at q f
  | false => exact Heap.IsTuple.at q f
theorem inv_sq {X : Cx} {pins : List (Addr × Obj)} {σ : L2.St} {H : Hp} {s : Shared} {k : Bool} {a : Addr} {xs : List V} (I : Inv X pins σ H s) (q : SqK k X.K H a xs) : ∃ its : List Value, Vals xs its ∧ LtK k s.heap a its.toArray := by
  cases k with
  | true =>
    obtain ⟨its, rv, p, _⟩ := I.list q
    exact ⟨its, rv, p.isList⟩
  | false =>
    obtain ⟨its, rv, p, _⟩ := I.tuple q
    exact ⟨its, rv, p⟩
theorem inv_inj {X : Cx} {pins : List (Addr × Obj)} {σ : L2.St} {H : Hp} {s : Shared} {k : Bool} {a : Addr} {xs ys : List V} (I : Inv X pins σ H s) (q : SqK k X.K H a xs) (r : SqK k X.K H a ys) : xs = ys := by
  cases k with
  | true => exact I.list_inj q r
  | false => exact I.tuple_inj q r
theorem dr_sq {k : Bool} {prog : Program} {w : World} {A : Around} (hh : A.handled = none) (it a : Addr) (hne : a ≠ it) (its : Array Value) :
    Draws prog w A it [it, a] its.size (fun i v => its[i]? = some v) (fun i h => ItK k h it a i ∧ LtK k h a its) := by
  cases k with
  | true => exact .list hh it a hne its
  | false => exact .tuple hh it a hne its
theorem ltK_ne {k k' : Bool} {h : Heap} {a it b : Addr} {its : Array Value} {i : Nat} (q : LtK k h a its) (r : ItK k' h it b i) : a ≠ it := by
  intro e
  subst e
  cases k <;> cases k' <;>
  · obtain ⟨o, e1, c1, _⟩ := q
    obtain ⟨o', e2, c2, _⟩ := r
    rw [e1] at e2
    cases e2
    rw [c1] at c2
    injection c2 with c2
    exact absurd c2 (by decide)
def Iek (k : Bool) (K : Fg) (a : Addr) : It :=
  ⟨fun i H => ∃ (xs : List V) (x : V), SqK k K H a xs ∧ xs[i]? = some x, fun i H v H' => ∃ T x, v = .ref T ∧ H T = none ∧ H' = upd H T (.tup [.int (i : Nat), x]) ∧ ∀ xs, SqK k K H a xs → xs[i]? = some x, fun i H => ∃ xs : List V, SqK k K H a xs ∧ xs.length ≤ i⟩
theorem turn_ek {P : Program} {w : World} {K : Fg} {elts : List Expr} {kk : Nat} {tpos : Pos} (k : Bool) (a e it : Addr) :
    Turn P w K (.Tuple elts kk tpos) (Iek k K a) [e, it] e (fun i h => (∃ old, IsEnum h e it ((i : Nat) : Int) old) ∧ ItK k h it a i ∧ e ≠ it) where
  mem := by simp
  obj := fun i h st b hb => by
    obtain ⟨⟨old, he⟩, hi, _⟩ := st
    rcases List.mem_cons.mp hb with z | hb
    · rw [z]; exact ⟨_, he, fun v q => nomatch q⟩
    · rw [List.mem_singleton.mp hb]; exact itK_some hi
  keep := fun i h h' st f => let ⟨⟨old, he⟩, hi, hne⟩ := st; ⟨⟨old, f e (by simp) _ he⟩, itK_at hi fun o q => f it (by simp) o q, hne⟩
  item := by
    intro X hP hw hK hc i pins s σ H E I hf st hg
    subst hP hw hK
    obtain ⟨⟨old, he⟩, hit, hne⟩ := st
    obtain ⟨xs, x, hq, hx⟩ := hg
    obtain ⟨its, rv, p⟩ := inv_sq I hq
    obtain ⟨u, hu, ru⟩ := rv.get hx
    have hh := I.ok.hd hc
    have hel : e < s.heap.objs.size := Heap.lt_size he
    have hil : it < s.heap.objs.size := by obtain ⟨_, q, _⟩ := itK_some hit; exact Heap.lt_size q
    have hin : i < its.toArray.size := by
      have := (List.getElem?_eq_some_iff.mp hu).1
      simpa using this
    refine py_en (wr := [it]) (R := fun y h1 => (its.toArray[i]? = some y ∧ ItK k h1 it a (i + 1)) ∧ s.heap.objs.size = h1.objs.size) (fun Q' E' hq' => (dr_sq (k := k) (prog := X.prog) (w := X.w) (A := X.A.in1) hh it a (ltK_ne p hit) its.toArray).item i s Q' E' hin ⟨hit, p⟩ fun y h1 tk hy st1 sb => hq' y h1 tk ⟨⟨hy, st1.1⟩, sb.1.symm⟩ fun b o hb q => (sb.2 b (by simpa using hb)).trans q) he (by simpa using hne) fun y h1 h' tk hr hk ho hT hsz hk2 => ?_
    obtain ⟨⟨hy, hit'⟩, hs1⟩ := hr
    have eu : y = u := by
      rw [List.getElem?_toArray, hu] at hy
      exact (Option.some.inj hy).symm
    subst eu
    rw [← hs1] at ho hT hsz ⊢
    refine ⟨_, rfl, wpAny_letOwnedTupleGo_enum (s := { s with heap := h', toks := tk + 1 }) ho fun h'' he' sb => ?_⟩
    have hT2 : h''.get? s.heap.objs.size = some { cls := .type "tuple", data := .seq #[.int i tk, y] } := (sb.2 _ (Nat.ne_of_gt hel)).trans hT
    have new : ObjOk X.prog X.w (upd H s.heap.objs.size (.tup [.int (i : Nat), x])) h'' s.heap.objs.size (.tup [.int (i : Nat), x]) :=
      ⟨by show 2 ≤ sizeLine; decide, [.int i tk, y], .cons ⟨_, rfl⟩ (.cons ru .nil), ⟨_, hT2, rfl, _, rfl⟩⟩
    have I1 : Inv X pins σ (upd H s.heap.objs.size (.tup [.int (i : Nat), x])) { s with heap := h'', toks := tk + 1 } :=
      I.turnedNew (ch := [e, it]) (fun b ob hb q => (sb.2 b (fun z => hb (by simp [z]))).trans (hk2 b ob (fun z => hb (by simp [z])) (hk b ob (fun z => hb (by simp at z; simp [z])) q))) hf (Nat.le_refl _) new
    refine ⟨.ref s.heap.objs.size, _, I1, rfl, ⟨_, x, rfl, I.hok.fresh (Nat.le_refl _), rfl, fun ys hy => by rw [inv_inj I hy hq]; exact hx⟩, ⟨⟨y, ?_⟩, itK_at hit' fun o q => (sb.2 it (Ne.symm hne)).trans (hk2 it o (Ne.symm hne) q), hne⟩, fun b hb => ?_⟩
    · have e1 : ((i + 1 : Nat) : Int) = (i : Int) + 1 := by omega
      rw [e1]; exact he'
    · have hb' : b < s.heap.objs.size := by
        rcases List.mem_cons.mp hb with z | hb
        · rw [z]; exact hel
        · rw [List.mem_singleton.mp hb]; exact hil
      rw [upd_ne (Nat.ne_of_lt hb')]
      exact (hf b hb).1
  done := by
    intro X hP hw hK hc i pins s σ H E I hf st hg
    subst hP hw hK
    obtain ⟨⟨old, he⟩, hit, hne⟩ := st
    obtain ⟨xs, hq, hx⟩ := hg
    obtain ⟨its, rv, p⟩ := inv_sq I hq
    have hh := I.ok.hd hc
    have hl := rv.length
    refine py_en_end (wr := [it]) (fun Q' E' hq' => ?_) he fun h1 tk hk => ⟨rfl, I.turnedL (ch := [it]) hk fun b hb => hf b (List.mem_cons_of_mem _ hb)⟩
    have out : its.toArray[i]? = none := by simp; omega
    cases k with
    | true => exact wpAny_nextOf_list_end hh hit p out fun h1 x hk hx => hq' h1 s.toks x hx fun b o hb q => hk b o (by simpa using hb) q
    | false => exact wpAny_nextOf_tuple_end hh hit p out fun h1 x hk hx => hq' h1 s.toks x hx fun b o hb q => hk b o (by simpa using hb) q
  self := fun A i s Q E st h => let ⟨⟨_, he⟩, _⟩ := st; wpAny_pyIter_enum he h
end Mn
set_option Elab.async false
set_option linter.all false
set_option maxRecDepth 100000
set_option maxHeartbeats 4000000
namespace Mn
open PySem PySem.Spec L2 PyProof.Rows
open PySem.Sem (wp)
/-- iter(v): the value it is, and what becomes of the heap -/
structure Bgn (v : Value) (r : Heap → Value) (f : Heap → Heap) (H : Heap → Prop) : Prop where
  iter : ∀ (prog : Program) (w : World) (A : Around) (E : Value → Shared → Prop) (s : Shared) (Q : Value → Shared → Prop), H s.heap → Q (r s.heap) { s with heap := f s.heap } → wpAny (model prog w) A (pyIter v) Q E s
theorem meets_en {v : Value} {r : Heap → Value} {f : Heap → Heap} {H : Heap → Prop} (B : Bgn v r f H) :
    Meets (Builtin.«enumerate.__new__» ⟨[.type "enumerate", v], []⟩) (fun _ R s => H s.heap ∧
      R (.ok (.ret (.ref (f s.heap).objs.size))) { s with heap := (f s.heap).push { cls := .type "enumerate", data := .fields #[.none, .bool false, r s.heap, rawInt 0, .none, .none] } }) :=
  .of_wp fun prog w A R s h => by
    obtain ⟨hp, g, d, tk, os⟩ := s; obtain ⟨h1, h⟩ := h
    have hsub := sub_enumerate
    have q1 : ∀ {A' : Around} {E : Value → Shared → Prop} {Q : Value → Shared → Prop}, Q (r hp) ⟨f hp, g, d, tk, os⟩ → wpAny (model prog w) A' (pyIter v) Q E ⟨hp, g, d, tk, os⟩ :=
      fun q => B.iter prog w _ _ ⟨hp, g, d, tk, os⟩ _ h1 q
    wp_walk using q1
    refine wpAny_stack_any fun st => wpAny_pure ?_
    split
    · rename_i c _ _ _ _ _
      cases (c == Value.type "enumerate")
      · wp_walk using q1
        exact ⟨_, rfl, h⟩
      · wp_walk using q1
        exact ⟨_, rfl, h⟩
    · wp_walk using q1
      exact ⟨_, rfl, h⟩
theorem bgn_sq (k : Bool) (a : Addr) (its : Array Value) : Bgn (.ref a) (fun h => .ref h.objs.size) (fun h => h.push { cls := .type (if k then "list_iterator" else "tuple_iterator"), data := .fields #[.ref a, .int 0 0] }) fun h => LtK k h a its := by
  cases k with
  | true => exact ⟨fun prog w A E s Q h q => wpAny_pyIter_list h q⟩
  | false => exact ⟨fun prog w A E s Q h q => wpAny_pyIter_tuple h q⟩
theorem bgn_zip (z TI TO : Addr) : Bgn (.ref z) (fun _ => .ref z) (fun h => h) fun h => IsZip h z TI TO .none := ⟨fun prog w A E s Q h q => wpAny_pyIter_zip h q⟩
section
variable {prog : Program} {w : World} {A : Around} {E : Value → Shared → Prop} {s : Shared}
theorem call_en {v : Value} {r : Heap → Value} {f : Heap → Heap} {H : Heap → Prop} {Q : Value → Shared → Prop} (B : Bgn v r f H) (h1 : H s.heap)
    (h : ∀ h', h'.get? (f s.heap).objs.size = some { cls := .type "enumerate", data := .fields #[.none, .bool false, r s.heap, rawInt 0, .none, .none] } → (∀ b o, (f s.heap).get? b = some o → h'.get? b = some o) → Q (.ref (f s.heap).objs.size) { s with heap := h' }) :
    wpAny (model prog w) A (call (.type "enumerate") [v]) Q E s := by
  refine callType_new F.called_enumerate (by decide) (F.typeCall_enumerate_1 _) (F.newCall_enumerate_1 _) (fun obj => F.args_object_init_2 obj _) F.entry_enumerate_new (meets_en B) ⟨h1, ?_⟩
  have he : ((f s.heap).push { cls := .type "enumerate", data := .fields #[.none, .bool false, r s.heap, rawInt 0, .none, .none] }).get? (f s.heap).objs.size = some { cls := .type "enumerate", data := .fields #[.none, .bool false, r s.heap, rawInt 0, .none, .none] } := Heap.get?_push_size _ rfl
  exact ⟨⟨_, he, rfl⟩, h _ he fun b o y => Heap.get?_push_of_some _ y⟩
end
def iEk (K : Fg) (ta : TA) : TI := fun σ H R => ta σ H fun vs H1 => ∃ k a xs, vs = [.ref a] ∧ SqK k K H1 a xs ∧ R (Iek k K a) H1
theorem pi_ek {X : Cx} {e : Expr} {ta : TA} {p pos tpos : Pos} {elts : List Expr} {kk : Nat} (hg : Gl X "enumerate") (hm : X.mg "enumerate" = none) (ha : PA X [e] ta) (hs : starEach [e] X.env = [(false, eval e X.env)]) :
    PI X (.Tuple elts kk tpos) (.Call (.Name "enumerate" p) [e] [] pos) (iEk X.K ta) := by
  refine ⟨fun pins s σ H R I h => ?_⟩
  refine Call_ (ld_blt I hg hm boot_enumerate (PyProof.Rows.callWith_type1 (thn (ha.run pos pins s σ H _ I h) fun us s1 ⟨vs, H1, I1, r1, q1⟩ => ?_) hs rfl))
  obtain ⟨k, a, xs, ex, hq, q⟩ := q1
  subst ex
  cases r1 with
  | cons r rr =>
    cases rr
    cases r
    obtain ⟨its, rv, p'⟩ := inv_sq I1 hq
    have hz : (s1.heap.push { cls := .type (if k then "list_iterator" else "tuple_iterator"), data := .fields #[.ref a, .int 0 0] }).objs.size = s1.heap.objs.size + 1 := Heap.size_push ..
    refine call_en (bgn_sq k a its.toArray) p' fun h' he hk => ?_
    rw [hz] at he ⊢
    have he' : IsEnum h' (s1.heap.objs.size + 1) s1.heap.objs.size 0 .none := he
    have hit : ItK k h' s1.heap.objs.size a 0 := by
      have q := hk _ _ (Heap.get?_push_size s1.heap rfl)
      cases k with
      | true => exact ⟨_, q, rfl, rfl⟩
      | false => exact ⟨_, q, rfl, rfl⟩
    refine wpAny_pyIter_enum he' ?_
    have I2 : Inv X pins σ H1 { s1 with heap := h' } := I1.kept (t' := s1.toks) fun b o q => hk b o (Heap.get?_push_of_some _ q)
    refine ⟨s1.heap.objs.size + 1, [s1.heap.objs.size + 1, s1.heap.objs.size], _, _, H1, rfl, I2, turn_ek k a (s1.heap.objs.size + 1) s1.heap.objs.size, ⟨⟨.none, he'⟩, hit, Nat.succ_ne_self _⟩, fun b hb => ?_, q⟩
    have e' : b = s1.heap.objs.size + 1 ∨ b = s1.heap.objs.size := by simpa using hb
    have hle : s1.heap.objs.size ≤ b := by
      rcases e' with z | z
      · rw [z]; exact Nat.le_add_right _ _
      · rw [z]; exact Nat.le_refl _
    exact I1.fpOk hle (I1.hok.fresh hle)
def Izk (k1 k2 : Bool) (K : Fg) (a b : Addr) : It :=
  ⟨fun i H => ∃ (xs ys : List V) (x y : V), SqK k1 K H a xs ∧ SqK k2 K H b ys ∧ xs[i]? = some x ∧ ys[i]? = some y,
    fun i H v H' => ∃ T x y, v = .ref T ∧ H T = none ∧ H' = upd H T (.tup [x, y]) ∧ (∀ xs, SqK k1 K H a xs → xs[i]? = some x) ∧ ∀ ys, SqK k2 K H b ys → ys[i]? = some y,
    fun i H => ∃ xs ys : List V, SqK k1 K H a xs ∧ SqK k2 K H b ys ∧ i ≤ xs.length ∧ i ≤ ys.length ∧ (i = xs.length ∨ i = ys.length)⟩
/-- a zip's cells between two turns -/
structure ZSt (k1 k2 : Bool) (z TI TO i1 i2 a b : Addr) (i : Nat) (h : Heap) : Prop where
  zc : ZpS h z TI TO
  ti : IsTupOf2 h TI (.ref i1) (.ref i2)
  to : ∃ a b, IsTupOf2 h TO a b
  s1 : ItK k1 h i1 a i
  s2 : ItK k2 h i2 b i
theorem ZSt.obj {k1 k2 : Bool} {z TI TO i1 i2 a b : Addr} {i : Nat} {h : Heap} (t : ZSt k1 k2 z TI TO i1 i2 a b i h) : ∀ c ∈ [z, TI, TO, i1, i2], ∃ o, h.get? c = some o ∧ ∀ v, o.data ≠ .cell v := fun c hc => by
  have e' : c = z ∨ c = TI ∨ c = TO ∨ c = i1 ∨ c = i2 := by simpa using hc
  obtain ⟨⟨_, _, zc, _⟩, ti, ⟨_, _, to⟩, s1, s2⟩ := t
  rcases e' with q | q | q | q | q
  · rw [q]; exact ⟨_, zc, fun v q => nomatch q⟩
  · rw [q]; exact ⟨_, ti, fun v q => nomatch q⟩
  · rw [q]; exact ⟨_, to, fun v q => nomatch q⟩
  · rw [q]; exact itK_some s1
  · rw [q]; exact itK_some s2
theorem ZSt.keep {k1 k2 : Bool} {z TI TO i1 i2 a b : Addr} {i : Nat} {h h' : Heap} (t : ZSt k1 k2 z TI TO i1 i2 a b i h) (f : ∀ c ∈ [z, TI, TO, i1, i2], ∀ o, h.get? c = some o → h'.get? c = some o) : ZSt k1 k2 z TI TO i1 i2 a b i h' := by
  obtain ⟨⟨_, _, zc, zq⟩, ti, ⟨_, _, to⟩, s1, s2⟩ := t
  exact ⟨⟨_, _, f z (by simp) _ zc, zq⟩, f TI (by simp) _ ti, ⟨_, _, f TO (by simp) _ to⟩, itK_at s1 fun o q => f i1 (by simp) o q, itK_at s2 fun o q => f i2 (by simp) o q⟩
theorem ZSt.lt {k1 k2 : Bool} {z TI TO i1 i2 a b : Addr} {i : Nat} {h : Heap} (t : ZSt k1 k2 z TI TO i1 i2 a b i h) : ∀ c ∈ [z, TI, TO, i1, i2], c < h.objs.size := fun c hc => by
  obtain ⟨o, e, _⟩ := t.obj c hc
  exact Heap.lt_size e
theorem go_zip {prog : Program} {w : World} {A : Around} {E : Value → Shared → Prop} {s : Shared} {elts : List Expr} {x1} {pos : Pos} {z TI TO T : Addr} {Q : Unit → Shared → Prop} (zc : ZpS s.heap z TI TO)
    (hQ : ∀ h', ZpS h' z TI TO → Heap.SameBut z s.heap h' → Q () { s with heap := h' }) : wpAny (model prog w) A (letOwnedTupleGo (.Tuple elts x1 pos) (.ref z) (.ref T)) Q E s := by
  obtain ⟨q, f, zf, zq⟩ := zc
  unfold letOwnedTupleGo
  refine wpAny_bind (wpAny_load zf ?_)
  show wpAny _ _ (if (["enumerate", "zip", "dict_itemiterator", "dict_reverseitemiterator", "odict_iterator", "itertools.zip_longest", "itertools.pairwise"].contains "zip" &&
      (#[q, .bool f, .bool false, .ref TI, .ref TO] : Array Value)[0]? == some (rawInt T)) = true then _ else _) _ _ s
  split
  · refine wpAny_bind (wpAny_rule ?_)
    show wpAny _ _ (setField (.ref z) 0 .none) Q E s
    exact wpAny_setField_rec zf (by simp) fun h' zf' sb => hQ h' ⟨.none, f, zf', .inl rfl⟩ sb
  · exact wpAny_pure (hQ s.heap ⟨q, f, zf, zq⟩ (.refl _ _))
end Mn
set_option Elab.async false
set_option linter.all false
set_option maxRecDepth 100000
set_option maxHeartbeats 4000000
namespace Mn
open PySem PySem.Spec L2 PyProof.Rows
open PySem.Sem (wp)
abbrev zCells (z TI TO i1 i2 : Addr) : List Addr := [z, TI, TO, i1, i2]
section
variable {prog : Program} {w : World} {A : Around} {E : Value → Shared → Prop} {s : Shared} {k1 k2 : Bool} {z TI TO i1 i2 a b : Addr} {i : Nat} {its ls : List Value} {u y : Value}
theorem zk_next {Q : Value → Shared → Prop} (hh : A.handled = none) (S : ZipSep2 z TI TO i1 i2 [i1, a] [i2, b]) (t : ZSt k1 k2 z TI TO i1 i2 a b i s.heap) (p1 : LtK k1 s.heap a its.toArray) (p2 : LtK k2 s.heap b ls.toArray) (hu : its[i]? = some u) (hy : ls[i]? = some y)
    (hQ : ∀ h' tk, ZSt k1 k2 z TI TO i1 i2 a b (i + 1) h' → IsTupOf2 h' s.heap.objs.size u y → h'.objs.size = s.heap.objs.size + 1 → (∀ c o, c ∉ zCells z TI TO i1 i2 → s.heap.get? c = some o → h'.get? c = some o) → Q (.ref s.heap.objs.size) { s with heap := h', toks := tk }) :
    wpAny (model prog w) A (Builtin.«zip.__next__» ⟨[.ref z], []⟩) (fun fin s' => ∃ v, fin = .done (.ret v) ∧ Q v s') E s := by
  have l1 : i < its.toArray.size := by simpa using (List.getElem?_eq_some_iff.mp hu).1
  have l2 : i < ls.toArray.size := by simpa using (List.getElem?_eq_some_iff.mp hy).1
  refine zp_next S (dr_sq (k := k1) hh i1 a (ltK_ne p1 t.s1) its.toArray) (dr_sq (k := k2) hh i2 b (ltK_ne p2 t.s2) ls.toArray) t.zc t.ti t.to ⟨t.s1, p1⟩ ⟨t.s2, p2⟩ l1 l2 fun x x2 h' tk e1 e2 zc to d1 d2 new sz k => ?_
  rw [List.getElem?_toArray, hu] at e1
  rw [List.getElem?_toArray, hy] at e2
  cases e1
  cases e2
  exact hQ h' tk ⟨zc, k _ _ S.TIz S.TITO S.TIi1 S.TIi2 t.ti, to, d1.1, d2.1⟩ new sz fun c o hc e => k c o (fun q => hc (by simp [q])) (fun q => hc (by simp [q])) (fun q => hc (by simp [q])) (fun q => hc (by simp [q])) e
theorem zk_end {Q : Fin → Shared → Prop} (hh : A.handled = none) (S : ZipSep2 z TI TO i1 i2 [i1, a] [i2, b]) (t : ZSt k1 k2 z TI TO i1 i2 a b i s.heap) (p1 : LtK k1 s.heap a its.toArray) (p2 : LtK k2 s.heap b ls.toArray) (h1 : i ≤ its.length) (h2 : i ≤ ls.length) (h3 : i = its.length ∨ i = ls.length)
    (hE : ∀ h' tk e, (∀ c o, c ∉ zCells z TI TO i1 i2 → s.heap.get? c = some o → h'.get? c = some o) → (∃ o, h'.get? e = some o ∧ o.cls = .type "StopIteration") → E (.ref e) { s with heap := h', toks := tk }) :
    wpAny (model prog w) A (Builtin.«zip.__next__» ⟨[.ref z], []⟩) Q E s :=
  zp_end S (dr_sq (k := k1) hh i1 a (ltK_ne p1 t.s1) its.toArray) (dr_sq (k := k2) hh i2 b (ltK_ne p2 t.s2) ls.toArray) t.zc t.ti t.to ⟨t.s1, p1⟩ ⟨t.s2, p2⟩ (by simpa using h1) (by simpa using h2) (by simpa using h3)
    fun h' tk e k he => hE h' tk e (fun c o hc x => k c o (fun q => hc (by simp [q])) (fun q => hc (by simp [q])) (fun q => hc (by simp [q])) (fun q => hc (by simp [q])) x) he
end
theorem turn_zk {P : Program} {w : World} {K : Fg} {elts : List Expr} {kk : Nat} {tpos : Pos} {k1 k2 : Bool} {z TI TO i1 i2 a b : Addr} (S : ZipSep2 z TI TO i1 i2 [i1, a] [i2, b]) :
    Turn P w K (.Tuple elts kk tpos) (Izk k1 k2 K a b) (zCells z TI TO i1 i2) z (ZSt k1 k2 z TI TO i1 i2 a b) where
  mem := by simp
  obj := fun i h t => t.obj
  keep := fun i h h' t f => t.keep f
  item := by
    intro X hP hw hK hc i pins s σ H E I hf t hg
    subst hP hw hK
    obtain ⟨xs, ys, x, y, hqx, hqy, hx, hy⟩ := hg
    obtain ⟨its, rv, p⟩ := inv_sq I hqx
    obtain ⟨ls, rv2, p2⟩ := inv_sq I hqy
    obtain ⟨u, hu, ru⟩ := rv.get hx
    obtain ⟨u2, hu2, ru2⟩ := rv2.get hy
    have hh := I.ok.hd hc
    have ht : s.TypeIs (.ref z) "zip" := let ⟨_, _, q, _⟩ := t.zc; ⟨_, q, rfl⟩
    have hlt := t.lt
    unfold pyNext
    refine wpAny_bind (wpAny_attempt (wpAny_callSpecial?_slot (name := Str.ofString "__next__") ht F.slot_zip_next
      (wpAny_call_entry F.slot_zip_next ht F.entry_zip_next (zk_next (A := X.A.in1) hh S t p p2 hu hu2 fun h' tk t' new sz k => wpAny_pure ?_) (F.args_zip_next_1 _))))
    refine ⟨_, rfl, go_zip (s := { s with heap := h', toks := tk }) t'.zc fun h'' zc'' sb => ?_⟩
    have hT2 : h''.get? s.heap.objs.size = some { cls := .type "tuple", data := .seq #[u, u2] } := (sb.2 _ (Nat.ne_of_gt (hlt z (by simp)))).trans new
    have nw : ObjOk X.prog X.w (upd H s.heap.objs.size (.tup [x, y])) h'' s.heap.objs.size (.tup [x, y]) :=
      ⟨by show 2 ≤ sizeLine; decide, [u, u2], .cons ru (.cons ru2 .nil), ⟨_, hT2, rfl, _, rfl⟩⟩
    have I1 : Inv X pins σ (upd H s.heap.objs.size (.tup [x, y])) { s with heap := h'', toks := tk } :=
      I.turnedNew (ch := zCells z TI TO i1 i2) (fun c o hb q => (sb.2 c (fun q' => hb (by simp [q']))).trans (k c o hb q)) hf (Nat.le_refl _) nw
    refine ⟨.ref s.heap.objs.size, _, I1, rfl, ⟨_, x, y, rfl, I.hok.fresh (Nat.le_refl _), rfl, fun l hl => by rw [inv_inj I hl hqx]; exact hx, fun l hl => by rw [inv_inj I hl hqy]; exact hy⟩, ⟨zc'', (sb.2 _ S.TIz).trans t'.ti, ?_, itK_at t'.s1 fun o q => (sb.2 _ (Ne.symm S.zi1)).trans q, itK_at t'.s2 fun o q => (sb.2 _ (Ne.symm S.zi2)).trans q⟩, fun c hcm => ?_⟩
    · obtain ⟨a1, a2, to⟩ := t'.to
      exact ⟨a1, a2, (sb.2 _ S.TOz).trans to⟩
    · rw [upd_ne (Nat.ne_of_lt (hlt c hcm))]
      exact (hf c hcm).1
  done := by
    intro X hP hw hK hc i pins s σ H E I hf t hg
    subst hP hw hK
    obtain ⟨xs, ys, hqx, hqy, h1, h2, h3⟩ := hg
    obtain ⟨its, rv, p⟩ := inv_sq I hqx
    obtain ⟨ls, rv2, p2⟩ := inv_sq I hqy
    have l1 := rv.length
    have l2 := rv2.length
    have hh := I.ok.hd hc
    have ht : s.TypeIs (.ref z) "zip" := let ⟨_, _, q, _⟩ := t.zc; ⟨_, q, rfl⟩
    unfold pyNext
    refine wpAny_bind (wpAny_attempt (wpAny_callSpecial?_slot (name := Str.ofString "__next__") ht F.slot_zip_next
      (wpAny_call_entry F.slot_zip_next ht F.entry_zip_next (zk_end (A := X.A.in1) hh S t p p2 (by omega) (by omega) (by omega) fun h' tk e k he => ?_) (F.args_zip_next_1 _))))
    obtain ⟨o, ho, hc⟩ := he
    refine wpAny_bind (wpAny_isInstance (T := "StopIteration") (b := true) ⟨o, ho, hc⟩ isSubtype_stop ?_)
    exact wpAny_pure ⟨rfl, I.turnedL (ch := zCells z TI TO i1 i2) k hf⟩
  self := fun A i s Q E t h => by
    obtain ⟨q, f, zf, _⟩ := t.zc
    have ht : s.TypeIs (.ref z) "zip" := ⟨_, zf, rfl⟩
    refine wpAny_pyIter_slot ht F.slot_zip_iter (wpAny_call_entry F.slot_zip_iter ht F.entry_zip_iter ?_ (F.args_zip_iter_1 _))
    show wpAny _ _ (ret (.ref z)) _ _ s
    exact wpAny_pure ⟨_, rfl, "zip", _, ht, F.slot_zip_next.lookup, h⟩
def Iez (k1 k2 : Bool) (K : Fg) (a b : Addr) : It :=
  ⟨fun i H => ∃ (xs ys : List V) (x y : V), SqK k1 K H a xs ∧ SqK k2 K H b ys ∧ xs[i]? = some x ∧ ys[i]? = some y,
    fun i H v H' => ∃ T U x y, v = .ref U ∧ H T = none ∧ H U = none ∧ U ≠ T ∧ H' = upd (upd H T (.tup [x, y])) U (.tup [.int (i : Nat), .ref T]) ∧ (∀ xs, SqK k1 K H a xs → xs[i]? = some x) ∧ ∀ ys, SqK k2 K H b ys → ys[i]? = some y,
    fun i H => ∃ xs ys : List V, SqK k1 K H a xs ∧ SqK k2 K H b ys ∧ i ≤ xs.length ∧ i ≤ ys.length ∧ (i = xs.length ∨ i = ys.length)⟩
theorem turn_ez {P : Program} {w : World} {K : Fg} {elts : List Expr} {kk : Nat} {tpos : Pos} {k1 k2 : Bool} {e z TI TO i1 i2 a b : Addr} (S : ZipSep2 z TI TO i1 i2 [i1, a] [i2, b]) (ne : e ∉ zCells z TI TO i1 i2) :
    Turn P w K (.Tuple elts kk tpos) (Iez k1 k2 K a b) (e :: zCells z TI TO i1 i2) e (fun i h => (∃ old, IsEnum h e z ((i : Nat) : Int) old) ∧ ZSt k1 k2 z TI TO i1 i2 a b i h) where
  mem := by simp
  obj := fun i h st c hc => by
    obtain ⟨⟨old, he⟩, t⟩ := st
    rcases List.mem_cons.mp hc with q | q
    · rw [q]; exact ⟨_, he, fun v q => nomatch q⟩
    · exact t.obj c q
  keep := fun i h h' st f => let ⟨⟨old, he⟩, t⟩ := st; ⟨⟨old, f e (by simp) _ he⟩, t.keep fun c hc => f c (List.mem_cons_of_mem _ hc)⟩
  item := by
    intro X hP hw hK hc i pins s σ H E I hf st hg
    subst hP hw hK
    obtain ⟨⟨old, he⟩, t⟩ := st
    obtain ⟨xs, ys, x, y, hqx, hqy, hx, hy⟩ := hg
    obtain ⟨its, rv, p⟩ := inv_sq I hqx
    obtain ⟨ls, rv2, p2⟩ := inv_sq I hqy
    obtain ⟨u, hu, ru⟩ := rv.get hx
    obtain ⟨u2, hu2, ru2⟩ := rv2.get hy
    have hh := I.ok.hd hc
    have ht : s.TypeIs (.ref z) "zip" := let ⟨_, _, q, _⟩ := t.zc; ⟨_, q, rfl⟩
    have hlt := t.lt
    have hel : e < s.heap.objs.size := Heap.lt_size he
    refine py_en (wr := zCells z TI TO i1 i2) (R := fun v h1 => v = .ref s.heap.objs.size ∧ ZSt k1 k2 z TI TO i1 i2 a b (i + 1) h1 ∧ IsTupOf2 h1 s.heap.objs.size u u2 ∧ h1.objs.size = s.heap.objs.size + 1) (fun Q' E' hq' => ?_) he ne fun v h1 h' tk hr hk ho hT hsz hk2 => ?_
    · unfold Builtin.SmallTypes.nextOf
      exact wpAny_bind (wpAny_callSpecial?_slot (name := Str.ofString "__next__") ht F.slot_zip_next
        (wpAny_call_entry F.slot_zip_next ht F.entry_zip_next (zk_next (A := X.A.in1.in1) hh S t p p2 hu hu2 fun h' tk t' new sz k => wpAny_pure (hq' _ h' tk ⟨rfl, t', new, sz⟩ k)) (F.args_zip_next_1 _)))
    obtain ⟨rfl, t', new, sz⟩ := hr
    refine ⟨_, rfl, wpAny_letOwnedTupleGo_enum (s := { s with heap := h', toks := tk + 1 }) ho fun h'' he' sb => ?_⟩
    have nT : s.heap.objs.size ≠ e := Nat.ne_of_gt hel
    have nU : h1.objs.size ≠ e := by rw [sz]; exact Nat.ne_of_gt (Nat.lt_succ_of_lt hel)
    have up : ∀ b o, b ≠ e → h1.get? b = some o → h''.get? b = some o := fun b o q r => (sb.2 b q).trans (hk2 b o q r)
    have hT1 : h1.get? s.heap.objs.size = some { cls := .type "tuple", data := .seq #[u, u2] } := new
    have hU2 : h''.get? h1.objs.size = some { cls := .type "tuple", data := .seq #[.int i tk, .ref s.heap.objs.size] } := (sb.2 _ nU).trans hT
    have nw : ObjOk X.prog X.w (upd H s.heap.objs.size (.tup [x, y])) h1 s.heap.objs.size (.tup [x, y]) :=
      ⟨by show 2 ≤ sizeLine; decide, [u, u2], .cons ru (.cons ru2 .nil), ⟨_, hT1, rfl, _, rfl⟩⟩
    have I1 : Inv X pins σ (upd H s.heap.objs.size (.tup [x, y])) { s with heap := h1, toks := tk } :=
      I.turnedNew (ch := zCells z TI TO i1 i2) hk (fun c hc => hf c (List.mem_cons_of_mem _ hc)) (Nat.le_refl _) nw
    have fe : FpOk X pins (upd H s.heap.objs.size (.tup [x, y])) e := by
      obtain ⟨q1, q2⟩ := hf e (by simp)
      exact ⟨by rw [upd_ne (Ne.symm nT)]; exact q1, q2⟩
    have nw2 : ObjOk X.prog X.w (upd (upd H s.heap.objs.size (.tup [x, y])) h1.objs.size (.tup [.int (i : Nat), .ref s.heap.objs.size])) h'' h1.objs.size (.tup [.int (i : Nat), .ref s.heap.objs.size]) :=
      ⟨by show 2 ≤ sizeLine; decide, [.int i tk, .ref s.heap.objs.size], .cons ⟨_, rfl⟩ (.cons rfl .nil), ⟨_, hU2, rfl, _, rfl⟩⟩
    have I2 : Inv X pins σ (upd (upd H s.heap.objs.size (.tup [x, y])) h1.objs.size (.tup [.int (i : Nat), .ref s.heap.objs.size])) { s with heap := h'', toks := tk + 1 } :=
      I1.turnedNew (ch := [e]) (fun b o hb q => up b o (by simpa using hb) q) (fun b hb => by rw [List.mem_singleton.mp hb]; exact fe) (Nat.le_refl _) nw2
    refine ⟨.ref h1.objs.size, _, I2, rfl, ⟨s.heap.objs.size, h1.objs.size, x, y, rfl, I.hok.fresh (Nat.le_refl _), I.hok.fresh (by rw [sz]; exact Nat.le_succ _), by rw [sz]; exact Nat.succ_ne_self _, rfl, fun l hl => by rw [inv_inj I hl hqx]; exact hx, fun l hl => by rw [inv_inj I hl hqy]; exact hy⟩, ⟨⟨.ref s.heap.objs.size, ?_⟩, t'.keep fun c hc o q => up c o (fun z => ne (z ▸ hc)) q⟩, fun c hcm => ?_⟩
    · have e1 : ((i + 1 : Nat) : Int) = (i : Int) + 1 := by omega
      rw [e1]; exact he'
    · have lc : c < s.heap.objs.size := by
        rcases List.mem_cons.mp hcm with q | q
        · rw [q]; exact hel
        · exact hlt c q
      rw [upd_ne (by rw [sz]; exact Nat.ne_of_lt (Nat.lt_succ_of_lt lc)), upd_ne (Nat.ne_of_lt lc)]
      exact (hf c hcm).1
  done := by
    intro X hP hw hK hc i pins s σ H E I hf st hg
    subst hP hw hK
    obtain ⟨⟨old, he⟩, t⟩ := st
    obtain ⟨xs, ys, hqx, hqy, h1, h2, h3⟩ := hg
    obtain ⟨its, rv, p⟩ := inv_sq I hqx
    obtain ⟨ls, rv2, p2⟩ := inv_sq I hqy
    have l1 := rv.length
    have l2 := rv2.length
    have hh := I.ok.hd hc
    have ht : s.TypeIs (.ref z) "zip" := let ⟨_, _, q, _⟩ := t.zc; ⟨_, q, rfl⟩
    refine py_en_end (wr := zCells z TI TO i1 i2) (fun Q' E' hq' => ?_) he fun h1 tk hk => ⟨rfl, I.turnedL (ch := zCells z TI TO i1 i2) hk fun b hb => hf b (List.mem_cons_of_mem _ hb)⟩
    unfold Builtin.SmallTypes.nextOf
    exact wpAny_bind (wpAny_callSpecial?_slot (name := Str.ofString "__next__") ht F.slot_zip_next
      (wpAny_call_entry F.slot_zip_next ht F.entry_zip_next (zk_end (A := X.A.in1.in1) hh S t p p2 (by omega) (by omega) (by omega) fun h' tk e k he => hq' h' tk e he k) (F.args_zip_next_1 _)))
  self := fun A i s Q E st h => let ⟨⟨_, he⟩, _⟩ := st; wpAny_pyIter_enum he h
end Mn
set_option Elab.async false
set_option linter.all false
set_option maxRecDepth 100000
set_option maxHeartbeats 4000000
namespace Mn
open PySem PySem.Spec L2 PyProof.Rows
open PySem.Sem (wp)
theorem begins_k (k : Bool) (a : Addr) (its : Array Value) : Begins (.ref a) { cls := .type (if k then "list_iterator" else "tuple_iterator"), data := .fields #[.ref a, .int 0 0] } fun h => LtK k h a its := by
  cases k with
  | true => exact begins_list a its
  | false => exact begins_tuple a its
theorem itK_mk {k : Bool} {h : Heap} {it a : Addr} (q : h.get? it = some { cls := .type (if k then "list_iterator" else "tuple_iterator"), data := .fields #[.ref a, .int 0 0] }) : ItK k h it a 0 := by
  cases k with
  | true => exact ⟨_, q, rfl, rfl⟩
  | false => exact ⟨_, q, rfl, rfl⟩
/-- what a new zip leaves -/
theorem zip_new {prog : Program} {w : World} {A : Around} {E : Value → Shared → Prop} {s : Shared} {k1 k2 : Bool} {a b : Addr} {its ls : Array Value} {Q : Value → Shared → Prop} (p : LtK k1 s.heap a its) (p2 : LtK k2 s.heap b ls)
    (h : ∀ h', IsZip h' (s.heap.objs.size + 4) (s.heap.objs.size + 2) (s.heap.objs.size + 3) .none → ZSt k1 k2 (s.heap.objs.size + 4) (s.heap.objs.size + 2) (s.heap.objs.size + 3) s.heap.objs.size (s.heap.objs.size + 1) a b 0 h' → h'.objs.size = s.heap.objs.size + 5 → (∀ c o, s.heap.get? c = some o → h'.get? c = some o) → Q (.ref (s.heap.objs.size + 4)) { s with heap := h' }) :
    wpAny (model prog w) A (call (.type "zip") [.ref a, .ref b]) Q E s :=
  zip_begins2 (begins_k k1 a its) (begins_k k2 b ls) p p2 fun h' z ti to q1 q2 sz kp => h h' z ⟨⟨_, _, z, .inl rfl⟩, ti, ⟨_, _, to⟩, itK_mk q1, itK_mk q2⟩ sz kp
theorem zip_sep {N a b : Addr} (h1 : a < N) (h2 : b < N) : ZipSep2 (N + 4) (N + 2) (N + 3) N (N + 1) [N, a] [N + 1, b] :=
  zip_sep2 (fun c hc => by rw [List.mem_singleton.mp hc]; exact h1) (fun c hc => by rw [List.mem_singleton.mp hc]; exact h2)
theorem fresh_z {X : Cx} {pins : List (Addr × Obj)} {σ : L2.St} {H : Hp} {s : Shared} (I : Inv X pins σ H s) : ∀ c ∈ zCells (s.heap.objs.size + 4) (s.heap.objs.size + 2) (s.heap.objs.size + 3) s.heap.objs.size (s.heap.objs.size + 1), FpOk X pins H c := fun c hcm => by
  have e' : c = s.heap.objs.size + 4 ∨ c = s.heap.objs.size + 2 ∨ c = s.heap.objs.size + 3 ∨ c = s.heap.objs.size ∨ c = s.heap.objs.size + 1 := by simpa using hcm
  have hle : s.heap.objs.size ≤ c := by
    rcases e' with z | z | z | z | z
    · rw [z]; exact Nat.le_add_right _ _
    · rw [z]; exact Nat.le_add_right _ _
    · rw [z]; exact Nat.le_add_right _ _
    · rw [z]; exact Nat.le_refl _
    · rw [z]; exact Nat.le_add_right _ _
  exact I.fpOk hle (I.hok.fresh hle)
def iZk (K : Fg) (ta : TA) : TI := fun σ H R => ta σ H fun vs H1 => ∃ k1 k2 a b xs ys, vs = [.ref a, .ref b] ∧ SqK k1 K H1 a xs ∧ SqK k2 K H1 b ys ∧ R (Izk k1 k2 K a b) H1
theorem pi_zk {X : Cx} {e e2 : Expr} {ta : TA} {p pos tpos : Pos} {elts : List Expr} {kk : Nat} (hg : Gl X "zip") (hm : X.mg "zip" = none) (ha : PA X [e, e2] ta)
    (hs : starEach [e, e2] X.env = (false, eval e X.env) :: starEach [e2] X.env) (hpl : (backTo pos (starEach [e2] X.env)).any (·.1) = false) :
    PI X (.Tuple elts kk tpos) (.Call (.Name "zip" p) [e, e2] [] pos) (iZk X.K ta) := by
  refine ⟨fun pins s σ H R I h => ?_⟩
  refine Call_ (ld_blt I hg hm PyProof.Rows.boot_zip (PyProof.Rows.callWith_type1 (thn (ha.run pos pins s σ H _ I h) fun us s1 ⟨vs, H1, I1, r1, q1⟩ => ?_) hs hpl))
  obtain ⟨k1, k2, a, b, xs, ys, ex, hqx, hqy, q⟩ := q1
  subst ex
  cases r1 with
  | cons r rr =>
    cases rr with
    | cons r' rr =>
      cases rr
      cases r
      cases r'
      obtain ⟨its, rv, p1⟩ := inv_sq I1 hqx
      obtain ⟨ls, rv2, p2⟩ := inv_sq I1 hqy
      obtain ⟨o1, l1⟩ := ltK_some p1
      obtain ⟨o2, l2⟩ := ltK_some p2
      refine zip_new p1 p2 fun h' hz st sz kp => wpAny_pyIter_zip hz ?_
      have I2 : Inv X pins σ H1 { s1 with heap := h' } := I1.kept (t' := s1.toks) kp
      exact ⟨s1.heap.objs.size + 4, _, _, _, H1, rfl, I2, turn_zk (zip_sep (Heap.lt_size l1) (Heap.lt_size l2)), st, fresh_z I1, q⟩
def iEz (K : Fg) (ta : TA) : TI := fun σ H R => ta σ H fun vs H1 => ∃ k1 k2 a b xs ys, vs = [.ref a, .ref b] ∧ SqK k1 K H1 a xs ∧ SqK k2 K H1 b ys ∧ R (Iez k1 k2 K a b) H1
theorem pi_ez {X : Cx} {e e2 : Expr} {ta : TA} {p p' pos pos' tpos : Pos} {elts : List Expr} {kk : Nat} (hg : Gl X "enumerate") (hm : X.mg "enumerate" = none) (hg2 : Gl X "zip") (hm2 : X.mg "zip" = none) (ha : PA X [e, e2] ta)
    (hs : starEach [e, e2] X.env = (false, eval e X.env) :: starEach [e2] X.env) (hpl : (backTo pos' (starEach [e2] X.env)).any (·.1) = false) :
    PI X (.Tuple elts kk tpos) (.Call (.Name "enumerate" p) [.Call (.Name "zip" p') [e, e2] [] pos'] [] pos) (iEz X.K ta) := by
  refine ⟨fun pins s σ H R I h => ?_⟩
  refine Call_ (ld_blt I hg hm boot_enumerate (PyProof.Rows.callWith_type1 ?_ rfl rfl))
  show wpAny _ _ (spliced ((false, eval (.Call (.Name "zip" p') [e, e2] [] pos') X.env) :: backTo pos (starEach [] X.env))) _ _ s
  refine Calls.spliced_cons ?_
  refine Call_ (ld_blt I hg2 hm2 PyProof.Rows.boot_zip (PyProof.Rows.callWith_type1 (thn (ha.run pos' pins s σ H _ I h) fun us s1 ⟨vs, H1, I1, r1, q1⟩ => ?_) hs hpl))
  obtain ⟨k1, k2, a, b, xs, ys, ex, hqx, hqy, q⟩ := q1
  subst ex
  cases r1 with
  | cons r rr =>
    cases rr with
    | cons r' rr =>
      cases rr
      cases r
      cases r'
      obtain ⟨its, rv, p1⟩ := inv_sq I1 hqx
      obtain ⟨ls, rv2, p2⟩ := inv_sq I1 hqy
      obtain ⟨o1, l1⟩ := ltK_some p1
      obtain ⟨o2, l2⟩ := ltK_some p2
      refine zip_new p1 p2 fun h' hz st sz kp => Calls.spliced_nil ?_
      refine call_en (s := { s1 with heap := h' }) (bgn_zip _ _ _) hz fun h2 he hk => ?_
      have I2 : Inv X pins σ H1 { s1 with heap := h' } := I1.kept (t' := s1.toks) kp
      have he' : IsEnum h2 h'.objs.size (s1.heap.objs.size + 4) 0 .none := he
      refine wpAny_pyIter_enum he' ?_
      have I3 : Inv X pins σ H1 { s1 with heap := h2 } := I2.kept (t' := s1.toks) hk
      have ne : h'.objs.size ∉ zCells (s1.heap.objs.size + 4) (s1.heap.objs.size + 2) (s1.heap.objs.size + 3) s1.heap.objs.size (s1.heap.objs.size + 1) := fun c => Nat.lt_irrefl _ (st.lt _ c)
      refine ⟨h'.objs.size, _, _, _, H1, rfl, I3, turn_ez (zip_sep (Heap.lt_size l1) (Heap.lt_size l2)) ne, ⟨⟨.none, he'⟩, st.keep fun c _ o e => hk c o e⟩, fun c hc => ?_, q⟩
      rcases List.mem_cons.mp hc with e | e
      · rw [e]
        exact I2.fpOk (Nat.le_refl _) (I2.hok.fresh (Nat.le_refl _))
      · exact fresh_z I1 c e
end Mn
set_option Elab.async false
set_option linter.all false
set_option maxRecDepth 100000
set_option maxHeartbeats 1000000
namespace Mn
open PySem PySem.Spec L2
def enD : Nat → List D → List D
  | _, [] => []
  | j, d :: r => .tup [.int (j : Nat), d] :: enD (j + 1) r
def zpD : List D → List D → List D
  | x :: xs, y :: ys => .tup [x, y] :: zpD xs ys
  | _, _ => []
theorem enD_length : ∀ (ds : List D) (j : Nat), (enD j ds).length = ds.length
  | [], _ => rfl
  | _ :: r, j => congrArg Nat.succ (enD_length r (j + 1))
theorem enD_at : ∀ (ds : List D) (j i : Nat), (enD j ds)[i]? = (ds[i]?).map fun d => .tup [.int ((j + i : Nat) : Int), d]
  | [], _, _ => by simp [enD]
  | d :: r, j, 0 => by simp [enD]
  | d :: r, j, i + 1 => by
    simp only [enD, List.getElem?_cons_succ]
    rw [enD_at r (j + 1) i, show j + 1 + i = j + (i + 1) by omega]
theorem zpD_length : ∀ (xs ys : List D), (zpD xs ys).length = min xs.length ys.length
  | [], ys => by simp [zpD]
  | _ :: _, [] => by simp [zpD]
  | _ :: r, _ :: q => by
    simp only [zpD, List.length_cons, zpD_length r q]
    omega
theorem zpD_at : ∀ (xs ys : List D) (i : Nat) (d : D), (zpD xs ys)[i]? = some d → ∃ x y, xs[i]? = some x ∧ ys[i]? = some y ∧ d = .tup [x, y]
  | [], _, _, _, h => by simp [zpD] at h
  | _ :: _, [], _, _, h => by simp [zpD] at h
  | x :: r, y :: q, 0, d, h => by
    simp [zpD] at h
    exact ⟨x, y, rfl, rfl, h.symm⟩
  | _ :: r, _ :: q, i + 1, d, h => by
    simp only [zpD, List.getElem?_cons_succ] at h ⊢
    exact zpD_at r q i d h
theorem Sub.sqK {k : Bool} {K : Fg} {F H : Hp} {a : Addr} {vs : List V} (h : Sub F H) (q : SqK k K F a vs) : SqK k K H a vs := by
  cases k with
  | true => exact h.sqL q
  | false => exact h.sqT q
section
variable {K : Fg} {F : Hp} {a b : Addr} {vs us : List V} {ds es : List D} {k k2 : Bool}
theorem gw_ek (q : SqK k K F a vs) (r : Reps K F vs ds) : Gw K F (enD 0 ds) (Iek k K a) where
  go := fun i H hi f => ⟨vs, vs[i]'(by rw [r.length]; rwa [enD_length] at hi), f.sqK q, by
    rw [enD_length] at hi
    simp [r.length, hi]⟩
  stop := fun H f => ⟨vs, f.sqK q, by rw [r.length, enD_length]; exact Nat.le_refl _⟩
  yld := fun i H x H' d hd f y Z F1 en σ sr f1 => by
    obtain ⟨T, x1, rfl, hT, rfl, y⟩ := y
    rw [enD_at] at hd
    cases e : ds[i]? with
    | none => rw [e] at hd; cases hd
    | some d1 =>
      rw [e] at hd
      obtain ⟨v, h1, h2⟩ := r.at e
      have e2 := y vs (f.sqK q)
      rw [h1] at e2
      cases e2
      cases hd
      refine ⟨_, .up (sr.ex.none hT), sr.laid hT, .tup upd_same (.cons ?_ (.cons ((h2.mono f1).mono (.up (sr.ex.none hT))) .nil))⟩
      rw [Nat.zero_add]
      exact .int _
theorem gw_zk (q : SqK k K F a vs) (r : Reps K F vs ds) (q2 : SqK k2 K F b us) (r2 : Reps K F us es) : Gw K F (zpD ds es) (Izk k k2 K a b) where
  go := fun i H hi f => by
    rw [zpD_length] at hi
    exact ⟨vs, us, vs[i]'(by rw [r.length]; omega), us[i]'(by rw [r2.length]; omega), f.sqK q, f.sqK q2, by simp, by simp⟩
  stop := fun H f => by
    refine ⟨vs, us, f.sqK q, f.sqK q2, ?_⟩
    rw [zpD_length, r.length, r2.length]
    omega
  yld := fun i H x H' d hd f y Z F1 en σ sr f1 => by
    obtain ⟨T, x1, y1, rfl, hT, rfl, g1, g2⟩ := y
    obtain ⟨dx, dy, h1, h2, rfl⟩ := zpD_at _ _ _ _ hd
    obtain ⟨v, e1, p1⟩ := r.at h1
    obtain ⟨u, e2, p2⟩ := r2.at h2
    have c1 := g1 vs (f.sqK q)
    have c2 := g2 us (f.sqK q2)
    rw [e1] at c1
    rw [e2] at c2
    cases c1
    cases c2
    have up := Sub.up (o := .tup [x1, y1]) (sr.ex.none hT)
    exact ⟨_, up, sr.laid hT, .tup upd_same (.cons ((p1.mono f1).mono up) (.cons ((p2.mono f1).mono up) .nil))⟩
theorem gw_ez (q : SqK k K F a vs) (r : Reps K F vs ds) (q2 : SqK k2 K F b us) (r2 : Reps K F us es) : Gw K F (enD 0 (zpD ds es)) (Iez k k2 K a b) where
  go := fun i H hi f => by
    rw [enD_length, zpD_length] at hi
    exact ⟨vs, us, vs[i]'(by rw [r.length]; omega), us[i]'(by rw [r2.length]; omega), f.sqK q, f.sqK q2, by simp, by simp⟩
  stop := fun H f => by
    refine ⟨vs, us, f.sqK q, f.sqK q2, ?_⟩
    rw [enD_length, zpD_length, r.length, r2.length]
    omega
  yld := fun i H x H' d hd f y Z F1 en σ sr f1 => by
    obtain ⟨T, U, x1, y1, rfl, hT, hU, ne, rfl, g1, g2⟩ := y
    rw [enD_at] at hd
    cases e : (zpD ds es)[i]? with
    | none => rw [e] at hd; cases hd
    | some d1 =>
      rw [e] at hd
      obtain ⟨dx, dy, h1, h2, rfl⟩ := zpD_at _ _ _ _ e
      obtain ⟨v, e1, p1⟩ := r.at h1
      obtain ⟨u, e2, p2⟩ := r2.at h2
      have c1 := g1 vs (f.sqK q)
      have c2 := g2 us (f.sqK q2)
      rw [e1] at c1
      rw [e2] at c2
      cases c1
      cases c2
      cases hd
      have up := Sub.up (o := .tup [x1, y1]) (sr.ex.none hT)
      have s1 := sr.laid (o := .tup [x1, y1]) hT
      have hU1 : upd H T (.tup [x1, y1]) U = none := by rw [upd_ne ne]; exact hU
      have up2 := Sub.up (o := .tup [.int (i : Nat), .ref T]) (s1.ex.none hU1)
      refine ⟨_, up.tr up2, s1.laid hU1, .tup upd_same (.cons ?_ (.cons ((Rep.tup upd_same (.cons ((p1.mono f1).mono up) (.cons ((p2.mono f1).mono up) .nil))).mono up2) .nil))⟩
      rw [Nat.zero_add]
      exact .int _
end
/-- a datum that is a list or a tuple, at an address -/
theorem rep_sq {K : Fg} {F : Hp} {v : V} {d : D} {ds : List D} (r : Rep K F v d) (h : itemsOf d = some ds) : ∃ k a vs, v = .ref a ∧ SqK k K F a vs ∧ Reps K F vs ds := by
  cases r with
  | @lst a vs xs q r => cases h; exact ⟨true, a, vs, rfl, SqL.of q, r⟩
  | @tup a vs xs q r => cases h; exact ⟨false, a, vs, rfl, SqT.of q, r⟩
  | @tpb a vs xs q r => cases h; exact ⟨false, a, vs, rfl, q.sq, r⟩
  | @scr a is q => cases h; exact ⟨true, a, _, rfl, q, Reps.ints⟩
  | _ => cases h
def mEnum (m : Fx D) : Fx (List D) := m.bind fun d en => match itemsOf d with
  | some ds => .ok (enD 0 ds) en
  | none => .bad
def mZip (m m2 : Fx D) : Fx (List D) := m.bind fun d => m2.bind fun e en => match itemsOf d, itemsOf e with
  | some ds, some es => .ok (zpD ds es) en
  | _, _ => .bad
def mEz (m m2 : Fx D) : Fx (List D) := m.bind fun d => m2.bind fun e en => match itemsOf d, itemsOf e with
  | some ds, some es => .ok (enD 0 (zpD ds es)) en
  | _, _ => .bad
section
variable {X : Cx} {W : WX} {e1 e2 : Expr} {p p' pos pos' tpos : Pos} {elts : List Expr} {kk : Nat}
theorem ei_enum {m : Fx D} (hg : Gl X "enumerate") (hm : X.mg "enumerate" = none) (h : EV X W m e1) (ns : notStar e1 = true) : EI X W (mEnum m) (.Tuple elts kk tpos) (.Call (.Name "enumerate" p) [e1] [] pos) := by
  refine ⟨_, pi_ek hg hm (pa_cons h pa_nil (star_cons ns)) (star_cons ns), fun σ H R ⟨Z, F, en, sr, q⟩ => ⟨Z, F, en, sr, (RP.split q).mono fun d en1 F1 H1 sr1 f1 p v r => ?_⟩⟩
  cases e : itemsOf d with
  | none =>
    rw [e] at p
    exact p.elim
  | some ds =>
    rw [e] at p
    obtain ⟨k, a, vs, rfl, q, rs⟩ := rep_sq r e
    exact ⟨k, a, vs, rfl, sr1.ex.sqK q, p F1 H1 sr1 .rfl _ (gw_ek q rs)⟩
theorem zip_of {m m2 : Fx D} {g : List D → List D → List D} {J : Bool → Bool → Addr → Addr → It} (ok : ∀ k k2 F a b vs us ds es, SqK k X.K F a vs → Reps X.K F vs ds → SqK k2 X.K F b us → Reps X.K F us es → Gw X.K F (g ds es) (J k k2 a b)) :
    ∀ (σ : L2.St) (H : Hp) (R : It → Hp → Prop), (∃ Z F en, SR X.K Z F H en σ ∧ RP X.K W Z F σ ((m.bind fun d => m2.bind fun e en => match itemsOf d, itemsOf e with
      | some ds, some es => .ok (g ds es) en
      | _, _ => .bad) en) fun ds en' F' H' => ∀ J, Gw X.K F' ds J → R J H') → (tCons (cV X.K W m) (tCons (cV X.K W m2) tNil)) σ H fun vs H1 => ∃ k1 k2 a b xs ys, vs = [.ref a, .ref b] ∧ SqK k1 X.K H1 a xs ∧ SqK k2 X.K H1 b ys ∧ R (J k1 k2 a b) H1 := by
  intro σ H R ⟨Z, F, en, sr, q⟩
  refine ⟨Z, F, en, sr, (RP.split q).mono fun d en1 F1 H1 sr1 f1 p v r => ⟨Z, F1, en1, sr1, (RP.split p).mono fun d2 en2 F2 H2 sr2 f2 p2 v2 r2 => ?_⟩⟩
  cases e : itemsOf d with
  | none =>
    rw [e] at p2
    exact p2.elim
  | some ds =>
    cases e2 : itemsOf d2 with
    | none =>
      rw [e, e2] at p2
      exact p2.elim
    | some es =>
      rw [e, e2] at p2
      obtain ⟨k, a, vs, rfl, q, rs⟩ := rep_sq (r.mono f2) e
      obtain ⟨k2, b, us, rfl, q2, rs2⟩ := rep_sq r2 e2
      exact ⟨k, k2, a, b, vs, us, rfl, sr2.ex.sqK q, sr2.ex.sqK q2, p2 F2 H2 sr2 .rfl _ (ok _ _ _ _ _ _ _ _ _ q rs q2 rs2)⟩
theorem ei_zip {m m2 : Fx D} (hg : Gl X "zip") (hm : X.mg "zip" = none) (h : EV X W m e1) (h2 : EV X W m2 e2) (ns : notStar e1 = true) (ns2 : notStar e2 = true) : EI X W (mZip m m2) (.Tuple elts kk tpos) (.Call (.Name "zip" p) [e1, e2] [] pos) := by
  have s2 : starEach [e2] X.env = [(false, eval e2 X.env)] := star_cons ns2
  exact ⟨_, pi_zk hg hm (pa_cons h (pa_cons h2 pa_nil (star_cons ns2)) (star_cons ns)) (star_cons ns) (by rw [s2]; rfl), zip_of fun _ _ _ _ _ _ _ _ _ q r q2 r2 => gw_zk q r q2 r2⟩
theorem ei_ez {m m2 : Fx D} (hg : Gl X "enumerate") (hm : X.mg "enumerate" = none) (hg2 : Gl X "zip") (hm2 : X.mg "zip" = none) (h : EV X W m e1) (h2 : EV X W m2 e2) (ns : notStar e1 = true) (ns2 : notStar e2 = true) : EI X W (mEz m m2) (.Tuple elts kk tpos) (.Call (.Name "enumerate" p) [.Call (.Name "zip" p') [e1, e2] [] pos'] [] pos) := by
  have s2 : starEach [e2] X.env = [(false, eval e2 X.env)] := star_cons ns2
  exact ⟨_, pi_ez hg hm hg2 hm2 (pa_cons h (pa_cons h2 pa_nil (star_cons ns2)) (star_cons ns)) (star_cons ns) (by rw [s2]; rfl), zip_of (g := fun ds es => enD 0 (zpD ds es)) fun _ _ _ _ _ _ _ _ _ q r q2 r2 => gw_ez q r q2 r2⟩
end
end Mn
set_option Elab.async false
set_option linter.all false
set_option maxRecDepth 100000
set_option maxHeartbeats 4000000
namespace Mn
open PySem PySem.Spec L2 PyProof.Rows
open PySem.Sem (wp)
theorem pa_zip {prog : Program} {w : World} {k1 k2 : Bool} {z TI TO i1 i2 a b : Addr} (S : ZipSep2 z TI TO i1 i2 [i1, a] [i2, b]) (az : a ∉ zCells z TI TO i1 i2) (bz : b ∉ zCells z TI TO i1 i2) (its ls : List Value) :
    PairArg prog w "zip" z (zCells z TI TO i1 i2 ++ [a, b]) (zCells z TI TO i1 i2) (min its.length ls.length) (fun i k v => its[i]? = some k ∧ ls[i]? = some v)
      (fun h => IsZip h z TI TO .none ∧ ZSt k1 k2 z TI TO i1 i2 a b 0 h ∧ LtK k1 h a its.toArray ∧ LtK k2 h b ls.toArray) where
  type := fun s ok => ⟨_, ok.1, rfl⟩
  notDict := by decide
  keep := fun h h' ok hk => ⟨hk _ _ ok.1, ok.2.1.keep fun c _ o e => hk c o e, ltK_at ok.2.2.1 fun o e => hk _ o e, ltK_at ok.2.2.2 fun o e => hk _ o e⟩
  there := fun h ok c hc => by
    rcases List.mem_append.mp hc with q | q
    · obtain ⟨o, e, _⟩ := ok.2.1.obj c q
      exact ⟨o, e⟩
    · have e' : c = a ∨ c = b := by simpa using q
      rcases e' with q | q
      · rw [q]; exact ltK_some ok.2.2.1
      · rw [q]; exact ltK_some ok.2.2.2
  sub := fun c hc => List.mem_append_left _ hc
  noKeys := fun A s Q E hA ok h => getAttrOr_miss_zip ok.1 rfl rfl rfl zip_no_keys (by decide +kernel) hA h
  iter := fun A s d Q E hA ok hd hdf h => by
    have dz : d ∉ zCells z TI TO i1 i2 := fun q => hdf (List.mem_append_left _ q)
    have da : d ≠ a := fun q => hdf (List.mem_append_right _ (by simp [q]))
    have db : d ≠ b := fun q => hdf (List.mem_append_right _ (by simp [q]))
    refine wpAny_pyIter_zip ok.1 (h z (zCells z TI TO i1 i2) (fun i h => ZSt k1 k2 z TI TO i1 i2 a b i h ∧ LtK k1 h a its.toArray ∧ LtK k2 h b ls.toArray) s.heap s.toks ?_ ok.2 (fun _ _ e => e) fun b hb => .inl hb)
    exact {
      off := dz
      frame := fun i h₁ h₂ st hk => ⟨st.1.keep fun c hc o e => hk c o (fun q => dz (q ▸ hc)) e, ltK_at st.2.1 fun o e => hk _ o (Ne.symm da) e, ltK_at st.2.2 fun o e => hk _ o (Ne.symm db) e⟩
      item := fun i s₁ Q₁ E₁ hi st hds hQ => by
        obtain ⟨t, p, p2⟩ := st
        have hix : i < its.length := Nat.lt_of_lt_of_le hi (Nat.min_le_left ..)
        have hiy : i < ls.length := Nat.lt_of_lt_of_le hi (Nat.min_le_right ..)
        have ex := List.getElem?_eq_getElem hix
        have ey := List.getElem?_eq_getElem hiy
        have ht : s₁.TypeIs (.ref z) "zip" := let ⟨_, _, q, _⟩ := t.zc; ⟨_, q, rfl⟩
        unfold pyNext
        exact wpAny_bind (wpAny_attempt (wpAny_callSpecial?_slot (name := Str.ofString "__next__") ht F.slot_zip_next
          (wpAny_call_entry F.slot_zip_next ht F.entry_zip_next (zk_next (A := A.in1) hA S t p p2 ex ey fun h' tk t' new sz k => wpAny_pure
            (hQ _ _ _ h' tk ⟨ex, ey⟩ (.inl ⟨_, new, rfl, _, rfl⟩) ⟨t', ltK_at p fun o e => k _ o az e, ltK_at p2 fun o e => k _ o bz e⟩ k)) (F.args_zip_next_1 _))))
      done := fun s₁ Q₁ E₁ st hQ => by
        obtain ⟨t, p, p2⟩ := st
        have ht : s₁.TypeIs (.ref z) "zip" := let ⟨_, _, q, _⟩ := t.zc; ⟨_, q, rfl⟩
        unfold pyNext
        refine wpAny_bind (wpAny_attempt (wpAny_callSpecial?_slot (name := Str.ofString "__next__") ht F.slot_zip_next
          (wpAny_call_entry F.slot_zip_next ht F.entry_zip_next (zk_end (A := A.in1) hA S t p p2 (by omega) (by omega) (by omega) fun h' tk e k he => ?_) (F.args_zip_next_1 _))))
        obtain ⟨o, ho, hc⟩ := he
        refine wpAny_bind (wpAny_isInstance (T := "StopIteration") (b := true) ⟨o, ho, hc⟩ isSubtype_stop ?_)
        exact wpAny_pure (hQ _ _ k) }
theorem stored_nodup {K : Type} [DecidableEq K] : ∀ (ps xs : List (K × Addr × Value)), ((xs ++ ps).map (·.1)).Nodup → storedAllH xs ps = xs ++ ps
  | [], xs, _ => (List.append_nil xs).symm
  | p :: ps, xs, h => by
    have e : xs ++ p :: ps = (xs ++ [p]) ++ ps := by simp
    rw [e] at h ⊢
    rw [← stored_nodup ps (xs ++ [p]) h]
    show storedAllH (storedH xs p.1 p.2.1 p.2.2) ps = _
    rw [storedH_new]
    cases q : atKey xs p.1 with
    | none => rfl
    | some r =>
      exfalso
      unfold atKey at q
      obtain ⟨x, hx, _⟩ := Option.map_eq_some_iff.mp q
      have ex : x.1 = p.1 := by
        have := List.find?_some hx
        simpa using this
      replace hx := List.mem_of_find?_eq_some hx
      rw [List.map_append, List.map_append, List.nodup_append] at h
      have := (List.nodup_append.mp h.1).2.2 p.1 (List.mem_map.mpr ⟨x, hx, ex⟩) p.1 (by simp)
      exact this rfl
/-- tuples of ints and texts, as they stand, and their keys -/
inductive KL (H : Hp) : List (List Key) → List V → Prop
  | nil : KL H [] []
  | cons {k : List Key} {b : Addr} {ks : List (List Key)} {vs : List V} : H b = some (.tup (k.map kV)) → KL H ks vs → KL H (k :: ks) (.ref b :: vs)
theorem KL.length {H : Hp} {ks : List (List Key)} {vs : List V} (r : KL H ks vs) : ks.length = vs.length := by
  induction r with
  | nil => rfl
  | cons _ _ ih => exact congrArg Nat.succ ih
/-- the pairs with their addresses -/
theorem KL.pairs {H : Hp} {h : Heap} {X : Cx} (ok : HOk X.prog X.w H h) : ∀ {ks : List (List Key)} {vs us : List V} {its ls : List Value}, KL H ks vs → Vals vs its → Vals us ls → vs.length = us.length →
    ∃ ps : List (List Key × Addr × Value), ps.map (·.1) = ks ∧ ps.length = its.length ∧ (∀ (i : Nat) (k v : Value), its[i]? = some k → ls[i]? = some v → ∃ (q : List Key) (b : Addr), ps[i]? = some (q, b, v) ∧ k = Value.ref b) ∧
      (∀ x ∈ ps, H x.2.1 ≠ none ∧ (tupleKind (mixKind X.prog X.w)).is h x.1 x.2.1) ∧
      ∀ H', Sub H H' → Paired (fun (p : List Key × V) (q : List Key × Addr × Value) => p.1 = q.1 ∧ H' q.2.1 = some (.tup (p.1.map kV)) ∧ RelV p.2 q.2.2) (ks.zip us) ps
  | _, _, [], _, _, .nil, .nil, .nil, _ => ⟨[], rfl, rfl, fun i k v e => (by simp at e), (fun x hx => nomatch hx), fun _ _ => .nil⟩
  | k :: ks, _ :: vs, u :: us, _ :: its, v :: ls, .cons (b := b) hb r, .cons rv rvs, .cons ru rus, hl => by
    obtain ⟨ps, e1, e2, e3, e4, e5⟩ := KL.pairs ok r rvs rus (by simpa using hl)
    cases rv
    refine ⟨(k, b, v) :: ps, by rw [List.map_cons, e1], by rw [List.length_cons, List.length_cons, e2], fun i kk vv h1 h2 => ?_, fun x hx => ?_, fun H' f => .cons ⟨rfl, f _ _ hb, ru⟩ (e5 H' f)⟩
    · cases i with
      | zero =>
        simp at h1 h2
        subst h1 h2
        exact ⟨k, b, rfl, rfl⟩
      | succ i => exact e3 i kk vv (by simpa using h1) (by simpa using h2)
    · rcases List.mem_cons.mp hx with q | q
      · rw [q]
        exact ⟨by rw [hb]; exact Option.some_ne_none _, key_of ok hb⟩
      · exact e4 x q
  | [], _, _ :: _, _, _, .nil, _, _, hl => by simp at hl
  | _ :: _, _, [], _, _, .cons _ _, _, _, hl => by simp at hl
def tDz (K : Fg) (ta : TA) : TE := fun σ H Q => ta σ H fun vs H1 => ∃ k1 k2 a b xs ys ks, vs = [.ref a, .ref b] ∧ SqK k1 K H1 a xs ∧ SqK k2 K H1 b ys ∧ KL H1 ks xs ∧ ks.Nodup ∧ xs.length = ys.length ∧ xs.length ≤ 1000000 ∧ ∀ p, H1 p = none → Q (.ref p) (upd H1 p (.dT (ks.zip ys)))
theorem pe_dz {X : Cx} {e e2 : Expr} {ta : TA} {p p' pos pos' : Pos} (hu : X.A.units + 4 < cLine) (hh : X.A.handled = none) (hg : Gl X "dict") (hm : X.mg "dict" = none) (hg2 : Gl X "zip") (hm2 : X.mg "zip" = none) (ha : PA X [e, e2] ta)
    (hs : starEach [e, e2] X.env = (false, eval e X.env) :: starEach [e2] X.env) (hpl : (backTo pos' (starEach [e2] X.env)).any (·.1) = false) :
    PE X (.Call (.Name "dict" p) [.Call (.Name "zip" p') [e, e2] [] pos'] [] pos) (tDz X.K ta) := by
  refine ⟨fun pins s σ H Q I h => ?_⟩
  refine Call_ (ld_blt I hg hm boot_dict (PyProof.Rows.callWith_type1 ?_ rfl rfl))
  show wpAny _ _ (spliced ((false, eval (.Call (.Name "zip" p') [e, e2] [] pos') X.env) :: backTo pos (starEach [] X.env))) _ _ s
  refine Calls.spliced_cons ?_
  refine Call_ (ld_blt I hg2 hm2 PyProof.Rows.boot_zip (PyProof.Rows.callWith_type1 (thn (ha.run pos' pins s σ H _ I h) fun us s1 ⟨vs, H1, I1, r1, q1⟩ => ?_) hs hpl))
  obtain ⟨k1, k2, a, b, xs, ys, ks, ex, hqx, hqy, kl, nd, hl, hz, q⟩ := q1
  subst ex
  cases r1 with
  | cons r rr =>
    cases rr with
    | cons r' rr =>
      cases rr
      cases r
      cases r'
      obtain ⟨its, rv, p1⟩ := inv_sq I1 hqx
      obtain ⟨ls, rv2, p2⟩ := inv_sq I1 hqy
      obtain ⟨o1, l1⟩ := ltK_some p1
      obtain ⟨o2, l2⟩ := ltK_some p2
      have fz := fresh_z I1
      refine zip_new p1 p2 fun h' hz' st sz kp => Calls.spliced_nil ?_
      have I2 : Inv X pins σ H1 { s1 with heap := h' } := I1.kept (t' := s1.toks) kp
      obtain ⟨ps, e1, e2, e3, e4, e5⟩ := KL.pairs (X := X) I2.hok kl rv rv2 hl
      have out : ∀ {c : Addr}, c < s1.heap.objs.size → c ∉ zCells (s1.heap.objs.size + 4) (s1.heap.objs.size + 2) (s1.heap.objs.size + 3) s1.heap.objs.size (s1.heap.objs.size + 1) := fun {c} l m => by
        have e' : c = s1.heap.objs.size + 4 ∨ c = s1.heap.objs.size + 2 ∨ c = s1.heap.objs.size + 3 ∨ c = s1.heap.objs.size ∨ c = s1.heap.objs.size + 1 := by simpa using m
        have hle : s1.heap.objs.size ≤ c := by
          rcases e' with z | z | z | z | z
          · rw [z]; exact Nat.le_add_right _ _
          · rw [z]; exact Nat.le_add_right _ _
          · rw [z]; exact Nat.le_add_right _ _
          · rw [z]; exact Nat.le_refl _
          · rw [z]; exact Nat.le_add_right _ _
        exact Nat.lt_irrefl _ (Nat.lt_of_lt_of_le l hle)
      have lits := rv.length
      have lls := rv2.length
      have hn : H1 h'.objs.size = none := I2.hok.fresh (Nat.le_refl _)
      refine call_dict_pairsH (s := { s1 with heap := h' }) (knd := tupleKind (mixKind X.prog X.w)) (ps := ps) (pa_zip (k1 := k1) (k2 := k2) (zip_sep (Heap.lt_size l1) (Heap.lt_size l2)) (out (Heap.lt_size l1)) (out (Heap.lt_size l2)) its ls) hh (show X.A.units + 1 + 1 < cLine by omega) ⟨hz', st, ltK_at p1 fun o e => kp _ o e, ltK_at p2 fun o e => kp _ o e⟩ ⟨by omega, fun i key v hr => e3 i key v hr.1 hr.2⟩ (fun h2 k2 x hx => ?_) (Nat.le_trans (Nat.min_le_left ..) (by rw [← lits]; exact Nat.le_trans hz (by decide))) fun h2 tk hd hk => ?_
      · obtain ⟨n1, o, items, n, g1, g2, g3, g4⟩ := e4 x hx
        refine ⟨o, items, n, k2 _ o (fun z => ?_) (fun m => n1 (fz _ m).1) g1, g2, g3, g4⟩
        exact n1 (by rw [z]; exact hn)
      · rw [stored_nodup ps [] (by rw [List.nil_append, e1]; exact nd), List.nil_append] at hd
        obtain ⟨o, es, ep, g1, g2, g3, g4, g5, g6⟩ := hd
        have new : ObjOk X.prog X.w (upd H1 h'.objs.size (.dT (ks.zip ys))) h2 h'.objs.size (.dT (ks.zip ys)) := by
          refine ⟨?_, ?_, ps, e5 _ fun c u e => ?_, o, es, ep, g1, g2, g3, g4, g6⟩
          · rw [List.length_zip]
            exact Nat.le_trans (Nat.min_le_left ..) (by rw [kl.length]; exact Nat.le_trans hz (by decide))
          · exact beq_eq_false_iff_ne.mpr (Ne.symm (Nat.ne_of_lt I2.big))
          · rw [upd_ne (ne_of_none e hn)]
            exact e
        have I3 : Inv X pins σ (upd H1 h'.objs.size (.dT (ks.zip ys))) { s1 with heap := h2, toks := tk } := I2.turnedNew (ch := zCells (s1.heap.objs.size + 4) (s1.heap.objs.size + 2) (s1.heap.objs.size + 3) s1.heap.objs.size (s1.heap.objs.size + 1)) hk fz (Nat.le_refl _) new
        exact ⟨.ref h'.objs.size, _, I3, rfl, q _ hn⟩
end Mn
set_option Elab.async false
set_option linter.all false
set_option maxRecDepth 100000
set_option maxHeartbeats 1000000
namespace Mn
open PySem PySem.Spec L2
def keyD : List D → Option (List Key)
  | [] => some []
  | .int i :: r => (keyD r).map fun k => .inl i :: k
  | .str x :: r => (keyD r).map fun k => .inr x :: k
  | _ => none
def keysD : List D → Option (List (List Key))
  | [] => some []
  | .tup xs :: r => match keyD xs, keysD r with
    | some k, some ks => some (k :: ks)
    | _, _ => none
  | _ => none
def ltK : List Key → List Key → Bool
  | [], _ :: _ => true
  | .inl a :: r, .inl b :: s => decide (a < b) || (decide (a = b) && ltK r s)
  | _, _ => false
def upK : List (List Key) → Bool
  | k :: l :: r => ltK k l && upK (l :: r)
  | _ => true
theorem ltK_irr : ∀ k, ltK k k = false
  | [] => rfl
  | .inl a :: r => by simp [ltK, ltK_irr r]
  | .inr _ :: r => rfl
theorem ltK_tr : ∀ {a b c : List Key}, ltK a b = true → ltK b c = true → ltK a c = true
  | [], _ :: _, _ :: _, _, _ => rfl
  | .inl a :: r, .inl b :: s, .inl c :: t, h, k => by
    simp only [ltK, Bool.or_eq_true, Bool.and_eq_true, decide_eq_true_eq] at h k ⊢
    rcases h with h | ⟨h, h2⟩
    · rcases k with k | ⟨k, _⟩
      · exact .inl (by omega)
      · exact .inl (by omega)
    · rcases k with k | ⟨k, k2⟩
      · exact .inl (by omega)
      · exact .inr ⟨by omega, ltK_tr h2 k2⟩
  | [], [], _, h, _ => by simp [ltK] at h
  | _, _ :: _, [], _, k => by
    rename_i x _
    cases x <;> simp [ltK] at k
  | .inr _ :: _, _ :: _, _ :: _, h, _ => by simp [ltK] at h
  | .inl _ :: _, .inr _ :: _, _ :: _, h, _ => by simp [ltK] at h
  | .inl _ :: _, .inl _ :: _, .inr _ :: _, _, k => by simp [ltK] at k
  | _ :: _, [], _, h, _ => by
    rename_i x _ _
    cases x <;> simp [ltK] at h
theorem upK_low : ∀ {ks : List (List Key)} {k : List Key}, upK (k :: ks) = true → ∀ l ∈ ks, ltK k l = true
  | [], _, _, _, h => nomatch h
  | x :: r, k, h, l, m => by
    simp only [upK, Bool.and_eq_true] at h
    rcases List.mem_cons.mp m with e | m
    · rw [e]; exact h.1
    · exact ltK_tr h.1 (upK_low h.2 l m)
theorem upK_nodup : ∀ {ks : List (List Key)}, upK ks = true → ks.Nodup
  | [], _ => .nil
  | k :: r, h => by
    refine List.nodup_cons.mpr ⟨fun m => ?_, upK_nodup (ks := r) ?_⟩
    · have := upK_low h k m
      rw [ltK_irr] at this
      cases this
    · cases r with
      | nil => rfl
      | cons l r =>
        simp only [upK, Bool.and_eq_true] at h
        exact h.2
theorem reps_key {K : Fg} {F : Hp} : ∀ {ds : List D} {vs : List V} {k : List Key}, Reps K F vs ds → keyD ds = some k → vs = k.map kV
  | [], _, _, .nil, h => by cases h; rfl
  | .int i :: r, _, k, .cons a q, h => by
    cases a
    obtain ⟨k', h1, h2⟩ := Option.map_eq_some_iff.mp (show (keyD r).map (fun k => .inl i :: k) = some k from h)
    subst h2
    rw [reps_key q h1]
    rfl
  | .str x :: r, _, k, .cons a q, h => by
    cases a
    obtain ⟨k', h1, h2⟩ := Option.map_eq_some_iff.mp (show (keyD r).map (fun k => .inr x :: k) = some k from h)
    subst h2
    rw [reps_key q h1]
    rfl
  | .non :: _, _, _, _, h | .bl _ :: _, _, _, _, h | .tup _ :: _, _, _, _, h | .lst _ :: _, _, _, _, h | .ins _ _ :: _, _, _, _, h | .dic _ :: _, _, _, _, h | .scr _ :: _, _, _, _, h | .tpb _ :: _, _, _, _, h | .ty _ :: _, _, _, _, h | .cls _ :: _, _, _, _, h => by simp [keyD] at h
theorem rep_key {K : Fg} {F : Hp} {v : V} {xs : List D} {k : List Key} (r : Rep K F v (.tup xs)) (h : keyD xs = some k) : ∃ b, v = .ref b ∧ F b = some (.tup (k.map kV)) := by
  cases r with
  | @tup a vs xs q r => exact ⟨a, rfl, by rw [q, reps_key r h]⟩
theorem reps_keys {K : Fg} {F : Hp} : ∀ {ds : List D} {vs : List V} {ks : List (List Key)}, Reps K F vs ds → keysD ds = some ks → KL F ks vs
  | [], _, _, .nil, h => by cases h; exact .nil
  | .tup xs :: r, _, ks, .cons a q, h => by
    have h' : (match keyD xs, keysD r with
      | some k, some ks => some (k :: ks)
      | _, _ => none) = some ks := h
    cases e : keyD xs with
    | none => rw [e] at h'; cases h'
    | some k =>
      cases e2 : keysD r with
      | none => rw [e, e2] at h'; cases h'
      | some ks' =>
        rw [e, e2] at h'
        cases h'
        obtain ⟨b, rfl, hb⟩ := rep_key a e
        exact .cons hb (reps_keys q e2)
  | .non :: _, _, _, _, h | .bl _ :: _, _, _, _, h | .int _ :: _, _, _, _, h | .str _ :: _, _, _, _, h | .lst _ :: _, _, _, _, h | .ins _ _ :: _, _, _, _, h | .dic _ :: _, _, _, _, h | .scr _ :: _, _, _, _, h | .tpb _ :: _, _, _, _, h | .ty _ :: _, _, _, _, h | .cls _ :: _, _, _, _, h => by simp [keysD] at h
theorem KL.mono {F H : Hp} (f : Sub F H) : ∀ {ks : List (List Key)} {vs : List V}, KL F ks vs → KL H ks vs
  | _, _, .nil => .nil
  | _, _, .cons h r => .cons (f _ _ h) (KL.mono f r)
theorem repD_zip {K : Fg} {F : Hp} : ∀ {ks : List (List Key)} {vs : List V} {ds : List D}, Reps K F vs ds → RepD K F (ks.zip vs) (ks.zip ds)
  | [], _, _, _ => by simp; exact .nil
  | _ :: _, [], [], .nil => .nil
  | k :: ks, _ :: _, _ :: _, .cons a r => .cons a (repD_zip r)
def dGet : List (List Key × D) → List Key → Option D
  | [], _ => none
  | (k, d) :: r, j => if k = j then some d else dGet r j
theorem RepD.look {K : Fg} {F : Hp} : ∀ {gs : List (List Key × V)} {kvs : List (List Key × D)} {k : List Key} {d : D}, RepD K F gs kvs → dGet kvs k = some d → ∃ v, valV gs k = some v ∧ Rep K F v d
  | _, _, _, _, .nil, h => by cases h
  | _, _, k, d, .cons (k := j) (v := v) (d := d') a r, h => by
    unfold dGet at h
    by_cases e : j = k
    · rw [if_pos e] at h
      cases h
      exact ⟨v, by simp [valV, e], a⟩
    · rw [if_neg e] at h
      obtain ⟨u, h1, h2⟩ := RepD.look r h
      exact ⟨u, by simpa [valV, e] using h1, h2⟩
def mDz (m m2 : Fx D) : Fx D := m.bind fun d => m2.bind fun e en => match itemsOf d, itemsOf e with
  | some ds, some es => match keysD ds with
    | some ks => if (upK ks && decide (ds.length = es.length) && decide (ds.length ≤ 1000)) = true then .ok (.dic (ks.zip es)) en else .bad
    | none => .bad
  | _, _ => .bad
def mDget (m m2 : Fx D) : Fx D := m.bind fun d => m2.bind fun e en => match d, e with
  | .dic kvs, .tup xs => match keyD xs with
    | some k => match dGet kvs k with
      | some d => .ok d en
      | none => .bad
    | none => .bad
  | _, _ => .bad
section
variable {X : Cx} {W : WX} {e1 e2 : Expr} {p p' pos pos' : Pos}
theorem ev_dz {m m2 : Fx D} (hu : X.A.units + 4 < cLine) (hh : X.A.handled = none) (hg : Gl X "dict") (hm : X.mg "dict" = none) (hg2 : Gl X "zip") (hm2 : X.mg "zip" = none) (h : EV X W m e1) (h2 : EV X W m2 e2) (ns : notStar e1 = true) (ns2 : notStar e2 = true) :
    EV X W (mDz m m2) (.Call (.Name "dict" p) [.Call (.Name "zip" p') [e1, e2] [] pos'] [] pos) := by
  have s2 : starEach [e2] X.env = [(false, eval e2 X.env)] := star_cons ns2
  refine (pe_dz hu hh hg hm hg2 hm2 (pa_cons h (pa_cons h2 pa_nil (star_cons ns2)) (star_cons ns)) (star_cons ns) (by rw [s2]; rfl)).weak fun σ H Q ⟨Z, F, en, sr, q⟩ => ?_
  refine ⟨Z, F, en, sr, (RP.split q).mono fun d en1 F1 H1 sr1 f1 p v r => ⟨Z, F1, en1, sr1, (RP.split p).mono fun d2 en2 F2 H2 sr2 f2 p2 v2 r2 => ?_⟩⟩
  cases e : itemsOf d with
  | none =>
    rw [e] at p2
    exact p2.elim
  | some ds =>
    cases e2 : itemsOf d2 with
    | none =>
      rw [e, e2] at p2
      exact p2.elim
    | some es =>
      rw [e, e2] at p2
      dsimp only at p2
      cases e3 : keysD ds with
      | none =>
        rw [e3] at p2
        exact p2.elim
      | some ks =>
        rw [e3] at p2
        dsimp only at p2
        by_cases c : (upK ks && decide (ds.length = es.length) && decide (ds.length ≤ 1000)) = true
        · rw [if_pos c] at p2
          simp only [Bool.and_eq_true, decide_eq_true_eq] at c
          obtain ⟨⟨c1, c2⟩, c3⟩ := c
          obtain ⟨k, a, vs, rfl, q, rs⟩ := rep_sq (r.mono f2) e
          obtain ⟨k2, b, us, rfl, q2, rs2⟩ := rep_sq r2 e2
          refine ⟨k, k2, a, b, vs, us, ks, rfl, sr2.ex.sqK q, sr2.ex.sqK q2, (reps_keys rs e3).mono sr2.ex, upK_nodup c1, by rw [rs.length, rs2.length, c2], by rw [rs.length]; omega, fun x hx => ?_⟩
          have fx := sr2.ex.none hx
          exact p2 _ _ (sr2.laid hx) (.up fx) _ (.dic upd_same ((repD_zip rs2).mono (.up fx)))
        · rw [if_neg c] at p2
          exact p2.elim
theorem ev_dget {m m2 : Fx D} (hu : X.A.units + 1 < cLine) (h : EV X W m e1) (h2 : EV X W m2 e2) (hs : NoSl e2) : EV X W (mDget m m2) (.Subscript e1 e2 pos) := by
  refine (pe_dget hu h h2 hs).weak fun σ H Q ⟨Z, F, en, sr, q⟩ => ?_
  refine ⟨Z, F, en, sr, (RP.split q).mono fun d en1 F1 H1 sr1 f1 p v r => ⟨Z, F1, en1, sr1, (RP.split p).mono fun d2 en2 F2 H2 sr2 f2 p2 v2 r2 => ?_⟩⟩
  cases d with
  | dic kvs =>
    cases d2 with
    | tup xs =>
      dsimp only at p2
      cases e : keyD xs with
      | none =>
        rw [e] at p2
        exact p2.elim
      | some k =>
        rw [e] at p2
        dsimp only at p2
        cases e3 : dGet kvs k with
        | none =>
          rw [e3] at p2
          exact p2.elim
        | some d =>
          rw [e3] at p2
          obtain ⟨b, rfl, hb⟩ := rep_key r2 e
          cases r with
          | @dic a gs _ q r =>
            obtain ⟨u, h1, h2⟩ := r.look e3
            refine ⟨a, u, rfl, ?_, p2 F2 H2 sr2 .rfl _ (h2.mono f2)⟩
            have := DGet.t (sr2.ex _ _ (f2 _ _ q)) (sr2.ex _ _ hb)
            rw [h1] at this
            exact this
    | _ => exact p2.elim
  | _ => cases d2 <;> exact p2.elim
end
end Mn
set_option Elab.async false
set_option linter.all false
set_option maxRecDepth 100000
set_option maxHeartbeats 1000000
namespace Mn
open PySem PySem.Spec L2
section
variable {X : Cx} {W : WX} {spos : Pos}
theorem es_par3 {i j l : Nat} {x y z : Str} {a b c : Expr} {ms : List (Fx Slot)} {px py pz pt : Pos} {kt k2 : Nat} {pt2 : Pos} (hc : X.calm = true) (hN : X.N.Nodup) (hi : X.N[i]? = some x) (hj : X.N[j]? = some y) (hl : X.N[l]? = some z) (hij : i ≠ j) (hil : i ≠ l) (hjl : j ≠ l)
    (hx : X.env.scope.names.lookup x = some .local) (hy : X.env.scope.names.lookup y = some .local) (hz : X.env.scope.names.lookup z = some .local) (ha : PA X [a, b, c] (cRs X.K W (mRs ms)))
    (hw : swappedStores [.Tuple [.Name x px, .Name y py, .Name z pz] kt pt] (.Tuple [a, b, c] k2 pt2) X.env = pure (some [x, y, z])) :
    ES X W (sPar [i, j, l] ms) (.Assign [.Tuple [.Name x px, .Name y py, .Name z pz] kt pt] (.Tuple [a, b, c] k2 pt2) spos) := by
  have hsw : swapsWithSole [.Tuple [.Name x px, .Name y py, .Name z pz] kt pt] (.Tuple [a, b, c] k2 pt2) spos.line X.env = pure false := no_swap (e := .Tuple [a, b, c] k2 pt2) (t := some (.Tuple [.Name x px, .Name y py, .Name z pz] kt pt)) (l := spos.line) (env := X.env) rfl
  refine (L2.ps_par3 hc hN hi hj hl hij hil hjl hx hy hz ha hw hsw).weak fun D σ H ⟨Z, F, en, sr, q⟩ => ⟨Z, F, en, sr, (SQ.of q).mono fun rs e1 F1 H1 sr1 f1 ⟨s, f, p⟩ vs w => ?_⟩
  by_cases c : okAll e1 [i, j, l] rs = true
  · rw [if_pos c] at p
    have z := sr1.storeAll w c
    match rs, vs, c, w with
    | [r1, r2, r3], [v1, v2, v3], c, w => exact ⟨v1, v2, v3, rfl, p _ F1 H1 z .rfl⟩
    | [], _, c, _ => cases c
    | [_], _, c, _ => simp [okAll] at c
    | [_, _], _, c, _ => simp [okAll] at c
    | _ :: _ :: _ :: _ :: _, _, c, _ => simp [okAll] at c
    | [_, _, _], [], c, w => exact w.elim
    | [_, _, _], [_], c, w => exact w.2.elim
    | [_, _, _], [_, _], c, w => exact w.2.2.elim
    | [_, _, _], _ :: _ :: _ :: _ :: _, c, w => exact w.2.2.2.elim
  · rw [if_neg c] at p
    exact p.elim
def gNames (is : List Nat) : TGs := fun vs σ H Q => vs.length = is.length ∧ Q (setAllV σ is vs) H
theorem egn_nil : PGs X [] (gNames []) := pgs_nil.weak fun vs σ H Q ⟨l, q⟩ => by
  cases vs with
  | nil => exact ⟨rfl, q⟩
  | cons v vs => cases l
theorem egn_cons {i : Nat} {is : List Nat} {e : Expr} {es : List Expr} (h : PG X e (gName i)) (k : PGs X es (gNames is)) (ns : notStar e = true) : PGs X (e :: es) (gNames (i :: is)) := by
  refine (pgs_cons h k (by rw [asg_cons ns]; rfl)).weak fun vs σ H Q ⟨l, q⟩ => ?_
  cases vs with
  | nil => cases l
  | cons v vs => exact ⟨v, vs, rfl, Nat.succ.inj l, q⟩
theorem RVs.fresh {K : Fg} {F H : Hp} {en : En} {σ : L2.St} {p : Addr} {o : HO} (hp : H p = none) : ∀ {rs : List Slot} {vs : List V} {Z : Zr}, RVs K F H en σ Z rs vs → RVs K F (upd H p o) en σ Z rs vs
  | [], [], _, _ => trivial
  | [], _ :: _, _, h => h.elim
  | _ :: _, [], _, h => h.elim
  | r :: rs, v :: vs, Z, ⟨h1, h2⟩ => by
    refine ⟨?_, RVs.fresh hp h2⟩
    cases r with
    | un => exact h1
    | val d => exact h1
    | own b d =>
      cases b with
      | true => exact h1
      | false =>
        obtain ⟨a, e, fa, c, r⟩ := h1
        refine ⟨a, e, fa, c.to .rfl (upd_ne fun z => ?_), r⟩
        obtain ⟨u, hu⟩ := c.some
        rw [z, hp] at hu
        cases hu
theorem RVs.len {K : Fg} {F H : Hp} {en : En} {σ : L2.St} : ∀ {rs : List Slot} {vs : List V} {Z : Zr}, RVs K F H en σ Z rs vs → vs.length = rs.length
  | [], [], _, _ => rfl
  | [], _ :: _, _, h => h.elim
  | _ :: _, [], _, h => h.elim
  | r :: rs, v :: vs, Z, ⟨h1, h2⟩ => congrArg (· + 1) h2.len
theorem okAll_len {en : En} : ∀ {is : List Nat} {rs : List Slot}, okAll en is rs = true → rs.length = is.length
  | [], [], _ => rfl
  | j :: is, s :: rs, k => by
    unfold okAll at k
    rw [Bool.and_eq_true] at k
    exact congrArg (· + 1) (okAll_len k.2)
  | [], _ :: _, k => by cases k
  | _ :: _, [], k => by cases k
theorem es_parT {is : List Nat} {ts es : List Expr} {ms : List (Fx Slot)} {pt : Pos} {kt k2 : Nat} {pt2 : Pos} (hc : X.calm = true) (hg : PGs X ts (gNames is)) (ns : ts.all notStar = true) (hl : ts.length = is.length) (h3 : is.length ≤ 30) (ha : PA X es (cRs X.K W (mRs ms)))
    (hw : swappedStores [.Tuple ts kt pt] (.Tuple es k2 pt2) X.env = pure none) : ES X W (sPar is ms) (.Assign [.Tuple ts kt pt] (.Tuple es k2 pt2) spos) := by
  have hsw : swapsWithSole [.Tuple ts kt pt] (.Tuple es k2 pt2) spos.line X.env = pure false := no_swap (e := .Tuple es k2 pt2) (t := some (.Tuple ts kt pt)) (l := spos.line) (env := X.env) rfl
  obtain ⟨l1, l2⟩ := asg_len (env := X.env) ns
  refine (ps_asg (pe_tup ha) (pg_tup hc hg l1 l2) hsw hw (by rfl)).weak fun D σ H ⟨Z, F, en, sr, q⟩ => ⟨Z, F, en, sr, (SQ.of q).mono fun rs e1 F1 H1 sr1 f1 ⟨s, f, p⟩ vs w => ?_⟩
  by_cases c : okAll e1 is rs = true
  · rw [if_pos c] at p
    have lv : vs.length = is.length := w.len.trans (okAll_len c)
    exact ⟨by rw [lv]; exact Nat.le_trans h3 (by decide), fun a ha => ⟨a, vs, rfl, SqT.of upd_same, by rw [lv, hl], lv, p _ F1 _ ((sr1.fresh ha).storeAll (w.fresh ha) c) .rfl⟩⟩
  · rw [if_neg c] at p
    exact p.elim
end
end Mn
set_option Elab.async false
set_option linter.all false
set_option maxRecDepth 100000
set_option maxHeartbeats 2000000
namespace Mn
open PySem PySem.Spec PySem.W PySem.Calls PyProof.Rows
structure ErrD where
  x : Str
  fld : Str
  arg : Str
  st : Stmt
def erForm : List Stmt → Str → Str → Bool
  | [.Expr (.Call (.Attribute (.Call (.Name s _) [] [] _) i p2) [.Constant (.str _) _ _] [] p4) _, .Assign [.Attribute (.Name s1 _) f _] (.Name a _) _], fld, arg =>
    decide (s = "super") && (decide (i = "__init__") && (decide (s1 = "self") && (decide (f = fld) && (decide (a = arg) && (p2.endLine == p4.line)))))
  | _, _, _ => false
theorem erForm_ok {b : List Stmt} {fld arg : Str} (h : erForm b fld arg = true) : ∃ (txt : Str) (p0 p1 p2 p3 p4 p5 q1 q2 q3 q4 : Pos) (j : Nat), b = erB txt fld arg p0 p1 p2 p3 p4 p5 q1 q2 q3 q4 j ∧ (p2.endLine == p4.line) = true := by
  unfold erForm at h
  split at h
  · simp only [Bool.and_eq_true, decide_eq_true_eq] at h
    obtain ⟨rfl, rfl, rfl, rfl, rfl, h⟩ := h
    exact ⟨_, _, _, _, _, _, _, _, _, _, _, _, rfl, h⟩
  · cases h
def erPar (p : Arguments) (arg : Str) : Bool := match p with
  | ⟨[], [a, b], none, [], _, none, _⟩ => decide (a.arg = "self") && decide (b.arg = arg)
  | _ => false
def erSt (e : ErrD) : Bool := erForm (L2.defBody e.st) e.fld e.arg && (erPar (L2.defArgs e.st) e.arg && erSc (L2.defScope e.st) e.arg)
where erSc (s : Scope) (arg : Str) : Bool := decide (s.kind = .function) && (!s.isCoroutine && (!s.isGenerator && (decide (s.names.lookup ("super" : Str) = some .globalImplicit) && (decide (s.names.lookup ("__class__" : Str) = some .free) && (decide (s.names.lookup ("self" : Str) = some .local) && (decide (s.names.lookup arg = some .local) && s.names.all fun y => decide (y.2 ≠ .cell)))))))
/-- an __init__ as K holds it -/
abbrev FnE : Type := Option (Arguments × FuncBody × Scope × Addr × List Str × Addr)
def iAd (K : Fg) (x : Str) : Addr := He.ma K (He.ga K x) "__init__"
def fnE (K : Fg) (x : Str) : FnE := match K.lookup (iAd K x) with
  | some ⟨_, _, .func fd, _⟩ => some (fd.params, fd.body, fd.scope, fd.globals, fd.closure.map (·.1), fd.builtins)
  | _ => none
def ErrD.val (e : ErrD) : FnE := some (L2.defArgs e.st, .stmts (L2.defBody e.st), L2.defScope e.st, mainGlobals, ["__class__"], builtinsNs)
/-- the rest of it -/
def erFn (K : Fg) (file : Str) (x : Str) : Bool := match K.lookup (iAd K x) with
  | some ⟨_, _, .func fd, _⟩ => codeIn K fd.code fd.qualname && ((match fd.closure with
      | [(_, cc)] => (match K.lookup cc with
        | some ⟨_, _, .cell (some (.ref C)), _⟩ => decide (C = He.ga K x)
        | _ => false)
      | _ => false) && ((match fd.code with
      | .ref cda => (match K.lookup cda with
        | some ⟨_, _, .fields vs, _⟩ => (match (vs[2]? : Option Value) with
          | some (.str f _) => file == f
          | _ => false)
        | _ => false)
      | _ => false) && (match fd.defaults with
      | .none => true
      | .ref T => (match K.lookup T with
        | some ⟨_, _, .seq its _, _⟩ => decide (its.size = 1)
        | _ => false)
      | _ => false)))
  | _ => false
def erCd (K : Fg) (C : Addr) : Bool := match clsIn K C with
  | some cd => cd.hasDict && (match cd.mro with
    | .ref c :: .ref _ :: r => decide (c = C) && decide (r = ESX.exTail)
    | _ => false)
  | none => false
def erB1 (K : Fg) (x fld : Str) : Bool := erCd K (He.ga K x) && (excInitIn K (He.ga K x) [.type "Exception", .type "BaseException", .type "object"] "Exception.__new__" && (He.eqO (ks_superIn K (He.ga K x) (He.ga K x) "__init__") (some (some (.builtin "Exception.__init__"))) &&
  (decide (subIn K (.ref (He.ga K x)) (.type "Exception") = some true) && (He.eqO (findIn K (.ref (He.ga K x)) "__setattr__") (some (some (.builtin "object.__setattr__"))) && (He.eqO (findIn K (.ref (He.ga K x)) fld) (some none) &&
  (He.eqO (findIn K (.ref (He.ga K x)) "__init__") (some (some (.ref (iAd K x)))) && (decide (typeIn K (.ref (iAd K x)) = some (.type "function")) && (decide (mroIn K (He.ga K x) (.ref (He.ga K x)) = some true) && (He.eqO (nsIn K cStatics "thirdparty.any") (some none) &&
  (keepIn K (.ref (He.ga K x)) && (decide (subIn K (.ref (He.ga K x)) (.type "BaseException") = some true) && (decide (typeIn K (.ref (He.ga K x)) = some (.type "type")) && He.eqO (nsIn K mainGlobals "super") (some none)))))))))))))
theorem binds_er {K : Fg} {fd : FuncData} {arg : Str} (hw : arg = "at" ∨ arg = "word") (hp : erPar fd.params arg = true) (hd : fd.defaults = .none ∨ ∃ T o its n, fd.defaults = .ref T ∧ K.lookup T = some o ∧ o.data = .seq its n ∧ its.size = 1) (s : Shared) (x : Addr) (v : Value) (X : K.In s.heap) :
    BindsTo s fd ⟨[.ref x, v], []⟩ [("self", .ref x), (arg, v)] := by
  obtain ⟨nm, qn, pr, bd, sc, gl, cl, df, kw, dc, pm, an, cd, ct, bl⟩ := fd
  dsimp only at hp hd
  unfold erPar at hp
  split at hp
  · rename_i a b kd dfs
    rw [Bool.and_eq_true, decide_eq_true_eq, decide_eq_true_eq] at hp
    obtain ⟨ha, hb⟩ := hp
    obtain ⟨a, an1, ap⟩ := a
    obtain ⟨b, bn1, bp⟩ := b
    dsimp only at ha hb
    subst ha hb
    rcases hd with rfl | ⟨T, o, its, n, rfl, lT, oT, sz⟩
    · rcases hw with rfl | rfl
      · exact BindsTo.of_eq rfl
      · exact BindsTo.of_eq rfl
    · obtain ⟨l⟩ := its
      match l, sz with
      | [d], _ =>
        rcases hw with rfl | rfl
        · exact L2.BindsTo.of_looks fun M => L2.looks_items (k := _) X lT oT (.of_pure rfl)
        · exact L2.BindsTo.of_looks fun M => L2.looks_items (k := _) X lT oT (.of_pure rfl)
  · cases hp
theorem erCd_ok {K : Fg} {C : Addr} (h : erCd K C = true) : ∃ cd D, clsIn K C = some cd ∧ cd.mro = .ref C :: .ref D :: ESX.exTail ∧ cd.hasDict = true := by
  unfold erCd at h
  cases e : clsIn K C with
  | none =>
    rw [e] at h
    cases h
  | some cd =>
    rw [e] at h
    dsimp only at h
    obtain ⟨h1, h2⟩ := Bool.and_eq_true_iff.mp h
    split at h2
    · rename_i c d r hm
      rw [Bool.and_eq_true, decide_eq_true_eq, decide_eq_true_eq] at h2
      obtain ⟨rfl, rfl⟩ := h2
      exact ⟨cd, d, rfl, hm, h1⟩
    · cases h2
theorem err_of {prog : Program} {K : Fg} {e : ErrD} {file : Str} (hf : (prog.main.file : Str) = file) (ht : (prog.main.scope.names.lookup ("super" : Str)).isSome = false) (hs : erSt e = true) (hw : e.arg = "at" ∨ e.arg = "word")
    (hv : fnE K e.x = e.val) (hr : erFn K file e.x = true) (hb : erB1 K e.x e.fld = true) : ErrTxt prog K (He.ga K e.x) (iAd K e.x) e.fld e.arg := by
  unfold erB1 at hb
  simp only [Bool.and_eq_true, decide_eq_true_eq] at hb
  obtain ⟨b1, b2, b3, b4, b5, b6, b7, b8, b9, b10, b11, b12, b13, b14⟩ := hb
  unfold erSt at hs
  obtain ⟨s1, hs⟩ := Bool.and_eq_true_iff.mp hs
  obtain ⟨s2, s3⟩ := Bool.and_eq_true_iff.mp hs
  obtain ⟨txt, p0, p1, p2, p3, p4, p5, q1, q2, q3, q4, j, eb, hl⟩ := erForm_ok s1
  refine ⟨erCd_ok b1, b2, He.eqO_ok b3, b4, He.eqO_ok b5, He.eqO_ok b6, He.eqO_ok b7, b8, b9, He.eqO_ok b10, b11, b12, b13, He.eqO_ok b14, ht, ?_⟩
  unfold fnE ErrD.val at hv
  unfold erFn at hr
  cases q : K.lookup (iAd K e.x) with
  | none =>
    rw [q] at hr
    cases hr
  | some o =>
    obtain ⟨oc, od, dt, osl⟩ := o
    rw [q] at hr hv
    cases dt with
    | func fd =>
      dsimp only at hr hv
      simp only [Option.some.injEq, Prod.mk.injEq] at hv
      obtain ⟨v1, v2, v3, v4, v5, v6⟩ := hv
      simp only [Bool.and_eq_true] at hr
      obtain ⟨r1, r2, r3, r4⟩ := hr
      have sc := s3
      rw [← v3] at sc
      unfold erSt.erSc at sc
      simp only [Bool.and_eq_true, decide_eq_true_eq, Bool.not_eq_true', List.all_eq_true] at sc
      obtain ⟨c1, c2, c3, c4, c5, c6, c7, c8⟩ := sc
      have pr := s2
      rw [← v1] at pr
      have pr0 := pr
      unfold erPar at pr
      split at r2
      · rename_i cn cc hcl
        rw [hcl] at v5
        have ecn : cn = "__class__" := by simpa using v5
        subst ecn
        split at r2
        · rename_i d2 e2 C s2 hcc
          rw [decide_eq_true_eq] at r2
          subst r2
          split at r3
          · rename_i cda hcda
            split at r3
            · rename_i d1 e1 vs s1 hk
              split at r3
              · rename_i f tf hvs
                split at pr
                · rename_i a b kd dfs hpar
                  rw [Bool.and_eq_true, decide_eq_true_eq, decide_eq_true_eq] at pr
                  refine ⟨oc, od, fd, osl, txt, p0, p1, p2, p3, p4, p5, q1, q2, q3, q4, j, cc, cda, vs, f, tf, a, d1, d2, e1, e2, s1, s2, rfl, by rw [v2, eb], hl, v4, v6, hcl, hcda, r1, c1, c2, c3, c4, c5, c6, c7, c8, by rw [hpar]; rfl, pr.1, hk, hvs, by rw [hf]; exact r3, hcc, fun s x v X => binds_er hw pr0 ?_ s x v X⟩
                  split at r4
                  · rename_i hdf
                    exact .inl hdf
                  · rename_i T hdf
                    split at r4
                    · rename_i its n _ hT
                      exact .inr ⟨T, _, its, n, hdf, hT, rfl, of_decide_eq_true r4⟩
                    · cases r4
                  · cases r4
                · cases pr
              · cases r3
            · cases r3
          · cases r3
        · cases r2
      · cases r2
    | _ => cases hr
end Mn
set_option Elab.async false
set_option linter.all false
set_option maxRecDepth 100000
set_option maxHeartbeats 2000000
namespace Mn
open PySem PySem.Spec PySem.W PySem.Calls PyProof.Rows
/-- what the head is asked -/
structure Asks where
  fn : List He.DefD
  glo : List Str
  int : List (Str × Int)
  free : List Str
  er : List ErrD
  file : Str
  is : IsTab
  ic : List Str
  ex : ExTab
  xf : List (Str × List Str)
  cs : List (Str × List Str)
  mks : List Str
def insB (K : Fg) (C : Str) : Bool := (He.Fa.cls C).ok K && (He.eqO (findIn K (.ref (He.ga K C)) "__class__") (some (some (.builtin "object.__class__"))) && (He.eqO (specialIn K (.builtin "object.__class__") "__get__") (some (some (.builtin "getset_descriptor.__get__"))) &&
  (decide (takesIn K (.builtin "object.__class__") = some true) && decide (mroIn K (He.ga K C) (.type "object") = some true))))
def gloB (K : Fg) (x : Str) : Bool := He.eqO (nsIn K mainGlobals x) (some (some (.ref (He.ga K x)))) && keepIn K (.ref (He.ga K x))
def exB (K : Fg) (xf : List (Str × List Str)) (p : Str × Str × Bool) : Bool := decide (exmOne K (.ref (He.ga K p.1)) (.ref (He.ga K p.2.1)) = some p.2.2) && xf.any fun q => decide (q.1 = p.1)
def xfAll (K : Fg) (p : Str × List Str) : Bool := L2.xfB K (He.ga K p.1) && p.2.all fun f => He.eqO (findIn K (.ref (He.ga K p.1)) f) (some none)
def csB (K : Fg) (p : Str × List Str) : Bool := (He.Fa.cls p.1).ok K && p.2.all fun f => (He.Fa.noat p.1 f).ok K
def Asks.b (a : Asks) (K : Fg) : Bool := (a.fn.all fun d => d.ok K) && ((a.glo.all fun x => gloB K x) && ((a.int.all fun p => (He.Fa.int p.1 p.2).ok K) && ((a.free.all fun x => (He.Fa.free x).ok K) && ((a.er.all fun e => erFn K a.file e.x && erB1 K e.x e.fld) &&
  ((a.is.all fun p => decide (kitOne K (valT K p.1) (valT K p.2.1) = some p.2.2)) && ((a.ic.all fun C => insB K C) && ((a.ex.all fun p => exB K a.xf p) && ((a.xf.all fun p => xfAll K p) && ((a.cs.all fun p => csB K p) && a.mks.all fun x => (He.Fa.mkr x).ok K)))))))))
abbrev AlM : Type := Bool × List He.FnW × List FnE
def obsM (a : Asks) (K : Fg) : AlM := (a.b K, a.fn.map fun d => He.fnW K d.at_, a.er.map fun e => fnE K e.x)
def valM (a : Asks) : AlM := (true, a.fn.map He.DefD.val, a.er.map ErrD.val)
def SaysM (a : Asks) (K : Fg) : Prop := obsM a K = valM a
def asM (g : Addr → Option Obj) : Nat → List Addr
  | 0 => [mainGlobals, cStatics]
  | n + 1 => He.growD g (asM g n)
def obsMG (n : Nat) (a : Asks) (g : Addr → Option Obj) : AlM := obsM a (He.frG g (asM g n))
def hookM (n : Nat) (a : Asks) : Hook where
  α := AlM
  obs := fun s => obsMG n a s.heap.get?
  val := fun _ => valM a
  says := fun _ h => ∃ K : Fg, K.In h ∧ SaysM a K
  of := fun _ _ e => ⟨_, He.frG_in, e⟩
  keeps := fun _ _ _ ⟨K, hK, c⟩ k => ⟨K, Frag.In.keeps hK k, c⟩
theorem obsMG_eq {n : Nat} {a : Asks} {g : Addr → Option Obj} {s : Shared} (h : ∀ b, g b = s.heap.get? b) : obsMG n a g = (hookM n a).obs s := by
  have e : g = s.heap.get? := funext h
  rw [e] <;> rfl
section
variable {a : Asks} {K : Fg}
theorem SaysM.b (c : SaysM a K) : a.b K = true := congrArg (fun z : AlM => z.1) c
theorem SaysM.def_ (c : SaysM a K) (i : Nat) {d : He.DefD} (h : a.fn[i]? = some d) : ∃ fd, L2.FunD K d.name d.qual d.params d.body d.scope (d.dvs K) (d.kws K) (He.fAd K d.at_) fd := by
  have b := c.b
  unfold Asks.b at b
  have c2 := (Bool.and_eq_true_iff.mp b).1
  have e : a.fn.map (fun d => He.fnW K d.at_) = a.fn.map He.DefD.val := congrArg (fun z : AlM => z.2.1) c
  have e2 : (a.fn.map fun d => He.fnW K d.at_)[i]? = (a.fn.map He.DefD.val)[i]? := by rw [e]
  rw [List.getElem?_map, List.getElem?_map, h] at e2
  exact He.DefD.funD (Option.some.inj e2) (List.all_eq_true.mp c2 d (List.mem_of_getElem? h))
theorem SaysM.er_ (c : SaysM a K) {e : ErrD} (i : Nat) (h : a.er[i]? = some e) : fnE K e.x = e.val := by
  have e1 : a.er.map (fun e => fnE K e.x) = a.er.map ErrD.val := congrArg (fun z : AlM => z.2.2) c
  have e2 : (a.er.map fun e => fnE K e.x)[i]? = (a.er.map ErrD.val)[i]? := by rw [e1]
  rw [List.getElem?_map, List.getElem?_map, h] at e2
  exact Option.some.inj e2
/-- what is asked, in one row of facts -/
structure Facts (a : Asks) (K : Fg) : Prop where
  glo : ∀ x ∈ a.glo, nsIn K mainGlobals x = some (some (.ref (He.ga K x))) ∧ keepIn K (.ref (He.ga K x)) = true
  int : ∀ p ∈ a.int, (He.Fa.int p.1 p.2).ok K = true
  free : ∀ x ∈ a.free, nsIn K mainGlobals x = some none
  er : ∀ e ∈ a.er, fnE K e.x = e.val ∧ erFn K a.file e.x = true ∧ erB1 K e.x e.fld = true
  is : IsOk K a.is a.ic
  ex : ExOk K a.ex a.xf
  cs : ClsOk K a.cs
  mks : ∀ x ∈ a.mks, L2.Mk K (He.ga K x) (He.ma K (He.ga K x) "__init__")
  fn : ∀ d ∈ a.fn, ∃ fd, L2.FunD K d.name d.qual d.params d.body d.scope (d.dvs K) (d.kws K) (He.fAd K d.at_) fd
theorem cs_of {cs : List (Str × List Str)} (h : (cs.all fun p => csB K p) = true) : ClsOk K cs := fun C l e => by
  obtain ⟨p, hp, e1⟩ : ∃ p ∈ cs, p = (C, l) := by
    clear h
    induction cs with
    | nil => cases e
    | cons q r ih =>
      obtain ⟨q1, q2⟩ := q
      rw [List.lookup_cons] at e
      cases z : C == q1 with
      | true =>
        rw [z] at e
        cases e
        exact ⟨_, List.mem_cons_self .., by rw [beq_iff_eq.mp z]⟩
      | false =>
        rw [z] at e
        obtain ⟨p, hp, e1⟩ := ih e
        exact ⟨p, List.mem_cons_of_mem _ hp, e1⟩
  subst e1
  have k := List.all_eq_true.mp h _ hp
  unfold csB at k
  obtain ⟨k1, k2⟩ := Bool.and_eq_true_iff.mp k
  exact ⟨He.cls_ok k1, fun f hf => He.noat_ok (List.all_eq_true.mp k2 f hf)⟩
theorem SaysM.facts (c : SaysM a K) : Facts a K := by
  have b := c.b
  unfold Asks.b at b
  simp only [Bool.and_eq_true] at b
  obtain ⟨b1, b2, b3, b4, b5, b6, b7, b8, b9, b10, b11⟩ := b
  refine ⟨fun x hx => ?_, fun p hp => List.all_eq_true.mp b3 p hp, fun x hx => He.eqO_ok (List.all_eq_true.mp b4 x hx), fun e he => ?_, ⟨fun p hp => of_decide_eq_true (List.all_eq_true.mp b6 p hp), fun C hC => ?_⟩, ⟨fun p hp => ?_, fun p hp => ?_⟩, cs_of b10, fun x hx => He.mkr_ok (List.all_eq_true.mp b11 x hx), fun d hd => ?_⟩
  · obtain ⟨k1, k2⟩ := Bool.and_eq_true_iff.mp (List.all_eq_true.mp b2 x hx)
    exact ⟨He.eqO_ok k1, k2⟩
  · obtain ⟨i, hi⟩ := List.getElem?_of_mem he
    obtain ⟨k1, k2⟩ := Bool.and_eq_true_iff.mp (List.all_eq_true.mp b5 e he)
    exact ⟨c.er_ i hi, k1, k2⟩
  · have k := List.all_eq_true.mp b7 C hC
    unfold insB at k
    simp only [Bool.and_eq_true, decide_eq_true_eq] at k
    obtain ⟨k1, k2, k3, k4, k5⟩ := k
    exact ⟨He.cls_ok k1, He.eqO_ok k2, He.eqO_ok k3, k4, k5⟩
  · obtain ⟨k1, k2⟩ := Bool.and_eq_true_iff.mp (List.all_eq_true.mp b8 p hp)
    obtain ⟨q, hq, e⟩ := List.any_eq_true.mp k2
    refine ⟨of_decide_eq_true k1, q.2, ?_⟩
    rw [← of_decide_eq_true e]
    exact hq
  · obtain ⟨k1, k2⟩ := Bool.and_eq_true_iff.mp (List.all_eq_true.mp b9 p hp)
    exact ⟨L2.xfB_ok k1, fun f hf => He.eqO_ok (List.all_eq_true.mp k2 f hf)⟩
  · obtain ⟨i, hi⟩ := List.getElem?_of_mem hd
    exact c.def_ i hi
end
end Mn
set_option Elab.async false
set_option linter.all false
set_option maxRecDepth 100000
set_option maxHeartbeats 2000000
namespace Mn
open PySem PySem.Spec PyProof.Rows L2
theorem end_at {P : Program} {w : World} {K : Fg} {mg mb : Str → Option Value} {k : Nat} {fa a : Addr} {fd : FuncData} {x : Str} {m : Sem} {st : Shared} {vs : List Value} {ns : List Int}
    (inK : K.In st.heap) (glo : st.heap.Ns mainGlobals mg) (blt : st.heap.Ns builtinsNs mb) (same : ∀ y : Str, y ≠ "__name__" → mb y = bootBuiltins y) (nolim : st.heap.NoLimit) (gens : st.gens = #[])
    (obj : st.heap.get? a = some { cls := .type "list", data := .seq vs.toArray }) (hints : IntsAre vs ns) (short : ns.length ≤ sizeLine) (room : RoomG k callerA)
    (G : ∀ base : Heap, K.In base → base.Ns mainGlobals mg → FnG P w K mg base k fa fd [x] m) (binds : ∀ (s : Shared) (u : Value), BindsTo s fd ⟨[u], []⟩ [(x, u)]) {e : En}
    (says : m [.val (.scr ns)] = .ok (.val (.bl true)) e) :
    codeAny (model P w) callerA (.call (.ref fa) ⟨[.ref a], []⟩) (fun r s' => r = .ok (.ret (.bool true)) ∧ OldK st.heap s'.heap ∧ s'.os = st.os ∧ AllBare s'.gens) st := by
  have rel := vals_ints hints
  have len := hints.length
  have main : ∀ H : Hp, Only H → SqL K H a (ns.map V.int) → HOk P w H st.heap → (∀ b, H b ≠ none → b = a) → (H a ≠ none → K.lookup a = none) →
      codeAny (model P w) callerA (.call (.ref fa) ⟨[.ref a], []⟩) (fun r s' => r = .ok (.ret (.bool true)) ∧ OldK st.heap s'.heap ∧ s'.os = st.os ∧ AllBare s'.gens) st := by
    intro H only sq ok one out
    have low : ∀ {b : Addr} {o : Obj}, st.heap.get? b = some o → H b = none → (hidT st.heap H).get? b = some o := fun i n => hidT_get i n
    have free : ∀ {b : Addr} {o : Obj} {es : Array DictEntry} {ep : Nat}, st.heap.get? b = some o → o.data = .dict es ep → H b = none := fun {b o es ep} i d => by
      cases z : H b with
      | none => rfl
      | some u =>
        have z' : b = a := one b (by rw [z]; simp)
        rw [z', obj] at i
        cases i
        cases (show Data.seq vs.toArray _ = Data.dict es ep from d)
    have nsp : ∀ {b : Addr} {f : Str → Option Value}, st.heap.Ns b f → (hidT st.heap H).Ns b f := fun {b f} ⟨o, es, ep, i, d, r⟩ => ⟨o, es, ep, low i (free i d), d, r⟩
    have inb : K.In (hidT st.heap H) := fun b o i => low (inK b o i) (by
      cases z : H b with
      | none => rfl
      | some u =>
        have z' : b = a := one b (by rw [z]; simp)
        rw [z', out (by rw [← z', z]; simp)] at i
        cases i)
    have md : Mod K mg (hidT st.heap H) := ⟨inb, nsp glo, ⟨mb, nsp blt, same⟩, let ⟨mc, h1, h2⟩ := nolim; ⟨mc, nsp h1, h2⟩⟩
    have env : Env0 P w K mg (hidT st.heap H) callerA [] st H := ⟨rfl, md, fun b o i => of_hidT i, Nat.le_of_eq (hidT_size _ _), trivial, fun b hb => absurd (show b ∈ ([] : List Addr) from hb) (by simp), ok, .of_eq gens⟩
    have sr : SR K ⟨H, H, [], [], 1⟩ H H [.val (.scr ns)] [some (.ref a)] := {
      ex := .rfl
      len := rfl
      ln := rfl
      rel := fun i s ov e1 e2 => by
        cases i with
        | zero =>
          cases e1
          cases e2
          exact ⟨_, rfl, .scr sq⟩
        | succ i => cases e1
      dist := fun i j b c c' d d' e1 _ _ _ => by
        cases i with
        | zero => cases e1
        | succ i => cases e1
      k1 := fun b o i _ => i
      k2 := fun _ _ => rfl
      k3 := .rfl
      k4 := fun i d b e1 _ => by
        cases i with
        | zero => cases e1
        | succ i => cases e1
      k5 := fun p hp => nomatch hp
      k6 := fun i d b e1 _ => by
        cases i with
        | zero => cases e1
        | succ i => cases e1
      t1 := fun p hp => nomatch hp
      t2 := fun p hp => nomatch hp }
    have sp : spOf K m [.ref a] H (fun v _ => v = .bl true) fun _ _ _ => False := by
      refine ⟨_, H, [.val (.scr ns)], rfl, rfl, sr, ?_⟩
      rw [says]
      intro v F' H' _ av
      cases (show Rep K F' v (.bl true) from av)
      rfl
    refine codeAny_mono ((G _ inb (nsp glo)).run callerA [] st H ⟨[.ref a], []⟩ [.ref a] [.ref a] _ _ room env (binds st (.ref a)) (.cons rfl .nil) rfl sp) fun r s' h => ?_
    cases r with
    | error u =>
      obtain ⟨_, _, _, _, _, _, _, _, _, _, _, _, z⟩ := h
      exact z.elim
    | ok fl =>
      cases fl with
      | next => exact h.elim
      | brk => exact h.elim
      | cont => exact h.elim
      | ret u =>
        obtain ⟨v, H', os, bare, un, ok', r', q⟩ := h
        cases (show v = .bl true from q)
        cases (show u = Value.bool true from r')
        refine ⟨rfl, OldK.of_keep fun b o i => ?_, os, bare⟩
        cases z : H b with
        | none => exact un.keep b o i z (fun y => absurd (show b ∈ ([] : List Addr) from y) (by simp)) (by simp)
        | some u =>
          rcases only b with y | ⟨ob, xs, y⟩
          · rw [z] at y
            cases y
          · obtain ⟨g1, _⟩ := ok b _ y
            obtain ⟨g2, _⟩ := ok' b _ (un.frzs b ob _ y)
            rw [i] at g1
            cases g1
            exact g2
  cases hk : K.lookup a with
  | some o =>
    have i := inK a o hk
    rw [obj] at i
    cases i
    exact main (fun _ => none) (fun _ => .inl rfl) (.inr ⟨_, vs.toArray, _, hk, rfl, rfl, rfl, by rw [List.size_toArray, len]; exact short, by simpa using rel⟩) (fun b u z => nomatch (show (none : Option HO) = some u from z)) (fun b z => absurd rfl z) fun z => absurd rfl z
  | none =>
    have at_ : ∀ b, (fun b => if b = a then some (HO.frz { cls := .type "list", data := .seq vs.toArray } (.lst (ns.map V.int))) else none : Hp) b ≠ none → b = a := fun b z => by
      by_cases hb : b = a
      · exact hb
      · exact absurd (if_neg hb) z
    refine main (fun b => if b = a then some (.frz { cls := .type "list", data := .seq vs.toArray } (.lst (ns.map V.int))) else none) (fun b => ?_) (.inl (.inr ⟨{ cls := .type "list", data := .seq vs.toArray }, if_pos rfl⟩)) (fun b u z => ?_) at_ fun _ => hk
    · by_cases hb : b = a
      · exact .inr ⟨_, _, if_pos hb⟩
      · exact .inl (if_neg hb)
    · cases at_ b (by rw [z]; simp)
      cases (if_pos rfl).symm.trans z
      exact ⟨obj, by rw [List.length_map]; exact short, vs, _, rel, obj⟩
/-- the goal that the head leaves -/
theorem walk_g {l : PySem.W.OpenLaw} {n k : Nat} {q : Program} {loose : List Str} {XP : (Str → Option Value) → Heap → Prop} {YP : World → Heap → Prop} {d : DefRec} {x : Str}
    (hn : l.most = some n) (hn2 : n ≤ sizeLine) (hdf : d.params.defaults = []) (room : RoomG k callerA)
    (F : ∀ (w : World) (mg : Str → Option Value) (fa : Addr) (h : Heap), YP w h → h.Ns mainGlobals mg → mg d.name = some (.ref fa) →
      ∃ (K : Fg) (fd : FuncData) (m : Sem), K.In h ∧ (∀ (s : Shared) (u : Value), BindsTo s fd ⟨[u], []⟩ [(x, u)]) ∧ (∀ ns : List Int, ns.length ≤ n → ∃ e, m [.val (.scr ns)] = .ok (.val (.bl true)) e) ∧
        ∀ base : Heap, K.In base → base.Ns mainGlobals mg → FnG l.prog w K mg base k fa fd [x] m) :
    PySem.W.WalkO q loose XP YP l.row.toRowW d [] (fun f vs => PySem.call f vs) := by
  refine Att.attach_call hn hdf fun w s₀ st mg mb fa o pm cd doc a vs ns G Y ho hd hcd hmg hobj hints hlen hg => ?_
  obtain ⟨K, fd, m, inK, hb, hm, hG⟩ := F w mg fa _ Y G.T.g hmg
  obtain ⟨e, he⟩ := hm ns hlen
  exact end_at inK G.T.g G.T.b G.T.builtins G.T.nolimit hg hobj hints (Nat.le_trans hlen hn2) room hG hb he
end Mn
set_option Elab.async false
set_option linter.all false
set_option maxRecDepth 100000
set_option maxHeartbeats 1000000
namespace Mn
open PySem PySem.Spec L2
/-- a def that may be called: its name, parameters, the numbers of positional arguments that are used (the others by keyword, in order), what it does -/
structure FnI where
  x : Str
  ps : List Str
  sh : List Nat
  m : Sem
/-- what the reader knows of the module -/
structure Gt where
  fs : List FnI := []
  mks : List FnI := []
  er : List (Str × Str × Str) := []
  nums : List (Str × Int) := []
  cl : List Str := []
  free : List Str := []
  is : IsTab := []
  ic : List Str := []
  ex : ExTab := []
  xf : List (Str × List Str) := []
  cs : List (Str × List Str) := []
  dfl : List Str := []
  bare : Bool := false
structure Ft (g : Gt) (k : Nat) (P : Program) (w : World) (K : Fg) (mg : Str → Option Value) (base : Heap) : Prop where
  fs : ∀ p ∈ g.fs, ∃ fd, FnG P w K mg base k (He.ga K p.x) fd p.ps p.m ∧ mg p.x = some (.ref (He.ga K p.x)) ∧ PySem.W.keepIn K (.ref (He.ga K p.x)) = true ∧ ∀ n ∈ p.sh, n ≤ p.ps.length ∧ BindsK K fd p.ps n (p.ps.drop n)
  mks : ∀ p ∈ g.mks, ∃ f fd, Mk K (He.ga K p.x) f ∧ FnG P w K mg base k f fd p.ps p.m ∧ mg p.x = some (.ref (He.ga K p.x)) ∧ ∀ n ∈ p.sh, 1 ≤ n ∧ n ≤ p.ps.length ∧ BindsK K fd p.ps n (p.ps.drop n)
  er : ∀ p ∈ g.er, ∃ fI, ErrTxt P K (He.ga K p.1) fI p.2.1 p.2.2 ∧ mg p.1 = some (.ref (He.ga K p.1)) ∧ (p.2.2 = "at" ∨ p.2.2 = "word")
  nums : ∀ p ∈ g.nums, ∃ t, mg p.1 = some (.int p.2 t)
  cl : ∀ x ∈ g.cl, mg x = some (.ref (He.ga K x))
  free : ∀ x ∈ g.free, mg x = none
  is : IsOk K g.is g.ic
  ex : ExOk K g.ex g.xf
  cs : ClsOk K g.cs
/-- what is known of a place: a def's body, a comprehension's -/
structure So (g : Gt) (k : Nat) (N : List Str) (sc : Scope) (X : Cx) : Prop where
  hN : X.N = N
  nd : N.Nodup
  fn : ∀ x, sc.names.lookup x = some .cell → X.fn x = true
  sc : ∀ x kd, sc.names.lookup x = some kd → X.env.scope.names.lookup x = some kd ∨ (kd = .free ∧ X.env.scope.names.lookup x = some .cell)
  calm : X.calm = true
  room : RoomG (k + 2) X.A
  ft : Ft g k X.prog X.w X.K X.mg X.base
def idx : List Str → Str → Option Nat
  | [], _ => none
  | y :: r, x => if y = x then some 0 else (idx r x).map (· + 1)
theorem idx_at : ∀ {N : List Str} {x : Str} {i : Nat}, idx N x = some i → N[i]? = some x
  | [], _, _, h => by cases h
  | y :: r, x, i, h => by
    unfold idx at h
    by_cases e : y = x
    · rw [if_pos e] at h
      cases h
      rw [e]
      rfl
    · rw [if_neg e] at h
      obtain ⟨j, h1, h2⟩ := Option.map_eq_some_iff.mp h
      subst h2
      have z := idx_at (N := r) h1
      simpa using z
def okName (x : Str) : Bool := !(x == ("__debug__" : Str)) && !(x == ("__classdict__" : Str)) && !(x == ("__name__" : Str))
/-- the slot of a name that is the def's own -/
def slotOf (N : List Str) (sc : Scope) (x : Str) : Option Nat := if okName x = true then match sc.names.lookup x with
    | some .local => idx N x
    | some .cell => idx N x
    | some .free => idx N x
    | _ => none
  else none
/-- a name of the module, of the builtins -/
def gloOf (sc : Scope) (x : Str) : Bool := okName x && decide (sc.names.lookup x = some .globalImplicit)
theorem okName_ok {x : Str} (h : okName x = true) : (x == ("__debug__" : Str)) = false ∧ (x == ("__classdict__" : Str)) = false ∧ x ≠ "__name__" := by
  unfold okName at h
  simp only [Bool.and_eq_true, Bool.not_eq_true'] at h
  exact ⟨h.1.1, h.1.2, fun e => by
    have := h.2
    rw [e] at this
    exact absurd this (by decide)⟩
section
variable {g : Gt} {k : Nat} {N : List Str} {sc : Scope} {X : Cx} {W : WX} {x : Str} {i : Nat} {pos : Pos}
theorem So.slot (S : So g k N sc X) (h : slotOf N sc x = some i) : X.N[i]? = some x ∧ Vis X.env.scope x ∧ (x == ("__debug__" : Str)) = false ∧ (x == ("__classdict__" : Str)) = false := by
  unfold slotOf at h
  by_cases ok : okName x = true
  · rw [if_pos ok] at h
    obtain ⟨o1, o2, _⟩ := okName_ok ok
    cases e : sc.names.lookup x with
    | none => rw [e] at h; cases h
    | some kd =>
      rw [e] at h
      have v := S.sc x kd e
      cases kd <;> first
        | (cases h; done)
        | (have hi := idx_at h
           refine ⟨by rw [S.hN]; exact hi, ?_, o1, o2⟩
           rcases v with v | ⟨v1, v2⟩
           · first | exact .inl v | exact .inr (.inl v) | exact .inr (.inr v)
           · exact .inr (.inl v2))
  · rw [if_neg ok] at h
    cases h
theorem So.var (S : So g k N sc X) (h : slotOf N sc x = some i) : PE X (.Name x pos) (tVar i) := by
  obtain ⟨h1, h2, h3, h4⟩ := S.slot h
  exact pe_var h1 h2 h3 h4
theorem So.gl (S : So g k N sc X) (h : gloOf sc x = true) : Gl X x ∧ (x == ("__debug__" : Str)) = false ∧ x ≠ "__name__" := by
  unfold gloOf at h
  obtain ⟨h1, h2⟩ := Bool.and_eq_true_iff.mp h
  obtain ⟨o1, _, o3⟩ := okName_ok h1
  rcases S.sc x _ (of_decide_eq_true h2) with v | ⟨v, _⟩
  · exact ⟨v, o1, o3⟩
  · cases v
end
structure Rd where
  O : Expr → Option (Fx Opd)
  V : Expr → Option (Fx D)
  R : Expr → Option (Fx Slot)
  T : Expr → Option (Fx Bool)
structure Rd.Ok (r : Rd) (X : Cx) (W : WX) : Prop where
  O : ∀ e m, r.O e = some m → EO X W m e
  V : ∀ e m, r.V e = some m → EV X W m e
  R : ∀ e m, r.R e = some m → ER X W m e
  T : ∀ e m, r.T e = some m → ET X W m e
/-- rows of terms -/
def allV (r : Rd) : List Expr → Option (List (Fx D))
  | [] => some []
  | e :: es => if notStar e = true then match r.V e, allV r es with
      | some m, some ms => some (m :: ms)
      | _, _ => none
    else none
def allO (r : Rd) : List Expr → Option (List (Fx Opd))
  | [] => some []
  | e :: es => if notStar e = true then match r.O e, allO r es with
      | some m, some ms => some (m :: ms)
      | _, _ => none
    else none
def allR (r : Rd) : List Expr → Option (List (Fx Slot))
  | [] => some []
  | e :: es => if notStar e = true then match r.R e, allR r es with
      | some m, some ms => some (m :: ms)
      | _, _ => none
    else none
section
variable {X : Cx} {W : WX} {r : Rd}
theorem allV_ok (h : r.Ok X W) : ∀ {es : List Expr} {ms : List (Fx D)}, allV r es = some ms → PA X es (cVs X.K W (mVs ms)) ∧ es.all notStar = true ∧ ms.length = es.length
  | [], _, e => by cases e; exact ⟨vs_nil, rfl, rfl⟩
  | e :: es, _, q => by
    unfold allV at q
    by_cases c : notStar e = true
    · rw [if_pos c] at q
      cases e1 : r.V e with
      | none => rw [e1] at q; cases q
      | some m =>
        cases e2 : allV r es with
        | none => rw [e1, e2] at q; cases q
        | some ms =>
          rw [e1, e2] at q
          cases q
          obtain ⟨h1, h2, h3⟩ := allV_ok h e2
          exact ⟨vs_cons (h.V _ _ e1) h1 c, by rw [List.all_cons, c, h2]; rfl, congrArg (· + 1) h3⟩
    · rw [if_neg c] at q
      cases q
theorem allO_ok (h : r.Ok X W) : ∀ {es : List Expr} {ms : List (Fx Opd)}, allO r es = some ms → PA X es (cOs X.K W (mOs ms)) ∧ es.all notStar = true ∧ ms.length = es.length
  | [], _, e => by cases e; exact ⟨as_nil, rfl, rfl⟩
  | e :: es, _, q => by
    unfold allO at q
    by_cases c : notStar e = true
    · rw [if_pos c] at q
      cases e1 : r.O e with
      | none => rw [e1] at q; cases q
      | some m =>
        cases e2 : allO r es with
        | none => rw [e1, e2] at q; cases q
        | some ms =>
          rw [e1, e2] at q
          cases q
          obtain ⟨h1, h2, h3⟩ := allO_ok h e2
          exact ⟨as_cons (h.O _ _ e1) h1 c, by rw [List.all_cons, c, h2]; rfl, congrArg (· + 1) h3⟩
    · rw [if_neg c] at q
      cases q
theorem allR_ok (h : r.Ok X W) : ∀ {es : List Expr} {ms : List (Fx Slot)}, allR r es = some ms → PA X es (cRs X.K W (mRs ms)) ∧ es.all notStar = true ∧ ms.length = es.length
  | [], _, e => by cases e; exact ⟨rs_nil, rfl, rfl⟩
  | e :: es, _, q => by
    unfold allR at q
    by_cases c : notStar e = true
    · rw [if_pos c] at q
      cases e1 : r.R e with
      | none => rw [e1] at q; cases q
      | some m =>
        cases e2 : allR r es with
        | none => rw [e1, e2] at q; cases q
        | some ms =>
          rw [e1, e2] at q
          cases q
          obtain ⟨h1, h2, h3⟩ := allR_ok h e2
          exact ⟨rs_cons (h.R _ _ e1) h1 c, by rw [List.all_cons, c, h2]; rfl, congrArg (· + 1) h3⟩
    · rw [if_neg c] at q
      cases q
end
end Mn
set_option Elab.async false
set_option linter.all false
set_option maxRecDepth 100000
set_option maxHeartbeats 1000000
namespace Mn
open PySem PySem.Spec L2
def binD : Operator → Option (D → D → Option Slot)
  | .Add => some addE
  | .Sub => some subD
  | .Mult => some mulD
  | .FloorDiv => some fdivD
  | .Mod => some modD
  | .Pow => some powD
  | _ => none
def cmpD : CmpOp → Option (D → D → Option Slot)
  | .Lt => some ltD
  | .LtE => some leD
  | .Gt => some gtD
  | .GtE => some geD
  | .Eq => some eqE
  | .NotEq => some neE
  | .Is => some isD
  | .IsNot => some isntD
  | .In => some (inOp false)
  | .NotIn => some (inOp true)
theorem bin_ok {X : Cx} : ∀ {o : Operator} {op : D → D → Option Slot}, binD o = some op → ∃ r, OpR X (binaryOp o) r ∧ Op2 X.K r op
  | .Add, _, h => by cases h; exact ⟨_, opr_addE, ok_addE⟩
  | .Sub, _, h => by cases h; exact ⟨_, op_sub, ok_sub⟩
  | .Mult, _, h => by cases h; exact ⟨_, opr_mul, ok_mul⟩
  | .FloorDiv, _, h => by cases h; exact ⟨_, op_fdivN, ok_fdiv⟩
  | .Mod, _, h => by cases h; exact ⟨_, op_modN, ok_mod⟩
  | .Pow, _, h => by cases h; exact ⟨_, op_pow, ok_pow⟩
theorem cmp_ok {X : Cx} (hu : X.A.units + 65 < cLine) : ∀ {o : CmpOp} {op : D → D → Option Slot}, cmpD o = some op → ∃ r, OpR X (compareOp o) r ∧ Op2 X.K r op
  | .Lt, _, h => by cases h; exact ⟨_, op_lt, ok_lt⟩
  | .LtE, _, h => by cases h; exact ⟨_, op_le, ok_le⟩
  | .Gt, _, h => by cases h; exact ⟨_, op_gt, ok_gt⟩
  | .GtE, _, h => by cases h; exact ⟨_, op_ge, ok_ge⟩
  | .Eq, _, h => by cases h; exact ⟨_, OpR.or op_eq (op_eqD (by omega)), ok_eqE⟩
  | .NotEq, _, h => by cases h; exact ⟨_, OpR.or op_ne (op_neD (by omega)), ok_neE⟩
  | .Is, _, h => by cases h; exact ⟨_, op_isN, ok_is⟩
  | .IsNot, _, h => by cases h; exact ⟨_, op_notN, ok_isnt⟩
  | .In, _, h => by cases h; exact ⟨_, OpR.or op_in_seq (op_inD hu), ok_in⟩
  | .NotIn, _, h => by cases h; exact ⟨_, OpR.or op_notIn_seq (op_notInD hu), ok_notIn⟩
end Mn
set_option Elab.async false
set_option linter.all false
set_option maxRecDepth 100000
set_option maxHeartbeats 1000000
namespace Mn
open PySem PySem.Spec L2
def rdConst (g : Gt) (N : List Str) (sc : Scope) : Expr → Option D
  | .Constant .none _ _ => some .non
  | .Constant (.bool b) _ _ => some (.bl b)
  | .Constant (.int i) _ _ => some (.int i)
  | .Constant (.str x) _ _ => some (.str x)
  | .Name x _ => if gloOf sc x = true then match g.nums.find? fun p => decide (p.1 = x) with
      | some p => some (.int p.2)
      | none => if g.cl.contains x = true then some (.cls x) else if g.free.contains x = true then match tyName x with
        | some T => some (.ty T)
        | none => none
        else none
    else none
  | _ => none
where tyName (x : Str) : Option String := if x = ("int" : Str) then some "int" else if x = ("bool" : Str) then some "bool" else if x = ("list" : Str) then some "list" else if x = ("tuple" : Str) then some "tuple" else if x = ("str" : Str) then some "str" else none
theorem boot_int1 : bootBuiltins "int" = some (.type "int") := by decide +kernel
theorem boot_bool1 : bootBuiltins "bool" = some (.type "bool") := by decide +kernel
theorem boot_list1 : bootBuiltins "list" = some (.type "list") := by decide +kernel
theorem boot_tuple1 : bootBuiltins "tuple" = some (.type "tuple") := by decide +kernel
theorem boot_str1 : bootBuiltins "str" = some (.type "str") := by decide +kernel
theorem tyName_ok {x : Str} {T : String} (h : rdConst.tyName x = some T) : bootBuiltins x = some (.type T) := by
  unfold rdConst.tyName at h
  split at h
  · rename_i e; cases h; rw [e]; exact boot_int1
  split at h
  · rename_i e; cases h; rw [e]; exact boot_bool1
  split at h
  · rename_i e; cases h; rw [e]; exact boot_list1
  split at h
  · rename_i e; cases h; rw [e]; exact boot_tuple1
  split at h
  · rename_i e; cases h; rw [e]; exact boot_str1
  · cases h
section
variable {g : Gt} {k : Nat} {N : List Str} {sc : Scope} {X : Cx} {W : WX}
theorem rdConst_ok (S : So g k N sc X) {e : Expr} {d : D} (h : rdConst g N sc e = some d) : EV X W (mC d) e := by
  unfold rdConst at h
  split at h
  · cases h; exact ev_c pe_non fun F => .non
  · cases h; exact ev_c pe_bl fun F => .bl _
  · cases h; exact ev_c pe_int fun F => .int _
  · cases h; exact ev_c pe_str fun F => .str _
  · rename_i x p
    split at h
    · rename_i hgl
      obtain ⟨g1, g2, g3⟩ := S.gl hgl
      split at h
      · rename_i q hq
        cases h
        have e : q.1 = x := by
          have := List.find?_some hq
          simpa using this
        obtain ⟨t, ht⟩ := S.ft.nums q (List.mem_of_find?_eq_some hq)
        rw [e] at ht
        exact ev_c (v := .int q.2) (pe_glob g1 ht ⟨t, rfl⟩ g2) fun F => .int _
      · split at h
        · rename_i hc
          cases h
          exact ev_c (v := .ref (He.ga X.K x)) (pe_glob g1 (S.ft.cl x (by simpa using hc)) rfl g2) fun F => .cls x
        · split at h
          · rename_i hf
            split at h
            · rename_i T hT
              cases h
              exact ev_c (v := .ty T) (pe_bltn g1 (S.ft.free x (by simpa using hf)) (tyName_ok hT) rfl g3 g2) fun F => .ty T
            · cases h
          · cases h
    · cases h
  · cases h
def rdV (g : Gt) (N : List Str) (sc : Scope) (r : Rd) : Expr → Option (Fx D)
  | .Name x p => match slotOf N sc x with
    | some i => some (mNameV i)
    | none => (rdConst g N sc (.Name x p)).map mC
  | .Tuple es _ _ => (allV r es).map (if g.bare = true then mTupB else mTup)
  | .Subscript a b _ => if (isDic a && noSl b) = true then match r.V a, r.V b with
      | some m, some n => some (mDget m n)
      | _, _ => none
    else none
  | e => (rdConst g N sc e).map mC
where isDic : Expr → Bool
  | .Attribute _ f _ => g.dfl.contains f
  | _ => false
theorem noSl_ok {b : Expr} (h : noSl b = true) : NoSl b := fun ov iv => by
  cases b <;> first
    | rfl
    | cases h
theorem rdV_ok (S : So g k N sc X) {r : Rd} (hr : r.Ok X W) {e : Expr} {m : Fx D} (h : rdV g N sc r e = some m) : EV X W m e := by
  unfold rdV at h
  split at h
  · rename_i x p
    split at h
    · rename_i i hi
      cases h
      exact ev_name (S.var hi)
    · obtain ⟨d, h1, h2⟩ := Option.map_eq_some_iff.mp h
      subst h2
      exact rdConst_ok S h1
  · rename_i es kk p
    obtain ⟨ms, h1, h2⟩ := Option.map_eq_some_iff.mp h
    subst h2
    obtain ⟨q1, q2, q3⟩ := allV_ok hr h1
    split
    · exact ev_tupB q1
    · exact ev_tup q1
  · rename_i a b p
    split at h
    · rename_i c
      rw [Bool.and_eq_true] at c
      split at h
      · rename_i m1 n1 e1 e2
        cases h
        have un := S.room.r.un
        exact ev_dget (by omega) (hr.V _ _ e1) (hr.V _ _ e2) (noSl_ok c.2)
      · cases h
    · cases h
  · obtain ⟨d, h1, h2⟩ := Option.map_eq_some_iff.mp h
    subst h2
    exact rdConst_ok S h1
end
end Mn
set_option Elab.async false
set_option linter.all false
set_option maxRecDepth 100000
set_option maxHeartbeats 1000000
namespace Mn
open PySem PySem.Spec L2
def boolR (r : Rd) (f : Fx Slot → Fx Slot → Fx Slot) : List Expr → Option (Fx Slot)
  | [] => none
  | [e] => r.R e
  | e :: a :: es => match r.R e, boolR r f (a :: es) with
    | some m, some n => some (f m n)
    | _, _ => none
def boolT (r : Rd) (f : Fx Bool → Fx Bool → Fx Bool) : List Expr → Option (Fx Bool)
  | [] => none
  | [e] => r.T e
  | e :: a :: es => match r.T e, boolT r f (a :: es) with
    | some m, some n => some (f m n)
    | _, _ => none
def partO (r : Rd) : Option Expr → Option (Option (Fx Opd))
  | none => some none
  | some e => (r.O e).map some
def rdR (g : Gt) (r : Rd) : Expr → Option (Fx Slot)
  | .BinOp a o b _ => match binD o, r.O a, r.O b with
    | some op, some m, some n => some (m2 op m n)
    | _, _, _ => none
  | .Compare a [o] [b] _ => if behindInMarks o b = false then match cmpD o, r.O a, r.O b with
      | some op, some m, some n => some (m2 op m n)
      | _, _, _ => none
    else none
  | .Compare a [o, o'] [b, c] _ => if lastMarks [o, o'] [b, c] = false then match cmpD o, cmpD o', r.O a, r.O b, r.O c with
      | some op, some op', some m, some n, some l => some (mCh op op' m n l)
      | _, _, _, _, _ => none
    else none
  | .UnaryOp .USub a _ => (r.O a).map (m1 negD)
  | .UnaryOp .Not a _ => (r.R a).map mNotV
  | .BoolOp .And es _ => boolR r mAndV es
  | .BoolOp .Or es _ => boolR r mOrV es
  | .IfExp c a b _ => match r.T c, r.R a, r.R b with
    | some t, some m, some n => some (mIf t m n)
    | _, _, _ => none
  | .List es _ => (allV r es).map mLst
  | .Attribute a f _ => if noBase a = true then (r.O a).map (m1 (fldOp g.cs f)) else none
  | .Subscript a (.Slice lo hi none _) _ => match r.O a, partO r lo, partO r hi with
    | some m, some l, some h => some (mSl slE m l h)
    | _, _, _ => none
  | .Subscript a b _ => if noSl b = true then match r.O a, r.O b with
      | some m, some n => some (m2 ixD m n)
      | _, _ => none
    else none
  | _ => none
def rdT (r : Rd) : Expr → Option (Fx Bool)
  | .Compare a [o] [b] _ => if behindInMarks o b = false then match cmpD o, r.O a, r.O b with
      | some op, some m, some n => some (mB (m2 op m n))
      | _, _, _ => none
    else none
  | .Compare a [o, o'] [b, c] _ => if lastMarks [o, o'] [b, c] = false then match cmpD o, cmpD o', r.O a, r.O b, r.O c with
      | some op, some op', some m, some n, some l => some (mB (mCh op op' m n l))
      | _, _, _, _, _ => none
    else none
  | .UnaryOp .Not a _ => (r.T a).map mNot
  | .BoolOp .And es _ => boolT r mAnd es
  | .BoolOp .Or es _ => boolT r mOr es
  | e => if plainTest e = true then (r.O e).map mT else none
section
variable {g : Gt} {k : Nat} {N : List Str} {sc : Scope} {X : Cx} {W : WX} {r : Rd}
theorem boolR_and (hr : r.Ok X W) : ∀ {es : List Expr} {m : Fx Slot} {pos : Pos}, boolR r mAndV es = some m → ER X W m (.BoolOp .And es pos)
  | [], _, _, h => by cases h
  | [e], _, _, h => er_one (hr.R _ _ h)
  | e :: a :: es, _, pos, h => by
    unfold boolR at h
    cases e1 : r.R e with
    | none => rw [e1] at h; cases h
    | some m =>
      cases e2 : boolR r mAndV (a :: es) with
      | none => rw [e1, e2] at h; cases h
      | some n =>
        rw [e1, e2] at h
        cases h
        exact er_and (hr.R _ _ e1) (boolR_and hr e2)
theorem boolR_or (hr : r.Ok X W) : ∀ {es : List Expr} {m : Fx Slot} {pos : Pos}, boolR r mOrV es = some m → ER X W m (.BoolOp .Or es pos)
  | [], _, _, h => by cases h
  | [e], _, _, h => er_one (hr.R _ _ h)
  | e :: a :: es, _, pos, h => by
    unfold boolR at h
    cases e1 : r.R e with
    | none => rw [e1] at h; cases h
    | some m =>
      cases e2 : boolR r mOrV (a :: es) with
      | none => rw [e1, e2] at h; cases h
      | some n =>
        rw [e1, e2] at h
        cases h
        exact er_or (hr.R _ _ e1) (boolR_or hr e2)
theorem boolT_and (hr : r.Ok X W) : ∀ {es : List Expr} {m : Fx Bool} {pos : Pos}, boolT r mAnd es = some m → EW X W m (.BoolOp .And es pos)
  | [], _, _, h => by cases h
  | [e], _, _, h => ew_and1 (hr.T _ _ h)
  | e :: a :: es, _, pos, h => by
    unfold boolT at h
    cases e1 : r.T e with
    | none => rw [e1] at h; cases h
    | some m =>
      cases e2 : boolT r mAnd (a :: es) with
      | none => rw [e1, e2] at h; cases h
      | some n =>
        rw [e1, e2] at h
        cases h
        exact ew_and (hr.T _ _ e1) (boolT_and hr e2)
theorem boolT_or (hr : r.Ok X W) : ∀ {es : List Expr} {m : Fx Bool} {pos : Pos}, boolT r mOr es = some m → EW X W m (.BoolOp .Or es pos)
  | [], _, _, h => by cases h
  | [e], _, _, h => ew_or1 (hr.T _ _ h)
  | e :: a :: es, _, pos, h => by
    unfold boolT at h
    cases e1 : r.T e with
    | none => rw [e1] at h; cases h
    | some m =>
      cases e2 : boolT r mOr (a :: es) with
      | none => rw [e1, e2] at h; cases h
      | some n =>
        rw [e1, e2] at h
        cases h
        exact ew_or (hr.T _ _ e1) (boolT_or hr e2)
theorem partO_ok (hr : r.Ok X W) {e : Option Expr} {m : Option (Fx Opd)} (h : partO r e = some m) : PO X e (cP X.K W (mP m)) := by
  cases e with
  | none => cases h; exact ep_none
  | some e =>
    obtain ⟨n, h1, h2⟩ := Option.map_eq_some_iff.mp h
    subst h2
    exact ep_some (hr.O _ _ h1)
theorem So.un (S : So g k N sc X) : X.A.units + 100 < cLine := by
  have := S.room.r.un
  omega
theorem plainIx_of {b : Expr} (h : noSl b = true) : PlainIx b := fun ov iv => by
  cases b <;> first
    | rfl
    | cases h
theorem rdR_ok (S : So g k N sc X) (hr : r.Ok X W) {e : Expr} {m : Fx Slot} (h : rdR g r e = some m) : ER X W m e := by
  have un := S.un
  unfold rdR at h
  split at h
  · split at h
    · rename_i op m n e1 e2 e3
      cases h
      obtain ⟨q, q1, q2⟩ := bin_ok (X := X) e1
      exact er_bin q1 q2 (hr.O _ _ e2) (hr.O _ _ e3)
    · cases h
  · split at h
    · rename_i c
      split at h
      · rename_i op m n e1 e2 e3
        cases h
        obtain ⟨q, q1, q2⟩ := cmp_ok (X := X) (by omega) e1
        exact er_cmp q1 q2 c (hr.O _ _ e2) (hr.O _ _ e3)
      · cases h
    · cases h
  · split at h
    · rename_i c
      split at h
      · rename_i op op' m n l e1 e2 e3 e4 e5
        cases h
        obtain ⟨q, q1, q2⟩ := cmp_ok (X := X) (by omega) e1
        obtain ⟨p, p1, p2⟩ := cmp_ok (X := X) (by omega) e2
        exact er_chain q1 q2 p1 p2 c (hr.O _ _ e3) (hr.O _ _ e4) (hr.O _ _ e5)
      · cases h
    · cases h
  · obtain ⟨n, h1, h2⟩ := Option.map_eq_some_iff.mp h
    subst h2
    exact er_un un_neg ok_neg (hr.O _ _ h1)
  · obtain ⟨n, h1, h2⟩ := Option.map_eq_some_iff.mp h
    subst h2
    exact er_not (hr.R _ _ h1)
  · exact boolR_and hr h
  · exact boolR_or hr h
  · split at h
    · rename_i t m n e1 e2 e3
      cases h
      exact er_if (hr.T _ _ e1) (hr.R _ _ e2) (hr.R _ _ e3)
    · cases h
  · obtain ⟨n, h1, h2⟩ := Option.map_eq_some_iff.mp h
    subst h2
    exact er_lst (allV_ok hr h1).1
  · split at h
    · rename_i c
      obtain ⟨n, h1, h2⟩ := Option.map_eq_some_iff.mp h
      subst h2
      exact er_fld S.ft.cs c (hr.O _ _ h1)
    · cases h
  · split at h
    · rename_i m l hh e1 e2 e3
      cases h
      exact er_slice slr_E ok_slE (hr.O _ _ e1) (partO_ok hr e2) (partO_ok hr e3)
    · cases h
  · split at h
    · rename_i c
      split at h
      · rename_i m n e1 e2
        cases h
        exact er_ix ixr_seq ok_ix (plainIx_of c) (hr.O _ _ e1) (hr.O _ _ e2)
      · cases h
    · cases h
  · cases h
theorem rdT_ok (S : So g k N sc X) (hr : r.Ok X W) {e : Expr} {m : Fx Bool} (h : rdT r e = some m) : ET X W m e := by
  have un := S.un
  unfold rdT at h
  split at h
  · split at h
    · rename_i c
      split at h
      · rename_i op m n e1 e2 e3
        cases h
        obtain ⟨q, q1, q2⟩ := cmp_ok (X := X) (by omega) e1
        exact et_cmp q1 q2 c (hr.O _ _ e2) (hr.O _ _ e3)
      · cases h
    · cases h
  · split at h
    · rename_i c
      split at h
      · rename_i op op' m n l e1 e2 e3 e4 e5
        cases h
        obtain ⟨q, q1, q2⟩ := cmp_ok (X := X) (by omega) e1
        obtain ⟨p, p1, p2⟩ := cmp_ok (X := X) (by omega) e2
        exact et_chain q1 q2 p1 p2 c (hr.O _ _ e3) (hr.O _ _ e4) (hr.O _ _ e5)
      · cases h
    · cases h
  · obtain ⟨n, h1, h2⟩ := Option.map_eq_some_iff.mp h
    subst h2
    exact et_not (hr.T _ _ h1)
  · exact et_bool (boolT_and hr h)
  · exact et_bool (boolT_or hr h)
  · split at h
    · rename_i c
      obtain ⟨n, h1, h2⟩ := Option.map_eq_some_iff.mp h
      subst h2
      exact et_of (hr.O _ _ h1) c
    · cases h
end
end Mn
set_option Elab.async false
set_option linter.all false
set_option maxRecDepth 100000
set_option maxHeartbeats 1000000
namespace Mn
open PySem PySem.Spec L2
inductive BiK where
  | b (id : String) | t (T : String)
def BiK.v : BiK → Value
  | .b id => .builtin id
  | .t T => .type T
def biOf (g : Gt) (x : Str) : Option (BiK × (List D → Option Slot)) :=
  if x = ("len" : Str) then some (.b "len", ap1 lenD) else
  if x = ("isinstance" : Str) then some (.b "isinstance", isiD g.is g.ic) else
  if x = ("all" : Str) then some (.b "all", ap1 allD) else
  if x = ("any" : Str) then some (.b "any", ap1 anyD) else
  if x = ("sum" : Str) then some (.b "sum", ap1 sumD) else
  if x = ("abs" : Str) then some (.b "abs", ap1 absD) else
  if x = ("max" : Str) then some (.b "max", bestD maxI maxL) else
  if x = ("min" : Str) then some (.b "min", bestD minI minL) else
  if x = ("sorted" : Str) then some (.b "sorted", ap1 sortD) else
  if x = ("repr" : Str) then some (.b "repr", ap1 reprD) else
  if x = ("list" : Str) then some (.t "list", ap1 listD) else
  if x = ("tuple" : Str) then some (.t "tuple", ap1 (tupD g.bare)) else
  if x = ("int" : Str) then some (.t "int", ap1 intD) else none
section
variable {g : Gt} {k : Nat} {N : List Str} {sc : Scope} {X : Cx} {W : WX} {r : Rd}
theorem biOf_ok (S : So g k N sc X) {x : Str} {kd : BiK} {op : List D → Option Slot} (h : biOf g x = some (kd, op)) : ∃ q, CallR X kd.v q ∧ OpN X.K q op ∧ bootBuiltins x = some kd.v := by
  have un := S.un
  unfold biOf at h
  by_cases e : x = ("len" : Str)
  · rw [if_pos e] at h
    cases h
    rw [e]
    exact ⟨_, cr_len, ok_len, PySem.boot_len⟩
  rw [if_neg e] at h
  clear e
  by_cases e : x = ("isinstance" : Str)
  · rw [if_pos e] at h
    cases h
    rw [e]
    exact ⟨_, cr_isi, ok_isi S.ft.is, PyProof.Rows.boot_isinstance⟩
  rw [if_neg e] at h
  clear e
  by_cases e : x = ("all" : Str)
  · rw [if_pos e] at h
    cases h
    rw [e]
    exact ⟨_, cr_all S.calm, ok_all, PyProof.Rows.boot_all⟩
  rw [if_neg e] at h
  clear e
  by_cases e : x = ("any" : Str)
  · rw [if_pos e] at h
    cases h
    rw [e]
    exact ⟨_, cr_any S.calm, ok_any, PyProof.Rows.boot_any⟩
  rw [if_neg e] at h
  clear e
  by_cases e : x = ("sum" : Str)
  · rw [if_pos e] at h
    cases h
    rw [e]
    exact ⟨_, cr_sumQ S.calm, ok_sum, PyProof.Rows.boot_sum⟩
  rw [if_neg e] at h
  clear e
  by_cases e : x = ("abs" : Str)
  · rw [if_pos e] at h
    cases h
    rw [e]
    exact ⟨_, call_abs, ok_abs, PyProof.Rows.boot_abs⟩
  rw [if_neg e] at h
  clear e
  by_cases e : x = ("max" : Str)
  · rw [if_pos e] at h
    cases h
    rw [e]
    exact ⟨_, cr_maxQ S.calm, ok_max, PyProof.Rows.boot_max⟩
  rw [if_neg e] at h
  clear e
  by_cases e : x = ("min" : Str)
  · rw [if_pos e] at h
    cases h
    rw [e]
    exact ⟨_, cr_minQ S.calm, ok_min, PyProof.Rows.boot_min⟩
  rw [if_neg e] at h
  clear e
  by_cases e : x = ("sorted" : Str)
  · rw [if_pos e] at h
    cases h
    rw [e]
    exact ⟨_, cr_sortQ, ok_sort, PyProof.Rows.boot_sorted⟩
  rw [if_neg e] at h
  clear e
  by_cases e : x = ("repr" : Str)
  · rw [if_pos e] at h
    cases h
    rw [e]
    exact ⟨_, cr_repr S.room.g (by omega), ok_repr, PyProof.Rows.boot_repr⟩
  rw [if_neg e] at h
  clear e
  by_cases e : x = ("list" : Str)
  · rw [if_pos e] at h
    cases h
    rw [e]
    exact ⟨_, call_list_of, ok_list, boot_list1⟩
  rw [if_neg e] at h
  clear e
  by_cases e : x = ("tuple" : Str)
  · rw [if_pos e] at h
    cases h
    rw [e]
    exact ⟨_, cr_tup, ok_tup, boot_tuple1⟩
  rw [if_neg e] at h
  clear e
  by_cases e : x = ("int" : Str)
  · rw [if_pos e] at h
    cases h
    rw [e]
    exact ⟨_, call_int1, ok_int, boot_int1⟩
  rw [if_neg e] at h
  clear e
  cases h
def rdBi (g : Gt) (sc : Scope) (r : Rd) : Expr → Option (Fx Slot)
  | .Call (.Name x _) (e :: es) [] _ => if (gloOf sc x && g.free.contains x) = true then match biOf g x, allO r (e :: es) with
      | some p, some ms => some (mN p.2 ms)
      | _, _ => none
    else none
  | _ => none
theorem rdBi_ok (S : So g k N sc X) (hr : r.Ok X W) {e : Expr} {m : Fx Slot} (h : rdBi g sc r e = some m) : ER X W m e := by
  unfold rdBi at h
  split at h
  · rename_i x px e es p
    split at h
    · rename_i c
      rw [Bool.and_eq_true] at c
      obtain ⟨g1, g2, g3⟩ := S.gl c.1
      have fr := S.ft.free x (by simpa using c.2)
      split at h
      · rename_i q ms e1 e2
        cases h
        obtain ⟨kd, op⟩ := q
        obtain ⟨q, q1, q2, q3⟩ := biOf_ok S e1
        obtain ⟨a1, a2, a3⟩ := allO_ok hr e2
        cases kd with
        | b id => exact er_callB q1 q2 g1 fr q3 g3 g2 a1 a2
        | t T => exact er_callTy q1 q2 g1 fr q3 g3 g2 a1 a2
      · cases h
    · cases h
  · cases h
end
end Mn
set_option Elab.async false
set_option linter.all false
set_option maxRecDepth 100000
set_option maxHeartbeats 1000000
namespace Mn
open PySem PySem.Spec L2
def kwO (r : Rd) : List Keyword → Option (List (Fx Opd))
  | [] => some []
  | ⟨_, e, _⟩ :: ks => match r.O e, kwO r ks with
    | some m, some ms => some (m :: ms)
    | _, _ => none
def kwV (r : Rd) : List Keyword → Option (List (Fx D))
  | [] => some []
  | ⟨_, e, _⟩ :: ks => match r.V e, kwV r ks with
    | some m, some ms => some (m :: ms)
    | _, _ => none
def rdCall (g : Gt) (sc : Scope) (r : Rd) : Expr → Option (Fx Slot)
  | .Call (.Name x _) es kws _ => if gloOf sc x = true then match g.fs.find? fun p => decide (p.x = x) with
      | some p => if (p.sh.contains es.length && (decide (es.length + (p.ps.drop es.length).length = p.ps.length) && goodKw kws (p.ps.drop es.length))) = true then match allO r es, kwO r kws with
          | some ms, some ks => some (mCallX p.m ms ks)
          | _, _ => none
        else none
      | none => none
    else none
  | _ => none
def rdMake (g : Gt) (sc : Scope) (r : Rd) : Expr → Option (Fx Slot)
  | .Call (.Name x _) es kws _ => if gloOf sc x = true then match g.mks.find? fun p => decide (p.x = x) with
      | some p => if (p.sh.contains (es.length + 1) && (decide (es.length + 1 + (p.ps.drop (es.length + 1)).length = p.ps.length) && goodKw kws (p.ps.drop (es.length + 1)))) = true then match allV r es, kwV r kws with
          | some ms, some ks => some (mMake p.x p.m ms ks)
          | _, _ => none
        else none
      | none => none
    else none
  | _ => none
section
variable {g : Gt} {k : Nat} {N : List Str} {sc : Scope} {X : Cx} {W : WX} {r : Rd}
theorem kwO_ok (hr : r.Ok X W) : ∀ {kws : List Keyword} {ms : List (Fx Opd)}, kwO r kws = some ms → PK X kws (cOs X.K W (mOs ms)) ∧ ms.length = kws.length
  | [], _, h => by cases h; exact ⟨pk_nilM, rfl⟩
  | ⟨n, e, p⟩ :: ks, _, h => by
    unfold kwO at h
    cases e1 : r.O e with
    | none => rw [e1] at h; cases h
    | some m =>
      cases e2 : kwO r ks with
      | none => rw [e1, e2] at h; cases h
      | some ms =>
        rw [e1, e2] at h
        cases h
        obtain ⟨h1, h2⟩ := kwO_ok hr e2
        exact ⟨pk_consM (hr.O _ _ e1) h1, congrArg (· + 1) h2⟩
theorem kwV_ok (hr : r.Ok X W) : ∀ {kws : List Keyword} {ms : List (Fx D)}, kwV r kws = some ms → PK X kws (cVs X.K W (mVs ms)) ∧ ms.length = kws.length
  | [], _, h => by cases h; exact ⟨pkv_nil, rfl⟩
  | ⟨n, e, p⟩ :: ks, _, h => by
    unfold kwV at h
    cases e1 : r.V e with
    | none => rw [e1] at h; cases h
    | some m =>
      cases e2 : kwV r ks with
      | none => rw [e1, e2] at h; cases h
      | some ms =>
        rw [e1, e2] at h
        cases h
        obtain ⟨h1, h2⟩ := kwV_ok hr e2
        exact ⟨pkv_cons (hr.V _ _ e1) h1, congrArg (· + 1) h2⟩
theorem goodKw_len {kws : List Keyword} {ks : List Str} (h : goodKw kws ks = true) : kws.length = ks.length := by
  have := congrArg List.length (of_decide_eq_true h)
  simpa using this
theorem rdCall_ok (S : So g k N sc X) (tk : Takes X W) (hr : r.Ok X W) {e : Expr} {m : Fx Slot} (h : rdCall g sc r e = some m) : ER X W m e := by
  unfold rdCall at h
  split at h
  · rename_i x px es kws p
    split at h
    · rename_i c
      obtain ⟨g1, g2, g3⟩ := S.gl c
      split at h
      · rename_i q hq
        split at h
        · rename_i c2
          simp only [Bool.and_eq_true, decide_eq_true_eq] at c2
          obtain ⟨c3, c4, c5⟩ := c2
          split at h
          · rename_i ms ks e1 e2
            cases h
            have ex : q.x = x := by
              have := List.find?_some hq
              simpa using this
            obtain ⟨fd, f1, f2, f3, f4⟩ := S.ft.fs q (List.mem_of_find?_eq_some hq)
            obtain ⟨f5, f6⟩ := f4 es.length (by simpa using c3)
            obtain ⟨a1, a2, a3⟩ := allO_ok hr e1
            obtain ⟨b1, b2⟩ := kwO_ok hr e2
            rw [ex] at f1 f2 f3
            have rm := S.room.mono (show k ≤ k + 2 by omega)
            cases es with
            | nil =>
              cases e1
              exact er_callX0 f1 rm g1 f2 f3 f6 c4 tk b1 (b2.trans (goodKw_len c5)) c5 g2
            | cons e es => exact er_callX f1 rm g1 f2 f3 f6 c4 tk a1 a3 b1 (b2.trans (goodKw_len c5)) c5 a2 g2
          · cases h
        · cases h
      · cases h
    · cases h
  · cases h
theorem rdMake_ok (S : So g k N sc X) (tk : Takes X W) (hr : r.Ok X W) {e : Expr} {m : Fx Slot} (h : rdMake g sc r e = some m) : ER X W m e := by
  unfold rdMake at h
  split at h
  · rename_i x px es kws p
    split at h
    · rename_i c
      obtain ⟨g1, g2, g3⟩ := S.gl c
      split at h
      · rename_i q hq
        split at h
        · rename_i c2
          simp only [Bool.and_eq_true, decide_eq_true_eq] at c2
          obtain ⟨c3, c4, c5⟩ := c2
          split at h
          · rename_i ms ks e1 e2
            cases h
            have ex : q.x = x := by
              have := List.find?_some hq
              simpa using this
            obtain ⟨f, fd, mk, f1, f2, f4⟩ := S.ft.mks q (List.mem_of_find?_eq_some hq)
            obtain ⟨f0, f5, f6⟩ := f4 (es.length + 1) (by simpa using c3)
            obtain ⟨a1, a2, a3⟩ := allV_ok hr e1
            obtain ⟨b1, b2⟩ := kwV_ok hr e2
            have g1' := g1
            rw [← ex] at g1 g2
            have rm := S.room.mono (show k + 1 ≤ k + 2 by omega)
            cases es with
            | nil =>
              cases e1
              rw [← ex]
              exact er_make0 mk f1 rm g1 f2 f6 c4 tk b1 (b2.trans (goodKw_len c5)) c5 g2
            | cons e es =>
              rw [← ex]
              exact er_make mk f1 rm g1 f2 f6 c4 tk a1 a3 b1 (b2.trans (goodKw_len c5)) c5 a2 g2
          · cases h
        · cases h
      · cases h
    · cases h
  · cases h
end
end Mn
set_option Elab.async false
set_option linter.all false
set_option maxRecDepth 100000
set_option maxHeartbeats 1000000
namespace Mn
open PySem PySem.Spec L2
theorem ty_sort : typeOf (.builtin "list.sort") = pure (.type "method_descriptor") := by show builtinType _ = _; rw [builtinType_eq_fast]; kernel_rfl
def mtOf (x : Str) : Option (String × Mop) :=
  if x = ("append" : Str) then some ("list.append", opAppend) else
  if x = ("extend" : Str) then some ("list.extend", opExtend) else
  if x = ("pop" : Str) then some ("list.pop", opPop) else
  if x = ("remove" : Str) then some ("list.remove", opRemove) else
  if x = ("reverse" : Str) then some ("list.reverse", opReverse) else
  if x = ("sort" : Str) then some ("list.sort", opSort) else none
section
variable {g : Gt} {k : Nat} {N : List Str} {sc : Scope} {X : Cx} {W : WX} {r : Rd}
theorem mtOf_ok (S : So g k N sc X) {x : Str} {id : String} {op : Mop} (h : mtOf x = some (id, op)) : ∃ q, PySem.Slot "list" x id ∧ typeOf (.builtin id) = pure (.type "method_descriptor") ∧ MtR X id q ∧ MuOk X.K q op := by
  unfold mtOf at h
  by_cases e : x = ("append" : Str)
  · rw [if_pos e] at h
    cases h
    rw [e]
    exact ⟨_, PySem.F.slot_list_append, ty_append, mt_append, mu_append⟩
  rw [if_neg e] at h
  clear e
  by_cases e : x = ("extend" : Str)
  · rw [if_pos e] at h
    cases h
    rw [e]
    exact ⟨_, PySem.F.slot_list_extend, ty_extend, mt_extend, mu_extend⟩
  rw [if_neg e] at h
  clear e
  by_cases e : x = ("pop" : Str)
  · rw [if_pos e] at h
    cases h
    rw [e]
    exact ⟨_, PySem.F.slot_list_pop, ty_pop, mt_popQ, mu_pop⟩
  rw [if_neg e] at h
  clear e
  by_cases e : x = ("remove" : Str)
  · rw [if_pos e] at h
    cases h
    rw [e]
    exact ⟨_, PySem.F.slot_list_remove, ty_remove, mt_remove, mu_remove⟩
  rw [if_neg e] at h
  clear e
  by_cases e : x = ("reverse" : Str)
  · rw [if_pos e] at h
    cases h
    rw [e]
    exact ⟨_, PySem.F.slot_list_reverse, ty_reverse, mt_reverse, mu_reverse⟩
  rw [if_neg e] at h
  clear e
  by_cases e : x = ("sort" : Str)
  · rw [if_pos e] at h
    cases h
    rw [e]
    exact ⟨_, PySem.F.slot_list_sort, ty_sort, mt_sortI, mu_sort⟩
  rw [if_neg e] at h
  cases h
/-- a method that changes the list of a name -/
def rdMt (N : List Str) (sc : Scope) (r : Rd) : Expr → Option (Fx D)
  | .Call (.Attribute (.Name x _) nm apos) es [] cpos => match slotOf N sc x, mtOf nm with
    | some i, some q => if (decide (es.length < 30) && (apos.endLine == cpos.line)) = true then (allV r es).map (mMt i q.2) else none
    | _, _ => none
  | _ => none
theorem rdMt_ok (S : So g k N sc X) (hr : r.Ok X W) {e : Expr} {m : Fx D} (h : rdMt N sc r e = some m) : EV X W m e := by
  unfold rdMt at h
  split at h
  · rename_i x px nm apos es cpos
    split at h
    · rename_i i q e1 e2
      split at h
      · rename_i c
        rw [Bool.and_eq_true, decide_eq_true_eq] at c
        obtain ⟨ms, h1, h2⟩ := Option.map_eq_some_iff.mp h
        subst h2
        obtain ⟨a1, a2, a3⟩ := allV_ok hr h1
        obtain ⟨id, op⟩ := q
        obtain ⟨q, q1, q2, q3, q4⟩ := mtOf_ok S e2
        cases es with
        | nil =>
          cases h1
          exact ev_mt0 q1 q2 q3 q4 (S.var e1) c.2
        | cons e es => exact ev_mt q1 q2 q3 q4 (S.var e1) a1 a2 c.1 c.2
      · cases h
    · cases h
  · cases h
/-- index, count -/
def rdRead (g : Gt) (r : Rd) : Expr → Option (Fx Slot)
  | .Call (.Attribute o nm apos) (e :: es) [] cpos => if (noBase o && (decide ((e :: es).length < 30) && (apos.endLine == cpos.line))) = true then match r.O o, allV r (e :: es) with
      | some mo, some ms => if nm = ("index" : Str) then some (mRd false indexD mo ms) else if nm = ("count" : Str) then some (mRd g.bare cntD mo ms) else none
      | _, _ => none
    else none
  | _ => none
theorem rdRead_ok (S : So g k N sc X) (hr : r.Ok X W) {e : Expr} {m : Fx Slot} (h : rdRead g r e = some m) : ER X W m e := by
  unfold rdRead at h
  split at h
  · rename_i o nm apos e es cpos
    split at h
    · rename_i c
      simp only [Bool.and_eq_true, decide_eq_true_eq] at c
      obtain ⟨c1, c2, c3⟩ := c
      split at h
      · rename_i mo ms e1 e2
        obtain ⟨a1, a2, a3⟩ := allV_ok hr e2
        by_cases q : nm = ("index" : Str)
        · rw [if_pos q] at h
          cases h
          rw [q]
          exact er_rd (k := false) PySem.F.slot_list_index ty_index mt_index rd_index (hr.O _ _ e1) a1 c1 a2 c2 c3
        · rw [if_neg q] at h
          by_cases q2 : nm = ("count" : Str)
          · rw [if_pos q2] at h
            cases h
            rw [q2]
            cases hb : g.bare with
            | false => exact er_rd (k := false) PySem.F.slot_list_count ty_count mt_lcount rd_count (hr.O _ _ e1) a1 c1 a2 c2 c3
            | true => exact er_rd (k := true) PySem.F.slot_tuple_count ty_tcount mt_tcount rd_tcount (hr.O _ _ e1) a1 c1 a2 c2 c3
          · rw [if_neg q2] at h
            cases h
      · cases h
    · cases h
  · cases h
end
end Mn
set_option Elab.async false
set_option linter.all false
set_option maxRecDepth 100000
set_option maxHeartbeats 1000000
namespace Mn
open PySem PySem.Spec L2
def isTup : Expr → Bool
  | .Tuple .. => true
  | _ => false
def isFr (g : Gt) (sc : Scope) (x y : Str) : Bool := decide (x = y) && (gloOf sc x && g.free.contains x)
def rdEz (g : Gt) (sc : Scope) (r : Rd) (tg : Expr) : Expr → Option (Fx (List D))
  | .Call (.Name x _) [.Call (.Name y _) [a, b] [] _] [] _ => if (isFr g sc x "enumerate" && (isFr g sc y "zip" && (isTup tg && (notStar a && notStar b)))) = true then match r.V a, r.V b with
      | some m, some n => some (mEz m n)
      | _, _ => none
    else none
  | _ => none
def rdIs (g : Gt) (sc : Scope) (r : Rd) (tg : Expr) : Expr → Option (Fx (List D))
  | .Call (.Name x _) [a] [] _ => if (isFr g sc x "range" && notStar a) = true then (r.O a).map mR1
    else if (isFr g sc x "enumerate" && (isTup tg && notStar a)) = true then (r.V a).map mEnum else none
  | .Call (.Name x _) [a, b] [] _ => if (isFr g sc x "range" && (notStar a && notStar b)) = true then match r.O a, r.O b with
      | some m, some n => some (mR2 m n)
      | _, _ => none
    else if (isFr g sc x "zip" && (isTup tg && (notStar a && notStar b))) = true then match r.V a, r.V b with
      | some m, some n => some (mZip m n)
      | _, _ => none
    else none
  | _ => none
def rdI (g : Gt) (sc : Scope) (r : Rd) (tg e : Expr) : Option (Fx (List D)) := match rdEz g sc r tg e with
  | some m => some m
  | none => match rdIs g sc r tg e with
    | some m => some m
    | none => (r.V e).map mIt
def rdRg (g : Gt) (sc : Scope) (r : Rd) : Expr → Option (Fx (Int × Int))
  | .Call (.Name x _) [a] [] _ => if (isFr g sc x "range" && notStar a) = true then (r.O a).map (mRgB none) else none
  | .Call (.Name x _) [a, b] [] _ => if (isFr g sc x "range" && (notStar a && notStar b)) = true then match r.O a, r.O b with
      | some m, some n => some (mRgB (some m) n)
      | _, _ => none
    else none
  | _ => none
def rdLs (g : Gt) (sc : Scope) (r : Rd) : Expr → Option (Fx Slot)
  | .Call (.Name x _) [e] [] _ => if (isFr g sc x "list" && notStar e) = true then (rdRg g sc r e).map mLstRg
    else if (isFr g sc x "tuple" && notStar e) = true then (rdRg g sc r e).map mTupRg else none
  | _ => none
def rdDz (g : Gt) (sc : Scope) (r : Rd) : Expr → Option (Fx D)
  | .Call (.Name x _) [.Call (.Name y _) [a, b] [] _] [] _ => if (isFr g sc x "dict" && (isFr g sc y "zip" && (notStar a && notStar b))) = true then match r.V a, r.V b with
      | some m, some n => some (mDz m n)
      | _, _ => none
    else none
  | _ => none
section
variable {g : Gt} {k : Nat} {N : List Str} {sc : Scope} {X : Cx} {W : WX} {r : Rd}
theorem So.fr (S : So g k N sc X) {x y : Str} (h : isFr g sc x y = true) : x = y ∧ Gl X y ∧ X.mg y = none := by
  unfold isFr at h
  simp only [Bool.and_eq_true, decide_eq_true_eq] at h
  obtain ⟨rfl, h2, h3⟩ := h
  exact ⟨rfl, (S.gl h2).1, S.ft.free x (by simpa using h3)⟩
theorem isTup_ok {e : Expr} (h : isTup e = true) : ∃ es kk p, e = .Tuple es kk p := by
  unfold isTup at h
  split at h
  · exact ⟨_, _, _, rfl⟩
  · cases h
theorem rdEz_ok (S : So g k N sc X) (hr : r.Ok X W) {tg e : Expr} {m : Fx (List D)} (h : rdEz g sc r tg e = some m) : EI X W m tg e := by
  unfold rdEz at h
  split at h
  · split at h
    · rename_i c
      simp only [Bool.and_eq_true] at c
      obtain ⟨c1, c2, c3, c4, c5⟩ := c
      obtain ⟨rfl, f1, f2⟩ := S.fr c1
      obtain ⟨rfl, f3, f4⟩ := S.fr c2
      obtain ⟨_, _, _, rfl⟩ := isTup_ok c3
      split at h
      · rename_i m n e1 e2
        cases h
        exact ei_ez f1 f2 f3 f4 (hr.V _ _ e1) (hr.V _ _ e2) c4 c5
      · cases h
    · cases h
  · cases h
theorem rdIs_ok (S : So g k N sc X) (hr : r.Ok X W) {tg e : Expr} {m : Fx (List D)} (h : rdIs g sc r tg e = some m) : EI X W m tg e := by
  unfold rdIs at h
  split at h
  · split at h
    · rename_i c
      simp only [Bool.and_eq_true] at c
      obtain ⟨rfl, f1, f2⟩ := S.fr c.1
      obtain ⟨n, h1, h2⟩ := Option.map_eq_some_iff.mp h
      subst h2
      exact ei_r1 f1 f2 (hr.O _ _ h1) c.2
    · split at h
      · rename_i c
        simp only [Bool.and_eq_true] at c
        obtain ⟨c1, c3, c4⟩ := c
        obtain ⟨rfl, f1, f2⟩ := S.fr c1
        obtain ⟨_, _, _, rfl⟩ := isTup_ok c3
        obtain ⟨n, h1, h2⟩ := Option.map_eq_some_iff.mp h
        subst h2
        exact ei_enum f1 f2 (hr.V _ _ h1) c4
      · cases h
  · split at h
    · rename_i c
      simp only [Bool.and_eq_true] at c
      obtain ⟨c1, c2, c3⟩ := c
      obtain ⟨rfl, f1, f2⟩ := S.fr c1
      split at h
      · rename_i m n e1 e2
        cases h
        exact ei_r2 f1 f2 (hr.O _ _ e1) (hr.O _ _ e2) c2 c3
      · cases h
    · split at h
      · rename_i c
        simp only [Bool.and_eq_true] at c
        obtain ⟨c1, c2, c3, c4⟩ := c
        obtain ⟨rfl, f1, f2⟩ := S.fr c1
        obtain ⟨_, _, _, rfl⟩ := isTup_ok c2
        split at h
        · rename_i m n e1 e2
          cases h
          exact ei_zip f1 f2 (hr.V _ _ e1) (hr.V _ _ e2) c3 c4
        · cases h
      · cases h
  · cases h
theorem rdI_ok (S : So g k N sc X) (hr : r.Ok X W) {tg e : Expr} {m : Fx (List D)} (h : rdI g sc r tg e = some m) : EI X W m tg e := by
  unfold rdI at h
  split at h
  · rename_i n hn
    cases h
    exact rdEz_ok S hr hn
  · split at h
    · rename_i n hn
      cases h
      exact rdIs_ok S hr hn
    · obtain ⟨n, h1, h2⟩ := Option.map_eq_some_iff.mp h
      subst h2
      exact ei_seq (hr.V _ _ h1)
theorem rdDz_ok (S : So g k N sc X) (hr : r.Ok X W) {e : Expr} {m : Fx D} (h : rdDz g sc r e = some m) : EV X W m e := by
  unfold rdDz at h
  split at h
  · split at h
    · rename_i c
      simp only [Bool.and_eq_true] at c
      obtain ⟨c1, c2, c3, c4⟩ := c
      obtain ⟨rfl, f1, f2⟩ := S.fr c1
      obtain ⟨rfl, f3, f4⟩ := S.fr c2
      have un := S.un
      split at h
      · rename_i m n e1 e2
        cases h
        exact ev_dz (by omega) S.room.r.hd f1 f2 f3 f4 (hr.V _ _ e1) (hr.V _ _ e2) c3 c4
      · cases h
    · cases h
  · cases h
theorem rdRg_ok (S : So g k N sc X) (hr : r.Ok X W) {e : Expr} {m : Fx (Int × Int)} (h : rdRg g sc r e = some m) : PRg X e (cRg X.K W m) := by
  unfold rdRg at h
  split at h
  · split at h
    · rename_i c
      simp only [Bool.and_eq_true] at c
      obtain ⟨rfl, f1, f2⟩ := S.fr c.1
      obtain ⟨n, h1, h2⟩ := Option.map_eq_some_iff.mp h
      subst h2
      exact rg_1 f1 f2 (hr.O _ _ h1) c.2
    · cases h
  · split at h
    · rename_i c
      simp only [Bool.and_eq_true] at c
      obtain ⟨c1, c2, c3⟩ := c
      obtain ⟨rfl, f1, f2⟩ := S.fr c1
      split at h
      · rename_i m n e1 e2
        cases h
        exact rg_2 f1 f2 (hr.O _ _ e1) (hr.O _ _ e2) c2 c3 (by rw [star_cons c3]; rfl)
      · cases h
    · cases h
  · cases h
theorem rdLs_ok (S : So g k N sc X) (hr : r.Ok X W) {e : Expr} {m : Fx Slot} (h : rdLs g sc r e = some m) : ER X W m e := by
  unfold rdLs at h
  split at h
  · split at h
    · rename_i c
      simp only [Bool.and_eq_true] at c
      obtain ⟨rfl, f1, f2⟩ := S.fr c.1
      obtain ⟨n, h1, h2⟩ := Option.map_eq_some_iff.mp h
      subst h2
      exact er_lstRg S.calm f1 f2 (rdRg_ok S hr h1) c.2
    · split at h
      · rename_i c
        simp only [Bool.and_eq_true] at c
        obtain ⟨rfl, f1, f2⟩ := S.fr c.1
        obtain ⟨n, h1, h2⟩ := Option.map_eq_some_iff.mp h
        subst h2
        exact er_tupRg S.calm f1 f2 (rdRg_ok S hr h1) c.2
      · cases h
  · cases h
end
end Mn
set_option Elab.async false
set_option linter.all false
set_option maxRecDepth 100000
set_option maxHeartbeats 1000000
namespace Mn
open PySem PySem.Spec L2
/-- the slot of a name that may be bound -/
def locOf (N : List Str) (sc : Scope) (x : Str) : Option Nat := if okName x = true then match sc.names.lookup x with
    | some .local => idx N x
    | some .cell => idx N x
    | _ => none
  else none
mutual
def rdTg (N : List Str) (sc : Scope) : Nat → Expr → Option Tg
  | 0, _ => none
  | n + 1, e => match e with
    | .Name x _ => (locOf N sc x).map .nm
    | .Tuple es _ _ => (rdTgs N sc n es).map .tp
    | _ => none
def rdTgs (N : List Str) (sc : Scope) : Nat → List Expr → Option (List Tg)
  | 0, _ => none
  | _ + 1, [] => some []
  | n + 1, e :: es => if notStar e = true then match rdTg N sc n e, rdTgs N sc n es with
      | some t, some ts => some (t :: ts)
      | _, _ => none
    else none
end
section
variable {g : Gt} {k : Nat} {N : List Str} {sc : Scope} {X : Cx} {W : WX} {r : Rd}
theorem So.loc (S : So g k N sc X) {x : Str} {i : Nat} (h : locOf N sc x = some i) : X.N[i]? = some x ∧ Loc X.env.scope x ∧ (X.fn x = true ∨ X.env.scope.names.lookup x = some .local) := by
  unfold locOf at h
  by_cases ok : okName x = true
  · rw [if_pos ok] at h
    cases e : sc.names.lookup x with
    | none => rw [e] at h; cases h
    | some kd =>
      rw [e] at h
      have v := S.sc x kd e
      cases kd with
      | «local» =>
        rcases v with v | ⟨v, _⟩
        · exact ⟨by rw [S.hN]; exact idx_at h, .inl v, .inr v⟩
        · cases v
      | cell =>
        rcases v with v | ⟨v, _⟩
        · exact ⟨by rw [S.hN]; exact idx_at h, .inr v, .inl (S.fn x e)⟩
        · cases v
      | _ => cases h
  · rw [if_neg ok] at h
    cases h
mutual
theorem rdTg_ok (S : So g k N sc X) : ∀ (n : Nat) {e : Expr} {t : Tg}, rdTg N sc n e = some t → PG X e (cG X.K t)
  | 0, _, _, h => by simp [rdTg] at h
  | n + 1, e, t, h => by
    unfold rdTg at h
    split at h
    · obtain ⟨i, h1, h2⟩ := Option.map_eq_some_iff.mp h
      subst h2
      obtain ⟨q1, q2, q3⟩ := S.loc h1
      exact eg_name (by rw [S.hN]; exact S.nd) q1 q2 q3
    · obtain ⟨ts, h1, h2⟩ := Option.map_eq_some_iff.mp h
      subst h2
      obtain ⟨q1, q2, q3⟩ := rdTgs_ok S n h1
      exact eg_tup S.calm q1 q2 q3
    · cases h
theorem rdTgs_ok (S : So g k N sc X) : ∀ (n : Nat) {es : List Expr} {ts : List Tg}, rdTgs N sc n es = some ts → PGs X es (cGs X.K ts) ∧ es.all notStar = true ∧ es.length = ts.length
  | 0, _, _, h => by simp [rdTgs] at h
  | n + 1, [], _, h => by
    unfold rdTgs at h
    cases h
    exact ⟨egs_nil, rfl, rfl⟩
  | n + 1, e :: es, _, h => by
    unfold rdTgs at h
    by_cases c : notStar e = true
    · rw [if_pos c] at h
      cases e1 : rdTg N sc n e with
      | none => rw [e1] at h; cases h
      | some t =>
        cases e2 : rdTgs N sc n es with
        | none => rw [e1, e2] at h; cases h
        | some ts =>
          rw [e1, e2] at h
          cases h
          obtain ⟨q1, q2, q3⟩ := rdTgs_ok S n e2
          exact ⟨egs_cons (rdTg_ok S n e1) q1 c, by rw [List.all_cons, c, q2]; rfl, congrArg (· + 1) q3⟩
    · rw [if_neg c] at h
      cases h
end
end
def ownOf (N : List Str) : List (Str × NameKind) → List (Str × Nat)
  | [] => []
  | y :: r => match y.2, idx N y.1 with
    | .local, some i => (y.1, i) :: ownOf N r
    | .cell, some i => (y.1, i) :: ownOf N r
    | _, _ => ownOf N r
def blkB (sc scope : Scope) : Bool := decide (scope.kind = .function) && ((scope.names.all fun y => decide (scope.names.lookup y.1 = some y.2)) && scope.names.all fun y => decide (y.2 ≠ .free) || (decide (sc.names.lookup y.1 = some .cell) || decide (sc.names.lookup y.1 = some .free)))
theorem idx_none : ∀ {N : List Str} {x : Str}, idx N x = none → x ∉ N
  | [], _, _ => by simp
  | y :: r, x, h => by
    unfold idx at h
    by_cases e : y = x
    · rw [if_pos e] at h
      cases h
    · rw [if_neg e] at h
      have z := idx_none (Option.map_eq_none_iff.mp h)
      intro m
      rcases List.mem_cons.mp m with q | q
      · exact e q.symm
      · exact z q
theorem ownOf_ix {N : List Str} : ∀ {l : List (Str × NameKind)} {p : Str × Nat}, p ∈ ownOf N l → N[p.2]? = some p.1
  | [], p, h => nomatch h
  | y :: r, p, h => by
    unfold ownOf at h
    split at h
    · rename_i i _ e
      rcases List.mem_cons.mp h with q | q
      · rw [q]; exact idx_at e
      · exact ownOf_ix q
    · rename_i i _ e
      rcases List.mem_cons.mp h with q | q
      · rw [q]; exact idx_at e
      · exact ownOf_ix q
    · exact ownOf_ix h
theorem ownOf_mem {N : List Str} : ∀ {l : List (Str × NameKind)} {y : Str × NameKind}, y ∈ l → y.2 = .local ∨ y.2 = .cell → y.1 ∈ (ownOf N l).map (·.1) ∨ y.1 ∉ N
  | [], y, h, _ => nomatch h
  | z :: r, y, h, k => by
    have step : y.1 ∈ (ownOf N r).map (·.1) → y.1 ∈ (ownOf N (z :: r)).map (·.1) := fun m => by
      unfold ownOf
      split
      · exact List.mem_cons_of_mem _ m
      · exact List.mem_cons_of_mem _ m
      · exact m
    rcases List.mem_cons.mp h with q | q
    · subst q
      cases e : idx N y.1 with
      | none => exact .inr (idx_none e)
      | some i =>
        refine .inl ?_
        unfold ownOf
        rcases k with k | k
        · rw [k, e]; exact List.mem_cons_self ..
        · rw [k, e]; exact List.mem_cons_self ..
    · rcases ownOf_mem q k with m | m
      · exact .inl (step m)
      · exact .inr m
theorem look_map {c : Str × NameKind → Bool} (hc : ∀ y, c y = true → y.2 = .free) : ∀ {l : List (Str × NameKind)} {x : Str} {kd : NameKind}, l.lookup x = some kd → (l.map fun y => if c y = true then (y.1, NameKind.cell) else y).lookup x = some kd ∨ (kd = .free ∧ (l.map fun y => if c y = true then (y.1, NameKind.cell) else y).lookup x = some .cell)
  | [], _, _, h => by cases h
  | (n, q) :: r, x, kd, h => by
    rw [List.lookup_cons] at h
    rw [List.map_cons]
    by_cases e : c (n, q) = true
    · rw [if_pos e, List.lookup_cons]
      cases z : x == n with
      | true =>
        rw [z] at h
        cases h
        exact .inr ⟨hc _ e, rfl⟩
      | false =>
        rw [z] at h
        exact look_map hc h
    · rw [if_neg e, List.lookup_cons]
      cases z : x == n with
      | true =>
        rw [z] at h
        exact .inl h
      | false =>
        rw [z] at h
        exact look_map hc h
end Mn
set_option Elab.async false
set_option linter.all false
set_option maxRecDepth 100000
set_option maxHeartbeats 1000000
namespace Mn
open PySem PySem.Spec L2
section
variable {g : Gt} {k : Nat} {N : List Str} {sc scope : Scope} {X : Cx} {W : WX}
theorem So.inner (S : So g k N sc X) (s : Shared) (H : Hp) (C : Addr) (cl : List (Str × Addr)) (fp : List Addr) : So g k N scope (X.blk s H scope (compEnvC scope cl C X.env) fp) where
  hN := S.hN
  nd := S.nd
  fn := fun x h => by
    show (scope.names.lookup x == some NameKind.cell) = true
    rw [h]
    rfl
  sc := fun x kd h => by
    have q := look_map (c := fun y => y.2 == .free && X.env.scope.kind == .function && X.env.kindOf y.1 == some .cell) (fun y hy => by
      simp only [Bool.and_eq_true] at hy
      exact eq_of_beq hy.1.1) h
    exact q
  calm := S.calm
  room := S.room
  ft := S.ft
theorem takes0 {X : Cx} : Takes X W0 := fun u s' h => by
  obtain ⟨a, B, sI, pins, σ, H, cls, d, e, I, nb, up, sky, na, os, ag, w⟩ := h
  exact w.elim
theorem blkOk_of (S : So g k N sc X) (h : blkB sc scope = true) : BlkOk X.N X.env.scope scope (ownOf N scope.names) := by
  unfold blkB at h
  simp only [Bool.and_eq_true, decide_eq_true_eq, List.all_eq_true, Bool.or_eq_true] at h
  obtain ⟨h1, h2, h3⟩ := h
  refine ⟨h1, h2, fun p hp => by rw [S.hN]; exact ownOf_ix hp, fun y hy e => ?_, fun y hy e => by rw [S.hN]; exact ownOf_mem hy e⟩
  rcases h3 y hy with q | q | q
  · exact absurd e q
  · rcases S.sc _ _ q with v | ⟨v, _⟩
    · exact .inl v
    · cases v
  · rcases S.sc _ _ q with v | ⟨_, v⟩
    · exact .inr v
    · exact .inl v
/-- the conditions of a clause: none, or one -/
def rdIfs (r : Rd) : List Expr → Option (Fx Bool)
  | [] => some mYes
  | [c] => r.T c
  | _ => none
theorem rdIfs_ok {r : Rd} (hr : r.Ok X W) {ifs : List Expr} {m : Fx Bool} (h : rdIfs r ifs = some m) : PTs X ifs (cT X.K W m) := by
  unfold rdIfs at h
  split at h
  · cases h; exact ets_nil
  · exact ets_one (hr.T _ _ h)
  · cases h
def inAll (l vs : List Nat) : Bool := l.all fun j => decide (j ∈ vs)
theorem inAll_ok {l vs : List Nat} (h : inAll l vs = true) : ∀ j ∈ l, j ∈ vs := fun j hj => of_decide_eq_true (List.all_eq_true.mp h j hj)
/-- a comprehension -/
def rdLc (g : Gt) (N : List Str) (sc : Scope) (n : Nat) (r : Rd) (rc : Scope → Rd) : Expr → Option (Fx Slot)
  | .ListComp elt [⟨tg, iter, ifs, 0⟩] scope _ => match rdI g sc r tg iter, rdTg N scope n tg, rdIfs (rc scope) ifs, (rc scope).V elt with
    | some m, some t, some tt, some te => if (blkB sc scope && (notSet iter && inAll (slotsT t) ((ownOf N scope.names).map (·.2)))) = true then some (mLc ((ownOf N scope.names).map (·.2)) t m tt te) else none
    | _, _, _, _ => none
  | .ListComp elt [⟨tg, iter, ifs, 0⟩, ⟨tg1, iter1, ifs1, 0⟩] scope _ => match rdI g sc r tg iter, rdTg N scope n tg, rdIfs (rc scope) ifs, (rc scope).V elt, rdI g scope (rc scope) tg1 iter1, rdTg N scope n tg1, rdIfs (rc scope) ifs1 with
    | some m, some t, some tt, some te, some m1, some t1, some tt1 => if (blkB sc scope && (notSet iter && (notSet iter1 && (inAll (slotsT t) ((ownOf N scope.names).map (·.2)) && inAll (slotsT t1) ((ownOf N scope.names).map (·.2)))))) = true then some (mLc2 ((ownOf N scope.names).map (·.2)) (slotsT t1) t m tt t1 m1 tt1 te) else none
    | _, _, _, _, _, _, _ => none
  | _ => none
theorem rdLc_ok (S : So g k N sc X) {n : Nat} {r : Rd} {rc : Scope → Rd} (hr : r.Ok X W) (hc : ∀ (scope : Scope) (Y : Cx), So g k N scope Y → (rc scope).Ok Y W0) {e : Expr} {m : Fx Slot} (h : rdLc g N sc n r rc e = some m) : ER X W m e := by
  unfold rdLc at h
  split at h
  · rename_i elt tg iter ifs scope pos
    split at h
    · rename_i m t tt te e1 e2 e3 e4
      split at h
      · rename_i c
        simp only [Bool.and_eq_true] at c
        obtain ⟨c1, c2, c3⟩ := c
        cases h
        exact er_lc S.calm (by rw [S.hN]; exact S.nd) (rdI_ok S hr e1) (blkOk_of S c1) (inAll_ok c3) (fun s H C cl fp => rdTg_ok (S.inner s H C cl fp) n e2) (fun s H C cl fp => rdIfs_ok (hc scope _ (S.inner s H C cl fp)) e3) (fun s H C cl fp => (hc scope _ (S.inner s H C cl fp)).V _ _ e4) c2
      · cases h
    · cases h
  · rename_i elt tg iter ifs tg1 iter1 ifs1 scope pos
    split at h
    · rename_i m t tt te m1 t1 tt1 e1 e2 e3 e4 e5 e6 e7
      split at h
      · rename_i c
        simp only [Bool.and_eq_true] at c
        obtain ⟨c1, c2, c3, c4, c5⟩ := c
        cases h
        exact er_lc2 S.calm (by rw [S.hN]; exact S.nd) (rdI_ok S hr e1) (blkOk_of S c1) (inAll_ok c4) (fun j hj => hj) (inAll_ok c5) (fun s H C cl fp => rdTg_ok (S.inner s H C cl fp) n e2) (fun s H C cl fp => rdIfs_ok (hc scope _ (S.inner s H C cl fp)) e3)
          (fun s H C cl fp => rdI_ok (S.inner s H C cl fp) (hc scope _ (S.inner s H C cl fp)) e5) (fun s H C cl fp => rdTg_ok (S.inner s H C cl fp) n e6) (fun s H C cl fp => rdIfs_ok (hc scope _ (S.inner s H C cl fp)) e7) (fun s H C cl fp => (hc scope _ (S.inner s H C cl fp)).V _ _ e4) c2 c3
      · cases h
    · cases h
  · cases h
end
end Mn
set_option Elab.async false
set_option linter.all false
set_option maxRecDepth 100000
set_option maxHeartbeats 1000000
namespace Mn
open PySem PySem.Spec L2
def oe {α : Type} (a b : Option α) : Option α := match a with
  | some m => some m
  | none => b
theorem oe_cases {α : Type} {a b : Option α} {m : α} (h : oe a b = some m) : a = some m ∨ b = some m := by
  unfold oe at h
  cases a with
  | some x => exact .inl h
  | none => exact .inr h
def topR (g : Gt) (N : List Str) (sc : Scope) (n : Nat) (r : Rd) (rc : Scope → Rd) (e : Expr) : Option (Fx Slot) :=
  oe (rdLc g N sc n r rc e) (oe (rdLs g sc r e) (oe (rdBi g sc r e) (oe (rdCall g sc r e) (oe (rdMake g sc r e) (oe (rdRead g r e) (rdR g r e))))))
def topV (g : Gt) (N : List Str) (sc : Scope) (r : Rd) (e : Expr) : Option (Fx D) := oe (rdDz g sc r e) (oe (rdMt N sc r e) (rdV g N sc r e))
def topO (N : List Str) (sc : Scope) : Expr → Option (Fx Opd)
  | .Name x _ => (slotOf N sc x).map mNameO
  | _ => none
def rdAll (g : Gt) (N : List Str) : Nat → Scope → Rd
  | 0, _ => ⟨fun _ => none, fun _ => none, fun _ => none, fun _ => none⟩
  | n + 1, sc =>
    { O := fun e => oe (topO N sc e) (oe ((topV g N sc (rdAll g N n sc) e).map mO) ((topR g N sc n (rdAll g N n sc) (rdAll g N n) e).map fun m => mO (mV m)))
      V := fun e => oe (topV g N sc (rdAll g N n sc) e) ((topR g N sc n (rdAll g N n sc) (rdAll g N n) e).map mV)
      R := fun e => oe ((topV g N sc (rdAll g N n sc) e).map mS) (topR g N sc n (rdAll g N n sc) (rdAll g N n) e)
      T := fun e => rdT (rdAll g N n sc) e }
section
variable {g : Gt} {k : Nat} {N : List Str}
theorem topV_ok {sc : Scope} {X : Cx} {W : WX} {r : Rd} (S : So g k N sc X) (hr : r.Ok X W) {e : Expr} {m : Fx D} (h : topV g N sc r e = some m) : EV X W m e := by
  rcases oe_cases h with h | h
  · exact rdDz_ok S hr h
  rcases oe_cases h with h | h
  · exact rdMt_ok S hr h
  · exact rdV_ok S hr h
theorem topR_ok {sc : Scope} {X : Cx} {W : WX} {r : Rd} {rc : Scope → Rd} {n : Nat} (S : So g k N sc X) (tk : Takes X W) (hr : r.Ok X W) (hc : ∀ (scope : Scope) (Y : Cx), So g k N scope Y → (rc scope).Ok Y W0) {e : Expr} {m : Fx Slot} (h : topR g N sc n r rc e = some m) : ER X W m e := by
  rcases oe_cases h with h | h
  · exact rdLc_ok S hr hc h
  rcases oe_cases h with h | h
  · exact rdLs_ok S hr h
  rcases oe_cases h with h | h
  · exact rdBi_ok S hr h
  rcases oe_cases h with h | h
  · exact rdCall_ok S tk hr h
  rcases oe_cases h with h | h
  · exact rdMake_ok S tk hr h
  rcases oe_cases h with h | h
  · exact rdRead_ok S hr h
  · exact rdR_ok S hr h
theorem topO_ok {sc : Scope} {X : Cx} {W : WX} (S : So g k N sc X) {e : Expr} {m : Fx Opd} (h : topO N sc e = some m) : EO X W m e := by
  unfold topO at h
  split at h
  · obtain ⟨i, h1, h2⟩ := Option.map_eq_some_iff.mp h
    subst h2
    exact eo_name (S.var h1)
  · cases h
theorem rdAll_ok : ∀ (n : Nat) {sc : Scope} {X : Cx} {W : WX}, So g k N sc X → Takes X W → (rdAll g N n sc).Ok X W
  | 0, _, _, _, _, _ => ⟨fun _ _ h => (by cases h), fun _ _ h => (by cases h), fun _ _ h => (by cases h), fun _ _ h => (by cases h)⟩
  | n + 1, sc, X, W, S, tk => by
    have hr := rdAll_ok n S tk
    have hc : ∀ (scope : Scope) (Y : Cx), So g k N scope Y → (rdAll g N n scope).Ok Y W0 := fun scope Y T => rdAll_ok n T takes0
    refine ⟨fun e m h => ?_, fun e m h => ?_, fun e m h => ?_, fun e m h => rdT_ok S hr h⟩
    · rcases oe_cases h with h | h
      · exact topO_ok S h
      rcases oe_cases h with h | h
      · obtain ⟨q, h1, h2⟩ := Option.map_eq_some_iff.mp h
        subst h2
        exact eo_of (topV_ok S hr h1)
      · obtain ⟨q, h1, h2⟩ := Option.map_eq_some_iff.mp h
        subst h2
        exact eo_of (ev_of (topR_ok S tk hr hc h1))
    · rcases oe_cases h with h | h
      · exact topV_ok S hr h
      · obtain ⟨q, h1, h2⟩ := Option.map_eq_some_iff.mp h
        subst h2
        exact ev_of (topR_ok S tk hr hc h1)
    · rcases oe_cases h with h | h
      · obtain ⟨q, h1, h2⟩ := Option.map_eq_some_iff.mp h
        subst h2
        exact er_of (topV_ok S hr h1)
      · exact topR_ok S tk hr hc h
end
end Mn
set_option Elab.async false
set_option linter.all false
set_option maxRecDepth 100000
set_option maxHeartbeats 1000000
namespace Mn
open PySem PySem.Spec L2
structure So2 (g : Gt) (k : Nat) (N : List Str) (sc : Scope) (X : Cx) : Prop where
  S : So g k N sc X
  fnA : ∀ x, X.fn x = true
  esc : X.env.scope = sc
  ps : PassesOwn (model X.prog X.w) X.A X.env X.xe
  st : X.stack = X.env :: X.outer
  fr : X.env.frame = some X.env.locals
def env0 (sc : Scope) : PySem.Env := { scope := sc, locals := 0, globals := 0, cells := [], qual := "", func := none, code := .none, frame := none, builtins := 0 }
def isPure {α : Type} : PySem.Sem α → Option α
  | .pure a => some a
  | _ => none
theorem isPure_ok {α : Type} {s : PySem.Sem α} {a : α} (h : isPure s = some a) : s = pure a := by
  cases s <;> first
    | (cases h; rfl)
    | cases h
theorem sw_env {v : Expr} {t : Option Expr} {l : Nat} {env : PySem.Env} : swapsWith v t l env = swapsWith v t l (env0 env.scope) := rfl
theorem sd_env {ts : List Expr} {v : Expr} {env : PySem.Env} : swappedStores ts v env = swappedStores ts v (env0 env.scope) := rfl
def swB (sc : Scope) (v : Expr) (t : Expr) (l : Nat) : Option Bool := isPure (swapsWith v (some t) l (env0 sc))
def sdB (sc : Scope) (ts : List Expr) (v : Expr) : Option (Option (List Str)) := isPure (swappedStores ts v (env0 sc))
section
variable {g : Gt} {k : Nat} {N : List Str} {sc : Scope} {X : Cx} {W : WX}
theorem So2.sw (S : So2 g k N sc X) {v t : Expr} {l : Nat} {b : Bool} (h : swB sc v t l = some b) : swapsWith v (some t) l X.env = pure b := by
  rw [sw_env, S.esc]
  exact isPure_ok h
theorem So2.sd (S : So2 g k N sc X) {ts : List Expr} {v : Expr} {b : Option (List Str)} (h : sdB sc ts v = some b) : swappedStores ts v X.env = pure b := by
  rw [sd_env, S.esc]
  exact isPure_ok h
end
end Mn
set_option Elab.async false
set_option linter.all false
set_option maxRecDepth 100000
set_option maxHeartbeats 1000000
namespace Mn
open PySem PySem.Spec L2
def isLc : Expr → Bool
  | .ListComp .. => true
  | _ => false
def rdSet (g : Gt) (N : List Str) (sc : Scope) (n : Nat) : Stmt → Option Fs
  | .Assign [.Name x p] e pos => match locOf N sc x with
    | some i => if notComp e = true then ((rdAll g N n sc).R e).map (sSet i)
      else if (decide (swB sc e (.Name x p) pos.line = some true) && decide (sc.names.lookup x = some .local)) = true then (rdLc g N sc n (rdAll g N n sc) (rdAll g N n) e).map (sSet i) else none
    | none => none
  | _ => none
section
variable {g : Gt} {k : Nat} {N : List Str} {sc : Scope} {X : Cx} {W : WX}
theorem rdSet_ok (S : So2 g k N sc X) (tk : Takes X W) {n : Nat} {s : Stmt} {m : Fs} (h : rdSet g N sc n s = some m) : ES X W m s := by
  have nd : X.N.Nodup := by rw [S.S.hN]; exact S.S.nd
  unfold rdSet at h
  split at h
  · rename_i x p e pos
    split at h
    · rename_i i hi
      obtain ⟨q1, q2, q3⟩ := S.S.loc hi
      split at h
      · rename_i c
        obtain ⟨q, h1, h2⟩ := Option.map_eq_some_iff.mp h
        subst h2
        exact es_set nd q1 q2 (S.fnA x) ((rdAll_ok n S.S tk).R _ _ h1) c
      · split at h
        · rename_i c
          simp only [Bool.and_eq_true, decide_eq_true_eq] at c
          have hsw := S.sw c.1
          have hl : X.env.scope.names.lookup x = some .local := by rw [S.esc]; exact c.2
          obtain ⟨q, h1, h2⟩ := Option.map_eq_some_iff.mp h
          subst h2
          have hr := rdAll_ok n S.S tk
          have hc : ∀ (scope : Scope) (Y : Cx), So g k N scope Y → (rdAll g N n scope).Ok Y W0 := fun scope Y T => rdAll_ok n T takes0
          unfold rdLc at h1
          split at h1
          · rename_i elt tg iter ifs scope pos
            split at h1
            · rename_i m t tt te e1 e2 e3 e4
              split at h1
              · rename_i c
                simp only [Bool.and_eq_true] at c
                obtain ⟨c1, c2, c3⟩ := c
                cases h1
                exact es_setLc S.S.calm nd q1 hl hsw (rdI_ok S.S hr e1) (blkOk_of S.S c1) (inAll_ok c3) (fun s H C cl fp => rdTg_ok (S.S.inner s H C cl fp) n e2) (fun s H C cl fp => rdIfs_ok (hc _ _ (S.S.inner s H C cl fp)) e3) (fun s H C cl fp => (hc _ _ (S.S.inner s H C cl fp)).V _ _ e4) c2
              · cases h1
            · cases h1
          · rename_i elt tg iter ifs tg1 iter1 ifs1 scope pos
            split at h1
            · rename_i m t tt te m1 t1 tt1 e1 e2 e3 e4 e5 e6 e7
              split at h1
              · rename_i c
                simp only [Bool.and_eq_true] at c
                obtain ⟨c1, c2, c3, c4, c5⟩ := c
                cases h1
                exact es_setLc2 S.S.calm nd q1 hl hsw (rdI_ok S.S hr e1) (blkOk_of S.S c1) (inAll_ok c4) (fun j hj => hj) (inAll_ok c5) (fun s H C cl fp => rdTg_ok (S.S.inner s H C cl fp) n e2) (fun s H C cl fp => rdIfs_ok (hc _ _ (S.S.inner s H C cl fp)) e3)
                  (fun s H C cl fp => rdI_ok (S.S.inner s H C cl fp) (hc _ _ (S.S.inner s H C cl fp)) e5) (fun s H C cl fp => rdTg_ok (S.S.inner s H C cl fp) n e6) (fun s H C cl fp => rdIfs_ok (hc _ _ (S.S.inner s H C cl fp)) e7) (fun s H C cl fp => (hc _ _ (S.S.inner s H C cl fp)).V _ _ e4) c2 c3
              · cases h1
            · cases h1
          · cases h1
        · cases h
    · cases h
  · cases h
end
end Mn
set_option Elab.async false
set_option linter.all false
set_option maxRecDepth 100000
set_option maxHeartbeats 1000000
namespace Mn
open PySem PySem.Spec L2
def isLoc (sc : Scope) (x : Str) : Bool := decide (sc.names.lookup x = some .local)
def rdPar1 (g : Gt) (N : List Str) (sc : Scope) (r : Rd) : Stmt → Option Fs
  | .Assign [.Tuple [.Name x px, .Name y py] kt pt] (.Tuple [a, b] k2 pt2) _ => match locOf N sc x, locOf N sc y, allR r [a, b] with
    | some i, some j, some ms => if (decide (i ≠ j) && (isLoc sc x && (isLoc sc y && decide (sdB sc [.Tuple [.Name x px, .Name y py] kt pt] (.Tuple [a, b] k2 pt2) = some (some [x, y]))))) = true then some (sPar [i, j] ms) else none
    | _, _, _ => none
  | .Assign [.Tuple [.Name x px, .Name y py, .Name z pz] kt pt] (.Tuple [a, b, c] k2 pt2) _ => match locOf N sc x, locOf N sc y, locOf N sc z, allR r [a, b, c] with
    | some i, some j, some l, some ms => if (decide (i ≠ j) && (decide (i ≠ l) && (decide (j ≠ l) && (isLoc sc x && (isLoc sc y && (isLoc sc z && decide (sdB sc [.Tuple [.Name x px, .Name y py, .Name z pz] kt pt] (.Tuple [a, b, c] k2 pt2) = some (some [x, y, z])))))))) = true then some (sPar [i, j, l] ms) else none
    | _, _, _, _ => none
  | _ => none
/-- names by a tuple that is laid: cells -/
def nmsT (N : List Str) (sc : Scope) : List Expr → Option (List Nat)
  | [] => some []
  | .Name x _ :: ts => match locOf N sc x, nmsT N sc ts with
    | some i, some is => some (i :: is)
    | _, _ => none
  | _ => none
def rdParT (N : List Str) (sc : Scope) (r : Rd) : Stmt → Option Fs
  | .Assign [.Tuple ts kt pt] (.Tuple es k2 pt2) _ => match nmsT N sc ts, allR r es with
    | some is, some ms => if (decide (sdB sc [.Tuple ts kt pt] (.Tuple es k2 pt2) = some none) && (decide (is.length ≤ 30) && ts.all notStar)) = true then some (sPar is ms) else none
    | _, _ => none
  | _ => none
def rdPar (g : Gt) (N : List Str) (sc : Scope) (r : Rd) (s : Stmt) : Option Fs := oe (rdPar1 g N sc r s) (rdParT N sc r s)
def fldTs (N : List Str) (sc : Scope) : List Expr → Option (List (Nat × Str))
  | [] => some []
  | .Attribute (.Name x _) f _ :: ts => match slotOf N sc x, fldTs N sc ts with
    | some i, some ps => some ((i, f) :: ps)
    | _, _ => none
  | _ => none
def putTs (N : List Str) (sc : Scope) (r : Rd) : List Expr → Option (List (Nat × Fx Opd))
  | [] => some []
  | .Subscript (.Name x _) ix _ :: ts => match slotOf N sc x, r.O ix, putTs N sc r ts with
    | some i, some m, some ps => if noSl ix = true then some ((i, m) :: ps) else none
    | _, _, _ => none
  | _ => none
def rdAs (g : Gt) (N : List Str) (sc : Scope) (n : Nat) (r : Rd) : Stmt → Option Fs
  | .Assign [.Attribute (.Name x _) f _] e _ => match slotOf N sc x, r.V e with
    | some i, some m => if notComp e = true then some (sFldSet g.cs i f m) else none
    | _, _ => none
  | .Assign [.Subscript (.Name x _) ix _] e _ => match slotOf N sc x, r.O ix, r.V e with
    | some i, some mi, some m => if (notComp e && noSl ix) = true then some (sPut i mi m) else none
    | _, _, _ => none
  | .Assign [.Tuple ts kt pt] e _ => match r.V e with
    | some m => if (notComp e && (ts.all notStar && decide (sdB sc [.Tuple ts kt pt] e = some none))) = true then
        oe ((fldTs N sc ts).map fun ps => sFldSets g.cs ps m) (oe ((putTs N sc r ts).map fun ps => sPut2 ps m) ((rdTg N sc n (.Tuple ts kt pt)).map fun t => sUnp t m))
      else none
    | none => none
  | _ => none
section
variable {g : Gt} {k : Nat} {N : List Str} {sc : Scope} {X : Cx} {W : WX} {r : Rd}
theorem rdPar1_ok (S : So2 g k N sc X) (hr : r.Ok X W) {s : Stmt} {m : Fs} (h : rdPar1 g N sc r s = some m) : ES X W m s := by
  have nd : X.N.Nodup := by rw [S.S.hN]; exact S.S.nd
  have lc : ∀ {x : Str}, isLoc sc x = true → X.env.scope.names.lookup x = some .local := fun h => by rw [S.esc]; exact of_decide_eq_true h
  unfold rdPar1 at h
  split at h
  · split at h
    · rename_i i j ms e1 e2 e3
      split at h
      · rename_i c
        simp only [Bool.and_eq_true] at c
        obtain ⟨c1, c2, c3, c4⟩ := c
        cases h
        exact es_par2 S.S.calm nd (S.S.loc e1).1 (S.S.loc e2).1 (of_decide_eq_true c1) (lc c2) (lc c3) (allR_ok hr e3).1 (S.sd (of_decide_eq_true c4))
      · cases h
    · cases h
  · split at h
    · rename_i i j l ms e1 e2 e3 e4
      split at h
      · rename_i c
        simp only [Bool.and_eq_true] at c
        obtain ⟨c1, c2, c3, c4, c5, c6, c7⟩ := c
        cases h
        exact es_par3 S.S.calm nd (S.S.loc e1).1 (S.S.loc e2).1 (S.S.loc e3).1 (of_decide_eq_true c1) (of_decide_eq_true c2) (of_decide_eq_true c3) (lc c4) (lc c5) (lc c6) (allR_ok hr e4).1 (S.sd (of_decide_eq_true c7))
      · cases h
    · cases h
  · cases h
theorem nmsT_ok (S : So g k N sc X) : ∀ {ts : List Expr} {is : List Nat}, nmsT N sc ts = some is → PGs X ts (gNames is) ∧ ts.length = is.length
  | [], _, h => by cases h; exact ⟨egn_nil, rfl⟩
  | t :: ts, _, h => by
    unfold nmsT at h
    split at h
    · rename_i e
      cases e
    · rename_i x px ts' e
      cases e
      split at h
      · rename_i i is e1 e2
        cases h
        have nd : X.N.Nodup := by rw [S.hN]; exact S.nd
        obtain ⟨a1, a2, a3⟩ := S.loc e1
        obtain ⟨b1, b2⟩ := nmsT_ok S e2
        exact ⟨egn_cons (pg_name nd a1 a2 a3) b1 rfl, congrArg (· + 1) b2⟩
      · cases h
    · cases h
theorem rdParT_ok (S : So2 g k N sc X) (hr : r.Ok X W) {s : Stmt} {m : Fs} (h : rdParT N sc r s = some m) : ES X W m s := by
  unfold rdParT at h
  split at h
  · split at h
    · rename_i is ms e1 e2
      split at h
      · rename_i c
        simp only [Bool.and_eq_true] at c
        obtain ⟨c1, c2, c3⟩ := c
        cases h
        obtain ⟨b1, b2⟩ := nmsT_ok S.S e1
        exact es_parT S.S.calm b1 c3 b2 (of_decide_eq_true c2) (allR_ok hr e2).1 (S.sd (of_decide_eq_true c1))
      · cases h
    · cases h
  · cases h
theorem rdPar_ok (S : So2 g k N sc X) (hr : r.Ok X W) {s : Stmt} {m : Fs} (h : rdPar g N sc r s = some m) : ES X W m s := by
  rcases oe_cases h with h | h
  · exact rdPar1_ok S hr h
  · exact rdParT_ok S hr h
theorem fldTs_ok (S : So g k N sc X) : ∀ {ts : List Expr} {ps : List (Nat × Str)}, fldTs N sc ts = some ps → PGs X ts (cPuts X.K W (sFlds g.cs ps)) ∧ ts.length = ps.length
  | [], _, h => by cases h; exact ⟨ef_nil, rfl⟩
  | t :: ts, _, h => by
    unfold fldTs at h
    split at h
    · rename_i q; cases q
    · rename_i x p f p2 ts' q
      cases q
      split at h
      · rename_i i ps e1 e2
        cases h
        obtain ⟨h1, h2⟩ := fldTs_ok S e2
        exact ⟨ef_cons (eg_fld S.ft.cs (S.var e1)) h1 rfl, congrArg (· + 1) h2⟩
      · cases h
    · cases h
theorem putTs_ok (S : So g k N sc X) (hr : r.Ok X W) : ∀ {ts : List Expr} {ps : List (Nat × Fx Opd)}, putTs N sc r ts = some ps → PGs X ts (cPuts X.K W (sPuts ps)) ∧ ts.length = ps.length
  | [], _, h => by cases h; exact ⟨ep_nil, rfl⟩
  | t :: ts, _, h => by
    unfold putTs at h
    split at h
    · rename_i q; cases q
    · rename_i x p ix p2 ts' q
      cases q
      split at h
      · rename_i i m ps e1 e2 e3
        split at h
        · rename_i c
          cases h
          obtain ⟨h1, h2⟩ := putTs_ok S hr e3
          exact ⟨ep_cons (eg_put (S.var e1) (hr.O _ _ e2) c) h1 rfl, congrArg (· + 1) h2⟩
        · cases h
      · cases h
    · cases h
theorem rdAs_ok (S : So2 g k N sc X) (hr : r.Ok X W) {n : Nat} {s : Stmt} {m : Fs} (h : rdAs g N sc n r s = some m) : ES X W m s := by
  unfold rdAs at h
  split at h
  · split at h
    · rename_i i q e1 e2
      split at h
      · rename_i c
        cases h
        exact es_fld S.S.ft.cs (S.S.var e1) (hr.V _ _ e2) c
      · cases h
    · cases h
  · split at h
    · rename_i i mi q e1 e2 e3
      split at h
      · rename_i c
        simp only [Bool.and_eq_true] at c
        cases h
        exact es_put (S.S.var e1) (hr.O _ _ e2) (hr.V _ _ e3) c.2 c.1
      · cases h
    · cases h
  · split at h
    · rename_i q e1
      split at h
      · rename_i c
        simp only [Bool.and_eq_true] at c
        obtain ⟨c1, c2, c3⟩ := c
        have hw := S.sd (of_decide_eq_true c3)
        rcases oe_cases h with h | h
        · obtain ⟨ps, h1, h2⟩ := Option.map_eq_some_iff.mp h
          subst h2
          obtain ⟨a1, a2⟩ := fldTs_ok (W := W) S.S h1
          exact es_flds S.S.calm a1 (hr.V _ _ e1) c2 a2 c1 hw
        rcases oe_cases h with h | h
        · obtain ⟨ps, h1, h2⟩ := Option.map_eq_some_iff.mp h
          subst h2
          obtain ⟨a1, a2⟩ := putTs_ok S.S hr h1
          exact es_put2 S.S.calm a1 (hr.V _ _ e1) c2 a2 c1 hw
        · obtain ⟨t, h1, h2⟩ := Option.map_eq_some_iff.mp h
          subst h2
          exact es_unp (rdTg_ok S.S n h1) (hr.V _ _ e1) c1 rfl hw
      · cases h
    · cases h
  · cases h
end
end Mn
set_option Elab.async false
set_option linter.all false
set_option maxRecDepth 100000
set_option maxHeartbeats 1000000
namespace Mn
open PySem PySem.Spec L2
def rdRaise (g : Gt) (sc : Scope) (r : Rd) : Stmt → Option Fs
  | .Raise (some (.Call (.Name x _) [a] [] _)) none _ => if (gloOf sc x && notStar a) = true then match g.er.find? fun p => decide (p.1 = x), r.V a with
      | some p, some m => some (sRaise p.1 p.2.1 m)
      | _, _ => none
    else none
  | _ => none
mutual
def rdS (g : Gt) (N : List Str) (sc : Scope) (r : Rd) (n0 : Nat) (tr : Stmt → Option Fs) : Nat → Stmt → Option Fs
  | 0, _ => none
  | n + 1, s => match s with
    | .Return none _ => some sRetN
    | .Return (some e) _ => (r.R e).map sRet
    | .Expr e _ => if notComp e = true then (r.R e).map sDrop else none
    | .If c a b _ => match r.T c, rdSs g N sc r n0 tr n a, rdSs g N sc r n0 tr n b with
      | some t, some m, some l => some (sIf t m l)
      | _, _, _ => none
    | .For tg iter body [] _ => if notSet iter = true then match rdI g sc r tg iter, rdTg N sc n0 tg, rdSs g N sc r n0 tr n body with
        | some m, some t, some b => some (sFor t m b)
        | _, _, _ => none
      else none
    | .While c body [] _ => match r.T c, rdSs g N sc r n0 tr n body with
      | some t, some b => some (sWhile t b)
      | _, _ => none
    | .Pass _ => some sSkip
    | .Break _ => some sBreak
    | .Continue _ => some sCont
    | s => tr s
def rdSs (g : Gt) (N : List Str) (sc : Scope) (r : Rd) (n0 : Nat) (tr : Stmt → Option Fs) : Nat → List Stmt → Option Fs
  | 0, _ => none
  | _ + 1, [] => some sSkip
  | n + 1, s :: ss => match rdS g N sc r n0 tr n s, rdSs g N sc r n0 tr n ss with
    | some a, some b => some (sSeq a b)
    | _, _ => none
end
section
variable {g : Gt} {k : Nat} {N : List Str} {sc : Scope} {X : Cx} {W : WX} {r : Rd}
theorem rdRaise_ok (S : So2 g k N sc X) (tk : Takes X W) (hr : r.Ok X W) {s : Stmt} {m : Fs} (h : rdRaise g sc r s = some m) : ES X W m s := by
  unfold rdRaise at h
  split at h
  · rename_i x px a p1 p2
    split at h
    · rename_i c
      rw [Bool.and_eq_true] at c
      obtain ⟨g1, g2, g3⟩ := S.S.gl c.1
      split at h
      · rename_i q m e1 e2
        cases h
        have ex : q.1 = x := by
          have := List.find?_some e1
          simpa using this
        obtain ⟨fI, T, hm, ha⟩ := S.S.ft.er q (List.mem_of_find?_eq_some e1)
        subst ex
        have rm : RoomG (k + 1) X.A := S.S.room.mono (by omega)
        refine es_raise S.S.calm tk T rm (hr.V _ _ e2) g1 hm c.2 ?_ ?_ g2
        · rcases ha with e | e <;> rw [e] <;> decide
        · rcases ha with e | e <;> rw [e] <;> decide
      · cases h
    · cases h
  · cases h
mutual
theorem rdS_ok (S : So2 g k N sc X) (hr : r.Ok X W) {n0 : Nat} {tr : Stmt → Option Fs} (ht : ∀ s m, tr s = some m → ES X W m s) : ∀ (n : Nat) {s : Stmt} {m : Fs}, rdS g N sc r n0 tr n s = some m → ES X W m s
  | 0, _, _, h => by simp [rdS] at h
  | n + 1, s, m, h => by
    unfold rdS at h
    split at h
    · cases h; exact es_retN
    · obtain ⟨q, h1, h2⟩ := Option.map_eq_some_iff.mp h
      subst h2
      exact es_ret (hr.R _ _ h1)
    · split at h
      · rename_i c
        obtain ⟨q, h1, h2⟩ := Option.map_eq_some_iff.mp h
        subst h2
        exact es_drop (hr.R _ _ h1) c
      · cases h
    · split at h
      · rename_i t m l e1 e2 e3
        cases h
        exact es_if (hr.T _ _ e1) (rdSs_ok S hr ht n e2) (rdSs_ok S hr ht n e3)
      · cases h
    · split at h
      · rename_i c
        split at h
        · rename_i m t b e1 e2 e3
          cases h
          exact es_for S.ps S.S.calm (rdI_ok S.S hr e1) (rdTg_ok S.S n0 e2) (rdSs_ok S hr ht n e3) c
        · cases h
      · cases h
    · split at h
      · rename_i t b e1 e2
        cases h
        exact es_while S.ps (hr.T _ _ e1) (rdSs_ok S hr ht n e2)
      · cases h
    · cases h; exact es_pass
    · cases h; exact es_break
    · cases h; exact es_cont
    · exact ht _ _ h
theorem rdSs_ok (S : So2 g k N sc X) (hr : r.Ok X W) {n0 : Nat} {tr : Stmt → Option Fs} (ht : ∀ s m, tr s = some m → ES X W m s) : ∀ (n : Nat) {ss : List Stmt} {m : Fs}, rdSs g N sc r n0 tr n ss = some m → ESs X W m ss
  | 0, _, _, h => by simp [rdSs] at h
  | n + 1, [], _, h => by
    unfold rdSs at h
    cases h
    exact es_nil
  | n + 1, s :: ss, _, h => by
    unfold rdSs at h
    split at h
    · rename_i a b e1 e2
      cases h
      exact es_cons (rdS_ok S hr ht n e1) (rdSs_ok S hr ht n e2)
    · cases h
end
end
end Mn
set_option Elab.async false
set_option linter.all false
set_option maxRecDepth 100000
set_option maxHeartbeats 1000000
namespace Mn
open PySem PySem.Spec L2
def rdHd (g : Gt) (N : List Str) (sc : Scope) : ExceptHandler → Option Hd
  | .ExceptHandler (some (.Name x _)) (some n) [.Return (some (.Attribute (.Name n' _) f _)) _] _ => match slotOf N sc n with
    | some i => if (decide (n' = n) && (gloOf sc x && (g.cl.contains x && (isLoc sc n && readsOk g.xf (.fld f))))) = true then some (x, some i, .fld f) else none
    | none => none
  | .ExceptHandler (some (.Name x _)) (some n) [.Return (some (.Tuple [.Constant (.str z) _ _, .Attribute (.Name n' _) f _] _ _)) _] _ => match slotOf N sc n with
    | some i => if (decide (n' = n) && (gloOf sc x && (g.cl.contains x && (isLoc sc n && readsOk g.xf (.pair z f))))) = true then some (x, some i, .pair z f) else none
    | none => none
  | .ExceptHandler (some (.Name x _)) none [.Return (some (.Tuple [.Constant (.str z) _ _] _ _)) _] _ => if (gloOf sc x && g.cl.contains x) = true then some (x, none, .tag z) else none
  | _ => none
def rdHds (g : Gt) (N : List Str) (sc : Scope) : List ExceptHandler → Option (List Hd)
  | [] => some []
  | h :: hs => match rdHd g N sc h, rdHds g N sc hs with
    | some a, some l => some (a :: l)
    | _, _ => none
/-- statements that are no blocks -/
def rdTr (g : Gt) (N : List Str) (sc : Scope) (n : Nat) (s : Stmt) : Option Fs :=
  oe (rdSet g N sc n s) (oe (rdPar g N sc (rdAll g N n sc) s) (oe (rdAs g N sc n (rdAll g N n sc) s) (rdRaise g sc (rdAll g N n sc) s)))
def rdTry (g : Gt) (N : List Str) (sc : Scope) (n : Nat) : Stmt → Option Fs
  | .Try body (h0 :: hds) [] [] _ => match rdSs g N sc (rdAll g N n sc) n (rdTr g N sc n) n body, rdHds g N sc (h0 :: hds) with
    | some b, some l => some (sTry g.ex g.xf b l)
    | _, _ => none
  | _ => none
/-- a def's body -/
def rdBody (g : Gt) (N : List Str) (sc : Scope) (n : Nat) (b : List Stmt) : Option Fs := rdSs g N sc (rdAll g N n sc) n (fun s => oe (rdTr g N sc n s) (rdTry g N sc n s)) n b
section
variable {g : Gt} {k : Nat} {N : List Str} {sc : Scope} {X : Cx} {W : WX} {r : Rd}
theorem rdTr_ok (S : So2 g k N sc X) (tk : Takes X W) {n : Nat} {s : Stmt} {m : Fs} (h : rdTr g N sc n s = some m) : ES X W m s := by
  have hr := rdAll_ok n S.S tk
  rcases oe_cases h with h | h
  · exact rdSet_ok S tk h
  rcases oe_cases h with h | h
  · exact rdPar_ok S hr h
  rcases oe_cases h with h | h
  · exact rdAs_ok S hr h
  · exact rdRaise_ok S tk hr h
theorem rdHds_ok (S : So2 g k N sc X) : ∀ {hs : List ExceptHandler} {l : List Hd}, rdHds g N sc hs = some l → HdOk X g.xf hs l
  | [], _, h => by cases h; exact .nil
  | h0 :: hs, _, h => by
    unfold rdHds at h
    split at h
    · rename_i a l e1 e2
      cases h
      have r := rdHds_ok S e2
      have nms : ∀ {x : Str}, gloOf sc x = true → g.cl.contains x = true → Names X x (.ref (He.ga X.K x)) := fun {x} a b => by
        obtain ⟨g1, g2, g3⟩ := S.S.gl a
        exact ⟨g1, g2, .inl (S.S.ft.cl x (by simpa using b))⟩
      unfold rdHd at e1
      split at e1
      · split at e1
        · rename_i i hi
          split at e1
          · rename_i c
            simp only [Bool.and_eq_true, decide_eq_true_eq] at c
            obtain ⟨rfl, c2, c3, c4, c5⟩ := c
            cases e1
            obtain ⟨q1, q2, q3, q4⟩ := S.S.slot hi
            exact .nm (nms c2 c3) q1 (by show X.env.scope.names.lookup _ = _; rw [S.esc]; exact of_decide_eq_true c4) (fun a oe cls d pn hz hf => su_fld S.S.ft.ex c5 q1 q2 q3 q4 hz hf) r
          · cases e1
        · cases e1
      · split at e1
        · rename_i i hi
          split at e1
          · rename_i c
            simp only [Bool.and_eq_true, decide_eq_true_eq] at c
            obtain ⟨rfl, c2, c3, c4, c5⟩ := c
            cases e1
            obtain ⟨q1, q2, q3, q4⟩ := S.S.slot hi
            exact .nm (nms c2 c3) q1 (by show X.env.scope.names.lookup _ = _; rw [S.esc]; exact of_decide_eq_true c4) (fun a oe cls d pn hz hf => su_pair S.S.ft.ex c5 q1 q2 q3 q4 hz hf) r
          · cases e1
        · cases e1
      · split at e1
        · rename_i c
          rw [Bool.and_eq_true] at c
          cases e1
          exact .un (nms c.1 c.2) (fun a oe cls d pn hz hf => su_tag) r
        · cases e1
      · cases e1
    · cases h
theorem So2.tr (S : So2 g k N sc X) (pn : List (Addr × Obj)) (xe : Value → Shared → Prop) (hp : PassesOwn (model X.prog X.w) X.A X.env xe) : So2 g k N sc (X.tr pn xe) :=
  ⟨⟨S.S.hN, S.S.nd, S.S.fn, S.S.sc, S.S.calm, S.S.room, S.S.ft⟩, S.fnA, S.esc, hp, S.st, S.fr⟩
theorem rdTry_ok (S : So2 g k N sc X) (tk : Takes X W) {n : Nat} {s : Stmt} {m : Fs} (h : rdTry g N sc n s = some m) : ES X W m s := by
  unfold rdTry at h
  split at h
  · split at h
    · rename_i b l e1 e2
      cases h
      refine es_try S.S.ft.ex S.st S.fr (by rw [S.S.hN]; exact S.S.nd) tk (fun W' pn xe tk' hp => ?_) (rdHds_ok S e2)
      have S' := S.tr pn xe hp
      exact rdSs_ok S' (rdAll_ok n S'.S tk') (fun s m h => rdTr_ok S' tk' h) n e1
    · cases h
  · cases h
theorem rdBody_ok (S : So2 g k N sc X) (tk : Takes X W) {n : Nat} {b : List Stmt} {m : Fs} (h : rdBody g N sc n b = some m) : ESs X W m b :=
  rdSs_ok S (rdAll_ok n S.S tk) (fun s m h => by
    rcases oe_cases h with h | h
    · exact rdTr_ok S tk h
    · exact rdTry_ok S tk h) n h
end
end Mn
set_option Elab.async false
set_option linter.all false
set_option maxRecDepth 100000
set_option maxHeartbeats 1000000
namespace Mn
open PySem PySem.Spec L2
section
variable {P : Program} {w : World} {K : Fg} {mg : Str → Option Value} {base : Heap} {g : Gt} {k : Nat}
theorem rd_def {x qual : Str} {params : Arguments} {body : List Stmt} {scope : Scope} {f : Addr} {fd : FuncData} {N ps : List Str} {b : Fs} {n : Nat} (D : FunD K x qual params body scope [] [] f fd) (S : FnScope N ps scope) (ft : Ft g k P w K mg base)
    (hb : rdBody g N scope n body = some b) : FnG P w K mg base (k + 3) f fd ps (semOf ps.length N.length b) := by
  refine def_ok (k := k + 2) D S fun cdv A outer s H E room => ?_
  have S2 : So2 g k N scope (cxOf (L2.CX P w) P w K mg base N qual scope f cdv A outer s H E) :=
    ⟨⟨rfl, S.nd, fun _ _ => rfl, fun _ _ h => .inl h, rfl, room, ft⟩, fun _ => rfl, rfl, passes_of rfl, rfl, rfl⟩
  exact rdBody_ok S2 (takes_of rfl rfl rfl rfl) hb
end
end Mn
set_option Elab.async false
set_option linter.all false
set_option maxRecDepth 100000
set_option maxHeartbeats 1000000
namespace Mn
open PySem PySem.Spec L2
section
variable {P : Program} {w : World} {K : Fg} {mg : Str → Option Value} {base : Heap} {g : Gt} {j k : Nat}
theorem Ft.mono (h : Ft g j P w K mg base) (l : j ≤ k) : Ft g k P w K mg base where
  fs := fun p hp => let ⟨fd, a, b, c, d⟩ := h.fs p hp; ⟨fd, a.mono l, b, c, d⟩
  mks := fun p hp => let ⟨f, fd, a, b, c, d⟩ := h.mks p hp; ⟨f, fd, a, b.mono l, c, d⟩
  er := h.er
  nums := h.nums
  cl := h.cl
  free := h.free
  is := h.is
  ex := h.ex
  cs := h.cs
theorem Ft.fn (h : Ft g k P w K mg base) {p : FnI} (q : ∃ fd, FnG P w K mg base k (He.ga K p.x) fd p.ps p.m ∧ mg p.x = some (.ref (He.ga K p.x)) ∧ PySem.W.keepIn K (.ref (He.ga K p.x)) = true ∧ ∀ n ∈ p.sh, n ≤ p.ps.length ∧ BindsK K fd p.ps n (p.ps.drop n)) :
    Ft { g with fs := p :: g.fs } k P w K mg base where
  fs := fun r hr => by
    rcases List.mem_cons.mp hr with e | e
    · rw [e]; exact q
    · exact h.fs r e
  mks := h.mks
  er := h.er
  nums := h.nums
  cl := h.cl
  free := h.free
  is := h.is
  ex := h.ex
  cs := h.cs
theorem Ft.mk1 (h : Ft g k P w K mg base) {p : FnI} (q : ∃ f fd, Mk K (He.ga K p.x) f ∧ FnG P w K mg base k f fd p.ps p.m ∧ mg p.x = some (.ref (He.ga K p.x)) ∧ ∀ n ∈ p.sh, 1 ≤ n ∧ n ≤ p.ps.length ∧ BindsK K fd p.ps n (p.ps.drop n)) :
    Ft { g with mks := p :: g.mks } k P w K mg base where
  fs := h.fs
  mks := fun r hr => by
    rcases List.mem_cons.mp hr with e | e
    · rw [e]; exact q
    · exact h.mks r e
  er := h.er
  nums := h.nums
  cl := h.cl
  free := h.free
  is := h.is
  ex := h.ex
  cs := h.cs
/-- a def of no defaults binds so many by position, the others by keyword -/
theorem bindsK_of {x qual : Str} {params : Arguments} {body : List Stmt} {scope : Scope} {f : Addr} {fd : FuncData} {ps : List Str} {n : Nat} (D : FunD K x qual params body scope [] [] f fd)
    (h : ∀ (kV doc pm : Value) (an : Option Addr) (cdv ct : Value) (us ws : List Value), us.length = n → ws.length = (ps.drop n).length → bindArgs (PySem.W.fnOf x qual params body scope .none kV doc pm an cdv ct) ⟨us, (ps.drop n).zip ws⟩ = pure (ps.zip (us ++ ws))) : BindsK K fd ps n (ps.drop n) := by
  obtain ⟨oc, od, dV, kV, doc, pm, an, cdv, ct, osl, rfl, lk, hcd, hD, hK⟩ := D.ex
  rcases hD with ⟨_, rfl⟩ | ⟨e, _⟩
  · exact fun s us ws _ l1 l2 => .of_eq (h kV doc pm an cdv ct us ws l1 l2)
  · exact absurd rfl e
/-- the tables alone -/
def gtOf (a : Asks) (dfl : List Str) (cl : List Str) : Gt where
  er := a.er.map fun e => (e.x, e.fld, e.arg)
  nums := a.int
  cl := cl
  free := a.free
  is := a.is
  ic := a.ic
  ex := a.ex
  xf := a.xf
  cs := a.cs
  dfl := dfl
theorem ft_of {a : Asks} {dfl cl : List Str} (F : Facts a K) (inK : K.In base) (ns : base.Ns mainGlobals mg) (hf : (P.main.file : Str) = a.file) (ht : (P.main.scope.names.lookup ("super" : Str)).isSome = false) (he : (a.er.all fun e => erSt e && (decide (e.arg = "at") || decide (e.arg = "word"))) = true)
    (hc : (cl.all fun x => decide (x ∈ a.glo)) = true) (hg : (a.er.all fun e => decide (e.x ∈ a.glo)) = true) : Ft (gtOf a dfl cl) k P w K mg base where
  fs := fun p hp => nomatch hp
  mks := fun p hp => nomatch hp
  er := fun p hp => by
    obtain ⟨e, me, rfl⟩ := List.mem_map.mp hp
    obtain ⟨f1, f2, f3⟩ := F.er e me
    have q := List.all_eq_true.mp he e me
    simp only [Bool.and_eq_true, Bool.or_eq_true, decide_eq_true_eq] at q
    exact ⟨_, err_of hf ht q.1 q.2 f1 f2 f3, PySem.W.mg_of inK ns (F.glo e.x (of_decide_eq_true (List.all_eq_true.mp hg e me))).1, q.2⟩
  nums := fun p hp => He.int_ok inK ns (F.int p hp)
  cl := fun x hx => PySem.W.mg_of inK ns (F.glo x (of_decide_eq_true (List.all_eq_true.mp hc x hx))).1
  free := fun x hx => PySem.W.mg_none_of inK ns (F.free x hx)
  is := F.is
  ex := F.ex
  cs := F.cs
end
end Mn
set_option Elab.async false
set_option linter.all false
set_option maxRecDepth 100000
set_option maxHeartbeats 1000000
namespace Mn
open PySem PySem.Spec L2
def fnScB (N ps : List Str) (sc : Scope) : Bool := decide (sc.kind = .function) && (!sc.isCoroutine && (!sc.isGenerator && (decide N.Nodup && (decide (N.take ps.length = ps) && ((ps.all fun x => decide (sc.names.lookup x = some .local) || decide (sc.names.lookup x = some .cell)) && sc.names.all fun y => decide (y.2 ≠ .free))))))
theorem fnSc_ok {N ps : List Str} {sc : Scope} (h : fnScB N ps sc = true) : FnScope N ps sc := by
  unfold fnScB at h
  simp only [Bool.and_eq_true, Bool.or_eq_true, decide_eq_true_eq, Bool.not_eq_true', List.all_eq_true] at h
  obtain ⟨h1, h2, h3, h4, h5, h6, h7⟩ := h
  exact ⟨h1, h2, h3, h4, h5, h6, h7⟩
/-- what is bound by so many positions -/
def Shp (d : He.DefD) (ps : List Str) (n : Nat) : Prop := n ≤ ps.length ∧ ∀ (kV doc pm : Value) (an : Option Addr) (cdv ct : Value) (us ws : List Value), us.length = n → ws.length = (ps.drop n).length →
  bindArgs (PySem.W.fnOf d.name d.qual d.params d.body d.scope .none kV doc pm an cdv ct) ⟨us, (ps.drop n).zip ws⟩ = pure (ps.zip (us ++ ws))
section
variable {P : Program} {w : World} {K : Fg} {mg : Str → Option Value} {base : Heap} {g : Gt} {k : Nat} {a : Asks}
theorem Ft.flav (h : Ft g k P w K mg base) (b : Bool) : Ft { g with bare := b } k P w K mg base := ⟨h.fs, h.mks, h.er, h.nums, h.cl, h.free, h.is, h.ex, h.cs⟩
theorem def_fact (F : Facts a K) (inK : K.In base) (ns : base.Ns mainGlobals mg) (ft : Ft g k P w K mg base) {d : He.DefD} {x : Str} {N ps : List Str} {b : Fs} {n : Nat} {sh : List Nat} (hd : d ∈ a.fn) (h1 : d.dfl = []) (h2 : d.kwd = []) (h3 : d.at_ = (x, none)) (hx : x ∈ a.glo)
    (hs : fnScB N ps d.scope = true) (hb : rdBody g N d.scope n d.body = some b) (hsh : ∀ m ∈ sh, Shp d ps m) :
    ∃ fd, FnG P w K mg base (k + 3) (He.ga K x) fd ps (semOf ps.length N.length b) ∧ mg x = some (.ref (He.ga K x)) ∧ PySem.W.keepIn K (.ref (He.ga K x)) = true ∧ ∀ m ∈ sh, m ≤ ps.length ∧ BindsK K fd ps m (ps.drop m) := by
  obtain ⟨fd, D⟩ := F.fn d hd
  have e1 : d.dvs K = [] := by unfold He.DefD.dvs; rw [h1]; rfl
  have e2 : d.kws K = [] := by unfold He.DefD.kws; rw [h2]; rfl
  have e3 : He.fAd K d.at_ = He.ga K x := by rw [h3]; rfl
  rw [e1, e2, e3] at D
  obtain ⟨q1, q2⟩ := F.glo x hx
  exact ⟨fd, rd_def D (fnSc_ok hs) ft hb, PySem.W.mg_of inK ns q1, q2, fun m hm => ⟨(hsh m hm).1, bindsK_of D (hsh m hm).2⟩⟩
theorem make_fact (F : Facts a K) (inK : K.In base) (ns : base.Ns mainGlobals mg) (ft : Ft g k P w K mg base) {d : He.DefD} {x : Str} {N ps : List Str} {b : Fs} {n : Nat} {sh : List Nat} (hd : d ∈ a.fn) (h1 : d.dfl = []) (h2 : d.kwd = []) (h3 : d.at_ = (x, some ("__init__" : Str))) (hx : x ∈ a.glo) (hm : x ∈ a.mks)
    (hs : fnScB N ps d.scope = true) (hb : rdBody g N d.scope n d.body = some b) (hsh : ∀ m ∈ sh, 1 ≤ m ∧ Shp d ps m) :
    ∃ f fd, Mk K (He.ga K x) f ∧ FnG P w K mg base (k + 3) f fd ps (semOf ps.length N.length b) ∧ mg x = some (.ref (He.ga K x)) ∧ ∀ m ∈ sh, 1 ≤ m ∧ m ≤ ps.length ∧ BindsK K fd ps m (ps.drop m) := by
  obtain ⟨fd, D⟩ := F.fn d hd
  have e1 : d.dvs K = [] := by unfold He.DefD.dvs; rw [h1]; rfl
  have e2 : d.kws K = [] := by unfold He.DefD.kws; rw [h2]; rfl
  have e3 : He.fAd K d.at_ = He.ma K (He.ga K x) "__init__" := by rw [h3]; rfl
  rw [e1, e2, e3] at D
  obtain ⟨q1, q2⟩ := F.glo x hx
  exact ⟨_, fd, F.mks x hm, rd_def D (fnSc_ok hs) ft hb, PySem.W.mg_of inK ns q1, fun m hm => ⟨(hsh m hm).1, (hsh m hm).2.1, bindsK_of D (hsh m hm).2.2⟩⟩
end
end Mn
set_option Elab.async false
set_option linter.all false
set_option maxRecDepth 100000
set_option maxHeartbeats 1000000
namespace Mn
open PySem PySem.Spec L2
/-- ints as data -/
def ids (w : List Int) : List D := w.map .int
theorem ids_len {w : List Int} : (ids w).length = w.length := List.length_map ..
theorem intsD_ids : ∀ {w : List Int}, intsD (ids w) = some w
  | [] => rfl
  | i :: w => by
    show (match intsD (ids w) with | some is => some (i :: is) | none => none) = _
    rw [intsD_ids]
theorem flat_ids : ∀ {w : List Int}, (ids w).all flat = true
  | [] => rfl
  | i :: w => flat_ids (w := w)
theorem blsD_const : ∀ {α : Type} {w : List α}, blsD (w.map fun _ => D.bl true) = some (w.map fun _ => true)
  | _, [] => rfl
  | _, i :: w => by
    show (match blsD (w.map fun _ => D.bl true) with | some is => some (true :: is) | none => none) = _
    rw [blsD_const]
    rfl
theorem all_const {α : Type} {w : List α} : (w.map fun _ => true).all id = true := by
  induction w with
  | nil => rfl
  | cons a w ih => exact ih
theorem allD_const {α : Type} {w : List α} : allD (.lst (w.map fun _ => D.bl true)) = some (.val (.bl true)) := by
  unfold allD
  show (match blsD (w.map fun _ => D.bl true) with | some bs => some (Slot.val (.bl (bs.all id))) | none => none) = _
  rw [blsD_const]
  dsimp only
  rw [all_const]
theorem seq_nx {a b : Fs} {en e : En} {r : SRes} (h : a en = .nx e) (k : b e = r) : sSeq a b en = r := by
  unfold sSeq
  rw [h]
  exact k
theorem seq_rt {a b : Fs} {en e : En} {s : Slot} (h : a en = .rt s e) : sSeq a b en = .rt s e := by
  unfold sSeq
  rw [h]
theorem seq_ex {a b : Fs} {en e : En} {C : Str} {fs : List (Str × D)} (h : a en = .ex C fs e) : sSeq a b en = .ex C fs e := by
  unfold sSeq
  rw [h]
theorem if_yes {t : Fx Bool} {a b : Fs} {en e : En} {r : SRes} (h : t en = .ok true e) (k : a e = r) : sIf t a b en = r := by
  unfold sIf sOf
  rw [h]
  exact k
theorem if_no {t : Fx Bool} {a b : Fs} {en e : En} {r : SRes} (h : t en = .ok false e) (k : b e = r) : sIf t a b en = r := by
  unfold sIf sOf
  rw [h]
  exact k
theorem set_nx {i : Nat} {m : Fx Slot} {en e : En} {r : Slot} (h : m en = .ok r e) (l : lent e i = false) : sSet i m en = .nx (e.set i r) := by
  unfold sSet sOf
  rw [h]
  dsimp only
  rw [l]
  rfl
theorem for_nx {t : Tg} {m : Fx (List D)} {body : Fs} {en e : En} {ds : List D} {r : SRes} (h : m en = .ok ds e) (k : forL t body ds e = r) : sFor t m body en = r := by
  unfold sFor sOf
  rw [h]
  exact k
theorem ret_rt {m : Fx Slot} {en e : En} {r : Slot} (h : m en = .ok r e) : sRet m en = .rt r e := by
  unfold sRet sOf
  rw [h]
theorem drop_nx {m : Fx Slot} {en e : En} {r : Slot} (h : m en = .ok r e) : sDrop m en = .nx e := by
  unfold sDrop sOf
  rw [h]
theorem sem_rt {n m : Nat} {b : Fs} {args e : En} {r : Slot} (l : args.length = n) (h : b (args ++ List.replicate (m - n) .un) = .rt r e) : semOf n m b args = .ok r (fin args e) := by
  unfold semOf
  rw [if_pos l, h]
theorem sem_nx {n m : Nat} {b : Fs} {args e : En} (l : args.length = n) (h : b (args ++ List.replicate (m - n) .un) = .nx e) : semOf n m b args = .ok (.val .non) (fin args e) := by
  unfold semOf
  rw [if_pos l, h]
theorem sem_ex {n m : Nat} {b : Fs} {args e : En} {C : Str} {fs : List (Str × D)} (l : args.length = n) (h : b (args ++ List.replicate (m - n) .un) = .ex C fs e) : semOf n m b args = .exn C fs (fin args e) := by
  unfold semOf
  rw [if_pos l, h]
theorem bind_ok {α β : Type} {m : Fx α} {f : α → Fx β} {en e : En} {a : α} {r : Res β} (h : m en = .ok a e) (k : f a e = r) : m.bind f en = r := by
  unfold Fx.bind
  rw [h]
  exact k
/-- a comprehension that keeps all -/
theorem lc_all {t : Tg} {tt : Fx Bool} {te : Fx D} {vs : List Nat} {Iv : En → Prop} {α : Type} {f : α → D} {g : α → D} : ∀ {ds : List α}, (∀ d ∈ ds, ∀ en, Iv en → ∃ e1 e2 e3, bindT t (f d) (wipeEn en vs) = some e1 ∧ tt e1 = .ok true e2 ∧ te e2 = .ok (g d) e3 ∧ Iv e3) →
    ∀ acc en, Iv en → ∃ e', lcL t tt te vs (ds.map f) acc en = .ok (acc ++ ds.map g) e' ∧ Iv e'
  | [], _, acc, en, h => ⟨en, by rw [List.map_nil, List.map_nil, List.append_nil]; rfl, h⟩
  | d :: ds, k, acc, en, h => by
    obtain ⟨e1, e2, e3, h1, h2, h3, h4⟩ := k d List.mem_cons_self en h
    obtain ⟨e', h5, h6⟩ := lc_all (ds := ds) (fun x hx => k x (List.mem_cons_of_mem _ hx)) (acc ++ [g d]) e3 h4
    refine ⟨e', ?_, h6⟩
    show lcL t tt te vs (f d :: ds.map f) acc en = _
    unfold lcL
    rw [h1]
    dsimp only
    rw [h2]
    dsimp only
    rw [h3]
    dsimp only
    rw [h5, List.append_assoc]
    rfl
/-- a comprehension that keeps some -/
theorem lc_some {t : Tg} {tt : Fx Bool} {te : Fx D} {vs : List Nat} {Iv : En → Prop} {α : Type} {f : α → D} {g : α → D} {p : α → Bool} : ∀ {ds : List α}, (∀ d ∈ ds, ∀ en, Iv en → ∃ e1 e2, bindT t (f d) (wipeEn en vs) = some e1 ∧ tt e1 = .ok (p d) e2 ∧ (p d = false → Iv e2) ∧ (p d = true → ∃ e3, te e2 = .ok (g d) e3 ∧ Iv e3)) →
    ∀ acc en, Iv en → ∃ e', lcL t tt te vs (ds.map f) acc en = .ok (acc ++ (ds.filter p).map g) e' ∧ Iv e'
  | [], _, acc, en, h => ⟨en, by rw [List.filter_nil, List.map_nil, List.map_nil, List.append_nil]; rfl, h⟩
  | d :: ds, k, acc, en, h => by
    obtain ⟨e1, e2, h1, h2, h3, h4⟩ := k d List.mem_cons_self en h
    cases c : p d with
    | false =>
      obtain ⟨e', h5, h6⟩ := lc_some (ds := ds) (fun x hx => k x (List.mem_cons_of_mem _ hx)) acc e2 (h3 c)
      refine ⟨e', ?_, h6⟩
      show lcL t tt te vs (f d :: ds.map f) acc en = _
      unfold lcL
      rw [h1]
      dsimp only
      rw [h2, c]
      dsimp only
      rw [h5, List.filter_cons, c]
      rfl
    | true =>
      obtain ⟨e3, h7, h8⟩ := h4 c
      obtain ⟨e', h5, h6⟩ := lc_some (ds := ds) (fun x hx => k x (List.mem_cons_of_mem _ hx)) (acc ++ [g d]) e3 h8
      refine ⟨e', ?_, h6⟩
      show lcL t tt te vs (f d :: ds.map f) acc en = _
      unfold lcL
      rw [h1]
      dsimp only
      rw [h2, c]
      dsimp only
      rw [h7]
      dsimp only
      rw [h5, List.filter_cons, c, List.append_assoc]
      rfl
theorem lc_ok {vs : List Nat} {t : Tg} {m : Fx (List D)} {tt : Fx Bool} {te : Fx D} {en e e' : En} {ds acc : List D} (h : m en = .ok ds e) (c : (noneLent e vs && decide (ds.length < lim)) = true) (k : lcL t tt te vs ds [] e = .ok acc e') :
    mLc vs t m tt te en = .ok (.own false (.lst acc)) (restore e vs (wipeEn e' vs)) := by
  unfold mLc
  refine bind_ok h ?_
  rw [if_pos c, k]
/-- a loop that goes on -/
theorem for_inv {t : Tg} {body : Fs} {α : Type} {f : α → D} : ∀ {ds : List α} {Iv : Nat → En → Prop} {en : En}, Iv 0 en → (∀ i d, ds[i]? = some d → ∀ en, Iv i en → ∃ e e', bindT t (f d) en = some e ∧ body e = .nx e' ∧ Iv (i + 1) e') →
    ∃ e', forL t body (ds.map f) en = .nx e' ∧ Iv ds.length e'
  | [], Iv, en, h, _ => ⟨en, rfl, h⟩
  | d :: ds, Iv, en, h, k => by
    obtain ⟨e, e', h1, h2, h3⟩ := k 0 d rfl en h
    obtain ⟨e2, h4, h5⟩ := for_inv (ds := ds) (Iv := fun i => Iv (i + 1)) (en := e') h3 (fun i x hx => k (i + 1) x hx)
    refine ⟨e2, ?_, h5⟩
    show forL t body (f d :: ds.map f) en = _
    unfold forL
    rw [h1]
    dsimp only
    rw [h2]
    exact h4
/-- a loop that ends with an answer at a place -/
theorem for_rt {t : Tg} {body : Fs} {α : Type} {f : α → D} {r : Slot} {Pe : En → Prop} : ∀ {ds : List α} {Iv : Nat → En → Prop} {en : En} {s : Nat}, s < ds.length → Iv 0 en →
    (∀ i d, i < s → ds[i]? = some d → ∀ en, Iv i en → ∃ e e', bindT t (f d) en = some e ∧ body e = .nx e' ∧ Iv (i + 1) e') → (∀ d, ds[s]? = some d → ∀ en, Iv s en → ∃ e e', bindT t (f d) en = some e ∧ body e = .rt r e' ∧ Pe e') →
    ∃ e', forL t body (ds.map f) en = .rt r e' ∧ Pe e'
  | [], Iv, en, s, hs, _, _, _ => nomatch hs
  | d :: ds, Iv, en, 0, hs, h, _, k => by
    obtain ⟨e, e', h1, h2, h3⟩ := k d rfl en h
    refine ⟨e', ?_, h3⟩
    show forL t body (f d :: ds.map f) en = _
    unfold forL
    rw [h1]
    dsimp only
    rw [h2]
  | d :: ds, Iv, en, s + 1, hs, h, k, kr => by
    obtain ⟨e, e', h1, h2, h3⟩ := k 0 d (Nat.succ_pos _) rfl en h
    obtain ⟨e2, h4, h5⟩ := for_rt (ds := ds) (Iv := fun i => Iv (i + 1)) (en := e') (s := s) (Nat.lt_of_succ_lt_succ hs) h3 (fun i x hi hx => k (i + 1) x (Nat.succ_lt_succ hi) hx) kr
    refine ⟨e2, ?_, h5⟩
    show forL t body (f d :: ds.map f) en = _
    unfold forL
    rw [h1]
    dsimp only
    rw [h2]
    exact h4
end Mn
set_option Elab.async false
set_option linter.all false
set_option maxRecDepth 100000
set_option maxHeartbeats 1000000
namespace Mn
open PySem PySem.Spec L2
section
variable {α β : Type} {en e : En} {a b s : Fs} {t t1 : Tg} {i : Nat} {d : D} {os : List Opd} {op op' : D → D → Option Slot} {m : Fx D} {m' : Fx D} {n n' : Fx Slot} {o o' o'' : Fx Opd} {k k' : Fx Bool}
theorem nr {γ : Sort _} {x y : γ} (h : x = y) : x = y := h
theorem ap_seq : sSeq a b en = (match a en with | .nx e => b e | r => r) := nr (by kernel_rfl)
theorem ap_skip : sSkip en = .nx en := nr (by kernel_rfl)
theorem ap_of {m : Fx α} {f : α → Fs} : sOf m f en = (match m en with | .ok a e => f a e | .exn C fs e => .ex C fs e | .bad => .bad) := nr (by kernel_rfl)
theorem ap_ret : sRet n en = (match n en with | .ok a e => .rt a e | .exn C fs e => .ex C fs e | .bad => .bad) := nr (by kernel_rfl)
theorem ap_retN : sRetN en = .rt (.val .non) en := nr (by kernel_rfl)
theorem ap_drop : sDrop n en = (match n en with | .ok _ e => .nx e | .exn C fs e => .ex C fs e | .bad => .bad) := nr (by kernel_rfl)
theorem ap_if : sIf k a b en = (match k en with | .ok true e => a e | .ok false e => b e | .exn C fs e => .ex C fs e | .bad => .bad) := by
  unfold sIf sOf
  cases k en with
  | ok c e => cases c <;> rfl
  | _ => rfl
theorem ap_set : sSet i n en = (match n en with | .ok r e => (if lent e i = true then .bad else .nx (e.set i r)) | .exn C fs e => .ex C fs e | .bad => .bad) := nr (by kernel_rfl)
theorem ap_par {is : List Nat} {ms : List (Fx Slot)} : sPar is ms en = (match mRs ms en with | .ok rs e => (if okAll e is rs = true then .nx (setAll e is rs) else .bad) | .exn C fs e => .ex C fs e | .bad => .bad) := nr (by kernel_rfl)
theorem ap_for {m : Fx (List D)} : sFor t m b en = (match m en with | .ok ds e => forL t b ds e | .exn C fs e => .ex C fs e | .bad => .bad) := nr (by kernel_rfl)
theorem ap_unp : sUnp t m en = (match m en with | .ok d e => (match bindT t d e with | some e => .nx e | none => .bad) | .exn C fs e => .ex C fs e | .bad => .bad) := nr (by kernel_rfl)
theorem ap_raise {C f : Str} : sRaise C f m en = (match m en with | .ok d e => .ex C [(f, d)] e | .exn C fs e => .ex C fs e | .bad => .bad) := nr (by kernel_rfl)
theorem ap_bind {m : Fx α} {f : α → Fx β} : Fx.bind m f en = (match m en with | .ok a e => f a e | .exn C fs e => .exn C fs e | .bad => .bad) := nr (by kernel_rfl)
theorem ap_retf {x : α} : Fx.ret x en = .ok x en := nr (by kernel_rfl)
theorem ap_V : mV n en = (match n en with | .ok (.val d) e => .ok d e | .ok (.own false d) e => .ok d e | .ok _ e => .bad | .exn C fs e => .exn C fs e | .bad => .bad) := by
  unfold mV Fx.bind
  cases n en with
  | ok c e =>
    cases c with
    | own b d => cases b <;> rfl
    | _ => rfl
  | _ => rfl
theorem ap_O : mO m en = (match m en with | .ok d e => .ok (.dat d) e | .exn C fs e => .exn C fs e | .bad => .bad) := nr (by kernel_rfl)
theorem ap_S : mS m en = (match m en with | .ok d e => .ok (.val d) e | .exn C fs e => .exn C fs e | .bad => .bad) := nr (by kernel_rfl)
theorem ap_C : mC d en = .ok d en := nr (by kernel_rfl)
theorem ap_nameO : mNameO i en = (match en[i]? with | some (.val _) => .ok (.slot i) en | some (.own _ _) => .ok (.slot i) en | _ => .bad) := nr (by kernel_rfl)
theorem ap_nameV : mNameV i en = (match en[i]? with | some (.val d) => .ok d en | some (.own false d) => .ok d (en.set i (.val d)) | _ => .bad) := nr (by kernel_rfl)
theorem ap_2 : m2 op o o' en = (match o en with | .ok x e => (match o' e with | .ok y e => fin2 op x y e | .exn C fs e => .exn C fs e | .bad => .bad) | .exn C fs e => .exn C fs e | .bad => .bad) := nr (by kernel_rfl)
theorem ap_fin2 {x y : Opd} : fin2 op x y en = (match getD en x with | some dx => (match getD en y with | some dy => (match op dx dy with | some s => .ok s en | none => .bad) | none => .bad) | none => .bad) := nr (by kernel_rfl)
theorem ap_N {op : List D → Option Slot} {ms : List (Fx Opd)} : mN op ms en = (match mOs ms en with | .ok xs e => finN op xs e | .exn C fs e => .exn C fs e | .bad => .bad) := nr (by kernel_rfl)
theorem ap_finN {op : List D → Option Slot} {xs : List Opd} : finN op xs en = (match getDs en xs with | some ds => (match op ds with | some s => .ok s en | none => .bad) | none => .bad) := nr (by kernel_rfl)
theorem ap_Os0 : mOs [] en = .ok [] en := nr (by kernel_rfl)
theorem ap_Os1 {ms : List (Fx Opd)} : mOs (o :: ms) en = (match o en with | .ok x e => (match mOs ms e with | .ok xs e => .ok (x :: xs) e | .exn C fs e => .exn C fs e | .bad => .bad) | .exn C fs e => .exn C fs e | .bad => .bad) := nr (by kernel_rfl)
theorem ap_Vs0 : mVs [] en = .ok [] en := nr (by kernel_rfl)
theorem ap_Vs1 {ms : List (Fx D)} : mVs (m :: ms) en = (match m en with | .ok x e => (match mVs ms e with | .ok xs e => .ok (x :: xs) e | .exn C fs e => .exn C fs e | .bad => .bad) | .exn C fs e => .exn C fs e | .bad => .bad) := nr (by kernel_rfl)
theorem ap_Rs0 : mRs [] en = .ok [] en := nr (by kernel_rfl)
theorem ap_Rs1 {ms : List (Fx Slot)} : mRs (n :: ms) en = (match n en with | .ok x e => (match mRs ms e with | .ok xs e => .ok (x :: xs) e | .exn C fs e => .exn C fs e | .bad => .bad) | .exn C fs e => .exn C fs e | .bad => .bad) := nr (by kernel_rfl)
theorem ap_tup {ms : List (Fx D)} : mTup ms en = (match mVs ms en with | .ok ds e => (if ds.length ≤ 1000 then .ok (.tup ds) e else .bad) | .exn C fs e => .exn C fs e | .bad => .bad) := nr (by kernel_rfl)
theorem ap_tupB {ms : List (Fx D)} : mTupB ms en = (match mVs ms en with | .ok ds e => (if ds.length ≤ 1000 then .ok (.tpb ds) e else .bad) | .exn C fs e => .exn C fs e | .bad => .bad) := nr (by kernel_rfl)
theorem ap_lst {ms : List (Fx D)} : mLst ms en = (match mVs ms en with | .ok ds e => (if ds.length ≤ 1000 then .ok (.own false (.lst ds)) e else .bad) | .exn C fs e => .exn C fs e | .bad => .bad) := nr (by kernel_rfl)
theorem ap_T : mT o en = (match o en with | .ok x e => (match getD e x with | some d => (match truth d with | some b => .ok b e | none => .bad) | none => .bad) | .exn C fs e => .exn C fs e | .bad => .bad) := nr (by kernel_rfl)
theorem ap_B : mB n en = (match n en with | .ok (.val (.bl b)) e => .ok b e | .ok _ e => .bad | .exn C fs e => .exn C fs e | .bad => .bad) := by
  unfold mB Fx.bind
  cases n en with
  | ok c e =>
    cases c with
    | val d => cases d <;> rfl
    | _ => rfl
  | _ => rfl
theorem ap_not : mNot k en = (match k en with | .ok b e => .ok (!b) e | .exn C fs e => .exn C fs e | .bad => .bad) := nr (by kernel_rfl)
theorem ap_and : mAnd k k' en = (match k en with | .ok true e => k' e | .ok false e => .ok false e | .exn C fs e => .exn C fs e | .bad => .bad) := by
  unfold mAnd Fx.bind
  cases k en with
  | ok c e => cases c <;> rfl
  | _ => rfl
theorem ap_or : mOr k k' en = (match k en with | .ok true e => .ok true e | .ok false e => k' e | .exn C fs e => .exn C fs e | .bad => .bad) := by
  unfold mOr Fx.bind
  cases k en with
  | ok c e => cases c <;> rfl
  | _ => rfl
theorem ap_andV : mAndV n n' en = (match n en with | .ok (.val (.bl true)) e => n' e | .ok (.val (.bl false)) e => .ok (.val (.bl false)) e | .ok _ e => .bad | .exn C fs e => .exn C fs e | .bad => .bad) := by
  unfold mAndV Fx.bind
  cases n en with
  | ok c e =>
    cases c with
    | val d =>
      cases d with
      | bl b => cases b <;> rfl
      | _ => rfl
    | _ => rfl
  | _ => rfl
theorem ap_orV : mOrV n n' en = (match n en with | .ok (.val (.bl true)) e => .ok (.val (.bl true)) e | .ok (.val (.bl false)) e => n' e | .ok _ e => .bad | .exn C fs e => .exn C fs e | .bad => .bad) := by
  unfold mOrV Fx.bind
  cases n en with
  | ok c e =>
    cases c with
    | val d =>
      cases d with
      | bl b => cases b <;> rfl
      | _ => rfl
    | _ => rfl
  | _ => rfl
theorem ap_notV : mNotV n en = (match n en with | .ok (.val (.bl b)) e => .ok (.val (.bl (!b))) e | .ok _ e => .bad | .exn C fs e => .exn C fs e | .bad => .bad) := by
  unfold mNotV Fx.bind
  cases n en with
  | ok c e =>
    cases c with
    | val d => cases d <;> rfl
    | _ => rfl
  | _ => rfl
theorem ap_ife {m m' : Fx α} : mIf k m m' en = (match k en with | .ok true e => m e | .ok false e => m' e | .exn C fs e => .exn C fs e | .bad => .bad) := by
  unfold mIf Fx.bind
  cases k en with
  | ok c e => cases c <;> rfl
  | _ => rfl
theorem ap_1 {op : D → Option Slot} : m1 op o en = (match o en with | .ok x e => (match getD e x with | some d => (match op d with | some s => .ok s e | none => .bad) | none => .bad) | .exn C fs e => .exn C fs e | .bad => .bad) := nr (by kernel_rfl)
theorem ap_ch : mCh op op' o o' o'' en = ((o.bind fun x => o'.bind fun y => (fin2 op x y).bind fun s => match s with | .val (.bl true) => o''.bind fun z => fin2 op' y z | .val (.bl false) => fun en => .ok (.val (.bl false)) en | _ => fun _ => .bad) en) := nr (by kernel_rfl)
theorem ap_sl {op : D → Option Int → Option Int → Option Slot} {l h : Option (Fx Opd)} : mSl op o l h en = (match o en with | .ok x e => (match mP l e with | .ok lo e => (match mP h e with | .ok hi e => (match getD e x with | some d => (match op d lo hi with | some s => .ok s e | none => .bad) | none => .bad) | .exn C fs e => .exn C fs e | .bad => .bad) | .exn C fs e => .exn C fs e | .bad => .bad) | .exn C fs e => .exn C fs e | .bad => .bad) := nr (by kernel_rfl)
theorem ap_P0 : mP none en = .ok none en := nr (by kernel_rfl)
theorem ap_P1 : mP (some o) en = (match o en with | .ok x e => (match getD e x with | some (.int i) => .ok (some i) e | _ => .bad) | .exn C fs e => .exn C fs e | .bad => .bad) := nr (by kernel_rfl)
theorem ap_callX {f : Sem} {ms ks : List (Fx Opd)} : mCallX f ms ks en = (match mOs ms en with | .ok xs e => (match mOs ks e with | .ok ys e => callE f (xs ++ ys) e | .exn C fs e => .exn C fs e | .bad => .bad) | .exn C fs e => .exn C fs e | .bad => .bad) := nr (by kernel_rfl)
theorem ap_callE {f : Sem} : callE f os en = (if nodupB (slotsO os) = true then (match argsOf en os with | none => .bad | some as => (match f as with | .ok r as' => .ok r (backE en os as') | .exn C fs as' => .exn C fs (backE en os as') | .bad => .bad)) else .bad) := by
  unfold callE
  rfl
theorem ap_R1 : mR1 o en = (match o en with | .ok x e => (match getD e x with | some (.int j) => (if small j = true then .ok (rng 0 j.toNat) e else .bad) | _ => .bad) | .exn C fs e => .exn C fs e | .bad => .bad) := nr (by kernel_rfl)
theorem ap_It : mIt m en = (match m en with | .ok d e => (match itemsOf d with | some ds => .ok ds e | none => .bad) | .exn C fs e => .exn C fs e | .bad => .bad) := nr (by kernel_rfl)
theorem ap_Mt {q : Mop} {ms : List (Fx D)} : mMt i q ms en = (match en[i]? with | some (.own _ (.lst _)) => (match mVs ms en with | .ok ds e => (match e[i]? with | some (.own b (.lst xs)) => (match q xs ds with | some (ys, d) => .ok d (e.set i (.own b (.lst ys))) | none => .bad) | _ => .bad) | .exn C fs e => .exn C fs e | .bad => .bad) | _ => .bad) := nr (by kernel_rfl)
theorem ap_Rd {c : Bool} {q : D → List D → Option Slot} {ms : List (Fx D)} : mRd c q o ms en = (match o en with | .ok x e => (match getD e x with | some dx => (if kindB dx = some c then (match mVs ms e with | .ok ds e2 => (match getD e2 x with | some dy => (if kindB dy = some c then (match q dy ds with | some s => .ok s e2 | none => .bad) else .bad) | none => .bad) | .exn C fs e => .exn C fs e | .bad => .bad) else .bad) | none => .bad) | .exn C fs e => .exn C fs e | .bad => .bad) := by
  unfold mRd Fx.bind
  cases o en with
  | ok x e => kernel_rfl
  | _ => rfl
theorem ap_put : sPut i o m en = (match m en with | .ok d e => (match sPutAt i o d e with | .nx e => .nx e | .ex C fs e => .ex C fs e | _ => .bad) | .exn C fs e => .ex C fs e | .bad => .bad) := nr (by kernel_rfl)
theorem ap_putAt {d : D} : sPutAt i o d en = (match en[i]? with | some (.own _ _) => (match o en with | .ok x e => (match getD e x with | some j => putIx i j d e | none => .bad) | .exn C fs e => .ex C fs e | .bad => .bad) | _ => .bad) := nr (by kernel_rfl)
theorem ap_Lc {vs : List Nat} {m : Fx (List D)} {tt : Fx Bool} {te : Fx D} : mLc vs t m tt te en = (match m en with | .ok ds e => (if (noneLent e vs && decide (ds.length < lim)) = true then (match lcL t tt te vs ds [] e with | .ok acc e' => .ok (.own false (.lst acc)) (restore e vs (wipeEn e' vs)) | _ => .bad) else .bad) | .exn C fs e => .exn C fs e | .bad => .bad) := nr (by kernel_rfl)
theorem ap_LstRg {m : Fx (Int × Int)} : mLstRg m en = (match m en with | .ok p e => (if rgOk p = true then .ok (.own false (.lst (rgD p.1 p.2))) e else .bad) | .exn C fs e => .exn C fs e | .bad => .bad) := nr (by kernel_rfl)
theorem ap_Rg0 : mRgB none o en = (match o en with | .ok y e => (match getD e y with | some (.int j) => .ok (0, j) e | _ => .bad) | .exn C fs e => .exn C fs e | .bad => .bad) := nr (by kernel_rfl)
end
end Mn
set_option Elab.async false
set_option linter.all false
set_option maxRecDepth 100000
set_option maxHeartbeats 1000000
namespace Mn
open PySem PySem.Spec L2
/-- a row of ints -/
inductive Sq : D → List Int → Prop
  | l (w : List Int) : Sq (.lst (ids w)) w
  | t (w : List Int) : Sq (.tup (ids w)) w
  | b (w : List Int) : Sq (.tpb (ids w)) w
  | s (w : List Int) : Sq (.scr w) w
section
variable {d : D} {w m : List Int} {a b c e i j : Int}
theorem Sq.items (h : Sq d w) : itemsOf d = some (ids w) := by cases h <;> rfl
theorem Sq.len (h : Sq d w) : lenD d = some (.val (.int (w.length : Nat))) := by
  unfold lenD
  rw [h.items]
  dsimp only
  rw [ids_len]
theorem Sq.sum (h : Sq d w) : sumD d = some (.val (.int w.sum)) := by
  unfold sumD
  rw [h.items]
  dsimp only
  rw [intsD_ids]
theorem Sq.list (h : Sq d w) : listD d = some (.own false (.lst (ids w))) := by
  unfold listD
  rw [h.items]
  rfl
theorem Sq.count (h : Sq d w) : cntD d [.int i] = some (.val (.int (w.count i : Nat))) := by
  unfold cntD
  rw [h.items]
  dsimp only
  rw [intsD_ids]
theorem ids_drop {k : Nat} : (ids w).drop k = ids (w.drop k) := by unfold ids; rw [List.map_drop]
theorem ids_get {k : Nat} : (ids w)[k]? = (w[k]?).map .int := List.getElem?_map ..
theorem cut_ids {k : Nat} : cutD (ids w) (some (k : Int)) none = ids (w.drop k) := by
  unfold cutD
  rw [HT.sIx_nat, HT.sIx_none, ids_len]
  by_cases c : k ≤ w.length
  · rw [Nat.min_eq_left c, List.take_of_length_le (by simp [ids_len]), ids_drop]
  · rw [Nat.min_eq_right (by omega), Nat.sub_self, List.take_zero, List.drop_eq_nil_of_le (by omega)]
    rfl
theorem Sq.ix (h : Sq d w) {k : Nat} {x : Int} (g : w[k]? = some x) : ixD d (.int (k : Nat)) = some (.val (.int x)) := by
  have hk : k < w.length := (List.getElem?_eq_some_iff.mp g).1
  unfold ixD
  rw [h.items]
  dsimp only
  unfold L2.atI L2.ixN
  rw [ids_len, if_pos (by omega), if_pos (by omega)]
  show Option.map Slot.val ((ids w)[k]?) = _
  rw [ids_get, g]
  rfl
theorem eqv_int : PyData.eqv (.int a) (.int b) = decide (a = b) := by
  simp only [PyData.eqv]
  by_cases h : a = b <;> simp [h]
theorem eqE_int : eqE (.int a) (.int b) = some (.val (.bl (decide (a = b)))) := by
  rw [← eqv_int]
  simp [eqE, eqD, canEq, plain, SeqAt.shaped, toP, PyData.canLay0, PyData.depth]
theorem neE_int : neE (.int a) (.int b) = some (.val (.bl (!decide (a = b)))) := by
  rw [← eqv_int]
  simp [neE, neD, canEq, plain, SeqAt.shaped, toP, PyData.canLay0, PyData.depth]
theorem eqE_int2 : eqE (.lst [.int a, .int b]) (.lst [.int c, .int e]) = some (.val (.bl (decide (a = c) && decide (b = e)))) := by
  rw [← eqv_int, ← eqv_int]
  simp [eqE, eqD, canEq, plain, plains, SeqAt.shaped, toP, toPs, PyData.canLay0, PyData.canLayAll0, PyData.depth, PyData.depthAll, PyData.eqv, PyData.eqvAll]
theorem neE_int2 : neE (.lst [.int a, .int b]) (.lst [.int c, .int e]) = some (.val (.bl (!(decide (a = c) && decide (b = e))))) := by
  rw [← eqv_int, ← eqv_int]
  simp [neE, neD, canEq, plain, plains, SeqAt.shaped, toP, toPs, PyData.canLay0, PyData.canLayAll0, PyData.depth, PyData.depthAll, PyData.eqv, PyData.eqvAll]
theorem toPs_ids : ∀ {w : List Int}, toPs (ids w) = w.map PyData.int
  | [] => by simp [ids, toPs]
  | i :: w => by
    show toPs (.int i :: ids w) = _
    rw [toPs, toPs_ids, List.map_cons, toP]
theorem plains_ids : ∀ {w : List Int}, plains (ids w) = true
  | [] => by simp [ids, plains]
  | i :: w => by
    show plains (.int i :: ids w) = _
    rw [plains, plains_ids]
    simp [plain]
theorem lay_ids : ∀ {w : List Int}, PyData.canLayAll0 (w.map PyData.int) = true ∧ PyData.depthAll (w.map PyData.int) = 0
  | [] => by simp [PyData.canLayAll0, PyData.depthAll]
  | i :: w => by
    have := lay_ids (w := w)
    simp [PyData.canLayAll0, PyData.depthAll, PyData.canLay0, PyData.depth, this]
theorem eqE_nil : eqE (.lst (ids w)) (.lst []) = some (.val (.bl w.isEmpty)) := by
  have h : PyData.eqv (toP (.lst (ids w))) (toP (.lst [])) = w.isEmpty := by
    cases w <;> simp [ids, toP, toPs, PyData.eqv, PyData.eqvAll]
  have z : SeqAt.shaped (toP (.lst (ids w))) = true := by
    simp [SeqAt.shaped, toP, toPs_ids, PyData.canLay0, PyData.depth, lay_ids]
  unfold eqE eqD canEq
  dsimp only
  rw [h, z]
  simp [plain, plains_ids, plains, SeqAt.shaped, toP, toPs, PyData.canLay0, PyData.canLayAll0, PyData.depth, PyData.depthAll]
theorem isIn_ids : isIn (.int i) (ids w) = decide (i ∈ w) := by
  unfold isIn
  induction w with
  | nil => rfl
  | cons x w ih =>
    show (PyData.eqv (toP (.int x)) (toP (.int i)) || (ids w).any _) = _
    rw [ih]
    show (PyData.eqv (.int x) (.int i) || _) = _
    rw [eqv_int]
    by_cases h : x = i
    · subst h
      simp
    · have h' : ¬ i = x := fun z => h z.symm
      simp [h, h']
theorem Sq.inn (h : Sq d w) : inOp false (.int i) d = some (.val (.bl (decide (i ∈ w)))) := by
  unfold inOp
  rw [h.items]
  dsimp only
  rw [flat_ids]
  simp [flat, isIn_ids]
theorem Sq.notin (h : Sq d w) : inOp true (.int i) d = some (.val (.bl (!decide (i ∈ w)))) := by
  unfold inOp
  rw [h.items]
  dsimp only
  rw [flat_ids]
  simp [flat, isIn_ids]
/-- the place of the first i; the row without it -/
theorem find_ids : ∀ {w : List Int}, i ∈ w → ∃ j, (ids w).findIdx? (fun z => PyData.eqv (toP z) (toP (.int i))) = some j ∧ j < w.length ∧ (ids w)[j]? = some (.int i) ∧ (ids w).eraseIdx j = ids (w.erase i)
  | x :: w, h => by
    by_cases c : x = i
    · subst c
      refine ⟨0, ?_, Nat.succ_pos _, rfl, ?_⟩
      · show (D.int x :: ids w).findIdx? _ = _
        rw [List.findIdx?_cons]
        show (if PyData.eqv (toP (.int x)) (toP (.int x)) = true then _ else _) = _
        rw [show PyData.eqv (toP (.int x)) (toP (.int x)) = true from (eqv_int (a := x) (b := x)).trans (decide_eq_true rfl), if_pos rfl]
      · rw [List.erase_cons_head]
        rfl
    · have h' : i ∈ w := by
        rcases List.mem_cons.mp h with h | h
        · exact absurd h.symm c
        · exact h
      obtain ⟨j, h1, h2, h3, h4⟩ := find_ids h'
      refine ⟨j + 1, ?_, Nat.succ_lt_succ h2, h3, ?_⟩
      · show (D.int x :: ids w).findIdx? _ = _
        rw [List.findIdx?_cons]
        show (if PyData.eqv (toP (.int x)) (toP (.int i)) = true then _ else _) = _
        rw [show PyData.eqv (toP (.int x)) (toP (.int i)) = false from (eqv_int (a := x) (b := i)).trans (decide_eq_false c), if_neg (by simp), h1]
        rfl
      · rw [List.erase_cons_tail (by simpa using c)]
        show D.int x :: (ids w).eraseIdx j = D.int x :: ids (w.erase i)
        rw [h4]
theorem Sq.index (h : Sq d w) {j : Nat} (f : (ids w).findIdx? (fun z => PyData.eqv (toP z) (toP (.int i))) = some j) : indexD d [.int i] = some (.val (.int (j : Nat))) := by
  unfold indexD
  rw [h.items]
  dsimp only
  rw [flat_ids, f]
  rfl
theorem pop_at {xs : List D} {k : Nat} {x : D} (g : xs[k]? = some x) (hl : xs.length ≤ 2 ^ 62) : opPop xs [.int (k : Nat)] = some (xs.eraseIdx k, x) := by
  have hk : k < xs.length := (List.getElem?_eq_some_iff.mp g).1
  unfold opPop
  dsimp only
  rw [if_pos (by omega)]
  unfold L2.ixN
  rw [if_pos (by omega), if_pos (by omega)]
  dsimp only
  rw [Int.toNat_natCast, g]
theorem rep_ids {k : Nat} {x : Int} : (List.replicate k [D.int x]).flatten = ids (List.replicate k x) := by
  induction k with
  | zero => rfl
  | succ k ih =>
    rw [List.replicate_succ, List.flatten_cons, ih]
    rfl
theorem ids_app : ids w ++ ids m = ids (w ++ m) := List.map_append.symm
theorem mul_tup {k : Nat} {x : Int} (h : k ≤ 1000) : mulD (.tup [.int x]) (.int (k : Nat)) = some (.val (.tup (ids (List.replicate k x)))) := by
  unfold mulD
  dsimp only
  rw [if_pos (by simp; omega), Int.toNat_natCast, rep_ids]
theorem mul_lst {k : Nat} {x : Int} (h : k ≤ 1000) : mulD (.lst [.int x]) (.int (k : Nat)) = some (.own false (.lst (ids (List.replicate k x)))) := by
  unfold mulD
  dsimp only
  rw [if_pos (by simp [sizeLine]; omega), Int.toNat_natCast, rep_ids]
theorem add_tup (h : w.length + m.length ≤ 1000) : addE (.tup (ids w)) (.tup (ids m)) = some (.val (.tup (ids (w ++ m)))) := by
  unfold addE addD
  dsimp only
  rw [ids_len, ids_len, if_pos (by simp [sizeLine]; omega), ids_app]
theorem add_lst (h : w.length + m.length ≤ 1000) : addE (.lst (ids w)) (.lst (ids m)) = some (.own false (.lst (ids (w ++ m)))) := by
  unfold addE addD
  dsimp only
  rw [ids_len, ids_len, if_pos (by simp [sizeLine]; omega), ids_app]
theorem add_int : addE (.int a) (.int b) = some (.val (.int (a + b))) := rfl
theorem sub_int : subD (.int a) (.int b) = some (.val (.int (a - b))) := rfl
theorem lt_int : ltD (.int a) (.int b) = some (.val (.bl (decide (a < b)))) := rfl
theorem le_int : leD (.int a) (.int b) = some (.val (.bl (decide (a ≤ b)))) := rfl
theorem gt_int : gtD (.int a) (.int b) = some (.val (.bl (decide (b < a)))) := rfl
theorem ge_int : geD (.int a) (.int b) = some (.val (.bl (decide (b ≤ a)))) := rfl
theorem mod_int (h : b ≠ 0) : modD (.int a) (.int b) = some (.val (.int (a.fmod b))) := by
  unfold modD iOp
  dsimp only
  rw [if_pos (decide_eq_true h)]
theorem div_int (h : b ≠ 0) (k : b.natAbs < 1073741824) : fdivD (.int a) (.int b) = some (.val (.int (a.fdiv b))) := by
  unfold fdivD iOp
  dsimp only
  rw [if_pos (by simp [h, k])]
theorem mul_int (h : a.natAbs < 2 ^ 200) (k : b.natAbs < 2 ^ 200) : mulD (.int a) (.int b) = some (.val (.int (a * b))) := by
  have h1 : ∀ n : Nat, n < 2 ^ 200 → n.log2 < 200 := fun n hn => by
    by_cases z : n = 0
    · subst z; decide
    · exact (Nat.log2_lt z).mpr hn
  have := h1 _ h
  have := h1 _ k
  unfold mulD
  dsimp only
  rw [if_pos (by omega)]
theorem int_int : intD (.int a) = some (.val (.int a)) := rfl
theorem slE_tup {k : Nat} : slE (.tup (ids w)) (some (k : Int)) none = some (.val (.tup (ids (w.drop k)))) := by
  show some (Slot.val (.tup (cutD (ids w) _ _))) = _
  rw [cut_ids]
theorem slE_tpb {k : Nat} : slE (.tpb (ids w)) (some (k : Int)) none = some (.val (.tpb (ids (w.drop k)))) := by
  show some (Slot.val (.tpb (cutD (ids w) _ _))) = _
  rw [cut_ids]
end
end Mn
set_option Elab.async false
set_option linter.all false
set_option maxRecDepth 100000
namespace Pu
def Bits (m : List Int) : Prop := ∀ x ∈ m, x = 0 ∨ x = 1
theorem Bits.tail {x : Int} {m : List Int} (h : Bits (x :: m)) : Bits m := fun y hy => h y (List.mem_cons_of_mem _ hy)
theorem Bits.head {x : Int} {m : List Int} (h : Bits (x :: m)) : x = 0 ∨ x = 1 := h x List.mem_cons_self
def one1 (m : List Int) : Nat := m.count 1
/-- as many as stay, place by place -/
def stays : List Int → List Int → Int
  | [], _ => 0
  | _ :: _, [] => 0
  | s :: w, x :: m => if s = 1 ∧ 1 ∈ x :: m then 1 + stays w ((x :: m).erase 1) else x + stays w m
theorem o_cons {x : Int} {m : List Int} (h : x = 0 ∨ x = 1) : (one1 (x :: m) : Int) = x + one1 m := by
  unfold one1
  rcases h with h | h <;> subst h
  · simp [List.count_cons]
  · simp [List.count_cons]; omega
theorem o_nil : one1 [] = 0 := rfl
theorem Bits.erase {m : List Int} (h : Bits m) : Bits (m.erase 1) := fun x hx => h x (List.mem_of_mem_erase hx)
theorem Bits.drop {m : List Int} (h : Bits m) (k : Nat) : Bits (m.drop k) := fun x hx => h x (List.mem_of_mem_drop hx)
theorem Bits.take {m : List Int} (h : Bits m) (k : Nat) : Bits (m.take k) := fun x hx => h x (List.mem_of_mem_take hx)
theorem o_erase {m : List Int} (h : 1 ∈ m) : one1 (m.erase 1) + 1 = one1 m := by
  unfold one1
  rw [List.count_erase_self]
  have := List.count_pos_iff.mpr h
  omega
theorem o_none {m : List Int} (h : ¬ 1 ∈ m) : one1 m = 0 := List.count_eq_zero.mpr h
/-- the part of the row ahead of a place, when the first marked one is taken out -/
theorem o_part {m : List Int} (b : Bits m) (h : 1 ∈ m) (k : Nat) : one1 (m.take (k + 1)) ≤ one1 ((m.erase 1).take k) + 1 ∧ (0 < one1 ((m.erase 1).take k) → one1 (m.take (k + 1)) = one1 ((m.erase 1).take k) + 1) := by
  induction m generalizing k with
  | nil => cases h
  | cons x m ih =>
    rcases b.head with e | e
    · subst e
      have h' : 1 ∈ m := by
        rcases List.mem_cons.mp h with h | h
        · cases h
        · exact h
      have er : (((0 : Int)) :: m).erase 1 = 0 :: m.erase 1 := by
        rw [List.erase_cons]
        rfl
      rw [er]
      cases k with
      | zero =>
        simp [one1]
      | succ k =>
        have := ih b.tail h' k
        simp only [List.take_succ_cons]
        have e1 : one1 (0 :: m.take (k + 1)) = one1 (m.take (k + 1)) := by simp [one1]
        have e2 : one1 (0 :: (m.erase 1).take k) = one1 ((m.erase 1).take k) := by simp [one1]
        rw [e1, e2]
        exact this
    · subst e
      have er : (((1 : Int)) :: m).erase 1 = m := by simp
      rw [er]
      have e1 : one1 ((1 :: m).take (k + 1)) = one1 (m.take k) + 1 := by simp [one1]
      rw [e1]
      exact ⟨Nat.le_refl _, fun _ => rfl⟩
theorem s_one {w m : List Int} (h : 1 ∈ m) : stays (1 :: w) m = 1 + stays w (m.erase 1) := by
  cases m with
  | nil => cases h
  | cons x m => rw [stays, if_pos ⟨rfl, h⟩]
theorem s_not {s x : Int} {w m : List Int} (h : ¬ (s = 1 ∧ 1 ∈ x :: m)) : stays (s :: w) (x :: m) = x + stays w m := by
  rw [stays, if_neg h]
theorem s_nil {w : List Int} : stays w [] = 0 := by cases w <;> rfl
theorem total : ∀ {w m : List Int}, Bits m → 0 ≤ stays w m ∧ stays w m ≤ one1 m
  | [], m, _ => ⟨Int.le_refl _, by show (0 : Int) ≤ _; omega⟩
  | s :: w, [], _ => by rw [s_nil]; exact ⟨Int.le_refl _, by show (0 : Int) ≤ _; omega⟩
  | s :: w, x :: m, b => by
    by_cases c : s = 1 ∧ 1 ∈ x :: m
    · obtain ⟨c1, c2⟩ := c
      subst c1
      rw [s_one c2]
      have := total (w := w) b.erase
      have := o_erase c2
      omega
    · rw [s_not c, o_cons b.head]
      have := total (w := w) b.tail
      rcases b.head with e | e <;> omega
theorem lower : ∀ {w m : List Int}, Bits w → Bits m → ∀ k, k ≤ w.length → min (one1 m : Int) (one1 (m.take k) + one1 (w.drop k)) ≤ stays w m
  | [], m, _, _, k, hk => by
    have : k = 0 := Nat.le_zero.mp hk
    subst this
    show min (one1 m : Int) (((0 : Nat) : Int) + ((0 : Nat) : Int)) ≤ 0
    omega
  | s :: w, [], _, _, k, hk => by
    rw [s_nil]
    show min (((0 : Nat) : Int)) _ ≤ 0
    omega
  | s :: w, x :: m, bw, b, k, hk => by
    have hs := bw.head
    by_cases c : s = 1 ∧ 1 ∈ x :: m
    · obtain ⟨c1, c2⟩ := c
      subst c1
      rw [s_one c2]
      have oe := o_erase c2
      cases k with
      | zero =>
        have := lower bw.tail b.erase 0 (Nat.zero_le _)
        have e1 : one1 ((x :: m).take 0) = 0 := rfl
        have e3 : one1 (((x :: m).erase 1).take 0) = 0 := rfl
        have e2 := o_cons (m := w) (x := 1) (.inr rfl)
        rw [List.drop_zero] at this
        rw [List.drop_zero, e1, e2]
        rw [e3] at this
        omega
      | succ k =>
        have := lower bw.tail b.erase k (Nat.le_of_succ_le_succ hk)
        have := (o_part b c2 k).1
        rw [List.drop_succ_cons]
        omega
    · rw [s_not c, o_cons b.head]
      have xb := b.head
      by_cases c2 : 1 ∈ x :: m
      · have s0 : s = 0 := by
          rcases hs with h | h
          · exact h
          · exact absurd ⟨h, c2⟩ c
        subst s0
        cases k with
        | zero =>
          have := lower bw.tail b.tail 0 (Nat.zero_le _)
          have e1 : one1 ((x :: m).take 0) = 0 := rfl
          have e3 : one1 (m.take 0) = 0 := rfl
          have e2 := o_cons (m := w) (x := 0) (.inl rfl)
          rw [List.drop_zero] at this
          rw [List.drop_zero, e1, e2]
          rw [e3] at this
          omega
        | succ k =>
          have := lower bw.tail b.tail k (Nat.le_of_succ_le_succ hk)
          rw [List.drop_succ_cons, List.take_succ_cons, o_cons b.head]
          omega
      · have := o_none c2
        have h0 := o_cons (m := m) b.head
        have := (total (w := w) b.tail).1
        omega
theorem upper : ∀ {w m : List Int}, Bits w → Bits m → ∃ k, k ≤ w.length ∧ stays w m ≤ one1 (m.take k) + one1 (w.drop k)
  | [], m, _, _ => ⟨0, Nat.le_refl _, by show (0 : Int) ≤ _; omega⟩
  | s :: w, [], _, _ => ⟨0, Nat.zero_le _, by rw [s_nil]; omega⟩
  | s :: w, x :: m, bw, b => by
    by_cases c : s = 1 ∧ 1 ∈ x :: m
    · obtain ⟨c1, c2⟩ := c
      subst c1
      rw [s_one c2]
      obtain ⟨k, hk, h⟩ := upper bw.tail b.erase
      by_cases z : 0 < one1 (((x :: m).erase 1).take k)
      · refine ⟨k + 1, Nat.succ_le_succ hk, ?_⟩
        have := (o_part b c2 k).2 z
        rw [List.drop_succ_cons]
        omega
      · refine ⟨0, Nat.zero_le _, ?_⟩
        have e2 := o_cons (m := w) (x := 1) (.inr rfl)
        rw [List.drop_zero, e2]
        have l : one1 (w.drop k) ≤ one1 w := List.Sublist.count_le 1 (List.drop_sublist k w)
        omega
    · rw [s_not c]
      obtain ⟨k, hk, h⟩ := upper bw.tail b.tail
      refine ⟨k + 1, Nat.succ_le_succ hk, ?_⟩
      rw [List.drop_succ_cons, List.take_succ_cons, o_cons b.head]
      omega
/-- more reserved places in each tail: never fewer marked ones -/
theorem mono {u w m : List Int} (bu : Bits u) (bw : Bits w) (b : Bits m) (l : u.length = w.length) (h : ∀ k, k ≤ u.length → one1 (u.drop k) ≤ one1 (w.drop k)) : stays u m ≤ stays w m := by
  obtain ⟨k, hk, e⟩ := upper bu b
  have := (total (w := u) b).2
  have := lower bw b k (l ▸ hk)
  have := h k hk
  omega
/-- the marks that are told -/
def marks (s n : Nat) : List Int := List.replicate s 1 ++ List.replicate n 0 ++ List.replicate n 1
theorem marks_bits {s n : Nat} : Bits (marks s n) := fun x hx => by
  unfold marks at hx
  simp only [List.mem_append, List.mem_replicate] at hx
  omega
theorem drop_le {w : List Int} (k j : Nat) : one1 (w.drop k) ≤ j + one1 (w.drop (k + j)) := by
  induction j generalizing k with
  | zero => simp
  | succ j ih =>
    have h := ih (k + 1)
    have : one1 (w.drop k) ≤ 1 + one1 (w.drop (k + 1)) := by
      by_cases c : k < w.length
      · rw [List.drop_eq_getElem_cons c]
        unfold one1
        rw [List.count_cons]
        split <;> omega
      · rw [List.drop_eq_nil_of_le (by omega)]
        simp [one1]
    have e : k + 1 + j = k + (j + 1) := by omega
    rw [e] at h
    omega
theorem told {w : List Int} {s n : Nat} (b : Bits w) (l : w.length = n) (h : s ≤ n) : stays w (marks s n) = s + one1 (w.drop s) := by
  have e1 : one1 (marks s n) = s + n := by
    unfold marks one1
    rw [List.count_append, List.count_append, List.count_replicate_self, List.count_replicate_self, List.count_replicate]
    simp
  have e2 : ∀ k, k ≤ s + n → one1 ((marks s n).take k) = min k s := fun k hk => by
    unfold marks one1
    rw [List.take_append_of_le_length (by simp; omega), List.take_append, List.count_append, List.take_replicate, List.take_replicate, List.count_replicate_self, List.count_replicate]
    simp
  have lo := lower b (marks_bits (s := s) (n := n)) s (l ▸ h)
  obtain ⟨k, hk, up⟩ := upper b (marks_bits (s := s) (n := n))
  rw [e2 s (by omega), e1] at lo
  rw [e2 k (by omega)] at up
  have l1 : one1 (w.drop s) ≤ n := by
    refine Nat.le_trans List.count_le_length ?_
    rw [List.length_drop]
    omega
  by_cases c : k ≤ s
  · have := drop_le (w := w) k (s - k)
    have e : k + (s - k) = s := by omega
    rw [e] at this
    omega
  · have : one1 (w.drop k) ≤ one1 (w.drop s) := by
      have e : w.drop k = (w.drop s).drop (k - s) := by rw [List.drop_drop]; congr 1; omega
      rw [e]
      exact List.Sublist.count_le 1 (List.drop_sublist _ _)
    omega
end Pu
set_option Elab.async false
set_option linter.all false
set_option maxRecDepth 100000
set_option maxHeartbeats 0
namespace HD
open PySem PySem.Spec PyProof.Rows L2
def top (i : Nat) : Stmt := PySem.Challenge.pw_whichstay_k05_whole_words_compared.main.body.getD i (.Pass ⟨0, 0, 0, 0⟩)
abbrev R : PySem.W.OpenRow := PySem.W.OpenLaw.row PySem.Challenge.rw_whichstay_k05_whole_words_compared
abbrev P : Program := R.prog
abbrev s__wall : Stmt := top 0
def d__wall : He.DefD := ⟨("_wall", none), "_wall", "_wall", defArgs s__wall, defBody s__wall, defScope s__wall, [], []⟩
abbrev s_InvalidBook_init : Stmt := inClass (top 3) 0
def e_InvalidBook : Mn.ErrD := ⟨"InvalidBook", "at", "at", s_InvalidBook_init⟩
abbrev s_InvalidRow_init : Stmt := inClass (top 4) 0
def e_InvalidRow : Mn.ErrD := ⟨"InvalidRow", "at", "at", s_InvalidRow_init⟩
abbrev s_InvalidTastes_init : Stmt := inClass (top 5) 0
def e_InvalidTastes : Mn.ErrD := ⟨"InvalidTastes", "at", "at", s_InvalidTastes_init⟩
abbrev s_InvalidMarks_init : Stmt := inClass (top 6) 0
def e_InvalidMarks : Mn.ErrD := ⟨"InvalidMarks", "at", "at", s_InvalidMarks_init⟩
abbrev s_InvalidWord_init : Stmt := inClass (top 7) 0
def e_InvalidWord : Mn.ErrD := ⟨"InvalidWord", "at", "at", s_InvalidWord_init⟩
abbrev s_InvalidSize_init : Stmt := inClass (top 8) 0
def e_InvalidSize : Mn.ErrD := ⟨"InvalidSize", "word", "word", s_InvalidSize_init⟩
abbrev s_is_integer : Stmt := top 10
def d_is_integer : He.DefD := ⟨("is_integer", none), "is_integer", "is_integer", defArgs s_is_integer, defBody s_is_integer, defScope s_is_integer, [], []⟩
abbrev s_is_number : Stmt := top 11
def d_is_number : He.DefD := ⟨("is_number", none), "is_number", "is_number", defArgs s_is_number, defBody s_is_number, defScope s_is_number, [], []⟩
abbrev s_is_below : Stmt := top 12
def d_is_below : He.DefD := ⟨("is_below", none), "is_below", "is_below", defArgs s_is_below, defBody s_is_below, defScope s_is_below, [], []⟩
abbrev s_is_sequence : Stmt := top 13
def d_is_sequence : He.DefD := ⟨("is_sequence", none), "is_sequence", "is_sequence", defArgs s_is_sequence, defBody s_is_sequence, defScope s_is_sequence, [], []⟩
abbrev s_is_permutation : Stmt := top 14
def d_is_permutation : He.DefD := ⟨("is_permutation", none), "is_permutation", "is_permutation", defArgs s_is_permutation, defBody s_is_permutation, defScope s_is_permutation, [], []⟩
abbrev s_is_signs : Stmt := top 15
def d_is_signs : He.DefD := ⟨("is_signs", none), "is_signs", "is_signs", defArgs s_is_signs, defBody s_is_signs, defScope s_is_signs, [], []⟩
abbrev s_rising_rows : Stmt := top 16
def d_rising_rows : He.DefD := ⟨("rising_rows", none), "rising_rows", "rising_rows", defArgs s_rising_rows, defBody s_rising_rows, defScope s_rising_rows, [], []⟩
abbrev s_without : Stmt := top 17
def d_without : He.DefD := ⟨("without", none), "without", "without", defArgs s_without, defBody s_without, defScope s_without, [], []⟩
abbrev s_need_sizes : Stmt := top 20
def d_need_sizes : He.DefD := ⟨("need_sizes", none), "need_sizes", "need_sizes", defArgs s_need_sizes, defBody s_need_sizes, defScope s_need_sizes, [], []⟩
abbrev s_Book___init__ : Stmt := inClass (top 21) 0
def d_Book___init__ : He.DefD := ⟨("Book", some "__init__"), "__init__", "Book.__init__", defArgs s_Book___init__, defBody s_Book___init__, defScope s_Book___init__, [], []⟩
abbrev s_Book___eq__ : Stmt := inClass (top 21) 1
def d_Book___eq__ : He.DefD := ⟨("Book", some "__eq__"), "__eq__", "Book.__eq__", defArgs s_Book___eq__, defBody s_Book___eq__, defScope s_Book___eq__, [], []⟩
abbrev s_need_book : Stmt := top 22
def d_need_book : He.DefD := ⟨("need_book", none), "need_book", "need_book", defArgs s_need_book, defBody s_need_book, defScope s_need_book, [], []⟩
abbrev s_need_row : Stmt := top 23
def d_need_row : He.DefD := ⟨("need_row", none), "need_row", "need_row", defArgs s_need_row, defBody s_need_row, defScope s_need_row, [], []⟩
abbrev s_come_along : Stmt := top 24
def d_come_along : He.DefD := ⟨("come_along", none), "come_along", "come_along", defArgs s_come_along, defBody s_come_along, defScope s_come_along, [], []⟩
abbrev s_end_list : Stmt := top 25
def d_end_list : He.DefD := ⟨("end_list", none), "end_list", "end_list", defArgs s_end_list, defBody s_end_list, defScope s_end_list, [], []⟩
abbrev s_need_tastes : Stmt := top 27
def d_need_tastes : He.DefD := ⟨("need_tastes", none), "need_tastes", "need_tastes", defArgs s_need_tastes, defBody s_need_tastes, defScope s_need_tastes, [], []⟩
abbrev s_picked_things : Stmt := top 28
def d_picked_things : He.DefD := ⟨("picked_things", none), "picked_things", "picked_things", defArgs s_picked_things, defBody s_picked_things, defScope s_picked_things, [], []⟩
abbrev s_tastes_book : Stmt := top 29
def d_tastes_book : He.DefD := ⟨("tastes_book", none), "tastes_book", "tastes_book", defArgs s_tastes_book, defBody s_tastes_book, defScope s_tastes_book, [], []⟩
abbrev s_need_word : Stmt := top 30
def d_need_word : He.DefD := ⟨("need_word", none), "need_word", "need_word", defArgs s_need_word, defBody s_need_word, defScope s_need_word, [], []⟩
abbrev s_word_book : Stmt := top 31
def d_word_book : He.DefD := ⟨("word_book", none), "word_book", "word_book", defArgs s_word_book, defBody s_word_book, defScope s_word_book, [], []⟩
abbrev s_kind_fewer : Stmt := top 32
def d_kind_fewer : He.DefD := ⟨("kind_fewer", none), "kind_fewer", "kind_fewer", defArgs s_kind_fewer, defBody s_kind_fewer, defScope s_kind_fewer, [], []⟩
abbrev s__law_box : Stmt := top 34
def d__law_box : He.DefD := ⟨("_law_box", none), "_law_box", "_law_box", defArgs s__law_box, defBody s__law_box, defScope s__law_box, [], []⟩
abbrev s__law_take : Stmt := top 35
def d__law_take : He.DefD := ⟨("_law_take", none), "_law_take", "_law_take", defArgs s__law_take, defBody s__law_take, defScope s__law_take, [], []⟩
abbrev s__law_pick : Stmt := top 36
def d__law_pick : He.DefD := ⟨("_law_pick", none), "_law_pick", "_law_pick", defArgs s__law_pick, defBody s__law_pick, defScope s__law_pick, [], []⟩
abbrev s__law_stays : Stmt := top 37
def d__law_stays : He.DefD := ⟨("_law_stays", none), "_law_stays", "_law_stays", defArgs s__law_stays, defBody s__law_stays, defScope s__law_stays, [], []⟩
abbrev s__law_words : Stmt := top 38
def d__law_words : He.DefD := ⟨("_law_words", none), "_law_words", "_law_words", defArgs s__law_words, defBody s__law_words, defScope s__law_words, [], []⟩
abbrev s__law_due : Stmt := top 39
def d__law_due : He.DefD := ⟨("_law_due", none), "_law_due", "_law_due", defArgs s__law_due, defBody s__law_due, defScope s__law_due, [], []⟩
abbrev s__law_error : Stmt := top 40
def d__law_error : He.DefD := ⟨("_law_error", none), "_law_error", "_law_error", defArgs s__law_error, defBody s__law_error, defScope s__law_error, [], []⟩
abbrev s__law_pair_right : Stmt := top 41
def d__law_pair_right : He.DefD := ⟨("_law_pair_right", none), "_law_pair_right", "_law_pair_right", defArgs s__law_pair_right, defBody s__law_pair_right, defScope s__law_pair_right, [], []⟩
abbrev s__law_all_right : Stmt := top 42
def d__law_all_right : He.DefD := ⟨("_law_all_right", none), "_law_all_right", "_law_all_right", defArgs s__law_all_right, defBody s__law_all_right, defScope s__law_all_right, [], []⟩
abbrev s_law : Stmt := top 43
def d_law : He.DefD := ⟨("law", none), "law", "law", defArgs s_law, defBody s_law, defScope s_law, [], []⟩
def fns : List He.DefD := [d__wall, d_is_integer, d_is_number, d_is_below, d_is_sequence, d_is_permutation, d_is_signs, d_rising_rows, d_without, d_need_sizes, d_Book___init__, d_Book___eq__, d_need_book, d_need_row, d_come_along, d_end_list, d_need_tastes, d_picked_things, d_tastes_book, d_need_word, d_word_book, d_kind_fewer, d__law_box, d__law_take, d__law_pick, d__law_stays, d__law_words, d__law_due, d__law_error, d__law_pair_right, d__law_all_right, d_law]
def asks : Mn.Asks where
  fn := fns
  glo := [("_wall" : Str), ("StayError" : Str), ("InvalidBook" : Str), ("InvalidRow" : Str), ("InvalidTastes" : Str), ("InvalidMarks" : Str), ("InvalidWord" : Str), ("InvalidSize" : Str), ("is_integer" : Str), ("is_number" : Str), ("is_below" : Str), ("is_sequence" : Str), ("is_permutation" : Str), ("is_signs" : Str), ("rising_rows" : Str), ("without" : Str), ("need_sizes" : Str), ("Book" : Str), ("need_book" : Str), ("need_row" : Str), ("come_along" : Str), ("end_list" : Str), ("need_tastes" : Str), ("picked_things" : Str), ("tastes_book" : Str), ("need_word" : Str), ("word_book" : Str), ("kind_fewer" : Str), ("_law_box" : Str), ("_law_take" : Str), ("_law_pick" : Str), ("_law_stays" : Str), ("_law_words" : Str), ("_law_due" : Str), ("_law_error" : Str), ("_law_pair_right" : Str), ("_law_all_right" : Str), ("law" : Str)]
  int := [(("MOST_THINGS" : Str), 9)]
  free := [("len" : Str), ("isinstance" : Str), ("range" : Str), ("zip" : Str), ("enumerate" : Str), ("tuple" : Str), ("list" : Str), ("int" : Str), ("str" : Str), ("repr" : Str), ("all" : Str), ("any" : Str), ("sorted" : Str), ("abs" : Str), ("min" : Str), ("max" : Str), ("dict" : Str), ("set" : Str), ("sum" : Str), ("bool" : Str), ("super" : Str), ("type" : Str)]
  er := [e_InvalidBook, e_InvalidRow, e_InvalidTastes, e_InvalidMarks, e_InvalidWord, e_InvalidSize]
  file := (P.main.file : Str)
  is := [(.inl "NoneType", .inl "int", false), (.inl "NoneType", .inl "bool", false), (.inl "NoneType", .inl "list", false), (.inl "NoneType", .inl "tuple", false), (.inl "NoneType", .inl "str", false), (.inl "NoneType", .inr "Book", false), (.inl "bool", .inl "int", true), (.inl "bool", .inl "bool", true), (.inl "bool", .inl "list", false), (.inl "bool", .inl "tuple", false), (.inl "bool", .inl "str", false), (.inl "bool", .inr "Book", false), (.inl "int", .inl "int", true), (.inl "int", .inl "bool", false), (.inl "int", .inl "list", false), (.inl "int", .inl "tuple", false), (.inl "int", .inl "str", false), (.inl "int", .inr "Book", false), (.inl "str", .inl "int", false), (.inl "str", .inl "bool", false), (.inl "str", .inl "list", false), (.inl "str", .inl "tuple", false), (.inl "str", .inl "str", true), (.inl "str", .inr "Book", false), (.inl "tuple", .inl "int", false), (.inl "tuple", .inl "bool", false), (.inl "tuple", .inl "list", false), (.inl "tuple", .inl "tuple", true), (.inl "tuple", .inl "str", false), (.inl "tuple", .inr "Book", false), (.inl "list", .inl "int", false), (.inl "list", .inl "bool", false), (.inl "list", .inl "list", true), (.inl "list", .inl "tuple", false), (.inl "list", .inl "str", false), (.inl "list", .inr "Book", false), (.inr "Book", .inl "int", false), (.inr "Book", .inl "bool", false), (.inr "Book", .inl "list", false), (.inr "Book", .inl "tuple", false), (.inr "Book", .inl "str", false), (.inr "Book", .inr "Book", true)]
  ic := [("Book" : Str)]
  ex := [(("InvalidBook" : Str), ("InvalidWord" : Str), false), (("InvalidRow" : Str), ("InvalidWord" : Str), false), (("InvalidTastes" : Str), ("InvalidWord" : Str), false), (("InvalidMarks" : Str), ("InvalidWord" : Str), false), (("InvalidWord" : Str), ("InvalidWord" : Str), true), (("InvalidSize" : Str), ("InvalidWord" : Str), false)]
  xf := [(("InvalidBook" : Str), ["at", "word"]), (("InvalidRow" : Str), ["at", "word"]), (("InvalidTastes" : Str), ["at", "word"]), (("InvalidMarks" : Str), ["at", "word"]), (("InvalidWord" : Str), ["at", "word"]), (("InvalidSize" : Str), ["at", "word"])]
  cs := [(("Book" : Str), [("by_lot" : Str), ("many" : Str), ("places" : Str), ("goers" : Str)])]
  mks := [("Book" : Str)]
def loose : List PySem.Str := [("_wall" : Str), ("StayError" : Str), ("InvalidBook" : Str), ("InvalidRow" : Str), ("InvalidTastes" : Str), ("InvalidMarks" : Str), ("InvalidWord" : Str), ("InvalidSize" : Str), ("is_integer" : Str), ("is_number" : Str), ("is_below" : Str), ("is_sequence" : Str), ("is_permutation" : Str), ("is_signs" : Str), ("rising_rows" : Str), ("without" : Str), ("MOST_THINGS" : Str), ("need_sizes" : Str), ("Book" : Str), ("need_book" : Str), ("need_row" : Str), ("come_along" : Str), ("end_list" : Str), ("need_tastes" : Str), ("picked_things" : Str), ("tastes_book" : Str), ("need_word" : Str), ("word_book" : Str), ("kind_fewer" : Str), ("_law_box" : Str), ("_law_take" : Str), ("_law_pick" : Str), ("_law_stays" : Str), ("_law_words" : Str), ("_law_due" : Str), ("_law_error" : Str), ("_law_pair_right" : Str), ("_law_all_right" : Str)]
abbrev hk : PySem.W.Hook := Mn.hookM 5 asks
def ob (s : PySem.W.SharedT) : Mn.AlM := Mn.obsMG 5 asks (HandSHeadRun.getT s)
theorem ob_eq (s : PySem.W.SharedT) : ob s = hk.obs s.abs := Mn.obsMG_eq (HandSHeadRun.getT_eq s)
theorem run (w : World) : HandSHeadRun.RunEq R (PySem.W.view R.prog [43]) hk ob 5000 loose w := by
  intro os
  kernel_rfl
open Mn
theorem some_of {α : Type} {o : Option α} (x : α) (h : o.isSome = true) : o = some (o.getD x) := by cases o with | none => cases h | some y => rfl
theorem all_nil {p : Nat → Prop} : ∀ m ∈ ([] : List Nat), p m := fun _ h => nomatch h
theorem all_one {p : Nat → Prop} {a : Nat} {l : List Nat} (h : p a) (t : ∀ m ∈ l, p m) : ∀ m ∈ a :: l, p m := fun m hm => (List.mem_cons.mp hm).elim (fun e => e ▸ h) (t m)
def G_0 : Gt := gtOf asks [("by_lot" : Str)] [("Book" : Str), ("StayError" : Str), ("StayError" : Str), ("InvalidBook" : Str), ("InvalidRow" : Str), ("InvalidTastes" : Str), ("InvalidMarks" : Str), ("InvalidWord" : Str), ("InvalidSize" : Str)]
section
variable {w : World} {K : Fg} {mg : Str → Option Value} {base : Heap}
theorem ft_0 (F : Facts asks K) (inK : K.In base) (ns : base.Ns mainGlobals mg) : Ft G_0 0 P w K mg base := ft_of F inK ns rfl (by kernel_rfl) (by kernel_rfl) (by kernel_rfl) (by kernel_rfl)
def N_is_integer : List Str := [("value" : Str)]
def ps_is_integer : List Str := [("value" : Str)]
def b_is_integer : Fs := (sSeq (sRet (mAndV (mN (isiD G_0.is G_0.ic) [(mNameO 0), (mO (mC (.ty "int")))]) (mNotV (mN (isiD G_0.is G_0.ic) [(mNameO 0), (mO (mC (.ty "bool")))])))) sSkip)
theorem r_is_integer : rdBody { G_0 with bare := false } N_is_integer d_is_integer.scope 60 d_is_integer.body = some b_is_integer := by kernel_rfl
def m_is_integer : Sem := semOf 1 1 b_is_integer
def i_is_integer : FnI := ⟨("is_integer" : Str), ps_is_integer, [1], m_is_integer⟩
theorem h_is_integer_1 : Shp d_is_integer ps_is_integer 1 := ⟨by decide, fun kV doc pm an cdv ct us ws h1 h2 => match us, ws, h1, h2 with | [a0], [], _, _ => by kernel_rfl⟩
def N_is_sequence : List Str := [("value" : Str)]
def ps_is_sequence : List Str := [("value" : Str)]
def b_is_sequence : Fs := (sSeq (sRet (mN (isiD G_0.is G_0.ic) [(mNameO 0), (mO (mTup [(mC (.ty "list")), (mC (.ty "tuple"))]))])) sSkip)
theorem r_is_sequence : rdBody { G_0 with bare := false } N_is_sequence d_is_sequence.scope 60 d_is_sequence.body = some b_is_sequence := by kernel_rfl
def m_is_sequence : Sem := semOf 1 1 b_is_sequence
def i_is_sequence : FnI := ⟨("is_sequence" : Str), ps_is_sequence, [1], m_is_sequence⟩
theorem h_is_sequence_1 : Shp d_is_sequence ps_is_sequence 1 := ⟨by decide, fun kV doc pm an cdv ct us ws h1 h2 => match us, ws, h1, h2 with | [a0], [], _, _ => by kernel_rfl⟩
def N_rising_rows : List Str := [("many" : Str), ("size" : Str), ("rows" : Str), ("turn" : Str), ("row" : Str), ("one" : Str)]
def ps_rising_rows : List Str := [("many" : Str), ("size" : Str)]
def l_rising_rows_1 : Fs := (sSeq (sSet 2 (mLc2 [4, 5] [5] (.nm 4) (mIt (mNameV 2)) mYes (.nm 5) (mR2 (mO (mV (mIf (mB (m2 gtD (mO (mV (mN (ap1 lenD) [(mNameO 4)]))) (mO (mC (.int 0))))) (m2 addE (mO (mV (m2 ixD (mNameO 4) (mO (mV (m1 negD (mO (mC (.int 1))))))))) (mO (mC (.int 1)))) (mS (mC (.int 0)))))) (mNameO 0)) mYes (mV (m2 addE (mNameO 4) (mO (mTup [(mNameV 5)])))))) sSkip)
def b_rising_rows : Fs := (sSeq (sSet 2 (mLst [(mTup [])])) (sSeq (sFor (.nm 3) (mR1 (mNameO 1)) l_rising_rows_1) (sSeq (sRet (mS (mNameV 2))) sSkip)))
theorem r_rising_rows : rdBody { G_0 with bare := false } N_rising_rows d_rising_rows.scope 60 d_rising_rows.body = some b_rising_rows := by kernel_rfl
def m_rising_rows : Sem := semOf 2 6 b_rising_rows
def i_rising_rows : FnI := ⟨("rising_rows" : Str), ps_rising_rows, [2], m_rising_rows⟩
theorem h_rising_rows_2 : Shp d_rising_rows ps_rising_rows 2 := ⟨by decide, fun kV doc pm an cdv ct us ws h1 h2 => match us, ws, h1, h2 with | [a0, a1], [], _, _ => by kernel_rfl⟩
def N_without : List Str := [("lot" : Str), ("thing" : Str), ("one" : Str)]
def ps_without : List Str := [("lot" : Str), ("thing" : Str)]
def q_without_1 : Fx Bool := (mB (m2 neE (mNameO 2) (mNameO 1)))
def c_without_1 : Fx D := (mNameV 2)
def b_without : Fs := (sSeq (sRet (mN (ap1 (tupD false)) [(mO (mV (mLc [2] (.nm 2) (mIt (mNameV 0)) q_without_1 c_without_1)))])) sSkip)
theorem r_without : rdBody { G_0 with bare := false } N_without d_without.scope 60 d_without.body = some b_without := by kernel_rfl
def m_without : Sem := semOf 2 3 b_without
def i_without : FnI := ⟨("without" : Str), ps_without, [2], m_without⟩
theorem h_without_2 : Shp d_without ps_without 2 := ⟨by decide, fun kV doc pm an cdv ct us ws h1 h2 => match us, ws, h1, h2 with | [a0, a1], [], _, _ => by kernel_rfl⟩
def N_need_book : List Str := [("value" : Str)]
def ps_need_book : List Str := [("value" : Str)]
def b_need_book : Fs := (sSeq (sIf (mNot (mT (mO (mV (mN (isiD G_0.is G_0.ic) [(mNameO 0), (mO (mC (.cls ("Book" : Str))))]))))) (sSeq (sRaise ("InvalidBook" : Str) ("at" : Str) (mV (m1 negD (mO (mC (.int 1)))))) sSkip) sSkip) (sSeq (sRet (mS (mNameV 0))) sSkip))
theorem r_need_book : rdBody { G_0 with bare := false } N_need_book d_need_book.scope 60 d_need_book.body = some b_need_book := by kernel_rfl
def m_need_book : Sem := semOf 1 1 b_need_book
def i_need_book : FnI := ⟨("need_book" : Str), ps_need_book, [1], m_need_book⟩
theorem h_need_book_1 : Shp d_need_book ps_need_book 1 := ⟨by decide, fun kV doc pm an cdv ct us ws h1 h2 => match us, ws, h1, h2 with | [a0], [], _, _ => by kernel_rfl⟩
def N_picked_things : List Str := [("tastes" : Str), ("lot" : Str), ("ranking" : Str), ("left" : Str), ("picked" : Str), ("found" : Str), ("thing" : Str)]
def ps_picked_things : List Str := [("tastes" : Str), ("lot" : Str)]
def q_picked_things_1 : Fx Bool := (mB (m2 (inOp false) (mNameO 6) (mNameO 3)))
def c_picked_things_1 : Fx D := (mNameV 6)
def l_picked_things_1 : Fs := (sSeq (sSet 5 (mLc [6] (.nm 6) (mIt (mNameV 2)) q_picked_things_1 c_picked_things_1)) (sSeq (sIf (mB (m2 gtD (mO (mV (mN (ap1 lenD) [(mNameO 5)]))) (mO (mC (.int 0))))) (sSeq (sDrop (mS (mMt 4 opAppend [(mV (m2 ixD (mNameO 5) (mO (mC (.int 0)))))]))) (sSeq (sDrop (mS (mMt 3 opRemove [(mV (m2 ixD (mNameO 5) (mO (mC (.int 0)))))]))) sSkip)) sSkip) sSkip))
def b_picked_things : Fs := (sSeq (sPar [3, 4] [(mN (ap1 listD) [(mNameO 1)]), (mLst [])]) (sSeq (sFor (.nm 2) (mIt (mNameV 0)) l_picked_things_1) (sSeq (sRet (mS (mNameV 4))) sSkip)))
theorem r_picked_things : rdBody { G_0 with bare := false } N_picked_things d_picked_things.scope 60 d_picked_things.body = some b_picked_things := by kernel_rfl
def m_picked_things : Sem := semOf 2 7 b_picked_things
def i_picked_things : FnI := ⟨("picked_things" : Str), ps_picked_things, [2], m_picked_things⟩
theorem h_picked_things_2 : Shp d_picked_things ps_picked_things 2 := ⟨by decide, fun kV doc pm an cdv ct us ws h1 h2 => match us, ws, h1, h2 with | [a0, a1], [], _, _ => by kernel_rfl⟩
def N__law_box : List Str := [("_law_script" : Str), ("_law_k" : Str), ("_law_cell" : Str)]
def ps__law_box : List Str := [("_law_script" : Str), ("_law_k" : Str)]
def b__law_box : Fs := (sSeq (sSet 2 (m2 addE (mO (mV (m2 mulD (mO (mC (.int 6121))) (mNameO 1)))) (mO (mC (.int 877))))) (sSeq (sIf (mB (m2 ltD (mNameO 1) (mO (mV (mN (ap1 lenD) [(mNameO 0)]))))) (sSeq (sSet 2 (mN (ap1 absD) [(mO (mV (m2 ixD (mNameO 0) (mNameO 1))))])) sSkip) (sSeq (sIf (mB (m2 gtD (mO (mV (mN (ap1 lenD) [(mNameO 0)]))) (mO (mC (.int 0))))) (sSeq (sSet 2 (m2 addE (mNameO 2) (mO (mV (m2 mulD (mO (mV (m2 modD (mO (mV (mN (ap1 intD) [(mO (mV (mN (ap1 absD) [(mO (mV (m2 ixD (mNameO 0) (mO (mV (m2 modD (mO (mV (mN (ap1 intD) [(mNameO 1)]))) (mO (mV (mN (ap1 lenD) [(mNameO 0)])))))))))])))]))) (mO (mC (.int 2147483629)))))) (mO (mC (.int 60013)))))))) sSkip) sSkip) sSkip)) (sSeq (sRet (mLst [(mV (m2 ixD (mO (mV (mLst [(mC (.int 0)), (mNameV 2)]))) (mO (mV (mN (ap1 intD) [(mO (mV (m2 geD (mNameO 2) (mO (mV (m2 powD (mO (mC (.int 10))) (mO (mC (.int 18)))))))))]))))), (mV (m2 addE (mO (mV (m2 modD (mO (mV (mN (ap1 intD) [(mO (mV (m2 addE (mO (mV (m2 mulD (mO (mV (m2 modD (mO (mV (mN (ap1 intD) [(mNameO 2)]))) (mO (mC (.int 2147483629)))))) (mO (mC (.int 38377)))))) (mO (mV (m2 mulD (mO (mC (.int 71129))) (mNameO 1)))))))]))) (mO (mC (.int 2147483629)))))) (mO (mC (.int 1))))), (mC (.int 0))])) sSkip)))
theorem r__law_box : rdBody { G_0 with bare := true } N__law_box d__law_box.scope 60 d__law_box.body = some b__law_box := by kernel_rfl
def m__law_box : Sem := semOf 2 3 b__law_box
def i__law_box : FnI := ⟨("_law_box" : Str), ps__law_box, [2], m__law_box⟩
theorem h__law_box_2 : Shp d__law_box ps__law_box 2 := ⟨by decide, fun kV doc pm an cdv ct us ws h1 h2 => match us, ws, h1, h2 with | [a0, a1], [], _, _ => by kernel_rfl⟩
def N__law_take : List Str := [("_law_box_here" : Str), ("_law_many" : Str), ("_law_raw" : Str), ("_law_digit" : Str)]
def ps__law_take : List Str := [("_law_box_here" : Str), ("_law_many" : Str)]
def b__law_take : Fs := (sSeq (sIf (mB (m2 gtD (mO (mV (m2 ixD (mNameO 0) (mO (mC (.int 0)))))) (mO (mC (.int 0))))) (sSeq (sSet 3 (m2 modD (mO (mV (mN (ap1 intD) [(mO (mV (m2 ixD (mNameO 0) (mO (mC (.int 0))))))]))) (mNameO 1))) (sSeq (sPut 0 (mO (mC (.int 0))) (mV (m2 fdivD (mO (mV (m2 ixD (mNameO 0) (mO (mC (.int 0)))))) (mNameO 1)))) (sSeq (sRet (mS (mNameV 3))) sSkip))) sSkip) (sSeq (sPut 0 (mO (mC (.int 2))) (mV (m2 addE (mO (mV (m2 ixD (mNameO 0) (mO (mC (.int 2)))))) (mO (mC (.int 1)))))) (sSeq (sSet 2 (m2 modD (mO (mV (mN (ap1 intD) [(mO (mV (m2 addE (mO (mV (m2 mulD (mO (mV (m2 addE (mO (mV (m2 ixD (mNameO 0) (mO (mC (.int 1)))))) (mO (mV (m2 mulD (mO (mC (.int 90007))) (mO (mV (m2 ixD (mNameO 0) (mO (mC (.int 2)))))))))))) (mO (mC (.int 58217)))))) (mO (mC (.int 43))))))]))) (mO (mC (.int 2147483563))))) (sSeq (sPut 0 (mO (mC (.int 1))) (mV (m2 addE (mO (mV (m2 modD (mO (mV (mN (ap1 intD) [(mO (mV (m2 addE (mO (mV (m2 mulD (mNameO 2) (mO (mC (.int 40289)))))) (mO (mC (.int 27367))))))]))) (mO (mC (.int 2147483629)))))) (mO (mC (.int 1)))))) (sSeq (sRet (m2 modD (mO (mV (mN (ap1 intD) [(mO (mV (m2 fdivD (mO (mV (m2 addE (mO (mV (m2 mulD (mNameO 2) (mO (mC (.int 2147483647)))))) (mO (mV (m2 ixD (mNameO 0) (mO (mC (.int 1))))))))) (mO (mC (.int 8191))))))]))) (mNameO 1))) sSkip)))))
theorem r__law_take : rdBody { G_0 with bare := true } N__law_take d__law_take.scope 60 d__law_take.body = some b__law_take := by kernel_rfl
def m__law_take : Sem := semOf 2 4 b__law_take
def i__law_take : FnI := ⟨("_law_take" : Str), ps__law_take, [2], m__law_take⟩
theorem h__law_take_2 : Shp d__law_take ps__law_take 2 := ⟨by decide, fun kV doc pm an cdv ct us ws h1 h2 => match us, ws, h1, h2 with | [a0, a1], [], _, _ => by kernel_rfl⟩
def N__law_stays : List Str := [("_law_word" : Str), ("_law_marks" : Str), ("_law_sign" : Str), ("_law_left" : Str), ("_law_found" : Str), ("_law_at" : Str)]
def ps__law_stays : List Str := [("_law_word" : Str), ("_law_marks" : Str)]
def l__law_stays_1 : Fs := (sSeq (sIf (mB (m2 eqE (mNameO 3) (mO (mV (mLst []))))) (sSeq (sRet (mS (mNameV 4))) sSkip) sSkip) (sSeq (sSet 5 (mIf (mAnd (mB (m2 eqE (mNameO 2) (mO (mC (.int 1))))) (mB (m2 (inOp false) (mO (mC (.int 1))) (mNameO 3)))) (mRd false indexD (mNameO 3) [(mC (.int 1))]) (mS (mC (.int 0))))) (sSeq (sSet 4 (m2 addE (mNameO 4) (mO (mMt 3 opPop [(mNameV 5)])))) sSkip)))
def b__law_stays : Fs := (sSeq (sPar [3, 4] [(mN (ap1 listD) [(mNameO 1)]), (mS (mC (.int 0)))]) (sSeq (sFor (.nm 2) (mIt (mNameV 0)) l__law_stays_1) (sSeq (sRet (mS (mNameV 4))) sSkip)))
theorem r__law_stays : rdBody { G_0 with bare := true } N__law_stays d__law_stays.scope 60 d__law_stays.body = some b__law_stays := by kernel_rfl
def m__law_stays : Sem := semOf 2 6 b__law_stays
def i__law_stays : FnI := ⟨("_law_stays" : Str), ps__law_stays, [2], m__law_stays⟩
theorem h__law_stays_2 : Shp d__law_stays ps__law_stays 2 := ⟨by decide, fun kV doc pm an cdv ct us ws h1 h2 => match us, ws, h1, h2 with | [a0, a1], [], _, _ => by kernel_rfl⟩
def N__law_words : List Str := [("_law_many" : Str), ("_law_rows" : Str), ("_law_turn" : Str), ("_law_longer" : Str), ("_law_row" : Str)]
def ps__law_words : List Str := [("_law_many" : Str)]
def l__law_words_2 : Fs := (sSeq (sDrop (mS (mMt 3 opExtend [(mV (mLst [(mV (m2 addE (mNameO 4) (mO (mTupB [(mC (.int 0))])))), (mV (m2 addE (mNameO 4) (mO (mTupB [(mC (.int 1))]))))]))]))) sSkip)
def l__law_words_1 : Fs := (sSeq (sSet 3 (mLst [])) (sSeq (sFor (.nm 4) (mIt (mNameV 1)) l__law_words_2) (sSeq (sSet 1 (mS (mNameV 3))) sSkip)))
def b__law_words : Fs := (sSeq (sSet 1 (mLst [(mTupB [])])) (sSeq (sFor (.nm 2) (mR1 (mNameO 0)) l__law_words_1) (sSeq (sRet (mS (mNameV 1))) sSkip)))
theorem r__law_words : rdBody { G_0 with bare := true } N__law_words d__law_words.scope 60 d__law_words.body = some b__law_words := by kernel_rfl
def m__law_words : Sem := semOf 1 5 b__law_words
def i__law_words : FnI := ⟨("_law_words" : Str), ps__law_words, [1], m__law_words⟩
theorem h__law_words_1 : Shp d__law_words ps__law_words 1 := ⟨by decide, fun kV doc pm an cdv ct us ws h1 h2 => match us, ws, h1, h2 with | [a0], [], _, _ => by kernel_rfl⟩
def N__law_due : List Str := [("_law_one" : Str), ("_law_other" : Str), ("_law_spot" : Str)]
def ps__law_due : List Str := [("_law_one" : Str), ("_law_other" : Str)]
def l__law_due_1 : Fs := (sSeq (sIf (mB (m2 ltD (mO (mV (mRd true cntD (mO (mV (mSl slE (mNameO 0) (some (mNameO 2)) none))) [(mC (.int 1))]))) (mO (mV (mRd true cntD (mO (mV (mSl slE (mNameO 1) (some (mNameO 2)) none))) [(mC (.int 1))]))))) (sSeq (sRet (mS (mTupB [(mNameV 2), (mV (mN (ap1 (tupD true)) [(mO (mV (m2 addE (mO (mV (m2 addE (mO (mV (m2 mulD (mO (mV (mLst [(mC (.int 1))]))) (mNameO 2)))) (mO (mV (m2 mulD (mO (mV (mLst [(mC (.int 0))]))) (mO (mV (mN (ap1 lenD) [(mNameO 0)]))))))))) (mO (mV (m2 mulD (mO (mV (mLst [(mC (.int 1))]))) (mO (mV (mN (ap1 lenD) [(mNameO 0)])))))))))]))]))) sSkip) sSkip) sSkip)
def b__law_due : Fs := (sSeq (sFor (.nm 2) (mR1 (mO (mV (m2 addE (mO (mV (mN (ap1 lenD) [(mNameO 0)]))) (mO (mC (.int 1))))))) l__law_due_1) (sSeq (sRet (mS (mC .non))) sSkip))
theorem r__law_due : rdBody { G_0 with bare := true } N__law_due d__law_due.scope 60 d__law_due.body = some b__law_due := by kernel_rfl
def m__law_due : Sem := semOf 2 3 b__law_due
def i__law_due : FnI := ⟨("_law_due" : Str), ps__law_due, [2], m__law_due⟩
theorem h__law_due_2 : Shp d__law_due ps__law_due 2 := ⟨by decide, fun kV doc pm an cdv ct us ws h1 h2 => match us, ws, h1, h2 with | [a0, a1], [], _, _ => by kernel_rfl⟩
def G_1 : Gt := { G_0 with fs := i__law_due :: i__law_words :: i__law_stays :: i__law_take :: i__law_box :: i_picked_things :: i_need_book :: i_without :: i_rising_rows :: i_is_sequence :: i_is_integer :: G_0.fs, mks := G_0.mks }
theorem ft_1 (F : Facts asks K) (inK : K.In base) (ns : base.Ns mainGlobals mg) : Ft G_1 3 P w K mg base := by
  have t := ft_0 (w := w) F inK ns
  have z := t.mono (k := 3) (by decide)
  have z := z.fn (p := i_is_integer) (def_fact F inK ns (t.flav false) (List.mem_of_getElem? (i := 1) rfl) rfl rfl rfl (List.mem_of_getElem? (i := 8) rfl) (by kernel_rfl) r_is_integer (all_one h_is_integer_1 all_nil))
  have z := z.fn (p := i_is_sequence) (def_fact F inK ns (t.flav false) (List.mem_of_getElem? (i := 4) rfl) rfl rfl rfl (List.mem_of_getElem? (i := 11) rfl) (by kernel_rfl) r_is_sequence (all_one h_is_sequence_1 all_nil))
  have z := z.fn (p := i_rising_rows) (def_fact F inK ns (t.flav false) (List.mem_of_getElem? (i := 7) rfl) rfl rfl rfl (List.mem_of_getElem? (i := 14) rfl) (by kernel_rfl) r_rising_rows (all_one h_rising_rows_2 all_nil))
  have z := z.fn (p := i_without) (def_fact F inK ns (t.flav false) (List.mem_of_getElem? (i := 8) rfl) rfl rfl rfl (List.mem_of_getElem? (i := 15) rfl) (by kernel_rfl) r_without (all_one h_without_2 all_nil))
  have z := z.fn (p := i_need_book) (def_fact F inK ns (t.flav false) (List.mem_of_getElem? (i := 12) rfl) rfl rfl rfl (List.mem_of_getElem? (i := 18) rfl) (by kernel_rfl) r_need_book (all_one h_need_book_1 all_nil))
  have z := z.fn (p := i_picked_things) (def_fact F inK ns (t.flav false) (List.mem_of_getElem? (i := 17) rfl) rfl rfl rfl (List.mem_of_getElem? (i := 23) rfl) (by kernel_rfl) r_picked_things (all_one h_picked_things_2 all_nil))
  have z := z.fn (p := i__law_box) (def_fact F inK ns (t.flav true) (List.mem_of_getElem? (i := 22) rfl) rfl rfl rfl (List.mem_of_getElem? (i := 28) rfl) (by kernel_rfl) r__law_box (all_one h__law_box_2 all_nil))
  have z := z.fn (p := i__law_take) (def_fact F inK ns (t.flav true) (List.mem_of_getElem? (i := 23) rfl) rfl rfl rfl (List.mem_of_getElem? (i := 29) rfl) (by kernel_rfl) r__law_take (all_one h__law_take_2 all_nil))
  have z := z.fn (p := i__law_stays) (def_fact F inK ns (t.flav true) (List.mem_of_getElem? (i := 25) rfl) rfl rfl rfl (List.mem_of_getElem? (i := 31) rfl) (by kernel_rfl) r__law_stays (all_one h__law_stays_2 all_nil))
  have z := z.fn (p := i__law_words) (def_fact F inK ns (t.flav true) (List.mem_of_getElem? (i := 26) rfl) rfl rfl rfl (List.mem_of_getElem? (i := 32) rfl) (by kernel_rfl) r__law_words (all_one h__law_words_1 all_nil))
  have z := z.fn (p := i__law_due) (def_fact F inK ns (t.flav true) (List.mem_of_getElem? (i := 27) rfl) rfl rfl rfl (List.mem_of_getElem? (i := 33) rfl) (by kernel_rfl) r__law_due (all_one h__law_due_2 all_nil))
  exact z
def N_is_number : List Str := [("value" : Str)]
def ps_is_number : List Str := [("value" : Str)]
def b_is_number : Fs := (sSeq (sRet (mAndV (mCallX m_is_integer [(mNameO 0)] []) (m2 geD (mNameO 0) (mO (mC (.int 0)))))) sSkip)
theorem r_is_number : rdBody { G_1 with bare := false } N_is_number d_is_number.scope 60 d_is_number.body = some b_is_number := by kernel_rfl
def m_is_number : Sem := semOf 1 1 b_is_number
def i_is_number : FnI := ⟨("is_number" : Str), ps_is_number, [1], m_is_number⟩
theorem h_is_number_1 : Shp d_is_number ps_is_number 1 := ⟨by decide, fun kV doc pm an cdv ct us ws h1 h2 => match us, ws, h1, h2 with | [a0], [], _, _ => by kernel_rfl⟩
def N_come_along : List Str := [("book" : Str), ("stays" : Str), ("row" : Str), ("thing" : Str)]
def ps_come_along : List Str := [("book" : Str), ("stays" : Str), ("row" : Str)]
def l_come_along_1 : Fs := (sSeq (sIf (mB (m2 (inOp true) (mNameO 3) (mNameO 1))) (sSeq (sSet 1 (mN (ap1 (tupD false)) [(mO (mV (mN (ap1 sortD) [(mO (mV (m2 addE (mNameO 1) (mO (mTup [(mNameV 3)])))))])))])) (sSeq (sIf (mB (m2 gtD (mO (mV (mN (ap1 lenD) [(mNameO 1)]))) (mO (mV (m1 (fldOp G_0.cs ("places" : Str)) (mNameO 0)))))) (sSeq (sSet 1 (mCallX m_without [(mNameO 1), (mO (mDget (mV (m1 (fldOp G_0.cs ("by_lot" : Str)) (mNameO 0))) (mNameV 1)))] [])) sSkip) sSkip) sSkip)) sSkip) sSkip)
def b_come_along : Fs := (sSeq (sFor (.nm 3) (mIt (mNameV 2)) l_come_along_1) (sSeq (sRet (mS (mNameV 1))) sSkip))
theorem r_come_along : rdBody { G_1 with bare := false } N_come_along d_come_along.scope 60 d_come_along.body = some b_come_along := by kernel_rfl
def m_come_along : Sem := semOf 3 4 b_come_along
def i_come_along : FnI := ⟨("come_along" : Str), ps_come_along, [3], m_come_along⟩
theorem h_come_along_3 : Shp d_come_along ps_come_along 3 := ⟨by decide, fun kV doc pm an cdv ct us ws h1 h2 => match us, ws, h1, h2 with | [a0, a1, a2], [], _, _ => by kernel_rfl⟩
def N__law_pick : List Str := [("_law_box_here" : Str), ("_law_some" : Str)]
def ps__law_pick : List Str := [("_law_box_here" : Str), ("_law_some" : Str)]
def b__law_pick : Fs := (sSeq (sRet (m2 ixD (mNameO 1) (mO (mV (mCallX m__law_take [(mNameO 0), (mO (mV (mN (ap1 lenD) [(mNameO 1)])))] []))))) sSkip)
theorem r__law_pick : rdBody { G_1 with bare := true } N__law_pick d__law_pick.scope 60 d__law_pick.body = some b__law_pick := by kernel_rfl
def m__law_pick : Sem := semOf 2 2 b__law_pick
def i__law_pick : FnI := ⟨("_law_pick" : Str), ps__law_pick, [2], m__law_pick⟩
theorem h__law_pick_2 : Shp d__law_pick ps__law_pick 2 := ⟨by decide, fun kV doc pm an cdv ct us ws h1 h2 => match us, ws, h1, h2 with | [a0, a1], [], _, _ => by kernel_rfl⟩
def G_2 : Gt := { G_1 with fs := i__law_pick :: i_come_along :: i_is_number :: G_1.fs, mks := G_1.mks }
theorem ft_2 (F : Facts asks K) (inK : K.In base) (ns : base.Ns mainGlobals mg) : Ft G_2 6 P w K mg base := by
  have t := ft_1 (w := w) F inK ns
  have z := t.mono (k := 6) (by decide)
  have z := z.fn (p := i_is_number) (def_fact F inK ns (t.flav false) (List.mem_of_getElem? (i := 2) rfl) rfl rfl rfl (List.mem_of_getElem? (i := 9) rfl) (by kernel_rfl) r_is_number (all_one h_is_number_1 all_nil))
  have z := z.fn (p := i_come_along) (def_fact F inK ns (t.flav false) (List.mem_of_getElem? (i := 14) rfl) rfl rfl rfl (List.mem_of_getElem? (i := 20) rfl) (by kernel_rfl) r_come_along (all_one h_come_along_3 all_nil))
  have z := z.fn (p := i__law_pick) (def_fact F inK ns (t.flav true) (List.mem_of_getElem? (i := 24) rfl) rfl rfl rfl (List.mem_of_getElem? (i := 30) rfl) (by kernel_rfl) r__law_pick (all_one h__law_pick_2 all_nil))
  exact z
def N_is_below : List Str := [("value" : Str), ("many" : Str)]
def ps_is_below : List Str := [("value" : Str), ("many" : Str)]
def b_is_below : Fs := (sSeq (sRet (mAndV (mCallX m_is_number [(mNameO 0)] []) (m2 ltD (mNameO 0) (mNameO 1)))) sSkip)
theorem r_is_below : rdBody { G_2 with bare := false } N_is_below d_is_below.scope 60 d_is_below.body = some b_is_below := by kernel_rfl
def m_is_below : Sem := semOf 2 2 b_is_below
def i_is_below : FnI := ⟨("is_below" : Str), ps_is_below, [2], m_is_below⟩
theorem h_is_below_2 : Shp d_is_below ps_is_below 2 := ⟨by decide, fun kV doc pm an cdv ct us ws h1 h2 => match us, ws, h1, h2 with | [a0, a1], [], _, _ => by kernel_rfl⟩
def N_need_sizes : List Str := [("many" : Str), ("places" : Str)]
def ps_need_sizes : List Str := [("many" : Str), ("places" : Str)]
def b_need_sizes : Fs := (sSeq (sIf (mOr (mNot (mT (mO (mV (mCallX m_is_number [(mNameO 0)] []))))) (mNot (mB (mCh leD leD (mO (mC (.int 2))) (mNameO 0) (mO (mC (.int 9))))))) (sSeq (sRaise ("InvalidSize" : Str) ("word" : Str) (mC (.str ("many" : Str)))) sSkip) sSkip) (sSeq (sIf (mOr (mNot (mT (mO (mV (mCallX m_is_number [(mNameO 1)] []))))) (mNot (mB (mCh leD ltD (mO (mC (.int 1))) (mNameO 1) (mNameO 0))))) (sSeq (sRaise ("InvalidSize" : Str) ("word" : Str) (mC (.str ("places" : Str)))) sSkip) sSkip) sSkip))
theorem r_need_sizes : rdBody { G_2 with bare := false } N_need_sizes d_need_sizes.scope 60 d_need_sizes.body = some b_need_sizes := by kernel_rfl
def m_need_sizes : Sem := semOf 2 2 b_need_sizes
def i_need_sizes : FnI := ⟨("need_sizes" : Str), ps_need_sizes, [2], m_need_sizes⟩
theorem h_need_sizes_2 : Shp d_need_sizes ps_need_sizes 2 := ⟨by decide, fun kV doc pm an cdv ct us ws h1 h2 => match us, ws, h1, h2 with | [a0, a1], [], _, _ => by kernel_rfl⟩
def G_3 : Gt := { G_2 with fs := i_need_sizes :: i_is_below :: G_2.fs, mks := G_2.mks }
theorem ft_3 (F : Facts asks K) (inK : K.In base) (ns : base.Ns mainGlobals mg) : Ft G_3 9 P w K mg base := by
  have t := ft_2 (w := w) F inK ns
  have z := t.mono (k := 9) (by decide)
  have z := z.fn (p := i_is_below) (def_fact F inK ns (t.flav false) (List.mem_of_getElem? (i := 3) rfl) rfl rfl rfl (List.mem_of_getElem? (i := 10) rfl) (by kernel_rfl) r_is_below (all_one h_is_below_2 all_nil))
  have z := z.fn (p := i_need_sizes) (def_fact F inK ns (t.flav false) (List.mem_of_getElem? (i := 9) rfl) rfl rfl rfl (List.mem_of_getElem? (i := 16) rfl) (by kernel_rfl) r_need_sizes (all_one h_need_sizes_2 all_nil))
  exact z
def N_is_permutation : List Str := [("value" : Str), ("many" : Str), ("one" : Str)]
def ps_is_permutation : List Str := [("value" : Str), ("many" : Str)]
def c_is_permutation_1 : Fx D := (mV (mCallX m_is_below [(mNameO 2), (mNameO 1)] []))
def b_is_permutation : Fs := (sSeq (sIf (mOr (mNot (mT (mO (mV (mCallX m_is_sequence [(mNameO 0)] []))))) (mOr (mB (m2 neE (mO (mV (mN (ap1 lenD) [(mNameO 0)]))) (mNameO 1))) (mNot (mT (mO (mV (mN (ap1 allD) [(mO (mV (mLc [2] (.nm 2) (mIt (mNameV 0)) mYes c_is_permutation_1)))]))))))) (sSeq (sRet (mS (mC (.bl false)))) sSkip) sSkip) (sSeq (sRet (m2 eqE (mO (mV (mN (ap1 sortD) [(mNameO 0)]))) (mO (mV (mLstRg (mRgB none (mNameO 1))))))) sSkip))
theorem r_is_permutation : rdBody { G_3 with bare := false } N_is_permutation d_is_permutation.scope 60 d_is_permutation.body = some b_is_permutation := by kernel_rfl
def m_is_permutation : Sem := semOf 2 3 b_is_permutation
def i_is_permutation : FnI := ⟨("is_permutation" : Str), ps_is_permutation, [2], m_is_permutation⟩
theorem h_is_permutation_2 : Shp d_is_permutation ps_is_permutation 2 := ⟨by decide, fun kV doc pm an cdv ct us ws h1 h2 => match us, ws, h1, h2 with | [a0, a1], [], _, _ => by kernel_rfl⟩
def N_is_signs : List Str := [("value" : Str), ("one" : Str)]
def ps_is_signs : List Str := [("value" : Str)]
def c_is_signs_1 : Fx D := (mV (mCallX m_is_below [(mNameO 1), (mO (mC (.int 2)))] []))
def b_is_signs : Fs := (sSeq (sRet (mAndV (mCallX m_is_sequence [(mNameO 0)] []) (mN (ap1 allD) [(mO (mV (mLc [1] (.nm 1) (mIt (mNameV 0)) mYes c_is_signs_1)))]))) sSkip)
theorem r_is_signs : rdBody { G_3 with bare := false } N_is_signs d_is_signs.scope 60 d_is_signs.body = some b_is_signs := by kernel_rfl
def m_is_signs : Sem := semOf 1 2 b_is_signs
def i_is_signs : FnI := ⟨("is_signs" : Str), ps_is_signs, [1], m_is_signs⟩
theorem h_is_signs_1 : Shp d_is_signs ps_is_signs 1 := ⟨by decide, fun kV doc pm an cdv ct us ws h1 h2 => match us, ws, h1, h2 with | [a0], [], _, _ => by kernel_rfl⟩
def N_Book___init__ : List Str := [("self" : Str), ("many" : Str), ("places" : Str), ("goers" : Str), ("lots" : Str), ("at" : Str), ("lot" : Str), ("goer" : Str)]
def ps_Book___init__ : List Str := [("self" : Str), ("many" : Str), ("places" : Str), ("goers" : Str)]
def l_Book___init___1 : Fs := (sSeq (sIf (mOr (mNot (mT (mO (mV (mCallX m_is_below [(mNameO 7), (mNameO 1)] []))))) (mB (m2 (inOp true) (mNameO 7) (mNameO 6)))) (sSeq (sRaise ("InvalidBook" : Str) ("at" : Str) (mNameV 5)) sSkip) sSkip) sSkip)
def b_Book___init__ : Fs := (sSeq (sDrop (mCallX m_need_sizes [(mNameO 1), (mNameO 2)] [])) (sSeq (sSet 4 (mCallX m_rising_rows [(mNameO 1), (mO (mV (m2 addE (mNameO 2) (mO (mC (.int 1))))))] [])) (sSeq (sIf (mOr (mNot (mT (mO (mV (mCallX m_is_sequence [(mNameO 3)] []))))) (mB (m2 neE (mO (mV (mN (ap1 lenD) [(mNameO 3)]))) (mO (mV (mN (ap1 lenD) [(mNameO 4)])))))) (sSeq (sRaise ("InvalidBook" : Str) ("at" : Str) (mV (m1 negD (mO (mC (.int 1)))))) sSkip) sSkip) (sSeq (sFor (.tp [(.nm 5), (.tp [(.nm 6), (.nm 7)])]) (mEz (mNameV 4) (mNameV 3)) l_Book___init___1) (sSeq (sFldSets G_0.cs [(0, ("many" : Str)), (0, ("places" : Str)), (0, ("goers" : Str))] (mTup [(mNameV 1), (mNameV 2), (mV (mN (ap1 (tupD false)) [(mNameO 3)]))])) (sSeq (sFldSet G_0.cs 0 ("by_lot" : Str) (mDz (mNameV 4) (mV (m1 (fldOp G_0.cs ("goers" : Str)) (mNameO 0))))) sSkip))))))
theorem r_Book___init__ : rdBody { G_3 with bare := false } N_Book___init__ d_Book___init__.scope 60 d_Book___init__.body = some b_Book___init__ := by kernel_rfl
def m_Book___init__ : Sem := semOf 4 8 b_Book___init__
def i_Book___init__ : FnI := ⟨("Book" : Str), ps_Book___init__, [4], m_Book___init__⟩
theorem h_Book___init___4 : Shp d_Book___init__ ps_Book___init__ 4 := ⟨by decide, fun kV doc pm an cdv ct us ws h1 h2 => match us, ws, h1, h2 with | [a0, a1, a2, a3], [], _, _ => by kernel_rfl⟩
def N_need_row : List Str := [("book" : Str), ("value" : Str), ("at" : Str), ("thing" : Str)]
def ps_need_row : List Str := [("book" : Str), ("value" : Str)]
def l_need_row_1 : Fs := (sSeq (sIf (mNot (mT (mO (mV (mCallX m_is_below [(mNameO 3), (mO (mV (m1 (fldOp G_0.cs ("many" : Str)) (mNameO 0))))] []))))) (sSeq (sRaise ("InvalidRow" : Str) ("at" : Str) (mNameV 2)) sSkip) sSkip) sSkip)
def b_need_row : Fs := (sSeq (sDrop (mCallX m_need_book [(mNameO 0)] [])) (sSeq (sIf (mNot (mT (mO (mV (mCallX m_is_sequence [(mNameO 1)] []))))) (sSeq (sRaise ("InvalidRow" : Str) ("at" : Str) (mV (m1 negD (mO (mC (.int 1)))))) sSkip) sSkip) (sSeq (sFor (.tp [(.nm 2), (.nm 3)]) (mEnum (mNameV 1)) l_need_row_1) (sSeq (sRet (mN (ap1 (tupD false)) [(mNameO 1)])) sSkip))))
theorem r_need_row : rdBody { G_3 with bare := false } N_need_row d_need_row.scope 60 d_need_row.body = some b_need_row := by kernel_rfl
def m_need_row : Sem := semOf 2 4 b_need_row
def i_need_row : FnI := ⟨("need_row" : Str), ps_need_row, [2], m_need_row⟩
theorem h_need_row_2 : Shp d_need_row ps_need_row 2 := ⟨by decide, fun kV doc pm an cdv ct us ws h1 h2 => match us, ws, h1, h2 with | [a0, a1], [], _, _ => by kernel_rfl⟩
def G_4 : Gt := { G_3 with fs := i_need_row :: i_is_signs :: i_is_permutation :: G_3.fs, mks := i_Book___init__ :: G_3.mks }
theorem ft_4 (F : Facts asks K) (inK : K.In base) (ns : base.Ns mainGlobals mg) : Ft G_4 12 P w K mg base := by
  have t := ft_3 (w := w) F inK ns
  have z := t.mono (k := 12) (by decide)
  have z := z.fn (p := i_is_permutation) (def_fact F inK ns (t.flav false) (List.mem_of_getElem? (i := 5) rfl) rfl rfl rfl (List.mem_of_getElem? (i := 12) rfl) (by kernel_rfl) r_is_permutation (all_one h_is_permutation_2 all_nil))
  have z := z.fn (p := i_is_signs) (def_fact F inK ns (t.flav false) (List.mem_of_getElem? (i := 6) rfl) rfl rfl rfl (List.mem_of_getElem? (i := 13) rfl) (by kernel_rfl) r_is_signs (all_one h_is_signs_1 all_nil))
  have z := z.fn (p := i_need_row) (def_fact F inK ns (t.flav false) (List.mem_of_getElem? (i := 13) rfl) rfl rfl rfl (List.mem_of_getElem? (i := 19) rfl) (by kernel_rfl) r_need_row (all_one h_need_row_2 all_nil))
  have z := z.mk1 (p := i_Book___init__) (make_fact F inK ns (t.flav false) (List.mem_of_getElem? (i := 10) rfl) rfl rfl rfl (List.mem_of_getElem? (i := 17) rfl) (List.mem_of_getElem? (i := 0) rfl) (by kernel_rfl) r_Book___init__ (all_one ⟨by decide, h_Book___init___4⟩ all_nil))
  exact z
def N_end_list : List Str := [("book" : Str), ("row" : Str)]
def ps_end_list : List Str := [("book" : Str), ("row" : Str)]
def b_end_list : Fs := (sSeq (sSet 1 (mCallX m_need_row [(mNameO 0), (mNameO 1)] [])) (sSeq (sRet (mCallX m_come_along [(mNameO 0), (mO (mTup [])), (mNameO 1)] [])) sSkip))
theorem r_end_list : rdBody { G_4 with bare := false } N_end_list d_end_list.scope 60 d_end_list.body = some b_end_list := by kernel_rfl
def m_end_list : Sem := semOf 2 2 b_end_list
def i_end_list : FnI := ⟨("end_list" : Str), ps_end_list, [2], m_end_list⟩
theorem h_end_list_2 : Shp d_end_list ps_end_list 2 := ⟨by decide, fun kV doc pm an cdv ct us ws h1 h2 => match us, ws, h1, h2 with | [a0, a1], [], _, _ => by kernel_rfl⟩
def N_need_tastes : List Str := [("value" : Str), ("many" : Str), ("at" : Str), ("ranking" : Str)]
def ps_need_tastes : List Str := [("value" : Str)]
def l_need_tastes_1 : Fs := (sSeq (sIf (mOr (mNot (mB (mCh leD leD (mO (mC (.int 2))) (mNameO 1) (mO (mC (.int 9)))))) (mOr (mB (m2 geD (mO (mV (m2 addE (mNameO 2) (mO (mC (.int 1)))))) (mNameO 1))) (mNot (mT (mO (mV (mCallX m_is_permutation [(mNameO 3), (mNameO 1)] []))))))) (sSeq (sRaise ("InvalidTastes" : Str) ("at" : Str) (mNameV 2)) sSkip) sSkip) sSkip)
def c_need_tastes_1 : Fx D := (mV (mN (ap1 (tupD false)) [(mNameO 3)]))
def b_need_tastes : Fs := (sSeq (sIf (mOr (mNot (mT (mO (mV (mCallX m_is_sequence [(mNameO 0)] []))))) (mB (m2 eqE (mO (mV (mN (ap1 lenD) [(mNameO 0)]))) (mO (mC (.int 0)))))) (sSeq (sRaise ("InvalidTastes" : Str) ("at" : Str) (mV (m1 negD (mO (mC (.int 1)))))) sSkip) sSkip) (sSeq (sSet 1 (mIf (mT (mO (mV (mCallX m_is_sequence [(mO (mV (m2 ixD (mNameO 0) (mO (mC (.int 0))))))] [])))) (mN (ap1 lenD) [(mO (mV (m2 ixD (mNameO 0) (mO (mC (.int 0))))))]) (mS (mC (.int 0))))) (sSeq (sFor (.tp [(.nm 2), (.nm 3)]) (mEnum (mNameV 0)) l_need_tastes_1) (sSeq (sRet (mN (ap1 (tupD false)) [(mO (mV (mLc [3] (.nm 3) (mIt (mNameV 0)) mYes c_need_tastes_1)))])) sSkip))))
theorem r_need_tastes : rdBody { G_4 with bare := false } N_need_tastes d_need_tastes.scope 60 d_need_tastes.body = some b_need_tastes := by kernel_rfl
def m_need_tastes : Sem := semOf 1 4 b_need_tastes
def i_need_tastes : FnI := ⟨("need_tastes" : Str), ps_need_tastes, [1], m_need_tastes⟩
theorem h_need_tastes_1 : Shp d_need_tastes ps_need_tastes 1 := ⟨by decide, fun kV doc pm an cdv ct us ws h1 h2 => match us, ws, h1, h2 with | [a0], [], _, _ => by kernel_rfl⟩
def N_need_word : List Str := [("value" : Str), ("at" : Str)]
def ps_need_word : List Str := [("value" : Str), ("at" : Str)]
def b_need_word : Fs := (sSeq (sIf (mOr (mNot (mT (mO (mV (mCallX m_is_signs [(mNameO 0)] []))))) (mB (m2 eqE (mO (mV (mN (ap1 lenD) [(mNameO 0)]))) (mO (mC (.int 0)))))) (sSeq (sRaise ("InvalidWord" : Str) ("at" : Str) (mNameV 1)) sSkip) sSkip) (sSeq (sRet (mN (ap1 (tupD false)) [(mNameO 0)])) sSkip))
theorem r_need_word : rdBody { G_4 with bare := false } N_need_word d_need_word.scope 60 d_need_word.body = some b_need_word := by kernel_rfl
def m_need_word : Sem := semOf 2 2 b_need_word
def i_need_word : FnI := ⟨("need_word" : Str), ps_need_word, [2], m_need_word⟩
theorem h_need_word_2 : Shp d_need_word ps_need_word 2 := ⟨by decide, fun kV doc pm an cdv ct us ws h1 h2 => match us, ws, h1, h2 with | [a0, a1], [], _, _ => by kernel_rfl⟩
def G_5 : Gt := { G_4 with fs := i_need_word :: i_need_tastes :: i_end_list :: G_4.fs, mks := G_4.mks }
theorem ft_5 (F : Facts asks K) (inK : K.In base) (ns : base.Ns mainGlobals mg) : Ft G_5 15 P w K mg base := by
  have t := ft_4 (w := w) F inK ns
  have z := t.mono (k := 15) (by decide)
  have z := z.fn (p := i_end_list) (def_fact F inK ns (t.flav false) (List.mem_of_getElem? (i := 15) rfl) rfl rfl rfl (List.mem_of_getElem? (i := 21) rfl) (by kernel_rfl) r_end_list (all_one h_end_list_2 all_nil))
  have z := z.fn (p := i_need_tastes) (def_fact F inK ns (t.flav false) (List.mem_of_getElem? (i := 16) rfl) rfl rfl rfl (List.mem_of_getElem? (i := 22) rfl) (by kernel_rfl) r_need_tastes (all_one h_need_tastes_1 all_nil))
  have z := z.fn (p := i_need_word) (def_fact F inK ns (t.flav false) (List.mem_of_getElem? (i := 19) rfl) rfl rfl rfl (List.mem_of_getElem? (i := 25) rfl) (by kernel_rfl) r_need_word (all_one h_need_word_2 all_nil))
  exact z
def N_tastes_book : List Str := [("tastes" : Str), ("lot" : Str), ("many" : Str), ("places" : Str), ("goers" : Str), ("picked" : Str), ("thing" : Str)]
def ps_tastes_book : List Str := [("tastes" : Str)]
def q_tastes_book_1 : Fx Bool := (mB (m2 (inOp true) (mNameO 6) (mNameO 5)))
def c_tastes_book_1 : Fx D := (mNameV 6)
def l_tastes_book_1 : Fs := (sSeq (sSet 5 (mCallX m_picked_things [(mNameO 0), (mNameO 1)] [])) (sSeq (sDrop (mS (mMt 4 opExtend [(mV (mLc [6] (.nm 6) (mIt (mNameV 1)) q_tastes_book_1 c_tastes_book_1))]))) sSkip))
def b_tastes_book : Fs := (sSeq (sSet 0 (mCallX m_need_tastes [(mNameO 0)] [])) (sSeq (sPar [2, 3, 4] [(mN (ap1 lenD) [(mO (mV (m2 ixD (mNameO 0) (mO (mC (.int 0))))))]), (mN (ap1 lenD) [(mNameO 0)]), (mLst [])]) (sSeq (sFor (.nm 1) (mIt (mV (mCallX m_rising_rows [(mNameO 2), (mO (mV (m2 addE (mNameO 3) (mO (mC (.int 1))))))] []))) l_tastes_book_1) (sSeq (sRet (mMake ("Book" : Str) m_Book___init__ [(mNameV 2), (mNameV 3), (mNameV 4)] [])) sSkip))))
theorem r_tastes_book : rdBody { G_5 with bare := false } N_tastes_book d_tastes_book.scope 60 d_tastes_book.body = some b_tastes_book := by kernel_rfl
def m_tastes_book : Sem := semOf 1 7 b_tastes_book
def i_tastes_book : FnI := ⟨("tastes_book" : Str), ps_tastes_book, [1], m_tastes_book⟩
theorem h_tastes_book_1 : Shp d_tastes_book ps_tastes_book 1 := ⟨by decide, fun kV doc pm an cdv ct us ws h1 h2 => match us, ws, h1, h2 with | [a0], [], _, _ => by kernel_rfl⟩
def N_kind_fewer : List Str := [("one" : Str), ("other" : Str), ("spot" : Str)]
def ps_kind_fewer : List Str := [("one" : Str), ("other" : Str)]
def l_kind_fewer_1 : Fs := (sSeq (sIf (mB (m2 ltD (mO (mV (mN (ap1 sumD) [(mO (mV (mSl slE (mNameO 0) (some (mNameO 2)) none)))]))) (mO (mV (mN (ap1 sumD) [(mO (mV (mSl slE (mNameO 1) (some (mNameO 2)) none)))]))))) (sSeq (sRet (mS (mTup [(mNameV 2), (mV (m2 addE (mO (mV (m2 addE (mO (mV (m2 mulD (mO (mTup [(mC (.int 1))])) (mNameO 2)))) (mO (mV (m2 mulD (mO (mTup [(mC (.int 0))])) (mO (mV (mN (ap1 lenD) [(mNameO 0)]))))))))) (mO (mV (m2 mulD (mO (mTup [(mC (.int 1))])) (mO (mV (mN (ap1 lenD) [(mNameO 0)]))))))))]))) sSkip) sSkip) sSkip)
def b_kind_fewer : Fs := (sSeq (sPar [0, 1] [(mCallX m_need_word [(mNameO 0), (mO (mC (.int 0)))] []), (mCallX m_need_word [(mNameO 1), (mO (mC (.int 1)))] [])]) (sSeq (sIf (mB (m2 neE (mO (mV (mN (ap1 lenD) [(mNameO 0)]))) (mO (mV (mN (ap1 lenD) [(mNameO 1)]))))) (sSeq (sRaise ("InvalidWord" : Str) ("at" : Str) (mC (.int 1))) sSkip) sSkip) (sSeq (sFor (.nm 2) (mR1 (mO (mV (m2 addE (mO (mV (mN (ap1 lenD) [(mNameO 0)]))) (mO (mC (.int 1))))))) l_kind_fewer_1) (sSeq (sRet (mS (mC .non))) sSkip))))
theorem r_kind_fewer : rdBody { G_5 with bare := false } N_kind_fewer d_kind_fewer.scope 60 d_kind_fewer.body = some b_kind_fewer := by kernel_rfl
def m_kind_fewer : Sem := semOf 2 3 b_kind_fewer
def i_kind_fewer : FnI := ⟨("kind_fewer" : Str), ps_kind_fewer, [0, 2], m_kind_fewer⟩
theorem h_kind_fewer_0 : Shp d_kind_fewer ps_kind_fewer 0 := ⟨by decide, fun kV doc pm an cdv ct us ws h1 h2 => match us, ws, h1, h2 with | [], [c0, c1], _, _ => by kernel_rfl⟩
theorem h_kind_fewer_2 : Shp d_kind_fewer ps_kind_fewer 2 := ⟨by decide, fun kV doc pm an cdv ct us ws h1 h2 => match us, ws, h1, h2 with | [a0, a1], [], _, _ => by kernel_rfl⟩
def G_6 : Gt := { G_5 with fs := i_kind_fewer :: i_tastes_book :: G_5.fs, mks := G_5.mks }
theorem ft_6 (F : Facts asks K) (inK : K.In base) (ns : base.Ns mainGlobals mg) : Ft G_6 18 P w K mg base := by
  have t := ft_5 (w := w) F inK ns
  have z := t.mono (k := 18) (by decide)
  have z := z.fn (p := i_tastes_book) (def_fact F inK ns (t.flav false) (List.mem_of_getElem? (i := 18) rfl) rfl rfl rfl (List.mem_of_getElem? (i := 24) rfl) (by kernel_rfl) r_tastes_book (all_one h_tastes_book_1 all_nil))
  have z := z.fn (p := i_kind_fewer) (def_fact F inK ns (t.flav false) (List.mem_of_getElem? (i := 21) rfl) rfl rfl rfl (List.mem_of_getElem? (i := 27) rfl) (by kernel_rfl) r_kind_fewer (all_one h_kind_fewer_0 (all_one h_kind_fewer_2 all_nil)))
  exact z
def N_word_book : List Str := [("marks" : Str), ("word" : Str), ("plain" : Str), ("marked" : Str), ("many" : Str), ("sign" : Str), ("thing" : Str)]
def ps_word_book : List Str := [("marks" : Str), ("word" : Str)]
def q_word_book_1 : Fx Bool := (mB (m2 eqE (mO (mV (m2 ixD (mNameO 0) (mNameO 6)))) (mO (mC (.int 1)))))
def c_word_book_1 : Fx D := (mNameV 6)
def q_word_book_2 : Fx Bool := (mB (m2 eqE (mO (mV (m2 ixD (mNameO 0) (mNameO 6)))) (mO (mC (.int 0)))))
def c_word_book_2 : Fx D := (mNameV 6)
def c_word_book_3 : Fx D := (mV (mIf (mB (m2 eqE (mNameO 5) (mO (mC (.int 1))))) (mS (mNameV 3)) (mS (mNameV 2))))
def b_word_book : Fs := (sSeq (sIf (mOr (mNot (mT (mO (mV (mCallX m_is_signs [(mNameO 0)] []))))) (mNot (mB (mCh leD leD (mO (mC (.int 2))) (mO (mV (mN (ap1 lenD) [(mNameO 0)]))) (mO (mC (.int 9))))))) (sSeq (sRaise ("InvalidMarks" : Str) ("at" : Str) (mV (m1 negD (mO (mC (.int 1)))))) sSkip) sSkip) (sSeq (sPar [1, 4] [(mCallX m_need_word [(mNameO 1), (mO (mV (m1 negD (mO (mC (.int 1))))))] []), (mN (ap1 lenD) [(mNameO 0)])]) (sSeq (sIf (mB (m2 geD (mO (mV (mN (ap1 lenD) [(mNameO 1)]))) (mNameO 4))) (sSeq (sRaise ("InvalidWord" : Str) ("at" : Str) (mV (m1 negD (mO (mC (.int 1)))))) sSkip) sSkip) (sSeq (sSet 2 (mTupRg (mRgB none (mNameO 4)))) (sSeq (sSet 3 (mN (ap1 (tupD false)) [(mO (mV (m2 addE (mO (mV (mLc [6] (.nm 6) (mIt (mNameV 2)) q_word_book_1 c_word_book_1))) (mO (mV (mLc [6] (.nm 6) (mIt (mNameV 2)) q_word_book_2 c_word_book_2))))))])) (sSeq (sRet (mCallX m_tastes_book [(mO (mV (mLc [5] (.nm 5) (mIt (mNameV 1)) mYes c_word_book_3)))] [])) sSkip))))))
theorem r_word_book : rdBody { G_6 with bare := false } N_word_book d_word_book.scope 60 d_word_book.body = some b_word_book := by kernel_rfl
def m_word_book : Sem := semOf 2 7 b_word_book
def i_word_book : FnI := ⟨("word_book" : Str), ps_word_book, [2], m_word_book⟩
theorem h_word_book_2 : Shp d_word_book ps_word_book 2 := ⟨by decide, fun kV doc pm an cdv ct us ws h1 h2 => match us, ws, h1, h2 with | [a0, a1], [], _, _ => by kernel_rfl⟩
def N__law_error : List Str := [("_law_one" : Str), ("_law_other" : Str), ("e" : Str)]
def ps__law_error : List Str := [("_law_one" : Str), ("_law_other" : Str)]
def b__law_error : Fs := (sSeq (sTry G_0.ex G_0.xf (sSeq (sDrop (mCallX m_kind_fewer [] [(mNameO 0), (mNameO 1)])) sSkip) [(("InvalidWord" : Str), some 2, .fld ("at" : Str))]) (sSeq (sRet (mS (mC .non))) sSkip))
theorem r__law_error : rdBody { G_6 with bare := true } N__law_error d__law_error.scope 60 d__law_error.body = some b__law_error := by kernel_rfl
def m__law_error : Sem := semOf 2 3 b__law_error
def i__law_error : FnI := ⟨("_law_error" : Str), ps__law_error, [2], m__law_error⟩
theorem h__law_error_2 : Shp d__law_error ps__law_error 2 := ⟨by decide, fun kV doc pm an cdv ct us ws h1 h2 => match us, ws, h1, h2 with | [a0, a1], [], _, _ => by kernel_rfl⟩
def N__law_all_right : List Str := [("_law_one" : Str), ("_law_other" : Str), ("_law_many" : Str), ("_law_told" : Str), ("_law_unlike" : Str), ("_law_marks" : Str), ("_law_low" : Str), ("_law_high" : Str)]
def ps__law_all_right : List Str := [("_law_one" : Str), ("_law_other" : Str)]
def l__law_all_right_2 : Fs := (sSeq (sPar [6, 7] [(mCallX m__law_stays [(mNameO 0), (mNameO 5)] []), (mCallX m__law_stays [(mNameO 1), (mNameO 5)] [])]) (sSeq (sSet 4 (mOrV (mS (mNameV 4)) (m2 neE (mNameO 6) (mNameO 7)))) (sSeq (sIf (mOr (mAnd (mB (m2 ltD (mNameO 6) (mNameO 7))) (mB (m2 isD (mO (mV (m2 ixD (mNameO 3) (mO (mC (.int 0)))))) (mO (mC .non))))) (mAnd (mB (m2 ltD (mNameO 7) (mNameO 6))) (mB (m2 isD (mO (mV (m2 ixD (mNameO 3) (mO (mC (.int 1)))))) (mO (mC .non)))))) (sSeq (sRet (mS (mC (.bl false)))) sSkip) sSkip) sSkip)))
def l__law_all_right_1 : Fs := (sSeq (sFor (.nm 5) (mIt (mV (mCallX m__law_words [(mNameO 2)] []))) l__law_all_right_2) sSkip)
def b__law_all_right : Fs := (sSeq (sPar [3, 4] [(mLst [(mV (mCallX m_kind_fewer [(mNameO 0), (mNameO 1)] [])), (mV (mCallX m_kind_fewer [(mNameO 1), (mNameO 0)] []))]), (mS (mC (.bl false)))]) (sSeq (sFor (.nm 2) (mR1 (mO (mC (.int 7)))) l__law_all_right_1) (sSeq (sRet (m2 eqE (mO (mV (mOrV (mS (mNameV 4)) (m2 neE (mNameO 3) (mO (mV (mLst [(mC .non), (mC .non)]))))))) (mO (mV (m2 neE (mNameO 0) (mNameO 1)))))) sSkip)))
theorem r__law_all_right : rdBody { G_6 with bare := true } N__law_all_right d__law_all_right.scope 60 d__law_all_right.body = some b__law_all_right := by kernel_rfl
def m__law_all_right : Sem := semOf 2 8 b__law_all_right
def i__law_all_right : FnI := ⟨("_law_all_right" : Str), ps__law_all_right, [2], m__law_all_right⟩
theorem h__law_all_right_2 : Shp d__law_all_right ps__law_all_right 2 := ⟨by decide, fun kV doc pm an cdv ct us ws h1 h2 => match us, ws, h1, h2 with | [a0, a1], [], _, _ => by kernel_rfl⟩
def G_7 : Gt := { G_6 with fs := i__law_all_right :: i__law_error :: i_word_book :: G_6.fs, mks := G_6.mks }
theorem ft_7 (F : Facts asks K) (inK : K.In base) (ns : base.Ns mainGlobals mg) : Ft G_7 21 P w K mg base := by
  have t := ft_6 (w := w) F inK ns
  have z := t.mono (k := 21) (by decide)
  have z := z.fn (p := i_word_book) (def_fact F inK ns (t.flav false) (List.mem_of_getElem? (i := 20) rfl) rfl rfl rfl (List.mem_of_getElem? (i := 26) rfl) (by kernel_rfl) r_word_book (all_one h_word_book_2 all_nil))
  have z := z.fn (p := i__law_error) (def_fact F inK ns (t.flav true) (List.mem_of_getElem? (i := 28) rfl) rfl rfl rfl (List.mem_of_getElem? (i := 34) rfl) (by kernel_rfl) r__law_error (all_one h__law_error_2 all_nil))
  have z := z.fn (p := i__law_all_right) (def_fact F inK ns (t.flav true) (List.mem_of_getElem? (i := 30) rfl) rfl rfl rfl (List.mem_of_getElem? (i := 36) rfl) (by kernel_rfl) r__law_all_right (all_one h__law_all_right_2 all_nil))
  exact z
def N__law_pair_right : List Str := [("_law_one" : Str), ("_law_other" : Str), ("_law_due_here" : Str), ("_law_told" : Str), ("_law_counts" : Str), ("_law_word" : Str), ("_law_spot" : Str), ("_law_marks" : Str), ("_law_low" : Str), ("_law_high" : Str), ("_law_stays_here" : Str), ("_law_thing" : Str)]
def ps__law_pair_right : List Str := [("_law_one" : Str), ("_law_other" : Str), ("_law_due_here" : Str)]
def q__law_pair_right_1 : Fx Bool := (mB (m2 eqE (mO (mV (m2 ixD (mNameO 7) (mNameO 11)))) (mO (mC (.int 1)))))
def c__law_pair_right_1 : Fx D := (mNameV 11)
def l__law_pair_right_1 : Fs := (sSeq (sSet 10 (mCallX m_end_list [(mO (mV (mCallX m_word_book [(mNameO 7), (mNameO 5)] []))), (mO (mV (mLstRg (mRgB none (mO (mV (mN (ap1 lenD) [(mNameO 7)])))))))] [])) (sSeq (sDrop (mS (mMt 4 opAppend [(mV (mN (ap1 lenD) [(mO (mV (mLc [11] (.nm 11) (mIt (mNameV 10)) q__law_pair_right_1 c__law_pair_right_1)))]))]))) sSkip))
def b__law_pair_right : Fs := (sSeq (sSet 3 (mCallX m_kind_fewer [] [(mO (mV (mN (ap1 listD) [(mNameO 0)]))), (mNameO 1)])) (sSeq (sIf (mB (m2 neE (mO (mV (mN (ap1 reprD) [(mNameO 3)]))) (mO (mV (mN (ap1 reprD) [(mNameO 2)]))))) (sSeq (sRet (mS (mC (.bl false)))) sSkip) sSkip) (sSeq (sIf (mB (m2 isD (mNameO 3) (mO (mC .non)))) (sSeq (sRet (mS (mC (.bl true)))) sSkip) sSkip) (sSeq (sUnp (.tp [(.nm 6), (.nm 7)]) (mNameV 3)) (sSeq (sPar [8, 9] [(mCallX m__law_stays [(mNameO 0), (mNameO 7)] []), (mCallX m__law_stays [(mNameO 1), (mNameO 7)] [])]) (sSeq (sIf (mB (m2 neE (mO (mV (mLst [(mNameV 8), (mNameV 9)]))) (mO (mV (mLst [(mV (m2 addE (mNameO 6) (mO (mV (mRd true cntD (mO (mV (mSl slE (mNameO 0) (some (mNameO 6)) none))) [(mC (.int 1))]))))), (mV (m2 addE (mNameO 6) (mO (mV (mRd true cntD (mO (mV (mSl slE (mNameO 1) (some (mNameO 6)) none))) [(mC (.int 1))])))))]))))) (sSeq (sRet (mS (mC (.bl false)))) sSkip) sSkip) (sSeq (sIf (mB (m2 gtD (mO (mV (mN (ap1 lenD) [(mNameO 7)]))) (mO (mC (.int 9))))) (sSeq (sRet (m2 ltD (mNameO 8) (mNameO 9))) sSkip) sSkip) (sSeq (sSet 4 (mLst [])) (sSeq (sFor (.nm 5) (mIt (mTupB [(mNameV 0), (mNameV 1)])) l__law_pair_right_1) (sSeq (sRet (mAndV (m2 eqE (mNameO 4) (mO (mV (mLst [(mNameV 8), (mNameV 9)])))) (m2 ltD (mNameO 8) (mNameO 9)))) sSkip))))))))))
theorem r__law_pair_right : rdBody { G_7 with bare := true } N__law_pair_right d__law_pair_right.scope 60 d__law_pair_right.body = some b__law_pair_right := by kernel_rfl
def m__law_pair_right : Sem := semOf 3 12 b__law_pair_right
def i__law_pair_right : FnI := ⟨("_law_pair_right" : Str), ps__law_pair_right, [3], m__law_pair_right⟩
theorem h__law_pair_right_3 : Shp d__law_pair_right ps__law_pair_right 3 := ⟨by decide, fun kV doc pm an cdv ct us ws h1 h2 => match us, ws, h1, h2 with | [a0, a1, a2], [], _, _ => by kernel_rfl⟩
def G_8 : Gt := { G_7 with fs := i__law_pair_right :: G_7.fs, mks := G_7.mks }
theorem ft_8 (F : Facts asks K) (inK : K.In base) (ns : base.Ns mainGlobals mg) : Ft G_8 24 P w K mg base := by
  have t := ft_7 (w := w) F inK ns
  have z := t.mono (k := 24) (by decide)
  have z := z.fn (p := i__law_pair_right) (def_fact F inK ns (t.flav true) (List.mem_of_getElem? (i := 29) rfl) rfl rfl rfl (List.mem_of_getElem? (i := 35) rfl) (by kernel_rfl) r__law_pair_right (all_one h__law_pair_right_3 all_nil))
  exact z
def N_law : List Str := [("_law_script" : Str), ("_law_k" : Str), ("_law_box_here" : Str), ("_law_words_here" : Str), ("_law_many" : Str), ("_law_one" : Str), ("_law_other" : Str), ("_law_turn" : Str), ("_law_odd" : Str), ("_law_spot" : Str), ("_law_marks" : Str), ("_law_low" : Str), ("_law_high" : Str), ("_law_value" : Str), ("_law_last" : Str), ("_law_due_here" : Str)]
def ps_law : List Str := [("_law_script" : Str)]
def c_law_1 : Fx D := (mV (mCallX m__law_take [(mNameO 2), (mO (mC (.int 2)))] []))
def l_law_2 : Fs := (sSeq (sSet 9 (mCallX m__law_take [(mNameO 2), (mO (mV (m2 subD (mNameO 4) (mO (mC (.int 1))))))] [])) (sSeq (sPut2 [(6, (mNameO 9)), (6, (mO (mV (m2 addE (mNameO 9) (mO (mC (.int 1)))))))] (mTupB [(mV (mN (bestD minI minL) [(mO (mV (mSl slE (mNameO 6) (some (mNameO 9)) (some (mO (mV (m2 addE (mNameO 9) (mO (mC (.int 2))))))))))])), (mV (mN (bestD maxI maxL) [(mO (mV (mSl slE (mNameO 6) (some (mNameO 9)) (some (mO (mV (m2 addE (mNameO 9) (mO (mC (.int 2))))))))))]))])) sSkip))
def c_law_2 : Fx D := (mV (mCallX m__law_take [(mNameO 2), (mO (mC (.int 2)))] []))
def l_law_3 : Fs := (sSeq (sSet 10 (mLc [9] (.nm 9) (mR1 (mO (mV (mCallX m__law_take [(mNameO 2), (mO (mV (m2 mulD (mO (mC (.int 3))) (mNameO 4))))] [])))) mYes c_law_2)) (sSeq (sPar [11, 12] [(mCallX m__law_stays [(mNameO 5), (mNameO 10)] []), (mCallX m__law_stays [(mNameO 6), (mNameO 10)] [])]) (sSeq (sIf (mOr (mAnd (mB (m2 ltD (mNameO 11) (mNameO 12))) (mB (m2 isD (mO (mV (mCallX m_kind_fewer [(mNameO 5), (mNameO 6)] []))) (mO (mC .non))))) (mAnd (mB (m2 ltD (mNameO 12) (mNameO 11))) (mB (m2 isD (mO (mV (mCallX m_kind_fewer [(mNameO 6), (mNameO 5)] []))) (mO (mC .non)))))) (sSeq (sRet (mS (mC (.bl false)))) sSkip) sSkip) sSkip)))
def c_law_3 : Fx D := (mV (mCallX m__law_error [(mNameO 13), (mNameO 14)] []))
def c_law_4 : Fx D := (mNameV 15)
def l_law_1 : Fs := (sSeq (sSet 2 (mCallX m__law_box [(mNameO 0), (mNameO 1)] [])) (sSeq (sSet 3 (mCallX m__law_words [(mO (mV (m2 addE (mO (mC (.int 1))) (mO (mV (mCallX m__law_take [(mNameO 2), (mO (mC (.int 3)))] []))))))] [])) (sSeq (sPar [5, 6] [(mCallX m__law_pick [(mNameO 2), (mNameO 3)] []), (mCallX m__law_pick [(mNameO 2), (mNameO 3)] [])]) (sSeq (sIf (mOr (mNot (mT (mO (mV (mCallX m__law_pair_right [(mNameO 5), (mNameO 6), (mO (mV (mCallX m__law_due [(mNameO 5), (mNameO 6)] [])))] []))))) (mNot (mT (mO (mV (mCallX m__law_pair_right [(mNameO 6), (mNameO 5), (mO (mV (mCallX m__law_due [(mNameO 6), (mNameO 5)] [])))] [])))))) (sSeq (sRet (mS (mC (.bl false)))) sSkip) sSkip) (sSeq (sIf (mNot (mT (mO (mV (mCallX m__law_all_right [(mNameO 5), (mNameO 6)] []))))) (sSeq (sRet (mS (mC (.bl false)))) sSkip) sSkip) (sSeq (sSet 4 (m2 addE (mO (mC (.int 2))) (mO (mV (mCallX m__law_take [(mNameO 2), (mO (mC (.int 8)))] []))))) (sSeq (sSet 5 (mN (ap1 (tupD true)) [(mO (mV (mLc [7] (.nm 7) (mR1 (mNameO 4)) mYes c_law_1)))])) (sSeq (sSet 6 (mN (ap1 listD) [(mNameO 5)])) (sSeq (sFor (.nm 7) (mR1 (mO (mV (mCallX m__law_take [(mNameO 2), (mO (mC (.int 4)))] [])))) l_law_2) (sSeq (sIf (mB (m2 eqE (mO (mV (mCallX m__law_take [(mNameO 2), (mO (mC (.int 4)))] []))) (mO (mC (.int 0))))) (sSeq (sPut 6 (mO (mV (mCallX m__law_take [(mNameO 2), (mNameO 4)] []))) (mV (mCallX m__law_take [(mNameO 2), (mO (mC (.int 2)))] []))) sSkip) sSkip) (sSeq (sSet 6 (mN (ap1 (tupD true)) [(mNameO 6)])) (sSeq (sIf (mOr (mNot (mT (mO (mV (mCallX m__law_pair_right [(mNameO 5), (mNameO 6), (mO (mV (mCallX m__law_due [(mNameO 5), (mNameO 6)] [])))] []))))) (mNot (mT (mO (mV (mCallX m__law_pair_right [(mNameO 6), (mNameO 5), (mO (mV (mCallX m__law_due [(mNameO 6), (mNameO 5)] [])))] [])))))) (sSeq (sRet (mS (mC (.bl false)))) sSkip) sSkip) (sSeq (sFor (.nm 7) (mR1 (mO (mC (.int 12)))) l_law_3) (sSeq (sSet 8 (mLst [(mTupB [(mC .non), (mC .non), (mC (.int 0))]), (mTupB [(mTupB []), (mTupB []), (mC (.int 0))]), (mTupB [(mTupB [(mC (.int 2))]), (mTupB [(mC (.int 0))]), (mC (.int 0))]), (mTupB [(mTupB [(mC (.bl true))]), (mTupB [(mC (.int 0))]), (mC (.int 0))]), (mTupB [(mTupB [(mC (.int 0))]), (mTupB [(mC (.int 0)), (mC (.int 0))]), (mC (.int 1))]), (mTupB [(mTupB [(mC (.int 0))]), (mC .non), (mC (.int 1))]), (mTupB [(mTupB [(mC (.int 0))]), (mV (mLst [(mV (m2 subD (mO (mC (.int 0))) (mO (mC (.int 1)))))])), (mC (.int 1))])])) (sSeq (sIf (mB (m2 neE (mO (mV (mLc [13, 14, 15] (.tp [(.nm 13), (.nm 14), (.nm 15)]) (mIt (mNameV 8)) mYes c_law_3))) (mO (mV (mLc [13, 14, 15] (.tp [(.nm 13), (.nm 14), (.nm 15)]) (mIt (mNameV 8)) mYes c_law_4))))) (sSeq (sRet (mS (mC (.bl false)))) sSkip) sSkip) sSkip)))))))))))))))
def b_law : Fs := (sSeq (sFor (.nm 1) (mR1 (mO (mV (mN (bestD maxI maxL) [(mO (mC (.int 2))), (mO (mV (mN (bestD minI minL) [(mO (mC (.int 4))), (mO (mV (mN (ap1 lenD) [(mNameO 0)])))])))])))) l_law_1) (sSeq (sRet (mS (mC (.bl true)))) sSkip))
theorem r_law : rdBody { G_8 with bare := true } N_law d_law.scope 60 d_law.body = some b_law := by kernel_rfl
def m_law : Sem := semOf 1 16 b_law
def i_law : FnI := ⟨("law" : Str), ps_law, [], m_law⟩
end
/-- what the law's term is to answer -/
def Says : Prop := ∀ ns : List Int, ns.length ≤ 63 → ∃ e, m_law [.val (.scr ns)] = .ok (.val (.bl true)) e
theorem law_g {w : World} {K : Fg} {mg : Str → Option Value} {fd : FuncData} (F : Facts asks K) (D : FunD K d_law.name d_law.qual d_law.params d_law.body d_law.scope [] [] (He.ga K "law") fd) (base : Heap) (inK : K.In base) (ns : base.Ns mainGlobals mg) :
    FnG P w K mg base 27 (He.ga K "law") fd ps_law m_law := rd_def D (fnSc_ok (by kernel_rfl)) ((ft_8 F inK ns).flav true) r_law
end HD
set_option Elab.async false
set_option linter.all false
set_option maxRecDepth 100000
set_option maxHeartbeats 1000000
namespace HD
open PySem PySem.Spec PyProof.Rows L2 Mn
theorem t_seq {d : D} {w : List Int} (h : Sq d w) : m_is_sequence [.val d] = .ok (.val (.bl true)) [.val d] := by cases h <;> kernel_rfl
theorem t_below {x : Int} (h : x = 0 ∨ x = 1) : m_is_below [.val (.int x), .val (.int 2)] = .ok (.val (.bl true)) [.val (.int x), .val (.int 2)] := by rcases h with rfl | rfl <;> kernel_rfl
theorem t_signs {d : D} {w : List Int} (h : Sq d w) (b : Pu.Bits w) (l : w.length < lim) : m_is_signs [.val d] = .ok (.val (.bl true)) [.val d] := by
  obtain ⟨e', h1, s, h2⟩ := lc_all (t := .nm 1) (tt := mYes) (te := c_is_signs_1) (vs := [1]) (Iv := fun en => ∃ s, en = [.val d, s]) (f := D.int) (g := fun _ => .bl true) (ds := w)
    (fun x hx en ⟨s, he⟩ => by
      subst he
      refine ⟨[.val d, .val (.int x)], _, [.val d, .val (.int x)], rfl, rfl, ?_, ⟨_, rfl⟩⟩
      rcases b x hx with rfl | rfl <;> kernel_rfl) [] [.val d, .un] ⟨_, rfl⟩
  subst h2
  refine sem_rt rfl (seq_rt (ret_rt (e := [.val d, .un]) ?_))
  show mAndV _ _ [Slot.val d, .un] = _
  simp only [ap_seq, ap_skip, ap_ret, ap_retN, ap_drop, ap_if, ap_set, ap_par, ap_for, ap_unp, ap_raise, ap_bind, ap_retf, ap_V, ap_O, ap_S, ap_C, ap_nameO, ap_nameV, ap_2, ap_fin2, ap_N, ap_finN, ap_Os0, ap_Os1, ap_Vs0, ap_Vs1, ap_Rs0, ap_Rs1, ap_tup, ap_tupB, ap_lst, ap_T, ap_B, ap_not, ap_and, ap_or, ap_andV, ap_orV, ap_notV, ap_ife, ap_1, ap_ch, ap_sl, ap_P0, ap_P1, ap_callX, ap_callE, ap_R1, ap_It, ap_Mt, ap_Rd, ap_put, ap_putAt, ap_LstRg, ap_Rg0, getD, getDs, lent, okAll, setAll, argsOf, argOf, slotsO, nodupB, backE, ap1, fin, pickA, List.getElem?_cons_zero, List.getElem?_cons_succ, List.set_cons_zero, List.set_cons_succ, List.nil_append, List.cons_append, List.mem_cons, List.not_mem_nil, or_false, Nat.reduceEqDiff, not_false_eq_true, decide_true, Bool.and_true, Bool.true_and, Bool.not_false, Bool.not_true, reduceCtorEq, reduceIte, t_seq h]
  have c : (noneLent [Slot.val d, .un] [1] && decide ((ids w).length < lim)) = true := by
    rw [ids_len, decide_eq_true l]
    rfl
  have it : mIt (mNameV 0) [.val d, .un] = .ok (ids w) [.val d, .un] := by
    simp only [ap_seq, ap_skip, ap_ret, ap_retN, ap_drop, ap_if, ap_set, ap_par, ap_for, ap_unp, ap_raise, ap_bind, ap_retf, ap_V, ap_O, ap_S, ap_C, ap_nameO, ap_nameV, ap_2, ap_fin2, ap_N, ap_finN, ap_Os0, ap_Os1, ap_Vs0, ap_Vs1, ap_Rs0, ap_Rs1, ap_tup, ap_tupB, ap_lst, ap_T, ap_B, ap_not, ap_and, ap_or, ap_andV, ap_orV, ap_notV, ap_ife, ap_1, ap_ch, ap_sl, ap_P0, ap_P1, ap_callX, ap_callE, ap_R1, ap_It, ap_Mt, ap_Rd, ap_put, ap_putAt, ap_LstRg, ap_Rg0, getD, getDs, lent, okAll, setAll, argsOf, argOf, slotsO, nodupB, backE, ap1, fin, pickA, List.getElem?_cons_zero, List.getElem?_cons_succ, List.set_cons_zero, List.set_cons_succ, List.nil_append, List.cons_append, List.mem_cons, List.not_mem_nil, or_false, Nat.reduceEqDiff, not_false_eq_true, decide_true, Bool.and_true, Bool.true_and, Bool.not_false, Bool.not_true, reduceCtorEq, reduceIte, h.items]
  have lo := lc_ok it c h1
  have al : allD (.lst (w.map fun _ => D.bl true)) = some (.val (.bl true)) := allD_const
  rw [lo]
  simp only [ap_seq, ap_skip, ap_ret, ap_retN, ap_drop, ap_if, ap_set, ap_par, ap_for, ap_unp, ap_raise, ap_bind, ap_retf, ap_V, ap_O, ap_S, ap_C, ap_nameO, ap_nameV, ap_2, ap_fin2, ap_N, ap_finN, ap_Os0, ap_Os1, ap_Vs0, ap_Vs1, ap_Rs0, ap_Rs1, ap_tup, ap_tupB, ap_lst, ap_T, ap_B, ap_not, ap_and, ap_or, ap_andV, ap_orV, ap_notV, ap_ife, ap_1, ap_ch, ap_sl, ap_P0, ap_P1, ap_callX, ap_callE, ap_R1, ap_It, ap_Mt, ap_Rd, ap_put, ap_putAt, ap_LstRg, ap_Rg0, getD, getDs, lent, okAll, setAll, argsOf, argOf, slotsO, nodupB, backE, ap1, fin, pickA, List.getElem?_cons_zero, List.getElem?_cons_succ, List.set_cons_zero, List.set_cons_succ, List.nil_append, List.cons_append, List.mem_cons, List.not_mem_nil, or_false, Nat.reduceEqDiff, not_false_eq_true, decide_true, Bool.and_true, Bool.true_and, Bool.not_false, Bool.not_true, reduceCtorEq, reduceIte, al]
  rfl
end HD
set_option Elab.async false
set_option linter.all false
set_option maxRecDepth 100000
set_option maxHeartbeats 1000000
namespace HD
open PySem PySem.Spec PyProof.Rows L2 Mn
/-- a source of draws -/
abbrev bx (c s n : Int) : D := .lst [.int c, .int s, .int n]
section
variable {c s n k x y z : Int} {d a b e : D} {en : En} {q : Bool}
theorem ix0 : ixD (.lst [a, b, e]) (.int 0) = some (.val a) := rfl
theorem ix1 : ixD (.lst [a, b, e]) (.int 1) = some (.val b) := rfl
theorem ix2 : ixD (.lst [a, b, e]) (.int 2) = some (.val e) := rfl
theorem pt0 : putIx 0 (.int 0) d (.own q (.lst [a, b, e]) :: en) = .nx (.own q (.lst [d, b, e]) :: en) := rfl
theorem pt1 : putIx 0 (.int 1) d (.own q (.lst [a, b, e]) :: en) = .nx (.own q (.lst [a, d, e]) :: en) := rfl
theorem pt2 : putIx 0 (.int 2) d (.own q (.lst [a, b, e]) :: en) = .nx (.own q (.lst [a, b, d]) :: en) := rfl
theorem take1 (hc : 0 < c) (hk : k ≠ 0) (hl : k.natAbs < 1073741824) : m__law_take [.own true (bx c s n), .val (.int k)] = .ok (.val (.int (c.fmod k))) [.own true (bx (c.fdiv k) s n), .val (.int k)] := by
  refine sem_rt rfl (e := [.own true (bx (c.fdiv k) s n), .val (.int k), .un, .val (.int (c.fmod k))]) ?_
  show b__law_take [.own true (bx c s n), .val (.int k), .un, .un] = _
  unfold b__law_take
  simp only [ap_seq, ap_skip, ap_ret, ap_retN, ap_drop, ap_if, ap_set, ap_par, ap_for, ap_unp, ap_raise, ap_bind, ap_retf, ap_V, ap_O, ap_S, ap_C, ap_nameO, ap_nameV, ap_2, ap_fin2, ap_N, ap_finN, ap_Os0, ap_Os1, ap_Vs0, ap_Vs1, ap_Rs0, ap_Rs1, ap_tup, ap_tupB, ap_lst, ap_T, ap_B, ap_not, ap_and, ap_or, ap_andV, ap_orV, ap_notV, ap_ife, ap_1, ap_ch, ap_sl, ap_P0, ap_P1, ap_callX, ap_callE, ap_R1, ap_It, ap_Mt, ap_Rd, ap_put, ap_putAt, ap_LstRg, ap_Rg0, getD, getDs, lent, okAll, setAll, argsOf, argOf, slotsO, nodupB, backE, ap1, fin, pickA, List.getElem?_cons_zero, List.getElem?_cons_succ, List.set_cons_zero, List.set_cons_succ, List.nil_append, List.cons_append, List.mem_cons, List.not_mem_nil, or_false, Nat.reduceEqDiff, not_false_eq_true, decide_true, Bool.and_true, Bool.true_and, Bool.not_false, Bool.not_true, reduceCtorEq, reduceIte, ix0, Mn.gt_int, decide_eq_true hc, Mn.int_int, Mn.mod_int hk, Mn.div_int hk hl, pt0]
theorem take2 (hc : ¬ 0 < c) (hk : k ≠ 0) (hs : s.natAbs < 2 ^ 60) (hn : n.natAbs < 2 ^ 60) : ∃ raw s' : Int, 0 ≤ raw ∧ 0 ≤ s' ∧ s' < 2 ^ 40 ∧
    m__law_take [.own true (bx c s n), .val (.int k)] = .ok (.val (.int (((raw * 2147483647 + s').fdiv 8191).fmod k))) [.own true (bx c s' (n + 1)), .val (.int k)] := by
  have e1 : mulD (.int 90007) (.int (n + 1)) = some (.val (.int (90007 * (n + 1)))) := Mn.mul_int (by decide) (by omega)
  have e2 : mulD (.int (s + 90007 * (n + 1))) (.int 58217) = some (.val (.int ((s + 90007 * (n + 1)) * 58217))) := Mn.mul_int (by omega) (by decide)
  obtain ⟨raw, hr⟩ : ∃ r, r = ((s + 90007 * (n + 1)) * 58217 + 43).fmod 2147483563 := ⟨_, rfl⟩
  have r0 : 0 ≤ raw := by rw [hr, Int.fmod_eq_emod_of_nonneg _ (by decide)]; exact Int.emod_nonneg _ (by decide)
  have r1 : raw < 2147483563 := by rw [hr, Int.fmod_eq_emod_of_nonneg _ (by decide)]; exact Int.emod_lt_of_pos _ (by decide)
  have e3 : mulD (.int raw) (.int 40289) = some (.val (.int (raw * 40289))) := Mn.mul_int (by omega) (by decide)
  have e4 : mulD (.int raw) (.int 2147483647) = some (.val (.int (raw * 2147483647))) := Mn.mul_int (by omega) (by decide)
  obtain ⟨s', hs'⟩ : ∃ r, r = (raw * 40289 + 27367).fmod 2147483629 + 1 := ⟨_, rfl⟩
  have s0 : 0 ≤ s' := by
    rw [hs', Int.fmod_eq_emod_of_nonneg _ (by decide)]
    have := Int.emod_nonneg (raw * 40289 + 27367) (b := 2147483629) (by decide)
    omega
  have s1 : s' < 2 ^ 40 := by
    rw [hs', Int.fmod_eq_emod_of_nonneg _ (by decide)]
    have := Int.emod_lt_of_pos (raw * 40289 + 27367) (b := 2147483629) (by decide)
    omega
  refine ⟨raw, s', r0, s0, s1, ?_⟩
  refine sem_rt rfl (e := [.own true (bx c s' (n + 1)), .val (.int k), .val (.int raw), .un]) ?_
  show b__law_take [.own true (bx c s n), .val (.int k), .un, .un] = _
  unfold b__law_take
  simp only [ap_seq, ap_skip, ap_ret, ap_retN, ap_drop, ap_if, ap_set, ap_par, ap_for, ap_unp, ap_raise, ap_bind, ap_retf, ap_V, ap_O, ap_S, ap_C, ap_nameO, ap_nameV, ap_2, ap_fin2, ap_N, ap_finN, ap_Os0, ap_Os1, ap_Vs0, ap_Vs1, ap_Rs0, ap_Rs1, ap_tup, ap_tupB, ap_lst, ap_T, ap_B, ap_not, ap_and, ap_or, ap_andV, ap_orV, ap_notV, ap_ife, ap_1, ap_ch, ap_sl, ap_P0, ap_P1, ap_callX, ap_callE, ap_R1, ap_It, ap_Mt, ap_Rd, ap_put, ap_putAt, ap_LstRg, ap_Rg0, getD, getDs, lent, okAll, setAll, argsOf, argOf, slotsO, nodupB, backE, ap1, fin, pickA, List.getElem?_cons_zero, List.getElem?_cons_succ, List.set_cons_zero, List.set_cons_succ, List.nil_append, List.cons_append, List.mem_cons, List.not_mem_nil, or_false, Nat.reduceEqDiff, not_false_eq_true, decide_true, Bool.and_true, Bool.true_and, Bool.not_false, Bool.not_true, reduceCtorEq, reduceIte, ix0, ix1, ix2, Mn.gt_int, decide_eq_false hc, Mn.int_int, Mn.add_int, pt2, e1, e2, Mn.mod_int (a := (s + 90007 * (n + 1)) * 58217 + 43) (b := 2147483563) (by decide), ← hr, e3, e4, Mn.mod_int (a := raw * 40289 + 27367) (b := 2147483629) (by decide), pt1, ← hs', Mn.div_int (a := raw * 2147483647 + s') (b := 8191) (by decide) (by decide), Mn.mod_int hk]
end
/-- a source of draws that still has so many -/
def Bx (t : Nat) (d : D) : Prop := ∃ c s n : Int, d = bx c s n ∧ 0 ≤ c ∧ 0 ≤ s ∧ s < 2 ^ 40 ∧ 0 ≤ n ∧ n + t ≤ 100000
theorem Bx.less {t u : Nat} {d : D} (h : Bx t d) (l : u ≤ t) : Bx u d := by
  obtain ⟨c, s, n, h1, h2, h3, h4, h5, h6⟩ := h
  exact ⟨c, s, n, h1, h2, h3, h4, h5, by omega⟩
theorem fm {a k : Int} (h : 0 ≤ a) (k0 : 0 < k) : 0 ≤ a.fmod k ∧ a.fmod k < k := by
  rw [Int.fmod_eq_emod_of_nonneg _ (by omega)]
  exact ⟨Int.emod_nonneg _ (by omega), Int.emod_lt_of_pos _ k0⟩
/-- a draw -/
theorem t_take {t : Nat} {d : D} {k : Int} (h : Bx (t + 1) d) (k0 : 0 < k) (k1 : k < 1000000) : ∃ v d', m__law_take [.own true d, .val (.int k)] = .ok (.val (.int v)) [.own true d', .val (.int k)] ∧ 0 ≤ v ∧ v < k ∧ Bx t d' := by
  obtain ⟨c, s, n, rfl, h2, h3, h4, h5, h6⟩ := h
  by_cases hc : 0 < c
  · obtain ⟨v0, v1⟩ := fm h2 k0
    refine ⟨_, _, take1 hc (by omega) (by omega), v0, v1, _, _, _, rfl, ?_, h3, h4, h5, by omega⟩
    rw [Int.fdiv_eq_ediv_of_nonneg _ (by omega)]
    exact Int.ediv_nonneg h2 (by omega)
  · obtain ⟨raw, s', r0, s0, s1, e⟩ := take2 (c := c) (s := s) (n := n) (k := k) hc (by omega) (by omega) (by omega)
    have g : 0 ≤ (raw * 2147483647 + s').fdiv 8191 := by
      rw [Int.fdiv_eq_ediv_of_nonneg _ (by decide)]
      exact Int.ediv_nonneg (by omega) (by decide)
    obtain ⟨v0, v1⟩ := fm g k0
    exact ⟨_, _, e, v0, v1, _, _, _, rfl, h2, s0, s1, by omega, by omega⟩
end HD
set_option Elab.async false
set_option linter.all false
set_option maxRecDepth 100000
set_option maxHeartbeats 1000000
namespace HD
open PySem PySem.Spec PyProof.Rows L2 Mn
abbrev Pl (z : Slot) : Prop := z = .un ∨ ∃ d, z = .val d
section
variable {dw dm : D} {s x y : Slot} {left w : List Int} {f : Int}
/-- one turn of the count: nothing is left -/
theorem st_nil {sg : Int} : l__law_stays_1 [.val dw, s, .val (.int sg), .own false (.lst (ids [])), .val (.int f), y] = .rt (.val (.int f)) [.val dw, s, .val (.int sg), .own false (.lst (ids [])), .val (.int f), y] := by
  unfold l__law_stays_1
  simp only [ap_seq, ap_skip, ap_ret, ap_retN, ap_drop, ap_if, ap_set, ap_par, ap_for, ap_unp, ap_raise, ap_bind, ap_retf, ap_V, ap_O, ap_S, ap_C, ap_nameO, ap_nameV, ap_2, ap_fin2, ap_N, ap_finN, ap_Os0, ap_Os1, ap_Vs0, ap_Vs1, ap_Rs0, ap_Rs1, ap_tup, ap_tupB, ap_lst, ap_T, ap_B, ap_not, ap_and, ap_or, ap_andV, ap_orV, ap_notV, ap_ife, ap_1, ap_ch, ap_sl, ap_P0, ap_P1, ap_callX, ap_callE, ap_R1, ap_It, ap_Mt, ap_Rd, ap_put, ap_putAt, ap_LstRg, ap_Rg0, getD, getDs, lent, okAll, setAll, argsOf, argOf, slotsO, nodupB, backE, ap1, fin, pickA, List.getElem?_cons_zero, List.getElem?_cons_succ, List.set_cons_zero, List.set_cons_succ, List.nil_append, List.cons_append, List.mem_cons, List.not_mem_nil, or_false, Nat.reduceEqDiff, not_false_eq_true, decide_true, Bool.and_true, Bool.true_and, Bool.not_false, Bool.not_true, reduceCtorEq, reduceIte, eqE_nil, List.length_nil, Nat.zero_le, List.isEmpty_nil]
theorem st_a {sg b : Int} {xs ys : List D} {e : D} (py : Pl y) (z : eqE (.lst xs) (.lst []) = some (.val (.bl false))) (c : eqE (.int sg) (.int 1) = some (.val (.bl true))) (q : inOp false (.int 1) (.lst xs) = some (.val (.bl true))) (ix : indexD (.lst xs) [.int 1] = some (.val e)) (p : opPop xs [e] = some (ys, .int b)) :
    l__law_stays_1 [.val dw, s, .val (.int sg), .own false (.lst xs), .val (.int f), y] = .nx [.val dw, s, .val (.int sg), .own false (.lst ys), .val (.int (f + b)), .val e] := by
  unfold l__law_stays_1
  rcases py with rfl | ⟨y0, rfl⟩
  all_goals
    simp only [ap_seq, ap_skip, ap_ret, ap_retN, ap_drop, ap_if, ap_set, ap_par, ap_for, ap_unp, ap_raise, ap_bind, ap_retf, ap_V, ap_O, ap_S, ap_C, ap_nameO, ap_nameV, ap_2, ap_fin2, ap_N, ap_finN, ap_Os0, ap_Os1, ap_Vs0, ap_Vs1, ap_Rs0, ap_Rs1, ap_tup, ap_tupB, ap_lst, ap_T, ap_B, ap_not, ap_and, ap_or, ap_andV, ap_orV, ap_notV, ap_ife, ap_1, ap_ch, ap_sl, ap_P0, ap_P1, ap_callX, ap_callE, ap_R1, ap_It, ap_Mt, ap_Rd, ap_put, ap_putAt, ap_LstRg, ap_Rg0, getD, getDs, lent, okAll, setAll, argsOf, argOf, slotsO, nodupB, backE, ap1, fin, pickA, List.getElem?_cons_zero, List.getElem?_cons_succ, List.set_cons_zero, List.set_cons_succ, List.nil_append, List.cons_append, List.mem_cons, List.not_mem_nil, or_false, Nat.reduceEqDiff, not_false_eq_true, decide_true, Bool.and_true, Bool.true_and, Bool.not_false, Bool.not_true, reduceCtorEq, reduceIte, z, c, q, kindB, ix, p, List.length_nil, Nat.zero_le, Mn.add_int]
theorem st_b {sg b : Int} {xs ys : List D} (py : Pl y) (z : eqE (.lst xs) (.lst []) = some (.val (.bl false))) (c : eqE (.int sg) (.int 1) = some (.val (.bl true))) (q : inOp false (.int 1) (.lst xs) = some (.val (.bl false))) (p : opPop xs [.int 0] = some (ys, .int b)) :
    l__law_stays_1 [.val dw, s, .val (.int sg), .own false (.lst xs), .val (.int f), y] = .nx [.val dw, s, .val (.int sg), .own false (.lst ys), .val (.int (f + b)), .val (.int 0)] := by
  unfold l__law_stays_1
  rcases py with rfl | ⟨y0, rfl⟩
  all_goals
    simp only [ap_seq, ap_skip, ap_ret, ap_retN, ap_drop, ap_if, ap_set, ap_par, ap_for, ap_unp, ap_raise, ap_bind, ap_retf, ap_V, ap_O, ap_S, ap_C, ap_nameO, ap_nameV, ap_2, ap_fin2, ap_N, ap_finN, ap_Os0, ap_Os1, ap_Vs0, ap_Vs1, ap_Rs0, ap_Rs1, ap_tup, ap_tupB, ap_lst, ap_T, ap_B, ap_not, ap_and, ap_or, ap_andV, ap_orV, ap_notV, ap_ife, ap_1, ap_ch, ap_sl, ap_P0, ap_P1, ap_callX, ap_callE, ap_R1, ap_It, ap_Mt, ap_Rd, ap_put, ap_putAt, ap_LstRg, ap_Rg0, getD, getDs, lent, okAll, setAll, argsOf, argOf, slotsO, nodupB, backE, ap1, fin, pickA, List.getElem?_cons_zero, List.getElem?_cons_succ, List.set_cons_zero, List.set_cons_succ, List.nil_append, List.cons_append, List.mem_cons, List.not_mem_nil, or_false, Nat.reduceEqDiff, not_false_eq_true, decide_true, Bool.and_true, Bool.true_and, Bool.not_false, Bool.not_true, reduceCtorEq, reduceIte, z, c, q, p, List.length_nil, Nat.zero_le, Mn.add_int]
theorem st_c {sg b : Int} {xs ys : List D} (py : Pl y) (z : eqE (.lst xs) (.lst []) = some (.val (.bl false))) (c : eqE (.int sg) (.int 1) = some (.val (.bl false))) (p : opPop xs [.int 0] = some (ys, .int b)) :
    l__law_stays_1 [.val dw, s, .val (.int sg), .own false (.lst xs), .val (.int f), y] = .nx [.val dw, s, .val (.int sg), .own false (.lst ys), .val (.int (f + b)), .val (.int 0)] := by
  unfold l__law_stays_1
  rcases py with rfl | ⟨y0, rfl⟩
  all_goals
    simp only [ap_seq, ap_skip, ap_ret, ap_retN, ap_drop, ap_if, ap_set, ap_par, ap_for, ap_unp, ap_raise, ap_bind, ap_retf, ap_V, ap_O, ap_S, ap_C, ap_nameO, ap_nameV, ap_2, ap_fin2, ap_N, ap_finN, ap_Os0, ap_Os1, ap_Vs0, ap_Vs1, ap_Rs0, ap_Rs1, ap_tup, ap_tupB, ap_lst, ap_T, ap_B, ap_not, ap_and, ap_or, ap_andV, ap_orV, ap_notV, ap_ife, ap_1, ap_ch, ap_sl, ap_P0, ap_P1, ap_callX, ap_callE, ap_R1, ap_It, ap_Mt, ap_Rd, ap_put, ap_putAt, ap_LstRg, ap_Rg0, getD, getDs, lent, okAll, setAll, argsOf, argOf, slotsO, nodupB, backE, ap1, fin, pickA, List.getElem?_cons_zero, List.getElem?_cons_succ, List.set_cons_zero, List.set_cons_succ, List.nil_append, List.cons_append, List.mem_cons, List.not_mem_nil, or_false, Nat.reduceEqDiff, not_false_eq_true, decide_true, Bool.and_true, Bool.true_and, Bool.not_false, Bool.not_true, reduceCtorEq, reduceIte, z, c, p, List.length_nil, Nat.zero_le, Mn.add_int]
theorem st_one {sg : Int} {a : Int} {r : List Int} (hl : (a :: r).length ≤ 1000) (py : Pl y) : ∃ y', (sg = 1 ∧ 1 ∈ a :: r → l__law_stays_1 [.val dw, s, .val (.int sg), .own false (.lst (ids (a :: r))), .val (.int f), y] = .nx [.val dw, s, .val (.int sg), .own false (.lst (ids ((a :: r).erase 1))), .val (.int (f + 1)), .val y'])
    ∧ (¬ (sg = 1 ∧ 1 ∈ a :: r) → l__law_stays_1 [.val dw, s, .val (.int sg), .own false (.lst (ids (a :: r))), .val (.int f), y] = .nx [.val dw, s, .val (.int sg), .own false (.lst (ids r)), .val (.int (f + a)), .val y']) := by
  have z : eqE (.lst (ids (a :: r))) (.lst []) = some (.val (.bl false)) := eqE_nil
  by_cases c : sg = 1 ∧ 1 ∈ a :: r
  · obtain ⟨c1, c2⟩ := c
    obtain ⟨j, h1, h2, h3, h4⟩ := find_ids c2
    have p := pop_at h3 (by rw [ids_len]; omega)
    rw [h4] at p
    refine ⟨.int (j : Nat), fun _ => ?_, fun h => absurd ⟨c1, c2⟩ h⟩
    exact st_a py z (by rw [Mn.eqE_int, decide_eq_true c1]) (by rw [(Sq.l (a :: r)).inn, decide_eq_true c2]) ((Sq.l (a :: r)).index h1) p
  · refine ⟨.int 0, fun h => absurd h c, fun _ => ?_⟩
    have p : opPop (ids (a :: r)) [.int 0] = some (ids r, .int a) := pop_at (k := 0) rfl (by rw [ids_len]; omega)
    by_cases c1 : sg = 1
    · have c2 : ¬ 1 ∈ a :: r := fun h => c ⟨c1, h⟩
      exact st_b py z (by rw [Mn.eqE_int, decide_eq_true c1]) (by rw [(Sq.l (a :: r)).inn, decide_eq_false c2]) p
    · exact st_c py z (by rw [Mn.eqE_int, decide_eq_false c1]) p
theorem st_loop : ∀ {w left : List Int} {f : Int} {x y : Slot}, Pl x → Pl y → left.length ≤ 1000 →
    ∃ x' y' left', forL (.nm 2) l__law_stays_1 (ids w) [.val dw, s, x, .own false (.lst (ids left)), .val (.int f), y] = .nx [.val dw, s, x', .own false (.lst (ids left')), .val (.int (f + Pu.stays w left)), y']
      ∨ forL (.nm 2) l__law_stays_1 (ids w) [.val dw, s, x, .own false (.lst (ids left)), .val (.int f), y] = .rt (.val (.int (f + Pu.stays w left))) [.val dw, s, x', .own false (.lst (ids left')), .val (.int (f + Pu.stays w left)), y']
  | [], left, f, x, y, _, _, _ => ⟨x, y, left, .inl (by show SRes.nx _ = SRes.nx _; rw [Pu.stays, Int.add_zero])⟩
  | sg :: w, left, f, x, y, lx, ly, hl => by
    have bt : bindT (.nm 2) (.int sg) [.val dw, s, x, .own false (.lst (ids left)), .val (.int f), y] = some [.val dw, s, .val (.int sg), .own false (.lst (ids left)), .val (.int f), y] := by
      rcases lx with rfl | ⟨_, rfl⟩ <;> rfl
    cases left with
    | nil =>
      refine ⟨.val (.int sg), y, [], .inr ?_⟩
      show forL _ _ (.int sg :: ids w) _ = _
      unfold forL
      rw [bt]
      dsimp only
      rw [st_nil, Pu.s_nil, Int.add_zero]
    | cons a r =>
      obtain ⟨y', h1, h2⟩ := st_one (dw := dw) (s := s) (y := y) (f := f) (sg := sg) hl ly
      by_cases c : sg = 1 ∧ 1 ∈ a :: r
      · obtain ⟨x2, y2, l2, h⟩ := st_loop (w := w) (left := (a :: r).erase 1) (f := f + 1) (x := .val (.int sg)) (y := .val y') (.inr ⟨_, rfl⟩) (.inr ⟨_, rfl⟩) (Nat.le_trans List.length_erase_le hl)
        have e : f + Pu.stays (sg :: w) (a :: r) = f + 1 + Pu.stays w ((a :: r).erase 1) := by
          rw [Pu.stays, if_pos c]
          omega
        refine ⟨x2, y2, l2, ?_⟩
        rw [e]
        have st : forL (.nm 2) l__law_stays_1 (ids (sg :: w)) [.val dw, s, x, .own false (.lst (ids (a :: r))), .val (.int f), y] = forL (.nm 2) l__law_stays_1 (ids w) [.val dw, s, .val (.int sg), .own false (.lst (ids ((a :: r).erase 1))), .val (.int (f + 1)), .val y'] := by
          show forL _ _ (.int sg :: ids w) _ = _
          conv => lhs; unfold forL
          rw [bt]
          dsimp only
          rw [h1 c]
        rw [st]
        exact h
      · obtain ⟨x2, y2, l2, h⟩ := st_loop (w := w) (left := r) (f := f + a) (x := .val (.int sg)) (y := .val y') (.inr ⟨_, rfl⟩) (.inr ⟨_, rfl⟩) (by simp at hl ⊢; omega)
        have e : f + Pu.stays (sg :: w) (a :: r) = f + a + Pu.stays w r := by
          rw [Pu.stays, if_neg c]
          omega
        refine ⟨x2, y2, l2, ?_⟩
        rw [e]
        have st : forL (.nm 2) l__law_stays_1 (ids (sg :: w)) [.val dw, s, x, .own false (.lst (ids (a :: r))), .val (.int f), y] = forL (.nm 2) l__law_stays_1 (ids w) [.val dw, s, .val (.int sg), .own false (.lst (ids r)), .val (.int (f + a)), .val y'] := by
          show forL _ _ (.int sg :: ids w) _ = _
          conv => lhs; unfold forL
          rw [bt]
          dsimp only
          rw [h2 c]
        rw [st]
        exact h
end
/-- how many marked ones stay -/
theorem t_stays {dw dm : D} {w m : List Int} (hw : Sq dw w) (hm : Sq dm m) (l : m.length ≤ 1000) {s : Slot} (hs : s = .val dm ∨ s = .own true dm) : m__law_stays [.val dw, s] = .ok (.val (.int (Pu.stays w m))) [.val dw, s] := by
  obtain ⟨x', y', l', h⟩ := st_loop (dw := dw) (s := s) (w := w) (left := m) (f := 0) (x := .un) (y := .un) (.inl rfl) (.inl rfl) l
  rw [Int.zero_add] at h
  have hl := hm.list
  have hi := hw.items
  have a1 : [Slot.val dw, s] ++ List.replicate (6 - 2) Slot.un = [.val dw, s, .un, .un, .un, .un] := rfl
  have fi : ∀ e : En, fin [.val dw, s] (.val dw :: s :: e) = [.val dw, s] := fun e => by rcases hs with rfl | rfl <;> rfl
  have go : b__law_stays [.val dw, s, .un, .un, .un, .un] = (match forL (.nm 2) l__law_stays_1 (ids w) [.val dw, s, .un, .own false (.lst (ids m)), .val (.int 0), .un] with | .nx e => sRet (mS (mNameV 4)) e | r => r) := by
    unfold b__law_stays
    rcases hs with rfl | rfl
    all_goals
      simp only [ap_seq, ap_skip, ap_ret, ap_retN, ap_drop, ap_if, ap_set, ap_par, ap_for, ap_unp, ap_raise, ap_bind, ap_retf, ap_V, ap_O, ap_S, ap_C, ap_nameO, ap_nameV, ap_2, ap_fin2, ap_N, ap_finN, ap_Os0, ap_Os1, ap_Vs0, ap_Vs1, ap_Rs0, ap_Rs1, ap_tup, ap_tupB, ap_lst, ap_T, ap_B, ap_not, ap_and, ap_or, ap_andV, ap_orV, ap_notV, ap_ife, ap_1, ap_ch, ap_sl, ap_P0, ap_P1, ap_callX, ap_callE, ap_R1, ap_It, ap_Mt, ap_Rd, ap_put, ap_putAt, ap_LstRg, ap_Rg0, getD, getDs, lent, okAll, setAll, argsOf, argOf, slotsO, nodupB, backE, ap1, fin, pickA, List.getElem?_cons_zero, List.getElem?_cons_succ, List.set_cons_zero, List.set_cons_succ, List.nil_append, List.cons_append, List.mem_cons, List.not_mem_nil, or_false, Nat.reduceEqDiff, not_false_eq_true, decide_true, Bool.and_true, Bool.true_and, Bool.not_false, Bool.not_true, reduceCtorEq, reduceIte, hl, hi, Bool.not_false, Bool.and_true, Bool.true_and]
      rcases h with h | h <;> rw [h]
      simp only [ap_seq, ap_skip, ap_ret, ap_retN, ap_drop, ap_if, ap_set, ap_par, ap_for, ap_unp, ap_raise, ap_bind, ap_retf, ap_V, ap_O, ap_S, ap_C, ap_nameO, ap_nameV, ap_2, ap_fin2, ap_N, ap_finN, ap_Os0, ap_Os1, ap_Vs0, ap_Vs1, ap_Rs0, ap_Rs1, ap_tup, ap_tupB, ap_lst, ap_T, ap_B, ap_not, ap_and, ap_or, ap_andV, ap_orV, ap_notV, ap_ife, ap_1, ap_ch, ap_sl, ap_P0, ap_P1, ap_callX, ap_callE, ap_R1, ap_It, ap_Mt, ap_Rd, ap_put, ap_putAt, ap_LstRg, ap_Rg0, getD, getDs, lent, okAll, setAll, argsOf, argOf, slotsO, nodupB, backE, ap1, fin, pickA, List.getElem?_cons_zero, List.getElem?_cons_succ, List.set_cons_zero, List.set_cons_succ, List.nil_append, List.cons_append, List.mem_cons, List.not_mem_nil, or_false, Nat.reduceEqDiff, not_false_eq_true, decide_true, Bool.and_true, Bool.true_and, Bool.not_false, Bool.not_true, reduceCtorEq, reduceIte]
  have r : b__law_stays [.val dw, s, .un, .un, .un, .un] = .rt (.val (.int (Pu.stays w m))) [.val dw, s, x', .own false (.lst (ids l')), .val (.int (Pu.stays w m)), y'] := by
    rw [go]
    rcases h with h | h
    · rw [h]
      simp only [ap_seq, ap_skip, ap_ret, ap_retN, ap_drop, ap_if, ap_set, ap_par, ap_for, ap_unp, ap_raise, ap_bind, ap_retf, ap_V, ap_O, ap_S, ap_C, ap_nameO, ap_nameV, ap_2, ap_fin2, ap_N, ap_finN, ap_Os0, ap_Os1, ap_Vs0, ap_Vs1, ap_Rs0, ap_Rs1, ap_tup, ap_tupB, ap_lst, ap_T, ap_B, ap_not, ap_and, ap_or, ap_andV, ap_orV, ap_notV, ap_ife, ap_1, ap_ch, ap_sl, ap_P0, ap_P1, ap_callX, ap_callE, ap_R1, ap_It, ap_Mt, ap_Rd, ap_put, ap_putAt, ap_LstRg, ap_Rg0, getD, getDs, lent, okAll, setAll, argsOf, argOf, slotsO, nodupB, backE, ap1, fin, pickA, List.getElem?_cons_zero, List.getElem?_cons_succ, List.set_cons_zero, List.set_cons_succ, List.nil_append, List.cons_append, List.mem_cons, List.not_mem_nil, or_false, Nat.reduceEqDiff, not_false_eq_true, decide_true, Bool.and_true, Bool.true_and, Bool.not_false, Bool.not_true, reduceCtorEq, reduceIte]
    · rw [h]
  exact (sem_rt (args := [.val dw, s]) rfl r).trans (congrArg _ (fi _))
end HD
set_option Elab.async false
set_option linter.all false
set_option maxRecDepth 100000
set_option maxHeartbeats 1000000
namespace HD
open PySem PySem.Spec PyProof.Rows L2 Mn
/-- the least place behind which a word has fewer -/
def Due (w u : List Int) (s : Nat) : Prop := s ≤ w.length ∧ Pu.one1 (w.drop s) < Pu.one1 (u.drop s) ∧ ∀ i, i < s → ¬ Pu.one1 (w.drop i) < Pu.one1 (u.drop i)
def NoDue (w u : List Int) : Prop := ∀ i, i ≤ w.length → ¬ Pu.one1 (w.drop i) < Pu.one1 (u.drop i)
theorem first_of {p : Nat → Prop} [DecidablePred p] : ∀ n : Nat, (∃ s, s < n ∧ p s ∧ ∀ i, i < s → ¬ p i) ∨ ∀ i, i < n → ¬ p i
  | 0 => .inr fun i h => absurd h (Nat.not_lt_zero i)
  | n + 1 => by
    rcases first_of (p := p) n with ⟨s, h1, h2, h3⟩ | h
    · exact .inl ⟨s, Nat.lt_succ_of_lt h1, h2, h3⟩
    · by_cases c : p n
      · exact .inl ⟨n, Nat.lt_succ_self n, c, h⟩
      · refine .inr fun i hi => ?_
        rcases Nat.lt_succ_iff_lt_or_eq.mp hi with h4 | h4
        · exact h i h4
        · exact h4 ▸ c
theorem due_or (w u : List Int) : (∃ s, Due w u s) ∨ NoDue w u := by
  rcases first_of (p := fun s => Pu.one1 (w.drop s) < Pu.one1 (u.drop s)) (w.length + 1) with ⟨s, h1, h2, h3⟩ | h
  · exact .inl ⟨s, by omega, h2, h3⟩
  · exact .inr fun i hi => h i (by omega)
theorem sum_bits : ∀ {w : List Int}, Pu.Bits w → w.sum = Pu.one1 w
  | [], _ => rfl
  | x :: w, b => by rw [List.sum_cons, sum_bits b.tail, Pu.o_cons b.head]
theorem range_at {n i d : Nat} (h : (List.range n)[i]? = some d) : i < n ∧ i = d := by
  obtain ⟨h1, h2⟩ := List.getElem?_eq_some_iff.mp h
  rw [List.getElem_range] at h2
  rw [List.length_range] at h1
  exact ⟨h1, h2⟩
theorem rng_z {n : Nat} : rng 0 n = (List.range n).map fun i => D.int (i : Nat) := by
  unfold rng
  simp only [Int.zero_add]
/-- a tuple of ints -/
inductive Tp : D → List Int → Prop
  | t (w : List Int) : Tp (.tup (ids w)) w
  | b (w : List Int) : Tp (.tpb (ids w)) w
theorem Tp.sq {d : D} {w : List Int} (h : Tp d w) : Sq d w := by
  cases h with
  | t => exact .t w
  | b => exact .b w
theorem Tp.cut {d : D} {w : List Int} (h : Tp d w) (k : Nat) : ∃ e, slE d (some (k : Int)) none = some (.val e) ∧ Tp e (w.drop k) := by
  cases h with
  | t => exact ⟨_, slE_tup, .t _⟩
  | b => exact ⟨_, slE_tpb, .b _⟩
theorem Tp.of {d : D} {w : List Int} (h : Sq d w) : ∃ d', tupD false d = some (.val d') ∧ Tp d' w := by
  cases h with
  | l => exact ⟨_, rfl, .t w⟩
  | t => exact ⟨_, rfl, .t w⟩
  | b => exact ⟨_, rfl, .b w⟩
  | s => exact ⟨_, rfl, .t w⟩
theorem len_ne {n : Nat} (h : n ≠ 0) : eqE (.int (n : Nat)) (.int 0) = some (.val (.bl false)) := by
  rw [Mn.eqE_int, decide_eq_false]
  omega
theorem t_word {d : D} {w : List Int} {a : D} (h : Sq d w) (b : Pu.Bits w) (l : w.length < lim) (l0 : w.length ≠ 0) : ∃ d', m_need_word [.val d, .val a] = .ok (.val d') [.val d, .val a] ∧ Tp d' w := by
  obtain ⟨d', h1, h2⟩ := Tp.of h
  refine ⟨d', ?_, h2⟩
  refine sem_rt rfl (e := [.val d, .val a]) ?_
  show b_need_word [.val d, .val a] = _
  unfold b_need_word
  simp only [ap_seq, ap_skip, ap_ret, ap_retN, ap_drop, ap_if, ap_set, ap_par, ap_for, ap_unp, ap_raise, ap_bind, ap_retf, ap_V, ap_O, ap_S, ap_C, ap_nameO, ap_nameV, ap_2, ap_fin2, ap_N, ap_finN, ap_Os0, ap_Os1, ap_Vs0, ap_Vs1, ap_Rs0, ap_Rs1, ap_tup, ap_tupB, ap_lst, ap_T, ap_B, ap_not, ap_and, ap_or, ap_andV, ap_orV, ap_notV, ap_ife, ap_1, ap_ch, ap_sl, ap_P0, ap_P1, ap_callX, ap_callE, ap_R1, ap_It, ap_Mt, ap_Rd, ap_put, ap_putAt, ap_LstRg, ap_Rg0, getD, getDs, lent, okAll, setAll, argsOf, argOf, slotsO, nodupB, backE, ap1, fin, pickA, List.getElem?_cons_zero, List.getElem?_cons_succ, List.set_cons_zero, List.set_cons_succ, List.nil_append, List.cons_append, List.mem_cons, List.not_mem_nil, or_false, Nat.reduceEqDiff, not_false_eq_true, decide_true, Bool.and_true, Bool.true_and, Bool.not_false, Bool.not_true, reduceCtorEq, reduceIte, t_signs h b l, truth, h.len, h1, len_ne l0, Bool.not_true]
section
variable {d1 d2 : D} {w u : List Int} {n : Nat}
theorem kf_step (h1 : Tp d1 w) (h2 : Tp d2 u) (b1 : Pu.Bits w) (b2 : Pu.Bits u) (lw : w.length = n) (ln : n ≤ 100) {i : Nat} (hi : i ≤ n) :
    (Pu.one1 (w.drop i) < Pu.one1 (u.drop i) → l_kind_fewer_1 [.val d1, .val d2, .val (.int (i : Nat))] = .rt (.val (.tup [.int (i : Nat), .tup (ids (Pu.marks i n))])) [.val d1, .val d2, .val (.int (i : Nat))])
    ∧ (¬ Pu.one1 (w.drop i) < Pu.one1 (u.drop i) → l_kind_fewer_1 [.val d1, .val d2, .val (.int (i : Nat))] = .nx [.val d1, .val d2, .val (.int (i : Nat))]) := by
  obtain ⟨e1, c1, t1⟩ := h1.cut i
  obtain ⟨e2, c2, t2⟩ := h2.cut i
  have s1 := t1.sq.sum
  have s2 := t2.sq.sum
  rw [sum_bits (b1.drop i)] at s1
  rw [sum_bits (b2.drop i)] at s2
  refine ⟨fun h => ?_, fun h => ?_⟩
  · have lt : ltD (.int (Pu.one1 (w.drop i) : Nat)) (.int (Pu.one1 (u.drop i) : Nat)) = some (.val (.bl true)) := by rw [Mn.lt_int, decide_eq_true (by omega)]
    have a1 : addE (.tup (ids (List.replicate i 1))) (.tup (ids (List.replicate n 0))) = some (.val (.tup (ids (List.replicate i 1 ++ List.replicate n 0)))) := add_tup (by simp; omega)
    have a2 : addE (.tup (ids (List.replicate i 1 ++ List.replicate n 0))) (.tup (ids (List.replicate n 1))) = some (.val (.tup (ids (Pu.marks i n)))) := add_tup (by simp; omega)
    have m1 : mulD (.tup [.int 1]) (.int (i : Nat)) = some (.val (.tup (ids (List.replicate i 1)))) := mul_tup (by omega)
    have m2 : mulD (.tup [.int 0]) (.int (n : Nat)) = some (.val (.tup (ids (List.replicate n 0)))) := mul_tup (by omega)
    have m3 : mulD (.tup [.int 1]) (.int (n : Nat)) = some (.val (.tup (ids (List.replicate n 1)))) := mul_tup (by omega)
    have ll := h1.sq.len
    rw [lw] at ll
    unfold l_kind_fewer_1
    simp only [ap_seq, ap_skip, ap_ret, ap_retN, ap_drop, ap_if, ap_set, ap_par, ap_for, ap_unp, ap_raise, ap_bind, ap_retf, ap_V, ap_O, ap_S, ap_C, ap_nameO, ap_nameV, ap_2, ap_fin2, ap_N, ap_finN, ap_Os0, ap_Os1, ap_Vs0, ap_Vs1, ap_Rs0, ap_Rs1, ap_tup, ap_tupB, ap_lst, ap_T, ap_B, ap_not, ap_and, ap_or, ap_andV, ap_orV, ap_notV, ap_ife, ap_1, ap_ch, ap_sl, ap_P0, ap_P1, ap_callX, ap_callE, ap_R1, ap_It, ap_Mt, ap_Rd, ap_put, ap_putAt, ap_LstRg, ap_Rg0, getD, getDs, lent, okAll, setAll, argsOf, argOf, slotsO, nodupB, backE, ap1, fin, pickA, List.getElem?_cons_zero, List.getElem?_cons_succ, List.set_cons_zero, List.set_cons_succ, List.nil_append, List.cons_append, List.mem_cons, List.not_mem_nil, or_false, Nat.reduceEqDiff, not_false_eq_true, decide_true, Bool.and_true, Bool.true_and, Bool.not_false, Bool.not_true, reduceCtorEq, reduceIte, c1, c2, s1, s2, lt, ll, m1, m2, m3, a1, a2, List.length_cons, List.length_nil, Nat.reduceAdd, Nat.reduceLeDiff]
  · have lt : ltD (.int (Pu.one1 (w.drop i) : Nat)) (.int (Pu.one1 (u.drop i) : Nat)) = some (.val (.bl false)) := by rw [Mn.lt_int, decide_eq_false (by omega)]
    unfold l_kind_fewer_1
    simp only [ap_seq, ap_skip, ap_ret, ap_retN, ap_drop, ap_if, ap_set, ap_par, ap_for, ap_unp, ap_raise, ap_bind, ap_retf, ap_V, ap_O, ap_S, ap_C, ap_nameO, ap_nameV, ap_2, ap_fin2, ap_N, ap_finN, ap_Os0, ap_Os1, ap_Vs0, ap_Vs1, ap_Rs0, ap_Rs1, ap_tup, ap_tupB, ap_lst, ap_T, ap_B, ap_not, ap_and, ap_or, ap_andV, ap_orV, ap_notV, ap_ife, ap_1, ap_ch, ap_sl, ap_P0, ap_P1, ap_callX, ap_callE, ap_R1, ap_It, ap_Mt, ap_Rd, ap_put, ap_putAt, ap_LstRg, ap_Rg0, getD, getDs, lent, okAll, setAll, argsOf, argOf, slotsO, nodupB, backE, ap1, fin, pickA, List.getElem?_cons_zero, List.getElem?_cons_succ, List.set_cons_zero, List.set_cons_succ, List.nil_append, List.cons_append, List.mem_cons, List.not_mem_nil, or_false, Nat.reduceEqDiff, not_false_eq_true, decide_true, Bool.and_true, Bool.true_and, Bool.not_false, Bool.not_true, reduceCtorEq, reduceIte, c1, c2, s1, s2, lt]
theorem small_nat {k : Nat} (h : k ≤ 1000) : small ((k : Nat) : Int) = true := by
  unfold small
  rw [decide_eq_true (by omega), decide_eq_true (by omega)]
  rfl
/-- what the program tells of two words -/
theorem t_kind (h1 : Sq d1 w) (h2 : Sq d2 u) (b1 : Pu.Bits w) (b2 : Pu.Bits u) (lw : w.length = n) (lu : u.length = n) (ln : n ≤ 100) (l0 : n ≠ 0) :
    (∀ s, Due w u s → m_kind_fewer [.val d1, .val d2] = .ok (.val (.tup [.int (s : Nat), .tup (ids (Pu.marks s n))])) [.val d1, .val d2]) ∧ (NoDue w u → m_kind_fewer [.val d1, .val d2] = .ok (.val .non) [.val d1, .val d2]) := by
  obtain ⟨e1, w1, t1⟩ := t_word (a := .int 0) h1 b1 (by unfold lim; omega) (by omega)
  obtain ⟨e2, w2, t2⟩ := t_word (a := .int 1) h2 b2 (by unfold lim; omega) (by omega)
  have l1 := t1.sq.len
  have l2 := t2.sq.len
  rw [lw] at l1
  rw [lu] at l2
  have ne : neE (.int (n : Nat)) (.int (n : Nat)) = some (.val (.bl false)) := by rw [Mn.neE_int, decide_eq_true rfl]; rfl
  have ad : addE (.int (n : Nat)) (.int 1) = some (.val (.int ((n + 1 : Nat) : Int))) := by rw [Mn.add_int]; rfl
  have go : ∀ r, forL (.nm 2) l_kind_fewer_1 (rng 0 (n + 1)) [.val e1, .val e2, .un] = r → b_kind_fewer [.val d1, .val d2, .un] = (match r with | .nx e => SRes.rt (.val .non) e | r => r) := fun r hr => by
    subst hr
    unfold b_kind_fewer
    simp only [ap_seq, ap_skip, ap_ret, ap_retN, ap_drop, ap_if, ap_set, ap_par, ap_for, ap_unp, ap_raise, ap_bind, ap_retf, ap_V, ap_O, ap_S, ap_C, ap_nameO, ap_nameV, ap_2, ap_fin2, ap_N, ap_finN, ap_Os0, ap_Os1, ap_Vs0, ap_Vs1, ap_Rs0, ap_Rs1, ap_tup, ap_tupB, ap_lst, ap_T, ap_B, ap_not, ap_and, ap_or, ap_andV, ap_orV, ap_notV, ap_ife, ap_1, ap_ch, ap_sl, ap_P0, ap_P1, ap_callX, ap_callE, ap_R1, ap_It, ap_Mt, ap_Rd, ap_put, ap_putAt, ap_LstRg, ap_Rg0, getD, getDs, lent, okAll, setAll, argsOf, argOf, slotsO, nodupB, backE, ap1, fin, pickA, List.getElem?_cons_zero, List.getElem?_cons_succ, List.set_cons_zero, List.set_cons_succ, List.nil_append, List.cons_append, List.mem_cons, List.not_mem_nil, or_false, Nat.reduceEqDiff, not_false_eq_true, decide_true, Bool.and_true, Bool.true_and, Bool.not_false, Bool.not_true, reduceCtorEq, reduceIte, w1, w2, l1, l2, ne, ad, small_nat (k := n + 1) (by omega), Int.toNat_natCast, Bool.not_false, Bool.and_true, Bool.true_and]
    all_goals (cases forL (.nm 2) l_kind_fewer_1 (rng 0 (n + 1)) [.val e1, .val e2, .un] <;> rfl)
  refine ⟨fun s hs => ?_, fun hs => ?_⟩
  · obtain ⟨s1, s2, s3⟩ := hs
    obtain ⟨e', f1, f2⟩ := for_rt (t := .nm 2) (body := l_kind_fewer_1) (f := fun i : Nat => D.int (i : Nat)) (r := .val (.tup [.int (s : Nat), .tup (ids (Pu.marks s n))])) (Pe := fun en => ∃ x : Slot, en = [.val e1, .val e2, x]) (ds := List.range (n + 1)) (s := s)
      (Iv := fun _ en => ∃ x : Slot, en = [.val e1, .val e2, x] ∧ (x = .un ∨ ∃ d, x = .val d)) (en := [.val e1, .val e2, .un]) (by rw [List.length_range]; omega) ⟨_, rfl, .inl rfl⟩ (fun i d hi hd en ⟨x, hx, hv⟩ => by
        obtain ⟨q1, q2⟩ := range_at hd
        subst hx
        refine ⟨[.val e1, .val e2, .val (.int (i : Nat))], [.val e1, .val e2, .val (.int (i : Nat))], ?_, ?_, _, rfl, .inr ⟨_, rfl⟩⟩
        · subst q2
          rcases hv with rfl | ⟨_, rfl⟩ <;> rfl
        · exact (kf_step t1 t2 b1 b2 lw ln (by omega)).2 (s3 i hi)) (fun d hd en ⟨x, hx, hv⟩ => by
        obtain ⟨q1, q2⟩ := range_at hd
        subst hx
        refine ⟨[.val e1, .val e2, .val (.int (s : Nat))], [.val e1, .val e2, .val (.int (s : Nat))], ?_, ?_, ⟨_, rfl⟩⟩
        · subst q2
          rcases hv with rfl | ⟨_, rfl⟩ <;> rfl
        · exact (kf_step t1 t2 b1 b2 lw ln (by omega)).1 s2)
    rw [← rng_z] at f1
    obtain ⟨x, hx⟩ := f2
    subst hx
    exact (sem_rt (args := [.val d1, .val d2]) rfl (go _ f1)).trans rfl
  · obtain ⟨e', f1, f2⟩ := for_inv (t := .nm 2) (body := l_kind_fewer_1) (f := fun i : Nat => D.int (i : Nat)) (ds := List.range (n + 1))
      (Iv := fun _ en => ∃ x : Slot, en = [.val e1, .val e2, x] ∧ (x = .un ∨ ∃ d, x = .val d)) (en := [.val e1, .val e2, .un]) ⟨_, rfl, .inl rfl⟩ (fun i d hd en ⟨x, hx, hv⟩ => by
        obtain ⟨q1, q2⟩ := range_at hd
        subst hx
        refine ⟨[.val e1, .val e2, .val (.int (i : Nat))], [.val e1, .val e2, .val (.int (i : Nat))], ?_, ?_, _, rfl, .inr ⟨_, rfl⟩⟩
        · subst q2
          rcases hv with rfl | ⟨_, rfl⟩ <;> rfl
        · exact (kf_step t1 t2 b1 b2 lw ln (by omega)).2 (hs i (by omega)))
    rw [← rng_z] at f1
    obtain ⟨x, hx, _⟩ := f2
    subst hx
    exact (sem_rt (args := [.val d1, .val d2]) rfl (go _ f1)).trans rfl
end
end HD
set_option Elab.async false
set_option linter.all false
set_option maxRecDepth 100000
set_option maxHeartbeats 1000000
namespace HD
open PySem PySem.Spec PyProof.Rows L2 Mn
section
variable {w u : List Int} {n : Nat}
theorem fin_2 {a b : D} {e : En} : fin [.val a, .val b] (.val a :: .val b :: e) = [.val a, .val b] := rfl
theorem du_yes {ki kn : Int} {w' u' : List D} {a b W U : D} {r1 r2 r3 r4 r5 : List D} (q1 : slE W (some ki) none = some (.val (.tpb w'))) (q2 : slE U (some ki) none = some (.val (.tpb u'))) (c1 : cntD (.tpb w') [.int 1] = some (.val a)) (c2 : cntD (.tpb u') [.int 1] = some (.val b)) (lt : ltD a b = some (.val (.bl true)))
    (ll : lenD W = some (.val (.int kn))) (g1 : mulD (.lst [.int 1]) (.int ki) = some (.own false (.lst r1))) (g2 : mulD (.lst [.int 0]) (.int kn) = some (.own false (.lst r2))) (g3 : mulD (.lst [.int 1]) (.int kn) = some (.own false (.lst r3))) (a1 : addE (.lst r1) (.lst r2) = some (.own false (.lst r4))) (a2 : addE (.lst r4) (.lst r3) = some (.own false (.lst r5))) :
    l__law_due_1 [.val W, .val U, .val (.int ki)] = .rt (.val (.tpb [.int ki, .tpb r5])) [.val W, .val U, .val (.int ki)] := by
  unfold l__law_due_1
  simp only [ap_seq, ap_skip, ap_ret, ap_retN, ap_drop, ap_if, ap_set, ap_par, ap_for, ap_unp, ap_raise, ap_bind, ap_retf, ap_V, ap_O, ap_S, ap_C, ap_nameO, ap_nameV, ap_2, ap_fin2, ap_N, ap_finN, ap_Os0, ap_Os1, ap_Vs0, ap_Vs1, ap_Rs0, ap_Rs1, ap_tup, ap_tupB, ap_lst, ap_T, ap_B, ap_not, ap_and, ap_or, ap_andV, ap_orV, ap_notV, ap_ife, ap_1, ap_ch, ap_sl, ap_P0, ap_P1, ap_callX, ap_callE, ap_R1, ap_It, ap_Mt, ap_Rd, ap_put, ap_putAt, ap_LstRg, ap_Rg0, getD, getDs, lent, okAll, setAll, argsOf, argOf, slotsO, nodupB, backE, ap1, fin, pickA, List.getElem?_cons_zero, List.getElem?_cons_succ, List.set_cons_zero, List.set_cons_succ, List.nil_append, List.cons_append, List.mem_cons, List.not_mem_nil, or_false, Nat.reduceEqDiff, not_false_eq_true, decide_true, Bool.and_true, Bool.true_and, Bool.not_false, Bool.not_true, reduceCtorEq, reduceIte, q1, q2, c1, c2, lt, kindB, eq_self, g1, g2, g3, a1, a2, ll, tupD, List.length_cons, List.length_nil, Nat.reduceAdd, Nat.reduceLeDiff]
theorem du_no {ki : Int} {w' u' : List D} {a b W U : D} (q1 : slE W (some ki) none = some (.val (.tpb w'))) (q2 : slE U (some ki) none = some (.val (.tpb u'))) (c1 : cntD (.tpb w') [.int 1] = some (.val a)) (c2 : cntD (.tpb u') [.int 1] = some (.val b)) (lt : ltD a b = some (.val (.bl false))) :
    l__law_due_1 [.val W, .val U, .val (.int ki)] = .nx [.val W, .val U, .val (.int ki)] := by
  unfold l__law_due_1
  simp only [ap_seq, ap_skip, ap_ret, ap_retN, ap_drop, ap_if, ap_set, ap_par, ap_for, ap_unp, ap_raise, ap_bind, ap_retf, ap_V, ap_O, ap_S, ap_C, ap_nameO, ap_nameV, ap_2, ap_fin2, ap_N, ap_finN, ap_Os0, ap_Os1, ap_Vs0, ap_Vs1, ap_Rs0, ap_Rs1, ap_tup, ap_tupB, ap_lst, ap_T, ap_B, ap_not, ap_and, ap_or, ap_andV, ap_orV, ap_notV, ap_ife, ap_1, ap_ch, ap_sl, ap_P0, ap_P1, ap_callX, ap_callE, ap_R1, ap_It, ap_Mt, ap_Rd, ap_put, ap_putAt, ap_LstRg, ap_Rg0, getD, getDs, lent, okAll, setAll, argsOf, argOf, slotsO, nodupB, backE, ap1, fin, pickA, List.getElem?_cons_zero, List.getElem?_cons_succ, List.set_cons_zero, List.set_cons_succ, List.nil_append, List.cons_append, List.mem_cons, List.not_mem_nil, or_false, Nat.reduceEqDiff, not_false_eq_true, decide_true, Bool.and_true, Bool.true_and, Bool.not_false, Bool.not_true, reduceCtorEq, reduceIte, q1, q2, c1, c2, lt, kindB, eq_self]
theorem du_step (lw : w.length = n) (ln : n ≤ 100) {i : Nat} (hi : i ≤ n) :
    (Pu.one1 (w.drop i) < Pu.one1 (u.drop i) → l__law_due_1 [.val (.tpb (ids w)), .val (.tpb (ids u)), .val (.int (i : Nat))] = .rt (.val (.tpb [.int (i : Nat), .tpb (ids (Pu.marks i n))])) [.val (.tpb (ids w)), .val (.tpb (ids u)), .val (.int (i : Nat))])
    ∧ (¬ Pu.one1 (w.drop i) < Pu.one1 (u.drop i) → l__law_due_1 [.val (.tpb (ids w)), .val (.tpb (ids u)), .val (.int (i : Nat))] = .nx [.val (.tpb (ids w)), .val (.tpb (ids u)), .val (.int (i : Nat))]) := by
  have c1 := (Sq.b (w.drop i)).count (i := 1)
  have c2 := (Sq.b (u.drop i)).count (i := 1)
  have ll := (Sq.b w).len
  rw [lw] at ll
  refine ⟨fun h => ?_, fun h => ?_⟩
  · exact du_yes slE_tpb slE_tpb c1 c2 (by rw [Mn.lt_int, decide_eq_true]; unfold Pu.one1 at h; omega) ll (mul_lst (by omega)) (mul_lst (by omega)) (mul_lst (by omega)) (add_lst (by simp; omega)) (add_lst (by simp; omega))
  · exact du_no slE_tpb slE_tpb c1 c2 (by rw [Mn.lt_int, decide_eq_false]; unfold Pu.one1 at h; omega)
/-- what the law holds to be due -/
theorem t_due (lw : w.length = n) (ln : n ≤ 100) :
    (∀ s, Due w u s → m__law_due [.val (.tpb (ids w)), .val (.tpb (ids u))] = .ok (.val (.tpb [.int (s : Nat), .tpb (ids (Pu.marks s n))])) [.val (.tpb (ids w)), .val (.tpb (ids u))]) ∧ (NoDue w u → m__law_due [.val (.tpb (ids w)), .val (.tpb (ids u))] = .ok (.val .non) [.val (.tpb (ids w)), .val (.tpb (ids u))]) := by
  have l1 := (Sq.b w).len
  rw [lw] at l1
  have ad : addE (.int (n : Nat)) (.int 1) = some (.val (.int ((n + 1 : Nat) : Int))) := by rw [Mn.add_int]; rfl
  have go : ∀ r, forL (.nm 2) l__law_due_1 (rng 0 (n + 1)) [.val (.tpb (ids w)), .val (.tpb (ids u)), .un] = r → b__law_due [.val (.tpb (ids w)), .val (.tpb (ids u)), .un] = (match r with | .nx e => SRes.rt (.val .non) e | r => r) := fun r hr => by
    subst hr
    unfold b__law_due
    simp only [ap_seq, ap_skip, ap_ret, ap_retN, ap_drop, ap_if, ap_set, ap_par, ap_for, ap_unp, ap_raise, ap_bind, ap_retf, ap_V, ap_O, ap_S, ap_C, ap_nameO, ap_nameV, ap_2, ap_fin2, ap_N, ap_finN, ap_Os0, ap_Os1, ap_Vs0, ap_Vs1, ap_Rs0, ap_Rs1, ap_tup, ap_tupB, ap_lst, ap_T, ap_B, ap_not, ap_and, ap_or, ap_andV, ap_orV, ap_notV, ap_ife, ap_1, ap_ch, ap_sl, ap_P0, ap_P1, ap_callX, ap_callE, ap_R1, ap_It, ap_Mt, ap_Rd, ap_put, ap_putAt, ap_LstRg, ap_Rg0, getD, getDs, lent, okAll, setAll, argsOf, argOf, slotsO, nodupB, backE, ap1, fin, pickA, List.getElem?_cons_zero, List.getElem?_cons_succ, List.set_cons_zero, List.set_cons_succ, List.nil_append, List.cons_append, List.mem_cons, List.not_mem_nil, or_false, Nat.reduceEqDiff, not_false_eq_true, decide_true, Bool.and_true, Bool.true_and, Bool.not_false, Bool.not_true, reduceCtorEq, reduceIte, l1, ad, small_nat (k := n + 1) (by omega), Int.toNat_natCast]
    all_goals (cases forL (.nm 2) l__law_due_1 (rng 0 (n + 1)) [.val (.tpb (ids w)), .val (.tpb (ids u)), .un] <;> rfl)
  refine ⟨fun s hs => ?_, fun hs => ?_⟩
  · obtain ⟨s1, s2, s3⟩ := hs
    obtain ⟨e', f1, f2⟩ := for_rt (t := .nm 2) (body := l__law_due_1) (f := fun i : Nat => D.int (i : Nat)) (r := .val (.tpb [.int (s : Nat), .tpb (ids (Pu.marks s n))])) (Pe := fun en => ∃ x : Slot, en = [.val (.tpb (ids w)), .val (.tpb (ids u)), x]) (ds := List.range (n + 1)) (s := s)
      (Iv := fun _ en => ∃ x : Slot, en = [.val (.tpb (ids w)), .val (.tpb (ids u)), x] ∧ (x = .un ∨ ∃ d, x = .val d)) (en := [.val (.tpb (ids w)), .val (.tpb (ids u)), .un]) (by rw [List.length_range]; omega) ⟨_, rfl, .inl rfl⟩ (fun i d hi hd en ⟨x, hx, hv⟩ => by
        obtain ⟨q1, q2⟩ := range_at hd
        subst hx
        refine ⟨[.val (.tpb (ids w)), .val (.tpb (ids u)), .val (.int (i : Nat))], [.val (.tpb (ids w)), .val (.tpb (ids u)), .val (.int (i : Nat))], ?_, ?_, _, rfl, .inr ⟨_, rfl⟩⟩
        · subst q2
          rcases hv with rfl | ⟨_, rfl⟩ <;> rfl
        · exact (du_step lw ln (by omega)).2 (s3 i hi)) (fun d hd en ⟨x, hx, hv⟩ => by
        obtain ⟨q1, q2⟩ := range_at hd
        subst hx
        refine ⟨[.val (.tpb (ids w)), .val (.tpb (ids u)), .val (.int (s : Nat))], [.val (.tpb (ids w)), .val (.tpb (ids u)), .val (.int (s : Nat))], ?_, ?_, ⟨_, rfl⟩⟩
        · subst q2
          rcases hv with rfl | ⟨_, rfl⟩ <;> rfl
        · exact (du_step lw ln (by omega)).1 s2)
    rw [← rng_z] at f1
    obtain ⟨x, hx⟩ := f2
    subst hx
    have r := go _ f1
    dsimp only at r
    exact (sem_rt (n := 2) (m := 3) (b := b__law_due) (args := [.val (.tpb (ids w)), .val (.tpb (ids u))]) rfl r).trans (congrArg (Res.ok _) fin_2)
  · obtain ⟨e', f1, f2⟩ := for_inv (t := .nm 2) (body := l__law_due_1) (f := fun i : Nat => D.int (i : Nat)) (ds := List.range (n + 1))
      (Iv := fun _ en => ∃ x : Slot, en = [.val (.tpb (ids w)), .val (.tpb (ids u)), x] ∧ (x = .un ∨ ∃ d, x = .val d)) (en := [.val (.tpb (ids w)), .val (.tpb (ids u)), .un]) ⟨_, rfl, .inl rfl⟩ (fun i d hd en ⟨x, hx, hv⟩ => by
        obtain ⟨q1, q2⟩ := range_at hd
        subst hx
        refine ⟨[.val (.tpb (ids w)), .val (.tpb (ids u)), .val (.int (i : Nat))], [.val (.tpb (ids w)), .val (.tpb (ids u)), .val (.int (i : Nat))], ?_, ?_, _, rfl, .inr ⟨_, rfl⟩⟩
        · subst q2
          rcases hv with rfl | ⟨_, rfl⟩ <;> rfl
        · exact (du_step lw ln (by omega)).2 (hs i (by omega)))
    rw [← rng_z] at f1
    obtain ⟨x, hx, _⟩ := f2
    subst hx
    have r := go _ f1
    dsimp only at r
    exact (sem_rt (n := 2) (m := 3) (b := b__law_due) (args := [.val (.tpb (ids w)), .val (.tpb (ids u))]) rfl r).trans (congrArg (Res.ok _) fin_2)
end
end HD
set_option Elab.async false
set_option linter.all false
set_option maxRecDepth 100000
set_option maxHeartbeats 0
namespace HD
open PySem PySem.Spec PyProof.Rows L2 Mn
/-- what the book of a word keeps of told marks -/
def chk (n s : Nat) (w : List Int) : Bool := match m_word_book [.val (.tup (ids (Pu.marks s n))), .val (.tpb (ids w))] with
  | .ok (.own false bk) _ => match m_end_list [.val bk, .val (.lst (rgD 0 ((Pu.marks s n).length : Nat)))] with
    | .ok (.val (.tup xs)) _ => match intsD xs with
      | some L => decide (L.length < 100) && (L.all (fun i => decide (0 ≤ i) && decide (i.toNat < (Pu.marks s n).length)) && decide ((L.filter fun i => (Pu.marks s n)[i.toNat]? == some 1).length = s + Pu.one1 (w.drop s)))
      | none => false
    | _ => false
  | _ => false
/-- all rows of so many noughts and ones, as the law lists them -/
def wds : Nat → List (List Int)
  | 0 => [[]]
  | n + 1 => (wds n).flatMap fun w => [w ++ [0], w ++ [1]]
end HD
set_option Elab.async false
set_option linter.all false
set_option maxRecDepth 100000
set_option maxHeartbeats 1000000
namespace HD
open PySem PySem.Spec PyProof.Rows L2 Mn
def repOk (n s : Nat) : Bool := Mn.plain (.tup [.int (s : Nat), .tup (ids (Pu.marks s n))]) && (toP (.tup [.int (s : Nat), .tup (ids (Pu.marks s n))])).showable && decide ((toP (.tup [.int (s : Nat), .tup (ids (Pu.marks s n))])).depth ≤ 60) && decide ((Mn.shown (.tup [.int (s : Nat), .tup (ids (Pu.marks s n))])).length ≤ sizeLine)
theorem rep_tab : ((List.range 10).all fun n => (List.range 10).all fun s => repOk n s) = true := by kernel_rfl
theorem rep_of {n s : Nat} (hn : n ≤ 9) (hs : s ≤ 9) : ∃ x, reprD (.tup [.int (s : Nat), .tup (ids (Pu.marks s n))]) = some (.val (.str x)) ∧ reprD (.tpb [.int (s : Nat), .tpb (ids (Pu.marks s n))]) = some (.val (.str x)) := by
  have h := List.all_eq_true.mp (List.all_eq_true.mp rep_tab n (List.mem_range.mpr (by omega))) s (List.mem_range.mpr (by omega))
  have e : toP (.tpb [.int (s : Nat), .tpb (ids (Pu.marks s n))]) = toP (.tup [.int (s : Nat), .tup (ids (Pu.marks s n))]) := by simp [toP, toPs]
  have p : Mn.plain (.tpb [.int (s : Nat), .tpb (ids (Pu.marks s n))]) = Mn.plain (.tup [.int (s : Nat), .tup (ids (Pu.marks s n))]) := by simp [Mn.plain, plains]
  unfold repOk at h
  refine ⟨Mn.shown (.tup [.int (s : Nat), .tup (ids (Pu.marks s n))]), ?_, ?_⟩
  · unfold reprD
    rw [if_pos h]
  · unfold reprD
    have e2 : Mn.shown (.tpb [.int (s : Nat), .tpb (ids (Pu.marks s n))]) = Mn.shown (.tup [.int (s : Nat), .tup (ids (Pu.marks s n))]) := by
      unfold Mn.shown
      rw [e]
    rw [p, e, e2, if_pos h]
theorem rg_small {k : Nat} (h : k ≤ 1000) : rgOk (0, ((k : Nat) : Int)) = true := by
  unfold rgOk
  rw [decide_eq_true]
  dsimp only
  omega
theorem ids_of : ∀ {xs : List D} {L : List Int}, intsD xs = some L → xs = ids L
  | [], L, h => by cases h; rfl
  | d :: xs, L, h => by
    cases d with
    | int i =>
      have h' : (match intsD xs with | some is => some (i :: is) | none => none) = some L := h
      cases q : intsD xs with
      | none => rw [q] at h'; cases h'
      | some is =>
        rw [q] at h'
        cases h'
        rw [ids_of q]
        rfl
    | _ => cases h
theorem fin_val : ∀ {as es : En}, (∀ s ∈ as, ∃ d, s = Slot.val d) → fin as es = as
  | [], es, _ => by cases es <;> rfl
  | a :: as, [], _ => rfl
  | a :: as, e :: es, h => by
    obtain ⟨d, rfl⟩ := h a List.mem_cons_self
    show Slot.val d :: fin as es = _
    rw [fin_val fun x hx => h x (List.mem_cons_of_mem _ hx)]
theorem sem_back {n m : Nat} {b : Fs} {args a : En} {r : Slot} (h : semOf n m b args = .ok r a) (v : ∀ s ∈ args, ∃ d, s = Slot.val d) : a = args := by
  unfold semOf at h
  split at h
  · split at h
    · cases h
      exact fin_val v
    · cases h
      exact fin_val v
    · cases h
    · cases h
  · cases h
theorem vals2 {c d : D} : ∀ s ∈ [Slot.val c, Slot.val d], ∃ d, s = Slot.val d := fun s h => by
  rcases List.mem_cons.mp h with h | h
  · exact ⟨_, h⟩
  · exact ⟨_, List.mem_singleton.mp h⟩
theorem chk_of {n s : Nat} {w : List Int} (h : chk n s w = true) : ∃ bk L, m_word_book [.val (.tup (ids (Pu.marks s n))), .val (.tpb (ids w))] = .ok (.own false bk) [.val (.tup (ids (Pu.marks s n))), .val (.tpb (ids w))] ∧ m_end_list [.val bk, .val (.lst (rgD 0 ((Pu.marks s n).length : Nat)))] = .ok (.val (.tup (ids L))) [.val bk, .val (.lst (rgD 0 ((Pu.marks s n).length : Nat)))] ∧
    L.length < 100 ∧ (∀ i ∈ L, ∃ k : Nat, i = (k : Int) ∧ k < (Pu.marks s n).length) ∧ (L.filter fun (i : Int) => (Pu.marks s n)[i.toNat]? == some 1).length = s + Pu.one1 (w.drop s) := by
  unfold chk at h
  split at h
  · rename_i bk a1 e1
    split at h
    · rename_i xs a2 e2
      split at h
      · rename_i L e3
        rw [Bool.and_eq_true, Bool.and_eq_true, decide_eq_true_eq, decide_eq_true_eq, List.all_eq_true] at h
        obtain ⟨h1, h2, h3⟩ := h
        rw [ids_of e3] at e2
        have z1 := sem_back e1 vals2
        have z2 := sem_back e2 vals2
        subst z1 z2
        refine ⟨bk, L, e1, e2, h1, fun i hi => ?_, h3⟩
        have z := h2 i hi
        rw [Bool.and_eq_true, decide_eq_true_eq, decide_eq_true_eq] at z
        exact ⟨i.toNat, by omega, z.2⟩
      · cases h
    · cases h
  · cases h
section
variable {n s : Nat} {x : List Int} {W U D0 T : D} {cs : List D} {lo hi z10 z11 : Slot}
theorem pr_body {M X S bk St c : D} {cs cs' acc : List D} {kl : Int} (l1 : lenD M = some (.val (.int kl))) (rg : rgOk (0, kl) = true) (e1 : m_word_book [.val M, .val X] = .ok (.own false bk) [.val M, .val X]) (e2 : m_end_list [.val bk, .val (.lst (rgD 0 kl))] = .ok (.val St) [.val bk, .val (.lst (rgD 0 kl))])
    (lc : mLc [11] (.nm 11) (mIt (mNameV 10)) q__law_pair_right_1 c__law_pair_right_1 [.val W, .val U, .val D0, .val T, .own false (.lst cs), .val X, .val S, .val M, lo, hi, .val St, z11] = .ok (.own false (.lst acc)) [.val W, .val U, .val D0, .val T, .own false (.lst cs), .val X, .val S, .val M, lo, hi, .val St, z10])
    (ln2 : lenD (.lst acc) = some (.val c)) (ap : opAppend cs [c] = some (cs', .non)) {z : Slot} (pz : Pl z) :
    l__law_pair_right_1 [.val W, .val U, .val D0, .val T, .own false (.lst cs), .val X, .val S, .val M, lo, hi, z, z11] = .nx [.val W, .val U, .val D0, .val T, .own false (.lst cs'), .val X, .val S, .val M, lo, hi, .val St, z10] := by
  unfold l__law_pair_right_1
  rcases pz with rfl | ⟨d, rfl⟩
  all_goals
    simp only [ap_seq, ap_skip, ap_ret, ap_retN, ap_drop, ap_if, ap_set, ap_par, ap_for, ap_unp, ap_raise, ap_bind, ap_retf, ap_V, ap_O, ap_S, ap_C, ap_nameO, ap_nameV, ap_2, ap_fin2, ap_N, ap_finN, ap_Os0, ap_Os1, ap_Vs0, ap_Vs1, ap_Rs0, ap_Rs1, ap_tup, ap_tupB, ap_lst, ap_T, ap_B, ap_not, ap_and, ap_or, ap_andV, ap_orV, ap_notV, ap_ife, ap_1, ap_ch, ap_sl, ap_P0, ap_P1, ap_callX, ap_callE, ap_R1, ap_It, ap_Mt, ap_Rd, ap_put, ap_putAt, ap_LstRg, ap_Rg0, getD, getDs, lent, okAll, setAll, argsOf, argOf, slotsO, nodupB, backE, ap1, fin, pickA, List.getElem?_cons_zero, List.getElem?_cons_succ, List.set_cons_zero, List.set_cons_succ, List.nil_append, List.cons_append, List.mem_cons, List.not_mem_nil, or_false, Nat.reduceEqDiff, not_false_eq_true, decide_true, Bool.and_true, Bool.true_and, Bool.not_false, Bool.not_true, reduceCtorEq, reduceIte, e1, l1, rg, e2, lc, ln2, ap]
theorem pr_step (ln : s + 2 * n ≤ 100) (hc : cs.length ≤ 10) (h : chk n s x = true) (p10 : Pl z10) (p11 : Pl z11) : ∃ z10' z11', Pl z10' ∧ Pl z11' ∧
    l__law_pair_right_1 [.val W, .val U, .val D0, .val T, .own false (.lst cs), .val (.tpb (ids x)), .val (.int (s : Nat)), .val (.tup (ids (Pu.marks s n))), lo, hi, z10, z11] =
      .nx [.val W, .val U, .val D0, .val T, .own false (.lst (cs ++ [.int ((s + Pu.one1 (x.drop s) : Nat) : Int)])), .val (.tpb (ids x)), .val (.int (s : Nat)), .val (.tup (ids (Pu.marks s n))), lo, hi, z10', z11'] := by
  obtain ⟨bk, L, e1, e2, h1, h2, h3⟩ := chk_of h
  have lm : (Pu.marks s n).length = s + 2 * n := by unfold Pu.marks; simp; omega
  have l1 := (Sq.t (Pu.marks s n)).len
  have rg : rgOk (0, ((Pu.marks s n).length : Nat)) = true := rg_small (by omega)
  obtain ⟨e', f1, z, f2⟩ := lc_some (t := .nm 11) (tt := q__law_pair_right_1) (te := c__law_pair_right_1) (vs := [11]) (f := D.int) (g := D.int) (p := fun i => (Pu.marks s n)[i.toNat]? == some 1) (ds := L)
    (Iv := fun en => ∃ z, en = [.val W, .val U, .val D0, .val T, .own false (.lst cs), .val (.tpb (ids x)), .val (.int (s : Nat)), .val (.tup (ids (Pu.marks s n))), lo, hi, .val (.tup (ids L)), z]) (fun i hi' en ⟨z, hz⟩ => by
      subst hz
      obtain ⟨k, hk, hl⟩ := h2 i hi'
      subst hk
      obtain ⟨y, hy⟩ : ∃ y, (Pu.marks s n)[k]? = some y := ⟨_, List.getElem?_eq_getElem hl⟩
      have ix := (Sq.t (Pu.marks s n)).ix hy
      refine ⟨[.val W, .val U, .val D0, .val T, .own false (.lst cs), .val (.tpb (ids x)), .val (.int (s : Nat)), .val (.tup (ids (Pu.marks s n))), lo, hi, .val (.tup (ids L)), .val (.int (k : Nat))], [.val W, .val U, .val D0, .val T, .own false (.lst cs), .val (.tpb (ids x)), .val (.int (s : Nat)), .val (.tup (ids (Pu.marks s n))), lo, hi, .val (.tup (ids L)), .val (.int (k : Nat))], rfl, ?_, fun _ => ⟨_, rfl⟩, fun _ => ⟨[.val W, .val U, .val D0, .val T, .own false (.lst cs), .val (.tpb (ids x)), .val (.int (s : Nat)), .val (.tup (ids (Pu.marks s n))), lo, hi, .val (.tup (ids L)), .val (.int (k : Nat))], rfl, _, rfl⟩⟩
      unfold q__law_pair_right_1
      simp only [ap_seq, ap_skip, ap_ret, ap_retN, ap_drop, ap_if, ap_set, ap_par, ap_for, ap_unp, ap_raise, ap_bind, ap_retf, ap_V, ap_O, ap_S, ap_C, ap_nameO, ap_nameV, ap_2, ap_fin2, ap_N, ap_finN, ap_Os0, ap_Os1, ap_Vs0, ap_Vs1, ap_Rs0, ap_Rs1, ap_tup, ap_tupB, ap_lst, ap_T, ap_B, ap_not, ap_and, ap_or, ap_andV, ap_orV, ap_notV, ap_ife, ap_1, ap_ch, ap_sl, ap_P0, ap_P1, ap_callX, ap_callE, ap_R1, ap_It, ap_Mt, ap_Rd, ap_put, ap_putAt, ap_LstRg, ap_Rg0, getD, getDs, lent, okAll, setAll, argsOf, argOf, slotsO, nodupB, backE, ap1, fin, pickA, List.getElem?_cons_zero, List.getElem?_cons_succ, List.set_cons_zero, List.set_cons_succ, List.nil_append, List.cons_append, List.mem_cons, List.not_mem_nil, or_false, Nat.reduceEqDiff, not_false_eq_true, decide_true, Bool.and_true, Bool.true_and, Bool.not_false, Bool.not_true, reduceCtorEq, reduceIte, ix, Mn.eqE_int]
      rw [Int.toNat_natCast, hy]
      rfl) [] [.val W, .val U, .val D0, .val T, .own false (.lst cs), .val (.tpb (ids x)), .val (.int (s : Nat)), .val (.tup (ids (Pu.marks s n))), lo, hi, .val (.tup (ids L)), z11] ⟨_, rfl⟩
  subst f2
  have it : mIt (mNameV 10) [.val W, .val U, .val D0, .val T, .own false (.lst cs), .val (.tpb (ids x)), .val (.int (s : Nat)), .val (.tup (ids (Pu.marks s n))), lo, hi, .val (.tup (ids L)), z11] = .ok (ids L) [.val W, .val U, .val D0, .val T, .own false (.lst cs), .val (.tpb (ids x)), .val (.int (s : Nat)), .val (.tup (ids (Pu.marks s n))), lo, hi, .val (.tup (ids L)), z11] := by
    simp only [ap_seq, ap_skip, ap_ret, ap_retN, ap_drop, ap_if, ap_set, ap_par, ap_for, ap_unp, ap_raise, ap_bind, ap_retf, ap_V, ap_O, ap_S, ap_C, ap_nameO, ap_nameV, ap_2, ap_fin2, ap_N, ap_finN, ap_Os0, ap_Os1, ap_Vs0, ap_Vs1, ap_Rs0, ap_Rs1, ap_tup, ap_tupB, ap_lst, ap_T, ap_B, ap_not, ap_and, ap_or, ap_andV, ap_orV, ap_notV, ap_ife, ap_1, ap_ch, ap_sl, ap_P0, ap_P1, ap_callX, ap_callE, ap_R1, ap_It, ap_Mt, ap_Rd, ap_put, ap_putAt, ap_LstRg, ap_Rg0, getD, getDs, lent, okAll, setAll, argsOf, argOf, slotsO, nodupB, backE, ap1, fin, pickA, List.getElem?_cons_zero, List.getElem?_cons_succ, List.set_cons_zero, List.set_cons_succ, List.nil_append, List.cons_append, List.mem_cons, List.not_mem_nil, or_false, Nat.reduceEqDiff, not_false_eq_true, decide_true, Bool.and_true, Bool.true_and, Bool.not_false, Bool.not_true, reduceCtorEq, reduceIte, (Sq.t L).items]
  have nl : (noneLent [.val W, .val U, .val D0, .val T, .own false (.lst cs), .val (.tpb (ids x)), .val (.int (s : Nat)), .val (.tup (ids (Pu.marks s n))), lo, hi, .val (.tup (ids L)), z11] [11] && decide ((ids L).length < lim)) = true := by
    rw [ids_len, decide_eq_true (by unfold lim; omega)]
    rcases p11 with rfl | ⟨_, rfl⟩ <;> rfl
  have lc := lc_ok it nl f1
  have rs : ∃ z11', Pl z11' ∧ restore [.val W, .val U, .val D0, .val T, .own false (.lst cs), .val (.tpb (ids x)), .val (.int (s : Nat)), .val (.tup (ids (Pu.marks s n))), lo, hi, .val (.tup (ids L)), z11] [11] (wipeEn [.val W, .val U, .val D0, .val T, .own false (.lst cs), .val (.tpb (ids x)), .val (.int (s : Nat)), .val (.tup (ids (Pu.marks s n))), lo, hi, .val (.tup (ids L)), z] [11]) =
      [.val W, .val U, .val D0, .val T, .own false (.lst cs), .val (.tpb (ids x)), .val (.int (s : Nat)), .val (.tup (ids (Pu.marks s n))), lo, hi, .val (.tup (ids L)), z11'] := by
    rcases p11 with rfl | ⟨d, rfl⟩
    · exact ⟨.un, .inl rfl, rfl⟩
    · exact ⟨.val d, .inr ⟨d, rfl⟩, rfl⟩
  obtain ⟨z11', p', rs⟩ := rs
  rw [rs] at lc
  have ln2 : lenD (.lst ([] ++ (L.filter fun (i : Int) => (Pu.marks s n)[i.toNat]? == some 1).map D.int)) = some (.val (.int ((s + Pu.one1 (x.drop s) : Nat) : Int))) := by
    show some (Slot.val (.int (([] ++ (L.filter fun (i : Int) => (Pu.marks s n)[i.toNat]? == some 1).map D.int).length : Nat))) = _
    rw [List.nil_append, List.length_map, h3]
  have ap : opAppend cs [.int ((s + Pu.one1 (x.drop s) : Nat) : Int)] = some (cs ++ [.int ((s + Pu.one1 (x.drop s) : Nat) : Int)], .non) := by
    unfold opAppend
    dsimp only
    rw [if_pos (by unfold sizeLine; omega)]
  refine ⟨.val (.tup (ids L)), z11', .inr ⟨_, rfl⟩, p', ?_⟩
  exact pr_body l1 rg e1 e2 lc ln2 ap p10
end
theorem bind2 {i j : Nat} {a b : D} {en : En} : bindT (.tp [.nm i, .nm j]) (.tup [a, b]) en = if lent en i = true then none else if lent (en.set i (.val a)) j = true then none else some ((en.set i (.val a)).set j (.val b)) := by
  unfold bindT bindTs bindT
  by_cases c : lent en i = true
  · rw [if_pos c, if_pos c]
  · rw [if_neg c, if_neg c]
    dsimp only
    unfold bindTs bindT
    by_cases c2 : lent (en.set i (.val a)) j = true
    · rw [if_pos c2]
    · rw [if_neg c2]
      rfl
/-- what the law asks of two words is so -/
theorem t_pair {w u : List Int} {n : Nat} {d : D} (b1 : Pu.Bits w) (b2 : Pu.Bits u) (lw : w.length = n) (lu : u.length = n) (ln : n ≤ 9) (l0 : n ≠ 0) (hd : (NoDue w u ∧ d = .non) ∨ ∃ s, Due w u s ∧ d = .tpb [.int (s : Nat), .tpb (ids (Pu.marks s n))])
    (tab : ∀ s, s ≤ n → s + 2 * n ≤ 9 → Pu.one1 (w.drop s) < Pu.one1 (u.drop s) → chk n s w = true ∧ chk n s u = true) :
    m__law_pair_right [.val (.tpb (ids w)), .val (.tpb (ids u)), .val d] = .ok (.val (.bl true)) [.val (.tpb (ids w)), .val (.tpb (ids u)), .val d] := by
  obtain ⟨k1, k2⟩ := t_kind (Sq.l w) (Sq.b u) b1 b2 lw lu (by omega) l0
  have li := (Sq.b w).list
  rcases hd with ⟨nd, rfl⟩ | ⟨s, hs, rfl⟩
  · have k := k2 nd
    have rp : ∃ x, reprD .non = some (.val (.str x)) := ⟨Mn.shown .non, by kernel_rfl⟩
    obtain ⟨x, rp⟩ := rp
    have ne : neE (.str x) (.str x) = some (.val (.bl false)) := by unfold neE; simp
    refine sem_rt (args := [.val (.tpb (ids w)), .val (.tpb (ids u)), .val .non]) (e := [.val (.tpb (ids w)), .val (.tpb (ids u)), .val .non, .val .non, .un, .un, .un, .un, .un, .un, .un, .un]) rfl ?_
    show b__law_pair_right [.val (.tpb (ids w)), .val (.tpb (ids u)), .val .non, .un, .un, .un, .un, .un, .un, .un, .un, .un] = _
    unfold b__law_pair_right
    simp only [ap_seq, ap_skip, ap_ret, ap_retN, ap_drop, ap_if, ap_set, ap_par, ap_for, ap_unp, ap_raise, ap_bind, ap_retf, ap_V, ap_O, ap_S, ap_C, ap_nameO, ap_nameV, ap_2, ap_fin2, ap_N, ap_finN, ap_Os0, ap_Os1, ap_Vs0, ap_Vs1, ap_Rs0, ap_Rs1, ap_tup, ap_tupB, ap_lst, ap_T, ap_B, ap_not, ap_and, ap_or, ap_andV, ap_orV, ap_notV, ap_ife, ap_1, ap_ch, ap_sl, ap_P0, ap_P1, ap_callX, ap_callE, ap_R1, ap_It, ap_Mt, ap_Rd, ap_put, ap_putAt, ap_LstRg, ap_Rg0, getD, getDs, lent, okAll, setAll, argsOf, argOf, slotsO, nodupB, backE, ap1, fin, pickA, List.getElem?_cons_zero, List.getElem?_cons_succ, List.set_cons_zero, List.set_cons_succ, List.nil_append, List.cons_append, List.mem_cons, List.not_mem_nil, or_false, Nat.reduceEqDiff, not_false_eq_true, decide_true, Bool.and_true, Bool.true_and, Bool.not_false, Bool.not_true, reduceCtorEq, reduceIte, li, k, rp, ne, isD, Mn.isNon]
  · have k := k1 s hs
    obtain ⟨s1, s2, s3⟩ := hs
    obtain ⟨x, rp1, rp2⟩ := rep_of (n := n) (s := s) ln (by omega)
    have ne : neE (.str x) (.str x) = some (.val (.bl false)) := by unfold neE; simp
    have lm : (Pu.marks s n).length = s + 2 * n := by unfold Pu.marks; simp; omega
    have st1 := t_stays (Sq.b w) (Sq.t (Pu.marks s n)) (by omega) (.inl rfl)
    have st2 := t_stays (Sq.b u) (Sq.t (Pu.marks s n)) (by omega) (.inl rfl)
    rw [Pu.told b1 lw (by omega)] at st1
    rw [Pu.told b2 lu (by omega)] at st2
    have c1 := (Sq.b (w.drop s)).count (i := 1)
    have c2 := (Sq.b (u.drop s)).count (i := 1)
    have c1' : cntD (.tpb (ids (w.drop s))) [.int 1] = some (.val (.int (Pu.one1 (w.drop s) : Nat))) := c1
    have c2' : cntD (.tpb (ids (u.drop s))) [.int 1] = some (.val (.int (Pu.one1 (u.drop s) : Nat))) := c2
    have ne2 : neE (.lst [.int ((s : Int) + (Pu.one1 (w.drop s) : Nat)), .int ((s : Int) + (Pu.one1 (u.drop s) : Nat))]) (.lst [.int ((s : Int) + (Pu.one1 (w.drop s) : Nat)), .int ((s : Int) + (Pu.one1 (u.drop s) : Nat))]) = some (.val (.bl false)) := by
      rw [neE_int2, decide_eq_true rfl, decide_eq_true rfl]
      rfl
    have eq2 : eqE (.lst [.int ((s + Pu.one1 (w.drop s) : Nat) : Int), .int ((s + Pu.one1 (u.drop s) : Nat) : Int)]) (.lst [.int ((s : Int) + (Pu.one1 (w.drop s) : Nat)), .int ((s : Int) + (Pu.one1 (u.drop s) : Nat))]) = some (.val (.bl true)) := by
      rw [eqE_int2, decide_eq_true (by omega), decide_eq_true (by omega)]
      rfl
    have lt : ltD (.int ((s : Int) + (Pu.one1 (w.drop s) : Nat))) (.int ((s : Int) + (Pu.one1 (u.drop s) : Nat))) = some (.val (.bl true)) := by rw [Mn.lt_int, decide_eq_true (by omega)]
    have lm2 := (Sq.t (Pu.marks s n)).len
    rw [lm] at lm2
    have fin3 : ∀ e : En, fin [.val (.tpb (ids w)), .val (.tpb (ids u)), .val (.tpb [.int (s : Nat), .tpb (ids (Pu.marks s n))])] (.val (.tpb (ids w)) :: .val (.tpb (ids u)) :: .val (.tpb [.int (s : Nat), .tpb (ids (Pu.marks s n))]) :: e) = [.val (.tpb (ids w)), .val (.tpb (ids u)), .val (.tpb [.int (s : Nat), .tpb (ids (Pu.marks s n))])] := fun e => rfl
    by_cases big : 9 < s + 2 * n
    · have gt : gtD (.int ((s + 2 * n : Nat) : Int)) (.int 9) = some (.val (.bl true)) := by rw [Mn.gt_int, decide_eq_true (by omega)]
      have r : ∃ e, b__law_pair_right [.val (.tpb (ids w)), .val (.tpb (ids u)), .val (.tpb [.int (s : Nat), .tpb (ids (Pu.marks s n))]), .un, .un, .un, .un, .un, .un, .un, .un, .un] = .rt (.val (.bl true)) (.val (.tpb (ids w)) :: .val (.tpb (ids u)) :: .val (.tpb [.int (s : Nat), .tpb (ids (Pu.marks s n))]) :: e) := by
        unfold b__law_pair_right
        simp only [ap_seq, ap_skip, ap_ret, ap_retN, ap_drop, ap_if, ap_set, ap_par, ap_for, ap_unp, ap_raise, ap_bind, ap_retf, ap_V, ap_O, ap_S, ap_C, ap_nameO, ap_nameV, ap_2, ap_fin2, ap_N, ap_finN, ap_Os0, ap_Os1, ap_Vs0, ap_Vs1, ap_Rs0, ap_Rs1, ap_tup, ap_tupB, ap_lst, ap_T, ap_B, ap_not, ap_and, ap_or, ap_andV, ap_orV, ap_notV, ap_ife, ap_1, ap_ch, ap_sl, ap_P0, ap_P1, ap_callX, ap_callE, ap_R1, ap_It, ap_Mt, ap_Rd, ap_put, ap_putAt, ap_LstRg, ap_Rg0, getD, getDs, lent, okAll, setAll, argsOf, argOf, slotsO, nodupB, backE, ap1, fin, pickA, List.getElem?_cons_zero, List.getElem?_cons_succ, List.set_cons_zero, List.set_cons_succ, List.nil_append, List.cons_append, List.mem_cons, List.not_mem_nil, or_false, Nat.reduceEqDiff, not_false_eq_true, decide_true, Bool.and_true, Bool.true_and, Bool.not_false, Bool.not_true, reduceCtorEq, reduceIte, li, k, rp1, rp2, ne, isD, Mn.isNon, bind2, st1, st2, slE_tpb, kindB, eq_self, c1', c2', Mn.add_int, ne2, lm2, gt, lt, List.length_cons, List.length_nil, Nat.reduceAdd, Nat.reduceLeDiff, Bool.not_false, Bool.and_true, Bool.true_and]
        exact ⟨_, rfl⟩
      obtain ⟨e, r⟩ := r
      exact (sem_rt rfl r).trans (congrArg _ (fin3 e))
    · have gt : gtD (.int ((s + 2 * n : Nat) : Int)) (.int 9) = some (.val (.bl false)) := by rw [Mn.gt_int, decide_eq_false (by omega)]
      obtain ⟨t1, t2⟩ := tab s (lw ▸ s1) (by omega) s2
      obtain ⟨y10, y11, p10, p11, q1⟩ := pr_step (W := .tpb (ids w)) (U := .tpb (ids u)) (D0 := .tpb [.int (s : Nat), .tpb (ids (Pu.marks s n))]) (T := .tup [.int (s : Nat), .tup (ids (Pu.marks s n))]) (cs := []) (lo := .val (.int ((s : Int) + (Pu.one1 (w.drop s) : Nat)))) (hi := .val (.int ((s : Int) + (Pu.one1 (u.drop s) : Nat)))) (z10 := .un) (z11 := .un) (by omega) (by simp) t1 (.inl rfl) (.inl rfl)
      obtain ⟨x10, x11, _, _, q2⟩ := pr_step (W := .tpb (ids w)) (U := .tpb (ids u)) (D0 := .tpb [.int (s : Nat), .tpb (ids (Pu.marks s n))]) (T := .tup [.int (s : Nat), .tup (ids (Pu.marks s n))]) (cs := [.int ((s + Pu.one1 (w.drop s) : Nat) : Int)]) (lo := .val (.int ((s : Int) + (Pu.one1 (w.drop s) : Nat)))) (hi := .val (.int ((s : Int) + (Pu.one1 (u.drop s) : Nat)))) (by omega) (by simp) t2 p10 p11
      have fo : forL (.nm 5) l__law_pair_right_1 [.tpb (ids w), .tpb (ids u)] [.val (.tpb (ids w)), .val (.tpb (ids u)), .val (.tpb [.int (s : Nat), .tpb (ids (Pu.marks s n))]), .val (.tup [.int (s : Nat), .tup (ids (Pu.marks s n))]), .own false (.lst []), .un, .val (.int (s : Nat)), .val (.tup (ids (Pu.marks s n))), .val (.int ((s : Int) + (Pu.one1 (w.drop s) : Nat))), .val (.int ((s : Int) + (Pu.one1 (u.drop s) : Nat))), .un, .un] =
          .nx [.val (.tpb (ids w)), .val (.tpb (ids u)), .val (.tpb [.int (s : Nat), .tpb (ids (Pu.marks s n))]), .val (.tup [.int (s : Nat), .tup (ids (Pu.marks s n))]), .own false (.lst [.int ((s + Pu.one1 (w.drop s) : Nat) : Int), .int ((s + Pu.one1 (u.drop s) : Nat) : Int)]), .val (.tpb (ids u)), .val (.int (s : Nat)), .val (.tup (ids (Pu.marks s n))), .val (.int ((s : Int) + (Pu.one1 (w.drop s) : Nat))), .val (.int ((s : Int) + (Pu.one1 (u.drop s) : Nat))), x10, x11] := by
        unfold forL
        rw [show bindT (.nm 5) (.tpb (ids w)) [.val (.tpb (ids w)), .val (.tpb (ids u)), .val (.tpb [.int (s : Nat), .tpb (ids (Pu.marks s n))]), .val (.tup [.int (s : Nat), .tup (ids (Pu.marks s n))]), .own false (.lst []), .un, .val (.int (s : Nat)), .val (.tup (ids (Pu.marks s n))), .val (.int ((s : Int) + (Pu.one1 (w.drop s) : Nat))), .val (.int ((s : Int) + (Pu.one1 (u.drop s) : Nat))), .un, .un] = some [.val (.tpb (ids w)), .val (.tpb (ids u)), .val (.tpb [.int (s : Nat), .tpb (ids (Pu.marks s n))]), .val (.tup [.int (s : Nat), .tup (ids (Pu.marks s n))]), .own false (.lst []), .val (.tpb (ids w)), .val (.int (s : Nat)), .val (.tup (ids (Pu.marks s n))), .val (.int ((s : Int) + (Pu.one1 (w.drop s) : Nat))), .val (.int ((s : Int) + (Pu.one1 (u.drop s) : Nat))), .un, .un] from rfl]
        dsimp only
        rw [q1]
        dsimp only
        unfold forL
        rw [List.nil_append]
        rw [show bindT (.nm 5) (.tpb (ids u)) [.val (.tpb (ids w)), .val (.tpb (ids u)), .val (.tpb [.int (s : Nat), .tpb (ids (Pu.marks s n))]), .val (.tup [.int (s : Nat), .tup (ids (Pu.marks s n))]), .own false (.lst [.int ((s + Pu.one1 (w.drop s) : Nat) : Int)]), .val (.tpb (ids w)), .val (.int (s : Nat)), .val (.tup (ids (Pu.marks s n))), .val (.int ((s : Int) + (Pu.one1 (w.drop s) : Nat))), .val (.int ((s : Int) + (Pu.one1 (u.drop s) : Nat))), y10, y11] = some [.val (.tpb (ids w)), .val (.tpb (ids u)), .val (.tpb [.int (s : Nat), .tpb (ids (Pu.marks s n))]), .val (.tup [.int (s : Nat), .tup (ids (Pu.marks s n))]), .own false (.lst [.int ((s + Pu.one1 (w.drop s) : Nat) : Int)]), .val (.tpb (ids u)), .val (.int (s : Nat)), .val (.tup (ids (Pu.marks s n))), .val (.int ((s : Int) + (Pu.one1 (w.drop s) : Nat))), .val (.int ((s : Int) + (Pu.one1 (u.drop s) : Nat))), y10, y11] from rfl]
        dsimp only
        rw [q2]
        rfl
      have r : ∃ e, b__law_pair_right [.val (.tpb (ids w)), .val (.tpb (ids u)), .val (.tpb [.int (s : Nat), .tpb (ids (Pu.marks s n))]), .un, .un, .un, .un, .un, .un, .un, .un, .un] = .rt (.val (.bl true)) (.val (.tpb (ids w)) :: .val (.tpb (ids u)) :: .val (.tpb [.int (s : Nat), .tpb (ids (Pu.marks s n))]) :: e) := by
        unfold b__law_pair_right
        simp only [ap_seq, ap_skip, ap_ret, ap_retN, ap_drop, ap_if, ap_set, ap_par, ap_for, ap_unp, ap_raise, ap_bind, ap_retf, ap_V, ap_O, ap_S, ap_C, ap_nameO, ap_nameV, ap_2, ap_fin2, ap_N, ap_finN, ap_Os0, ap_Os1, ap_Vs0, ap_Vs1, ap_Rs0, ap_Rs1, ap_tup, ap_tupB, ap_lst, ap_T, ap_B, ap_not, ap_and, ap_or, ap_andV, ap_orV, ap_notV, ap_ife, ap_1, ap_ch, ap_sl, ap_P0, ap_P1, ap_callX, ap_callE, ap_R1, ap_It, ap_Mt, ap_Rd, ap_put, ap_putAt, ap_LstRg, ap_Rg0, getD, getDs, lent, okAll, setAll, argsOf, argOf, slotsO, nodupB, backE, ap1, fin, pickA, List.getElem?_cons_zero, List.getElem?_cons_succ, List.set_cons_zero, List.set_cons_succ, List.nil_append, List.cons_append, List.mem_cons, List.not_mem_nil, or_false, Nat.reduceEqDiff, not_false_eq_true, decide_true, Bool.and_true, Bool.true_and, Bool.not_false, Bool.not_true, reduceCtorEq, reduceIte, li, k, rp1, rp2, ne, isD, Mn.isNon, bind2, st1, st2, slE_tpb, kindB, eq_self, c1', c2', Mn.add_int, ne2, lm2, gt, lt, itemsOf, fo, eq2, List.length_cons, List.length_nil, Nat.reduceAdd, Nat.reduceLeDiff, Bool.not_false, Bool.and_true, Bool.true_and]
        exact ⟨_, rfl⟩
      obtain ⟨e, r⟩ := r
      exact (sem_rt rfl r).trans (congrArg _ (fin3 e))
end HD
set_option Elab.async false
set_option linter.all false
set_option maxRecDepth 100000
set_option maxHeartbeats 1000000
namespace HD
open PySem PySem.Spec PyProof.Rows L2 Mn
theorem p18 : powD (.int 10) (.int 18) = some (.val (.int 1000000000000000000)) := by kernel_rfl
theorem len_scr {ns : List Int} : lenD (.scr ns) = some (.val (.int (ns.length : Nat))) := (Sq.s ns).len
/-- a source's three numbers, from its cell -/
theorem bx_mk {q0 q1 q2 : D} {cell k : Int} (h0 : 0 ≤ cell) (k0 : 0 ≤ k) (k1 : k ≤ 100) : ∃ c s : Int, 0 ≤ c ∧ 0 ≤ s ∧ s < 2 ^ 40 ∧
    mLst [(mV (m2 ixD (mO (mV (mLst [(mC (.int 0)), (mNameV 2)]))) (mO (mV (mN (ap1 intD) [(mO (mV (m2 geD (mNameO 2) (mO (mV (m2 powD (mO (mC (.int 10))) (mO (mC (.int 18)))))))))]))))), (mV (m2 addE (mO (mV (m2 modD (mO (mV (mN (ap1 intD) [(mO (mV (m2 addE (mO (mV (m2 mulD (mO (mV (m2 modD (mO (mV (mN (ap1 intD) [(mNameO 2)]))) (mO (mC (.int 2147483629)))))) (mO (mC (.int 38377)))))) (mO (mV (m2 mulD (mO (mC (.int 71129))) (mNameO 1)))))))]))) (mO (mC (.int 2147483629)))))) (mO (mC (.int 1))))), (mC (.int 0))] [.val q0, .val (.int k), .val (.int cell)] = .ok (.own false (bx c s 0)) [.val q0, .val (.int k), .val (.int cell)] := by
  obtain ⟨r1, hr1⟩ : ∃ r, r = cell.fmod 2147483629 := ⟨_, rfl⟩
  have b1 := fm (a := cell) (k := 2147483629) h0 (by decide)
  rw [← hr1] at b1
  have e1 : mulD (.int r1) (.int 38377) = some (.val (.int (r1 * 38377))) := Mn.mul_int (by omega) (by decide)
  have e2 : mulD (.int 71129) (.int k) = some (.val (.int (71129 * k))) := Mn.mul_int (by decide) (by omega)
  obtain ⟨r2, hr2⟩ : ∃ r, r = (r1 * 38377 + 71129 * k).fmod 2147483629 := ⟨_, rfl⟩
  have b2 := fm (a := r1 * 38377 + 71129 * k) (k := 2147483629) (by omega) (by decide)
  rw [← hr2] at b2
  have d1 := Mn.mod_int (a := cell) (b := 2147483629) (by decide)
  rw [← hr1] at d1
  have d2 := Mn.mod_int (a := r1 * 38377 + 71129 * k) (b := 2147483629) (by decide)
  rw [← hr2] at d2
  have x0 : ∀ a b : D, ixD (.lst [a, b]) (.int 0) = some (.val a) := fun _ _ => rfl
  have x1 : ∀ a b : D, ixD (.lst [a, b]) (.int 1) = some (.val b) := fun _ _ => rfl
  by_cases c : (1000000000000000000 : Int) ≤ cell
  · refine ⟨cell, r2 + 1, h0, by omega, by omega, ?_⟩
    have g : geD (.int cell) (.int 1000000000000000000) = some (.val (.bl true)) := by rw [Mn.ge_int, decide_eq_true c]
    have i1 : intD (.bl true) = some (.val (.int 1)) := rfl
    simp only [ap_seq, ap_skip, ap_ret, ap_retN, ap_drop, ap_if, ap_set, ap_par, ap_for, ap_unp, ap_raise, ap_bind, ap_retf, ap_V, ap_O, ap_S, ap_C, ap_nameO, ap_nameV, ap_2, ap_fin2, ap_N, ap_finN, ap_Os0, ap_Os1, ap_Vs0, ap_Vs1, ap_Rs0, ap_Rs1, ap_tup, ap_tupB, ap_lst, ap_T, ap_B, ap_not, ap_and, ap_or, ap_andV, ap_orV, ap_notV, ap_ife, ap_1, ap_ch, ap_sl, ap_P0, ap_P1, ap_callX, ap_callE, ap_R1, ap_It, ap_Mt, ap_Rd, ap_put, ap_putAt, ap_LstRg, ap_Rg0, getD, getDs, lent, okAll, setAll, argsOf, argOf, slotsO, nodupB, backE, ap1, fin, pickA, List.getElem?_cons_zero, List.getElem?_cons_succ, List.set_cons_zero, List.set_cons_succ, List.nil_append, List.cons_append, List.mem_cons, List.not_mem_nil, or_false, Nat.reduceEqDiff, not_false_eq_true, decide_true, Bool.and_true, Bool.true_and, Bool.not_false, Bool.not_true, reduceCtorEq, reduceIte, p18, g, i1, x1, Mn.int_int, d1, e1, e2, Mn.add_int, d2, List.length_cons, List.length_nil, Nat.reduceAdd, Nat.reduceLeDiff]
  · refine ⟨0, r2 + 1, by omega, by omega, by omega, ?_⟩
    have g : geD (.int cell) (.int 1000000000000000000) = some (.val (.bl false)) := by rw [Mn.ge_int, decide_eq_false c]
    have i0 : intD (.bl false) = some (.val (.int 0)) := rfl
    simp only [ap_seq, ap_skip, ap_ret, ap_retN, ap_drop, ap_if, ap_set, ap_par, ap_for, ap_unp, ap_raise, ap_bind, ap_retf, ap_V, ap_O, ap_S, ap_C, ap_nameO, ap_nameV, ap_2, ap_fin2, ap_N, ap_finN, ap_Os0, ap_Os1, ap_Vs0, ap_Vs1, ap_Rs0, ap_Rs1, ap_tup, ap_tupB, ap_lst, ap_T, ap_B, ap_not, ap_and, ap_or, ap_andV, ap_orV, ap_notV, ap_ife, ap_1, ap_ch, ap_sl, ap_P0, ap_P1, ap_callX, ap_callE, ap_R1, ap_It, ap_Mt, ap_Rd, ap_put, ap_putAt, ap_LstRg, ap_Rg0, getD, getDs, lent, okAll, setAll, argsOf, argOf, slotsO, nodupB, backE, ap1, fin, pickA, List.getElem?_cons_zero, List.getElem?_cons_succ, List.set_cons_zero, List.set_cons_succ, List.nil_append, List.cons_append, List.mem_cons, List.not_mem_nil, or_false, Nat.reduceEqDiff, not_false_eq_true, decide_true, Bool.and_true, Bool.true_and, Bool.not_false, Bool.not_true, reduceCtorEq, reduceIte, p18, g, i0, x0, Mn.int_int, d1, e1, e2, Mn.add_int, d2, List.length_cons, List.length_nil, Nat.reduceAdd, Nat.reduceLeDiff]
theorem fin_b {a b : D} {e : En} : fin [.val a, .val b] (.val a :: .val b :: e) = [.val a, .val b] := rfl
/-- the box of a cell -/
theorem t_box {ns : List Int} {k : Nat} (hk : k ≤ 10) : ∃ d, m__law_box [.val (.scr ns), .val (.int (k : Nat))] = .ok (.own false d) [.val (.scr ns), .val (.int (k : Nat))] ∧ Bx 100000 d := by
  have m1 : mulD (.int 6121) (.int ((k : Nat) : Int)) = some (.val (.int (6121 * (k : Nat)))) := Mn.mul_int (by decide) (by omega)
  have ls := len_scr (ns := ns)
  have go : ∃ cell : Int, 0 ≤ cell ∧ ∀ r, (sSeq (sRet (mLst [(mV (m2 ixD (mO (mV (mLst [(mC (.int 0)), (mNameV 2)]))) (mO (mV (mN (ap1 intD) [(mO (mV (m2 geD (mNameO 2) (mO (mV (m2 powD (mO (mC (.int 10))) (mO (mC (.int 18)))))))))]))))), (mV (m2 addE (mO (mV (m2 modD (mO (mV (mN (ap1 intD) [(mO (mV (m2 addE (mO (mV (m2 mulD (mO (mV (m2 modD (mO (mV (mN (ap1 intD) [(mNameO 2)]))) (mO (mC (.int 2147483629)))))) (mO (mC (.int 38377)))))) (mO (mV (m2 mulD (mO (mC (.int 71129))) (mNameO 1)))))))]))) (mO (mC (.int 2147483629)))))) (mO (mC (.int 1))))), (mC (.int 0))])) sSkip) [.val (.scr ns), .val (.int (k : Nat)), .val (.int cell)] = r → b__law_box [.val (.scr ns), .val (.int (k : Nat)), .un] = r := by
    by_cases c1 : k < ns.length
    · have lt : ltD (.int ((k : Nat) : Int)) (.int (ns.length : Nat)) = some (.val (.bl true)) := by rw [Mn.lt_int, decide_eq_true (by omega)]
      obtain ⟨y, hy⟩ : ∃ y, ns[k]? = some y := ⟨_, List.getElem?_eq_getElem c1⟩
      have ix := (Sq.s ns).ix hy
      have ab : absD (.int y) = some (.val (.int (if y < 0 then -y else y))) := rfl
      refine ⟨if y < 0 then -y else y, by split <;> omega, fun r hr => ?_⟩
      subst hr
      generalize ((k : Nat) : Int) = ki at m1 lt ix ⊢
      generalize (if y < 0 then -y else y) = cell at ab ⊢
      unfold b__law_box
      rw [seq_nx (e := [.val (.scr ns), .val (.int ki), .val (.int (6121 * ki + 877))]) (by simp only [ap_seq, ap_skip, ap_ret, ap_retN, ap_drop, ap_if, ap_set, ap_par, ap_for, ap_unp, ap_raise, ap_bind, ap_retf, ap_V, ap_O, ap_S, ap_C, ap_nameO, ap_nameV, ap_2, ap_fin2, ap_N, ap_finN, ap_Os0, ap_Os1, ap_Vs0, ap_Vs1, ap_Rs0, ap_Rs1, ap_tup, ap_tupB, ap_lst, ap_T, ap_B, ap_not, ap_and, ap_or, ap_andV, ap_orV, ap_notV, ap_ife, ap_1, ap_ch, ap_sl, ap_P0, ap_P1, ap_callX, ap_callE, ap_R1, ap_It, ap_Mt, ap_Rd, ap_put, ap_putAt, ap_LstRg, ap_Rg0, getD, getDs, lent, okAll, setAll, argsOf, argOf, slotsO, nodupB, backE, ap1, fin, pickA, List.getElem?_cons_zero, List.getElem?_cons_succ, List.set_cons_zero, List.set_cons_succ, List.nil_append, List.cons_append, List.mem_cons, List.not_mem_nil, or_false, Nat.reduceEqDiff, not_false_eq_true, decide_true, Bool.and_true, Bool.true_and, Bool.not_false, Bool.not_true, reduceCtorEq, reduceIte, m1, Mn.add_int]) rfl]
      exact seq_nx (by simp only [ap_seq, ap_skip, ap_ret, ap_retN, ap_drop, ap_if, ap_set, ap_par, ap_for, ap_unp, ap_raise, ap_bind, ap_retf, ap_V, ap_O, ap_S, ap_C, ap_nameO, ap_nameV, ap_2, ap_fin2, ap_N, ap_finN, ap_Os0, ap_Os1, ap_Vs0, ap_Vs1, ap_Rs0, ap_Rs1, ap_tup, ap_tupB, ap_lst, ap_T, ap_B, ap_not, ap_and, ap_or, ap_andV, ap_orV, ap_notV, ap_ife, ap_1, ap_ch, ap_sl, ap_P0, ap_P1, ap_callX, ap_callE, ap_R1, ap_It, ap_Mt, ap_Rd, ap_put, ap_putAt, ap_LstRg, ap_Rg0, getD, getDs, lent, okAll, setAll, argsOf, argOf, slotsO, nodupB, backE, ap1, fin, pickA, List.getElem?_cons_zero, List.getElem?_cons_succ, List.set_cons_zero, List.set_cons_succ, List.nil_append, List.cons_append, List.mem_cons, List.not_mem_nil, or_false, Nat.reduceEqDiff, not_false_eq_true, decide_true, Bool.and_true, Bool.true_and, Bool.not_false, Bool.not_true, reduceCtorEq, reduceIte, ls, lt, ix, ab]) rfl
    · have lt : ltD (.int ((k : Nat) : Int)) (.int (ns.length : Nat)) = some (.val (.bl false)) := by rw [Mn.lt_int, decide_eq_false (by omega)]
      by_cases c2 : 0 < ns.length
      · have gt : gtD (.int (ns.length : Nat)) (.int 0) = some (.val (.bl true)) := by rw [Mn.gt_int, decide_eq_true (by omega)]
        have md : modD (.int ((k : Nat) : Int)) (.int (ns.length : Nat)) = some (.val (.int ((k % ns.length : Nat) : Int))) := by
          rw [Mn.mod_int (by omega), Int.fmod_eq_emod_of_nonneg _ (by omega)]
          rfl
        obtain ⟨y, hy⟩ : ∃ y, ns[k % ns.length]? = some y := ⟨_, List.getElem?_eq_getElem (Nat.mod_lt _ c2)⟩
        have ix := (Sq.s ns).ix hy
        have ab : absD (.int y) = some (.val (.int (if y < 0 then -y else y))) := rfl
        have a0 : 0 ≤ (if y < 0 then -y else y) := by split <;> omega
        generalize (if y < 0 then -y else y) = ya at ab a0
        have fmy := fm (a := ya) (k := 2147483629) a0 (by decide)
        have d1 := Mn.mod_int (a := ya) (b := 2147483629) (by decide)
        generalize ya.fmod 2147483629 = r1 at fmy d1
        have e1 : mulD (.int r1) (.int 60013) = some (.val (.int (r1 * 60013))) := Mn.mul_int (by omega) (by decide)
        refine ⟨6121 * (k : Nat) + 877 + r1 * 60013, by omega, fun r hr => ?_⟩
        subst hr
        generalize ((k % ns.length : Nat) : Int) = kj at md ix
        generalize ((k : Nat) : Int) = ki at m1 lt md ⊢
        generalize ((ns.length : Nat) : Int) = kn at lt gt md ls
        unfold b__law_box
        rw [seq_nx (e := [.val (.scr ns), .val (.int ki), .val (.int (6121 * ki + 877))]) (by simp only [ap_seq, ap_skip, ap_ret, ap_retN, ap_drop, ap_if, ap_set, ap_par, ap_for, ap_unp, ap_raise, ap_bind, ap_retf, ap_V, ap_O, ap_S, ap_C, ap_nameO, ap_nameV, ap_2, ap_fin2, ap_N, ap_finN, ap_Os0, ap_Os1, ap_Vs0, ap_Vs1, ap_Rs0, ap_Rs1, ap_tup, ap_tupB, ap_lst, ap_T, ap_B, ap_not, ap_and, ap_or, ap_andV, ap_orV, ap_notV, ap_ife, ap_1, ap_ch, ap_sl, ap_P0, ap_P1, ap_callX, ap_callE, ap_R1, ap_It, ap_Mt, ap_Rd, ap_put, ap_putAt, ap_LstRg, ap_Rg0, getD, getDs, lent, okAll, setAll, argsOf, argOf, slotsO, nodupB, backE, ap1, fin, pickA, List.getElem?_cons_zero, List.getElem?_cons_succ, List.set_cons_zero, List.set_cons_succ, List.nil_append, List.cons_append, List.mem_cons, List.not_mem_nil, or_false, Nat.reduceEqDiff, not_false_eq_true, decide_true, Bool.and_true, Bool.true_and, Bool.not_false, Bool.not_true, reduceCtorEq, reduceIte, m1, Mn.add_int]) rfl]
        exact seq_nx (by simp only [ap_seq, ap_skip, ap_ret, ap_retN, ap_drop, ap_if, ap_set, ap_par, ap_for, ap_unp, ap_raise, ap_bind, ap_retf, ap_V, ap_O, ap_S, ap_C, ap_nameO, ap_nameV, ap_2, ap_fin2, ap_N, ap_finN, ap_Os0, ap_Os1, ap_Vs0, ap_Vs1, ap_Rs0, ap_Rs1, ap_tup, ap_tupB, ap_lst, ap_T, ap_B, ap_not, ap_and, ap_or, ap_andV, ap_orV, ap_notV, ap_ife, ap_1, ap_ch, ap_sl, ap_P0, ap_P1, ap_callX, ap_callE, ap_R1, ap_It, ap_Mt, ap_Rd, ap_put, ap_putAt, ap_LstRg, ap_Rg0, getD, getDs, lent, okAll, setAll, argsOf, argOf, slotsO, nodupB, backE, ap1, fin, pickA, List.getElem?_cons_zero, List.getElem?_cons_succ, List.set_cons_zero, List.set_cons_succ, List.nil_append, List.cons_append, List.mem_cons, List.not_mem_nil, or_false, Nat.reduceEqDiff, not_false_eq_true, decide_true, Bool.and_true, Bool.true_and, Bool.not_false, Bool.not_true, reduceCtorEq, reduceIte, ls, lt, gt, Mn.int_int, md, ix, ab, d1, e1, Mn.add_int]) rfl
      · have gt : gtD (.int (ns.length : Nat)) (.int 0) = some (.val (.bl false)) := by rw [Mn.gt_int, decide_eq_false (by omega)]
        refine ⟨6121 * (k : Nat) + 877, by omega, fun r hr => ?_⟩
        subst hr
        generalize ((k : Nat) : Int) = ki at m1 lt ⊢
        generalize ((ns.length : Nat) : Int) = kn at lt gt ls
        unfold b__law_box
        rw [seq_nx (e := [.val (.scr ns), .val (.int ki), .val (.int (6121 * ki + 877))]) (by simp only [ap_seq, ap_skip, ap_ret, ap_retN, ap_drop, ap_if, ap_set, ap_par, ap_for, ap_unp, ap_raise, ap_bind, ap_retf, ap_V, ap_O, ap_S, ap_C, ap_nameO, ap_nameV, ap_2, ap_fin2, ap_N, ap_finN, ap_Os0, ap_Os1, ap_Vs0, ap_Vs1, ap_Rs0, ap_Rs1, ap_tup, ap_tupB, ap_lst, ap_T, ap_B, ap_not, ap_and, ap_or, ap_andV, ap_orV, ap_notV, ap_ife, ap_1, ap_ch, ap_sl, ap_P0, ap_P1, ap_callX, ap_callE, ap_R1, ap_It, ap_Mt, ap_Rd, ap_put, ap_putAt, ap_LstRg, ap_Rg0, getD, getDs, lent, okAll, setAll, argsOf, argOf, slotsO, nodupB, backE, ap1, fin, pickA, List.getElem?_cons_zero, List.getElem?_cons_succ, List.set_cons_zero, List.set_cons_succ, List.nil_append, List.cons_append, List.mem_cons, List.not_mem_nil, or_false, Nat.reduceEqDiff, not_false_eq_true, decide_true, Bool.and_true, Bool.true_and, Bool.not_false, Bool.not_true, reduceCtorEq, reduceIte, m1, Mn.add_int]) rfl]
        exact seq_nx (by simp only [ap_seq, ap_skip, ap_ret, ap_retN, ap_drop, ap_if, ap_set, ap_par, ap_for, ap_unp, ap_raise, ap_bind, ap_retf, ap_V, ap_O, ap_S, ap_C, ap_nameO, ap_nameV, ap_2, ap_fin2, ap_N, ap_finN, ap_Os0, ap_Os1, ap_Vs0, ap_Vs1, ap_Rs0, ap_Rs1, ap_tup, ap_tupB, ap_lst, ap_T, ap_B, ap_not, ap_and, ap_or, ap_andV, ap_orV, ap_notV, ap_ife, ap_1, ap_ch, ap_sl, ap_P0, ap_P1, ap_callX, ap_callE, ap_R1, ap_It, ap_Mt, ap_Rd, ap_put, ap_putAt, ap_LstRg, ap_Rg0, getD, getDs, lent, okAll, setAll, argsOf, argOf, slotsO, nodupB, backE, ap1, fin, pickA, List.getElem?_cons_zero, List.getElem?_cons_succ, List.set_cons_zero, List.set_cons_succ, List.nil_append, List.cons_append, List.mem_cons, List.not_mem_nil, or_false, Nat.reduceEqDiff, not_false_eq_true, decide_true, Bool.and_true, Bool.true_and, Bool.not_false, Bool.not_true, reduceCtorEq, reduceIte, ls, lt, gt]) rfl
  obtain ⟨cell, h0, go⟩ := go
  obtain ⟨c, s, c0, s0, s1, e⟩ := bx_mk (q0 := .scr ns) (q1 := .non) (q2 := .non) (cell := cell) (k := (k : Nat)) h0 (by omega) (by omega)
  refine ⟨bx c s 0, ?_, c, s, 0, rfl, c0, s0, s1, by omega, by omega⟩
  exact (sem_rt (n := 2) (m := 3) (b := b__law_box) (args := [.val (.scr ns), .val (.int (k : Nat))]) rfl (go _ (seq_rt (ret_rt e)))).trans (congrArg (Res.ok _) fin_b)
end HD
set_option Elab.async false
set_option linter.all false
set_option maxRecDepth 100000
set_option maxHeartbeats 1000000
namespace HD
open PySem PySem.Spec PyProof.Rows L2 Mn
section
variable {b0 b1 b3 b4 b5 b6 b7 b8 b9 b10 b11 b12 b13 b14 b15 : Slot} {d : D} {t : Nat} {k : Int}
/-- the law's slots: its box stands at 2 -/
abbrev Bn (b0 b1 : Slot) (d : D) (b3 b4 b5 b6 b7 b8 b9 b10 b11 b12 b13 b14 b15 : Slot) : En := [b0, b1, .own false d, b3, b4, b5, b6, b7, b8, b9, b10, b11, b12, b13, b14, b15]
/-- a draw below a number that is told -/
theorem tk_d (h : Bx (t + 1) d) (k0 : 0 < k) (k1 : k < 1000000) {o : Fx Opd} (ho : o (Bn b0 b1 d b3 b4 b5 b6 b7 b8 b9 b10 b11 b12 b13 b14 b15) = .ok (.dat (.int k)) (Bn b0 b1 d b3 b4 b5 b6 b7 b8 b9 b10 b11 b12 b13 b14 b15)) :
    ∃ v d', mCallX m__law_take [mNameO 2, o] [] (Bn b0 b1 d b3 b4 b5 b6 b7 b8 b9 b10 b11 b12 b13 b14 b15) = .ok (.val (.int v)) (Bn b0 b1 d' b3 b4 b5 b6 b7 b8 b9 b10 b11 b12 b13 b14 b15) ∧ 0 ≤ v ∧ v < k ∧ Bx t d' := by
  obtain ⟨v, d', e, v0, v1, b⟩ := t_take h k0 k1
  refine ⟨v, d', ?_, v0, v1, b⟩
  simp only [ap_seq, ap_skip, ap_ret, ap_retN, ap_drop, ap_if, ap_set, ap_par, ap_for, ap_unp, ap_raise, ap_bind, ap_retf, ap_V, ap_O, ap_S, ap_C, ap_nameO, ap_nameV, ap_2, ap_fin2, ap_N, ap_finN, ap_Os0, ap_Os1, ap_Vs0, ap_Vs1, ap_Rs0, ap_Rs1, ap_tup, ap_tupB, ap_lst, ap_T, ap_B, ap_not, ap_and, ap_or, ap_andV, ap_orV, ap_notV, ap_ife, ap_1, ap_ch, ap_sl, ap_P0, ap_P1, ap_callX, ap_callE, ap_R1, ap_It, ap_Mt, ap_Rd, ap_put, ap_putAt, ap_LstRg, ap_Rg0, getD, getDs, lent, okAll, setAll, argsOf, argOf, slotsO, nodupB, backE, ap1, fin, pickA, List.getElem?_cons_zero, List.getElem?_cons_succ, List.set_cons_zero, List.set_cons_succ, List.nil_append, List.cons_append, List.mem_cons, List.not_mem_nil, or_false, Nat.reduceEqDiff, not_false_eq_true, decide_true, Bool.and_true, Bool.true_and, Bool.not_false, Bool.not_true, reduceCtorEq, reduceIte, ho, e]
/-- a draw below what stands at 4 -/
theorem tk_4 (h : Bx (t + 1) d) (k0 : 0 < k) (k1 : k < 1000000) :
    ∃ v d', mCallX m__law_take [mNameO 2, mNameO 4] [] (Bn b0 b1 d b3 (.val (.int k)) b5 b6 b7 b8 b9 b10 b11 b12 b13 b14 b15) = .ok (.val (.int v)) (Bn b0 b1 d' b3 (.val (.int k)) b5 b6 b7 b8 b9 b10 b11 b12 b13 b14 b15) ∧ 0 ≤ v ∧ v < k ∧ Bx t d' := by
  obtain ⟨v, d', e, v0, v1, b⟩ := t_take h k0 k1
  refine ⟨v, d', ?_, v0, v1, b⟩
  simp only [ap_seq, ap_skip, ap_ret, ap_retN, ap_drop, ap_if, ap_set, ap_par, ap_for, ap_unp, ap_raise, ap_bind, ap_retf, ap_V, ap_O, ap_S, ap_C, ap_nameO, ap_nameV, ap_2, ap_fin2, ap_N, ap_finN, ap_Os0, ap_Os1, ap_Vs0, ap_Vs1, ap_Rs0, ap_Rs1, ap_tup, ap_tupB, ap_lst, ap_T, ap_B, ap_not, ap_and, ap_or, ap_andV, ap_orV, ap_notV, ap_ife, ap_1, ap_ch, ap_sl, ap_P0, ap_P1, ap_callX, ap_callE, ap_R1, ap_It, ap_Mt, ap_Rd, ap_put, ap_putAt, ap_LstRg, ap_Rg0, getD, getDs, lent, okAll, setAll, argsOf, argOf, slotsO, nodupB, backE, ap1, fin, pickA, List.getElem?_cons_zero, List.getElem?_cons_succ, List.set_cons_zero, List.set_cons_succ, List.nil_append, List.cons_append, List.mem_cons, List.not_mem_nil, or_false, Nat.reduceEqDiff, not_false_eq_true, decide_true, Bool.and_true, Bool.true_and, Bool.not_false, Bool.not_true, reduceCtorEq, reduceIte, e]
theorem kO {en : En} {x : D} : mO (mC x) en = .ok (.dat x) en := rfl
theorem bit_of {v : Int} (h : 0 ≤ v) (k : v < 2) : v = 0 ∨ v = 1 := by omega
/-- bits drawn: c at slot 7 -/
theorem dr_7 : ∀ {ds : List D} {t : Nat} {d : D} {s7 : Slot} {acc : List D}, Bx (t + ds.length) d → ∃ w d' s7', lcL (.nm 7) mYes c_law_1 [7] ds acc (Bn b0 b1 d b3 b4 b5 b6 s7 b8 b9 b10 b11 b12 b13 b14 b15) = .ok (acc ++ ids w) (Bn b0 b1 d' b3 b4 b5 b6 s7' b8 b9 b10 b11 b12 b13 b14 b15) ∧ w.length = ds.length ∧ Pu.Bits w ∧ Bx t d'
  | [], t, d, s7, acc, h => ⟨[], d, s7, by rw [show acc ++ ids [] = acc from List.append_nil _]; rfl, rfl, (fun _ h => nomatch h), h⟩
  | x :: ds, t, d, s7, acc, h => by
    obtain ⟨v, d1, e, v0, v1, h1⟩ := tk_d (b0 := b0) (b1 := b1) (b3 := b3) (b4 := b4) (b5 := b5) (b6 := b6) (b7 := .val x) (b8 := b8) (b9 := b9) (b10 := b10) (b11 := b11) (b12 := b12) (b13 := b13) (b14 := b14) (b15 := b15) (t := t + ds.length) (d := d) (k := 2) (o := mO (mC (.int 2))) h (by decide) (by decide) kO
    obtain ⟨w, d2, s2, e2, l2, bw, h2⟩ := dr_7 (ds := ds) (t := t) (d := d1) (s7 := .val x) (acc := acc ++ [.int v]) h1
    refine ⟨v :: w, d2, s2, ?_, by simp [l2], ?_, h2⟩
    · unfold lcL
      have bt : bindT (.nm 7) x (wipeEn (Bn b0 b1 d b3 b4 b5 b6 s7 b8 b9 b10 b11 b12 b13 b14 b15) [7]) = some (Bn b0 b1 d b3 b4 b5 b6 (.val x) b8 b9 b10 b11 b12 b13 b14 b15) := rfl
      have ce : c_law_1 (Bn b0 b1 d b3 b4 b5 b6 (.val x) b8 b9 b10 b11 b12 b13 b14 b15) = .ok (.int v) (Bn b0 b1 d1 b3 b4 b5 b6 (.val x) b8 b9 b10 b11 b12 b13 b14 b15) := by
        unfold c_law_1
        rw [ap_V, e]
      rw [bt]
      dsimp only
      rw [show mYes (Bn b0 b1 d b3 b4 b5 b6 (.val x) b8 b9 b10 b11 b12 b13 b14 b15) = .ok true (Bn b0 b1 d b3 b4 b5 b6 (.val x) b8 b9 b10 b11 b12 b13 b14 b15) from rfl]
      dsimp only
      rw [ce]
      dsimp only
      rw [e2, List.append_assoc]
      rfl
    · intro y hy
      rcases List.mem_cons.mp hy with rfl | hy
      · exact bit_of v0 v1
      · exact bw y hy
/-- bits drawn: c at slot 9 -/
theorem dr_9 : ∀ {ds : List D} {t : Nat} {d : D} {s9 : Slot} {acc : List D}, Bx (t + ds.length) d → ∃ w d' s9', lcL (.nm 9) mYes c_law_2 [9] ds acc (Bn b0 b1 d b3 b4 b5 b6 b7 b8 s9 b10 b11 b12 b13 b14 b15) = .ok (acc ++ ids w) (Bn b0 b1 d' b3 b4 b5 b6 b7 b8 s9' b10 b11 b12 b13 b14 b15) ∧ w.length = ds.length ∧ Pu.Bits w ∧ Bx t d'
  | [], t, d, s9, acc, h => ⟨[], d, s9, by rw [show acc ++ ids [] = acc from List.append_nil _]; rfl, rfl, (fun _ h => nomatch h), h⟩
  | x :: ds, t, d, s9, acc, h => by
    obtain ⟨v, d1, e, v0, v1, h1⟩ := tk_d (b0 := b0) (b1 := b1) (b3 := b3) (b4 := b4) (b5 := b5) (b6 := b6) (b7 := b7) (b8 := b8) (b9 := .val x) (b10 := b10) (b11 := b11) (b12 := b12) (b13 := b13) (b14 := b14) (b15 := b15) (t := t + ds.length) (d := d) (k := 2) (o := mO (mC (.int 2))) h (by decide) (by decide) kO
    obtain ⟨w, d2, s2, e2, l2, bw, h2⟩ := dr_9 (ds := ds) (t := t) (d := d1) (s9 := .val x) (acc := acc ++ [.int v]) h1
    refine ⟨v :: w, d2, s2, ?_, by simp [l2], ?_, h2⟩
    · unfold lcL
      have bt : bindT (.nm 9) x (wipeEn (Bn b0 b1 d b3 b4 b5 b6 b7 b8 s9 b10 b11 b12 b13 b14 b15) [9]) = some (Bn b0 b1 d b3 b4 b5 b6 b7 b8 (.val x) b10 b11 b12 b13 b14 b15) := rfl
      have ce : c_law_2 (Bn b0 b1 d b3 b4 b5 b6 b7 b8 (.val x) b10 b11 b12 b13 b14 b15) = .ok (.int v) (Bn b0 b1 d1 b3 b4 b5 b6 b7 b8 (.val x) b10 b11 b12 b13 b14 b15) := by
        unfold c_law_2
        rw [ap_V, e]
      rw [bt]
      dsimp only
      rw [show mYes (Bn b0 b1 d b3 b4 b5 b6 b7 b8 (.val x) b10 b11 b12 b13 b14 b15) = .ok true (Bn b0 b1 d b3 b4 b5 b6 b7 b8 (.val x) b10 b11 b12 b13 b14 b15) from rfl]
      dsimp only
      rw [ce]
      dsimp only
      rw [e2, List.append_assoc]
      rfl
    · intro y hy
      rcases List.mem_cons.mp hy with rfl | hy
      · exact bit_of v0 v1
      · exact bw y hy
end
/-- one of some words -/
theorem t_pick {t : Nat} {d : D} {ws : List (List Int)} (h : Bx (t + 1) d) (l0 : ws ≠ []) (l1 : ws.length < 1000) : ∃ w d', m__law_pick [.own true d, .val (.lst (ws.map fun w => .tpb (ids w)))] = .ok (.val (.tpb (ids w))) [.own true d', .val (.lst (ws.map fun w => .tpb (ids w)))] ∧ w ∈ ws ∧ Bx t d' := by
  have hl : 0 < ws.length := List.length_pos_iff.mpr l0
  obtain ⟨v, d', e, v0, v1, b⟩ := t_take (k := (ws.length : Nat)) h (by omega) (by omega)
  have hv : v.toNat < ws.length := by omega
  have ln : lenD (.lst (ws.map fun w => D.tpb (ids w))) = some (.val (.int (ws.length : Nat))) := by
    show some (Slot.val (.int ((ws.map fun w => D.tpb (ids w)).length : Nat))) = _
    rw [List.length_map]
  have ix : ixD (.lst (ws.map fun w => D.tpb (ids w))) (.int v) = some (.val (.tpb (ids ws[v.toNat]))) := by
    show Option.map Slot.val (L2.atI (ws.map fun w => D.tpb (ids w)) v) = _
    unfold L2.atI L2.ixN
    rw [List.length_map, if_pos v0, if_pos v1]
    show Option.map Slot.val ((ws.map fun w => D.tpb (ids w))[v.toNat]?) = _
    rw [List.getElem?_map, List.getElem?_eq_getElem hv]
    rfl
  refine ⟨ws[v.toNat], d', ?_, List.getElem_mem hv, b⟩
  generalize ((ws.length : Nat) : Int) = kn at e ln
  have r : b__law_pick [.own true d, .val (.lst (ws.map fun w => D.tpb (ids w)))] = .rt (.val (.tpb (ids ws[v.toNat]))) [.own true d', .val (.lst (ws.map fun w => D.tpb (ids w)))] := by
    unfold b__law_pick
    simp only [ap_seq, ap_skip, ap_ret, ap_retN, ap_drop, ap_if, ap_set, ap_par, ap_for, ap_unp, ap_raise, ap_bind, ap_retf, ap_V, ap_O, ap_S, ap_C, ap_nameO, ap_nameV, ap_2, ap_fin2, ap_N, ap_finN, ap_Os0, ap_Os1, ap_Vs0, ap_Vs1, ap_Rs0, ap_Rs1, ap_tup, ap_tupB, ap_lst, ap_T, ap_B, ap_not, ap_and, ap_or, ap_andV, ap_orV, ap_notV, ap_ife, ap_1, ap_ch, ap_sl, ap_P0, ap_P1, ap_callX, ap_callE, ap_R1, ap_It, ap_Mt, ap_Rd, ap_put, ap_putAt, ap_LstRg, ap_Rg0, getD, getDs, lent, okAll, setAll, argsOf, argOf, slotsO, nodupB, backE, ap1, fin, pickA, List.getElem?_cons_zero, List.getElem?_cons_succ, List.set_cons_zero, List.set_cons_succ, List.nil_append, List.cons_append, List.mem_cons, List.not_mem_nil, or_false, Nat.reduceEqDiff, not_false_eq_true, decide_true, Bool.and_true, Bool.true_and, Bool.not_false, Bool.not_true, reduceCtorEq, reduceIte, ln, e, ix]
  exact sem_rt (n := 2) (m := 2) (b := b__law_pick) (args := [.own true d, .val (.lst (ws.map fun w => D.tpb (ids w)))]) rfl r
end HD
set_option Elab.async false
set_option linter.all false
set_option maxRecDepth 100000
set_option maxHeartbeats 1000000
namespace HD
open PySem PySem.Spec PyProof.Rows L2 Mn
theorem wds_ok : ∀ {n : Nat} {w : List Int}, w ∈ wds n → w.length = n ∧ Pu.Bits w
  | 0, w, h => by
    cases List.mem_singleton.mp h
    exact ⟨rfl, fun _ h => nomatch h⟩
  | n + 1, w, h => by
    obtain ⟨v, hv, hw⟩ := List.mem_flatMap.mp h
    obtain ⟨l, b⟩ := wds_ok hv
    rcases List.mem_cons.mp hw with rfl | hw
    · refine ⟨by simp [l], fun x hx => ?_⟩
      rcases List.mem_append.mp hx with h | h
      · exact b x h
      · exact .inl (List.mem_singleton.mp h)
    · cases List.mem_singleton.mp hw
      refine ⟨by simp [l], fun x hx => ?_⟩
      rcases List.mem_append.mp hx with h | h
      · exact b x h
      · exact .inr (List.mem_singleton.mp h)
theorem wds_all : ∀ {n : Nat} {w : List Int}, w.length = n → Pu.Bits w → w ∈ wds n
  | 0, w, l, _ => by
    cases List.length_eq_zero_iff.mp l
    exact List.mem_singleton.mpr rfl
  | n + 1, w, l, b => by
    have hw : w ≠ [] := by intro e; subst e; cases l
    have e := List.dropLast_concat_getLast hw
    refine List.mem_flatMap.mpr ⟨w.dropLast, wds_all (by simp [l]) (fun x hx => b x ((List.dropLast_sublist w).subset hx)), ?_⟩
    rcases b _ (List.getLast_mem hw) with h | h
    · rw [h] at e
      exact List.mem_cons.mpr (.inl e.symm)
    · rw [h] at e
      exact List.mem_cons.mpr (.inr (List.mem_singleton.mpr e.symm))
def wdsD (n : Nat) : D := .lst ((wds n).map fun w => .tpb (ids w))
theorem wd_0 : m__law_words [.val (.int 0)] = .ok (.val (wdsD 0)) [.val (.int 0)] := by kernel_rfl
theorem wd_1 : m__law_words [.val (.int 1)] = .ok (.val (wdsD 1)) [.val (.int 1)] := by kernel_rfl
theorem wd_2 : m__law_words [.val (.int 2)] = .ok (.val (wdsD 2)) [.val (.int 2)] := by kernel_rfl
theorem wd_3 : m__law_words [.val (.int 3)] = .ok (.val (wdsD 3)) [.val (.int 3)] := by kernel_rfl
theorem wd_4 : m__law_words [.val (.int 4)] = .ok (.val (wdsD 4)) [.val (.int 4)] := by kernel_rfl
theorem wd_5 : m__law_words [.val (.int 5)] = .ok (.val (wdsD 5)) [.val (.int 5)] := by kernel_rfl
theorem wd_6 : m__law_words [.val (.int 6)] = .ok (.val (wdsD 6)) [.val (.int 6)] := by kernel_rfl
theorem wd_all {i : Nat} (h : i < 7) : m__law_words [.val (.int (i : Nat))] = .ok (.val (wdsD i)) [.val (.int (i : Nat))] := by
  match i, h with
  | 0, _ => exact wd_0
  | 1, _ => exact wd_1
  | 2, _ => exact wd_2
  | 3, _ => exact wd_3
  | 4, _ => exact wd_4
  | 5, _ => exact wd_5
  | 6, _ => exact wd_6
/-- what is told of two words -/
def Kd (w u : List Int) (n : Nat) (k : D) : Prop := (NoDue w u ∧ k = .non) ∨ ∃ s, Due w u s ∧ k = .tup [.int (s : Nat), .tup (ids (Pu.marks s n))]
theorem kd_of {d1 d2 : D} {w u : List Int} {n : Nat} (h1 : Sq d1 w) (h2 : Sq d2 u) (b1 : Pu.Bits w) (b2 : Pu.Bits u) (lw : w.length = n) (lu : u.length = n) (ln : n ≤ 100) (l0 : n ≠ 0) : ∃ k, Kd w u n k ∧ m_kind_fewer [.val d1, .val d2] = .ok (.val k) [.val d1, .val d2] := by
  obtain ⟨k1, k2⟩ := t_kind h1 h2 b1 b2 lw lu ln l0
  rcases due_or w u with ⟨s, hs⟩ | nd
  · exact ⟨_, .inr ⟨s, hs, rfl⟩, k1 s hs⟩
  · exact ⟨_, .inl ⟨nd, rfl⟩, k2 nd⟩
/-- a word of which nothing is told leaves no fewer -/
theorem no_fewer {w u m : List Int} {n : Nat} {k : D} (b1 : Pu.Bits w) (b2 : Pu.Bits u) (bm : Pu.Bits m) (lw : w.length = n) (lu : u.length = n) (h : Kd w u n k) : Pu.stays w m < Pu.stays u m → isD k .non = some (.val (.bl false)) := fun lt => by
  rcases h with ⟨nd, rfl⟩ | ⟨s, hs, rfl⟩
  · exact absurd (Pu.mono b2 b1 bm (by omega) fun i hi => Nat.le_of_not_lt (nd i (by omega))) (by omega)
  · rfl
theorem tails_eq : ∀ {w u : List Int}, w.length = u.length → Pu.Bits w → Pu.Bits u → (∀ i, i ≤ w.length → Pu.one1 (w.drop i) = Pu.one1 (u.drop i)) → w = u
  | [], [], _, _, _, _ => rfl
  | [], _ :: _, l, _, _, _ => by cases l
  | _ :: _, [], l, _, _, _ => by cases l
  | a :: w, b :: u, l, ba, bb, h => by
    have e : w = u := tails_eq (Nat.succ.inj l) ba.tail bb.tail fun i hi => by
      have := h (i + 1) (Nat.succ_le_succ hi)
      rwa [List.drop_succ_cons, List.drop_succ_cons] at this
    subst e
    have h0 := h 0 (Nat.zero_le _)
    rw [List.drop_zero, List.drop_zero] at h0
    have x := Pu.o_cons (m := w) ba.head
    have y := Pu.o_cons (m := w) bb.head
    have : a = b := by omega
    rw [this]
theorem kd_same {w u : List Int} {n : Nat} {k1 k2 : D} (b1 : Pu.Bits w) (b2 : Pu.Bits u) (lw : w.length = n) (lu : u.length = n) (h1 : Kd w u n k1) (h2 : Kd u w n k2) : (w = u ↔ k1 = .non ∧ k2 = .non) := by
  constructor
  · intro e
    subst e
    have nn : ∀ s, ¬ Due w w s := fun s h => Nat.lt_irrefl _ h.2.1
    rcases h1 with ⟨_, e1⟩ | ⟨s, hs, _⟩
    · rcases h2 with ⟨_, e2⟩ | ⟨s, hs, _⟩
      · exact ⟨e1, e2⟩
      · exact absurd hs (nn s)
    · exact absurd hs (nn s)
  · intro ⟨e1, e2⟩
    rcases h1 with ⟨n1, _⟩ | ⟨s, hs, e⟩
    · rcases h2 with ⟨n2, _⟩ | ⟨s, hs, e⟩
      · exact tails_eq (by omega) b1 b2 fun i hi => Nat.le_antisymm (Nat.le_of_not_lt (n2 i (by omega))) (Nat.le_of_not_lt (n1 i hi))
      · rw [e2] at e; cases e
    · rw [e1] at e; cases e
theorem kd_data {w u : List Int} {n : Nat} {k : D} (h : Kd w u n k) : Mn.plain k = true ∧ PyData.canLay0 (toP k) = true ∧ PyData.depth (toP k) ≤ 2 ∧ PyData.eqv (toP k) .none = Mn.isNon k := by
  rcases h with ⟨_, rfl⟩ | ⟨s, _, rfl⟩
  · simp [Mn.plain, toP, PyData.canLay0, PyData.depth, PyData.eqv, Mn.isNon]
  · simp [Mn.plain, Mn.plains, Mn.plains_ids, toP, toPs, toPs_ids, PyData.canLay0, PyData.canLayAll0, PyData.depth, PyData.depthAll, PyData.eqv, lay_ids, Mn.isNon]
theorem non_iff {k : D} : Mn.isNon k = true ↔ k = .non := by cases k <;> simp [Mn.isNon]
theorem ne_told {k1 k2 : D} (h1 : Mn.plain k1 = true ∧ PyData.canLay0 (toP k1) = true ∧ PyData.depth (toP k1) ≤ 2 ∧ PyData.eqv (toP k1) .none = Mn.isNon k1) (h2 : Mn.plain k2 = true ∧ PyData.canLay0 (toP k2) = true ∧ PyData.depth (toP k2) ≤ 2 ∧ PyData.eqv (toP k2) .none = Mn.isNon k2) :
    neE (.lst [k1, k2]) (.lst [.non, .non]) = some (.val (.bl (!(Mn.isNon k1 && Mn.isNon k2)))) := by
  obtain ⟨p1, c1, d1, e1⟩ := h1
  obtain ⟨p2, c2, d2, e2⟩ := h2
  have sh : SeqAt.shaped (toP (.lst [k1, k2])) = true := by
    simp [SeqAt.shaped, toP, toPs, PyData.canLay0, PyData.canLayAll0, PyData.depth, PyData.depthAll, c1, c2]
    omega
  have sn : SeqAt.shaped (toP (.lst [.non, .non])) = true := by
    simp [SeqAt.shaped, toP, toPs, PyData.canLay0, PyData.canLayAll0, PyData.depth, PyData.depthAll]
  have ev : PyData.eqv (toP (.lst [k1, k2])) (toP (.lst [.non, .non])) = (Mn.isNon k1 && Mn.isNon k2) := by
    simp [toP, toPs, PyData.eqv, PyData.eqvAll, e1, e2]
  have ce : canEq (.lst [k1, k2]) (.lst [.non, .non]) = true := by
    unfold canEq
    rw [sh, sn]
    simp [Mn.plain, Mn.plains, p1, p2]
  show neD _ _ = _
  unfold neD
  rw [if_pos ce, ev]
theorem eqv_ids : ∀ {w u : List Int}, PyData.eqvAll (w.map PyData.int) (u.map PyData.int) = decide (w = u)
  | [], [] => by simp [PyData.eqvAll]
  | [], _ :: _ => by simp [PyData.eqvAll]
  | _ :: _, [] => by simp [PyData.eqvAll]
  | a :: w, b :: u => by
    rw [List.map_cons, List.map_cons, PyData.eqvAll, eqv_ids, eqv_int]
    by_cases h : a = b
    · subst h; simp
    · simp [h]
theorem ne_words {w u : List Int} : neE (.tpb (ids w)) (.tpb (ids u)) = some (.val (.bl (!decide (w = u)))) := by
  have ce : canEq (.tpb (ids w)) (.tpb (ids u)) = true := by
    unfold canEq
    simp [Mn.plain, Mn.plains_ids, SeqAt.shaped, toP, toPs_ids, PyData.canLay0, PyData.depth, lay_ids]
  show neD _ _ = _
  unfold neD
  rw [if_pos ce]
  simp only [toP, toPs_ids, PyData.eqv, eqv_ids]
theorem eqE_bl {a b : Bool} : eqE (.bl a) (.bl b) = some (.val (.bl (a == b))) := by
  simp [eqE, eqD, canEq, Mn.plain, SeqAt.shaped, toP, PyData.canLay0, PyData.depth, PyData.eqv]
section
variable {W U M k1 k2 X : D} {f : Bool} {s2 s5 s6 s7 : Slot}
/-- a turn over marks -/
theorem al_step {lo hi : Int} (t1 : ∀ s : Slot, s = .val M → m__law_stays [.val W, s] = .ok (.val (.int lo)) [.val W, s]) (t2 : ∀ s : Slot, s = .val M → m__law_stays [.val U, s] = .ok (.val (.int hi)) [.val U, s]) (h1 : lo < hi → isD k1 .non = some (.val (.bl false))) (h2 : hi < lo → isD k2 .non = some (.val (.bl false))) (p6 : Pl s6) (p7 : Pl s7) :
    l__law_all_right_2 [.val W, .val U, .val X, .own false (.lst [k1, k2]), .val (.bl f), .val M, s6, s7] = .nx [.val W, .val U, .val X, .own false (.lst [k1, k2]), .val (.bl (f || !decide (lo = hi))), .val M, .val (.int lo), .val (.int hi)] := by
  have t1 := t1 _ rfl
  have t2 := t2 _ rfl
  have x0 : ixD (.lst [k1, k2]) (.int 0) = some (.val k1) := rfl
  have x1 : ixD (.lst [k1, k2]) (.int 1) = some (.val k2) := rfl
  have st : l__law_all_right_2 [.val W, .val U, .val X, .own false (.lst [k1, k2]), .val (.bl f), .val M, s6, s7] = sSeq (sIf (mOr (mAnd (mB (m2 ltD (mNameO 6) (mNameO 7))) (mB (m2 isD (mO (mV (m2 ixD (mNameO 3) (mO (mC (.int 0)))))) (mO (mC .non))))) (mAnd (mB (m2 ltD (mNameO 7) (mNameO 6))) (mB (m2 isD (mO (mV (m2 ixD (mNameO 3) (mO (mC (.int 1)))))) (mO (mC .non)))))) (sSeq (sRet (mS (mC (.bl false)))) sSkip) sSkip) sSkip [.val W, .val U, .val X, .own false (.lst [k1, k2]), .val (.bl (f || !decide (lo = hi))), .val M, .val (.int lo), .val (.int hi)] := by
    unfold l__law_all_right_2
    have a1 : sPar [6, 7] [(mCallX m__law_stays [(mNameO 0), (mNameO 5)] []), (mCallX m__law_stays [(mNameO 1), (mNameO 5)] [])] [.val W, .val U, .val X, .own false (.lst [k1, k2]), .val (.bl f), .val M, s6, s7] = .nx [.val W, .val U, .val X, .own false (.lst [k1, k2]), .val (.bl f), .val M, .val (.int lo), .val (.int hi)] := by
      rcases p6 with rfl | ⟨_, rfl⟩
      all_goals
        rcases p7 with rfl | ⟨_, rfl⟩
        all_goals
          simp only [ap_seq, ap_skip, ap_ret, ap_retN, ap_drop, ap_if, ap_set, ap_par, ap_for, ap_unp, ap_raise, ap_bind, ap_retf, ap_V, ap_O, ap_S, ap_C, ap_nameO, ap_nameV, ap_2, ap_fin2, ap_N, ap_finN, ap_Os0, ap_Os1, ap_Vs0, ap_Vs1, ap_Rs0, ap_Rs1, ap_tup, ap_tupB, ap_lst, ap_T, ap_B, ap_not, ap_and, ap_or, ap_andV, ap_orV, ap_notV, ap_ife, ap_1, ap_ch, ap_sl, ap_P0, ap_P1, ap_callX, ap_callE, ap_R1, ap_It, ap_Mt, ap_Rd, ap_put, ap_putAt, ap_LstRg, ap_Rg0, getD, getDs, lent, okAll, setAll, argsOf, argOf, slotsO, nodupB, backE, ap1, fin, pickA, List.getElem?_cons_zero, List.getElem?_cons_succ, List.set_cons_zero, List.set_cons_succ, List.nil_append, List.cons_append, List.mem_cons, List.not_mem_nil, or_false, Nat.reduceEqDiff, not_false_eq_true, decide_true, Bool.and_true, Bool.true_and, Bool.not_false, Bool.not_true, reduceCtorEq, reduceIte, t1, t2]
    rw [seq_nx a1 rfl]
    have ne := Mn.neE_int (a := lo) (b := hi)
    refine seq_nx (e := [.val W, .val U, .val X, .own false (.lst [k1, k2]), .val (.bl (f || !decide (lo = hi))), .val M, .val (.int lo), .val (.int hi)]) ?_ rfl
    cases f with
    | true => simp only [ap_seq, ap_skip, ap_ret, ap_retN, ap_drop, ap_if, ap_set, ap_par, ap_for, ap_unp, ap_raise, ap_bind, ap_retf, ap_V, ap_O, ap_S, ap_C, ap_nameO, ap_nameV, ap_2, ap_fin2, ap_N, ap_finN, ap_Os0, ap_Os1, ap_Vs0, ap_Vs1, ap_Rs0, ap_Rs1, ap_tup, ap_tupB, ap_lst, ap_T, ap_B, ap_not, ap_and, ap_or, ap_andV, ap_orV, ap_notV, ap_ife, ap_1, ap_ch, ap_sl, ap_P0, ap_P1, ap_callX, ap_callE, ap_R1, ap_It, ap_Mt, ap_Rd, ap_put, ap_putAt, ap_LstRg, ap_Rg0, getD, getDs, lent, okAll, setAll, argsOf, argOf, slotsO, nodupB, backE, ap1, fin, pickA, List.getElem?_cons_zero, List.getElem?_cons_succ, List.set_cons_zero, List.set_cons_succ, List.nil_append, List.cons_append, List.mem_cons, List.not_mem_nil, or_false, Nat.reduceEqDiff, not_false_eq_true, decide_true, Bool.and_true, Bool.true_and, Bool.not_false, Bool.not_true, reduceCtorEq, reduceIte, Bool.true_or]
    | false =>
      generalize (!decide (lo = hi)) = b at ne ⊢
      simp only [ap_seq, ap_skip, ap_ret, ap_retN, ap_drop, ap_if, ap_set, ap_par, ap_for, ap_unp, ap_raise, ap_bind, ap_retf, ap_V, ap_O, ap_S, ap_C, ap_nameO, ap_nameV, ap_2, ap_fin2, ap_N, ap_finN, ap_Os0, ap_Os1, ap_Vs0, ap_Vs1, ap_Rs0, ap_Rs1, ap_tup, ap_tupB, ap_lst, ap_T, ap_B, ap_not, ap_and, ap_or, ap_andV, ap_orV, ap_notV, ap_ife, ap_1, ap_ch, ap_sl, ap_P0, ap_P1, ap_callX, ap_callE, ap_R1, ap_It, ap_Mt, ap_Rd, ap_put, ap_putAt, ap_LstRg, ap_Rg0, getD, getDs, lent, okAll, setAll, argsOf, argOf, slotsO, nodupB, backE, ap1, fin, pickA, List.getElem?_cons_zero, List.getElem?_cons_succ, List.set_cons_zero, List.set_cons_succ, List.nil_append, List.cons_append, List.mem_cons, List.not_mem_nil, or_false, Nat.reduceEqDiff, not_false_eq_true, decide_true, Bool.and_true, Bool.true_and, Bool.not_false, Bool.not_true, reduceCtorEq, reduceIte, ne, Bool.false_or]
  rw [st]
  by_cases c1 : lo < hi
  · have q1 := h1 c1
    have l1 : ltD (.int lo) (.int hi) = some (.val (.bl true)) := by rw [Mn.lt_int, decide_eq_true c1]
    have l2 : ltD (.int hi) (.int lo) = some (.val (.bl false)) := by rw [Mn.lt_int, decide_eq_false (by omega)]
    simp only [ap_seq, ap_skip, ap_ret, ap_retN, ap_drop, ap_if, ap_set, ap_par, ap_for, ap_unp, ap_raise, ap_bind, ap_retf, ap_V, ap_O, ap_S, ap_C, ap_nameO, ap_nameV, ap_2, ap_fin2, ap_N, ap_finN, ap_Os0, ap_Os1, ap_Vs0, ap_Vs1, ap_Rs0, ap_Rs1, ap_tup, ap_tupB, ap_lst, ap_T, ap_B, ap_not, ap_and, ap_or, ap_andV, ap_orV, ap_notV, ap_ife, ap_1, ap_ch, ap_sl, ap_P0, ap_P1, ap_callX, ap_callE, ap_R1, ap_It, ap_Mt, ap_Rd, ap_put, ap_putAt, ap_LstRg, ap_Rg0, getD, getDs, lent, okAll, setAll, argsOf, argOf, slotsO, nodupB, backE, ap1, fin, pickA, List.getElem?_cons_zero, List.getElem?_cons_succ, List.set_cons_zero, List.set_cons_succ, List.nil_append, List.cons_append, List.mem_cons, List.not_mem_nil, or_false, Nat.reduceEqDiff, not_false_eq_true, decide_true, Bool.and_true, Bool.true_and, Bool.not_false, Bool.not_true, reduceCtorEq, reduceIte, l1, l2, x0, q1]
  · have l1 : ltD (.int lo) (.int hi) = some (.val (.bl false)) := by rw [Mn.lt_int, decide_eq_false c1]
    by_cases c2 : hi < lo
    · have q2 := h2 c2
      have l2 : ltD (.int hi) (.int lo) = some (.val (.bl true)) := by rw [Mn.lt_int, decide_eq_true c2]
      simp only [ap_seq, ap_skip, ap_ret, ap_retN, ap_drop, ap_if, ap_set, ap_par, ap_for, ap_unp, ap_raise, ap_bind, ap_retf, ap_V, ap_O, ap_S, ap_C, ap_nameO, ap_nameV, ap_2, ap_fin2, ap_N, ap_finN, ap_Os0, ap_Os1, ap_Vs0, ap_Vs1, ap_Rs0, ap_Rs1, ap_tup, ap_tupB, ap_lst, ap_T, ap_B, ap_not, ap_and, ap_or, ap_andV, ap_orV, ap_notV, ap_ife, ap_1, ap_ch, ap_sl, ap_P0, ap_P1, ap_callX, ap_callE, ap_R1, ap_It, ap_Mt, ap_Rd, ap_put, ap_putAt, ap_LstRg, ap_Rg0, getD, getDs, lent, okAll, setAll, argsOf, argOf, slotsO, nodupB, backE, ap1, fin, pickA, List.getElem?_cons_zero, List.getElem?_cons_succ, List.set_cons_zero, List.set_cons_succ, List.nil_append, List.cons_append, List.mem_cons, List.not_mem_nil, or_false, Nat.reduceEqDiff, not_false_eq_true, decide_true, Bool.and_true, Bool.true_and, Bool.not_false, Bool.not_true, reduceCtorEq, reduceIte, l1, l2, x1, q2]
    · have l2 : ltD (.int hi) (.int lo) = some (.val (.bl false)) := by rw [Mn.lt_int, decide_eq_false c2]
      simp only [ap_seq, ap_skip, ap_ret, ap_retN, ap_drop, ap_if, ap_set, ap_par, ap_for, ap_unp, ap_raise, ap_bind, ap_retf, ap_V, ap_O, ap_S, ap_C, ap_nameO, ap_nameV, ap_2, ap_fin2, ap_N, ap_finN, ap_Os0, ap_Os1, ap_Vs0, ap_Vs1, ap_Rs0, ap_Rs1, ap_tup, ap_tupB, ap_lst, ap_T, ap_B, ap_not, ap_and, ap_or, ap_andV, ap_orV, ap_notV, ap_ife, ap_1, ap_ch, ap_sl, ap_P0, ap_P1, ap_callX, ap_callE, ap_R1, ap_It, ap_Mt, ap_Rd, ap_put, ap_putAt, ap_LstRg, ap_Rg0, getD, getDs, lent, okAll, setAll, argsOf, argOf, slotsO, nodupB, backE, ap1, fin, pickA, List.getElem?_cons_zero, List.getElem?_cons_succ, List.set_cons_zero, List.set_cons_succ, List.nil_append, List.cons_append, List.mem_cons, List.not_mem_nil, or_false, Nat.reduceEqDiff, not_false_eq_true, decide_true, Bool.and_true, Bool.true_and, Bool.not_false, Bool.not_true, reduceCtorEq, reduceIte, l1, l2]
theorem al_beg (e1 : m_kind_fewer [.val W, .val U] = .ok (.val k1) [.val W, .val U]) (e2 : m_kind_fewer [.val U, .val W] = .ok (.val k2) [.val U, .val W]) : sPar [3, 4] [mLst [mV (mCallX m_kind_fewer [mNameO 0, mNameO 1] []), mV (mCallX m_kind_fewer [mNameO 1, mNameO 0] [])], mS (mC (.bl false))] [.val W, .val U, .un, .un, .un, .un, .un, .un] = .nx [.val W, .val U, .un, .own false (.lst [k1, k2]), .val (.bl false), .un, .un, .un] := by
  simp only [ap_seq, ap_skip, ap_ret, ap_retN, ap_drop, ap_if, ap_set, ap_par, ap_for, ap_unp, ap_raise, ap_bind, ap_retf, ap_V, ap_O, ap_S, ap_C, ap_nameO, ap_nameV, ap_2, ap_fin2, ap_N, ap_finN, ap_Os0, ap_Os1, ap_Vs0, ap_Vs1, ap_Rs0, ap_Rs1, ap_tup, ap_tupB, ap_lst, ap_T, ap_B, ap_not, ap_and, ap_or, ap_andV, ap_orV, ap_notV, ap_ife, ap_1, ap_ch, ap_sl, ap_P0, ap_P1, ap_callX, ap_callE, ap_R1, ap_It, ap_Mt, ap_Rd, ap_put, ap_putAt, ap_LstRg, ap_Rg0, getD, getDs, lent, okAll, setAll, argsOf, argOf, slotsO, nodupB, backE, ap1, fin, pickA, List.getElem?_cons_zero, List.getElem?_cons_succ, List.set_cons_zero, List.set_cons_succ, List.nil_append, List.cons_append, List.mem_cons, List.not_mem_nil, or_false, Nat.reduceEqDiff, not_false_eq_true, decide_true, Bool.and_true, Bool.true_and, Bool.not_false, Bool.not_true, reduceCtorEq, reduceIte, e1, e2, List.length_cons, List.length_nil, Nat.reduceAdd, Nat.reduceLeDiff]
theorem al_end {K : D} {a b : Bool} (nt : neE K (.lst [.non, .non]) = some (.val (.bl a))) (nw : neE W U = some (.val (.bl b))) (ee : eqE (.bl (f || a)) (.bl b) = some (.val (.bl true))) :
    sSeq (sRet (m2 eqE (mO (mV (mOrV (mS (mNameV 4)) (m2 neE (mNameO 3) (mO (mV (mLst [(mC .non), (mC .non)]))))))) (mO (mV (m2 neE (mNameO 0) (mNameO 1)))))) sSkip [.val W, .val U, s2, .own false K, .val (.bl f), s5, s6, s7] = .rt (.val (.bl true)) [.val W, .val U, s2, .own false K, .val (.bl f), s5, s6, s7] := by
  cases f with
  | true =>
    rw [Bool.true_or] at ee
    simp only [ap_seq, ap_skip, ap_ret, ap_retN, ap_drop, ap_if, ap_set, ap_par, ap_for, ap_unp, ap_raise, ap_bind, ap_retf, ap_V, ap_O, ap_S, ap_C, ap_nameO, ap_nameV, ap_2, ap_fin2, ap_N, ap_finN, ap_Os0, ap_Os1, ap_Vs0, ap_Vs1, ap_Rs0, ap_Rs1, ap_tup, ap_tupB, ap_lst, ap_T, ap_B, ap_not, ap_and, ap_or, ap_andV, ap_orV, ap_notV, ap_ife, ap_1, ap_ch, ap_sl, ap_P0, ap_P1, ap_callX, ap_callE, ap_R1, ap_It, ap_Mt, ap_Rd, ap_put, ap_putAt, ap_LstRg, ap_Rg0, getD, getDs, lent, okAll, setAll, argsOf, argOf, slotsO, nodupB, backE, ap1, fin, pickA, List.getElem?_cons_zero, List.getElem?_cons_succ, List.set_cons_zero, List.set_cons_succ, List.nil_append, List.cons_append, List.mem_cons, List.not_mem_nil, or_false, Nat.reduceEqDiff, not_false_eq_true, decide_true, Bool.and_true, Bool.true_and, Bool.not_false, Bool.not_true, reduceCtorEq, reduceIte, nw, ee]
  | false =>
    rw [Bool.false_or] at ee
    simp only [ap_seq, ap_skip, ap_ret, ap_retN, ap_drop, ap_if, ap_set, ap_par, ap_for, ap_unp, ap_raise, ap_bind, ap_retf, ap_V, ap_O, ap_S, ap_C, ap_nameO, ap_nameV, ap_2, ap_fin2, ap_N, ap_finN, ap_Os0, ap_Os1, ap_Vs0, ap_Vs1, ap_Rs0, ap_Rs1, ap_tup, ap_tupB, ap_lst, ap_T, ap_B, ap_not, ap_and, ap_or, ap_andV, ap_orV, ap_notV, ap_ife, ap_1, ap_ch, ap_sl, ap_P0, ap_P1, ap_callX, ap_callE, ap_R1, ap_It, ap_Mt, ap_Rd, ap_put, ap_putAt, ap_LstRg, ap_Rg0, getD, getDs, lent, okAll, setAll, argsOf, argOf, slotsO, nodupB, backE, ap1, fin, pickA, List.getElem?_cons_zero, List.getElem?_cons_succ, List.set_cons_zero, List.set_cons_succ, List.nil_append, List.cons_append, List.mem_cons, List.not_mem_nil, or_false, Nat.reduceEqDiff, not_false_eq_true, decide_true, Bool.and_true, Bool.true_and, Bool.not_false, Bool.not_true, reduceCtorEq, reduceIte, nt, nw, ee, List.length_cons, List.length_nil, Nat.reduceAdd, Nat.reduceLeDiff]
theorem al_it {wd' x : D} {ds : List D} {s3 s4 : Slot} (wd : m__law_words [.val x] = .ok (.val wd') [.val x]) (io : itemsOf wd' = some ds) : mIt (mV (mCallX m__law_words [(mNameO 2)] [])) [.val W, .val U, .val x, s3, s4, s5, s6, s7] = .ok ds [.val W, .val U, .val x, s3, s4, s5, s6, s7] := by
  simp only [ap_seq, ap_skip, ap_ret, ap_retN, ap_drop, ap_if, ap_set, ap_par, ap_for, ap_unp, ap_raise, ap_bind, ap_retf, ap_V, ap_O, ap_S, ap_C, ap_nameO, ap_nameV, ap_2, ap_fin2, ap_N, ap_finN, ap_Os0, ap_Os1, ap_Vs0, ap_Vs1, ap_Rs0, ap_Rs1, ap_tup, ap_tupB, ap_lst, ap_T, ap_B, ap_not, ap_and, ap_or, ap_andV, ap_orV, ap_notV, ap_ife, ap_1, ap_ch, ap_sl, ap_P0, ap_P1, ap_callX, ap_callE, ap_R1, ap_It, ap_Mt, ap_Rd, ap_put, ap_putAt, ap_LstRg, ap_Rg0, getD, getDs, lent, okAll, setAll, argsOf, argOf, slotsO, nodupB, backE, ap1, fin, pickA, List.getElem?_cons_zero, List.getElem?_cons_succ, List.set_cons_zero, List.set_cons_succ, List.nil_append, List.cons_append, List.mem_cons, List.not_mem_nil, or_false, Nat.reduceEqDiff, not_false_eq_true, decide_true, Bool.and_true, Bool.true_and, Bool.not_false, Bool.not_true, reduceCtorEq, reduceIte, wd, io]
theorem fin_8 {e : En} : fin [.val W, .val U] (.val W :: .val U :: e) = [.val W, .val U] := rfl
end
/-- all marks of some things are right -/
theorem t_all {w u : List Int} {n : Nat} (b1 : Pu.Bits w) (b2 : Pu.Bits u) (lw : w.length = n) (lu : u.length = n) (ln : n ≤ 100) (l0 : n ≠ 0) : m__law_all_right [.val (.tpb (ids w)), .val (.tpb (ids u))] = .ok (.val (.bl true)) [.val (.tpb (ids w)), .val (.tpb (ids u))] := by
  obtain ⟨k1, kd1, e1⟩ := kd_of (Sq.b w) (Sq.b u) b1 b2 lw lu ln l0
  obtain ⟨k2, kd2, e2⟩ := kd_of (Sq.b u) (Sq.b w) b2 b1 lu lw ln l0
  have same := kd_same b1 b2 lw lu kd1 kd2
  have dat1 := kd_data kd1
  have dat2 := kd_data kd2
  let Iv : Nat → En → Prop := fun _ en => ∃ (f : Bool) (x2 x5 x6 x7 : Slot), en = [.val (.tpb (ids w)), .val (.tpb (ids u)), x2, .own false (.lst [k1, k2]), .val (.bl f), x5, x6, x7] ∧ (f = true → w ≠ u) ∧ Pl x2 ∧ Pl x5 ∧ Pl x6 ∧ Pl x7
  obtain ⟨e', f1, f, x2, x5, x6, x7, hx, hf, _⟩ := for_inv (t := .nm 2) (body := l__law_all_right_1) (f := fun i : Nat => D.int (i : Nat)) (ds := List.range 7) (Iv := Iv) (en := [.val (.tpb (ids w)), .val (.tpb (ids u)), .un, .own false (.lst [k1, k2]), .val (.bl false), .un, .un, .un]) ⟨false, .un, .un, .un, .un, rfl, (fun h => nomatch h), .inl rfl, .inl rfl, .inl rfl, .inl rfl⟩ (fun i d hd en ⟨f, x2, x5, x6, x7, hx, hf, p2, p5, p6, p7⟩ => by
    obtain ⟨q1, q2⟩ := range_at hd
    subst q2 hx
    have wd := wd_all (i := i) q1
    obtain ⟨e2', g1, f', y5, y6, y7, hy, hf', r5, r6, r7⟩ := for_inv (t := .nm 5) (body := l__law_all_right_2) (f := fun m : List Int => D.tpb (ids m)) (ds := wds i) (Iv := fun _ en => ∃ (f : Bool) (x5 x6 x7 : Slot), en = [.val (.tpb (ids w)), .val (.tpb (ids u)), .val (.int (i : Nat)), .own false (.lst [k1, k2]), .val (.bl f), x5, x6, x7] ∧ (f = true → w ≠ u) ∧ Pl x5 ∧ Pl x6 ∧ Pl x7)
      (en := [.val (.tpb (ids w)), .val (.tpb (ids u)), .val (.int (i : Nat)), .own false (.lst [k1, k2]), .val (.bl f), x5, x6, x7]) ⟨f, x5, x6, x7, rfl, hf, p5, p6, p7⟩ (fun j m hm en ⟨f, x5, x6, x7, hx, hf, p5, p6, p7⟩ => by
        obtain ⟨lm, bm⟩ := wds_ok (List.mem_of_getElem? hm)
        subst hx
        refine ⟨[.val (.tpb (ids w)), .val (.tpb (ids u)), .val (.int (i : Nat)), .own false (.lst [k1, k2]), .val (.bl f), .val (.tpb (ids m)), x6, x7], _, ?_, al_step (fun s hs => t_stays (Sq.b w) (Sq.b m) (by omega) (.inl hs)) (fun s hs => t_stays (Sq.b u) (Sq.b m) (by omega) (.inl hs)) (no_fewer b1 b2 bm lw lu kd1) (no_fewer b2 b1 bm lu lw kd2) p6 p7, _, _, _, _, rfl, ?_, .inr ⟨_, rfl⟩, .inr ⟨_, rfl⟩, .inr ⟨_, rfl⟩⟩
        · rcases p5 with rfl | ⟨_, rfl⟩ <;> rfl
        · intro h
          rcases Bool.or_eq_true_iff.mp h with h | h
          · exact hf h
          · intro e
            subst e
            simp at h)
    subst hy
    refine ⟨[.val (.tpb (ids w)), .val (.tpb (ids u)), .val (.int (i : Nat)), .own false (.lst [k1, k2]), .val (.bl f), x5, x6, x7], [.val (.tpb (ids w)), .val (.tpb (ids u)), .val (.int (i : Nat)), .own false (.lst [k1, k2]), .val (.bl f'), y5, y6, y7], ?_, ?_, f', _, y5, y6, y7, rfl, hf', .inr ⟨_, rfl⟩, r5, r6, r7⟩
    · rcases p2 with rfl | ⟨_, rfl⟩ <;> rfl
    · unfold l__law_all_right_1
      exact seq_nx (for_nx (al_it wd rfl) g1) rfl)
  subst hx
  have fo : mR1 (mO (mC (.int 7))) [.val (.tpb (ids w)), .val (.tpb (ids u)), .un, .own false (.lst [k1, k2]), .val (.bl false), .un, .un, .un] = .ok ((List.range 7).map fun i => D.int (i : Nat)) [.val (.tpb (ids w)), .val (.tpb (ids u)), .un, .own false (.lst [k1, k2]), .val (.bl false), .un, .un, .un] := rfl
  have nt := ne_told dat1 dat2
  have nw := ne_words (w := w) (u := u)
  have ee : ∃ a, neE (.lst [k1, k2]) (.lst [.non, .non]) = some (.val (.bl a)) ∧ eqE (.bl (f || a)) (.bl (!decide (w = u))) = some (.val (.bl true)) := by
    refine ⟨_, nt, ?_⟩
    rw [eqE_bl]
    by_cases e : w = u
    · obtain ⟨z1, z2⟩ := same.mp e
      have z : f = false := by
        cases f with
        | false => rfl
        | true => exact absurd e (hf rfl)
      rw [non_iff.mpr z1, non_iff.mpr z2, decide_eq_true e, z]
      rfl
    · have z : (Mn.isNon k1 && Mn.isNon k2) = false := by
        rw [Bool.and_eq_false_iff]
        by_cases z1 : k1 = .non
        · exact .inr (Bool.eq_false_iff.mpr fun z2 => e (same.mpr ⟨z1, non_iff.mp z2⟩))
        · exact .inl (Bool.eq_false_iff.mpr fun z => z1 (non_iff.mp z))
      rw [z, decide_eq_false e]
      cases f <;> rfl
  obtain ⟨a, na, ee⟩ := ee
  have r : b__law_all_right [.val (.tpb (ids w)), .val (.tpb (ids u)), .un, .un, .un, .un, .un, .un] = .rt (.val (.bl true)) [.val (.tpb (ids w)), .val (.tpb (ids u)), x2, .own false (.lst [k1, k2]), .val (.bl f), x5, x6, x7] := by
    unfold b__law_all_right
    exact seq_nx (al_beg e1 e2) (seq_nx (for_nx fo f1) (al_end na nw ee))
  exact (sem_rt (n := 2) (m := 8) (b := b__law_all_right) (args := [.val (.tpb (ids w)), .val (.tpb (ids u))]) rfl r).trans (congrArg (Res.ok _) fin_8)
end HD
set_option Elab.async false
set_option linter.all false
set_option maxRecDepth 100000
set_option maxHeartbeats 1000000
namespace HD
open PySem PySem.Spec PyProof.Rows L2 Mn
/-- a free slot: it isn't lent -/
def Nl (z : Slot) : Prop := ∀ d, z ≠ .own true d
theorem Pl.nl {z : Slot} (h : Pl z) : Nl z := fun d e => by
  rcases h with rfl | ⟨_, rfl⟩ <;> cases e
theorem own_nl {d : D} : Nl (.own false d) := fun _ e => by cases e
theorem val_nl {d : D} : Nl (.val d) := fun _ e => by cases e
theorem nl_at {en : En} {i : Nat} {z : Slot} (h : en[i]? = some z) (n : Nl z) : lent en i = false := by
  unfold lent
  rw [h]
  cases z with
  | own b d =>
    cases b with
    | true => exact absurd rfl (n d)
    | false => rfl
  | _ => rfl
/-- what a comprehension leaves of a slot of its own -/
def res (z : Slot) : Slot := match z with
  | .val d => .val d
  | _ => .un
theorem res_pl {z : Slot} : Pl (res z) := by
  cases z with
  | val d => exact .inr ⟨d, rfl⟩
  | _ => exact .inl rfl
theorem cut2 {w : List Int} {k : Nat} {a b : Int} (ha : w[k]? = some a) (hb : w[k + 1]? = some b) : Mn.cutD (ids w) (some ((k : Nat) : Int)) (some (((k : Nat) : Int) + 2)) = ids [a, b] := by
  have hk : k + 1 < w.length := (List.getElem?_eq_some_iff.mp hb).1
  unfold Mn.cutD
  have e : ((k : Nat) : Int) + 2 = ((k + 2 : Nat) : Int) := rfl
  rw [e, HT.sIx_nat, HT.sIx_nat, ids_len, Nat.min_eq_left (by omega), Nat.min_eq_left (by omega)]
  have d : w.drop k = a :: b :: w.drop (k + 2) := by
    rw [List.drop_eq_getElem_cons (by omega), List.drop_eq_getElem_cons hk]
    rw [List.getElem?_eq_getElem (by omega)] at ha hb
    cases ha
    cases hb
    rfl
  rw [ids_drop, d, show k + 2 - k = 2 by omega]
  rfl
section
variable {b0 b1 b3 b5 b7 b8 b9 b10 b11 b12 b13 b14 b15 : Slot} {d : D} {t : Nat}
theorem put2_ok {ps : List (Nat × Fx Opd)} {m : Fx D} {en e e' : En} {ds : List D} (h : m en = .ok (.tpb ds) e) (l : ds.length = ps.length) (k : sPuts ps ds e = .nx e') : sPut2 ps m en = .nx e' := by
  unfold sPut2 sOf
  rw [h]
  dsimp only
  rw [if_pos l, k]
theorem min2 {a b : Int} : bestD minI minL [.lst (ids [a, b])] = some (.val (.int (if b < a then b else a))) := rfl
theorem max2 {a b : Int} : bestD maxI maxL [.lst (ids [a, b])] = some (.val (.int (if b > a then b else a))) := rfl
theorem pt_ids {i : Nat} {en : En} {q : Bool} {u : List Int} {k : Int} {x : Int} (h : en[i]? = some (.own q (.lst (ids u)))) (k0 : 0 ≤ k) (k1 : k < u.length) : putIx i (.int k) (.int x) en = .nx (en.set i (.own q (.lst (ids (u.set k.toNat x))))) := by
  unfold putIx
  rw [h]
  dsimp only
  unfold L2.ixN
  rw [ids_len, if_pos k0, if_pos k1]
  dsimp only
  show SRes.nx (en.set i (.own q (.lst ((ids u).set k.toNat (.int x))))) = _
  rw [show (ids u).set k.toNat (.int x) = ids (u.set k.toNat x) from (List.map_set).symm]
theorem bits_set {u : List Int} (b : Pu.Bits u) {k : Nat} {x : Int} (h : x = 0 ∨ x = 1) : Pu.Bits (u.set k x) := fun y hy => by
  rcases List.mem_or_eq_of_mem_set hy with h' | h'
  · exact b y h'
  · exact h' ▸ h
/-- the tuple of both -/
theorem sw_val {n v : Int} {X : D} {p q : Int} {xs ys : List D} (c : slE (.lst xs) (some v) (some (v + 2)) = some (.own false (.lst ys))) (mi : bestD minI minL [.lst ys] = some (.val (.int p))) (ma : bestD maxI maxL [.lst ys] = some (.val (.int q))) :
    mTupB [(mV (mN (bestD minI minL) [(mO (mV (mSl slE (mNameO 6) (some (mNameO 9)) (some (mO (mV (m2 addE (mNameO 9) (mO (mC (.int 2))))))))))])), (mV (mN (bestD maxI maxL) [(mO (mV (mSl slE (mNameO 6) (some (mNameO 9)) (some (mO (mV (m2 addE (mNameO 9) (mO (mC (.int 2))))))))))]))]
      (Bn b0 b1 d b3 (.val (.int n)) b5 (.own false (.lst xs)) (.val X) b8 (.val (.int v)) b10 b11 b12 b13 b14 b15) = .ok (.tpb [.int p, .int q]) (Bn b0 b1 d b3 (.val (.int n)) b5 (.own false (.lst xs)) (.val X) b8 (.val (.int v)) b10 b11 b12 b13 b14 b15) := by
  simp only [ap_seq, ap_skip, ap_ret, ap_retN, ap_drop, ap_if, ap_set, ap_par, ap_for, ap_unp, ap_raise, ap_bind, ap_retf, ap_V, ap_O, ap_S, ap_C, ap_nameO, ap_nameV, ap_2, ap_fin2, ap_N, ap_finN, ap_Os0, ap_Os1, ap_Vs0, ap_Vs1, ap_Rs0, ap_Rs1, ap_tup, ap_tupB, ap_lst, ap_T, ap_B, ap_not, ap_and, ap_or, ap_andV, ap_orV, ap_notV, ap_ife, ap_1, ap_ch, ap_sl, ap_P0, ap_P1, ap_callX, ap_callE, ap_R1, ap_It, ap_Mt, ap_Rd, ap_put, ap_putAt, ap_LstRg, ap_Rg0, getD, getDs, lent, okAll, setAll, argsOf, argOf, slotsO, nodupB, backE, ap1, fin, pickA, List.getElem?_cons_zero, List.getElem?_cons_succ, List.set_cons_zero, List.set_cons_succ, List.nil_append, List.cons_append, List.mem_cons, List.not_mem_nil, or_false, Nat.reduceEqDiff, not_false_eq_true, decide_true, Bool.and_true, Bool.true_and, Bool.not_false, Bool.not_true, reduceCtorEq, reduceIte, Mn.add_int, c, mi, ma, List.length_cons, List.length_nil, Nat.reduceAdd, Nat.reduceLeDiff]
theorem sw_a {n v : Int} {X P : D} {ub uc : List Int} (q1 : putIx 6 (.int v) P (Bn b0 b1 d b3 (.val (.int n)) b5 (.own false (.lst (ids ub))) (.val X) b8 (.val (.int v)) b10 b11 b12 b13 b14 b15) = .nx (Bn b0 b1 d b3 (.val (.int n)) b5 (.own false (.lst (ids uc))) (.val X) b8 (.val (.int v)) b10 b11 b12 b13 b14 b15)) :
    sPutAt 6 (mNameO 9) P (Bn b0 b1 d b3 (.val (.int n)) b5 (.own false (.lst (ids ub))) (.val X) b8 (.val (.int v)) b10 b11 b12 b13 b14 b15) = .nx (Bn b0 b1 d b3 (.val (.int n)) b5 (.own false (.lst (ids uc))) (.val X) b8 (.val (.int v)) b10 b11 b12 b13 b14 b15) := by
  simp only [ap_seq, ap_skip, ap_ret, ap_retN, ap_drop, ap_if, ap_set, ap_par, ap_for, ap_unp, ap_raise, ap_bind, ap_retf, ap_V, ap_O, ap_S, ap_C, ap_nameO, ap_nameV, ap_2, ap_fin2, ap_N, ap_finN, ap_Os0, ap_Os1, ap_Vs0, ap_Vs1, ap_Rs0, ap_Rs1, ap_tup, ap_tupB, ap_lst, ap_T, ap_B, ap_not, ap_and, ap_or, ap_andV, ap_orV, ap_notV, ap_ife, ap_1, ap_ch, ap_sl, ap_P0, ap_P1, ap_callX, ap_callE, ap_R1, ap_It, ap_Mt, ap_Rd, ap_put, ap_putAt, ap_LstRg, ap_Rg0, getD, getDs, lent, okAll, setAll, argsOf, argOf, slotsO, nodupB, backE, ap1, fin, pickA, List.getElem?_cons_zero, List.getElem?_cons_succ, List.set_cons_zero, List.set_cons_succ, List.nil_append, List.cons_append, List.mem_cons, List.not_mem_nil, or_false, Nat.reduceEqDiff, not_false_eq_true, decide_true, Bool.and_true, Bool.true_and, Bool.not_false, Bool.not_true, reduceCtorEq, reduceIte, q1]
theorem sw_b {n v : Int} {X P : D} {ub uc : List Int} (q1 : putIx 6 (.int (v + 1)) P (Bn b0 b1 d b3 (.val (.int n)) b5 (.own false (.lst (ids ub))) (.val X) b8 (.val (.int v)) b10 b11 b12 b13 b14 b15) = .nx (Bn b0 b1 d b3 (.val (.int n)) b5 (.own false (.lst (ids uc))) (.val X) b8 (.val (.int v)) b10 b11 b12 b13 b14 b15)) :
    sPutAt 6 (mO (mV (m2 addE (mNameO 9) (mO (mC (.int 1)))))) P (Bn b0 b1 d b3 (.val (.int n)) b5 (.own false (.lst (ids ub))) (.val X) b8 (.val (.int v)) b10 b11 b12 b13 b14 b15) = .nx (Bn b0 b1 d b3 (.val (.int n)) b5 (.own false (.lst (ids uc))) (.val X) b8 (.val (.int v)) b10 b11 b12 b13 b14 b15) := by
  simp only [ap_seq, ap_skip, ap_ret, ap_retN, ap_drop, ap_if, ap_set, ap_par, ap_for, ap_unp, ap_raise, ap_bind, ap_retf, ap_V, ap_O, ap_S, ap_C, ap_nameO, ap_nameV, ap_2, ap_fin2, ap_N, ap_finN, ap_Os0, ap_Os1, ap_Vs0, ap_Vs1, ap_Rs0, ap_Rs1, ap_tup, ap_tupB, ap_lst, ap_T, ap_B, ap_not, ap_and, ap_or, ap_andV, ap_orV, ap_notV, ap_ife, ap_1, ap_ch, ap_sl, ap_P0, ap_P1, ap_callX, ap_callE, ap_R1, ap_It, ap_Mt, ap_Rd, ap_put, ap_putAt, ap_LstRg, ap_Rg0, getD, getDs, lent, okAll, setAll, argsOf, argOf, slotsO, nodupB, backE, ap1, fin, pickA, List.getElem?_cons_zero, List.getElem?_cons_succ, List.set_cons_zero, List.set_cons_succ, List.nil_append, List.cons_append, List.mem_cons, List.not_mem_nil, or_false, Nat.reduceEqDiff, not_false_eq_true, decide_true, Bool.and_true, Bool.true_and, Bool.not_false, Bool.not_true, reduceCtorEq, reduceIte, Mn.add_int, q1]
/-- a reserved place is moved -/
theorem l2_step {n : Nat} {u : List Int} {X : D} (h : Bx (t + 1) d) (n2 : 2 ≤ n) (n9 : n ≤ 1000) (lu : u.length = n) (bu : Pu.Bits u) (p9 : Nl b9) : ∃ u' d' v', u'.length = n ∧ Pu.Bits u' ∧ Bx t d' ∧
    l_law_2 (Bn b0 b1 d b3 (.val (.int (n : Nat))) b5 (.own false (.lst (ids u))) (.val X) b8 b9 b10 b11 b12 b13 b14 b15) = .nx (Bn b0 b1 d' b3 (.val (.int (n : Nat))) b5 (.own false (.lst (ids u'))) (.val X) b8 (.val v') b10 b11 b12 b13 b14 b15) := by
  have ho : ∀ m : Int, mO (mV (m2 subD (mNameO 4) (mO (mC (.int 1))))) (Bn b0 b1 d b3 (.val (.int m)) b5 (.own false (.lst (ids u))) (.val X) b8 b9 b10 b11 b12 b13 b14 b15) = .ok (.dat (.int (m - 1))) (Bn b0 b1 d b3 (.val (.int m)) b5 (.own false (.lst (ids u))) (.val X) b8 b9 b10 b11 b12 b13 b14 b15) := fun m => by
    simp only [ap_seq, ap_skip, ap_ret, ap_retN, ap_drop, ap_if, ap_set, ap_par, ap_for, ap_unp, ap_raise, ap_bind, ap_retf, ap_V, ap_O, ap_S, ap_C, ap_nameO, ap_nameV, ap_2, ap_fin2, ap_N, ap_finN, ap_Os0, ap_Os1, ap_Vs0, ap_Vs1, ap_Rs0, ap_Rs1, ap_tup, ap_tupB, ap_lst, ap_T, ap_B, ap_not, ap_and, ap_or, ap_andV, ap_orV, ap_notV, ap_ife, ap_1, ap_ch, ap_sl, ap_P0, ap_P1, ap_callX, ap_callE, ap_R1, ap_It, ap_Mt, ap_Rd, ap_put, ap_putAt, ap_LstRg, ap_Rg0, getD, getDs, lent, okAll, setAll, argsOf, argOf, slotsO, nodupB, backE, ap1, fin, pickA, List.getElem?_cons_zero, List.getElem?_cons_succ, List.set_cons_zero, List.set_cons_succ, List.nil_append, List.cons_append, List.mem_cons, List.not_mem_nil, or_false, Nat.reduceEqDiff, not_false_eq_true, decide_true, Bool.and_true, Bool.true_and, Bool.not_false, Bool.not_true, reduceCtorEq, reduceIte, Mn.sub_int]
  obtain ⟨v, d', e, v0, v1, hb⟩ := tk_d h (by omega) (by omega) (ho (n : Nat))
  obtain ⟨k, rfl⟩ : ∃ k : Nat, v = (k : Int) := ⟨v.toNat, by omega⟩
  obtain ⟨a, ha⟩ : ∃ a, u[k]? = some a := ⟨_, List.getElem?_eq_getElem (by omega)⟩
  obtain ⟨b, hb'⟩ : ∃ b, u[k + 1]? = some b := ⟨_, List.getElem?_eq_getElem (by omega)⟩
  have ba := bu a (List.mem_of_getElem? ha)
  have bb := bu b (List.mem_of_getElem? hb')
  have bp : (if b < a then b else a) = 0 ∨ (if b < a then b else a) = 1 := by split <;> assumption
  have bq : (if b > a then b else a) = 0 ∨ (if b > a then b else a) = 1 := by split <;> assumption
  have c : slE (.lst (ids u)) (some ((k : Nat) : Int)) (some (((k : Nat) : Int) + 2)) = some (.own false (.lst (ids [a, b]))) := by
    show some (Slot.own false (.lst (Mn.cutD (ids u) _ _))) = _
    rw [cut2 ha hb']
  refine ⟨(u.set k (if b < a then b else a)).set (k + 1) (if b > a then b else a), d', .int (k : Nat), by simp [lu], bits_set (bits_set bu bp) bq, hb, ?_⟩
  have s1 : sSet 9 (mCallX m__law_take [(mNameO 2), (mO (mV (m2 subD (mNameO 4) (mO (mC (.int 1))))))] []) (Bn b0 b1 d b3 (.val (.int (n : Nat))) b5 (.own false (.lst (ids u))) (.val X) b8 b9 b10 b11 b12 b13 b14 b15) = .nx (Bn b0 b1 d' b3 (.val (.int (n : Nat))) b5 (.own false (.lst (ids u))) (.val X) b8 (.val (.int (k : Nat))) b10 b11 b12 b13 b14 b15) :=
    set_nx e (nl_at (z := b9) rfl p9)
  have q1 := pt_ids (en := Bn b0 b1 d' b3 (.val (.int (n : Nat))) b5 (.own false (.lst (ids u))) (.val X) b8 (.val (.int (k : Nat))) b10 b11 b12 b13 b14 b15) (i := 6) (q := false) (u := u) (k := (k : Nat)) (x := if b < a then b else a) rfl (by omega) (by omega)
  have q2 := pt_ids (en := Bn b0 b1 d' b3 (.val (.int (n : Nat))) b5 (.own false (.lst (ids (u.set k (if b < a then b else a))))) (.val X) b8 (.val (.int (k : Nat))) b10 b11 b12 b13 b14 b15) (i := 6) (q := false) (u := u.set k (if b < a then b else a)) (k := ((k : Nat) : Int) + 1) (x := if b > a then b else a) rfl (by omega) (by simp; omega)
  unfold l_law_2
  refine seq_nx s1 (seq_nx (put2_ok (sw_val c min2 max2) rfl ?_) rfl)
  exact seq_nx (sw_a q1) (seq_nx (sw_b q2) rfl)
end
end HD
set_option Elab.async false
set_option linter.all false
set_option maxRecDepth 100000
set_option maxHeartbeats 1000000
namespace HD
open PySem PySem.Spec PyProof.Rows L2 Mn
section
variable {b0 b1 b3 b7 b8 b9 b10 b11 b12 b13 b14 b15 : Slot} {d W U k1 k2 M : D} {t : Nat} {n lo hi : Int}
theorem dr_st (t1 : m__law_stays [.val W, .own true M] = .ok (.val (.int lo)) [.val W, .own true M]) (t2 : m__law_stays [.val U, .own true M] = .ok (.val (.int hi)) [.val U, .own true M]) (p11 : Nl b11) (p12 : Nl b12) :
    sPar [11, 12] [(mCallX m__law_stays [(mNameO 5), (mNameO 10)] []), (mCallX m__law_stays [(mNameO 6), (mNameO 10)] [])] (Bn b0 b1 d b3 (.val (.int n)) (.val W) (.val U) b7 b8 b9 (.own false M) b11 b12 b13 b14 b15) = .nx (Bn b0 b1 d b3 (.val (.int n)) (.val W) (.val U) b7 b8 b9 (.own false M) (.val (.int lo)) (.val (.int hi)) b13 b14 b15) := by
  have l1 := nl_at (en := Bn b0 b1 d b3 (.val (.int n)) (.val W) (.val U) b7 b8 b9 (.own false M) b11 b12 b13 b14 b15) (i := 11) (z := b11) rfl p11
  have l2 := nl_at (en := Bn b0 b1 d b3 (.val (.int n)) (.val W) (.val U) b7 b8 b9 (.own false M) b11 b12 b13 b14 b15) (i := 12) (z := b12) rfl p12
  simp only [ap_seq, ap_skip, ap_ret, ap_retN, ap_drop, ap_if, ap_set, ap_par, ap_for, ap_unp, ap_raise, ap_bind, ap_retf, ap_V, ap_O, ap_S, ap_C, ap_nameO, ap_nameV, ap_2, ap_fin2, ap_N, ap_finN, ap_Os0, ap_Os1, ap_Vs0, ap_Vs1, ap_Rs0, ap_Rs1, ap_tup, ap_tupB, ap_lst, ap_T, ap_B, ap_not, ap_and, ap_or, ap_andV, ap_orV, ap_notV, ap_ife, ap_1, ap_ch, ap_sl, ap_P0, ap_P1, ap_callX, ap_callE, ap_R1, ap_It, ap_Mt, ap_Rd, ap_put, ap_putAt, ap_LstRg, ap_Rg0, getD, getDs, okAll, setAll, argsOf, argOf, slotsO, nodupB, backE, ap1, fin, pickA, List.getElem?_cons_zero, List.getElem?_cons_succ, List.set_cons_zero, List.set_cons_succ, List.nil_append, List.cons_append, List.mem_cons, List.not_mem_nil, or_false, Nat.reduceEqDiff, not_false_eq_true, decide_true, Bool.and_true, Bool.true_and, Bool.not_false, Bool.not_true, reduceCtorEq, reduceIte, t1, t2, l1, l2]
theorem dr_if (e1 : m_kind_fewer [.val W, .val U] = .ok (.val k1) [.val W, .val U]) (e2 : m_kind_fewer [.val U, .val W] = .ok (.val k2) [.val U, .val W]) (h1 : lo < hi → isD k1 .non = some (.val (.bl false))) (h2 : hi < lo → isD k2 .non = some (.val (.bl false))) :
    sIf (mOr (mAnd (mB (m2 ltD (mNameO 11) (mNameO 12))) (mB (m2 isD (mO (mV (mCallX m_kind_fewer [(mNameO 5), (mNameO 6)] []))) (mO (mC .non))))) (mAnd (mB (m2 ltD (mNameO 12) (mNameO 11))) (mB (m2 isD (mO (mV (mCallX m_kind_fewer [(mNameO 6), (mNameO 5)] []))) (mO (mC .non)))))) (sSeq (sRet (mS (mC (.bl false)))) sSkip) sSkip (Bn b0 b1 d b3 (.val (.int n)) (.val W) (.val U) b7 b8 b9 b10 (.val (.int lo)) (.val (.int hi)) b13 b14 b15) = .nx (Bn b0 b1 d b3 (.val (.int n)) (.val W) (.val U) b7 b8 b9 b10 (.val (.int lo)) (.val (.int hi)) b13 b14 b15) := by
  by_cases c1 : lo < hi
  · have q1 := h1 c1
    have l1 : ltD (.int lo) (.int hi) = some (.val (.bl true)) := by rw [Mn.lt_int, decide_eq_true c1]
    have l2 : ltD (.int hi) (.int lo) = some (.val (.bl false)) := by rw [Mn.lt_int, decide_eq_false (by omega)]
    simp only [ap_seq, ap_skip, ap_ret, ap_retN, ap_drop, ap_if, ap_set, ap_par, ap_for, ap_unp, ap_raise, ap_bind, ap_retf, ap_V, ap_O, ap_S, ap_C, ap_nameO, ap_nameV, ap_2, ap_fin2, ap_N, ap_finN, ap_Os0, ap_Os1, ap_Vs0, ap_Vs1, ap_Rs0, ap_Rs1, ap_tup, ap_tupB, ap_lst, ap_T, ap_B, ap_not, ap_and, ap_or, ap_andV, ap_orV, ap_notV, ap_ife, ap_1, ap_ch, ap_sl, ap_P0, ap_P1, ap_callX, ap_callE, ap_R1, ap_It, ap_Mt, ap_Rd, ap_put, ap_putAt, ap_LstRg, ap_Rg0, getD, getDs, lent, okAll, setAll, argsOf, argOf, slotsO, nodupB, backE, ap1, fin, pickA, List.getElem?_cons_zero, List.getElem?_cons_succ, List.set_cons_zero, List.set_cons_succ, List.nil_append, List.cons_append, List.mem_cons, List.not_mem_nil, or_false, Nat.reduceEqDiff, not_false_eq_true, decide_true, Bool.and_true, Bool.true_and, Bool.not_false, Bool.not_true, reduceCtorEq, reduceIte, l1, l2, e1, q1]
  · have l1 : ltD (.int lo) (.int hi) = some (.val (.bl false)) := by rw [Mn.lt_int, decide_eq_false c1]
    by_cases c2 : hi < lo
    · have q2 := h2 c2
      have l2 : ltD (.int hi) (.int lo) = some (.val (.bl true)) := by rw [Mn.lt_int, decide_eq_true c2]
      simp only [ap_seq, ap_skip, ap_ret, ap_retN, ap_drop, ap_if, ap_set, ap_par, ap_for, ap_unp, ap_raise, ap_bind, ap_retf, ap_V, ap_O, ap_S, ap_C, ap_nameO, ap_nameV, ap_2, ap_fin2, ap_N, ap_finN, ap_Os0, ap_Os1, ap_Vs0, ap_Vs1, ap_Rs0, ap_Rs1, ap_tup, ap_tupB, ap_lst, ap_T, ap_B, ap_not, ap_and, ap_or, ap_andV, ap_orV, ap_notV, ap_ife, ap_1, ap_ch, ap_sl, ap_P0, ap_P1, ap_callX, ap_callE, ap_R1, ap_It, ap_Mt, ap_Rd, ap_put, ap_putAt, ap_LstRg, ap_Rg0, getD, getDs, lent, okAll, setAll, argsOf, argOf, slotsO, nodupB, backE, ap1, fin, pickA, List.getElem?_cons_zero, List.getElem?_cons_succ, List.set_cons_zero, List.set_cons_succ, List.nil_append, List.cons_append, List.mem_cons, List.not_mem_nil, or_false, Nat.reduceEqDiff, not_false_eq_true, decide_true, Bool.and_true, Bool.true_and, Bool.not_false, Bool.not_true, reduceCtorEq, reduceIte, l1, l2, e2, q2]
    · have l2 : ltD (.int hi) (.int lo) = some (.val (.bl false)) := by rw [Mn.lt_int, decide_eq_false c2]
      simp only [ap_seq, ap_skip, ap_ret, ap_retN, ap_drop, ap_if, ap_set, ap_par, ap_for, ap_unp, ap_raise, ap_bind, ap_retf, ap_V, ap_O, ap_S, ap_C, ap_nameO, ap_nameV, ap_2, ap_fin2, ap_N, ap_finN, ap_Os0, ap_Os1, ap_Vs0, ap_Vs1, ap_Rs0, ap_Rs1, ap_tup, ap_tupB, ap_lst, ap_T, ap_B, ap_not, ap_and, ap_or, ap_andV, ap_orV, ap_notV, ap_ife, ap_1, ap_ch, ap_sl, ap_P0, ap_P1, ap_callX, ap_callE, ap_R1, ap_It, ap_Mt, ap_Rd, ap_put, ap_putAt, ap_LstRg, ap_Rg0, getD, getDs, lent, okAll, setAll, argsOf, argOf, slotsO, nodupB, backE, ap1, fin, pickA, List.getElem?_cons_zero, List.getElem?_cons_succ, List.set_cons_zero, List.set_cons_succ, List.nil_append, List.cons_append, List.mem_cons, List.not_mem_nil, or_false, Nat.reduceEqDiff, not_false_eq_true, decide_true, Bool.and_true, Bool.true_and, Bool.not_false, Bool.not_true, reduceCtorEq, reduceIte, l1, l2]
end
theorem rng_len {k : Nat} : (rng 0 k).length = k := by
  unfold rng
  rw [List.length_map, List.length_range]
section
variable {b0 b1 b3 b7 b8 b9 b10 b11 b12 b13 b14 b15 : Slot} {d : D} {t n : Nat} {w u : List Int}
/-- drawn marks: none leaves fewer -/
theorem l3_step (h : Bx (t + 3 * n + 1) d) (n2 : 2 ≤ n) (n9 : n ≤ 9) (lw : w.length = n) (lu : u.length = n) (bw : Pu.Bits w) (bu : Pu.Bits u) (p9 : Nl b9) (p10 : Nl b10) (p11 : Nl b11) (p12 : Nl b12) : ∃ d' c9 c10 c11 c12, Bx t d' ∧ Pl c9 ∧ Nl c10 ∧ Pl c11 ∧ Pl c12 ∧
    l_law_3 (Bn b0 b1 d b3 (.val (.int (n : Nat))) (.val (.tpb (ids w))) (.val (.tpb (ids u))) b7 b8 b9 b10 b11 b12 b13 b14 b15) = .nx (Bn b0 b1 d' b3 (.val (.int (n : Nat))) (.val (.tpb (ids w))) (.val (.tpb (ids u))) b7 b8 c9 c10 c11 c12 b13 b14 b15) := by
  have ho : ∀ m : Int, mulD (.int 3) (.int m) = some (.val (.int (3 * m))) → mO (mV (m2 mulD (mO (mC (.int 3))) (mNameO 4))) (Bn b0 b1 d b3 (.val (.int m)) (.val (.tpb (ids w))) (.val (.tpb (ids u))) b7 b8 b9 b10 b11 b12 b13 b14 b15) = .ok (.dat (.int (3 * m))) (Bn b0 b1 d b3 (.val (.int m)) (.val (.tpb (ids w))) (.val (.tpb (ids u))) b7 b8 b9 b10 b11 b12 b13 b14 b15) := fun m hm => by
    simp only [ap_seq, ap_skip, ap_ret, ap_retN, ap_drop, ap_if, ap_set, ap_par, ap_for, ap_unp, ap_raise, ap_bind, ap_retf, ap_V, ap_O, ap_S, ap_C, ap_nameO, ap_nameV, ap_2, ap_fin2, ap_N, ap_finN, ap_Os0, ap_Os1, ap_Vs0, ap_Vs1, ap_Rs0, ap_Rs1, ap_tup, ap_tupB, ap_lst, ap_T, ap_B, ap_not, ap_and, ap_or, ap_andV, ap_orV, ap_notV, ap_ife, ap_1, ap_ch, ap_sl, ap_P0, ap_P1, ap_callX, ap_callE, ap_R1, ap_It, ap_Mt, ap_Rd, ap_put, ap_putAt, ap_LstRg, ap_Rg0, getD, getDs, lent, okAll, setAll, argsOf, argOf, slotsO, nodupB, backE, ap1, fin, pickA, List.getElem?_cons_zero, List.getElem?_cons_succ, List.set_cons_zero, List.set_cons_succ, List.nil_append, List.cons_append, List.mem_cons, List.not_mem_nil, or_false, Nat.reduceEqDiff, not_false_eq_true, decide_true, Bool.and_true, Bool.true_and, Bool.not_false, Bool.not_true, reduceCtorEq, reduceIte, hm]
  obtain ⟨v, d1, e, v0, v1, hb⟩ := tk_d h (by omega) (by omega) (ho (n : Nat) (Mn.mul_int (by decide) (by omega)))
  obtain ⟨k, rfl⟩ : ∃ k : Nat, v = (k : Int) := ⟨v.toNat, by omega⟩
  have it : mR1 (mO (mV (mCallX m__law_take [(mNameO 2), (mO (mV (m2 mulD (mO (mC (.int 3))) (mNameO 4))))] []))) (Bn b0 b1 d b3 (.val (.int (n : Nat))) (.val (.tpb (ids w))) (.val (.tpb (ids u))) b7 b8 b9 b10 b11 b12 b13 b14 b15) = .ok (rng 0 k) (Bn b0 b1 d1 b3 (.val (.int (n : Nat))) (.val (.tpb (ids w))) (.val (.tpb (ids u))) b7 b8 b9 b10 b11 b12 b13 b14 b15) := by
    have sm := small_nat (k := k) (by omega)
    rw [ap_R1, ap_O, ap_V, e]
    dsimp only
    unfold getD
    dsimp only
    rw [if_pos sm, Int.toNat_natCast]
  obtain ⟨m, d2, s9, le, lm, bm, hb2⟩ := dr_9 (b0 := b0) (b1 := b1) (b3 := b3) (b4 := .val (.int (n : Nat))) (b5 := .val (.tpb (ids w))) (b6 := .val (.tpb (ids u))) (b7 := b7) (b8 := b8) (b10 := b10) (b11 := b11) (b12 := b12) (b13 := b13) (b14 := b14) (b15 := b15) (ds := rng 0 k) (t := t) (d := d1) (s9 := b9) (acc := []) (hb.less (by rw [rng_len]; omega))
  have c : (noneLent (Bn b0 b1 d1 b3 (.val (.int (n : Nat))) (.val (.tpb (ids w))) (.val (.tpb (ids u))) b7 b8 b9 b10 b11 b12 b13 b14 b15) [9] && decide ((rng 0 k).length < lim)) = true := by
    rw [rng_len, decide_eq_true (by unfold lim; omega)]
    have l9 := nl_at (en := Bn b0 b1 d1 b3 (.val (.int (n : Nat))) (.val (.tpb (ids w))) (.val (.tpb (ids u))) b7 b8 b9 b10 b11 b12 b13 b14 b15) (i := 9) (z := b9) rfl p9
    unfold noneLent
    rw [List.all_cons, l9]
    rfl
  have lo := lc_ok it c le
  have rs : restore (Bn b0 b1 d1 b3 (.val (.int (n : Nat))) (.val (.tpb (ids w))) (.val (.tpb (ids u))) b7 b8 b9 b10 b11 b12 b13 b14 b15) [9] (wipeEn (Bn b0 b1 d2 b3 (.val (.int (n : Nat))) (.val (.tpb (ids w))) (.val (.tpb (ids u))) b7 b8 s9 b10 b11 b12 b13 b14 b15) [9]) = Bn b0 b1 d2 b3 (.val (.int (n : Nat))) (.val (.tpb (ids w))) (.val (.tpb (ids u))) b7 b8 (res b9) b10 b11 b12 b13 b14 b15 := by
    cases b9 <;> rfl
  rw [rs] at lo
  rw [rng_len] at lm
  have s1 := set_nx (i := 10) lo (nl_at (z := b10) rfl p10)
  obtain ⟨k1, kd1, e1⟩ := kd_of (Sq.b w) (Sq.b u) bw bu lw lu (by omega) (by omega)
  obtain ⟨k2, kd2, e2⟩ := kd_of (Sq.b u) (Sq.b w) bu bw lu lw (by omega) (by omega)
  have t1 := t_stays (Sq.b w) (Sq.l m) (by omega) (.inr rfl)
  have t2 := t_stays (Sq.b u) (Sq.l m) (by omega) (.inr rfl)
  refine ⟨d2, res b9, .own false (.lst (ids m)), .val (.int (Pu.stays w m)), .val (.int (Pu.stays u m)), hb2, res_pl, own_nl, .inr ⟨_, rfl⟩, .inr ⟨_, rfl⟩, ?_⟩
  unfold l_law_3
  exact seq_nx s1 (seq_nx (dr_st t1 t2 p11 p12) (seq_nx (dr_if e1 e2 (no_fewer bw bu bm lw lu kd1) (no_fewer bu bw bm lu lw kd2)) rfl))
/-- two words, looked at both ways -/
theorem pr_if {W U q1 q2 : D} {b4 : Slot} (e1 : m__law_due [.val W, .val U] = .ok (.val q1) [.val W, .val U]) (e2 : m__law_due [.val U, .val W] = .ok (.val q2) [.val U, .val W]) (t1 : m__law_pair_right [.val W, .val U, .val q1] = .ok (.val (.bl true)) [.val W, .val U, .val q1]) (t2 : m__law_pair_right [.val U, .val W, .val q2] = .ok (.val (.bl true)) [.val U, .val W, .val q2]) :
    sIf (mOr (mNot (mT (mO (mV (mCallX m__law_pair_right [(mNameO 5), (mNameO 6), (mO (mV (mCallX m__law_due [(mNameO 5), (mNameO 6)] [])))] []))))) (mNot (mT (mO (mV (mCallX m__law_pair_right [(mNameO 6), (mNameO 5), (mO (mV (mCallX m__law_due [(mNameO 6), (mNameO 5)] [])))] [])))))) (sSeq (sRet (mS (mC (.bl false)))) sSkip) sSkip (Bn b0 b1 d b3 b4 (.val W) (.val U) b7 b8 b9 b10 b11 b12 b13 b14 b15) = .nx (Bn b0 b1 d b3 b4 (.val W) (.val U) b7 b8 b9 b10 b11 b12 b13 b14 b15) := by
  simp only [ap_seq, ap_skip, ap_ret, ap_retN, ap_drop, ap_if, ap_set, ap_par, ap_for, ap_unp, ap_raise, ap_bind, ap_retf, ap_V, ap_O, ap_S, ap_C, ap_nameO, ap_nameV, ap_2, ap_fin2, ap_N, ap_finN, ap_Os0, ap_Os1, ap_Vs0, ap_Vs1, ap_Rs0, ap_Rs1, ap_tup, ap_tupB, ap_lst, ap_T, ap_B, ap_not, ap_and, ap_or, ap_andV, ap_orV, ap_notV, ap_ife, ap_1, ap_ch, ap_sl, ap_P0, ap_P1, ap_callX, ap_callE, ap_R1, ap_It, ap_Mt, ap_Rd, ap_put, ap_putAt, ap_LstRg, ap_Rg0, getD, getDs, lent, okAll, setAll, argsOf, argOf, slotsO, nodupB, backE, ap1, fin, pickA, List.getElem?_cons_zero, List.getElem?_cons_succ, List.set_cons_zero, List.set_cons_succ, List.nil_append, List.cons_append, List.mem_cons, List.not_mem_nil, or_false, Nat.reduceEqDiff, not_false_eq_true, decide_true, Bool.and_true, Bool.true_and, Bool.not_false, Bool.not_true, reduceCtorEq, reduceIte, e1, e2, t1, t2, truth]
theorem ar_if {W U : D} {b4 : Slot} (e1 : m__law_all_right [.val W, .val U] = .ok (.val (.bl true)) [.val W, .val U]) :
    sIf (mNot (mT (mO (mV (mCallX m__law_all_right [(mNameO 5), (mNameO 6)] []))))) (sSeq (sRet (mS (mC (.bl false)))) sSkip) sSkip (Bn b0 b1 d b3 b4 (.val W) (.val U) b7 b8 b9 b10 b11 b12 b13 b14 b15) = .nx (Bn b0 b1 d b3 b4 (.val W) (.val U) b7 b8 b9 b10 b11 b12 b13 b14 b15) := by
  simp only [ap_seq, ap_skip, ap_ret, ap_retN, ap_drop, ap_if, ap_set, ap_par, ap_for, ap_unp, ap_raise, ap_bind, ap_retf, ap_V, ap_O, ap_S, ap_C, ap_nameO, ap_nameV, ap_2, ap_fin2, ap_N, ap_finN, ap_Os0, ap_Os1, ap_Vs0, ap_Vs1, ap_Rs0, ap_Rs1, ap_tup, ap_tupB, ap_lst, ap_T, ap_B, ap_not, ap_and, ap_or, ap_andV, ap_orV, ap_notV, ap_ife, ap_1, ap_ch, ap_sl, ap_P0, ap_P1, ap_callX, ap_callE, ap_R1, ap_It, ap_Mt, ap_Rd, ap_put, ap_putAt, ap_LstRg, ap_Rg0, getD, getDs, lent, okAll, setAll, argsOf, argOf, slotsO, nodupB, backE, ap1, fin, pickA, List.getElem?_cons_zero, List.getElem?_cons_succ, List.set_cons_zero, List.set_cons_succ, List.nil_append, List.cons_append, List.mem_cons, List.not_mem_nil, or_false, Nat.reduceEqDiff, not_false_eq_true, decide_true, Bool.and_true, Bool.true_and, Bool.not_false, Bool.not_true, reduceCtorEq, reduceIte, e1, truth]
end
end HD
set_option Elab.async false
set_option linter.all false
set_option maxRecDepth 100000
set_option maxHeartbeats 1000000
namespace HD
open PySem PySem.Spec PyProof.Rows L2 Mn
section
variable {en en' en2 : En} {mt mt2 : Fx Slot} {v x : Int} {X Y WD W U d d1 d2 : D} {b0 b1 b3 b4 b5 b6 b7 b8 b9 b10 b11 b12 b13 b14 b15 a2 : Slot}
theorem sB (e : m__law_box [.val X, .val Y] = .ok (.own false d) [.val X, .val Y]) (n2 : Nl a2) : sSet 2 (mCallX m__law_box [mNameO 0, mNameO 1] []) [.val X, .val Y, a2, b3, b4, b5, b6, b7, b8, b9, b10, b11, b12, b13, b14, b15] = .nx (Bn (.val X) (.val Y) d b3 b4 b5 b6 b7 b8 b9 b10 b11 b12 b13 b14 b15) := by
  refine (set_nx (r := .own false d) (e := [.val X, .val Y, a2, b3, b4, b5, b6, b7, b8, b9, b10, b11, b12, b13, b14, b15]) ?_ (nl_at (z := a2) rfl n2)).trans rfl
  simp only [ap_seq, ap_skip, ap_ret, ap_retN, ap_drop, ap_if, ap_set, ap_par, ap_for, ap_unp, ap_raise, ap_bind, ap_retf, ap_V, ap_O, ap_S, ap_C, ap_nameO, ap_nameV, ap_2, ap_fin2, ap_N, ap_finN, ap_Os0, ap_Os1, ap_Vs0, ap_Vs1, ap_Rs0, ap_Rs1, ap_tup, ap_tupB, ap_lst, ap_T, ap_B, ap_not, ap_and, ap_or, ap_andV, ap_orV, ap_notV, ap_ife, ap_1, ap_ch, ap_sl, ap_P0, ap_P1, ap_callX, ap_callE, ap_R1, ap_It, ap_Mt, ap_Rd, ap_put, ap_putAt, ap_LstRg, ap_Rg0, getD, getDs, lent, okAll, setAll, argsOf, argOf, slotsO, nodupB, backE, ap1, fin, pickA, List.getElem?_cons_zero, List.getElem?_cons_succ, List.set_cons_zero, List.set_cons_succ, List.nil_append, List.cons_append, List.mem_cons, List.not_mem_nil, or_false, Nat.reduceEqDiff, not_false_eq_true, decide_true, Bool.and_true, Bool.true_and, Bool.not_false, Bool.not_true, reduceCtorEq, reduceIte, e]
theorem sW (e : mt en = .ok (.val (.int v)) en') (wd : m__law_words [.val (.int (1 + v))] = .ok (.val WD) [.val (.int (1 + v))]) : mCallX m__law_words [mO (mV (m2 addE (mO (mC (.int 1))) (mO (mV mt))))] [] en = .ok (.val WD) en' := by
  simp only [ap_seq, ap_skip, ap_ret, ap_retN, ap_drop, ap_if, ap_set, ap_par, ap_for, ap_unp, ap_raise, ap_bind, ap_retf, ap_V, ap_O, ap_S, ap_C, ap_nameO, ap_nameV, ap_2, ap_fin2, ap_N, ap_finN, ap_Os0, ap_Os1, ap_Vs0, ap_Vs1, ap_Rs0, ap_Rs1, ap_tup, ap_tupB, ap_lst, ap_T, ap_B, ap_not, ap_and, ap_or, ap_andV, ap_orV, ap_notV, ap_ife, ap_1, ap_ch, ap_sl, ap_P0, ap_P1, ap_callX, ap_callE, ap_R1, ap_It, ap_Mt, ap_Rd, ap_put, ap_putAt, ap_LstRg, ap_Rg0, getD, getDs, lent, okAll, setAll, argsOf, argOf, slotsO, nodupB, backE, ap1, fin, pickA, List.getElem?_cons_zero, List.getElem?_cons_succ, List.set_cons_zero, List.set_cons_succ, List.nil_append, List.cons_append, List.mem_cons, List.not_mem_nil, or_false, Nat.reduceEqDiff, not_false_eq_true, decide_true, Bool.and_true, Bool.true_and, Bool.not_false, Bool.not_true, reduceCtorEq, reduceIte, e, Mn.add_int, wd]
theorem sP (e1 : m__law_pick [.own true d, .val WD] = .ok (.val W) [.own true d1, .val WD]) (e2 : m__law_pick [.own true d1, .val WD] = .ok (.val U) [.own true d2, .val WD]) (n5 : Nl b5) (n6 : Nl b6) :
    sPar [5, 6] [(mCallX m__law_pick [(mNameO 2), (mNameO 3)] []), (mCallX m__law_pick [(mNameO 2), (mNameO 3)] [])] (Bn b0 b1 d (.val WD) b4 b5 b6 b7 b8 b9 b10 b11 b12 b13 b14 b15) = .nx (Bn b0 b1 d2 (.val WD) b4 (.val W) (.val U) b7 b8 b9 b10 b11 b12 b13 b14 b15) := by
  have l1 := nl_at (en := Bn b0 b1 d2 (.val WD) b4 b5 b6 b7 b8 b9 b10 b11 b12 b13 b14 b15) (i := 5) (z := b5) rfl n5
  have l2 := nl_at (en := Bn b0 b1 d2 (.val WD) b4 b5 b6 b7 b8 b9 b10 b11 b12 b13 b14 b15) (i := 6) (z := b6) rfl n6
  simp only [ap_seq, ap_skip, ap_ret, ap_retN, ap_drop, ap_if, ap_set, ap_par, ap_for, ap_unp, ap_raise, ap_bind, ap_retf, ap_V, ap_O, ap_S, ap_C, ap_nameO, ap_nameV, ap_2, ap_fin2, ap_N, ap_finN, ap_Os0, ap_Os1, ap_Vs0, ap_Vs1, ap_Rs0, ap_Rs1, ap_tup, ap_tupB, ap_lst, ap_T, ap_B, ap_not, ap_and, ap_or, ap_andV, ap_orV, ap_notV, ap_ife, ap_1, ap_ch, ap_sl, ap_P0, ap_P1, ap_callX, ap_callE, ap_R1, ap_It, ap_Mt, ap_Rd, ap_put, ap_putAt, ap_LstRg, ap_Rg0, getD, getDs, okAll, setAll, argsOf, argOf, slotsO, nodupB, backE, ap1, fin, pickA, List.getElem?_cons_zero, List.getElem?_cons_succ, List.set_cons_zero, List.set_cons_succ, List.nil_append, List.cons_append, List.mem_cons, List.not_mem_nil, or_false, Nat.reduceEqDiff, not_false_eq_true, decide_true, Bool.and_true, Bool.true_and, Bool.not_false, Bool.not_true, reduceCtorEq, reduceIte, e1, e2, l1, l2]
theorem sM (e : mt en = .ok (.val (.int v)) en') : m2 addE (mO (mC (.int 2))) (mO (mV mt)) en = .ok (.val (.int (2 + v))) en' := by
  simp only [ap_seq, ap_skip, ap_ret, ap_retN, ap_drop, ap_if, ap_set, ap_par, ap_for, ap_unp, ap_raise, ap_bind, ap_retf, ap_V, ap_O, ap_S, ap_C, ap_nameO, ap_nameV, ap_2, ap_fin2, ap_N, ap_finN, ap_Os0, ap_Os1, ap_Vs0, ap_Vs1, ap_Rs0, ap_Rs1, ap_tup, ap_tupB, ap_lst, ap_T, ap_B, ap_not, ap_and, ap_or, ap_andV, ap_orV, ap_notV, ap_ife, ap_1, ap_ch, ap_sl, ap_P0, ap_P1, ap_callX, ap_callE, ap_R1, ap_It, ap_Mt, ap_Rd, ap_put, ap_putAt, ap_LstRg, ap_Rg0, getD, getDs, lent, okAll, setAll, argsOf, argOf, slotsO, nodupB, backE, ap1, fin, pickA, List.getElem?_cons_zero, List.getElem?_cons_succ, List.set_cons_zero, List.set_cons_succ, List.nil_append, List.cons_append, List.mem_cons, List.not_mem_nil, or_false, Nat.reduceEqDiff, not_false_eq_true, decide_true, Bool.and_true, Bool.true_and, Bool.not_false, Bool.not_true, reduceCtorEq, reduceIte, e, Mn.add_int]
theorem sT {xs : List D} (e : mt en = .ok (.own false (.lst xs)) en') : mN (ap1 (tupD true)) [mO (mV mt)] en = .ok (.val (.tpb xs)) en' := by
  simp only [ap_seq, ap_skip, ap_ret, ap_retN, ap_drop, ap_if, ap_set, ap_par, ap_for, ap_unp, ap_raise, ap_bind, ap_retf, ap_V, ap_O, ap_S, ap_C, ap_nameO, ap_nameV, ap_2, ap_fin2, ap_N, ap_finN, ap_Os0, ap_Os1, ap_Vs0, ap_Vs1, ap_Rs0, ap_Rs1, ap_tup, ap_tupB, ap_lst, ap_T, ap_B, ap_not, ap_and, ap_or, ap_andV, ap_orV, ap_notV, ap_ife, ap_1, ap_ch, ap_sl, ap_P0, ap_P1, ap_callX, ap_callE, ap_R1, ap_It, ap_Mt, ap_Rd, ap_put, ap_putAt, ap_LstRg, ap_Rg0, getD, getDs, lent, okAll, setAll, argsOf, argOf, slotsO, nodupB, backE, ap1, fin, pickA, List.getElem?_cons_zero, List.getElem?_cons_succ, List.set_cons_zero, List.set_cons_succ, List.nil_append, List.cons_append, List.mem_cons, List.not_mem_nil, or_false, Nat.reduceEqDiff, not_false_eq_true, decide_true, Bool.and_true, Bool.true_and, Bool.not_false, Bool.not_true, reduceCtorEq, reduceIte, e, tupD]
theorem sE (e : mt en = .ok (.val (.int v)) en') : mB (m2 eqE (mO (mV mt)) (mO (mC (.int 0)))) en = .ok (decide (v = 0)) en' := by
  simp only [ap_seq, ap_skip, ap_ret, ap_retN, ap_drop, ap_if, ap_set, ap_par, ap_for, ap_unp, ap_raise, ap_bind, ap_retf, ap_V, ap_O, ap_S, ap_C, ap_nameO, ap_nameV, ap_2, ap_fin2, ap_N, ap_finN, ap_Os0, ap_Os1, ap_Vs0, ap_Vs1, ap_Rs0, ap_Rs1, ap_tup, ap_tupB, ap_lst, ap_T, ap_B, ap_not, ap_and, ap_or, ap_andV, ap_orV, ap_notV, ap_ife, ap_1, ap_ch, ap_sl, ap_P0, ap_P1, ap_callX, ap_callE, ap_R1, ap_It, ap_Mt, ap_Rd, ap_put, ap_putAt, ap_LstRg, ap_Rg0, getD, getDs, lent, okAll, setAll, argsOf, argOf, slotsO, nodupB, backE, ap1, fin, pickA, List.getElem?_cons_zero, List.getElem?_cons_succ, List.set_cons_zero, List.set_cons_succ, List.nil_append, List.cons_append, List.mem_cons, List.not_mem_nil, or_false, Nat.reduceEqDiff, not_false_eq_true, decide_true, Bool.and_true, Bool.true_and, Bool.not_false, Bool.not_true, reduceCtorEq, reduceIte, e, Mn.eqE_int]
theorem sR {k : Nat} (e : mt en = .ok (.val (.int (k : Nat))) en') (hk : k ≤ 1000) : mR1 (mO (mV mt)) en = .ok (rng 0 k) en' := by
  have sm := small_nat hk
  rw [ap_R1, ap_O, ap_V, e]
  dsimp only
  unfold getD
  dsimp only
  rw [if_pos sm, Int.toNat_natCast]
theorem sU {q : Bool} {ub : List Int} {en3 : En} (e1 : mt en = .ok (.val (.int x)) en') (g : en'[6]? = some (.own q (.lst (ids ub)))) (e2 : mt2 en' = .ok (.val (.int v)) en2) (pt : putIx 6 (.int v) (.int x) en2 = .nx en3) : sPut 6 (mO (mV mt2)) (mV mt) en = .nx en3 := by
  rw [ap_put, ap_V, e1]
  dsimp only
  rw [ap_putAt, g]
  dsimp only
  rw [ap_O, ap_V, e2]
  dsimp only
  unfold getD
  dsimp only
  rw [pt]
end
/-- the odd values, with what is due -/
def odds : List (D × D × Int) := [(.non, .non, 0), (.tpb [], .tpb [], 0), (.tpb [.int 2], .tpb [.int 0], 0), (.tpb [.bl true], .tpb [.int 0], 0), (.tpb [.int 0], .tpb [.int 0, .int 0], 1), (.tpb [.int 0], .non, 1), (.tpb [.int 0], .lst [.int (0 - 1)], 1)]
abbrev oddF (o : D × D × Int) : D := .tpb [o.1, o.2.1, .int o.2.2]
def oddD : D := .lst (odds.map oddF)
theorem odd_err : ∀ o ∈ odds, m__law_error [.val o.1, .val o.2.1] = .ok (.val (.int o.2.2)) [.val o.1, .val o.2.1] := by
  have h : ∀ o1 o2 o3 o4 o5 o6 o7 : D × D × Int, (∀ P : D × D × Int → Prop, P o1 → P o2 → P o3 → P o4 → P o5 → P o6 → P o7 → ∀ o ∈ [o1, o2, o3, o4, o5, o6, o7], P o) := by
    intro o1 o2 o3 o4 o5 o6 o7 P h1 h2 h3 h4 h5 h6 h7 o ho
    simp only [List.mem_cons, List.not_mem_nil, or_false] at ho
    rcases ho with rfl | rfl | rfl | rfl | rfl | rfl | rfl <;> assumption
  unfold odds
  refine h _ _ _ _ _ _ _ (fun o => m__law_error [.val o.1, .val o.2.1] = .ok (.val (.int o.2.2)) [.val o.1, .val o.2.1]) ?_ ?_ ?_ ?_ ?_ ?_ ?_ <;> kernel_rfl
theorem odd_mk {en : En} : mLst [(mTupB [(mC .non), (mC .non), (mC (.int 0))]), (mTupB [(mTupB []), (mTupB []), (mC (.int 0))]), (mTupB [(mTupB [(mC (.int 2))]), (mTupB [(mC (.int 0))]), (mC (.int 0))]), (mTupB [(mTupB [(mC (.bl true))]), (mTupB [(mC (.int 0))]), (mC (.int 0))]), (mTupB [(mTupB [(mC (.int 0))]), (mTupB [(mC (.int 0)), (mC (.int 0))]), (mC (.int 1))]), (mTupB [(mTupB [(mC (.int 0))]), (mC .non), (mC (.int 1))]), (mTupB [(mTupB [(mC (.int 0))]), (mV (mLst [(mV (m2 subD (mO (mC (.int 0))) (mO (mC (.int 1)))))])), (mC (.int 1))])] en = .ok (.own false oddD) en := by kernel_rfl
theorem ne_lsts {w : List Int} : neE (.lst (ids w)) (.lst (ids w)) = some (.val (.bl false)) := by
  have ce : canEq (.lst (ids w)) (.lst (ids w)) = true := by
    unfold canEq
    simp [Mn.plain, Mn.plains_ids, SeqAt.shaped, toP, toPs_ids, PyData.canLay0, PyData.depth, lay_ids]
  show neD _ _ = _
  unfold neD
  rw [if_pos ce]
  simp [toP, toPs_ids, PyData.eqv, eqv_ids]
section
variable {b0 b1 b3 b4 b5 b6 b7 b9 b10 b11 b12 b13 b14 b15 : Slot} {d x y z : D}
theorem bind3 {en : En} (n1 : lent en 13 = false) (n2 : lent (en.set 13 (.val x)) 14 = false) (n3 : lent ((en.set 13 (.val x)).set 14 (.val y)) 15 = false) : bindT (.tp [.nm 13, .nm 14, .nm 15]) (.tpb [x, y, z]) en = some (((en.set 13 (.val x)).set 14 (.val y)).set 15 (.val z)) := by
  have b1 : ∀ {en : En} {i : Nat} {x : D}, lent en i = false → bindT (.nm i) x en = some (en.set i (.val x)) := fun h => by
    unfold bindT
    rw [h]
    rfl
  show bindTs [.nm 13, .nm 14, .nm 15] [x, y, z] en = _
  unfold bindTs
  rw [b1 n1]
  dsimp only
  unfold bindTs
  rw [b1 n2]
  dsimp only
  unfold bindTs
  rw [b1 n3]
  rfl
theorem er_call (e : m__law_error [.val x, .val y] = .ok (.val z) [.val x, .val y]) : c_law_3 (Bn b0 b1 d b3 b4 b5 b6 b7 (.val oddD) b9 b10 b11 b12 (.val x) (.val y) b15) = .ok z (Bn b0 b1 d b3 b4 b5 b6 b7 (.val oddD) b9 b10 b11 b12 (.val x) (.val y) b15) := by
  unfold c_law_3
  simp only [ap_seq, ap_skip, ap_ret, ap_retN, ap_drop, ap_if, ap_set, ap_par, ap_for, ap_unp, ap_raise, ap_bind, ap_retf, ap_V, ap_O, ap_S, ap_C, ap_nameO, ap_nameV, ap_2, ap_fin2, ap_N, ap_finN, ap_Os0, ap_Os1, ap_Vs0, ap_Vs1, ap_Rs0, ap_Rs1, ap_tup, ap_tupB, ap_lst, ap_T, ap_B, ap_not, ap_and, ap_or, ap_andV, ap_orV, ap_notV, ap_ife, ap_1, ap_ch, ap_sl, ap_P0, ap_P1, ap_callX, ap_callE, ap_R1, ap_It, ap_Mt, ap_Rd, ap_put, ap_putAt, ap_LstRg, ap_Rg0, getD, getDs, lent, okAll, setAll, argsOf, argOf, slotsO, nodupB, backE, ap1, fin, pickA, List.getElem?_cons_zero, List.getElem?_cons_succ, List.set_cons_zero, List.set_cons_succ, List.nil_append, List.cons_append, List.mem_cons, List.not_mem_nil, or_false, Nat.reduceEqDiff, not_false_eq_true, decide_true, Bool.and_true, Bool.true_and, Bool.not_false, Bool.not_true, reduceCtorEq, reduceIte, e]
theorem rest3 {e13 e14 e15 : Slot} : restore (Bn b0 b1 d b3 b4 b5 b6 b7 (.val oddD) b9 b10 b11 b12 b13 b14 b15) [13, 14, 15] (wipeEn (Bn b0 b1 d b3 b4 b5 b6 b7 (.val oddD) b9 b10 b11 b12 e13 e14 e15) [13, 14, 15]) = Bn b0 b1 d b3 b4 b5 b6 b7 (.val oddD) b9 b10 b11 b12 (res b13) (res b14) (res b15) := by
  cases b13 <;> cases b14 <;> cases b15 <;> rfl
theorem nl3 (n13 : Nl b13) (n14 : Nl b14) (n15 : Nl b15) : (noneLent (Bn b0 b1 d b3 b4 b5 b6 b7 (.val oddD) b9 b10 b11 b12 b13 b14 b15) [13, 14, 15] && decide ((odds.map oddF).length < lim)) = true := by
  have l1 := nl_at (en := Bn b0 b1 d b3 b4 b5 b6 b7 (.val oddD) b9 b10 b11 b12 b13 b14 b15) (i := 13) (z := b13) rfl n13
  have l2 := nl_at (en := Bn b0 b1 d b3 b4 b5 b6 b7 (.val oddD) b9 b10 b11 b12 b13 b14 b15) (i := 14) (z := b14) rfl n14
  have l3 := nl_at (en := Bn b0 b1 d b3 b4 b5 b6 b7 (.val oddD) b9 b10 b11 b12 b13 b14 b15) (i := 15) (z := b15) rfl n15
  unfold noneLent
  rw [List.all_cons, List.all_cons, List.all_cons, l1, l2, l3]
  rfl
/-- what is told of odd values -/
theorem od_1 {it : Fx (List D)} {en : En} (hi : it en = .ok (odds.map oddF) (Bn b0 b1 d b3 b4 b5 b6 b7 (.val oddD) b9 b10 b11 b12 b13 b14 b15)) (n13 : Nl b13) (n14 : Nl b14) (n15 : Nl b15) :
    mLc [13, 14, 15] (.tp [(.nm 13), (.nm 14), (.nm 15)]) it mYes c_law_3 en = .ok (.own false (.lst (ids (odds.map (·.2.2))))) (Bn b0 b1 d b3 b4 b5 b6 b7 (.val oddD) b9 b10 b11 b12 (res b13) (res b14) (res b15)) := by
  obtain ⟨e', h1, s13, s14, s15, h2⟩ := lc_all (t := .tp [(.nm 13), (.nm 14), (.nm 15)]) (tt := mYes) (te := c_law_3) (vs := [13, 14, 15]) (Iv := fun en => ∃ s13 s14 s15, en = Bn b0 b1 d b3 b4 b5 b6 b7 (.val oddD) b9 b10 b11 b12 s13 s14 s15) (f := oddF) (g := fun o => .int o.2.2) (ds := odds)
    (fun o ho en ⟨s13, s14, s15, he⟩ => by
      subst he
      exact ⟨Bn b0 b1 d b3 b4 b5 b6 b7 (.val oddD) b9 b10 b11 b12 (.val o.1) (.val o.2.1) (.val (.int o.2.2)), _, _, bind3 rfl rfl rfl, rfl, er_call (odd_err o ho), _, _, _, rfl⟩) [] (Bn b0 b1 d b3 b4 b5 b6 b7 (.val oddD) b9 b10 b11 b12 b13 b14 b15) ⟨_, _, _, rfl⟩
  subst h2
  have lo := lc_ok hi (nl3 n13 n14 n15) h1
  rw [rest3] at lo
  rw [lo]
  rfl
theorem od_2 {it : Fx (List D)} {en : En} (hi : it en = .ok (odds.map oddF) (Bn b0 b1 d b3 b4 b5 b6 b7 (.val oddD) b9 b10 b11 b12 b13 b14 b15)) (n13 : Nl b13) (n14 : Nl b14) (n15 : Nl b15) :
    mLc [13, 14, 15] (.tp [(.nm 13), (.nm 14), (.nm 15)]) it mYes c_law_4 en = .ok (.own false (.lst (ids (odds.map (·.2.2))))) (Bn b0 b1 d b3 b4 b5 b6 b7 (.val oddD) b9 b10 b11 b12 (res b13) (res b14) (res b15)) := by
  obtain ⟨e', h1, s13, s14, s15, h2⟩ := lc_all (t := .tp [(.nm 13), (.nm 14), (.nm 15)]) (tt := mYes) (te := c_law_4) (vs := [13, 14, 15]) (Iv := fun en => ∃ s13 s14 s15, en = Bn b0 b1 d b3 b4 b5 b6 b7 (.val oddD) b9 b10 b11 b12 s13 s14 s15) (f := oddF) (g := fun o => .int o.2.2) (ds := odds)
    (fun o ho en ⟨s13, s14, s15, he⟩ => by
      subst he
      exact ⟨Bn b0 b1 d b3 b4 b5 b6 b7 (.val oddD) b9 b10 b11 b12 (.val o.1) (.val o.2.1) (.val (.int o.2.2)), _, _, bind3 rfl rfl rfl, rfl, rfl, _, _, _, rfl⟩) [] (Bn b0 b1 d b3 b4 b5 b6 b7 (.val oddD) b9 b10 b11 b12 b13 b14 b15) ⟨_, _, _, rfl⟩
  subst h2
  have lo := lc_ok hi (nl3 n13 n14 n15) h1
  rw [rest3] at lo
  rw [lo]
  rfl
theorem it_o : mIt (mNameV 8) (Bn b0 b1 d b3 b4 b5 b6 b7 (.own false oddD) b9 b10 b11 b12 b13 b14 b15) = .ok (odds.map oddF) (Bn b0 b1 d b3 b4 b5 b6 b7 (.val oddD) b9 b10 b11 b12 b13 b14 b15) := rfl
theorem it_v : mIt (mNameV 8) (Bn b0 b1 d b3 b4 b5 b6 b7 (.val oddD) b9 b10 b11 b12 b13 b14 b15) = .ok (odds.map oddF) (Bn b0 b1 d b3 b4 b5 b6 b7 (.val oddD) b9 b10 b11 b12 b13 b14 b15) := rfl
theorem nn_if {en e1 e2 : En} {m1 m2' : Fx Slot} {X : D} (h1 : m1 en = .ok (.own false X) e1) (h2 : m2' e1 = .ok (.own false X) e2) (ne : neE X X = some (.val (.bl false))) {a : Fs} : sIf (mB (m2 neE (mO (mV m1)) (mO (mV m2')))) a sSkip en = .nx e2 := by
  simp only [ap_seq, ap_skip, ap_ret, ap_retN, ap_drop, ap_if, ap_set, ap_par, ap_for, ap_unp, ap_raise, ap_bind, ap_retf, ap_V, ap_O, ap_S, ap_C, ap_nameO, ap_nameV, ap_2, ap_fin2, ap_N, ap_finN, ap_Os0, ap_Os1, ap_Vs0, ap_Vs1, ap_Rs0, ap_Rs1, ap_tup, ap_tupB, ap_lst, ap_T, ap_B, ap_not, ap_and, ap_or, ap_andV, ap_orV, ap_notV, ap_ife, ap_1, ap_ch, ap_sl, ap_P0, ap_P1, ap_callX, ap_callE, ap_R1, ap_It, ap_Mt, ap_Rd, ap_put, ap_putAt, ap_LstRg, ap_Rg0, getD, getDs, lent, okAll, setAll, argsOf, argOf, slotsO, nodupB, backE, ap1, fin, pickA, List.getElem?_cons_zero, List.getElem?_cons_succ, List.set_cons_zero, List.set_cons_succ, List.nil_append, List.cons_append, List.mem_cons, List.not_mem_nil, or_false, Nat.reduceEqDiff, not_false_eq_true, decide_true, Bool.and_true, Bool.true_and, Bool.not_false, Bool.not_true, reduceCtorEq, reduceIte, h1, h2, ne]
/-- the odd values are told right -/
theorem od_if (n13 : Nl b13) (n14 : Nl b14) (n15 : Nl b15) : sIf (mB (m2 neE (mO (mV (mLc [13, 14, 15] (.tp [(.nm 13), (.nm 14), (.nm 15)]) (mIt (mNameV 8)) mYes c_law_3))) (mO (mV (mLc [13, 14, 15] (.tp [(.nm 13), (.nm 14), (.nm 15)]) (mIt (mNameV 8)) mYes c_law_4))))) (sSeq (sRet (mS (mC (.bl false)))) sSkip) sSkip (Bn b0 b1 d b3 b4 b5 b6 b7 (.own false oddD) b9 b10 b11 b12 b13 b14 b15)
    = .nx (Bn b0 b1 d b3 b4 b5 b6 b7 (.val oddD) b9 b10 b11 b12 (res (res b13)) (res (res b14)) (res (res b15))) :=
  nn_if (od_1 it_o n13 n14 n15) (od_2 it_v res_pl.nl res_pl.nl res_pl.nl) ne_lsts
end
end HD
set_option Elab.async false
set_option linter.all false
set_option maxRecDepth 100000
set_option maxHeartbeats 2000000
namespace HD
open PySem PySem.Spec PyProof.Rows L2 Mn
/-- what the books of small words keep -/
def Tab : Prop := ∀ (n s : Nat) (w : List Int), s < n → s + 2 * n ≤ 9 → w.length = n → Pu.Bits w → chk n s w = true
theorem pair_of (T : Tab) {w u : List Int} {n : Nat} (b1 : Pu.Bits w) (b2 : Pu.Bits u) (lw : w.length = n) (lu : u.length = n) (ln : n ≤ 9) (l0 : n ≠ 0) : ∃ q, m__law_due [.val (.tpb (ids w)), .val (.tpb (ids u))] = .ok (.val q) [.val (.tpb (ids w)), .val (.tpb (ids u))] ∧
    m__law_pair_right [.val (.tpb (ids w)), .val (.tpb (ids u)), .val q] = .ok (.val (.bl true)) [.val (.tpb (ids w)), .val (.tpb (ids u)), .val q] := by
  obtain ⟨d1, d2⟩ := t_due (u := u) lw (by omega)
  have tab : ∀ s, s ≤ n → s + 2 * n ≤ 9 → Pu.one1 (w.drop s) < Pu.one1 (u.drop s) → chk n s w = true ∧ chk n s u = true := fun s h1 h2 h3 => by
    have h4 : s < n := by
      by_cases c : s < n
      · exact c
      · have : u.drop s = [] := List.drop_eq_nil_of_le (by omega)
        rw [this] at h3
        exact absurd h3 (Nat.not_lt_zero _)
    exact ⟨T n s w h4 h2 lw b1, T n s u h4 h2 lu b2⟩
  rcases due_or w u with ⟨s, hs⟩ | nd
  · exact ⟨_, d1 s hs, t_pair b1 b2 lw lu ln l0 (.inr ⟨s, hs, rfl⟩) tab⟩
  · exact ⟨_, d2 nd, t_pair b1 b2 lw lu ln l0 (.inl ⟨nd, rfl⟩) tab⟩
theorem wds_ne {n : Nat} : wds n ≠ [] := fun h => by
  have := wds_all (n := n) (w := List.replicate n 0) (by simp) (fun x hx => .inl (List.eq_of_mem_replicate hx))
  rw [h] at this
  cases this
theorem r1_4 {kn : Int} {d : D} {b0 b1 b3 b5 b6 b7 b8 b9 b10 b11 b12 b13 b14 b15 : Slot} (sm : small kn = true) : mR1 (mNameO 4) (Bn b0 b1 d b3 (.val (.int kn)) b5 b6 b7 b8 b9 b10 b11 b12 b13 b14 b15) = .ok (rng 0 kn.toNat) (Bn b0 b1 d b3 (.val (.int kn)) b5 b6 b7 b8 b9 b10 b11 b12 b13 b14 b15) := by
  simp only [ap_seq, ap_skip, ap_ret, ap_retN, ap_drop, ap_if, ap_set, ap_par, ap_for, ap_unp, ap_raise, ap_bind, ap_retf, ap_V, ap_O, ap_S, ap_C, ap_nameO, ap_nameV, ap_2, ap_fin2, ap_N, ap_finN, ap_Os0, ap_Os1, ap_Vs0, ap_Vs1, ap_Rs0, ap_Rs1, ap_tup, ap_tupB, ap_lst, ap_T, ap_B, ap_not, ap_and, ap_or, ap_andV, ap_orV, ap_notV, ap_ife, ap_1, ap_ch, ap_sl, ap_P0, ap_P1, ap_callX, ap_callE, ap_R1, ap_It, ap_Mt, ap_Rd, ap_put, ap_putAt, ap_LstRg, ap_Rg0, getD, getDs, lent, okAll, setAll, argsOf, argOf, slotsO, nodupB, backE, ap1, fin, pickA, List.getElem?_cons_zero, List.getElem?_cons_succ, List.set_cons_zero, List.set_cons_succ, List.nil_append, List.cons_append, List.mem_cons, List.not_mem_nil, or_false, Nat.reduceEqDiff, not_false_eq_true, decide_true, Bool.and_true, Bool.true_and, Bool.not_false, Bool.not_true, reduceCtorEq, reduceIte, sm]
theorem rng_f {k : Nat} : rng 0 k = (List.range k).map fun i => D.int (i : Nat) := rng_z
section
variable {ns : List Int} {k : Nat} {a2 a3 a4 a5 a6 a7 a8 a9 a10 a11 a12 a13 a14 a15 : Slot}
theorem law_step (T : Tab) (hk : k ≤ 4) (n2 : Nl a2) (n3 : Nl a3) (n4 : Nl a4) (n5 : Nl a5) (n6 : Nl a6) (n7 : Nl a7) (n8 : Nl a8) (n9 : Nl a9) (n10 : Nl a10) (n11 : Nl a11) (n12 : Nl a12) (n13 : Nl a13) (n14 : Nl a14) (n15 : Nl a15) :
    ∃ c2 c3 c4 c5 c6 c7 c8 c9 c10 c11 c12 c13 c14 c15, (Nl c2 ∧ Nl c3 ∧ Nl c4 ∧ Nl c5 ∧ Nl c6 ∧ Nl c7 ∧ Nl c8 ∧ Nl c9 ∧ Nl c10 ∧ Nl c11 ∧ Nl c12 ∧ Nl c13 ∧ Nl c14 ∧ Nl c15) ∧
      l_law_1 [.val (.scr ns), .val (.int (k : Nat)), a2, a3, a4, a5, a6, a7, a8, a9, a10, a11, a12, a13, a14, a15] = .nx [.val (.scr ns), .val (.int (k : Nat)), c2, c3, c4, c5, c6, c7, c8, c9, c10, c11, c12, c13, c14, c15] := by
  obtain ⟨d0, e0, h0⟩ := t_box (ns := ns) (k := k) (by omega)
  have q0 := sB (b3 := a3) (b4 := a4) (b5 := a5) (b6 := a6) (b7 := a7) (b8 := a8) (b9 := a9) (b10 := a10) (b11 := a11) (b12 := a12) (b13 := a13) (b14 := a14) (b15 := a15) e0 n2
  -- the words
  obtain ⟨v1, d1, e1, v10, v11, h1⟩ := tk_d (b0 := .val (.scr ns)) (b1 := .val (.int (k : Nat))) (b3 := a3) (b4 := a4) (b5 := a5) (b6 := a6) (b7 := a7) (b8 := a8) (b9 := a9) (b10 := a10) (b11 := a11) (b12 := a12) (b13 := a13) (b14 := a14) (b15 := a15) (t := 99999) (d := d0) (k := 3) (o := mO (mC (.int 3))) h0 (by decide) (by decide) kO
  obtain ⟨m, hm, hm0, hm3⟩ : ∃ m : Nat, 1 + v1 = (m : Int) ∧ 1 ≤ m ∧ m ≤ 3 := ⟨(1 + v1).toNat, by omega, by omega, by omega⟩
  have wd := wd_all (i := m) (by omega)
  rw [← hm] at wd
  have q1 := set_nx (i := 3) (sW e1 wd) (nl_at (z := a3) rfl n3)
  have wl : (wds m).length < 1000 := by
    have : m = 1 ∨ m = 2 ∨ m = 3 := by omega
    rcases this with rfl | rfl | rfl <;> decide
  -- two words
  obtain ⟨w, d2, e2, hw, h2⟩ := t_pick (t := 99998) (h1.less (by omega)) (wds_ne (n := m)) wl
  obtain ⟨u, d3, e3, hu, h3⟩ := t_pick (t := 99997) h2 (wds_ne (n := m)) wl
  obtain ⟨lw, bw⟩ := wds_ok hw
  obtain ⟨lu, bu⟩ := wds_ok hu
  have q2 := sP (b0 := .val (.scr ns)) (b1 := .val (.int (k : Nat))) (b4 := a4) (b7 := a7) (b8 := a8) (b9 := a9) (b10 := a10) (b11 := a11) (b12 := a12) (b13 := a13) (b14 := a14) (b15 := a15) e2 e3 n5 n6
  obtain ⟨x1, y1, z1⟩ := pair_of T bw bu lw lu (by omega) (by omega)
  obtain ⟨x2, y2, z2⟩ := pair_of T bu bw lu lw (by omega) (by omega)
  have q3 := pr_if (b0 := .val (.scr ns)) (b1 := .val (.int (k : Nat))) (d := d3) (b3 := .val (wdsD m)) (b4 := a4) (b7 := a7) (b8 := a8) (b9 := a9) (b10 := a10) (b11 := a11) (b12 := a12) (b13 := a13) (b14 := a14) (b15 := a15) y1 y2 z1 z2
  have q4 := ar_if (b0 := .val (.scr ns)) (b1 := .val (.int (k : Nat))) (d := d3) (b3 := .val (wdsD m)) (b4 := a4) (b7 := a7) (b8 := a8) (b9 := a9) (b10 := a10) (b11 := a11) (b12 := a12) (b13 := a13) (b14 := a14) (b15 := a15) (t_all bw bu lw lu (by omega) (by omega))
  -- longer words
  obtain ⟨v5, d5, e5, v50, v51, h5⟩ := tk_d (b0 := .val (.scr ns)) (b1 := .val (.int (k : Nat))) (b3 := .val (wdsD m)) (b4 := a4) (b5 := .val (.tpb (ids w))) (b6 := .val (.tpb (ids u))) (b7 := a7) (b8 := a8) (b9 := a9) (b10 := a10) (b11 := a11) (b12 := a12) (b13 := a13) (b14 := a14) (b15 := a15) (t := 99996) (d := d3) (k := 8) (o := mO (mC (.int 8))) h3 (by decide) (by decide) kO
  obtain ⟨n, hn, hn2, hn9⟩ : ∃ n : Nat, 2 + v5 = (n : Int) ∧ 2 ≤ n ∧ n ≤ 9 := ⟨(2 + v5).toNat, by omega, by omega, by omega⟩
  have p5 := sM e5
  rw [hn] at p5
  have q5 := set_nx (i := 4) p5 (nl_at (z := a4) rfl n4)
  have it6 : mR1 (mNameO 4) (Bn (.val (.scr ns)) (.val (.int (k : Nat))) d5 (.val (wdsD m)) (.val (.int (n : Nat))) (.val (.tpb (ids w))) (.val (.tpb (ids u))) a7 a8 a9 a10 a11 a12 a13 a14 a15) = .ok (rng 0 n) (Bn (.val (.scr ns)) (.val (.int (k : Nat))) d5 (.val (wdsD m)) (.val (.int (n : Nat))) (.val (.tpb (ids w))) (.val (.tpb (ids u))) a7 a8 a9 a10 a11 a12 a13 a14 a15) := by
    have z := r1_4 (b0 := .val (.scr ns)) (b1 := .val (.int (k : Nat))) (d := d5) (b3 := .val (wdsD m)) (b5 := .val (.tpb (ids w))) (b6 := .val (.tpb (ids u))) (b7 := a7) (b8 := a8) (b9 := a9) (b10 := a10) (b11 := a11) (b12 := a12) (b13 := a13) (b14 := a14) (b15 := a15) (small_nat (k := n) (by omega))
    rw [Int.toNat_natCast] at z
    exact z
  obtain ⟨w', d6, s7, le6, lw', bw', h6⟩ := dr_7 (b0 := .val (.scr ns)) (b1 := .val (.int (k : Nat))) (b3 := .val (wdsD m)) (b4 := .val (.int (n : Nat))) (b5 := .val (.tpb (ids w))) (b6 := .val (.tpb (ids u))) (b8 := a8) (b9 := a9) (b10 := a10) (b11 := a11) (b12 := a12) (b13 := a13) (b14 := a14) (b15 := a15) (ds := rng 0 n) (t := 99000) (d := d5) (s7 := a7) (acc := []) (h5.less (by rw [rng_len]; omega))
  have c6 : (noneLent (Bn (.val (.scr ns)) (.val (.int (k : Nat))) d5 (.val (wdsD m)) (.val (.int (n : Nat))) (.val (.tpb (ids w))) (.val (.tpb (ids u))) a7 a8 a9 a10 a11 a12 a13 a14 a15) [7] && decide ((rng 0 n).length < lim)) = true := by
    rw [rng_len, decide_eq_true (by unfold lim; omega)]
    have l7 := nl_at (en := Bn (.val (.scr ns)) (.val (.int (k : Nat))) d5 (.val (wdsD m)) (.val (.int (n : Nat))) (.val (.tpb (ids w))) (.val (.tpb (ids u))) a7 a8 a9 a10 a11 a12 a13 a14 a15) (i := 7) (z := a7) rfl n7
    unfold noneLent
    rw [List.all_cons, l7]
    rfl
  have lo6 := lc_ok it6 c6 le6
  have rs6 : restore (Bn (.val (.scr ns)) (.val (.int (k : Nat))) d5 (.val (wdsD m)) (.val (.int (n : Nat))) (.val (.tpb (ids w))) (.val (.tpb (ids u))) a7 a8 a9 a10 a11 a12 a13 a14 a15) [7] (wipeEn (Bn (.val (.scr ns)) (.val (.int (k : Nat))) d6 (.val (wdsD m)) (.val (.int (n : Nat))) (.val (.tpb (ids w))) (.val (.tpb (ids u))) s7 a8 a9 a10 a11 a12 a13 a14 a15) [7]) = Bn (.val (.scr ns)) (.val (.int (k : Nat))) d6 (.val (wdsD m)) (.val (.int (n : Nat))) (.val (.tpb (ids w))) (.val (.tpb (ids u))) (res a7) a8 a9 a10 a11 a12 a13 a14 a15 := by
    cases a7 <;> rfl
  rw [rs6] at lo6
  rw [rng_len] at lw'
  have q6 := set_nx (i := 5) (sT lo6) (nl_at (z := .val (.tpb (ids w))) rfl val_nl)
  have q7 : sSet 6 (mN (ap1 listD) [(mNameO 5)]) (Bn (.val (.scr ns)) (.val (.int (k : Nat))) d6 (.val (wdsD m)) (.val (.int (n : Nat))) (.val (.tpb (ids w'))) (.val (.tpb (ids u))) (res a7) a8 a9 a10 a11 a12 a13 a14 a15) = .nx (Bn (.val (.scr ns)) (.val (.int (k : Nat))) d6 (.val (wdsD m)) (.val (.int (n : Nat))) (.val (.tpb (ids w'))) (.own false (.lst (ids w'))) (res a7) a8 a9 a10 a11 a12 a13 a14 a15) := rfl
  -- places moved
  obtain ⟨v8, d8, e8, v80, v81, h8⟩ := tk_d (b0 := .val (.scr ns)) (b1 := .val (.int (k : Nat))) (b3 := .val (wdsD m)) (b4 := .val (.int (n : Nat))) (b5 := .val (.tpb (ids w'))) (b6 := .own false (.lst (ids w'))) (b7 := res a7) (b8 := a8) (b9 := a9) (b10 := a10) (b11 := a11) (b12 := a12) (b13 := a13) (b14 := a14) (b15 := a15) (t := 98999) (d := d6) (k := 4) (o := mO (mC (.int 4))) h6 (by decide) (by decide) kO
  obtain ⟨r, rfl⟩ : ∃ r : Nat, v8 = (r : Int) := ⟨v8.toNat, by omega⟩
  have it8 := sR e8 (by omega)
  obtain ⟨en8, f8, u8, d9, c7, c9, hen, lu8, bu8, hd9, n7', n9'⟩ := for_inv (t := .nm 7) (body := l_law_2) (f := fun i : Nat => D.int (i : Nat)) (ds := List.range r)
    (Iv := fun i en => ∃ u8 d9 c7 c9, en = Bn (.val (.scr ns)) (.val (.int (k : Nat))) d9 (.val (wdsD m)) (.val (.int (n : Nat))) (.val (.tpb (ids w'))) (.own false (.lst (ids u8))) c7 a8 c9 a10 a11 a12 a13 a14 a15 ∧ u8.length = n ∧ Pu.Bits u8 ∧ Bx (98999 - i) d9 ∧ Pl c7 ∧ Nl c9)
    (en := Bn (.val (.scr ns)) (.val (.int (k : Nat))) d8 (.val (wdsD m)) (.val (.int (n : Nat))) (.val (.tpb (ids w'))) (.own false (.lst (ids w'))) (res a7) a8 a9 a10 a11 a12 a13 a14 a15) ⟨w', d8, _, _, rfl, lw', bw', h8, res_pl, n9⟩ (fun i j hj en ⟨u8, d9, c7, c9, hen, lu8, bu8, hd9, n7', n9'⟩ => by
      obtain ⟨j1, j2⟩ := range_at hj
      subst hen
      obtain ⟨u9, d10, v', lu9, bu9, hd10, st⟩ := l2_step (b0 := .val (.scr ns)) (b1 := .val (.int (k : Nat))) (b3 := .val (wdsD m)) (b5 := .val (.tpb (ids w'))) (b8 := a8) (b9 := c9) (b10 := a10) (b11 := a11) (b12 := a12) (b13 := a13) (b14 := a14) (b15 := a15) (t := 98999 - (i + 1)) (X := .int (j : Nat)) (hd9.less (by omega)) hn2 (by omega) lu8 bu8 n9'
      refine ⟨Bn (.val (.scr ns)) (.val (.int (k : Nat))) d9 (.val (wdsD m)) (.val (.int (n : Nat))) (.val (.tpb (ids w'))) (.own false (.lst (ids u8))) (.val (.int (j : Nat))) a8 c9 a10 a11 a12 a13 a14 a15, _, ?_, st, u9, d10, .val (.int (j : Nat)), .val v', rfl, lu9, bu9, hd10, .inr ⟨_, rfl⟩, val_nl⟩
      rcases n7' with rfl | ⟨_, rfl⟩ <;> rfl)
  rw [List.length_range] at hd9
  subst hen
  rw [← rng_f] at f8
  -- one place drawn anew
  obtain ⟨v10', d10, e10, _, _, h10⟩ := tk_d (b0 := .val (.scr ns)) (b1 := .val (.int (k : Nat))) (b3 := .val (wdsD m)) (b4 := .val (.int (n : Nat))) (b5 := .val (.tpb (ids w'))) (b6 := .own false (.lst (ids u8))) (b7 := c7) (b8 := a8) (b9 := c9) (b10 := a10) (b11 := a11) (b12 := a12) (b13 := a13) (b14 := a14) (b15 := a15) (t := 98000) (d := d9) (k := 4) (o := mO (mC (.int 4))) (hd9.less (by omega)) (by decide) (by decide) kO
  have st10 : ∃ u11 d11, u11.length = n ∧ Pu.Bits u11 ∧ Bx 97998 d11 ∧ sIf (mB (m2 eqE (mO (mV (mCallX m__law_take [(mNameO 2), (mO (mC (.int 4)))] []))) (mO (mC (.int 0))))) (sSeq (sPut 6 (mO (mV (mCallX m__law_take [(mNameO 2), (mNameO 4)] []))) (mV (mCallX m__law_take [(mNameO 2), (mO (mC (.int 2)))] []))) sSkip) sSkip
      (Bn (.val (.scr ns)) (.val (.int (k : Nat))) d9 (.val (wdsD m)) (.val (.int (n : Nat))) (.val (.tpb (ids w'))) (.own false (.lst (ids u8))) c7 a8 c9 a10 a11 a12 a13 a14 a15) = .nx (Bn (.val (.scr ns)) (.val (.int (k : Nat))) d11 (.val (wdsD m)) (.val (.int (n : Nat))) (.val (.tpb (ids w'))) (.own false (.lst (ids u11))) c7 a8 c9 a10 a11 a12 a13 a14 a15) := by
    have se := sE e10
    by_cases c : v10' = 0
    · rw [decide_eq_true c] at se
      obtain ⟨v11', d11, e11, a0, a1, h11⟩ := tk_d (b0 := .val (.scr ns)) (b1 := .val (.int (k : Nat))) (b3 := .val (wdsD m)) (b4 := .val (.int (n : Nat))) (b5 := .val (.tpb (ids w'))) (b6 := .own false (.lst (ids u8))) (b7 := c7) (b8 := a8) (b9 := c9) (b10 := a10) (b11 := a11) (b12 := a12) (b13 := a13) (b14 := a14) (b15 := a15) (t := 97999) (d := d10) (k := 2) (o := mO (mC (.int 2))) (h10.less (by omega)) (by decide) (by decide) kO
      obtain ⟨v12, d12, e12, a2', a3', h12⟩ := tk_4 (b0 := .val (.scr ns)) (b1 := .val (.int (k : Nat))) (b3 := .val (wdsD m)) (b5 := .val (.tpb (ids w'))) (b6 := .own false (.lst (ids u8))) (b7 := c7) (b8 := a8) (b9 := c9) (b10 := a10) (b11 := a11) (b12 := a12) (b13 := a13) (b14 := a14) (b15 := a15) (t := 97998) (d := d11) (k := (n : Nat)) h11 (by omega) (by omega)
      refine ⟨u8.set v12.toNat v11', d12, by simp [lu8], bits_set bu8 (bit_of a0 a1), h12, if_yes se (seq_nx (sU (q := false) (ub := u8) e11 rfl e12 (pt_ids (q := false) (u := u8) rfl a2' (by omega))) rfl)⟩
    · rw [decide_eq_false c] at se
      exact ⟨u8, d10, lu8, bu8, h10.less (by omega), if_no se rfl⟩
  obtain ⟨u', d11, lu', bu', h11, q10⟩ := st10
  have q11 : sSet 6 (mN (ap1 (tupD true)) [(mNameO 6)]) (Bn (.val (.scr ns)) (.val (.int (k : Nat))) d11 (.val (wdsD m)) (.val (.int (n : Nat))) (.val (.tpb (ids w'))) (.own false (.lst (ids u'))) c7 a8 c9 a10 a11 a12 a13 a14 a15) = .nx (Bn (.val (.scr ns)) (.val (.int (k : Nat))) d11 (.val (wdsD m)) (.val (.int (n : Nat))) (.val (.tpb (ids w'))) (.val (.tpb (ids u'))) c7 a8 c9 a10 a11 a12 a13 a14 a15) := rfl
  obtain ⟨x3, y3, z3⟩ := pair_of T bw' bu' lw' lu' (by omega) (by omega)
  obtain ⟨x4, y4, z4⟩ := pair_of T bu' bw' lu' lw' (by omega) (by omega)
  have q12 := pr_if (b0 := .val (.scr ns)) (b1 := .val (.int (k : Nat))) (d := d11) (b3 := .val (wdsD m)) (b4 := .val (.int (n : Nat))) (b7 := c7) (b8 := a8) (b9 := c9) (b10 := a10) (b11 := a11) (b12 := a12) (b13 := a13) (b14 := a14) (b15 := a15) y3 y4 z3 z4
  -- marks drawn
  obtain ⟨en13, f13, d13, c7', c9', c10, c11, c12, hen13, h13, m7, m9, m10, m11, m12⟩ := for_inv (t := .nm 7) (body := l_law_3) (f := fun i : Nat => D.int (i : Nat)) (ds := List.range 12)
    (Iv := fun i en => ∃ d13 c7 c9 c10 c11 c12, en = Bn (.val (.scr ns)) (.val (.int (k : Nat))) d13 (.val (wdsD m)) (.val (.int (n : Nat))) (.val (.tpb (ids w'))) (.val (.tpb (ids u'))) c7 a8 c9 c10 c11 c12 a13 a14 a15 ∧ Bx (97998 - 28 * i) d13 ∧ Pl c7 ∧ Nl c9 ∧ Nl c10 ∧ Nl c11 ∧ Nl c12)
    (en := Bn (.val (.scr ns)) (.val (.int (k : Nat))) d11 (.val (wdsD m)) (.val (.int (n : Nat))) (.val (.tpb (ids w'))) (.val (.tpb (ids u'))) c7 a8 c9 a10 a11 a12 a13 a14 a15) ⟨d11, _, _, _, _, _, rfl, h11, n7', n9', n10, n11, n12⟩ (fun i j hj en ⟨d13, c7, c9, c10, c11, c12, hen, hd, m7, m9, m10, m11, m12⟩ => by
      obtain ⟨j1, j2⟩ := range_at hj
      subst hen
      obtain ⟨d14, e9, e10, e11, e12, hd14, p9, p10, p11, p12, st⟩ := l3_step (b0 := .val (.scr ns)) (b1 := .val (.int (k : Nat))) (b3 := .val (wdsD m)) (b7 := .val (.int (j : Nat))) (b8 := a8) (b9 := c9) (b10 := c10) (b11 := c11) (b12 := c12) (b13 := a13) (b14 := a14) (b15 := a15) (t := 97998 - 28 * (i + 1)) (n := n) (hd.less (by omega)) hn2 hn9 lw' lu' bw' bu' m9 m10 m11 m12
      refine ⟨Bn (.val (.scr ns)) (.val (.int (k : Nat))) d13 (.val (wdsD m)) (.val (.int (n : Nat))) (.val (.tpb (ids w'))) (.val (.tpb (ids u'))) (.val (.int (j : Nat))) a8 c9 c10 c11 c12 a13 a14 a15, _, ?_, st, d14, .val (.int (j : Nat)), e9, e10, e11, e12, rfl, hd14, .inr ⟨_, rfl⟩, p9.nl, p10, p11.nl, p12.nl⟩
      rcases m7 with rfl | ⟨_, rfl⟩ <;> rfl)
  subst hen13
  have it13 : mR1 (mO (mC (.int 12))) (Bn (.val (.scr ns)) (.val (.int (k : Nat))) d11 (.val (wdsD m)) (.val (.int (n : Nat))) (.val (.tpb (ids w'))) (.val (.tpb (ids u'))) c7 a8 c9 a10 a11 a12 a13 a14 a15) = .ok ((List.range 12).map fun i => D.int (i : Nat)) (Bn (.val (.scr ns)) (.val (.int (k : Nat))) d11 (.val (wdsD m)) (.val (.int (n : Nat))) (.val (.tpb (ids w'))) (.val (.tpb (ids u'))) c7 a8 c9 a10 a11 a12 a13 a14 a15) := rfl
  -- odd values
  have q14 := set_nx (i := 8) (odd_mk (en := Bn (.val (.scr ns)) (.val (.int (k : Nat))) d13 (.val (wdsD m)) (.val (.int (n : Nat))) (.val (.tpb (ids w'))) (.val (.tpb (ids u'))) c7' a8 c9' c10 c11 c12 a13 a14 a15)) (nl_at (z := a8) rfl n8)
  have q15 := od_if (b0 := .val (.scr ns)) (b1 := .val (.int (k : Nat))) (d := d13) (b3 := .val (wdsD m)) (b4 := .val (.int (n : Nat))) (b5 := .val (.tpb (ids w'))) (b6 := .val (.tpb (ids u'))) (b7 := c7') (b9 := c9') (b10 := c10) (b11 := c11) (b12 := c12) n13 n14 n15
  refine ⟨.own false d13, .val (wdsD m), .val (.int (n : Nat)), .val (.tpb (ids w')), .val (.tpb (ids u')), c7', .val oddD, c9', c10, c11, c12, res (res a13), res (res a14), res (res a15), ⟨own_nl, val_nl, val_nl, val_nl, val_nl, m7.nl, val_nl, m9, m10, m11, m12, res_pl.nl, res_pl.nl, res_pl.nl⟩, ?_⟩
  unfold l_law_1
  exact seq_nx q0 (seq_nx q1 (seq_nx q2 (seq_nx q3 (seq_nx q4 (seq_nx q5 (seq_nx q6 (seq_nx q7 (seq_nx (for_nx it8 f8) (seq_nx q10 (seq_nx q11 (seq_nx q12 (seq_nx (for_nx it13 f13) (seq_nx q14 (seq_nx q15 rfl))))))))))))))
end
end HD
set_option Elab.async false
set_option linter.all false
set_option maxRecDepth 100000
set_option maxHeartbeats 2000000
namespace HD
open PySem PySem.Spec PyProof.Rows L2 Mn
theorem turns {ln : Int} {en : En} (h : mN (ap1 lenD) [(mNameO 0)] en = .ok (.val (.int ln)) en) (sm : small (maxI 2 (minI 4 ln)) = true) : mR1 (mO (mV (mN (bestD maxI maxL) [(mO (mC (.int 2))), (mO (mV (mN (bestD minI minL) [(mO (mC (.int 4))), (mO (mV (mN (ap1 lenD) [(mNameO 0)])))])))]))) en = .ok (rng 0 (maxI 2 (minI 4 ln)).toNat) en := by
  have b1 : bestD minI minL [.int 4, .int ln] = some (.val (.int (minI 4 ln))) := rfl
  have b2 : ∀ x, bestD maxI maxL [.int 2, .int x] = some (.val (.int (maxI 2 x))) := fun _ => rfl
  have e1 : mN (bestD minI minL) [(mO (mC (.int 4))), (mO (mV (mN (ap1 lenD) [(mNameO 0)])))] en = .ok (.val (.int (minI 4 ln))) en := by
    rw [ap_N, ap_Os1, ap_O, ap_C]
    dsimp only
    rw [ap_Os1, ap_O, ap_V, h]
    dsimp only
    rw [ap_Os0]
    dsimp only
    rw [ap_finN]
    simp only [getDs, getD, b1]
  have e2 : mN (bestD maxI maxL) [(mO (mC (.int 2))), (mO (mV (mN (bestD minI minL) [(mO (mC (.int 4))), (mO (mV (mN (ap1 lenD) [(mNameO 0)])))])))] en = .ok (.val (.int (maxI 2 (minI 4 ln)))) en := by
    rw [ap_N, ap_Os1, ap_O, ap_C]
    dsimp only
    rw [ap_Os1, ap_O, ap_V, e1]
    dsimp only
    rw [ap_Os0]
    dsimp only
    rw [ap_finN]
    simp only [getDs, getD, b2]
  rw [ap_R1, ap_O, ap_V, e2]
  dsimp only
  simp only [getD, sm, reduceIte]
def Lv (ns : List Int) (en : En) : Prop := ∃ a1 a2 a3 a4 a5 a6 a7 a8 a9 a10 a11 a12 a13 a14 a15, en = [.val (.scr ns), a1, a2, a3, a4, a5, a6, a7, a8, a9, a10, a11, a12, a13, a14, a15] ∧ Nl a1 ∧ (Nl a2 ∧ Nl a3 ∧ Nl a4 ∧ Nl a5 ∧ Nl a6 ∧ Nl a7 ∧ Nl a8 ∧ Nl a9 ∧ Nl a10 ∧ Nl a11 ∧ Nl a12 ∧ Nl a13 ∧ Nl a14 ∧ Nl a15)
theorem un_nl : Nl .un := fun _ e => by cases e
theorem says_of (T : Tab) : Says := fun ns hl => by
  have hlen : mN (ap1 lenD) [(mNameO 0)] [.val (.scr ns), .un, .un, .un, .un, .un, .un, .un, .un, .un, .un, .un, .un, .un, .un, .un] = .ok (.val (.int (ns.length : Nat))) [.val (.scr ns), .un, .un, .un, .un, .un, .un, .un, .un, .un, .un, .un, .un, .un, .un, .un] := by
    have := len_scr (ns := ns)
    simp only [ap_seq, ap_skip, ap_ret, ap_retN, ap_drop, ap_if, ap_set, ap_par, ap_for, ap_unp, ap_raise, ap_bind, ap_retf, ap_V, ap_O, ap_S, ap_C, ap_nameO, ap_nameV, ap_2, ap_fin2, ap_N, ap_finN, ap_Os0, ap_Os1, ap_Vs0, ap_Vs1, ap_Rs0, ap_Rs1, ap_tup, ap_tupB, ap_lst, ap_T, ap_B, ap_not, ap_and, ap_or, ap_andV, ap_orV, ap_notV, ap_ife, ap_1, ap_ch, ap_sl, ap_P0, ap_P1, ap_callX, ap_callE, ap_R1, ap_It, ap_Mt, ap_Rd, ap_put, ap_putAt, ap_LstRg, ap_Rg0, getD, getDs, lent, okAll, setAll, argsOf, argOf, slotsO, nodupB, backE, ap1, fin, pickA, List.getElem?_cons_zero, List.getElem?_cons_succ, List.set_cons_zero, List.set_cons_succ, List.nil_append, List.cons_append, List.mem_cons, List.not_mem_nil, or_false, Nat.reduceEqDiff, not_false_eq_true, decide_true, Bool.and_true, Bool.true_and, Bool.not_false, Bool.not_true, reduceCtorEq, reduceIte, this]
  obtain ⟨x, hx⟩ : ∃ x, x = maxI 2 (minI 4 (ns.length : Nat)) := ⟨_, rfl⟩
  have x2 : 2 ≤ x ∧ x ≤ 4 := by
    rw [hx]
    unfold maxI minI
    split <;> split <;> omega
  have sm : small x = true := by
    unfold small
    rw [decide_eq_true (by omega), decide_eq_true (by omega)]
    rfl
  have it := turns hlen (by rw [← hx]; exact sm)
  rw [← hx] at it
  obtain ⟨e', f1, a1, a2, a3, a4, a5, a6, a7, a8, a9, a10, a11, a12, a13, a14, a15, he, _⟩ := for_inv (t := .nm 1) (body := l_law_1) (f := fun i : Nat => D.int (i : Nat)) (ds := List.range x.toNat) (Iv := fun _ en => Lv ns en) (en := [.val (.scr ns), .un, .un, .un, .un, .un, .un, .un, .un, .un, .un, .un, .un, .un, .un, .un])
    ⟨_, _, _, _, _, _, _, _, _, _, _, _, _, _, _, rfl, un_nl, un_nl, un_nl, un_nl, un_nl, un_nl, un_nl, un_nl, un_nl, un_nl, un_nl, un_nl, un_nl, un_nl, un_nl⟩ (fun i j hj en hv => by
      obtain ⟨a1, a2, a3, a4, a5, a6, a7, a8, a9, a10, a11, a12, a13, a14, a15, he, n1, n2, n3, n4, n5, n6, n7, n8, n9, n10, n11, n12, n13, n14, n15⟩ := hv
      obtain ⟨j1, j2⟩ := range_at hj
      subst he
      obtain ⟨c2, c3, c4, c5, c6, c7, c8, c9, c10, c11, c12, c13, c14, c15, nn, st⟩ := law_step (ns := ns) (k := j) T (by omega) n2 n3 n4 n5 n6 n7 n8 n9 n10 n11 n12 n13 n14 n15
      refine ⟨[.val (.scr ns), .val (.int (j : Nat)), a2, a3, a4, a5, a6, a7, a8, a9, a10, a11, a12, a13, a14, a15], _, ?_, st, _, _, _, _, _, _, _, _, _, _, _, _, _, _, _, rfl, val_nl, nn⟩
      unfold bindT
      rw [nl_at (z := a1) rfl n1]
      rfl)
  rw [← rng_f] at f1
  subst he
  have r : b_law [.val (.scr ns), .un, .un, .un, .un, .un, .un, .un, .un, .un, .un, .un, .un, .un, .un, .un] = .rt (.val (.bl true)) [.val (.scr ns), a1, a2, a3, a4, a5, a6, a7, a8, a9, a10, a11, a12, a13, a14, a15] := by
    unfold b_law
    exact seq_nx (for_nx it f1) (seq_rt (ret_rt rfl))
  exact ⟨_, sem_rt (n := 1) (m := 16) (b := b_law) (args := [.val (.scr ns)]) rfl r⟩
end HD
set_option Elab.async false
set_option linter.all false
set_option maxRecDepth 100000
set_option maxHeartbeats 1000000
namespace HD
open PySem PySem.Spec PyProof.Rows L2 Mn
theorem i_int {g : Int} : m_is_integer [.val (.int g)] = .ok (.val (.bl true)) [.val (.int g)] := by kernel_rfl
theorem n_int {g : Int} (h : 0 ≤ g) : m_is_number [.val (.int g)] = .ok (.val (.bl true)) [.val (.int g)] := by
  have e := i_int (g := g)
  have ge : geD (.int g) (.int 0) = some (.val (.bl true)) := by rw [Mn.ge_int, decide_eq_true h]
  refine sem_rt (n := 1) (m := 1) (b := b_is_number) (args := [.val (.int g)]) (e := [.val (.int g)]) rfl ?_
  show b_is_number [.val (.int g)] = _
  unfold b_is_number
  simp only [ap_seq, ap_skip, ap_ret, ap_retN, ap_drop, ap_if, ap_set, ap_par, ap_for, ap_unp, ap_raise, ap_bind, ap_retf, ap_V, ap_O, ap_S, ap_C, ap_nameO, ap_nameV, ap_2, ap_fin2, ap_N, ap_finN, ap_Os0, ap_Os1, ap_Vs0, ap_Vs1, ap_Rs0, ap_Rs1, ap_tup, ap_tupB, ap_lst, ap_T, ap_B, ap_not, ap_and, ap_or, ap_andV, ap_orV, ap_notV, ap_ife, ap_1, ap_ch, ap_sl, ap_P0, ap_P1, ap_callX, ap_callE, ap_R1, ap_It, ap_Mt, ap_Rd, ap_put, ap_putAt, ap_LstRg, ap_Rg0, getD, getDs, lent, okAll, setAll, argsOf, argOf, slotsO, nodupB, backE, ap1, fin, pickA, List.getElem?_cons_zero, List.getElem?_cons_succ, List.set_cons_zero, List.set_cons_succ, List.nil_append, List.cons_append, List.mem_cons, List.not_mem_nil, or_false, Nat.reduceEqDiff, not_false_eq_true, decide_true, Bool.and_true, Bool.true_and, Bool.not_false, Bool.not_true, reduceCtorEq, reduceIte, e, ge]
theorem b_int {g m : Int} (h : 0 ≤ g) (k : g < m) : m_is_below [.val (.int g), .val (.int m)] = .ok (.val (.bl true)) [.val (.int g), .val (.int m)] := by
  have e := n_int h
  have lt : ltD (.int g) (.int m) = some (.val (.bl true)) := by rw [Mn.lt_int, decide_eq_true k]
  refine sem_rt (n := 2) (m := 2) (b := b_is_below) (args := [.val (.int g), .val (.int m)]) (e := [.val (.int g), .val (.int m)]) rfl ?_
  show b_is_below [.val (.int g), .val (.int m)] = _
  unfold b_is_below
  simp only [ap_seq, ap_skip, ap_ret, ap_retN, ap_drop, ap_if, ap_set, ap_par, ap_for, ap_unp, ap_raise, ap_bind, ap_retf, ap_V, ap_O, ap_S, ap_C, ap_nameO, ap_nameV, ap_2, ap_fin2, ap_N, ap_finN, ap_Os0, ap_Os1, ap_Vs0, ap_Vs1, ap_Rs0, ap_Rs1, ap_tup, ap_tupB, ap_lst, ap_T, ap_B, ap_not, ap_and, ap_or, ap_andV, ap_orV, ap_notV, ap_ife, ap_1, ap_ch, ap_sl, ap_P0, ap_P1, ap_callX, ap_callE, ap_R1, ap_It, ap_Mt, ap_Rd, ap_put, ap_putAt, ap_LstRg, ap_Rg0, getD, getDs, lent, okAll, setAll, argsOf, argOf, slotsO, nodupB, backE, ap1, fin, pickA, List.getElem?_cons_zero, List.getElem?_cons_succ, List.set_cons_zero, List.set_cons_succ, List.nil_append, List.cons_append, List.mem_cons, List.not_mem_nil, or_false, Nat.reduceEqDiff, not_false_eq_true, decide_true, Bool.and_true, Bool.true_and, Bool.not_false, Bool.not_true, reduceCtorEq, reduceIte, e, lt]
/-- what the places take of a lot -/
def pk : List (List Int) → List Int → List Int → List Int
  | [], _, pick => pick
  | r :: ts, left, pick => match r.filter (fun x => decide (x ∈ left)) with
    | [] => pk ts left pick
    | x :: _ => pk ts (left.erase x) (pick ++ [x])
theorem rem_ids {x : Int} : ∀ {w : List Int}, x ∈ w → ∃ j, w.findIdx? (fun n => decide (n = x)) = some j ∧ w.eraseIdx j = w.erase x
  | y :: w, h => by
    by_cases c : y = x
    · subst c
      exact ⟨0, by rw [List.findIdx?_cons]; simp, by simp⟩
    · have h' : x ∈ w := by
        rcases List.mem_cons.mp h with h | h
        · exact absurd h.symm c
        · exact h
      obtain ⟨j, h1, h2⟩ := rem_ids h'
      refine ⟨j + 1, ?_, ?_⟩
      · rw [List.findIdx?_cons, if_neg (by simpa using c), h1]
        rfl
      · rw [List.erase_cons_tail (by simpa using c), List.eraseIdx_cons_succ, h2]
theorem op_rem {w : List Int} {x : Int} (h : x ∈ w) : opRemove (ids w) [.int x] = some (ids (w.erase x), .non) := by
  obtain ⟨j, h1, h2⟩ := rem_ids h
  unfold opRemove
  dsimp only
  rw [intsD_ids]
  dsimp only
  rw [h1]
  dsimp only
  rw [h2]
  rfl
theorem op_app {w : List Int} {x : Int} (h : w.length ≤ 1000) : opAppend (ids w) [.int x] = some (ids (w ++ [x]), .non) := by
  unfold opAppend
  dsimp only
  rw [if_pos (by rw [ids_len]; unfold sizeLine; omega)]
  show some (ids w ++ ids [x], D.non) = _
  rw [ids_app]
theorem op_ext {w m : List Int} (h : w.length + m.length ≤ 1000) : opExtend (ids w) [.lst (ids m)] = some (ids (w ++ m), .non) := by
  unfold opExtend
  dsimp only
  rw [if_pos (by rw [ids_len, ids_len]; unfold sizeLine; omega), ids_app]
section
variable {T L R X : D} {left pick r : List Int} {s2 s5 s6 s3 s4 : Slot} {P P' Lf Lf' F : List D} {x : D} {k : Int}
theorem pc_comp (n6 : Nl s6) (hr : r.length < lim) : mLc [6] (.nm 6) (mIt (mNameV 2)) q_picked_things_1 c_picked_things_1 [.val T, .val L, .val (.tup (ids r)), .own false (.lst (ids left)), s4, s5, s6] = .ok (.own false (.lst (ids (r.filter fun x => decide (x ∈ left))))) [.val T, .val L, .val (.tup (ids r)), .own false (.lst (ids left)), s4, s5, res s6] := by
  obtain ⟨e', f1, z, f2⟩ := lc_some (t := .nm 6) (tt := q_picked_things_1) (te := c_picked_things_1) (vs := [6]) (f := D.int) (g := D.int) (p := fun x => decide (x ∈ left)) (ds := r)
    (Iv := fun en => ∃ z, en = [.val T, .val L, .val (.tup (ids r)), .own false (.lst (ids left)), s4, s5, z]) (fun i hi' en ⟨z, hz⟩ => by
      subst hz
      have ix := (Sq.l left).inn (i := i)
      refine ⟨[.val T, .val L, .val (.tup (ids r)), .own false (.lst (ids left)), s4, s5, .val (.int i)], [.val T, .val L, .val (.tup (ids r)), .own false (.lst (ids left)), s4, s5, .val (.int i)], rfl, ?_, fun _ => ⟨_, rfl⟩, fun _ => ⟨_, rfl, _, rfl⟩⟩
      generalize decide (i ∈ left) = b at ix ⊢
      unfold q_picked_things_1
      simp only [ap_seq, ap_skip, ap_ret, ap_retN, ap_drop, ap_if, ap_set, ap_par, ap_for, ap_unp, ap_raise, ap_bind, ap_retf, ap_V, ap_O, ap_S, ap_C, ap_nameO, ap_nameV, ap_2, ap_fin2, ap_N, ap_finN, ap_Os0, ap_Os1, ap_Vs0, ap_Vs1, ap_Rs0, ap_Rs1, ap_tup, ap_tupB, ap_lst, ap_T, ap_B, ap_not, ap_and, ap_or, ap_andV, ap_orV, ap_notV, ap_ife, ap_1, ap_ch, ap_sl, ap_P0, ap_P1, ap_callX, ap_callE, ap_R1, ap_It, ap_Mt, ap_Rd, ap_put, ap_putAt, ap_LstRg, ap_Rg0, getD, getDs, lent, okAll, setAll, argsOf, argOf, slotsO, nodupB, backE, ap1, fin, pickA, List.getElem?_cons_zero, List.getElem?_cons_succ, List.set_cons_zero, List.set_cons_succ, List.nil_append, List.cons_append, List.mem_cons, List.not_mem_nil, or_false, Nat.reduceEqDiff, not_false_eq_true, decide_true, Bool.and_true, Bool.true_and, Bool.not_false, Bool.not_true, reduceCtorEq, reduceIte, ix]) [] [.val T, .val L, .val (.tup (ids r)), .own false (.lst (ids left)), s4, s5, s6] ⟨_, rfl⟩
  subst f2
  have it : mIt (mNameV 2) [.val T, .val L, .val (.tup (ids r)), .own false (.lst (ids left)), s4, s5, s6] = .ok (ids r) [.val T, .val L, .val (.tup (ids r)), .own false (.lst (ids left)), s4, s5, s6] := rfl
  have nl : (noneLent [.val T, .val L, .val (.tup (ids r)), .own false (.lst (ids left)), s4, s5, s6] [6] && decide ((ids r).length < lim)) = true := by
    have l := nl_at (en := [.val T, .val L, .val (.tup (ids r)), .own false (.lst (ids left)), s4, s5, s6]) (i := 6) (z := s6) rfl n6
    rw [ids_len, decide_eq_true hr]
    unfold noneLent
    rw [List.all_cons, l]
    rfl
  have lc := lc_ok it nl f1
  rw [lc]
  cases s6 <;> rfl
theorem pc_yes (gt : lenD (.lst F) = some (.val (.int k))) (gk : gtD (.int k) (.int 0) = some (.val (.bl true))) (ix : ixD (.lst F) (.int 0) = some (.val x)) (ap : opAppend P [x] = some (P', .non)) (rm : opRemove Lf [x] = some (Lf', .non)) :
    sIf (mB (m2 gtD (mO (mV (mN (ap1 lenD) [(mNameO 5)]))) (mO (mC (.int 0))))) (sSeq (sDrop (mS (mMt 4 opAppend [(mV (m2 ixD (mNameO 5) (mO (mC (.int 0)))))]))) (sSeq (sDrop (mS (mMt 3 opRemove [(mV (m2 ixD (mNameO 5) (mO (mC (.int 0)))))]))) sSkip)) sSkip [.val T, .val L, .val R, .own false (.lst Lf), .own false (.lst P), .own false (.lst F), s6]
    = .nx [.val T, .val L, .val R, .own false (.lst Lf'), .own false (.lst P'), .own false (.lst F), s6] := by
  simp only [ap_seq, ap_skip, ap_ret, ap_retN, ap_drop, ap_if, ap_set, ap_par, ap_for, ap_unp, ap_raise, ap_bind, ap_retf, ap_V, ap_O, ap_S, ap_C, ap_nameO, ap_nameV, ap_2, ap_fin2, ap_N, ap_finN, ap_Os0, ap_Os1, ap_Vs0, ap_Vs1, ap_Rs0, ap_Rs1, ap_tup, ap_tupB, ap_lst, ap_T, ap_B, ap_not, ap_and, ap_or, ap_andV, ap_orV, ap_notV, ap_ife, ap_1, ap_ch, ap_sl, ap_P0, ap_P1, ap_callX, ap_callE, ap_R1, ap_It, ap_Mt, ap_Rd, ap_put, ap_putAt, ap_LstRg, ap_Rg0, getD, getDs, lent, okAll, setAll, argsOf, argOf, slotsO, nodupB, backE, ap1, fin, pickA, List.getElem?_cons_zero, List.getElem?_cons_succ, List.set_cons_zero, List.set_cons_succ, List.nil_append, List.cons_append, List.mem_cons, List.not_mem_nil, or_false, Nat.reduceEqDiff, not_false_eq_true, decide_true, Bool.and_true, Bool.true_and, Bool.not_false, Bool.not_true, reduceCtorEq, reduceIte, gt, gk, ix, ap, rm]
theorem pc_no (gt : lenD (.lst F) = some (.val (.int k))) (gk : gtD (.int k) (.int 0) = some (.val (.bl false))) :
    sIf (mB (m2 gtD (mO (mV (mN (ap1 lenD) [(mNameO 5)]))) (mO (mC (.int 0))))) (sSeq (sDrop (mS (mMt 4 opAppend [(mV (m2 ixD (mNameO 5) (mO (mC (.int 0)))))]))) (sSeq (sDrop (mS (mMt 3 opRemove [(mV (m2 ixD (mNameO 5) (mO (mC (.int 0)))))]))) sSkip)) sSkip [.val T, .val L, .val R, .own false (.lst Lf), .own false (.lst P), .own false (.lst F), s6]
    = .nx [.val T, .val L, .val R, .own false (.lst Lf), .own false (.lst P), .own false (.lst F), s6] := by
  simp only [ap_seq, ap_skip, ap_ret, ap_retN, ap_drop, ap_if, ap_set, ap_par, ap_for, ap_unp, ap_raise, ap_bind, ap_retf, ap_V, ap_O, ap_S, ap_C, ap_nameO, ap_nameV, ap_2, ap_fin2, ap_N, ap_finN, ap_Os0, ap_Os1, ap_Vs0, ap_Vs1, ap_Rs0, ap_Rs1, ap_tup, ap_tupB, ap_lst, ap_T, ap_B, ap_not, ap_and, ap_or, ap_andV, ap_orV, ap_notV, ap_ife, ap_1, ap_ch, ap_sl, ap_P0, ap_P1, ap_callX, ap_callE, ap_R1, ap_It, ap_Mt, ap_Rd, ap_put, ap_putAt, ap_LstRg, ap_Rg0, getD, getDs, lent, okAll, setAll, argsOf, argOf, slotsO, nodupB, backE, ap1, fin, pickA, List.getElem?_cons_zero, List.getElem?_cons_succ, List.set_cons_zero, List.set_cons_succ, List.nil_append, List.cons_append, List.mem_cons, List.not_mem_nil, or_false, Nat.reduceEqDiff, not_false_eq_true, decide_true, Bool.and_true, Bool.true_and, Bool.not_false, Bool.not_true, reduceCtorEq, reduceIte, gt, gk]
theorem pc_loop : ∀ {ts : List (List Int)} {left pick : List Int} {s2 s5 s6 : Slot}, Nl s2 → Nl s5 → Nl s6 → (∀ r ∈ ts, r.length ≤ 100) → pick.length + ts.length ≤ 100 →
    ∃ left' z2 z5 z6, forL (.nm 2) l_picked_things_1 (ts.map fun r => .tup (ids r)) [.val T, .val L, s2, .own false (.lst (ids left)), .own false (.lst (ids pick)), s5, s6] = .nx [.val T, .val L, z2, .own false (.lst (ids left')), .own false (.lst (ids (pk ts left pick))), z5, z6]
  | [], left, pick, s2, s5, s6, _, _, _, _, _ => ⟨left, s2, s5, s6, rfl⟩
  | r :: ts, left, pick, s2, s5, s6, n2, n5, n6, hr, hp => by
    have hr0 := hr r List.mem_cons_self
    have bt : bindT (.nm 2) (.tup (ids r)) [.val T, .val L, s2, .own false (.lst (ids left)), .own false (.lst (ids pick)), s5, s6] = some [.val T, .val L, .val (.tup (ids r)), .own false (.lst (ids left)), .own false (.lst (ids pick)), s5, s6] := by
      unfold bindT
      rw [nl_at (z := s2) rfl n2]
      rfl
    have c := pc_comp (T := T) (L := L) (left := left) (r := r) (s4 := .own false (.lst (ids pick))) (s5 := s5) n6 (by unfold lim; omega)
    have s1 := set_nx (i := 5) c (nl_at (z := s5) rfl n5)
    cases q : r.filter (fun x => decide (x ∈ left)) with
    | nil =>
      rw [q] at s1
      have b : l_picked_things_1 [.val T, .val L, .val (.tup (ids r)), .own false (.lst (ids left)), .own false (.lst (ids pick)), s5, s6] = .nx [.val T, .val L, .val (.tup (ids r)), .own false (.lst (ids left)), .own false (.lst (ids pick)), .own false (.lst (ids [])), res s6] := by
        unfold l_picked_things_1
        exact seq_nx s1 (seq_nx (pc_no (k := 0) rfl (by rw [Mn.gt_int, decide_eq_false (by omega)])) rfl)
      obtain ⟨l', z2, z5, z6, h⟩ := pc_loop (ts := ts) (left := left) (pick := pick) (s2 := .val (.tup (ids r))) (s5 := .own false (.lst (ids []))) (s6 := res s6) val_nl own_nl res_pl.nl (fun y hy => hr y (List.mem_cons_of_mem _ hy)) (by simp at hp ⊢; omega)
      refine ⟨l', z2, z5, z6, ?_⟩
      have e : pk (r :: ts) left pick = pk ts left pick := by
        rw [pk, q]
      rw [e]
      show forL _ _ (.tup (ids r) :: _) _ = _
      unfold forL
      rw [bt]
      dsimp only
      rw [b]
      exact h
    | cons x xs =>
      rw [q] at s1
      have hx : x ∈ left := by
        have : x ∈ r.filter (fun x => decide (x ∈ left)) := by rw [q]; exact List.mem_cons_self
        exact of_decide_eq_true (List.mem_filter.mp this).2
      have b : l_picked_things_1 [.val T, .val L, .val (.tup (ids r)), .own false (.lst (ids left)), .own false (.lst (ids pick)), s5, s6] = .nx [.val T, .val L, .val (.tup (ids r)), .own false (.lst (ids (left.erase x))), .own false (.lst (ids (pick ++ [x]))), .own false (.lst (ids (x :: xs))), res s6] := by
        unfold l_picked_things_1
        exact seq_nx s1 (seq_nx (pc_yes (Sq.l (x :: xs)).len (by rw [Mn.gt_int, decide_eq_true (by simp)]) ((Sq.l (x :: xs)).ix (k := 0) rfl) (op_app (by omega)) (op_rem hx)) rfl)
      obtain ⟨l', z2, z5, z6, h⟩ := pc_loop (ts := ts) (left := left.erase x) (pick := pick ++ [x]) (s2 := .val (.tup (ids r))) (s5 := .own false (.lst (ids (x :: xs)))) (s6 := res s6) val_nl own_nl res_pl.nl (fun y hy => hr y (List.mem_cons_of_mem _ hy)) (by simp at hp ⊢; omega)
      refine ⟨l', z2, z5, z6, ?_⟩
      have e : pk (r :: ts) left pick = pk ts (left.erase x) (pick ++ [x]) := by
        rw [pk, q]
      rw [e]
      show forL _ _ (.tup (ids r) :: _) _ = _
      unfold forL
      rw [bt]
      dsimp only
      rw [b]
      exact h
end
theorem t_picked {ts : List (List Int)} {lot : List Int} (hr : ∀ r ∈ ts, r.length ≤ 100) (hp : ts.length ≤ 100) : m_picked_things [.val (.tup (ts.map fun r => .tup (ids r))), .val (.tup (ids lot))] = .ok (.val (.lst (ids (pk ts lot [])))) [.val (.tup (ts.map fun r => .tup (ids r))), .val (.tup (ids lot))] := by
  obtain ⟨l', z2, z5, z6, h⟩ := pc_loop (T := .tup (ts.map fun r => .tup (ids r))) (L := .tup (ids lot)) (ts := ts) (left := lot) (pick := []) (s2 := .un) (s5 := .un) (s6 := .un) (fun _ e => by cases e) (fun _ e => by cases e) (fun _ e => by cases e) hr (by simp; omega)
  have r : b_picked_things [.val (.tup (ts.map fun r => .tup (ids r))), .val (.tup (ids lot)), .un, .un, .un, .un, .un] = .rt (.val (.lst (ids (pk ts lot [])))) [.val (.tup (ts.map fun r => .tup (ids r))), .val (.tup (ids lot)), z2, .own false (.lst (ids l')), .val (.lst (ids (pk ts lot []))), z5, z6] := by
    unfold b_picked_things
    exact seq_nx (e := [.val (.tup (ts.map fun r => .tup (ids r))), .val (.tup (ids lot)), .un, .own false (.lst (ids lot)), .own false (.lst []), .un, .un]) rfl (seq_nx (for_nx (ds := ts.map fun r => .tup (ids r)) rfl h) (seq_rt (ret_rt rfl)))
  exact (sem_rt (n := 2) (m := 7) (b := b_picked_things) (args := [.val (.tup (ts.map fun r => .tup (ids r))), .val (.tup (ids lot))]) rfl r).trans (congrArg (Res.ok _) rfl)
end HD
set_option Elab.async false
set_option linter.all false
set_option maxRecDepth 100000
set_option maxHeartbeats 1000000
namespace HD
open PySem PySem.Spec PyProof.Rows L2 Mn
abbrev tids (ls : List (List Int)) : List D := ls.map fun r => .tup (ids r)
/-- who goes of the lots -/
def goL (ts : List (List Int)) : List (List Int) → List Int
  | [] => []
  | lot :: ls => lot.filter (fun x => !decide (x ∈ pk ts lot [])) ++ goL ts ls
section
variable {T M Pc G L : D} {gs pick lot : List Int} {s1 s2 s3 s4 s5 s6 s7 : Slot} {ts : List (List Int)}
theorem tb_comp (n6 : Nl s6) (hr : lot.length < lim) : mLc [6] (.nm 6) (mIt (mNameV 1)) q_tastes_book_1 c_tastes_book_1 [.val T, .val (.tup (ids lot)), s2, s3, s4, .val (.lst (ids pick)), s6] = .ok (.own false (.lst (ids (lot.filter fun x => !decide (x ∈ pick))))) [.val T, .val (.tup (ids lot)), s2, s3, s4, .val (.lst (ids pick)), res s6] := by
  obtain ⟨e', f1, z, f2⟩ := lc_some (t := .nm 6) (tt := q_tastes_book_1) (te := c_tastes_book_1) (vs := [6]) (f := D.int) (g := D.int) (p := fun x => !decide (x ∈ pick)) (ds := lot)
    (Iv := fun en => ∃ z, en = [.val T, .val (.tup (ids lot)), s2, s3, s4, .val (.lst (ids pick)), z]) (fun i hi' en ⟨z, hz⟩ => by
      subst hz
      have ix := (Sq.l pick).notin (i := i)
      refine ⟨[.val T, .val (.tup (ids lot)), s2, s3, s4, .val (.lst (ids pick)), .val (.int i)], [.val T, .val (.tup (ids lot)), s2, s3, s4, .val (.lst (ids pick)), .val (.int i)], rfl, ?_, fun _ => ⟨_, rfl⟩, fun _ => ⟨_, rfl, _, rfl⟩⟩
      generalize (!decide (i ∈ pick)) = b at ix ⊢
      unfold q_tastes_book_1
      simp only [ap_seq, ap_skip, ap_ret, ap_retN, ap_drop, ap_if, ap_set, ap_par, ap_for, ap_unp, ap_raise, ap_bind, ap_retf, ap_V, ap_O, ap_S, ap_C, ap_nameO, ap_nameV, ap_2, ap_fin2, ap_N, ap_finN, ap_Os0, ap_Os1, ap_Vs0, ap_Vs1, ap_Rs0, ap_Rs1, ap_tup, ap_tupB, ap_lst, ap_T, ap_B, ap_not, ap_and, ap_or, ap_andV, ap_orV, ap_notV, ap_ife, ap_1, ap_ch, ap_sl, ap_P0, ap_P1, ap_callX, ap_callE, ap_R1, ap_It, ap_Mt, ap_Rd, ap_put, ap_putAt, ap_LstRg, ap_Rg0, getD, getDs, lent, okAll, setAll, argsOf, argOf, slotsO, nodupB, backE, ap1, fin, pickA, List.getElem?_cons_zero, List.getElem?_cons_succ, List.set_cons_zero, List.set_cons_succ, List.nil_append, List.cons_append, List.mem_cons, List.not_mem_nil, or_false, Nat.reduceEqDiff, not_false_eq_true, decide_true, Bool.and_true, Bool.true_and, Bool.not_false, Bool.not_true, reduceCtorEq, reduceIte, ix]) [] [.val T, .val (.tup (ids lot)), s2, s3, s4, .val (.lst (ids pick)), s6] ⟨_, rfl⟩
  subst f2
  have it : mIt (mNameV 1) [.val T, .val (.tup (ids lot)), s2, s3, s4, .val (.lst (ids pick)), s6] = .ok (ids lot) [.val T, .val (.tup (ids lot)), s2, s3, s4, .val (.lst (ids pick)), s6] := rfl
  have nl : (noneLent [.val T, .val (.tup (ids lot)), s2, s3, s4, .val (.lst (ids pick)), s6] [6] && decide ((ids lot).length < lim)) = true := by
    have l := nl_at (en := [.val T, .val (.tup (ids lot)), s2, s3, s4, .val (.lst (ids pick)), s6]) (i := 6) (z := s6) rfl n6
    rw [ids_len, decide_eq_true hr]
    unfold noneLent
    rw [List.all_cons, l]
    rfl
  have lc := lc_ok it nl f1
  rw [lc]
  cases s6 <;> rfl
theorem tb_call {P : D} (e : m_picked_things [.val T, .val L] = .ok (.val P) [.val T, .val L]) (n5 : Nl s5) : sSet 5 (mCallX m_picked_things [(mNameO 0), (mNameO 1)] []) [.val T, .val L, s2, s3, s4, s5, s6] = .nx [.val T, .val L, s2, s3, s4, .val P, s6] := by
  refine (set_nx (r := .val P) (e := [.val T, .val L, s2, s3, s4, s5, s6]) ?_ (nl_at (z := s5) rfl n5)).trans rfl
  simp only [ap_seq, ap_skip, ap_ret, ap_retN, ap_drop, ap_if, ap_set, ap_par, ap_for, ap_unp, ap_raise, ap_bind, ap_retf, ap_V, ap_O, ap_S, ap_C, ap_nameO, ap_nameV, ap_2, ap_fin2, ap_N, ap_finN, ap_Os0, ap_Os1, ap_Vs0, ap_Vs1, ap_Rs0, ap_Rs1, ap_tup, ap_tupB, ap_lst, ap_T, ap_B, ap_not, ap_and, ap_or, ap_andV, ap_orV, ap_notV, ap_ife, ap_1, ap_ch, ap_sl, ap_P0, ap_P1, ap_callX, ap_callE, ap_R1, ap_It, ap_Mt, ap_Rd, ap_put, ap_putAt, ap_LstRg, ap_Rg0, getD, getDs, lent, okAll, setAll, argsOf, argOf, slotsO, nodupB, backE, ap1, fin, pickA, List.getElem?_cons_zero, List.getElem?_cons_succ, List.set_cons_zero, List.set_cons_succ, List.nil_append, List.cons_append, List.mem_cons, List.not_mem_nil, or_false, Nat.reduceEqDiff, not_false_eq_true, decide_true, Bool.and_true, Bool.true_and, Bool.not_false, Bool.not_true, reduceCtorEq, reduceIte, e]
theorem mt_ext {ml : Fx D} {en e2 : En} {i : Nat} {b : Bool} {xs ys zs : List D} (g : en[i]? = some (.own b (.lst xs))) (h : ml en = .ok (.lst zs) e2) (g2 : e2[i]? = some (.own b (.lst xs))) (o : opExtend xs [.lst zs] = some (ys, .non)) : sDrop (mS (mMt i opExtend [ml])) en = .nx (e2.set i (.own b (.lst ys))) := by
  rw [ap_drop, ap_S, ap_Mt, g]
  dsimp only
  rw [ap_Vs1, h]
  dsimp only
  rw [ap_Vs0]
  dsimp only
  rw [g2]
  dsimp only
  rw [o]
theorem tb_loop : ∀ {ls : List (List Int)} {gs : List Int} {s1 s5 s6 : Slot}, Nl s1 → Nl s5 → Nl s6 → (∀ l ∈ ls, l.length ≤ 100) → (∀ r ∈ ts, r.length ≤ 100) → ts.length ≤ 100 → gs.length + (goL ts ls).length ≤ 1000 →
    ∃ z1 z5 z6, forL (.nm 1) l_tastes_book_1 (tids ls) [.val (.tup (tids ts)), s1, s2, s3, .own false (.lst (ids gs)), s5, s6] = .nx [.val (.tup (tids ts)), z1, s2, s3, .own false (.lst (ids (gs ++ goL ts ls))), z5, z6]
  | [], gs, s1, s5, s6, _, _, _, _, _, _, _ => ⟨s1, s5, s6, by rw [show gs ++ goL ts [] = gs from List.append_nil _]; rfl⟩
  | lot :: ls, gs, s1, s5, s6, n1, n5, n6, hl, hr, ht, hg => by
    have hg' : gs.length + ((lot.filter fun x => !decide (x ∈ pk ts lot [])).length + (goL ts ls).length) ≤ 1000 := by
      rw [goL, List.length_append] at hg
      exact hg
    have hl0 := hl lot List.mem_cons_self
    have bt : bindT (.nm 1) (.tup (ids lot)) [.val (.tup (tids ts)), s1, s2, s3, .own false (.lst (ids gs)), s5, s6] = some [.val (.tup (tids ts)), .val (.tup (ids lot)), s2, s3, .own false (.lst (ids gs)), s5, s6] := by
      unfold bindT
      rw [nl_at (z := s1) rfl n1]
      rfl
    have a1 := tb_call (s2 := s2) (s3 := s3) (s4 := .own false (.lst (ids gs))) (s6 := s6) (t_picked (lot := lot) hr ht) n5
    have a2 := tb_comp (T := .tup (tids ts)) (s2 := s2) (s3 := s3) (s4 := .own false (.lst (ids gs))) (pick := pk ts lot []) (lot := lot) n6 (by unfold lim; omega)
    have a3 : mV (mLc [6] (.nm 6) (mIt (mNameV 1)) q_tastes_book_1 c_tastes_book_1) [.val (.tup (tids ts)), .val (.tup (ids lot)), s2, s3, .own false (.lst (ids gs)), .val (.lst (ids (pk ts lot []))), s6] = .ok (.lst (ids (lot.filter fun x => !decide (x ∈ pk ts lot [])))) [.val (.tup (tids ts)), .val (.tup (ids lot)), s2, s3, .own false (.lst (ids gs)), .val (.lst (ids (pk ts lot []))), res s6] := by
      rw [ap_V, a2]
    have a4 := mt_ext (i := 4) (b := false) rfl a3 rfl (op_ext (by omega))
    have b : l_tastes_book_1 [.val (.tup (tids ts)), .val (.tup (ids lot)), s2, s3, .own false (.lst (ids gs)), s5, s6] = .nx [.val (.tup (tids ts)), .val (.tup (ids lot)), s2, s3, .own false (.lst (ids (gs ++ lot.filter fun x => !decide (x ∈ pk ts lot [])))), .val (.lst (ids (pk ts lot []))), res s6] := by
      unfold l_tastes_book_1
      exact seq_nx a1 (seq_nx a4 rfl)
    obtain ⟨z1, z5, z6, h⟩ := tb_loop (ls := ls) (gs := gs ++ lot.filter fun x => !decide (x ∈ pk ts lot [])) (s1 := .val (.tup (ids lot))) (s5 := .val (.lst (ids (pk ts lot [])))) (s6 := res s6) val_nl val_nl res_pl.nl (fun y hy => hl y (List.mem_cons_of_mem _ hy)) hr ht (by rw [List.length_append]; omega)
    refine ⟨z1, z5, z6, ?_⟩
    show forL _ _ (.tup (ids lot) :: _) _ = _
    unfold forL
    rw [bt]
    dsimp only
    rw [b]
    dsimp only
    rw [h, goL, List.append_assoc]
theorem keyD_ids : ∀ {w : List Int}, keyD (ids w) = some (w.map .inl)
  | [] => rfl
  | i :: w => by
    show (keyD (ids w)).map _ = _
    rw [keyD_ids]
    rfl
theorem keysD_ids : ∀ {ls : List (List Int)}, keysD (tids ls) = some (ls.map fun l => l.map .inl)
  | [] => rfl
  | l :: ls => by
    show (match keyD (ids l), keysD (tids ls) with | some k, some ks => some (k :: ks) | _, _ => none) = _
    rw [keyD_ids, keysD_ids]
    rfl
def okG (m : Int) : List (List Int) → List Int → Bool
  | l :: ls, g :: gs => (decide (0 ≤ g) && decide (g < m) && decide (g ∈ l)) && okG m ls gs
  | [], [] => true
  | _, _ => false
theorem bi_if {g m : Int} {j : D} {self l : Slot} {lot : List Int} (h : 0 ≤ g) (k : g < m) (i : g ∈ lot) : l_Book___init___1 [self, .val (.int m), s2, s3, s4, .val j, .val (.tup (ids lot)), .val (.int g)] = .nx [self, .val (.int m), s2, s3, s4, .val j, .val (.tup (ids lot)), .val (.int g)] := by
  have e := b_int h k
  have q : inOp true (.int g) (.tup (ids lot)) = some (.val (.bl false)) := by rw [(Sq.t lot).notin, decide_eq_true i]; rfl
  unfold l_Book___init___1
  simp only [ap_seq, ap_skip, ap_ret, ap_retN, ap_drop, ap_if, ap_set, ap_par, ap_for, ap_unp, ap_raise, ap_bind, ap_retf, ap_V, ap_O, ap_S, ap_C, ap_nameO, ap_nameV, ap_2, ap_fin2, ap_N, ap_finN, ap_Os0, ap_Os1, ap_Vs0, ap_Vs1, ap_Rs0, ap_Rs1, ap_tup, ap_tupB, ap_lst, ap_T, ap_B, ap_not, ap_and, ap_or, ap_andV, ap_orV, ap_notV, ap_ife, ap_1, ap_ch, ap_sl, ap_P0, ap_P1, ap_callX, ap_callE, ap_R1, ap_It, ap_Mt, ap_Rd, ap_put, ap_putAt, ap_LstRg, ap_Rg0, getD, getDs, lent, okAll, setAll, argsOf, argOf, slotsO, nodupB, backE, ap1, fin, pickA, List.getElem?_cons_zero, List.getElem?_cons_succ, List.set_cons_zero, List.set_cons_succ, List.nil_append, List.cons_append, List.mem_cons, List.not_mem_nil, or_false, Nat.reduceEqDiff, not_false_eq_true, decide_true, Bool.and_true, Bool.true_and, Bool.not_false, Bool.not_true, reduceCtorEq, reduceIte, e, q, truth]
theorem bi_bind {j g l : D} {self : Slot} (n5 : Nl s5) (n6 : Nl s6) (n7 : Nl s7) : bindT (.tp [.nm 5, .tp [.nm 6, .nm 7]]) (.tup [j, .tup [l, g]]) [self, s1, s2, s3, s4, s5, s6, s7] = some [self, s1, s2, s3, s4, .val j, .val l, .val g] := by
  have b1 : ∀ {en : En} {i : Nat} {x : D}, lent en i = false → bindT (.nm i) x en = some (en.set i (.val x)) := fun h => by
    unfold bindT
    rw [h]
    rfl
  show bindTs [.nm 5, .tp [.nm 6, .nm 7]] [j, .tup [l, g]] _ = _
  unfold bindTs
  rw [b1 (nl_at (z := s5) rfl n5)]
  show bindTs [.tp [.nm 6, .nm 7]] [.tup [l, g]] [self, s1, s2, s3, s4, .val j, s6, s7] = _
  unfold bindTs
  show (match bindTs [.nm 6, .nm 7] [l, g] [self, s1, s2, s3, s4, .val j, s6, s7] with | some e => bindTs [] [] e | none => none) = _
  unfold bindTs
  rw [b1 (nl_at (z := s6) rfl n6)]
  dsimp only
  unfold bindTs
  rw [b1 (nl_at (z := s7) rfl n7)]
  rfl
theorem bi_loop {m : Int} {self : Slot} : ∀ {ls : List (List Int)} {gs : List Int} {j : Nat} {s5 s6 s7 : Slot}, Nl s5 → Nl s6 → Nl s7 → okG m ls gs = true →
    ∃ z5 z6 z7, forL (.tp [.nm 5, .tp [.nm 6, .nm 7]]) l_Book___init___1 (enD j (zpD (tids ls) (ids gs))) [self, .val (.int m), s2, s3, s4, s5, s6, s7] = .nx [self, .val (.int m), s2, s3, s4, z5, z6, z7]
  | [], [], j, s5, s6, s7, _, _, _, _ => ⟨s5, s6, s7, rfl⟩
  | [], _ :: _, _, _, _, _, _, _, _, h => by cases h
  | _ :: _, [], _, _, _, _, _, _, _, h => by cases h
  | l :: ls, g :: gs, j, s5, s6, s7, n5, n6, n7, h => by
    rw [okG, Bool.and_eq_true, Bool.and_eq_true, Bool.and_eq_true, decide_eq_true_eq, decide_eq_true_eq, decide_eq_true_eq] at h
    obtain ⟨⟨⟨h1, h2⟩, h3⟩, h4⟩ := h
    obtain ⟨z5, z6, z7, e⟩ := bi_loop (self := self) (ls := ls) (gs := gs) (j := j + 1) (s5 := .val (.int (j : Nat))) (s6 := .val (.tup (ids l))) (s7 := .val (.int g)) val_nl val_nl val_nl h4
    refine ⟨z5, z6, z7, ?_⟩
    show forL _ _ (.tup [.int (j : Nat), .tup [.tup (ids l), .int g]] :: _) _ = _
    unfold forL
    rw [bi_bind n5 n6 n7]
    dsimp only
    rw [bi_if (l := .un) h1 h2 h3]
    exact e
end
end HD
set_option Elab.async false
set_option linter.all false
set_option maxRecDepth 100000
set_option maxHeartbeats 1000000
namespace HD
open PySem PySem.Spec PyProof.Rows L2 Mn
/-- the book of goers -/
def BK (m p : Int) (ls : List (List Int)) (gs : List Int) : D := .ins ("Book" : Str) [(("many" : Str), .int m), (("places" : Str), .int p), (("goers" : Str), .tup (ids gs)), (("by_lot" : Str), .dic ((ls.map fun l => l.map Sum.inl).zip (ids gs)))]
theorem t_sq {d : D} {w : List Int} (h : Sq d w) : m_is_sequence [.val d] = .ok (.val (.bl true)) [.val d] := t_seq h
section
variable {m p a : Int} {ls : List (List Int)} {gs : List Int} {LD TT R0 T : D} {s0 s1 s2 s3 s4 s5 s6 s7 : Slot}
theorem bi_1 (sz : m_need_sizes [.val (.int m), .val (.int p)] = .ok (.val .non) [.val (.int m), .val (.int p)]) : sDrop (mCallX m_need_sizes [(mNameO 1), (mNameO 2)] []) [s0, .val (.int m), .val (.int p), s3, s4, s5, s6, s7] = .nx [s0, .val (.int m), .val (.int p), s3, s4, s5, s6, s7] := by
  simp only [ap_seq, ap_skip, ap_ret, ap_retN, ap_drop, ap_if, ap_set, ap_par, ap_for, ap_unp, ap_raise, ap_bind, ap_retf, ap_V, ap_O, ap_S, ap_C, ap_nameO, ap_nameV, ap_2, ap_fin2, ap_N, ap_finN, ap_Os0, ap_Os1, ap_Vs0, ap_Vs1, ap_Rs0, ap_Rs1, ap_tup, ap_tupB, ap_lst, ap_T, ap_B, ap_not, ap_and, ap_or, ap_andV, ap_orV, ap_notV, ap_ife, ap_1, ap_ch, ap_sl, ap_P0, ap_P1, ap_callX, ap_callE, ap_R1, ap_It, ap_Mt, ap_Rd, ap_put, ap_putAt, ap_LstRg, ap_Rg0, getD, getDs, lent, okAll, setAll, argsOf, argOf, slotsO, nodupB, backE, ap1, fin, pickA, List.getElem?_cons_zero, List.getElem?_cons_succ, List.set_cons_zero, List.set_cons_succ, List.nil_append, List.cons_append, List.mem_cons, List.not_mem_nil, or_false, Nat.reduceEqDiff, not_false_eq_true, decide_true, Bool.and_true, Bool.true_and, Bool.not_false, Bool.not_true, reduceCtorEq, reduceIte, sz]
theorem bi_2 (rr : m_rising_rows [.val (.int m), .val (.int (p + 1))] = .ok (.val LD) [.val (.int m), .val (.int (p + 1))]) : sSet 4 (mCallX m_rising_rows [(mNameO 1), (mO (mV (m2 addE (mNameO 2) (mO (mC (.int 1))))))] []) [s0, .val (.int m), .val (.int p), s3, .un, s5, s6, s7] = .nx [s0, .val (.int m), .val (.int p), s3, .val LD, s5, s6, s7] := by
  simp only [ap_seq, ap_skip, ap_ret, ap_retN, ap_drop, ap_if, ap_set, ap_par, ap_for, ap_unp, ap_raise, ap_bind, ap_retf, ap_V, ap_O, ap_S, ap_C, ap_nameO, ap_nameV, ap_2, ap_fin2, ap_N, ap_finN, ap_Os0, ap_Os1, ap_Vs0, ap_Vs1, ap_Rs0, ap_Rs1, ap_tup, ap_tupB, ap_lst, ap_T, ap_B, ap_not, ap_and, ap_or, ap_andV, ap_orV, ap_notV, ap_ife, ap_1, ap_ch, ap_sl, ap_P0, ap_P1, ap_callX, ap_callE, ap_R1, ap_It, ap_Mt, ap_Rd, ap_put, ap_putAt, ap_LstRg, ap_Rg0, getD, getDs, lent, okAll, setAll, argsOf, argOf, slotsO, nodupB, backE, ap1, fin, pickA, List.getElem?_cons_zero, List.getElem?_cons_succ, List.set_cons_zero, List.set_cons_succ, List.nil_append, List.cons_append, List.mem_cons, List.not_mem_nil, or_false, Nat.reduceEqDiff, not_false_eq_true, decide_true, Bool.and_true, Bool.true_and, Bool.not_false, Bool.not_true, reduceCtorEq, reduceIte, rr, Mn.add_int]
theorem bi_3 {G : D} (q : m_is_sequence [.val G] = .ok (.val (.bl true)) [.val G]) (l1 : lenD G = some (.val (.int a))) (l2 : lenD LD = some (.val (.int a))) {x : Fs} (ne : neE (.int a) (.int a) = some (.val (.bl false))) : sIf (mOr (mNot (mT (mO (mV (mCallX m_is_sequence [(mNameO 3)] []))))) (mB (m2 neE (mO (mV (mN (ap1 lenD) [(mNameO 3)]))) (mO (mV (mN (ap1 lenD) [(mNameO 4)])))))) x sSkip [s0, s1, s2, .val G, .val LD, s5, s6, s7] = .nx [s0, s1, s2, .val G, .val LD, s5, s6, s7] := by
  simp only [ap_seq, ap_skip, ap_ret, ap_retN, ap_drop, ap_if, ap_set, ap_par, ap_for, ap_unp, ap_raise, ap_bind, ap_retf, ap_V, ap_O, ap_S, ap_C, ap_nameO, ap_nameV, ap_2, ap_fin2, ap_N, ap_finN, ap_Os0, ap_Os1, ap_Vs0, ap_Vs1, ap_Rs0, ap_Rs1, ap_tup, ap_tupB, ap_lst, ap_T, ap_B, ap_not, ap_and, ap_or, ap_andV, ap_orV, ap_notV, ap_ife, ap_1, ap_ch, ap_sl, ap_P0, ap_P1, ap_callX, ap_callE, ap_R1, ap_It, ap_Mt, ap_Rd, ap_put, ap_putAt, ap_LstRg, ap_Rg0, getD, getDs, lent, okAll, setAll, argsOf, argOf, slotsO, nodupB, backE, ap1, fin, pickA, List.getElem?_cons_zero, List.getElem?_cons_succ, List.set_cons_zero, List.set_cons_succ, List.nil_append, List.cons_append, List.mem_cons, List.not_mem_nil, or_false, Nat.reduceEqDiff, not_false_eq_true, decide_true, Bool.and_true, Bool.true_and, Bool.not_false, Bool.not_true, reduceCtorEq, reduceIte, q, l1, l2, ne, truth]
theorem bi_5 {G : List D} : sFldSets G_0.cs [(0, ("many" : Str)), (0, ("places" : Str)), (0, ("goers" : Str))] (mTup [(mNameV 1), (mNameV 2), (mV (mN (ap1 (tupD false)) [(mNameO 3)]))]) [.own true (.ins ("Book" : Str) []), .val (.int m), .val (.int p), .val (.lst G), s4, s5, s6, s7] =
    .nx [.own true (.ins ("Book" : Str) [(("many" : Str), .int m), (("places" : Str), .int p), (("goers" : Str), .tup G)]), .val (.int m), .val (.int p), .val (.lst G), s4, s5, s6, s7] := by kernel_rfl
theorem fs_ok {cs : List (Str × List Str)} {i : Nat} {f : Str} {mv : Fx D} {en e e' : En} {d : D} (h : mv en = .ok d e) (k : sFldAt cs i f d e = .nx e') : sFldSet cs i f mv en = .nx e' := by
  unfold sFldSet sOf
  rw [h]
  dsimp only
  rw [k]
theorem bi_6 {G : List D} {d : D} : sFldAt G_0.cs 0 ("by_lot" : Str) d [.own true (.ins ("Book" : Str) [(("many" : Str), .int m), (("places" : Str), .int p), (("goers" : Str), .tup G)]), s1, s2, s3, s4, s5, s6, s7] = .nx [.own true (.ins ("Book" : Str) [(("many" : Str), .int m), (("places" : Str), .int p), (("goers" : Str), .tup G), (("by_lot" : Str), d)]), s1, s2, s3, s4, s5, s6, s7] := by kernel_rfl
theorem bi_g {G : List D} : mV (m1 (fldOp G_0.cs ("goers" : Str)) (mNameO 0)) [.own true (.ins ("Book" : Str) [(("many" : Str), .int m), (("places" : Str), .int p), (("goers" : Str), .tup G)]), s1, s2, s3, s4, s5, s6, s7] = .ok (.tup G) [.own true (.ins ("Book" : Str) [(("many" : Str), .int m), (("places" : Str), .int p), (("goers" : Str), .tup G)]), s1, s2, s3, s4, s5, s6, s7] := by kernel_rfl
theorem dz_ok {m1' m2' : Fx D} {en e1 e2 : En} {xs ys : List D} {ks : List (List Key)} (h1 : m1' en = .ok (.lst xs) e1) (h2 : m2' e1 = .ok (.tup ys) e2) (hk : keysD xs = some ks) (c : (upK ks && decide (xs.length = ys.length) && decide (xs.length ≤ 1000)) = true) : mDz m1' m2' en = .ok (.dic (ks.zip ys)) e2 := by
  unfold mDz
  refine bind_ok h1 (bind_ok h2 ?_)
  show (match keysD xs with | some ks => (if (upK ks && decide (xs.length = ys.length) && decide (xs.length ≤ 1000)) = true then Res.ok (D.dic (ks.zip ys)) e2 else .bad) | none => .bad) = _
  rw [hk]
  dsimp only
  rw [if_pos c]
/-- a book made -/
theorem t_init (sz : m_need_sizes [.val (.int m), .val (.int p)] = .ok (.val .non) [.val (.int m), .val (.int p)]) (rr : m_rising_rows [.val (.int m), .val (.int (p + 1))] = .ok (.val (.lst (tids ls))) [.val (.int m), .val (.int (p + 1))])
    (up : upK (ls.map fun l => l.map Sum.inl) = true) (ok : okG m ls gs = true) (ll : ls.length ≤ 1000) (lg : ls.length = gs.length) : ∃ e, m_Book___init__ [.own true (.ins ("Book" : Str) []), .val (.int m), .val (.int p), .val (.lst (ids gs))] = .ok (.val .non) (.own true (BK m p ls gs) :: e) := by
  have l2 : lenD (.lst (tids ls)) = some (.val (.int (gs.length : Nat))) := by
    show some (Slot.val (.int ((tids ls).length : Nat))) = _
    rw [List.length_map, lg]
  obtain ⟨z5, z6, z7, f1⟩ := bi_loop (m := m) (self := .own true (.ins ("Book" : Str) [])) (s2 := .val (.int p)) (s3 := .val (.lst (ids gs))) (s4 := .val (.lst (tids ls))) (ls := ls) (gs := gs) (j := 0) (s5 := .un) (s6 := .un) (s7 := .un) (fun _ e => by cases e) (fun _ e => by cases e) (fun _ e => by cases e) ok
  have hz : mEz (mNameV 4) (mNameV 3) [.own true (.ins ("Book" : Str) []), .val (.int m), .val (.int p), .val (.lst (ids gs)), .val (.lst (tids ls)), .un, .un, .un] = .ok (enD 0 (zpD (tids ls) (ids gs))) [.own true (.ins ("Book" : Str) []), .val (.int m), .val (.int p), .val (.lst (ids gs)), .val (.lst (tids ls)), .un, .un, .un] := rfl
  have dz := dz_ok (m1' := mNameV 4) (m2' := mV (m1 (fldOp G_0.cs ("goers" : Str)) (mNameO 0))) (en := [.own true (.ins ("Book" : Str) [(("many" : Str), .int m), (("places" : Str), .int p), (("goers" : Str), .tup (ids gs))]), .val (.int m), .val (.int p), .val (.lst (ids gs)), .val (.lst (tids ls)), z5, z6, z7]) (xs := tids ls) rfl bi_g keysD_ids (by
    rw [up, List.length_map, ids_len, decide_eq_true lg, decide_eq_true ll]
    rfl)
  have r : b_Book___init__ [.own true (.ins ("Book" : Str) []), .val (.int m), .val (.int p), .val (.lst (ids gs)), .un, .un, .un, .un] = .nx [.own true (BK m p ls gs), .val (.int m), .val (.int p), .val (.lst (ids gs)), .val (.lst (tids ls)), z5, z6, z7] := by
    unfold b_Book___init__
    exact seq_nx (bi_1 sz) (seq_nx (bi_2 rr) (seq_nx (bi_3 (t_sq (Sq.l gs)) (Sq.l gs).len l2 (by rw [Mn.neE_int, decide_eq_true rfl]; rfl)) (seq_nx (for_nx hz f1) (seq_nx bi_5 (seq_nx (fs_ok dz bi_6) rfl)))))
  exact ⟨_, sem_nx (n := 4) (m := 8) (b := b_Book___init__) (args := [.own true (.ins ("Book" : Str) []), .val (.int m), .val (.int p), .val (.lst (ids gs))]) rfl r⟩
theorem tb_1 (nt : m_need_tastes [.val TT] = .ok (.val T) [.val TT]) : sSet 0 (mCallX m_need_tastes [(mNameO 0)] []) [.val TT, s1, s2, s3, s4, s5, s6] = .nx [.val T, s1, s2, s3, s4, s5, s6] := by
  simp only [ap_seq, ap_skip, ap_ret, ap_retN, ap_drop, ap_if, ap_set, ap_par, ap_for, ap_unp, ap_raise, ap_bind, ap_retf, ap_V, ap_O, ap_S, ap_C, ap_nameO, ap_nameV, ap_2, ap_fin2, ap_N, ap_finN, ap_Os0, ap_Os1, ap_Vs0, ap_Vs1, ap_Rs0, ap_Rs1, ap_tup, ap_tupB, ap_lst, ap_T, ap_B, ap_not, ap_and, ap_or, ap_andV, ap_orV, ap_notV, ap_ife, ap_1, ap_ch, ap_sl, ap_P0, ap_P1, ap_callX, ap_callE, ap_R1, ap_It, ap_Mt, ap_Rd, ap_put, ap_putAt, ap_LstRg, ap_Rg0, getD, getDs, lent, okAll, setAll, argsOf, argOf, slotsO, nodupB, backE, ap1, fin, pickA, List.getElem?_cons_zero, List.getElem?_cons_succ, List.set_cons_zero, List.set_cons_succ, List.nil_append, List.cons_append, List.mem_cons, List.not_mem_nil, or_false, Nat.reduceEqDiff, not_false_eq_true, decide_true, Bool.and_true, Bool.true_and, Bool.not_false, Bool.not_true, reduceCtorEq, reduceIte, nt]
theorem tb_2 (ix : ixD T (.int 0) = some (.val R0)) (l1 : lenD R0 = some (.val (.int m))) (l2 : lenD T = some (.val (.int p))) : sPar [2, 3, 4] [(mN (ap1 lenD) [(mO (mV (m2 ixD (mNameO 0) (mO (mC (.int 0))))))]), (mN (ap1 lenD) [(mNameO 0)]), (mLst [])] [.val T, s1, .un, .un, .un, s5, s6] = .nx [.val T, s1, .val (.int m), .val (.int p), .own false (.lst []), s5, s6] := by
  simp only [ap_seq, ap_skip, ap_ret, ap_retN, ap_drop, ap_if, ap_set, ap_par, ap_for, ap_unp, ap_raise, ap_bind, ap_retf, ap_V, ap_O, ap_S, ap_C, ap_nameO, ap_nameV, ap_2, ap_fin2, ap_N, ap_finN, ap_Os0, ap_Os1, ap_Vs0, ap_Vs1, ap_Rs0, ap_Rs1, ap_tup, ap_tupB, ap_lst, ap_T, ap_B, ap_not, ap_and, ap_or, ap_andV, ap_orV, ap_notV, ap_ife, ap_1, ap_ch, ap_sl, ap_P0, ap_P1, ap_callX, ap_callE, ap_R1, ap_It, ap_Mt, ap_Rd, ap_put, ap_putAt, ap_LstRg, ap_Rg0, getD, getDs, lent, okAll, setAll, argsOf, argOf, slotsO, nodupB, backE, ap1, fin, pickA, List.getElem?_cons_zero, List.getElem?_cons_succ, List.set_cons_zero, List.set_cons_succ, List.nil_append, List.cons_append, List.mem_cons, List.not_mem_nil, or_false, Nat.reduceEqDiff, not_false_eq_true, decide_true, Bool.and_true, Bool.true_and, Bool.not_false, Bool.not_true, reduceCtorEq, reduceIte, ix, l1, l2, List.length_nil, Nat.zero_le]
theorem tb_3 {xs : List D} (rr : m_rising_rows [.val (.int m), .val (.int (p + 1))] = .ok (.val (.lst xs)) [.val (.int m), .val (.int (p + 1))]) : mIt (mV (mCallX m_rising_rows [(mNameO 2), (mO (mV (m2 addE (mNameO 3) (mO (mC (.int 1))))))] [])) [s0, s1, .val (.int m), .val (.int p), s4, s5, s6] = .ok xs [s0, s1, .val (.int m), .val (.int p), s4, s5, s6] := by
  simp only [ap_seq, ap_skip, ap_ret, ap_retN, ap_drop, ap_if, ap_set, ap_par, ap_for, ap_unp, ap_raise, ap_bind, ap_retf, ap_V, ap_O, ap_S, ap_C, ap_nameO, ap_nameV, ap_2, ap_fin2, ap_N, ap_finN, ap_Os0, ap_Os1, ap_Vs0, ap_Vs1, ap_Rs0, ap_Rs1, ap_tup, ap_tupB, ap_lst, ap_T, ap_B, ap_not, ap_and, ap_or, ap_andV, ap_orV, ap_notV, ap_ife, ap_1, ap_ch, ap_sl, ap_P0, ap_P1, ap_callX, ap_callE, ap_R1, ap_It, ap_Mt, ap_Rd, ap_put, ap_putAt, ap_LstRg, ap_Rg0, getD, getDs, lent, okAll, setAll, argsOf, argOf, slotsO, nodupB, backE, ap1, fin, pickA, List.getElem?_cons_zero, List.getElem?_cons_succ, List.set_cons_zero, List.set_cons_succ, List.nil_append, List.cons_append, List.mem_cons, List.not_mem_nil, or_false, Nat.reduceEqDiff, not_false_eq_true, decide_true, Bool.and_true, Bool.true_and, Bool.not_false, Bool.not_true, reduceCtorEq, reduceIte, rr, Mn.add_int, itemsOf]
theorem tb_4 {G : List D} {B : D} {e : En} (mk : m_Book___init__ [.own true (.ins ("Book" : Str) []), .val (.int m), .val (.int p), .val (.lst G)] = .ok (.val .non) (.own true B :: e)) : mMake ("Book" : Str) m_Book___init__ [(mNameV 2), (mNameV 3), (mNameV 4)] [] [s0, s1, .val (.int m), .val (.int p), .own false (.lst G), s5, s6] = .ok (.own false B) [s0, s1, .val (.int m), .val (.int p), .val (.lst G), s5, s6] := by
  have h : makeE ("Book" : Str) m_Book___init__ [.int m, .int p, .lst G] [s0, s1, .val (.int m), .val (.int p), .val (.lst G), s5, s6] = .ok (.own false B) [s0, s1, .val (.int m), .val (.int p), .val (.lst G), s5, s6] := by
    unfold makeE
    show (match m_Book___init__ [.own true (.ins ("Book" : Str) []), .val (.int m), .val (.int p), .val (.lst G)] with | .ok (.val .non) (.own true d :: _) => Res.ok (Slot.own false d) _ | .exn E fs _ => .exn E fs _ | _ => .bad) = _
    rw [mk]
  exact h
theorem ix_head {x : D} {xs : List D} : ixD (.tup (x :: xs)) (.int 0) = some (.val x) := by
  show Option.map Slot.val (L2.atI (x :: xs) 0) = _
  unfold L2.atI L2.ixN
  rw [if_pos (by decide), if_pos (by simp)]
  rfl
/-- the book of tastes -/
theorem t_tastes {r0 : List Int} {ts : List (List Int)} (nt : m_need_tastes [.val TT] = .ok (.val (.tup (tids (r0 :: ts)))) [.val TT]) (hm : ((r0.length : Nat) : Int) = m) (hp : (((r0 :: ts).length : Nat) : Int) = p)
    (sz : m_need_sizes [.val (.int m), .val (.int p)] = .ok (.val .non) [.val (.int m), .val (.int p)]) (rr : m_rising_rows [.val (.int m), .val (.int (p + 1))] = .ok (.val (.lst (tids ls))) [.val (.int m), .val (.int (p + 1))])
    (up : upK (ls.map fun l => l.map Sum.inl) = true) (ok : okG m ls (goL (r0 :: ts) ls) = true) (ll : ls.length ≤ 1000) (lg : ls.length = (goL (r0 :: ts) ls).length) (h1 : ∀ l ∈ ls, l.length ≤ 100) (h2 : ∀ r ∈ r0 :: ts, r.length ≤ 100) (h3 : (r0 :: ts).length ≤ 100) :
    ∃ e, m_tastes_book [.val TT] = .ok (.own false (BK m p ls (goL (r0 :: ts) ls))) e := by
  obtain ⟨z1, z5, z6, f1⟩ := tb_loop (ts := r0 :: ts) (s2 := .val (.int m)) (s3 := .val (.int p)) (ls := ls) (gs := []) (s1 := .un) (s5 := .un) (s6 := .un) (fun _ e => by cases e) (fun _ e => by cases e) (fun _ e => by cases e) h1 h2 h3 (by rw [← lg]; simpa using ll)
  obtain ⟨e, mk⟩ := t_init sz rr up ok ll lg
  have l1 : lenD (.tup (ids r0)) = some (.val (.int m)) := by rw [(Sq.t r0).len, hm]
  have l2 : lenD (.tup (tids (r0 :: ts))) = some (.val (.int p)) := by
    show some (Slot.val (.int ((tids (r0 :: ts)).length : Nat))) = _
    rw [List.length_map, hp]
  have r : b_tastes_book [.val TT, .un, .un, .un, .un, .un, .un] = .rt (.own false (BK m p ls (goL (r0 :: ts) ls))) [.val (.tup (tids (r0 :: ts))), z1, .val (.int m), .val (.int p), .val (.lst (ids (goL (r0 :: ts) ls))), z5, z6] := by
    unfold b_tastes_book
    exact seq_nx (tb_1 nt) (seq_nx (tb_2 ix_head l1 l2) (seq_nx (for_nx (tb_3 rr) f1) (seq_rt (ret_rt (tb_4 mk)))))
  exact ⟨_, sem_rt (n := 1) (m := 7) (b := b_tastes_book) (args := [.val TT]) rfl r⟩
end
end HD
set_option Elab.async false
set_option linter.all false
set_option maxRecDepth 100000
set_option maxHeartbeats 1000000
namespace HD
open PySem PySem.Spec PyProof.Rows L2 Mn
def wA : Fs := (sIf (mOr (mNot (mT (mO (mV (mCallX m_is_signs [(mNameO 0)] []))))) (mNot (mB (mCh leD leD (mO (mC (.int 2))) (mO (mV (mN (ap1 lenD) [(mNameO 0)]))) (mO (mC (.int 9))))))) (sSeq (sRaise ("InvalidMarks" : Str) ("at" : Str) (mV (m1 negD (mO (mC (.int 1)))))) sSkip) sSkip)
def wB : Fs := (sPar [1, 4] [(mCallX m_need_word [(mNameO 1), (mO (mV (m1 negD (mO (mC (.int 1))))))] []), (mN (ap1 lenD) [(mNameO 0)])])
def wC : Fs := (sIf (mB (m2 geD (mO (mV (mN (ap1 lenD) [(mNameO 1)]))) (mNameO 4))) (sSeq (sRaise ("InvalidWord" : Str) ("at" : Str) (mV (m1 negD (mO (mC (.int 1)))))) sSkip) sSkip)
def wD : Fs := (sSet 2 (mTupRg (mRgB none (mNameO 4))))
def wE : Fs := (sSet 3 (mN (ap1 (tupD false)) [(mO (mV (m2 addE (mO (mV (mLc [6] (.nm 6) (mIt (mNameV 2)) q_word_book_1 c_word_book_1))) (mO (mV (mLc [6] (.nm 6) (mIt (mNameV 2)) q_word_book_2 c_word_book_2))))))]))
def wF : Fx Opd := (mO (mV (mLc [5] (.nm 5) (mIt (mNameV 1)) mYes c_word_book_3)))
def wPre : Fs := sSeq wA (sSeq wB (sSeq wC (sSeq wD wE)))
theorem seq_pre {a b c : Fs} : sSeq a (sSeq b c) = sSeq (sSeq a b) c := by
  funext en
  unfold sSeq
  cases a en <;> rfl
theorem wb_is : b_word_book = sSeq wPre (sSeq (sRet (mCallX m_tastes_book [wF] [])) sSkip) := by
  unfold wPre
  rw [← seq_pre, ← seq_pre, ← seq_pre, ← seq_pre]
  rfl
/-- what is handed on -/
theorem t_wb {M W TT B : D} {e e1 a : En} (h1 : wPre [.val M, .val W, .un, .un, .un, .un, .un] = .nx e) (h2 : wF e = .ok (.dat TT) e1) (h3 : m_tastes_book [.val TT] = .ok (.own false B) a) : ∃ a, m_word_book [.val M, .val W] = .ok (.own false B) a := by
  have r : ∃ e', b_word_book [.val M, .val W, .un, .un, .un, .un, .un] = .rt (.own false B) e' := by
    rw [wb_is]
    refine ⟨backE e1 [.dat TT] a, seq_nx h1 (seq_rt (ret_rt ?_))⟩
    rw [ap_callX, ap_Os1, h2]
    dsimp only
    rw [ap_Os0]
    dsimp only
    rw [ap_Os0]
    dsimp only
    rw [ap_callE]
    show (match m_tastes_book [.val TT] with | .ok r as' => Res.ok r (backE e1 [.dat TT] as') | .exn C fs as' => .exn C fs (backE e1 [.dat TT] as') | .bad => .bad) = _
    rw [h3]
  obtain ⟨e', r⟩ := r
  exact ⟨_, sem_rt (n := 2) (m := 7) (b := b_word_book) (args := [.val M, .val W]) rfl r⟩
/-- rows out of data -/
def rowsD : List D → Option (List (List Int))
  | [] => some []
  | .tup xs :: r => match intsD xs, rowsD r with
    | some w, some ws => some (w :: ws)
    | _, _ => none
  | _ => none
theorem rowsD_of : ∀ {xs : List D} {ws : List (List Int)}, rowsD xs = some ws → xs = tids ws
  | [], ws, h => by cases h; rfl
  | .tup x :: r, ws, h => by
    have h' : (match intsD x, rowsD r with | some w, some ws => some (w :: ws) | _, _ => none) = some ws := h
    cases e1 : intsD x with
    | none => rw [e1] at h'; cases h'
    | some w =>
      cases e2 : rowsD r with
      | none => rw [e1, e2] at h'; cases h'
      | some ws' =>
        rw [e1, e2] at h'
        cases h'
        rw [ids_of e1, rowsD_of e2]
        rfl
  | .non :: _, _, h | .bl _ :: _, _, h | .int _ :: _, _, h | .str _ :: _, _, h | .lst _ :: _, _, h | .ins _ _ :: _, _, h | .dic _ :: _, _, h | .scr _ :: _, _, h | .tpb _ :: _, _, h | .ty _ :: _, _, h | .cls _ :: _, _, h => by simp [rowsD] at h
/-- all lots of a size, ascending -/
def rr (m : Nat) : Nat → List (List Int)
  | 0 => [[]]
  | k + 1 => (rr m k).flatMap fun r => ((List.range m).filter fun (x : Nat) => r.all fun y => decide (y < (x : Int))).map fun (x : Nat) => r ++ [(x : Int)]
/-- what is known of sizes -/
structure Sz (m p : Nat) : Prop where
  sz : m_need_sizes [.val (.int (m : Nat)), .val (.int (p : Nat))] = .ok (.val .non) [.val (.int (m : Nat)), .val (.int (p : Nat))]
  rr : m_rising_rows [.val (.int (m : Nat)), .val (.int ((p : Nat) + 1))] = .ok (.val (.lst (tids (rr m (p + 1))))) [.val (.int (m : Nat)), .val (.int ((p : Nat) + 1))]
  up : upK ((HD.rr m (p + 1)).map fun l => l.map Sum.inl) = true
  ln : (HD.rr m (p + 1)).length ≤ 1000
  ll : ((HD.rr m (p + 1)).all fun l => decide (l.length ≤ 100)) = true
/-- a small word's book, looked at -/
def chk2 (n s : Nat) (w : List Int) : Bool := match wPre [.val (.tup (ids (Pu.marks s n))), .val (.tpb (ids w)), .un, .un, .un, .un, .un] with
  | .nx e => match wF e with
    | .ok (.dat TT) _ => match m_need_tastes [.val TT] with
      | .ok (.val (.tup T)) _ => match rowsD T with
        | some (r0 :: ts) => let go := goL (r0 :: ts) (rr (s + 2 * n) (n + 1))
          (decide (r0.length = s + 2 * n) && decide ((r0 :: ts).length = n) && okG ((s + 2 * n : Nat) : Int) (rr (s + 2 * n) (n + 1)) go && decide ((rr (s + 2 * n) (n + 1)).length = go.length) && ((r0 :: ts).all fun r => decide (r.length ≤ 100))) &&
          (match m_end_list [.val (BK ((s + 2 * n : Nat) : Int) ((n : Nat) : Int) (rr (s + 2 * n) (n + 1)) go), .val (.lst (rgD 0 ((Pu.marks s n).length : Nat)))] with
            | .ok (.val (.tup xs)) _ => match intsD xs with
              | some L => decide (L.length < 100) && (L.all (fun i => decide (0 ≤ i) && decide (i.toNat < (Pu.marks s n).length)) && decide ((L.filter fun i => (Pu.marks s n)[i.toNat]? == some 1).length = s + Pu.one1 (w.drop s)))
              | none => false
            | _ => false)
        | _ => false
      | _ => false
    | _ => false
  | _ => false
theorem chk2_ok {n s : Nat} {w : List Int} (z : Sz (s + 2 * n) n) (hn : n ≤ 100) (h : chk2 n s w = true) : chk n s w = true := by
  unfold chk2 at h
  split at h
  · rename_i e h1
    split at h
    · rename_i TT e1 h2
      split at h
      · rename_i T e2 h3
        split at h
        · rename_i r0 ts h4
          have z3 := sem_back h3 (fun s hs => ⟨_, List.mem_singleton.mp hs⟩)
          subst z3
          rw [rowsD_of h4] at h3
          rw [Bool.and_eq_true] at h
          obtain ⟨h5, h6⟩ := h
          simp only [Bool.and_eq_true, decide_eq_true_eq] at h5
          obtain ⟨⟨⟨⟨a1, a2⟩, a3⟩, a4⟩, a5⟩ := h5
          obtain ⟨a, tb⟩ := t_tastes h3 (congrArg Int.ofNat a1) (congrArg Int.ofNat a2) z.sz z.rr z.up a3 z.ln a4 (fun l hl => of_decide_eq_true (List.all_eq_true.mp z.ll l hl)) (fun r hr => of_decide_eq_true (List.all_eq_true.mp a5 r hr)) (by omega)
          obtain ⟨b, wb⟩ := t_wb h1 h2 tb
          unfold chk
          rw [wb]
          exact h6
        · cases h
      · cases h
    · cases h
  · cases h
end HD
set_option Elab.async false
set_option linter.all false
set_option maxRecDepth 100000
set_option maxHeartbeats 0
namespace HD
open PySem PySem.Spec PyProof.Rows L2 Mn
theorem sz_2_1 : Sz 2 1 := ⟨by kernel_rfl, by kernel_rfl, by kernel_rfl, by decide +kernel, by kernel_rfl⟩
theorem sz_4_2 : Sz 4 2 := ⟨by kernel_rfl, by kernel_rfl, by kernel_rfl, by decide +kernel, by kernel_rfl⟩
theorem sz_5_2 : Sz 5 2 := ⟨by kernel_rfl, by kernel_rfl, by kernel_rfl, by decide +kernel, by kernel_rfl⟩
theorem sz_6_3 : Sz 6 3 := ⟨by kernel_rfl, by kernel_rfl, by kernel_rfl, by decide +kernel, by kernel_rfl⟩
theorem sz_7_3 : Sz 7 3 := ⟨by kernel_rfl, by kernel_rfl, by kernel_rfl, by decide +kernel, by kernel_rfl⟩
theorem sz_8_3 : Sz 8 3 := ⟨by kernel_rfl, by kernel_rfl, by kernel_rfl, by decide +kernel, by kernel_rfl⟩
theorem sz_8_4 : Sz 8 4 := ⟨by kernel_rfl, by kernel_rfl, by kernel_rfl, by decide +kernel, by kernel_rfl⟩
theorem sz_9_4 : Sz 9 4 := ⟨by kernel_rfl, by kernel_rfl, by kernel_rfl, by decide +kernel, by kernel_rfl⟩
theorem tb_1_0_0 : ([[0], [1]].all fun w => chk2 1 0 w) = true := by kernel_rfl
theorem tb_2_0_0 : ([[0, 0], [0, 1], [1, 0], [1, 1]].all fun w => chk2 2 0 w) = true := by kernel_rfl
theorem tb_2_1_0 : ([[0, 0], [0, 1], [1, 0], [1, 1]].all fun w => chk2 2 1 w) = true := by kernel_rfl
theorem tb_3_0_0 : ([[0, 0, 0], [0, 0, 1], [0, 1, 0], [0, 1, 1]].all fun w => chk2 3 0 w) = true := by kernel_rfl
theorem tb_3_0_1 : ([[1, 0, 0], [1, 0, 1], [1, 1, 0], [1, 1, 1]].all fun w => chk2 3 0 w) = true := by kernel_rfl
theorem tb_3_1_0 : ([[0, 0, 0], [0, 0, 1], [0, 1, 0], [0, 1, 1]].all fun w => chk2 3 1 w) = true := by kernel_rfl
theorem tb_3_1_1 : ([[1, 0, 0], [1, 0, 1], [1, 1, 0], [1, 1, 1]].all fun w => chk2 3 1 w) = true := by kernel_rfl
theorem tb_3_2_0 : ([[0, 0, 0], [0, 0, 1], [0, 1, 0], [0, 1, 1]].all fun w => chk2 3 2 w) = true := by kernel_rfl
theorem tb_3_2_1 : ([[1, 0, 0], [1, 0, 1], [1, 1, 0], [1, 1, 1]].all fun w => chk2 3 2 w) = true := by kernel_rfl
theorem tb_4_0_0 : ([[0, 0, 0, 0], [0, 0, 0, 1], [0, 0, 1, 0], [0, 0, 1, 1]].all fun w => chk2 4 0 w) = true := by kernel_rfl
theorem tb_4_0_1 : ([[0, 1, 0, 0], [0, 1, 0, 1], [0, 1, 1, 0], [0, 1, 1, 1]].all fun w => chk2 4 0 w) = true := by kernel_rfl
theorem tb_4_0_2 : ([[1, 0, 0, 0], [1, 0, 0, 1], [1, 0, 1, 0], [1, 0, 1, 1]].all fun w => chk2 4 0 w) = true := by kernel_rfl
theorem tb_4_0_3 : ([[1, 1, 0, 0], [1, 1, 0, 1], [1, 1, 1, 0], [1, 1, 1, 1]].all fun w => chk2 4 0 w) = true := by kernel_rfl
theorem tb_4_1_0 : ([[0, 0, 0, 0], [0, 0, 0, 1], [0, 0, 1, 0], [0, 0, 1, 1]].all fun w => chk2 4 1 w) = true := by kernel_rfl
theorem tb_4_1_1 : ([[0, 1, 0, 0], [0, 1, 0, 1], [0, 1, 1, 0], [0, 1, 1, 1]].all fun w => chk2 4 1 w) = true := by kernel_rfl
theorem tb_4_1_2 : ([[1, 0, 0, 0], [1, 0, 0, 1], [1, 0, 1, 0], [1, 0, 1, 1]].all fun w => chk2 4 1 w) = true := by kernel_rfl
theorem tb_4_1_3 : ([[1, 1, 0, 0], [1, 1, 0, 1], [1, 1, 1, 0], [1, 1, 1, 1]].all fun w => chk2 4 1 w) = true := by kernel_rfl
/-- the finite table -/
theorem tab_ok {n s : Nat} {w : List Int} (z : Sz (s + 2 * n) n) (hn : n ≤ 100) (h : (wds n).all (fun w => chk2 n s w) = true) (l : w.length = n) (b : Pu.Bits w) : chk n s w = true := chk2_ok z hn (List.all_eq_true.mp h w (wds_all l b))
theorem ta_1_0 : (wds 1).all (fun w => chk2 1 0 w) = true := by
  show ([[0], [1]] : List (List Int)).all _ = true
  exact tb_1_0_0
theorem ta_2_0 : (wds 2).all (fun w => chk2 2 0 w) = true := by
  show ([[0, 0], [0, 1], [1, 0], [1, 1]] : List (List Int)).all _ = true
  exact tb_2_0_0
theorem ta_2_1 : (wds 2).all (fun w => chk2 2 1 w) = true := by
  show ([[0, 0], [0, 1], [1, 0], [1, 1]] : List (List Int)).all _ = true
  exact tb_2_1_0
theorem ta_3_0 : (wds 3).all (fun w => chk2 3 0 w) = true := by
  show ([[0, 0, 0], [0, 0, 1], [0, 1, 0], [0, 1, 1], [1, 0, 0], [1, 0, 1], [1, 1, 0], [1, 1, 1]] : List (List Int)).all _ = true
  show ([[0, 0, 0], [0, 0, 1], [0, 1, 0], [0, 1, 1]] ++ [[1, 0, 0], [1, 0, 1], [1, 1, 0], [1, 1, 1]] : List (List Int)).all _ = true
  simp only [List.all_append, tb_3_0_0, tb_3_0_1, Bool.and_self]
theorem ta_3_1 : (wds 3).all (fun w => chk2 3 1 w) = true := by
  show ([[0, 0, 0], [0, 0, 1], [0, 1, 0], [0, 1, 1], [1, 0, 0], [1, 0, 1], [1, 1, 0], [1, 1, 1]] : List (List Int)).all _ = true
  show ([[0, 0, 0], [0, 0, 1], [0, 1, 0], [0, 1, 1]] ++ [[1, 0, 0], [1, 0, 1], [1, 1, 0], [1, 1, 1]] : List (List Int)).all _ = true
  simp only [List.all_append, tb_3_1_0, tb_3_1_1, Bool.and_self]
theorem ta_3_2 : (wds 3).all (fun w => chk2 3 2 w) = true := by
  show ([[0, 0, 0], [0, 0, 1], [0, 1, 0], [0, 1, 1], [1, 0, 0], [1, 0, 1], [1, 1, 0], [1, 1, 1]] : List (List Int)).all _ = true
  show ([[0, 0, 0], [0, 0, 1], [0, 1, 0], [0, 1, 1]] ++ [[1, 0, 0], [1, 0, 1], [1, 1, 0], [1, 1, 1]] : List (List Int)).all _ = true
  simp only [List.all_append, tb_3_2_0, tb_3_2_1, Bool.and_self]
theorem ta_4_0 : (wds 4).all (fun w => chk2 4 0 w) = true := by
  show ([[0, 0, 0, 0], [0, 0, 0, 1], [0, 0, 1, 0], [0, 0, 1, 1], [0, 1, 0, 0], [0, 1, 0, 1], [0, 1, 1, 0], [0, 1, 1, 1], [1, 0, 0, 0], [1, 0, 0, 1], [1, 0, 1, 0], [1, 0, 1, 1], [1, 1, 0, 0], [1, 1, 0, 1], [1, 1, 1, 0], [1, 1, 1, 1]] : List (List Int)).all _ = true
  show ([[0, 0, 0, 0], [0, 0, 0, 1], [0, 0, 1, 0], [0, 0, 1, 1]] ++ [[0, 1, 0, 0], [0, 1, 0, 1], [0, 1, 1, 0], [0, 1, 1, 1]] ++ [[1, 0, 0, 0], [1, 0, 0, 1], [1, 0, 1, 0], [1, 0, 1, 1]] ++ [[1, 1, 0, 0], [1, 1, 0, 1], [1, 1, 1, 0], [1, 1, 1, 1]] : List (List Int)).all _ = true
  simp only [List.all_append, tb_4_0_0, tb_4_0_1, tb_4_0_2, tb_4_0_3, Bool.and_self]
theorem ta_4_1 : (wds 4).all (fun w => chk2 4 1 w) = true := by
  show ([[0, 0, 0, 0], [0, 0, 0, 1], [0, 0, 1, 0], [0, 0, 1, 1], [0, 1, 0, 0], [0, 1, 0, 1], [0, 1, 1, 0], [0, 1, 1, 1], [1, 0, 0, 0], [1, 0, 0, 1], [1, 0, 1, 0], [1, 0, 1, 1], [1, 1, 0, 0], [1, 1, 0, 1], [1, 1, 1, 0], [1, 1, 1, 1]] : List (List Int)).all _ = true
  show ([[0, 0, 0, 0], [0, 0, 0, 1], [0, 0, 1, 0], [0, 0, 1, 1]] ++ [[0, 1, 0, 0], [0, 1, 0, 1], [0, 1, 1, 0], [0, 1, 1, 1]] ++ [[1, 0, 0, 0], [1, 0, 0, 1], [1, 0, 1, 0], [1, 0, 1, 1]] ++ [[1, 1, 0, 0], [1, 1, 0, 1], [1, 1, 1, 0], [1, 1, 1, 1]] : List (List Int)).all _ = true
  simp only [List.all_append, tb_4_1_0, tb_4_1_1, tb_4_1_2, tb_4_1_3, Bool.and_self]
theorem tab : Tab := fun n s w h1 h2 l b => by
  have c : (n = 1 ∧ s = 0) ∨ (n = 2 ∧ s = 0) ∨ (n = 2 ∧ s = 1) ∨ (n = 3 ∧ s = 0) ∨ (n = 3 ∧ s = 1) ∨ (n = 3 ∧ s = 2) ∨ (n = 4 ∧ s = 0) ∨ (n = 4 ∧ s = 1) := by omega
  rcases c with ⟨rfl, rfl⟩ | ⟨rfl, rfl⟩ | ⟨rfl, rfl⟩ | ⟨rfl, rfl⟩ | ⟨rfl, rfl⟩ | ⟨rfl, rfl⟩ | ⟨rfl, rfl⟩ | ⟨rfl, rfl⟩
  · exact tab_ok sz_2_1 (by decide) ta_1_0 l b
  · exact tab_ok sz_4_2 (by decide) ta_2_0 l b
  · exact tab_ok sz_5_2 (by decide) ta_2_1 l b
  · exact tab_ok sz_6_3 (by decide) ta_3_0 l b
  · exact tab_ok sz_7_3 (by decide) ta_3_1 l b
  · exact tab_ok sz_8_3 (by decide) ta_3_2 l b
  · exact tab_ok sz_8_4 (by decide) ta_4_0 l b
  · exact tab_ok sz_9_4 (by decide) ta_4_1 l b
end HD
set_option Elab.async false
set_option linter.all false
set_option maxRecDepth 100000
set_option maxHeartbeats 0
namespace HD
open PySem PySem.Spec PyProof.Rows L2 Mn
theorem bind_one {K : Fg} {x qual : Str} {params : Arguments} {body : List Stmt} {scope : Scope} {f : Addr} {fd : FuncData} {y : Str} (D : FunD K x qual params body scope [] [] f fd)
    (h : ∀ (kV doc pm : Value) (an : Option Addr) (cdv ct : Value) (u : Value), bindArgs (PySem.W.fnOf x qual params body scope .none kV doc pm an cdv ct) ⟨[u], []⟩ = pure [(y, u)]) : ∀ (s : Shared) (u : Value), BindsTo s fd ⟨[u], []⟩ [(y, u)] := by
  obtain ⟨oc, od, dV, kV, doc, pm, an, cdv, ct, osl, rfl, lk, hcd, hD, hK⟩ := D.ex
  rcases hD with ⟨_, rfl⟩ | ⟨e, _⟩
  · exact fun s u => .of_eq (h kV doc pm an cdv ct u)
  · exact absurd rfl e
theorem room : RoomG 27 callerA := ⟨⟨by kernel_rfl, by decide +kernel, by decide +kernel⟩, by kernel_rfl⟩
theorem law_at (S : Says) : ∀ (w : World) (mg : Str → Option Value) (fa : Addr) (h : Heap), hk.says w h → h.Ns mainGlobals mg → mg ("law" : Str) = some (.ref fa) →
      ∃ (K : Fg) (fd : FuncData) (m : Sem), K.In h ∧ (∀ (s : Shared) (u : Value), BindsTo s fd ⟨[u], []⟩ [(("_law_script" : Str), u)]) ∧ (∀ ns : List Int, ns.length ≤ 63 → ∃ e, m [.val (.scr ns)] = .ok (.val (.bl true)) e) ∧
        ∀ base : Heap, K.In base → base.Ns mainGlobals mg → FnG P w K mg base 27 fa fd [("_law_script" : Str)] m := fun w mg fa h Y nsp hd => by
  obtain ⟨K, inK, c⟩ := Y
  have F := c.facts
  obtain ⟨fd, D⟩ := F.fn d_law (List.mem_of_getElem? (i := 31) rfl)
  have e1 : d_law.dvs K = [] := rfl
  have e2 : d_law.kws K = [] := rfl
  have e3 : He.fAd K d_law.at_ = He.ga K ("law" : Str) := rfl
  rw [e1, e2, e3] at D
  obtain ⟨q1, q2⟩ := F.glo ("law" : Str) (List.mem_of_getElem? (i := 37) rfl)
  have z := PySem.W.mg_of inK nsp q1
  rw [hd] at z
  cases z
  exact ⟨K, fd, m_law, inK, bind_one D (fun kV doc pm an cdv ct u => by kernel_rfl), S, fun base inb nsb => law_g F D base inb nsb⟩
end HD
open PySem PySem.W PySem.Calls PyProof.Rows
theorem PySem.Challenge.cw_whichstay_k05_whole_words_compared_holds : PySem.Challenge.rw_whichstay_k05_whole_words_compared.Holds := by
  w_on; o_law
  refine HandSHeadRun.head_any (r := OpenLaw.row PySem.Challenge.rw_whichstay_k05_whole_words_compared) (q := PySem.W.view HD.R.prog [43]) (H := HD.hk) (ob := HD.ob) (M := 5000) (loose := HD.loose) (kwd := []) HD.ob_eq (by kernel_rfl) (fun s => by kernel_rfl) HD.run (by rfl) (by rfl) (by rfl) (by rfl) (by first | assumption | decide +kernel) (by decide +kernel) ⟨rfl, rfl, rfl, rfl, rfl, by decide +kernel⟩ ?hw ?hc
  case hw => w_witness2
  case hc => exact Mn.walk_g (l := PySem.Challenge.rw_whichstay_k05_whole_words_compared) (n := 63) (k := 27) (x := ("_law_script" : PySem.Str)) rfl (by decide) rfl HD.room (HD.law_at (HD.says_of HD.tab))
