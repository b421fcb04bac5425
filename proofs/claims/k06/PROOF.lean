import PyProof.Rows.All
import Wide.All
import OpenK.AllK
import Wide.FinOn
import HandS.ForMost
import HandS.TupAny
import HandS.Walk
import HandS.Exc
import HandS.Nested
import KE.KNest
import HandS.TupMul
import HandS.TupLe
import HandS.Style
import HandS.Zip
import HandS.Iter
import KE.GoesMore
import KE.KRevSl
import HandS.IsInst
import HandS.Deep
import HandS.Dict
import HandS.Wide
import KE.DataCmp
import HandS.Text
import HandS.Conv
import PyProof.ReprRoads
import PyProof.RowDictHeap
import HandS.RaiseMore
import HandS.Ends
import HandS.Lambda
import KE.KNestM
import PyProof.ReprLen
import KE.SortData
import HandS.NoneIn
import KE.DataMinMax
import KE.DatumOrd
import HandS.SetFor
import HandS.SortInts
import HandS.TupSets
import KE.KIndexWalk
import PySem.Challenge.RW_ordercodes_k06_whole_rows_of_keys_in_ord
set_option Elab.async false
set_option linter.all false
set_option maxRecDepth 100000
set_option maxHeartbeats 4000000
/-! DL: programs over plain data. A tuple is the list of its items, a list, a dict, an object is known by its address in a plain heap. -/
namespace DL
open PySem PySem.Spec PyProof.Rows L2

inductive D where
  | non | bl (b : Bool) | int (i : Int) | str (x : Str) | tup (l : List D) | ref (a : Addr) | rol (l : List D)

abbrev Frag := PySem.W.Frag
/-- a list that stays as it is for good: known to the object, or one of the module's -/
def SqF (K : Frag) (H : Hp) (a : Addr) (xs : List V) : Prop := (∃ o, H a = some (.frz o (.lst xs))) ∨
    ∃ (o : Obj) (its : Array Value) (n : Nat), K.lookup a = some o ∧ o.cls = .type "list" ∧ o.dict = none ∧ o.data = .seq its n ∧ its.size ≤ sizeLine ∧ Vals xs its.toList
theorem SqF.l {K : Frag} {H : Hp} {a : Addr} {xs : List V} (h : SqF K H a xs) : SqL K H a xs := by
  rcases h with h | h
  · exact .inl (.inr h)
  · exact .inr h

/-- at a: the tuple xs; one known to the object only where it holds a tuple -/
def TupAt (K : Frag) (H : Hp) (a : Addr) (xs : List V) (l : List D) : Prop := H a = some (.tup xs) ∨ ((∃ d ∈ l, ∃ ds, d = D.tup ds) ∧ SqT K H a xs)
theorem sqt {K : Frag} {H : Hp} {a : Addr} {xs : List V} {l : List D} (h : TupAt K H a xs l) : SqT K H a xs := by
  rcases h with h | h
  · exact SqT.of h
  · exact h.2
mutual
inductive RD (K : Frag) (H : Hp) : D → V → Prop
  | non : RD K H .non .non
  | bl (b : Bool) : RD K H (.bl b) (.bl b)
  | int (i : Int) : RD K H (.int i) (.int i)
  | str (x : Str) : RD K H (.str x) (.str x)
  | tup {l : List D} {a : Addr} {xs : List V} : TupAt K H a xs l → RDs K H l xs → RD K H (.tup l) (.ref a)
  | ref (a : Addr) : RD K H (.ref a) (.ref a)
  | rol {l : List D} {a : Addr} {xs : List V} : SqF K H a xs → RDs K H l xs → RD K H (.rol l) (.ref a)
inductive RDs (K : Frag) (H : Hp) : List D → List V → Prop
  | nil : RDs K H [] []
  | cons {d : D} {v : V} {l : List D} {xs : List V} : RD K H d v → RDs K H l xs → RDs K H (d :: l) (v :: xs)
end

/-- what is told of immutable things goes on -/
structure Ext (H H' : Hp) : Prop where
  tup : ∀ a xs, H a = some (.tup xs) → H' a = some (.tup xs)
  frz : ∀ a o u, H a = some (.frz o u) → H' a = some (.frz o u)
  ext : ∀ a φ, H a = some (.ext φ) → H' a = some (.ext φ)
  tbl : ∀ a ps, H a = some (.tbl ps) → ∃ ps', H' a = some (.tbl ps')
theorem Ext.refl (H : Hp) : Ext H H := ⟨fun _ _ h => h, fun _ _ _ h => h, fun _ _ h => h, fun _ _ h => ⟨_, h⟩⟩
theorem Ext.trans {H H1 H2 : Hp} (a : Ext H H1) (b : Ext H1 H2) : Ext H H2 := ⟨fun c xs h => b.tup c xs (a.tup c xs h), fun c o u h => b.frz c o u (a.frz c o u h), fun c u h => b.ext c u (a.ext c u h), fun c ps h => let ⟨_, e⟩ := a.tbl c ps h; b.tbl c _ e⟩
theorem Ext.fresh {H : Hp} {p : Addr} {o : HO} (h : H p = none) : Ext H (upd H p o) :=
  ⟨fun a xs e => by rw [upd_ne (ne_of_none e h)]; exact e, fun a ob u e => by rw [upd_ne (ne_of_none e h)]; exact e, fun a u e => by rw [upd_ne (ne_of_none e h)]; exact e, fun a u e => ⟨u, by rw [upd_ne (ne_of_none e h)]; exact e⟩⟩
theorem Ext.lst {H : Hp} {p : Addr} {xs : List V} {o : HO} (h : H p = some (.lst xs)) : Ext H (upd H p o) :=
  ⟨fun a ys e => by rw [upd_ne (ne_of e h (fun z => nomatch z))]; exact e, fun a ob u e => by rw [upd_ne (ne_of e h (fun z => nomatch z))]; exact e, fun a u e => by rw [upd_ne (ne_of e h (fun z => nomatch z))]; exact e, fun a u e => ⟨u, by rw [upd_ne (ne_of e h (fun z => nomatch z))]; exact e⟩⟩
theorem Ext.dK {H : Hp} {p : Addr} {xs : List (Key × V)} {o : HO} (h : H p = some (.dK xs)) : Ext H (upd H p o) :=
  ⟨fun a ys e => by rw [upd_ne (ne_of e h (fun z => nomatch z))]; exact e, fun a ob u e => by rw [upd_ne (ne_of e h (fun z => nomatch z))]; exact e, fun a u e => by rw [upd_ne (ne_of e h (fun z => nomatch z))]; exact e, fun a u e => ⟨u, by rw [upd_ne (ne_of e h (fun z => nomatch z))]; exact e⟩⟩
theorem Ext.dT {H : Hp} {p : Addr} {xs : List (List Key × V)} {o : HO} (h : H p = some (.dT xs)) : Ext H (upd H p o) :=
  ⟨fun a ys e => by rw [upd_ne (ne_of e h (fun z => nomatch z))]; exact e, fun a ob u e => by rw [upd_ne (ne_of e h (fun z => nomatch z))]; exact e, fun a u e => by rw [upd_ne (ne_of e h (fun z => nomatch z))]; exact e, fun a u e => ⟨u, by rw [upd_ne (ne_of e h (fun z => nomatch z))]; exact e⟩⟩
theorem Ext.ins {H : Hp} {p C dx : Addr} {fs : List (Str × V)} {o : HO} (h : H p = some (.ins C dx fs)) : Ext H (upd H p o) :=
  ⟨fun a ys e => by rw [upd_ne (ne_of e h (fun z => nomatch z))]; exact e, fun a ob u e => by rw [upd_ne (ne_of e h (fun z => nomatch z))]; exact e, fun a u e => by rw [upd_ne (ne_of e h (fun z => nomatch z))]; exact e, fun a u e => ⟨u, by rw [upd_ne (ne_of e h (fun z => nomatch z))]; exact e⟩⟩
section
variable {K : Frag} {H H' : Hp}
theorem SqT.ext {a : Addr} {xs : List V} (e : Ext H H') (h : SqT K H a xs) : SqT K H' a xs := by
  rcases h with (h | ⟨o, h⟩) | h
  · exact .inl (.inl (e.tup _ _ h))
  · exact .inl (.inr ⟨o, e.frz _ _ _ h⟩)
  · exact .inr h
theorem TupAt.ext {a : Addr} {xs : List V} {l : List D} (e : Ext H H') (h : TupAt K H a xs l) : TupAt K H' a xs l := by
  rcases h with h | ⟨h, h2⟩
  · exact .inl (e.tup _ _ h)
  · exact .inr ⟨h, SqT.ext e h2⟩
theorem SqF.ext {a : Addr} {xs : List V} (e : Ext H H') (h : SqF K H a xs) : SqF K H' a xs := by
  rcases h with ⟨o, h⟩ | h
  · exact .inl ⟨o, e.frz _ _ _ h⟩
  · exact .inr h
mutual
theorem RD.ext (e : Ext H H') : ∀ {d : D} {v : V}, RD K H d v → RD K H' d v
  | _, _, .non => .non
  | _, _, .bl b => .bl b
  | _, _, .int i => .int i
  | _, _, .str x => .str x
  | _, _, .tup h r => .tup (TupAt.ext e h) (RDs.ext e r)
  | _, _, .ref a => .ref a
  | _, _, .rol h r => .rol (SqF.ext e h) (RDs.ext e r)
theorem RDs.ext (e : Ext H H') : ∀ {d : List D} {v : List V}, RDs K H d v → RDs K H' d v
  | _, _, .nil => .nil
  | _, _, .cons a b => .cons (RD.ext e a) (RDs.ext e b)
end
theorem RDs.length : ∀ {l : List D} {xs : List V}, RDs K H l xs → l.length = xs.length
  | _, _, .nil => rfl
  | _, _, .cons _ r => congrArg (· + 1) (RDs.length r)
theorem RDs.app : ∀ {l l' : List D} {xs xs' : List V}, RDs K H l xs → RDs K H l' xs' → RDs K H (l ++ l') (xs ++ xs')
  | _, _, _, _, .nil, s => s
  | _, _, _, _, .cons r t, s => .cons r (RDs.app t s)
theorem RDs.take : ∀ {l : List D} {xs : List V} (n : Nat), RDs K H l xs → RDs K H (l.take n) (xs.take n)
  | _, _, 0, _ => .nil
  | _, _, _ + 1, .nil => .nil
  | _, _, n + 1, .cons r t => .cons r (RDs.take n t)
theorem RDs.drop : ∀ {l : List D} {xs : List V} (n : Nat), RDs K H l xs → RDs K H (l.drop n) (xs.drop n)
  | _, _, 0, r => r
  | _, _, _ + 1, .nil => .nil
  | _, _, n + 1, .cons _ t => RDs.drop n t
theorem RDs.get : ∀ {l : List D} {xs : List V} {i : Nat} {d : D}, RDs K H l xs → l[i]? = some d → ∃ v, xs[i]? = some v ∧ RD K H d v
  | _, _, _, _, .nil, e => by simp at e
  | _, _, 0, _, .cons r _, e => by simp at e; subst e; exact ⟨_, rfl, r⟩
  | _, _, i + 1, _, .cons _ t, e => by
    obtain ⟨u, h1, h2⟩ := RDs.get (i := i) t (by simpa using e)
    exact ⟨u, by simpa using h1, h2⟩
theorem RDs.set {d : D} {v : V} (r : RD K H d v) : ∀ {l : List D} {xs : List V} (i : Nat), RDs K H l xs → RDs K H (l.set i d) (xs.set i v)
  | _, _, _, .nil => .nil
  | _, _, 0, .cons _ t => .cons r t
  | _, _, i + 1, .cons q t => .cons q (RDs.set r i t)
theorem RDs.reverse : ∀ {l : List D} {xs : List V}, RDs K H l xs → RDs K H l.reverse xs.reverse
  | _, _, .nil => .nil
  | _, _, .cons r t => by
    rw [List.reverse_cons, List.reverse_cons]
    exact RDs.app (RDs.reverse t) (.cons r .nil)
theorem RDs.rep {l : List D} {xs : List V} (h : RDs K H l xs) : ∀ k : Nat, RDs K H (List.replicate k l).flatten (List.replicate k xs).flatten
  | 0 => .nil
  | k + 1 => by
    rw [List.replicate_succ, List.replicate_succ, List.flatten_cons, List.flatten_cons]
    exact RDs.app h (RDs.rep h k)
theorem RDs.dropLast {l : List D} {xs : List V} (h : RDs K H l xs) : RDs K H l.dropLast xs.dropLast := by
  rw [List.dropLast_eq_take, List.dropLast_eq_take, ← h.length]
  exact h.take _
theorem RDs.eraseIdx : ∀ {l : List D} {xs : List V} (i : Nat), RDs K H l xs → RDs K H (l.eraseIdx i) (xs.eraseIdx i)
  | _, _, _, .nil => .nil
  | _, _, 0, .cons _ t => t
  | _, _, i + 1, .cons q t => .cons q (RDs.eraseIdx i t)
end

/-! ### the plain heap -/
inductive MO where
  | lst (l : List D)
  | dct (kvs : List (Key × D))
  | dtp (kvs : List (List Key × D))
  | ins (C : Addr) (fs : List (Str × D))
  /-- a dict of which only this is known of its entries -/
  | mem (J : List (List Key × D) → Prop)
  /-- a function object of which φ holds, its code object at c with the name q; caps: values known with it -/
  | fn (φ : Heap → Prop) (c : Addr) (q : Str) (caps : List (D × V))
  /-- the dict of an exception -/
  | xd (fs : List (Str × D))
  /-- a tuple known to the object, without a dict -/
  | xtp (l : List D)
abbrev MH := Addr → Option MO
def mup (m : MH) (a : Addr) (o : MO) : MH := fun b => if b = a then some o else m b
theorem mup_same {m : MH} {a : Addr} {o : MO} : mup m a o a = some o := if_pos rfl
theorem mup_ne {m : MH} {a b : Addr} {o : MO} (h : b ≠ a) : mup m a o b = m b := if_neg h
theorem mup_mup {m : MH} {a : Addr} {o u : MO} : mup (mup m a o) a u = mup m a u := by
  funext b; unfold mup; split <;> rfl
theorem mne_of {m : MH} {a b : Addr} {o u : MO} (h : m a = some o) (h' : m b = some u) (d : o ≠ u) : a ≠ b := by
  intro e; subst e; rw [h] at h'; exact d (Option.some.inj h')
theorem mne_of_none {m : MH} {a b : Addr} {o : MO} (h : m a = some o) (h' : m b = none) : a ≠ b := by
  intro e; subst e; rw [h] at h'; cases h'

inductive RKs {κ : Type} (K : Frag) (H : Hp) : List (κ × D) → List (κ × V) → Prop
  | nil : RKs K H [] []
  | cons {k : κ} {d : D} {v : V} {l : List (κ × D)} {xs : List (κ × V)} : RD K H d v → RKs K H l xs → RKs K H ((k, d) :: l) ((k, v) :: xs)
section
variable {κ : Type} {K : Frag} {H H' : Hp}
theorem RKs.ext (e : Ext H H') : ∀ {l : List (κ × D)} {xs : List (κ × V)}, RKs K H l xs → RKs K H' l xs
  | _, _, .nil => .nil
  | _, _, .cons r t => .cons (r.ext e) (RKs.ext e t)
theorem RKs.length : ∀ {l : List (κ × D)} {xs : List (κ × V)}, RKs K H l xs → l.length = xs.length
  | _, _, .nil => rfl
  | _, _, .cons _ r => congrArg (· + 1) (RKs.length r)
end
/-- what the heap tells of a plain thing -/
def RO (K : Frag) (H : Hp) (a : Addr) : MO → Prop
  | .lst l => ∃ xs, H a = some (.lst xs) ∧ RDs K H l xs
  | .dct l => ∃ xs, H a = some (.dK xs) ∧ RKs K H l xs
  | .dtp l => ∃ xs, H a = some (.dT xs) ∧ RKs K H l xs
  | .ins C l => ∃ dx xs, H a = some (.ins C dx xs) ∧ RKs K H l xs
  | .mem J => ∃ l xs, H a = some (.dT xs) ∧ RKs K H l xs ∧ J l
  | .fn φ c q caps => H a = some (.ext φ) ∧ H c = some (LamX.CodeO c q) ∧ ∀ p ∈ caps, RD K H p.1 p.2
  | .xd l => ∃ xs, H a = some (.xd xs) ∧ RKs K H l xs
  | .xtp l => ∃ o xs, H a = some (.frz o (.tup xs)) ∧ (o.cls = .type "tuple" ∧ o.dict = none) ∧ RDs K H l xs
/-- the defs within which functions are made, and the names of these -/
def nestQ : List (Str × Str) := [("best_pair", "best_pair.<locals>.<lambda>"), ("worst_pair", "worst_pair.<locals>.leaf"), ("mended", "mended.<locals>.leaf"), ("best_kept", "best_kept.<locals>.<lambda>"), ("ledger", "ledger.<locals>.<lambda>")]
/-- the tables of their code objects -/
def tabsOf (K : Frag) : List (Addr × Str) := nestQ.filterMap fun xq => (PySem.W.tabIn K xq.1).map fun cP => (cP.2, xq.2)
structure RM (K : Frag) (m : MH) (H : Hp) : Prop where
  at_ : ∀ a o, m a = some o → RO K H a o
  tabs : LamX.Tabs (tabsOf K) H
instance {K : Frag} {m : MH} {H : Hp} : CoeFun (RM K m H) fun _ => ∀ a o, m a = some o → RO K H a o := ⟨fun r => r.at_⟩
section
variable {K : Frag} {m : MH} {H H' : Hp} {a p : Addr} {o : MO}
theorem RO.ext (e : Ext H H') (ha : H' a = H a) (h : RO K H a o) : RO K H' a o := by
  cases o with
  | lst l => obtain ⟨xs, h1, h2⟩ := h; exact ⟨xs, ha.trans h1, h2.ext e⟩
  | dct l => obtain ⟨xs, h1, h2⟩ := h; exact ⟨xs, ha.trans h1, h2.ext e⟩
  | dtp l => obtain ⟨xs, h1, h2⟩ := h; exact ⟨xs, ha.trans h1, h2.ext e⟩
  | ins C l => obtain ⟨dx, xs, h1, h2⟩ := h; exact ⟨dx, xs, ha.trans h1, h2.ext e⟩
  | mem J => obtain ⟨l, xs, h1, h2, h3⟩ := h; exact ⟨l, xs, ha.trans h1, h2.ext e, h3⟩
  | fn φ c q caps => exact ⟨ha.trans h.1, e.ext _ _ h.2.1, fun p hp => (h.2.2 p hp).ext e⟩
  | xd l => obtain ⟨xs, h1, h2⟩ := h; exact ⟨xs, ha.trans h1, h2.ext e⟩
  | xtp l => obtain ⟨o, xs, h1, h2, h3⟩ := h; exact ⟨o, xs, ha.trans h1, h2, h3.ext e⟩
theorem RO.notbl {ps : Array Value} (h : RO K H a o) : H a ≠ some (.tbl ps) := fun z => by
  cases o with
  | lst l => obtain ⟨xs, h1, _⟩ := h; rw [z] at h1; cases h1
  | dct l => obtain ⟨xs, h1, _⟩ := h; rw [z] at h1; cases h1
  | dtp l => obtain ⟨xs, h1, _⟩ := h; rw [z] at h1; cases h1
  | ins C l => obtain ⟨dx, xs, h1, _⟩ := h; rw [z] at h1; cases h1
  | mem J => obtain ⟨l, xs, h1, _⟩ := h; rw [z] at h1; cases h1
  | fn φ c q caps => have h1 := h.1; rw [z] at h1; cases h1
  | xd l => obtain ⟨xs, h1, _⟩ := h; rw [z] at h1; cases h1
  | xtp l => obtain ⟨o, xs, h1, _⟩ := h; rw [z] at h1; cases h1
/-- the tables where nothing is written over them -/
theorem tabs_upd {o' : HO} (t : LamX.Tabs (tabsOf K) H) (e : Ext H (upd H p o')) (n : ∀ ps, H p = some (.tbl ps) → False) : LamX.Tabs (tabsOf K) (upd H p o') := fun q hq => by
  obtain ⟨ps, h1, h2, h3⟩ := t q hq
  refine ⟨ps, by rw [upd_ne (fun z => n ps (by rw [← z]; exact h1))]; exact h1, h2, fun pos cv hc => ?_⟩
  obtain ⟨c, e1, e2⟩ := h3 pos cv hc
  exact ⟨c, e1, e.ext _ _ e2⟩
theorem RM.none (r : RM K m H) (h : H p = none) : m p = none := by
  cases q : m p with
  | none => rfl
  | some o =>
    have z := r p o q
    cases o with
    | lst l => obtain ⟨xs, h1, _⟩ := z; rw [h] at h1; cases h1
    | dct l => obtain ⟨xs, h1, _⟩ := z; rw [h] at h1; cases h1
    | dtp l => obtain ⟨xs, h1, _⟩ := z; rw [h] at h1; cases h1
    | ins C l => obtain ⟨dx, xs, h1, _⟩ := z; rw [h] at h1; cases h1
    | mem J => obtain ⟨l, xs, h1, _⟩ := z; rw [h] at h1; cases h1
    | fn φ c q caps => have h1 := z.1; rw [h] at h1; cases h1
    | xd l => obtain ⟨xs, h1, _⟩ := z; rw [h] at h1; cases h1
    | xtp l => obtain ⟨o, xs, h1, _⟩ := z; rw [h] at h1; cases h1
/-- an object is laid or written -/
theorem RM.upd {o' : HO} (r : RM K m H) (e : Ext H (upd H p o')) (n : RO K (L2.upd H p o') p o) : RM K (mup m p o) (L2.upd H p o') := by
  refine ⟨fun a u q => ?_, tabs_upd r.tabs e fun ps hp => ?_⟩
  · by_cases h : a = p
    · subst h
      rw [mup_same] at q
      cases q
      exact n
    · rw [mup_ne h] at q
      exact (r a u q).ext e (upd_ne h)
  · obtain ⟨ps', h⟩ := e.tbl p ps hp
    exact n.notbl h
/-- an object that is not told is laid -/
theorem RM.more {o' : HO} (r : RM K m H) (h : H p = Option.none) : RM K m (L2.upd H p o') := by
  refine ⟨fun a u q => ?_, tabs_upd r.tabs (Ext.fresh h) fun ps hp => by rw [h] at hp; cases hp⟩
  refine (r a u q).ext (Ext.fresh h) (upd_ne fun z => ?_)
  subst z
  rw [r.none h] at q
  cases q
end

/-! ### slots -/
abbrev Sd := List (Option D)
inductive RSt (K : Frag) (H : Hp) : Sd → L2.St → Prop
  | nil : RSt K H [] []
  | no {v : Option V} {l : Sd} {xs : L2.St} : RSt K H l xs → RSt K H (none :: l) (v :: xs)
  | so {d : D} {v : V} {l : Sd} {xs : L2.St} : RD K H d v → RSt K H l xs → RSt K H (some d :: l) (some v :: xs)
section
variable {K : Frag} {H H' : Hp}
theorem RSt.ext (e : Ext H H') : ∀ {l : Sd} {xs : L2.St}, RSt K H l xs → RSt K H' l xs
  | _, _, .nil => .nil
  | _, _, .no t => .no (RSt.ext e t)
  | _, _, .so r t => .so (r.ext e) (RSt.ext e t)
theorem RSt.get : ∀ {l : Sd} {xs : L2.St} {i : Nat} {d : D}, RSt K H l xs → l[i]? = some (some d) → ∃ v, xs[i]? = some (some v) ∧ RD K H d v
  | _, _, _, _, .nil, e => by simp at e
  | _, _, 0, _, .no _, e => by simp at e
  | _, _, 0, _, .so r _, e => by simp at e; subst e; exact ⟨_, rfl, r⟩
  | _, _, i + 1, _, .no t, e => by
    obtain ⟨u, h1, h2⟩ := RSt.get (i := i) t (by simpa using e)
    exact ⟨u, by simpa using h1, h2⟩
  | _, _, i + 1, _, .so _ t, e => by
    obtain ⟨u, h1, h2⟩ := RSt.get (i := i) t (by simpa using e)
    exact ⟨u, by simpa using h1, h2⟩
theorem RSt.set {d : D} {v : V} (r : RD K H d v) : ∀ {l : Sd} {xs : L2.St} (i : Nat), RSt K H l xs → RSt K H (l.set i (some d)) (xs.set i (some v))
  | _, _, _, .nil => .nil
  | _, _, 0, .no t => .so r t
  | _, _, 0, .so _ t => .so r t
  | _, _, i + 1, .no t => .no (RSt.set r i t)
  | _, _, i + 1, .so q t => .so q (RSt.set r i t)
theorem RSt.clr {v : Option V} : ∀ {l : Sd} {xs : L2.St} (i : Nat), RSt K H l xs → RSt K H (l.set i none) (xs.set i v)
  | _, _, _, .nil => .nil
  | _, _, 0, .no t => .no t
  | _, _, 0, .so _ t => .no t
  | _, _, i + 1, .no t => .no (RSt.clr i t)
  | _, _, i + 1, .so q t => .so q (RSt.clr i t)
theorem RSt.nones : ∀ n : Nat, RSt K H (List.replicate n none) (List.replicate n none)
  | 0 => .nil
  | n + 1 => .no (RSt.nones n)
theorem RSt.app : ∀ {l l' : Sd} {xs xs' : L2.St}, RSt K H l xs → RSt K H l' xs' → RSt K H (l ++ l') (xs ++ xs')
  | _, _, _, _, .nil, s => s
  | _, _, _, _, .no t, s => .no (RSt.app t s)
  | _, _, _, _, .so r t, s => .so r (RSt.app t s)
theorem RSt.somes : ∀ {l : List D} {xs : List V}, RDs K H l xs → RSt K H (l.map some) (xs.map some)
  | _, _, .nil => .nil
  | _, _, .cons r t => .so r (RSt.somes t)
theorem RSt.length : ∀ {l : Sd} {xs : L2.St}, RSt K H l xs → l.length = xs.length
  | _, _, .nil => rfl
  | _, _, .no r => congrArg (· + 1) (RSt.length r)
  | _, _, .so _ r => congrArg (· + 1) (RSt.length r)
def dwipe (σ : Sd) : List Nat → Sd
  | [] => σ
  | v :: vs => (dwipe σ vs).set v none
theorem RSt.wipe {l : Sd} {xs : L2.St} (r : RSt K H l xs) : ∀ vs : List Nat, RSt K H (dwipe l vs) (L2.wipe xs vs)
  | [] => r
  | v :: vs => (RSt.wipe r vs).clr v
end
/-- slots at a def's start -/
def dstart (n : Nat) (ds : List D) : Sd := ds.map some ++ List.replicate (n - ds.length) none
theorem RSt.start {K : Frag} {H : Hp} {N : List Str} {ds : List D} {vs : List V} (r : RDs K H ds vs) : RSt K H (dstart N.length ds) (L2.start N vs) := by
  unfold dstart L2.start
  rw [r.length]
  exact (RSt.somes r).app (RSt.nones _)

/-! ### the judgements -/
abbrev DK := D → MH → Prop
abbrev DE := Sd → MH → DK → Prop
abbrev DT := Sd → MH → (Bool → MH → Prop) → Prop
abbrev DA := Sd → MH → (List D → MH → Prop) → Prop
structure DEnds where
  nx : Sd → MH → Prop
  rt : DK
  bk : Sd → MH → Prop := fun _ _ => False
  ct : Sd → MH → Prop := fun _ _ => False
  /-- an exception goes on: its class, its dict if it has one -/
  xr : Addr → Option Addr → Sd → MH → Prop := fun _ _ _ _ => False
abbrev DS := DEnds → Sd → MH → Prop
/-- where the exceptions' classes stand -/
class ExcAt where
  at_ : Str → Addr
instance (priority := low) exNone : ExcAt := ⟨fun _ => 0⟩
def KE (K : Frag) (H : Hp) (Q : DK) (Q' : VK) : Prop := ∀ d m v H', Ext H H' → RM K m H' → RD K H' d v → Q d m → Q' v H'
def KT (K : Frag) (H : Hp) (Q : Bool → MH → Prop) (Q' : Bool → Hp → Prop) : Prop := ∀ b m H', Ext H H' → RM K m H' → Q b m → Q' b H'
def KA (K : Frag) (H : Hp) (Q : List D → MH → Prop) (Q' : List V → Hp → Prop) : Prop := ∀ ds m vs H', Ext H H' → RM K m H' → RDs K H' ds vs → Q ds m → Q' vs H'
def KN (K : Frag) (H : Hp) (Q : Sd → MH → Prop) (Q' : L2.St → Hp → Prop) : Prop := ∀ ds m σ H', Ext H H' → RSt K H' ds σ → RM K m H' → Q ds m → Q' σ H'
/-- what the context takes of an exception -/
def XW (X : Cx) : WX := fun cls d σ H => ∀ u s', XE X (fun c' d' σ' H' => c' = cls ∧ d' = d ∧ σ' = σ ∧ H' = H) u s' → X.xe u s'
theorem takes_XW (X : Cx) : Takes X (XW X) := fun u s' ⟨a, B, sI, pins, σ, H, cls, d, e, I, nb, up, sky, na, os, ag, w⟩ => w u s' ⟨a, B, sI, pins, σ, H, cls, d, e, I, nb, up, sky, na, os, ag, rfl, rfl, rfl, rfl⟩
theorem XW.of {X : Cx} {W : WX} (tk : Takes X W) {cls : Value} {d : Option Addr} {σ : L2.St} {H : Hp} (h : W cls d σ H) : XW X cls d σ H := fun u s' ⟨a, B, sI, pins, σ', H', cls', d', e, I, nb, up, sky, na, os, ag, w⟩ => by
  obtain ⟨rfl, rfl, rfl, rfl⟩ := w
  exact tk u s' ⟨a, B, sI, pins, σ', H', cls', d', e, I, nb, up, sky, na, os, ag, h⟩
structure KD (X : Cx) (H : Hp) (Q : DEnds) (Q' : Ends) : Prop where
  nx : KN X.K H Q.nx Q'.nx
  rt : KE X.K H Q.rt Q'.rt
  bk : KN X.K H Q.bk Q'.bk
  ct : KN X.K H Q.ct Q'.ct
  xr : ∀ C d ds m σ H', Ext H H' → RSt X.K H' ds σ → RM X.K m H' → Q.xr C d ds m → XW X (.ref C) d σ H'
section
variable {K : Frag} {H H' : Hp}
theorem KE.ext {Q : DK} {Q' : VK} (k : KE K H Q Q') (e : Ext H H') : KE K H' Q Q' := fun d m v H2 e2 r1 r2 q => k d m v H2 (e.trans e2) r1 r2 q
theorem KT.ext {Q : Bool → MH → Prop} {Q' : Bool → Hp → Prop} (k : KT K H Q Q') (e : Ext H H') : KT K H' Q Q' := fun d m H2 e2 r1 q => k d m H2 (e.trans e2) r1 q
theorem KA.ext {Q : List D → MH → Prop} {Q' : List V → Hp → Prop} (k : KA K H Q Q') (e : Ext H H') : KA K H' Q Q' := fun d m v H2 e2 r1 r2 q => k d m v H2 (e.trans e2) r1 r2 q
theorem KN.ext {Q : Sd → MH → Prop} {Q' : L2.St → Hp → Prop} (k : KN K H Q Q') (e : Ext H H') : KN K H' Q Q' := fun d m v H2 e2 r1 r2 q => k d m v H2 (e.trans e2) r1 r2 q
theorem KD.ext {X : Cx} {Q : DEnds} {Q' : Ends} (k : KD X H Q Q') (e : Ext H H') : KD X H' Q Q' := ⟨k.nx.ext e, k.rt.ext e, k.bk.ext e, k.ct.ext e, fun C d ds m σ H2 e2 r1 r2 q => k.xr C d ds m σ H2 (e.trans e2) r1 r2 q⟩
end
def lE (K : Frag) (f : DE) : TE := fun σ H Q' => ∃ ds m Q, RSt K H ds σ ∧ RM K m H ∧ f ds m Q ∧ KE K H Q Q'
def lT (K : Frag) (f : DT) : TT := fun σ H Q' => ∃ ds m Q, RSt K H ds σ ∧ RM K m H ∧ f ds m Q ∧ KT K H Q Q'
def lA (K : Frag) (f : DA) : TA := fun σ H Q' => ∃ ds m Q, RSt K H ds σ ∧ RM K m H ∧ f ds m Q ∧ KA K H Q Q'
def lS (X : Cx) (f : DS) : TS := fun D' σ H => ∃ ds m D, RSt X.K H ds σ ∧ RM X.K m H ∧ f D ds m ∧ KD X H D D'
structure JE (X : Cx) (e : Expr) (f : DE) : Prop where
  pe : PE X e (lE X.K f)
structure JT (X : Cx) (e : Expr) (f : DT) : Prop where
  pt : PT X e (lT X.K f)
structure JW (X : Cx) (e : Expr) (f : DT) : Prop where
  pw : PW X e (lT X.K f)
structure JA (X : Cx) (es : List Expr) (f : DA) : Prop where
  pa : PA X es (lA X.K f)
structure JS (X : Cx) (st : Stmt) (f : DS) : Prop where
  ps : PS X st (lS X f)
structure JSs (X : Cx) (sts : List Stmt) (f : DS) : Prop where
  pss : PSs X sts (lS X f)
theorem _root_.L2.PE.imp {X : Cx} {e : Expr} {t t' : TE} (h : PE X e t) (i : ∀ σ H Q, t' σ H Q → t σ H Q) : PE X e t' := ⟨fun pins s σ H Q I w => h.run pins s σ H Q I (i σ H Q w)⟩
theorem _root_.L2.PT.imp {X : Cx} {e : Expr} {t t' : TT} (h : PT X e t) (i : ∀ σ H Q, t' σ H Q → t σ H Q) : PT X e t' := ⟨fun pins s σ H Q I w => h.run pins s σ H Q I (i σ H Q w)⟩
theorem _root_.L2.PW.imp {X : Cx} {e : Expr} {t t' : TT} (h : PW X e t) (i : ∀ σ H Q, t' σ H Q → t σ H Q) : PW X e t' := ⟨fun wh pins s σ H Q I w => h.run wh pins s σ H Q I (i σ H Q w)⟩
theorem _root_.L2.PA.imp {X : Cx} {e : List Expr} {t t' : TA} (h : PA X e t) (i : ∀ σ H Q, t' σ H Q → t σ H Q) : PA X e t' := ⟨fun pos pins s σ H Q I w => h.run pos pins s σ H Q I (i σ H Q w)⟩
theorem _root_.L2.PS.imp {X : Cx} {e : Stmt} {t t' : TS} (h : PS X e t) (i : ∀ D σ H, t' D σ H → t D σ H) : PS X e t' := ⟨fun pins s σ H D I w => h.run pins s σ H D I (i D σ H w)⟩
theorem _root_.L2.PSs.imp {X : Cx} {e : List Stmt} {t t' : TS} (h : PSs X e t) (i : ∀ D σ H, t' D σ H → t D σ H) : PSs X e t' := ⟨fun pins s σ H D I w => h.run pins s σ H D I (i D σ H w)⟩

/-! ### names, constants, displays -/
section
variable {X : Cx}
def dVar (i : Nat) : DE := fun ds m Q => ∃ d, ds[i]? = some (some d) ∧ Q d m
def dC (d : D) : DE := fun _ m Q => Q d m
theorem je_var (i : Nat) {x : Str} {pos : Pos} (hN : X.N[i]? = some x := by rfl) (hv : Vis X.env.scope x := by first | exact Or.inl rfl | exact Or.inr (Or.inl rfl) | exact Or.inr (Or.inr rfl)) (hd : (x == ("__debug__" : Str)) = false := by decide)
    (hcd : (x == ("__classdict__" : Str)) = false := by decide) : JE X (.Name x pos) (dVar i) := by
  refine ⟨(pe_var hN hv hd hcd).imp fun σ H Q' h => ?_⟩
  obtain ⟨ds, m, Q, r, rm, ⟨d, e, q⟩, k⟩ := h
  obtain ⟨v, ev, rv⟩ := r.get e
  exact ⟨v, ev, k d m v H (Ext.refl H) rm rv q⟩
theorem je_c {e : Expr} {v : V} {d : D} (h : PE X e (tC v)) (r : ∀ H, RD X.K H d v) : JE X e (dC d) := by
  refine ⟨h.imp fun σ H Q' h => ?_⟩
  obtain ⟨ds, m, Q, _, rm, q, k⟩ := h
  exact k d m v H (Ext.refl H) rm (r H) q
theorem je_int {i j pos} : JE X (.Constant (.int i) j pos) (dC (.int i)) := je_c pe_int fun _ => .int i
theorem je_bl {b j pos} : JE X (.Constant (.bool b) j pos) (dC (.bl b)) := je_c pe_bl fun _ => .bl b
theorem je_non {j pos} : JE X (.Constant .none j pos) (dC .non) := je_c pe_non fun _ => .non
theorem je_str {x j pos} : JE X (.Constant (.str x) j pos) (dC (.str x)) := je_c pe_str fun _ => .str x
def dNil : DA := fun _ m Q => Q [] m
def dCons (f : DE) (g : DA) : DA := fun ds m Q => f ds m fun d m1 => g ds m1 fun l m2 => Q (d :: l) m2
theorem ja_nil : JA X [] dNil := by
  refine ⟨pa_nil.imp fun σ H Q' h => ?_⟩
  obtain ⟨ds, m, Q, _, rm, q, k⟩ := h
  exact k [] m [] H (Ext.refl H) rm .nil q
theorem ja_cons {e : Expr} {es : List Expr} {f : DE} {g : DA} (ha : JE X e f) (hr : JA X es g) (hs : starEach (e :: es) X.env = (false, eval e X.env) :: starEach es X.env := by rfl) : JA X (e :: es) (dCons f g) := by
  refine ⟨(pa_cons ha.pe hr.pa hs).imp fun σ H Q' h => ?_⟩
  obtain ⟨ds, m, Q, r, rm, q, k⟩ := h
  refine ⟨ds, m, _, r, rm, q, fun d m1 v H1 e1 rm1 rv q1 => ?_⟩
  refine ⟨ds, m1, _, r.ext e1, rm1, q1, fun l m2 vs H2 e2 rm2 rvs q2 => ?_⟩
  exact k (d :: l) m2 (v :: vs) H2 (e1.trans e2) rm2 (.cons (rv.ext e2) rvs) q2
def dTup (f : DA) : DE := fun ds m Q => f ds m fun l m1 => l.length ≤ sizeLine ∧ Q (.tup l) m1
/-- a new thing is laid -/
def aNew (o : MO) (m : MH) (Q : DK) : Prop := ∀ p, m p = none → Q (.ref p) (mup m p o)
def dLst (f : DA) : DE := fun ds m Q => f ds m fun l m1 => l.length ≤ sizeLine ∧ aNew (.lst l) m1 Q
theorem je_tup {es : List Expr} {f : DA} {x1 pos} (h : JA X es f) : JE X (.Tuple es x1 pos) (dTup f) := by
  refine ⟨(pe_tup h.pa).imp fun σ H Q' h => ?_⟩
  obtain ⟨ds, m, Q, r, rm, q, k⟩ := h
  refine ⟨ds, m, _, r, rm, q, fun l m1 vs H1 e1 rm1 rvs q1 => ?_⟩
  refine ⟨by rw [← rvs.length]; exact q1.1, fun p hp => ?_⟩
  exact k (.tup l) m1 (.ref p) _ (e1.trans (Ext.fresh hp)) (rm1.more hp) (.tup (.inl upd_same) (rvs.ext (Ext.fresh hp))) q1.2
theorem je_lst {es : List Expr} {f : DA} {pos} (h : JA X es f) : JE X (.List es pos) (dLst f) := by
  refine ⟨(pe_lst h.pa).imp fun σ H Q' h => ?_⟩
  obtain ⟨ds, m, Q, r, rm, q, k⟩ := h
  refine ⟨ds, m, _, r, rm, q, fun l m1 vs H1 e1 rm1 rvs q1 => ?_⟩
  refine ⟨by rw [← rvs.length]; exact q1.1, fun p hp => ?_⟩
  exact k (.ref p) _ (.ref p) _ (e1.trans (Ext.fresh hp)) (rm1.upd (o := .lst l) (Ext.fresh hp) ⟨vs, upd_same, rvs.ext (Ext.fresh hp)⟩) (.ref p) (q1.2 p (rm1.none hp))
end

/-! ### operators by value -/
abbrev DOp := D → D → MH → DK → Prop
/-- a rule of two values, told over plain data -/
def OpJ (X : Cx) (f : Value → Value → Sem Value) (r : DOp) : Prop :=
  ∃ rv : R2, OpR X f rv ∧ ∀ H m x y xv yv Q Q', RM X.K m H → RD X.K H x xv → RD X.K H y yv → r x y m Q → KE X.K H Q Q' → rv xv yv H Q'
def dOp (r : DOp) (f g : DE) : DE := fun ds m Q => f ds m fun x m1 => g ds m1 fun y m2 => r x y m2 Q
section
variable {X : Cx} {a b : Expr} {f g : DE} {pos : Pos}
theorem tOp_of {fv : Value → Value → Sem Value} {r : DOp} {rv : R2} (hr : ∀ H m x y xv yv Q Q', RM X.K m H → RD X.K H x xv → RD X.K H y yv → r x y m Q → KE X.K H Q Q' → rv xv yv H Q') (σ : L2.St) (H : Hp) (Q' : VK) (h : lE X.K (dOp r f g) σ H Q') :
    tOp rv (lE X.K f) (lE X.K g) σ H Q' := by
  obtain ⟨ds, m, Q, rs, rm, q, k⟩ := h
  refine ⟨ds, m, _, rs, rm, q, fun x m1 xv H1 e1 rm1 rx q1 => ?_⟩
  refine ⟨ds, m1, _, rs.ext e1, rm1, q1, fun y m2 yv H2 e2 rm2 ry q2 => ?_⟩
  exact hr H2 m2 x y xv yv Q Q' rm2 (rx.ext e2) ry q2 (k.ext (e1.trans e2))
theorem je_op {op : Operator} {r : DOp} (ho : OpJ X (binaryOp op) r) (ha : JE X a f) (hb : JE X b g) : JE X (.BinOp a op b pos) (dOp r f g) := by
  obtain ⟨rv, h1, h2⟩ := ho
  exact ⟨(pe_op h1 ha.pe hb.pe).imp fun σ H Q' h => tOp_of (fv := binaryOp op) h2 σ H Q' h⟩
theorem je_cmp {op : CmpOp} {r : DOp} (ho : OpJ X (compareOp op) r) (ha : JE X a f) (hb : JE X b g) (hm : behindInMarks op b = false := by first | exact nomark _ | rfl) : JE X (.Compare a [op] [b] pos) (dOp r f g) := by
  obtain ⟨rv, h1, h2⟩ := ho
  exact ⟨(pe_cmpR h1 ha.pe hb.pe hm).imp fun σ H Q' h => tOp_of (fv := compareOp op) h2 σ H Q' h⟩
def dB (f : DE) : DT := fun ds m Q => f ds m fun x m1 => ∃ k, x = .bl k ∧ Q k m1
theorem jt_cmp {op : CmpOp} {r : DOp} (ho : OpJ X (compareOp op) r) (ha : JE X a f) (hb : JE X b g) (hm : behindInMarks op b = false := by first | exact nomark _ | rfl) : JT X (.Compare a [op] [b] pos) (dB (dOp r f g)) := by
  obtain ⟨rv, h1, h2⟩ := ho
  refine ⟨(pt_cmpR h1 ha.pe hb.pe hm).imp fun σ H Q' h => ?_⟩
  obtain ⟨ds, m, Q, rs, rm, q, k⟩ := h
  refine tOp_of (X := X) (fv := compareOp op) h2 σ H _ ⟨ds, m, _, rs, rm, q, fun x m1 xv H1 e1 rm1 rx q1 => ?_⟩
  obtain ⟨kk, rfl, q1⟩ := q1
  cases rx
  exact ⟨kk, rfl, k kk m1 H1 e1 rm1 q1⟩
/-- an expression that gives a bool, as a test -/
theorem jt_val {e : Expr} (h : JE X e f) (he : ∀ whole, isTrue e X.env whole = (do let v ← whole; standAt e.pos; holding [v] (truthy v)) := by intro _; rfl) : JT X e (dB f) := by
  refine ⟨(pt_val h.pe he).imp fun σ H Q' h => ?_⟩
  obtain ⟨ds, m, Q, rs, rm, q, k⟩ := h
  refine ⟨ds, m, _, rs, rm, q, fun x m1 xv H1 e1 rm1 rx q1 => ?_⟩
  obtain ⟨kk, rfl, q1⟩ := q1
  cases rx
  exact ⟨kk, rfl, k kk m1 H1 e1 rm1 q1⟩
end

/-! ### and, or, not, if -/
section
variable {X : Cx} {a b c : Expr} {rest : List Expr} {t u : DT} {f g : DE} {pos : Pos}
def dAndT (t u : DT) : DT := fun ds m Q => t ds m fun c m1 => if c = true then u ds m1 Q else Q false m1
def dOrT (t u : DT) : DT := fun ds m Q => t ds m fun c m1 => if c = true then Q true m1 else u ds m1 Q
def dNotT (t : DT) : DT := fun ds m Q => t ds m fun c m1 => Q (!c) m1
theorem jw_and1 (ha : JT X a t) : JW X (.BoolOp .And [a] pos) t := ⟨pw_and1 ha.pt⟩
theorem jw_or1 (ha : JT X a t) : JW X (.BoolOp .Or [a] pos) t := ⟨pw_or1 ha.pt⟩
theorem jw_and (ha : JT X a t) (hb : JW X (.BoolOp .And (b :: rest) pos) u) : JW X (.BoolOp .And (a :: b :: rest) pos) (dAndT t u) := by
  refine ⟨(pw_and ha.pt hb.pw).imp fun σ H Q' h => ?_⟩
  obtain ⟨ds, m, Q, rs, rm, q, k⟩ := h
  refine ⟨ds, m, _, rs, rm, q, fun c m1 H1 e1 rm1 q1 => ?_⟩
  cases c with
  | true => exact ⟨ds, m1, Q, rs.ext e1, rm1, q1, k.ext e1⟩
  | false => exact k _ _ _ e1 rm1 q1
theorem jw_or (ha : JT X a t) (hb : JW X (.BoolOp .Or (b :: rest) pos) u) : JW X (.BoolOp .Or (a :: b :: rest) pos) (dOrT t u) := by
  refine ⟨(pw_or ha.pt hb.pw).imp fun σ H Q' h => ?_⟩
  obtain ⟨ds, m, Q, rs, rm, q, k⟩ := h
  refine ⟨ds, m, _, rs, rm, q, fun c m1 H1 e1 rm1 q1 => ?_⟩
  cases c with
  | true => exact k _ _ _ e1 rm1 q1
  | false => exact ⟨ds, m1, Q, rs.ext e1, rm1, q1, k.ext e1⟩
theorem jt_w {e : Expr} (h : JW X e t) : JT X e t := ⟨h.pw.pt⟩
theorem jt_not (ha : JT X a t) : JT X (.UnaryOp .Not a pos) (dNotT t) := by
  refine ⟨(pt_not ha.pt).imp fun σ H Q' h => ?_⟩
  obtain ⟨ds, m, Q, rs, rm, q, k⟩ := h
  exact ⟨ds, m, _, rs, rm, q, fun c m1 H1 e1 rm1 q1 => k _ _ _ e1 rm1 q1⟩
/-- as values -/
def dAnd (f g : DE) : DE := fun ds m Q => f ds m fun x m1 => ∃ c, x = .bl c ∧ if c = true then g ds m1 Q else Q (.bl false) m1
def dOr (f g : DE) : DE := fun ds m Q => f ds m fun x m1 => ∃ c, x = .bl c ∧ if c = true then Q (.bl true) m1 else g ds m1 Q
def dNot (f : DE) : DE := fun ds m Q => f ds m fun x m1 => ∃ c, x = .bl c ∧ Q (.bl (!c)) m1
theorem je_one {op} (h : JE X a f) : JE X (.BoolOp op [a] pos) f := ⟨pe_one h.pe⟩
theorem je_and (ha : JE X a f) (hb : JE X (.BoolOp .And (b :: rest) pos) g) : JE X (.BoolOp .And (a :: b :: rest) pos) (dAnd f g) := by
  refine ⟨(pe_and ha.pe hb.pe).imp fun σ H Q' h => ?_⟩
  obtain ⟨ds, m, Q, rs, rm, q, k⟩ := h
  refine ⟨ds, m, _, rs, rm, q, fun x m1 xv H1 e1 rm1 rx q1 => ?_⟩
  obtain ⟨c, rfl, q1⟩ := q1
  cases rx
  refine ⟨c, rfl, ?_⟩
  cases c with
  | true => exact ⟨ds, m1, Q, rs.ext e1, rm1, q1, k.ext e1⟩
  | false => exact k _ _ _ _ e1 rm1 (.bl _) q1
theorem je_or (ha : JE X a f) (hb : JE X (.BoolOp .Or (b :: rest) pos) g) : JE X (.BoolOp .Or (a :: b :: rest) pos) (dOr f g) := by
  refine ⟨(pe_or ha.pe hb.pe).imp fun σ H Q' h => ?_⟩
  obtain ⟨ds, m, Q, rs, rm, q, k⟩ := h
  refine ⟨ds, m, _, rs, rm, q, fun x m1 xv H1 e1 rm1 rx q1 => ?_⟩
  obtain ⟨c, rfl, q1⟩ := q1
  cases rx
  refine ⟨c, rfl, ?_⟩
  cases c with
  | true => exact k _ _ _ _ e1 rm1 (.bl _) q1
  | false => exact ⟨ds, m1, Q, rs.ext e1, rm1, q1, k.ext e1⟩
theorem je_not (ha : JE X a f) : JE X (.UnaryOp .Not a pos) (dNot f) := by
  refine ⟨(pe_not ha.pe).imp fun σ H Q' h => ?_⟩
  obtain ⟨ds, m, Q, rs, rm, q, k⟩ := h
  refine ⟨ds, m, _, rs, rm, q, fun x m1 xv H1 e1 rm1 rx q1 => ?_⟩
  obtain ⟨c, rfl, q1⟩ := q1
  cases rx
  exact ⟨c, rfl, k _ _ _ _ e1 rm1 (.bl _) q1⟩
def dIfE (t : DT) (f g : DE) : DE := fun ds m Q => t ds m fun c m1 => if c = true then f ds m1 Q else g ds m1 Q
theorem je_if (hc : JT X c t) (ha : JE X a f) (hb : JE X b g) : JE X (.IfExp c a b pos) (dIfE t f g) := by
  refine ⟨(pe_ifExp hc.pt ha.pe hb.pe).imp fun σ H Q' h => ?_⟩
  obtain ⟨ds, m, Q, rs, rm, q, k⟩ := h
  refine ⟨ds, m, _, rs, rm, q, fun c m1 H1 e1 rm1 q1 => ?_⟩
  cases c with
  | true => exact ⟨ds, m1, Q, rs.ext e1, rm1, q1, k.ext e1⟩
  | false => exact ⟨ds, m1, Q, rs.ext e1, rm1, q1, k.ext e1⟩
end

/-! ### statements -/
section
variable {X : Cx} {st : Stmt} {rest : List Stmt} {f g : DS} {e : Expr} {t : DE} {pos : Pos}
def dSkip : DS := fun D ds m => D.nx ds m
def dSeq (f g : DS) : DS := fun D ds m => f { D with nx := g D } ds m
theorem jss_nil : JSs X [] dSkip := by
  refine ⟨pss_nil.imp fun D' σ H h => ?_⟩
  obtain ⟨ds, m, D, rs, rm, q, k⟩ := h
  exact k.nx ds m σ H (Ext.refl H) rs rm q
theorem jss_one (h : JS X st f) : JSs X [st] f := ⟨pss_one h.ps⟩
theorem jss_cons (h1 : JS X st f) (h2 : JSs X rest g) : JSs X (st :: rest) (dSeq f g) := by
  refine ⟨(pss_cons h1.ps h2.pss).imp fun D' σ H h => ?_⟩
  obtain ⟨ds, m, D, rs, rm, q, k⟩ := h
  refine ⟨ds, m, _, rs, rm, q, ⟨fun ds2 m2 σ2 H2 e2 rs2 rm2 q2 => ?_, k.rt, k.bk, k.ct, k.xr⟩⟩
  exact ⟨ds2, m2, D, rs2, rm2, q2, k.ext e2⟩
def dBreak : DS := fun D ds m => D.bk ds m
def dCont : DS := fun D ds m => D.ct ds m
theorem js_pass : JS X (.Pass pos) dSkip := by
  refine ⟨ps_pass.imp fun D' σ H h => ?_⟩
  obtain ⟨ds, m, D, rs, rm, q, k⟩ := h
  exact k.nx ds m σ H (Ext.refl H) rs rm q
theorem js_break : JS X (.Break pos) dBreak := by
  refine ⟨ps_break.imp fun D' σ H h => ?_⟩
  obtain ⟨ds, m, D, rs, rm, q, k⟩ := h
  exact k.bk ds m σ H (Ext.refl H) rs rm q
theorem js_continue : JS X (.Continue pos) dCont := by
  refine ⟨ps_continue.imp fun D' σ H h => ?_⟩
  obtain ⟨ds, m, D, rs, rm, q, k⟩ := h
  exact k.ct ds m σ H (Ext.refl H) rs rm q
def dExpr (t : DE) : DS := fun D ds m => t ds m fun _ m1 => D.nx ds m1
theorem js_expr (he : JE X e t) (hs : swapsWith e none pos.line X.env = pure false := by rfl) : JS X (.Expr e pos) (dExpr t) := by
  refine ⟨(ps_expr he.pe hs).imp fun D' σ H h => ?_⟩
  obtain ⟨ds, m, D, rs, rm, q, k⟩ := h
  exact ⟨ds, m, _, rs, rm, q, fun d m1 v H1 e1 rm1 rv q1 => k.nx ds m1 σ H1 e1 (rs.ext e1) rm1 q1⟩
def dRet (t : DE) : DS := fun D ds m => t ds m D.rt
theorem js_ret (he : JE X e t) : JS X (.Return (some e) pos) (dRet t) := by
  refine ⟨(ps_ret he.pe).imp fun D' σ H h => ?_⟩
  obtain ⟨ds, m, D, rs, rm, q, k⟩ := h
  exact ⟨ds, m, _, rs, rm, q, k.rt⟩
def dIf (t : DT) (f g : DS) : DS := fun D ds m => t ds m fun b m1 => if b = true then f D ds m1 else g D ds m1
theorem js_if {c : Expr} {a b : List Stmt} {t : DT} (hc : JT X c t) (ha : JSs X a f) (hb : JSs X b g) : JS X (.If c a b pos) (dIf t f g) := by
  refine ⟨(ps_if hc.pt ha.pss hb.pss).imp fun D' σ H h => ?_⟩
  obtain ⟨ds, m, D, rs, rm, q, k⟩ := h
  refine ⟨ds, m, _, rs, rm, q, fun c m1 H1 e1 rm1 q1 => ?_⟩
  cases c with
  | true => exact ⟨ds, m1, D, rs.ext e1, rm1, q1, k.ext e1⟩
  | false => exact ⟨ds, m1, D, rs.ext e1, rm1, q1, k.ext e1⟩
end

/-! ### targets: vs, the slots that may change -/
abbrev DG := D → Sd → MH → (Sd → MH → Prop) → Prop
abbrev DGs := List D → Sd → MH → (Sd → MH → Prop) → Prop
def KW (K : Frag) (vs : List Nat) (σ : L2.St) (H : Hp) (Q : Sd → MH → Prop) (Q' : L2.St → Hp → Prop) : Prop := ∀ ds m σ' H', Ext H H' → RSt K H' ds σ' → RM K m H' → wipe σ' vs = wipe σ vs → Q ds m → Q' σ' H'
theorem KN.w {K : Frag} {vs : List Nat} {σ : L2.St} {H : Hp} {Q : Sd → MH → Prop} {Q' : L2.St → Hp → Prop} (k : KN K H Q Q') : KW K vs σ H Q Q' := fun ds m σ' H' e rs rm _ q => k ds m σ' H' e rs rm q
def lG (K : Frag) (vs : List Nat) (g : DG) : TG := fun v σ H Q' => ∃ d ds m Q, RD K H d v ∧ RSt K H ds σ ∧ RM K m H ∧ g d ds m Q ∧ KW K vs σ H Q Q'
def lGs (K : Frag) (vs : List Nat) (g : DGs) : TGs := fun v σ H Q' => ∃ d ds m Q, RDs K H d v ∧ RSt K H ds σ ∧ RM K m H ∧ g d ds m Q ∧ KW K vs σ H Q Q'
structure JG (X : Cx) (vs : List Nat) (tg : Expr) (g : DG) : Prop where
  pg : PG X tg (lG X.K vs g)
structure JGs (X : Cx) (vs : List Nat) (tg : List Expr) (g : DGs) : Prop where
  pgs : PGs X tg (lGs X.K vs g)
theorem _root_.L2.PG.imp {X : Cx} {e : Expr} {t t' : TG} (h : PG X e t) (i : ∀ v σ H Q, t' v σ H Q → t v σ H Q) : PG X e t' := ⟨fun pins s σ H v u Q I r w => h.run pins s σ H v u Q I r (i v σ H Q w)⟩
theorem _root_.L2.PGs.imp {X : Cx} {e : List Expr} {t t' : TGs} (h : PGs X e t) (i : ∀ v σ H Q, t' v σ H Q → t v σ H Q) : PGs X e t' := ⟨fun pins s σ H v u Q I r w => h.run pins s σ H v u Q I r (i v σ H Q w)⟩
theorem wipe_set_out {σ : L2.St} {i : Nat} {x : Option V} : ∀ {vs : List Nat}, i ∉ vs → wipe (σ.set i x) vs = (wipe σ vs).set i x
  | [], _ => rfl
  | v :: vs, h => by
    have h1 : i ≠ v := fun e => h (by simp [e])
    have h2 : i ∉ vs := fun e => h (by simp [e])
    unfold wipe
    rw [wipe_set_out h2, List.set_comm _ _ h1]
theorem wipe_set_in {σ : L2.St} {i : Nat} {x : Option V} : ∀ {vs : List Nat}, i ∈ vs → wipe (σ.set i x) vs = wipe σ vs
  | v :: vs, h => by
    unfold wipe
    by_cases e : i ∈ vs
    · rw [wipe_set_in e]
    · have e1 : i = v := by
        rcases List.mem_cons.mp h with z | z
        · exact z
        · exact absurd z e
      rw [wipe_set_out e, e1, List.set_set]
section
variable {X : Cx} {pos : Pos} {vs : List Nat}
def gN (i : Nat) : DG := fun d ds m Q => Q (ds.set i (some d)) m
theorem jg_name {i : Nat} {x : Str} (hN : X.N.Nodup) (hi : X.N[i]? = some x) (hx : Loc X.env.scope x) (hv : i ∈ vs := by decide) (hf : X.fn x = true ∨ X.env.scope.names.lookup x = some .local := by first | exact .inl rfl | exact .inr rfl | assumption) : JG X vs (.Name x pos) (gN i) := by
  refine ⟨PG.imp (pg_name hN hi hx hf) fun v σ H Q' h => ?_⟩
  obtain ⟨d, ds, m, Q, rv, rs, rm, q, k⟩ := h
  exact k _ m _ H (Ext.refl H) (rs.set rv i) rm (wipe_set_in hv) q
def gsNil : DGs := fun l ds m Q => l = [] ∧ Q ds m
def gsCons (g : DG) (gs : DGs) : DGs := fun l ds m Q => ∃ d r, l = d :: r ∧ g d ds m fun ds1 m1 => gs r ds1 m1 Q
theorem jgs_nil : JGs X vs [] gsNil := by
  refine ⟨PGs.imp pgs_nil fun v σ H Q' h => ?_⟩
  obtain ⟨d, ds, m, Q, rv, rs, rm, ⟨rfl, q⟩, k⟩ := h
  cases rv
  exact ⟨rfl, k ds m σ H (Ext.refl H) rs rm rfl q⟩
theorem jgs_cons {e : Expr} {es : List Expr} {g : DG} {gs : DGs} (h1 : JG X vs e g) (h2 : JGs X vs es gs)
    (hs : (assignEach (e :: es) X.env).map (·.2) = assign e X.env :: (assignEach es X.env).map (·.2) := by rfl) : JGs X vs (e :: es) (gsCons g gs) := by
  refine ⟨PGs.imp (pgs_cons h1.pg h2.pgs hs) fun v σ H Q' h => ?_⟩
  obtain ⟨d, ds, m, Q, rv, rs, rm, ⟨x, r, rfl, q⟩, k⟩ := h
  cases rv with
  | cons rx rr =>
    refine ⟨_, _, rfl, x, ds, m, _, rx, rs, rm, q, fun ds1 m1 σ1 H1 e1 rs1 rm1 w1 q1 => ?_⟩
    exact ⟨r, ds1, m1, Q, rr.ext e1, rs1, rm1, q1, fun ds2 m2 σ2 H2 e2 rs2 rm2 w2 q2 => k ds2 m2 σ2 H2 (e1.trans e2) rs2 rm2 (w2.trans w1) q2⟩
def gT (n : Nat) (gs : DGs) : DG := fun d ds m Q => ∃ l, d = .tup l ∧ l.length = n ∧ gs l ds m Q
theorem jg_tup {es : List Expr} {k : Nat} {gs : DGs} {n : Nat} (hc : X.calm = true) (h : JGs X vs es gs)
    (hn : (assignEach es X.env).length = n := by rfl) (hst : (assignEach es X.env).findIdx? (·.1) = none := by rfl) : JG X vs (.Tuple es k pos) (gT n gs) := by
  refine ⟨PG.imp (pg_tup hc h.pgs hn hst) fun v σ H Q' h => ?_⟩
  obtain ⟨d, ds, m, Q, rv, rs, rm, ⟨l, rfl, hl, q⟩, k⟩ := h
  cases rv with
  | tup hs rd => exact ⟨_, _, rfl, sqt hs, by rw [← rd.length]; exact hl, l, ds, m, Q, rd, rs, rm, q, k⟩
def dAsg (t : DE) (g : DG) : DS := fun D ds m => t ds m fun d m1 => g d ds m1 D.nx
theorem asg_of {t : DE} {g : DG} (D' : Ends) (σ : L2.St) (H : Hp) (h : lS X (dAsg t g) D' σ H) : tAsg (lE X.K t) (lG X.K vs g) D' σ H := by
  obtain ⟨ds, m, D, rs, rm, q, k⟩ := h
  exact ⟨ds, m, _, rs, rm, q, fun d m1 v H1 e1 rm1 rv q1 => ⟨d, ds, m1, _, rv, rs.ext e1, rm1, q1, (k.nx.ext e1).w⟩⟩
theorem js_asg {tg e : Expr} {t : DE} {g : DG} (he : JE X e t) (hg : JG X vs tg g) (hs : swapsWithSole [tg] e pos.line X.env = pure false := by rfl) (hw : swappedStores [tg] e X.env = pure none := by rfl)
    (h1 : (assignEach [tg] X.env).map (·.2) = [assign tg X.env] := by rfl) : JS X (.Assign [tg] e pos) (dAsg t g) :=
  ⟨(ps_asg he.pe hg.pg hs hw h1).imp asg_of⟩
theorem js_set {i : Nat} {x : Str} {e : Expr} {t : DE} {pos' : Pos} (hN : X.N.Nodup) (hi : X.N[i]? = some x) (hx : Loc X.env.scope x) (he : JE X e t) (hs : swapsWith e (some (.Name x pos')) pos.line X.env = pure false := by rfl) (hf : X.fn x = true ∨ X.env.scope.names.lookup x = some .local := by first | exact .inl rfl | exact .inr rfl | assumption) :
    JS X (.Assign [.Name x pos'] e pos) (dAsg t (gN i)) := by
  refine ⟨(ps_set hN hi hx he.pe hs hf).imp fun D' σ H h => ?_⟩
  obtain ⟨ds, m, D, rs, rm, q, k⟩ := h
  exact ⟨ds, m, _, rs, rm, q, fun d m1 v H1 e1 rm1 rv q1 => k.nx _ m1 _ H1 e1 ((rs.ext e1).set rv i) rm1 q1⟩
def dPar (i j : Nat) (t : DA) : DS := fun D ds m => t ds m fun l m1 => ∃ x y, l = [x, y] ∧ D.nx ((ds.set i (some x)).set j (some y)) m1
theorem js_par {i j : Nat} {x y : Str} {a b : Expr} {t : DA} {px py pt : Pos} {kt k2 pt2} (hc : X.calm = true) (hN : X.N.Nodup) (hi : X.N[i]? = some x) (hj : X.N[j]? = some y) (hij : i ≠ j)
    (hx : X.env.scope.names.lookup x = some .local) (hy : X.env.scope.names.lookup y = some .local) (ha : JA X [a, b] t)
    (hw : swappedStores [.Tuple [.Name x px, .Name y py] kt pt] (.Tuple [a, b] k2 pt2) X.env = pure (some [x, y]) := by rfl)
    (hs : swapsWithSole [.Tuple [.Name x px, .Name y py] kt pt] (.Tuple [a, b] k2 pt2) pos.line X.env = pure false := by rfl) :
    JS X (.Assign [.Tuple [.Name x px, .Name y py] kt pt] (.Tuple [a, b] k2 pt2) pos) (dPar i j t) := by
  refine ⟨(ps_par hc hN hi hj hij hx hy ha.pa hw hs).imp fun D' σ H h => ?_⟩
  obtain ⟨ds, m, D, rs, rm, q, k⟩ := h
  refine ⟨ds, m, _, rs, rm, q, fun l m1 vs H1 e1 rm1 rv q1 => ?_⟩
  obtain ⟨x, y, rfl, q1⟩ := q1
  cases rv with
  | cons r1 rr =>
    cases rr with
    | cons r2 rr =>
      cases rr
      exact ⟨_, _, rfl, k.nx _ m1 _ H1 e1 (((rs.ext e1).set r1 i).set r2 j) rm1 q1⟩
/-- o[i] = v, by values -/
abbrev DSet := D → D → D → MH → (MH → Prop) → Prop
def SetJ (X : Cx) (r : DSet) : Prop := ∃ rv : TSet, PSet X rv ∧ ∀ H m o i v ov iv vv Q Q', RM X.K m H → RD X.K H o ov → RD X.K H i iv → RD X.K H v vv → r o i v m Q → (∀ m' H', Ext H H' → RM X.K m' H' → Q m' → Q' H') → rv ov iv vv H Q'
def gS (o i : DE) (r : DSet) : DG := fun d ds m Q => o ds m fun x m1 => i ds m1 fun y m2 => r x y d m2 fun m3 => Q ds m3
theorem jg_sub {o i : Expr} {fo fi : DE} {r : DSet} (ho : JE X o fo) (hi : JE X i fi) (hs : SetJ X r)
    (ha : ∀ v, assign (.Subscript o i pos) X.env v = (do
      let ov ← holding [v] (eval o X.env)
      let iv ← holding [v, ov] (eval i X.env)
      standAt pos
      holding [v, ov, iv] (setItem ov iv v)
      release [v, ov, iv] []) := by intro _; rfl) : JG X vs (.Subscript o i pos) (gS fo fi r) := by
  obtain ⟨rv, h1, h2⟩ := hs
  refine ⟨PG.imp (pg_sub ho.pe hi.pe h1 ha) fun v σ H Q' h => ?_⟩
  obtain ⟨d, ds, m, Q, rd, rs, rm, q, k⟩ := h
  refine ⟨ds, m, _, rs, rm, q, fun x m1 xv H1 e1 rm1 rx q1 => ?_⟩
  refine ⟨ds, m1, _, rs.ext e1, rm1, q1, fun y m2 yv H2 e2 rm2 ry q2 => ?_⟩
  refine h2 H2 m2 x y d xv yv v _ _ rm2 (rx.ext e2) ry (rd.ext (e1.trans e2)) q2 fun m3 H3 e3 rm3 q3 => ?_
  exact k ds m3 σ H3 ((e1.trans e2).trans e3) (rs.ext ((e1.trans e2).trans e3)) rm3 rfl q3
end
end DL
/-! DL: loops, comprehensions, calls, what a def promises. -/
namespace DL
open PySem PySem.Spec PyProof.Rows L2

/-! ### what is walked -/
abbrev DI := Sd → MH → ((MH → Prop) → List D → MH → Prop) → Prop
/-- while chk holds the walk J gives just the items -/
def RIt (K : Frag) (J : It) (H0 : Hp) (chk : MH → Prop) (items : List D) : Prop := ∀ m H, Ext H0 H → RM K m H → chk m →
  (∀ i, i < items.length → J.go i H ∧ ∀ x H', J.yld i H x H' → Ext H H' ∧ RM K m H' ∧ ∃ d, items[i]? = some d ∧ RD K H' d x) ∧ J.stop items.length H
def lI (K : Frag) (f : DI) : TI := fun σ H R' => ∃ ds m Q, RSt K H ds σ ∧ RM K m H ∧ f ds m Q ∧ ∀ chk items m' J H', Ext H H' → RM K m' H' → RIt K J H' chk items → Q chk items m' → R' J H'
structure JI (X : Cx) (tg e : Expr) (f : DI) : Prop where
  pi : PI X tg e (lI X.K f)
theorem _root_.L2.PI.imp {X : Cx} {tg e : Expr} {t t' : TI} (h : PI X tg e t) (i : ∀ σ H Q, t' σ H Q → t σ H Q) : PI X tg e t' := ⟨fun pins s σ H R I w => h.run pins s σ H R I (i σ H R w)⟩

/-! ### for, while -/
def dLoop (chk : MH → Prop) (g : DG) (body : DS) : List D → DS
  | [] => fun D ds m => chk m ∧ D.nx ds m
  | x :: r => fun D ds m => chk m ∧ g x ds m fun ds2 m2 => body { D with nx := dLoop chk g body r D, ct := dLoop chk g body r D, bk := D.nx } ds2 m2
def dFor (it : DI) (g : DG) (body : DS) : DS := fun D ds m => it ds m fun chk items m1 => dLoop chk g body items D ds m1
def dWhile (c : DT) (body : DS) : DS := fun D ds m => ∃ Iv : Nat → Sd → MH → Prop, (∃ n, Iv n ds m) ∧
  ∀ n ds m, Iv n ds m → c ds m fun b m1 => if b = true then body { D with nx := fun d' m' => ∃ j, j < n ∧ Iv j d' m', ct := fun d' m' => ∃ j, j < n ∧ Iv j d' m', bk := D.nx } ds m1 else D.nx ds m1
theorem dLoop_chk {chk : MH → Prop} {g : DG} {body : DS} {l : List D} {D : DEnds} {ds : Sd} {m : MH} (h : dLoop chk g body l D ds m) : chk m := by
  cases l with
  | nil => exact h.1
  | cons x r => exact h.1
theorem drop_cons {α : Type} {l : List α} {i : Nat} (h : i < l.length) : l.drop i = l[i] :: l.drop (i + 1) := List.drop_eq_getElem_cons h
section
variable {X : Cx} {tg iter : Expr} {body : List Stmt} {it : DI} {g : DG} {b : DS} {pos : Pos} {vs : List Nat}
theorem js_for (hp : PassesOwn (model X.prog X.w) X.A X.env X.xe) (hc : X.calm = true) (hi : JI X tg iter it) (hg : JG X vs tg g) (hb : JSs X body b)
    (hs : ∀ x, foldedSetIterable iter X.env x = pure x := by intro _; rfl) : JS X (.For tg iter body [] pos) (dFor it g b) := by
  refine ⟨(ps_for hp hc hi.pi hg.pg hb.pss hs).imp fun D' σ H h => ?_⟩
  obtain ⟨ds, m, D, rs, rm, q, k⟩ := h
  refine ⟨ds, m, _, rs, rm, q, fun chk items m1 J H1 e1 rm1 rit q1 => ?_⟩
  refine ⟨fun i n σ' H' => n = items.length - i ∧ i ≤ items.length ∧ ∃ ds' m', Ext H1 H' ∧ RSt X.K H' ds' σ' ∧ RM X.K m' H' ∧ dLoop chk g b (items.drop i) D ds' m',
    ⟨items.length, by simp, Nat.zero_le _, ds, m1, Ext.refl _, rs.ext e1, rm1, q1⟩, ?_⟩
  rintro i n σ' H' ⟨rfl, hi, ds', m', e', rs', rm', q'⟩
  obtain ⟨r1, r2⟩ := rit m' H' e' rm' (dLoop_chk q')
  by_cases hlt : i < items.length
  · rw [drop_cons hlt] at q'
    obtain ⟨go, yl⟩ := r1 i hlt
    refine .inr ⟨go, fun σ3 H3 => ∃ ds3 m3, Ext H1 H3 ∧ RSt X.K H3 ds3 σ3 ∧ RM X.K m3 H3 ∧ dLoop chk g b (items.drop (i + 1)) D ds3 m3, fun σ3 H3 h3 => ⟨_, by omega, rfl, hlt, h3⟩, fun x H2 y => ?_⟩
    obtain ⟨e2, rm2, d, hd, rd⟩ := yl x H2 y
    have ed : items[i] = d := by
      rw [List.getElem?_eq_getElem hlt] at hd
      exact Option.some.inj hd
    rw [ed] at q'
    refine ⟨d, ds', m', _, rd, rs'.ext e2, rm2, q'.2, fun ds4 m4 σ4 H4 e4 rs4 rm4 _ q4 => ?_⟩
    have e14 : Ext H1 H4 := (e'.trans e2).trans e4
    have kk := k.ext (e1.trans e14)
    exact ⟨ds4, m4, _, rs4, rm4, q4, ⟨fun ds5 m5 σ5 H5 e5 rs5 rm5 q5 => ⟨ds5, m5, e14.trans e5, rs5, rm5, q5⟩, kk.rt, kk.nx, fun ds5 m5 σ5 H5 e5 rs5 rm5 q5 => ⟨ds5, m5, e14.trans e5, rs5, rm5, q5⟩, kk.xr⟩⟩
  · have e : i = items.length := by omega
    subst e
    rw [List.drop_length] at q'
    exact .inl ⟨r2, k.nx ds' m' σ' H' (e1.trans e') rs' rm' q'.2⟩
theorem js_while {c : Expr} {t : DT} (hp : PassesOwn (model X.prog X.w) X.A X.env X.xe) (hc : JT X c t) (hb : JSs X body b) : JS X (.While c body [] pos) (dWhile t b) := by
  refine ⟨(ps_while hp hc.pt hb.pss).imp fun D' σ H h => ?_⟩
  obtain ⟨ds, m, D, rs, rm, ⟨Iv, ⟨n, q⟩, turn⟩, k⟩ := h
  refine ⟨fun n σ' H' => ∃ ds' m', Ext H H' ∧ RSt X.K H' ds' σ' ∧ RM X.K m' H' ∧ Iv n ds' m', ⟨n, ds, m, Ext.refl _, rs, rm, q⟩, ?_⟩
  rintro n σ' H' ⟨ds', m', e', rs', rm', q'⟩
  refine ⟨ds', m', _, rs', rm', turn n ds' m' q', fun c m1 H1 e1 rm1 q1 => ?_⟩
  cases c with
  | true =>
    refine ⟨_, fun σ3 H3 h3 => h3, ?_⟩
    have kk := k.ext (e'.trans e1)
    exact ⟨ds', m1, _, rs'.ext e1, rm1, q1, ⟨fun ds5 m5 σ5 H5 e5 rs5 rm5 ⟨j, hj, q5⟩ => ⟨j, hj, ds5, m5, (e'.trans e1).trans e5, rs5, rm5, q5⟩, kk.rt, kk.nx, fun ds5 m5 σ5 H5 e5 rs5 rm5 ⟨j, hj, q5⟩ => ⟨j, hj, ds5, m5, (e'.trans e1).trans e5, rs5, rm5, q5⟩, kk.xr⟩⟩
  | false => exact k.nx ds' m1 σ' H1 (e'.trans e1) (rs'.ext e1) rm1 q1
end

/-! ### comprehensions -/
def dLcL (chk : MH → Prop) (g : DG) (tt : DT) (te : DE) (vs : List Nat) (p : Addr) (Q : DK) (ds : Sd) : List D → MH → Prop
  | [] => fun m => chk m ∧ Q (.ref p) m
  | x :: r => fun m => chk m ∧ g x (dwipe ds vs) m fun ds2 m2 => tt ds2 m2 fun b m3 => if b = true then te ds2 m3 fun y m4 => ∃ acc, m4 p = some (.lst acc) ∧ acc.length < sizeLine ∧ dLcL chk g tt te vs p Q ds r (mup m4 p (.lst (acc ++ [y]))) else dLcL chk g tt te vs p Q ds r m3
def dLc (it : DI) (g : DG) (tt : DT) (te : DE) (vs : List Nat) : DE := fun ds m Q => it ds m fun chk items m1 => ∀ p, m1 p = none → dLcL chk g tt te vs p Q ds items (mup m1 p (.lst []))
theorem dLcL_chk {chk : MH → Prop} {g : DG} {tt : DT} {te : DE} {vs : List Nat} {p : Addr} {Q : DK} {ds : Sd} {l : List D} {m : MH} (h : dLcL chk g tt te vs p Q ds l m) : chk m := by
  cases l with
  | nil => exact h.1
  | cons x r => exact h.1
def dYes : DT := fun _ m Q => Q true m
structure JTs (X : Cx) (ifs : List Expr) (t : DT) : Prop where
  pts : PTs X ifs (lT X.K t)
theorem _root_.L2.PTs.imp {X : Cx} {e : List Expr} {t t' : TT} (h : PTs X e t) (i : ∀ σ H Q, t' σ H Q → t σ H Q) : PTs X e t' := ⟨fun pins s σ H Q I w => h.run pins s σ H Q I (i σ H Q w)⟩
theorem jts_nil {X : Cx} : JTs X [] dYes := by
  refine ⟨pts_nil.imp fun σ H Q' h => ?_⟩
  obtain ⟨ds, m, Q, rs, rm, q, k⟩ := h
  exact k true m H (Ext.refl H) rm q
theorem jts_one {X : Cx} {c : Expr} {t : DT} (h : JT X c t) : JTs X [c] t := ⟨pts_one h.pt⟩
section
variable {X : Cx} {tg iter elt : Expr} {ifs : List Expr} {scope : Scope} {own : List (Str × Nat)} {it : DI} {g : DG} {tt : DT} {te : DE} {pos : Pos}
theorem wipe_id : ∀ (us : List Nat) (τ : L2.St), (∀ i ∈ us, ∀ v, τ[i]? = some v → v = none) → wipe τ us = τ
  | [], _, _ => rfl
  | u :: us, τ, hτ => by
    unfold wipe
    rw [wipe_id us τ fun i hi => hτ i (List.mem_cons_of_mem _ hi)]
    by_cases hu : u < τ.length
    · have h1 := hτ u List.mem_cons_self τ[u] (List.getElem?_eq_getElem hu)
      rw [← h1]
      exact List.set_getElem_self hu
    · exact List.set_eq_of_length_le (by omega)
theorem wipe_wipe (σ : L2.St) (vs : List Nat) : wipe (wipe σ vs) vs = wipe σ vs := wipe_id vs _ fun i hi v hv => by
  cases v with
  | none => rfl
  | some x => exact absurd hi (wipe_some hv).2
theorem lc_of {K : Frag} (σ : L2.St) (H : Hp) (Q' : VK) (vs : List Nat) (h : lE K (dLc it g tt te vs) σ H Q') : tLc (lI K it) (lG K vs g) (lT K tt) (lE K te) vs σ H Q' := by
  obtain ⟨ds, m, Q, rs, rm, q, k⟩ := h
  refine ⟨ds, m, _, rs, rm, q, fun chk items m1 J H1 e1 rm1 rit q1 p hp => ?_⟩
  have q2 := q1 p (rm1.none hp)
  have ep : Ext H1 (upd H1 p (.lst [])) := Ext.fresh hp
  refine ⟨fun i n H' => n = items.length - i ∧ i ≤ items.length ∧ ∃ m', Ext H1 H' ∧ RM K m' H' ∧ dLcL chk g tt te vs p Q ds (items.drop i) m',
    ⟨items.length, by simp, Nat.zero_le _, _, ep, rm1.upd (o := .lst []) ep ⟨[], upd_same, .nil⟩, q2⟩, ?_⟩
  rintro i n H' ⟨rfl, hi, m', e', rm', q'⟩
  obtain ⟨r1, r2⟩ := rit m' H' e' rm' (dLcL_chk q')
  by_cases hlt : i < items.length
  · rw [drop_cons hlt] at q'
    obtain ⟨go, yl⟩ := r1 i hlt
    refine .inr ⟨go, fun H3 => ∃ m3, Ext H1 H3 ∧ RM K m3 H3 ∧ dLcL chk g tt te vs p Q ds (items.drop (i + 1)) m3, fun H3 h3 => ⟨_, by omega, rfl, hlt, h3⟩, fun x H2 y => ?_⟩
    obtain ⟨e2, rm2, d, hd, rd⟩ := yl x H2 y
    have ed : items[i] = d := by
      rw [List.getElem?_eq_getElem hlt] at hd
      exact Option.some.inj hd
    rw [ed] at q'
    have e12 := e'.trans e2
    refine ⟨d, dwipe ds vs, m', _, rd, (rs.ext (e1.trans e12)).wipe vs, rm2, q'.2, fun ds4 m4 σ4 H4 e4 rs4 rm4 w4 q4 => ?_⟩
    refine ⟨w4.trans (wipe_wipe σ vs) |> fun z => z, ?_⟩
    refine ⟨ds4, m4, _, rs4, rm4, q4, fun b m5 H5 e5 rm5 q5 => ?_⟩
    cases b with
    | true =>
      refine ⟨ds4, m5, _, rs4.ext e5, rm5, q5, fun y m6 yv H6 e6 rm6 ry q6 => ?_⟩
      obtain ⟨acc, h6, hl6, q6⟩ := q6
      obtain ⟨xs, hx, rx⟩ := rm6 p _ h6
      refine ⟨xs, hx, by rw [← rx.length]; exact hl6, ?_⟩
      have e7 : Ext H6 (upd H6 p (.lst (xs ++ [yv]))) := Ext.lst hx
      exact ⟨_, (((e12.trans e4).trans e5).trans e6).trans e7, rm6.upd (o := .lst (acc ++ [y])) e7 ⟨_, upd_same, (rx.app (.cons ry .nil)).ext e7⟩, q6⟩
    | false => exact ⟨m5, (e12.trans e4).trans e5, rm5, q5⟩
  · have e : i = items.length := by omega
    subst e
    rw [List.drop_length] at q'
    exact .inl ⟨r2, k (.ref p) m' (.ref p) H' (e1.trans e') rm' (.ref p) q'.2⟩
theorem je_lc (hc : X.calm = true) (hN : X.N.Nodup) (hi : JI X tg iter it) (ok : BlkOk X.N X.env.scope scope own)
    (hg : ∀ (s : Shared) (H : Hp) (C : Addr) (cl : List (Str × Addr)) (fp : List Addr), JG (X.blk s H scope (compEnvC scope cl C X.env) fp) vs tg g) (ht : ∀ (s : Shared) (H : Hp) (C : Addr) (cl : List (Str × Addr)) (fp : List Addr), JTs (X.blk s H scope (compEnvC scope cl C X.env) fp) ifs tt)
    (he : ∀ (s : Shared) (H : Hp) (C : Addr) (cl : List (Str × Addr)) (fp : List Addr), JE (X.blk s H scope (compEnvC scope cl C X.env) fp) elt te) (hs : ∀ x, foldedSetIterable iter X.env x = pure x := by intro _; rfl) (hvs : vs = own.map (·.2) := by rfl) :
    JE X (.ListComp elt [⟨tg, iter, ifs, 0⟩] scope pos) (dLc it g tt te vs) := by
  subst hvs
  exact ⟨(pe_lc (wi := lI X.K it) (g := lG X.K (own.map (·.2)) g) (tt := lT X.K tt) (te := lE X.K te) hc hN hi.pi ok (fun s H C cl fp => (hg s H C cl fp).pg) (fun s H C cl fp => (ht s H C cl fp).pts) (fun s H C cl fp => (he s H C cl fp).pe) hs).imp fun σ H Q' h => lc_of σ H Q' _ h⟩
theorem js_setLc {i : Nat} {y : Str} {py : Pos} {spos : Pos} (hc : X.calm = true) (hN : X.N.Nodup) (hy : X.N[i]? = some y) (hyl : X.env.scope.names.lookup y = some .local)
    (hsw : swapsWith (.ListComp elt [⟨tg, iter, ifs, 0⟩] scope pos) (some (.Name y py)) spos.line X.env = pure true) (hi : JI X tg iter it) (ok : BlkOk X.N X.env.scope scope own)
    (hg : ∀ (s : Shared) (H : Hp) (C : Addr) (cl : List (Str × Addr)) (fp : List Addr), JG (X.blk s H scope (compEnvC scope cl C X.env) fp) vs tg g) (ht : ∀ (s : Shared) (H : Hp) (C : Addr) (cl : List (Str × Addr)) (fp : List Addr), JTs (X.blk s H scope (compEnvC scope cl C X.env) fp) ifs tt)
    (he : ∀ (s : Shared) (H : Hp) (C : Addr) (cl : List (Str × Addr)) (fp : List Addr), JE (X.blk s H scope (compEnvC scope cl C X.env) fp) elt te) (hs : ∀ x, foldedSetIterable iter X.env x = pure x := by intro _; rfl) (hvs : vs = own.map (·.2) := by rfl) :
    JS X (.Assign [.Name y py] (.ListComp elt [⟨tg, iter, ifs, 0⟩] scope pos) spos) (dAsg (dLc it g tt te vs) (gN i)) := by
  subst hvs
  refine ⟨(ps_setLc (wi := lI X.K it) (g := lG X.K (own.map (·.2)) g) (tt := lT X.K tt) (te := lE X.K te) hc hN hy hyl hsw hi.pi ok (fun s H C cl fp => (hg s H C cl fp).pg) (fun s H C cl fp => (ht s H C cl fp).pts) (fun s H C cl fp => (he s H C cl fp).pe) hs).imp fun D' σ H h => ?_⟩
  obtain ⟨ds, m, D, rs, rm, q, k⟩ := h
  refine lc_of σ H _ _ ⟨ds, m, _, rs, rm, q, fun d m1 v H1 e1 rm1 rv q1 => ?_⟩
  exact k.nx _ m1 _ H1 e1 ((rs.ext e1).set rv i) rm1 q1
end

/-! ### what a def promises; its call -/
abbrev DSp := List D → MH → DK → Prop
def lSp (K : Frag) (sp : DSp) : Sp := fun vs H Q' _ => ∃ ds m Q, RDs K H ds vs ∧ RM K m H ∧ sp ds m Q ∧ KE K H Q Q'
structure DefOk (P : Program) (w : World) (K : Frag) (mg : Str → Option Value) (base : Heap) (k : Nat) (x : Str) (ps : List Str) (sp : DSp) : Prop where
  ex : ∃ f fd, mg x = some (.ref f) ∧ PySem.W.keepIn K (.ref f) = true ∧ Binds K fd ps [] ∧ FnOk P w K mg base CX0 k f fd ps (lSp K sp)
def dCall (sp : DSp) (t : DA) : DE := fun ds m Q => t ds m fun l m1 => sp l m1 Q
section
variable {X : Cx} {e : Expr} {es : List Expr} {t : DA} {pos p : Pos}
theorem je_call {k j : Nat} {x : Str} {ps : List Str} {sp : DSp} (G : DefOk X.prog X.w X.K X.mg X.base k x ps sp) (hr : Room j X.A) (ha : JA X (e :: es) t) (hk : k ≤ j := by decide) (hg : Gl X x := by rfl)
    (hs : starEach (e :: es) X.env = (false, eval e X.env) :: starEach es X.env := by rfl) (hpl : (backTo pos (starEach es X.env)).any (·.1) = false := by rfl) (hd : (x == ("__debug__" : Str)) = false := by decide) :
    JE X (.Call (.Name x p) (e :: es) [] pos) (dCall sp t) := by
  obtain ⟨f, fd, hm, hkp, hb, F⟩ := G.ex
  refine ⟨(pe_call F (hr.mono hk) hg hm hkp hb .nil pass0 ha.pa hd hs hpl).imp fun σ H Q' h => ?_⟩
  obtain ⟨ds, m, Q, rs, rm, q, k⟩ := h
  refine ⟨ds, m, _, rs, rm, q, fun l m1 vs H1 e1 rm1 rv q1 => ?_⟩
  exact ⟨l, m1, Q, by simpa using rv, rm1, q1, k.ext e1⟩
end
section
variable {P : Program} {w : World} {K : Frag} {mg : Str → Option Value} {base : Heap}
theorem def_ok {x qual : Str} {st : Stmt} {f : Addr} {fd : FuncData} {N ps : List Str} {k : Nat} {sp : DSp} {g : DS} (F : Fun K x qual st f fd) (S : FnScope N ps (defScope st)) (hm : mg x = some (.ref f)) (hb : Binds K fd ps [])
    (len : ∀ ds m Q, sp ds m Q → ds.length = ps.length)
    (hbody : ∀ (cdv : Value) (A : Around) (outer : List Env) (s : Shared) (H : Hp) (E : XK), Room k (A.deeper (envOfC qual (defScope st) s.heap.objs.size f cdv)) →
      JSs (cxOf CX0 P w K mg base N qual (defScope st) f cdv A outer s H E).nox (defBody st) g)
    (hp : ∀ ds m Q, sp ds m Q → g { nx := fun _ m' => Q .non m', rt := Q } (dstart N.length ds) m) : DefOk P w K mg base (k + 1) x ps sp := by
  refine ⟨f, fd, hm, F.kp, hb, F.ok S (fun vs H Q E h => ?_) fun cdv A outer s H vs Q' E hr h => ?_⟩
  · obtain ⟨ds, m, Q, rd, _, q, _⟩ := h
    rw [← rd.length]
    exact len ds m Q q
  · obtain ⟨ds, m, Q, rd, rm, q, k⟩ := h
    refine ⟨_, (hbody cdv A outer s H E hr).pss, ?_⟩
    exact ⟨_, m, _, RSt.start rd, rm, hp ds m Q q, ⟨fun ds2 m2 σ2 H2 e2 rs2 rm2 q2 => k .non m2 .non H2 e2 rm2 .non q2, k, fun _ _ _ _ _ _ _ z => z.elim, fun _ _ _ _ _ _ _ z => z.elim, fun _ _ _ _ _ _ _ _ _ z => z.elim⟩⟩
theorem DefOk.mono {j k : Nat} {x : Str} {ps : List Str} {sp : DSp} (h : DefOk P w K mg base j x ps sp) (hj : j ≤ k) : DefOk P w K mg base k x ps sp := by
  obtain ⟨f, fd, h1, h2, h3, h4⟩ := h.ex
  exact ⟨f, fd, h1, h2, h3, h4.mono hj⟩
theorem DefOk.imp {k : Nat} {x : Str} {ps : List Str} {sp sp' : DSp} (h : DefOk P w K mg base k x ps sp) (i : ∀ ds m Q, sp' ds m Q → sp ds m Q) : DefOk P w K mg base k x ps sp' := by
  obtain ⟨f, fd, h1, h2, h3, h4⟩ := h.ex
  exact ⟨f, fd, h1, h2, h3, h4.imp fun vs H Q E ⟨ds, m, q, a, b, c, d⟩ => ⟨ds, m, q, a, b, i _ _ _ c, d⟩⟩
end
end DL
/-! DL0: rules that the hand layer lacks: tuple * int of any kind, extend by a tuple, enumerate of a tuple, a tuple reversed. -/
namespace DL
open PySem PySem.Spec PyProof.Rows L2
open AutoSeq1 (wpAny_loadPart')
/-! ### tuple * int -/
theorem mul_same (l : Addr) (items : Array Value) (n : Nat) (dd : Option Addr) (sl : Array (Option Value)) (x : Int) (u : Tok) (c0 : (decide (x < -(2 ^ 63)) || decide (x ≥ 2 ^ 63)) = false) (c1 : (items.isEmpty || x == 1) = true) :
    Meets (Builtin.«tuple.__mul__» ⟨[.ref l, .int x u], []⟩) (fun _ R s => s.heap.get? l = some { cls := .type "tuple", dict := dd, data := .seq items n, slots := sl } ∧ R (.ok (.ret (Value.ref l))) s) :=
  .of_wp fun prog w A R s h => by
    obtain ⟨hp, g, d, tk, os⟩ := s
    obtain ⟨hl, h⟩ := h
    have f1 := AutoSeq1.idx_int
    wp_walk using wpAny_loadPart' hl
    repeat (first
      | (refine wpAny_ite_false (decide_eq_false (by rw [c0]; exact Bool.false_ne_true)) ?_; wp_walk using wpAny_loadPart' hl)
      | (refine wpAny_ite_true (decide_eq_true c1) ?_; wp_walk using wpAny_loadPart' hl))
    exact ⟨_, rfl, h⟩
theorem mul_nil (l : Addr) (items : Array Value) (n : Nat) (dd : Option Addr) (sl : Array (Option Value)) (x : Int) (u : Tok) (c0 : (decide (x < -(2 ^ 63)) || decide (x ≥ 2 ^ 63)) = false) (c1 : (items.isEmpty || x == 1) = false) (c2 : (decide (x ≤ 0) || items.isEmpty) = true) :
    Meets (Builtin.«tuple.__mul__» ⟨[.ref l, .int x u], []⟩) (fun _ R s => s.heap.get? l = some { cls := .type "tuple", dict := dd, data := .seq items n, slots := sl } ∧
      R (.ok (.ret (Value.ref s.heap.objs.size))) { s with heap := s.heap.push { cls := Value.type "tuple", data := Data.seq #[] } }) :=
  .of_wp fun prog w A R s h => by
    obtain ⟨hp, g, d, tk, os⟩ := s
    obtain ⟨hl, h⟩ := h
    have f1 := AutoSeq1.idx_int
    wp_walk using wpAny_loadPart' hl
    repeat (first
      | (refine wpAny_ite_false (decide_eq_false (by rw [c0]; exact Bool.false_ne_true)) ?_; wp_walk using wpAny_loadPart' hl)
      | (refine wpAny_ite_false (decide_eq_false (by rw [c1]; exact Bool.false_ne_true)) ?_; wp_walk using wpAny_loadPart' hl)
      | (refine wpAny_ite_true (decide_eq_true c2) ?_; wp_walk using wpAny_loadPart' hl))
    exact ⟨_, rfl, h⟩
/-- t * k: the tuple itself, or a new one -/
def rMulT (K : PySem.W.Frag) : R2 := fun x y H Q => ∃ l k xs, x = .ref l ∧ y = .int k ∧ SqT K H l xs ∧ -(2 ^ 62) ≤ k ∧ k < 2 ^ 62 ∧ xs.length * k.toNat ≤ 1000000 ∧
  ((xs = [] ∨ k = 1) → Q (.ref l) H) ∧ (¬(xs = [] ∨ k = 1) → ∀ p, H p = none → Q (.ref p) (upd H p (.tup (List.replicate k.toNat xs).flatten)))
theorem op_mulT {X : Cx} : OpR X (binaryOp .Mult) (rMulT X.K) := by
  intro pins s σ H x y v u Q I rx ry h
  obtain ⟨l, k, xs, rfl, rfl, hT, k0, k1, hz, q1, q2⟩ := h
  by_cases hk : xs ≠ [] ∧ 2 ≤ k
  · have hz1 : xs.length ≤ 1000000 := Nat.le_trans (Nat.le_mul_of_pos_right _ (by omega)) hz
    have hk2 : k ≤ 1000000 := by
      have : 1 ≤ xs.length := by
        rcases Nat.eq_zero_or_pos xs.length with z | z
        · exact absurd (List.eq_nil_of_length_eq_zero z) hk.1
        · exact z
      have : k.toNat ≤ xs.length * k.toNat := Nat.le_mul_of_pos_left _ this
      omega
    cases rx
    obtain ⟨t, rfl⟩ := ry
    obtain ⟨its, r, ⟨⟨cls, dd, data, sl⟩, ho, hc, n, hd⟩, hs⟩ := I.tuple hT
    simp only at hc hd
    subst hc hd
    have hle : its.length = xs.length := r.length.symm
    have hi : its.toArray.isEmpty = false := by
      cases its with
      | nil => exact absurd (List.eq_nil_of_length_eq_zero hle.symm) hk.1
      | cons a b => rfl
    have ez : its.toArray.size = xs.length := by rw [List.size_toArray, hle]
    have hm : ((its.toArray.size : Nat) : Int) * k ≤ 1000000 := by
      rw [ez]
      obtain ⟨j, rfl⟩ := Int.eq_ofNat_of_zero_le (show 0 ≤ k by omega)
      have : ((xs.length : Int) * (j : Int)) = ((xs.length * j : Nat) : Int) := by rw [Int.natCast_mul]
      rw [this]
      have : (Int.toNat (j : Int)) = j := by omega
      rw [this] at hz
      omega
    have flen : (List.replicate k.toNat its).flatten.length ≤ 1000000 := by
      rw [PyProof.Rows.lm_len_rep_flat, hle, Nat.mul_comm]
      exact hz
    have c0 : (decide (k < -(2 ^ 63)) || decide (k ≥ 2 ^ 63)) = false := by
      rw [decide_eq_false (by omega), decide_eq_false (by omega)]
      rfl
    have c1 : (its.toArray.isEmpty || k == 1) = false := by
      rw [hi, Bool.false_or]
      exact beq_eq_false_iff_ne.mpr (by omega)
    have c2 : (decide (k ≤ 0) || its.toArray.isEmpty) = false := by
      rw [hi, Bool.or_false]
      exact decide_eq_false (by omega)
    have sl1 := sizeLine_eq
    have c4 : Builtin.Tuple.tupleTooMany (((its.toArray.size : Nat) : Int) * k) = false := decide_eq_false (by rw [sl1]; omega)
    refine wpAny_binaryOp_repeat_ref (T := "tuple") (U := "int") (by decide) ⟨_, ho, rfl⟩ (fun s' => typeIs_int s' k t) noFill_tuple_mul F.fills_int_mul F.slot_int_rmul repeat_tuple F.slot_int_index.lookup
      (call_meets F.slot_int_rmul (typeIs_int s k t) F.entry_int_rmul (F.args_int_rmul_2 _ _) (int_rmul_tuple k t l its.toArray n dd sl)
        ⟨ho, rfl, ⟨_, ho, rfl⟩, call_meets F.slot_tuple_mul ⟨_, ho, rfl⟩ F.entry_tuple_mul (F.args_tuple_mul_2 _ _) (tuple_mulW l its.toArray n dd sl k t c0 c1 c2 (by omega) c4 (by rw [size_rep, List.size_toArray, sl1]; omega)) ⟨ho, ?_⟩⟩)
    rw [size_rep]
    refine ⟨.ref s.heap.objs.size, _, I.laid (t' := s.toks) (o := .tup (List.replicate k.toNat xs).flatten) (fun b ob q => Heap.get?_push_of_some _ q) (Nat.le_refl _) ?_, rfl, q2 (fun z => z.elim hk.1 (by omega)) _ (I.hok.fresh (Nat.le_refl _))⟩
    exact ⟨by rw [PyProof.Rows.lm_len_rep_flat, Nat.mul_comm, sl1]; omega, _, r.rep k.toNat, IsTup.new _ _⟩
  · cases rx
    obtain ⟨t, rfl⟩ := ry
    obtain ⟨its, r, ⟨⟨cls, dd, data, sl⟩, ho, hc, n, hd⟩, hs⟩ := I.tuple hT
    simp only at hc hd
    subst hc hd
    have hle : its.length = xs.length := r.length.symm
    have c0 : (decide (k < -(2 ^ 63)) || decide (k ≥ 2 ^ 63)) = false := by
      rw [decide_eq_false (by omega), decide_eq_false (by omega)]
      rfl
    have hemp : its.toArray.isEmpty = true ↔ xs = [] := by
      cases its with
      | nil => exact ⟨fun _ => List.eq_nil_of_length_eq_zero hle.symm, fun _ => rfl⟩
      | cons a b =>
        refine ⟨fun z => (nomatch z), fun z => ?_⟩
        rw [z] at hle
        cases hle
    by_cases hs1 : xs = [] ∨ k = 1
    · have c1 : (its.toArray.isEmpty || k == 1) = true := by
        rw [Bool.or_eq_true]
        exact hs1.imp hemp.mpr beq_iff_eq.mpr
      exact wpAny_binaryOp_repeat_ref (T := "tuple") (U := "int") (by decide) ⟨_, ho, rfl⟩ (fun s' => typeIs_int s' k t) noFill_tuple_mul F.fills_int_mul F.slot_int_rmul repeat_tuple F.slot_int_index.lookup
        (call_meets F.slot_int_rmul (typeIs_int s k t) F.entry_int_rmul (F.args_int_rmul_2 _ _) (int_rmul_tuple k t l its.toArray n dd sl)
          ⟨ho, rfl, ⟨_, ho, rfl⟩, call_meets F.slot_tuple_mul ⟨_, ho, rfl⟩ F.entry_tuple_mul (F.args_tuple_mul_2 _ _) (mul_same l its.toArray n dd sl k t c0 c1) ⟨ho, .ref l, H, I, rfl, q1 hs1⟩⟩)
    · have hk0 : k ≤ 0 := by
        rcases Int.lt_or_le k 2 with z | z
        · rcases Int.lt_or_le k 1 with y | y
          · omega
          · exact absurd (Or.inr (show k = 1 by omega)) hs1
        · exact absurd ⟨fun y => hs1 (.inl y), z⟩ hk
      have c1 : (its.toArray.isEmpty || k == 1) = false := by
        rw [Bool.or_eq_false_iff]
        exact ⟨Bool.eq_false_iff.mpr fun z => hs1 (.inl (hemp.mp z)), beq_eq_false_iff_ne.mpr fun z => hs1 (.inr z)⟩
      have c2 : (decide (k ≤ 0) || its.toArray.isEmpty) = true := by rw [decide_eq_true hk0]; rfl
      have ek : k.toNat = 0 := by omega
      refine wpAny_binaryOp_repeat_ref (T := "tuple") (U := "int") (by decide) ⟨_, ho, rfl⟩ (fun s' => typeIs_int s' k t) noFill_tuple_mul F.fills_int_mul F.slot_int_rmul repeat_tuple F.slot_int_index.lookup
        (call_meets F.slot_int_rmul (typeIs_int s k t) F.entry_int_rmul (F.args_int_rmul_2 _ _) (int_rmul_tuple k t l its.toArray n dd sl)
          ⟨ho, rfl, ⟨_, ho, rfl⟩, call_meets F.slot_tuple_mul ⟨_, ho, rfl⟩ F.entry_tuple_mul (F.args_tuple_mul_2 _ _) (mul_nil l its.toArray n dd sl k t c0 c1 c2) ⟨ho, ?_⟩⟩)
      have q3 := q2 hs1
      rw [ek] at q3
      refine ⟨.ref s.heap.objs.size, _, I.laid (t' := s.toks) (o := .tup []) (fun b ob q => Heap.get?_push_of_some _ q) (Nat.le_refl _) ?_, rfl, q3 _ (I.hok.fresh (Nat.le_refl _))⟩
      exact ⟨Nat.zero_le _, [], .nil, IsTup.new _ _⟩
/-! ### list.extend(tuple) -/
theorem ext_tup (l : Addr) (items : Array Value) (n : Nat) (b : Addr) (items2 : Array Value) (n2 : Nat) (dd : Option Addr) (sl : Array (Option Value)) (hs0 : ¬(!items.isEmpty && Builtin.List.listTooLong (items.size + items2.size)) = true) (hs1 : items.size ≤ sizeLine) (hs2 : items.size + items2.size ≤ sizeLine + 1) :
    Meets (Builtin.«list.extend» ⟨[.ref l, .ref b], []⟩) (fun _ R s => s.heap.get? l = some { cls := .type "list", dict := none, data := .seq items n, slots := #[] } ∧ s.heap.get? b = some { cls := .type "tuple", dict := dd, data := .seq items2 n2, slots := sl } ∧
      R (.ok (.ret Value.none)) { s with heap := s.heap.update l (Obj.mapSeq fun x => x ++ items2), toks := s.toks }) :=
  .of_wp fun prog w A R s h => by
    obtain ⟨hp, g, d, tk, os⟩ := s
    obtain ⟨hl, hb, h⟩ := h
    have f1 := AutoSeq1.idx_int
    have f2 := AutoSeq1.sub_tuple_tuple
    have f3 := AutoSeq1.sub_list_list
    have f4 := AutoSeq1.sub_tuple_list
    have f5 := AutoSeq1.sub_list_tuple
    have hz' : (items ++ items2).size ≤ sizeLine + 1 := by
      rw [Array.size_append]
      exact hs2
    wp_walk using (wpAny_updateSeq hl rfl (hz := hs1) (_hz' := hz')), wpAny_loadPart' hl, wpAny_loadPart' hb
    exact ⟨_, rfl, h⟩
theorem mt_extT {X : Cx} : MtR X "list.extend" (fun x vs H Q => ∃ l b xs zs, x = .ref l ∧ vs = [.ref b] ∧ H l = some (.lst xs) ∧ SqT X.K H b zs ∧ xs.length + zs.length ≤ sizeLine ∧ Q .non (upd H l (.lst (xs ++ zs)))) := by
  intro pins s σ H x vs v us Q I rx rv h
  obtain ⟨l, b, xs, zs, rfl, rfl, hH, hB, hz, q⟩ := h
  cases rx
  obtain ⟨u, rfl, ru⟩ := rv.one
  cases ru
  obtain ⟨z, its, n, r, hl, e⟩ := I.lstM hH
  obtain ⟨its2, r2, ⟨⟨cls, dd, data, sl⟩, ho, hc, n2, hd⟩, hl2⟩ := I.tuple hB
  simp only at hc hd
  subst hc hd
  have e2 := r2.length
  have hsz : its.toArray.size + its2.toArray.size ≤ sizeLine := by
    rw [List.size_toArray, List.size_toArray]
    omega
  have hlong : ¬ (!its.toArray.isEmpty && Builtin.List.listTooLong (its.toArray.size + its2.toArray.size)) = true := by
    rw [notLongL hsz, Bool.and_false]
    exact Bool.false_ne_true
  refine call_meets F.slot_list_extend ⟨_, e, rfl⟩ F.entry_list_extend (F.args_list_extend_2 _ _) (ext_tup l its.toArray n b its2.toArray n2 dd sl hlong (by rw [List.size_toArray]; omega) (by omega)) ⟨e, ho, ?_⟩
  refine ⟨.non, _, I.lset (its' := its ++ its2) hH e (by simp) (r.append r2) ?_, rfl, q⟩
  rw [List.length_append]
  omega
/-! ### enumerate(tuple) -/
theorem enum_new {v : Value} {o : Obj} {H : Heap → Prop} (B : Begins v o H) :
    Meets (Builtin.«enumerate.__new__» ⟨[.type "enumerate", v], []⟩) (fun _ R s => H s.heap ∧
      R (.ok (.ret (.ref (s.heap.push o).objs.size))) { s with heap := (s.heap.push o).push { cls := .type "enumerate", data := .fields #[.none, .bool false, .ref s.heap.objs.size, rawInt 0, .none, .none] } }) :=
  .of_wp fun prog w A R s h => by
    obtain ⟨hp, g, d, tk, os⟩ := s
    obtain ⟨h1, h⟩ := h
    have hsub := sub_enumerate
    have q1 : ∀ {A' : Around} {E : Value → Shared → Prop} {Q : Value → Shared → Prop}, Q (.ref hp.objs.size) ⟨hp.push o, g, d, tk, os⟩ → wpAny (model prog w) A' (pyIter v) Q E ⟨hp, g, d, tk, os⟩ := fun q => B.iter prog w _ _ ⟨hp, g, d, tk, os⟩ _ h1 q
    wp_walk using q1
    refine wpAny_stack_any fun st => wpAny_pure ?_
    split
    · rename_i c _ _ _ _ _
      cases (c == Value.type "enumerate") <;> (wp_walk using q1; exact ⟨_, rfl, h⟩)
    · wp_walk using q1
      exact ⟨_, rfl, h⟩
theorem enum_call {prog : Program} {w : World} {A : Around} {E : Value → Shared → Prop} {s : Shared} {v : Value} {o : Obj} {H : Heap → Prop} {Q : Value → Shared → Prop} (B : Begins v o H) (h1 : H s.heap)
    (h : ∀ h', IsEnum h' (s.heap.objs.size + 1) s.heap.objs.size 0 .none → h'.get? s.heap.objs.size = some o → h'.objs.size = s.heap.objs.size + 2 →
      (∀ b o, s.heap.get? b = some o → h'.get? b = some o) → Q (.ref (s.heap.objs.size + 1)) { s with heap := h' }) :
    wpAny (model prog w) A (call (.type "enumerate") [v]) Q E s := by
  refine callType_new F.called_enumerate (by decide) (F.typeCall_enumerate_1 _) (F.newCall_enumerate_1 _) (fun obj => F.args_object_init_2 obj _) F.entry_enumerate_new (enum_new B) ⟨h1, ?_⟩
  have hz : (s.heap.push o).objs.size = s.heap.objs.size + 1 := Heap.size_push ..
  show _ ∧ _
  rw [hz]
  have he := Heap.get?_push_size (s.heap.push o) (o := { cls := .type "enumerate", data := .fields #[.none, .bool false, .ref s.heap.objs.size, rawInt 0, .none, .none] }) rfl
  rw [hz] at he
  exact ⟨⟨_, he, rfl⟩, h _ he (Heap.get?_push_of_some _ (Heap.get?_push_size _ B.free)) (by rw [Heap.size_push, hz]) fun b o x => Heap.get?_push_of_some _ (Heap.get?_push_of_some _ x)⟩
/-- the tuple at a, each item in a new pair with its place -/
def IteT (K : PySem.W.Frag) (a : Addr) : It :=
  ⟨fun i H => ∃ (xs : List V) (x : V), SqT K H a xs ∧ xs[i]? = some x, fun i H v H' => ∃ T x, v = .ref T ∧ H T = none ∧ H' = upd H T (.tup [.int (i : Nat), x]) ∧ ∀ xs, SqT K H a xs → xs[i]? = some x, fun i H => ∃ xs : List V, SqT K H a xs ∧ xs.length ≤ i⟩
theorem turn_enumT {P : Program} {w : World} {K : PySem.W.Frag} {elts : List Expr} {kk : Nat} {tpos : Pos} (a e it : Addr) (hia : a ≠ it) (hea : e ≠ a) :
    Turn P w K (.Tuple elts kk tpos) (IteT K a) [e, it] e (fun i h => (∃ old, IsEnum h e it ((i : Nat) : Int) old) ∧ h.IsTupleIter it a i ∧ e ≠ it) where
  mem := by simp
  obj := fun i h st b hb => by
    obtain ⟨⟨old, he⟩, ⟨o, ho, hc, hd⟩, _⟩ := st
    rcases (show b = e ∨ b = it by simpa using hb) with rfl | rfl
    · exact ⟨_, he, fun v q => nomatch q⟩
    · exact ⟨o, ho, fun v q => by rw [hd] at q; cases q⟩
  keep := fun i h h' st k => let ⟨⟨old, he⟩, hi, hne⟩ := st; ⟨⟨old, k e (by simp) _ he⟩, hi.at fun o q => k it (by simp) o q, hne⟩
  item := by
    intro X hP hw hK hc i pins s σ H E I hf st hg
    subst hP hw hK
    obtain ⟨⟨old, he⟩, hit, hne⟩ := st
    obtain ⟨xs, x, hq, hx⟩ := hg
    obtain ⟨its, rv, p, hz⟩ := I.tuple hq
    obtain ⟨u, hu, ru⟩ := rv.get hx
    have hel : e < s.heap.objs.size := Heap.lt_size he
    have hil : it < s.heap.objs.size := by obtain ⟨_, q, _⟩ := hit; exact Heap.lt_size q
    have D := Draws.tuple (prog := X.prog) (w := X.w) (A := X.A.in1) (show X.A.in1.handled = none from I.ok.hd hc) it a hia its.toArray
    have hil2 : i < its.toArray.size := by
      have := (List.getElem?_eq_some_iff.mp hu).1
      simpa using this
    refine wpAny_pyNext_enum_itemD D he ⟨hit, p⟩ hil2 hne (by simp [hne, hea]) fun y h' tk hy ho hit' hT hsz hk => ?_
    have ey : y = u := by
      have h2 : its.toArray[i]? = some u := by simpa using hu
      rw [h2] at hy
      exact (Option.some.inj hy).symm
    subst ey
    refine ⟨_, rfl, wpAny_letOwnedTupleGo_enum (s := { s with heap := h', toks := tk + 1 }) ho fun h'' he' sb => ?_⟩
    have hT2 : h''.get? s.heap.objs.size = some { cls := .type "tuple", data := .seq #[.int i tk, y] } := (sb.2 _ (Nat.ne_of_gt hel)).trans hT
    have new : ObjOk X.prog X.w (upd H s.heap.objs.size (.tup [.int (i : Nat), x])) h'' s.heap.objs.size (.tup [.int (i : Nat), x]) :=
      ⟨by show 2 ≤ sizeLine; decide, [.int i tk, y], .cons ⟨_, rfl⟩ (.cons ru .nil), ⟨_, hT2, rfl, _, rfl⟩⟩
    have I1 : Inv X pins σ (upd H s.heap.objs.size (.tup [.int (i : Nat), x])) { s with heap := h'', toks := tk + 1 } :=
      I.turnedNew (ch := [e, it]) (fun b ob hb q => (sb.2 b (fun z => hb (by simp [z]))).trans (hk b ob (fun z => hb (by simp [z])) (fun z => hb (by simp [z])) q)) hf (Nat.le_refl _) new
    refine ⟨.ref s.heap.objs.size, _, I1, rfl, ⟨_, x, rfl, I.hok.fresh (Nat.le_refl _), rfl, fun ys hy' => by rw [I.tuple_inj hy' hq]; exact hx⟩, ⟨⟨y, ?_⟩, hit'.1.at fun o q => (sb.2 it (Ne.symm hne)).trans q, hne⟩, fun b hb => ?_⟩
    · have e1 : ((i + 1 : Nat) : Int) = (i : Int) + 1 := by omega
      rw [e1]
      exact he'
    · have hb' : b < s.heap.objs.size := by
        rcases (show b = e ∨ b = it by simpa using hb) with rfl | rfl
        · exact hel
        · exact hil
      rw [upd_ne (Nat.ne_of_lt hb')]
      exact (hf b hb).1
  done := by
    intro X hP hw hK hc i pins s σ H E I hf st hg
    subst hP hw hK
    obtain ⟨⟨old, he⟩, hit, hne⟩ := st
    obtain ⟨xs, hq, hx⟩ := hg
    obtain ⟨its, rv, p, hz⟩ := I.tuple hq
    obtain ⟨f0, f1, f2, f3, f4, f5⟩ := hf it (by simp)
    have hl := rv.length
    have hT : s.TypeIs (.ref e) "enumerate" := ⟨_, he, rfl⟩
    unfold pyNext
    refine wpAny_bind (wpAny_attempt (wpAny_callSpecial?_slot (name := Str.ofString "__next__") hT F.slot_enumerate_next
      (wpAny_call_entry F.slot_enumerate_next hT F.entry_enumerate_next ?_ (F.args_enumerate_next_1 _))))
    show wpAny _ _ (field (.ref e) 2 >>= _) _ _ _
    refine wpAny_bind (wpAny_field he rfl (x := .ref it) rfl ?_)
    refine wpAny_bind (wpAny_nextOf_tuple_end (show X.A.in1.handled = none from I.ok.hd hc) hit p (by simp; omega) fun h' x he' hx' => ?_)
    obtain ⟨o, ho, hcl⟩ := hx'
    refine wpAny_bind (wpAny_isInstance (T := "StopIteration") (b := true) ⟨o, ho, hcl⟩ isSubtype_stop ?_)
    exact wpAny_pure ⟨rfl, I.turned (t' := s.toks) (fun b o hb q => he' b o hb q) f0 f1 f3 f4 f5⟩
  self := fun A i s Q E st h => let ⟨⟨_, he⟩, _⟩ := st; wpAny_pyIter_enum he h
def iEnuA (K : PySem.W.Frag) (ta : TA) : TI := fun σ H R => ta σ H fun vs H1 => ∃ a, vs = [.ref a] ∧ ((∃ xs, SqL K H1 a xs ∧ R (Ite K a) H1) ∨ ∃ xs, SqT K H1 a xs ∧ R (IteT K a) H1)
theorem pi_enuA {X : Cx} {e : Expr} {ta : TA} {p pos tpos : Pos} {elts : List Expr} {kk : Nat} (hg : Gl X "enumerate") (hm : X.mg "enumerate" = none) (ha : PA X [e] ta) (hs : starEach [e] X.env = [(false, eval e X.env)] := by rfl) :
    PI X (.Tuple elts kk tpos) (.Call (.Name "enumerate" p) [e] [] pos) (iEnuA X.K ta) := by
  refine ⟨fun pins s σ H R I h => ?_⟩
  refine Call_ (ld_blt I hg hm boot_enumerate (PyProof.Rows.callWith_type1 (thn (ha.run pos pins s σ H _ I h) fun us s1 ⟨vs, H1, I1, r1, q1⟩ => ?_) hs rfl))
  obtain ⟨a, rfl, q1⟩ := q1
  obtain ⟨u, rfl, ru⟩ := r1.one
  cases ru
  have fr : ∀ b ∈ [s1.heap.objs.size + 1, s1.heap.objs.size], FpOk X pins H1 b := fun b hb => by
    have hle : s1.heap.objs.size ≤ b := by
      rcases (show b = s1.heap.objs.size + 1 ∨ b = s1.heap.objs.size by simpa using hb) with z | z <;> omega
    exact I1.fpOk hle (I1.hok.fresh hle)
  rcases q1 with ⟨xs, hq, q⟩ | ⟨xs, hq, q⟩
  · obtain ⟨its, rv, p', hz⟩ := I1.list hq
    refine enum_call (begins_list a its.toArray) p'.isList fun h' he hit hsz hk => wpAny_pyIter_enum he ?_
    exact ⟨s1.heap.objs.size + 1, [s1.heap.objs.size + 1, s1.heap.objs.size], _, _, H1, rfl, I1.kept (t' := s1.toks) hk, turn_enum a (s1.heap.objs.size + 1) s1.heap.objs.size, ⟨⟨.none, he⟩, ⟨_, hit, rfl, rfl⟩, Nat.succ_ne_self _⟩, fr, q⟩
  · obtain ⟨its, rv, p', hz⟩ := I1.tuple hq
    have hlt : a < s1.heap.objs.size := p'.lt
    refine enum_call (begins_tuple a its.toArray) p' fun h' he hit hsz hk => wpAny_pyIter_enum he ?_
    exact ⟨s1.heap.objs.size + 1, [s1.heap.objs.size + 1, s1.heap.objs.size], _, _, H1, rfl, I1.kept (t' := s1.toks) hk, turn_enumT a (s1.heap.objs.size + 1) s1.heap.objs.size (Nat.ne_of_lt hlt) (Nat.ne_of_gt (Nat.lt_succ_of_lt hlt)), ⟨⟨.none, he⟩, ⟨_, hit, rfl, rfl⟩, Nat.succ_ne_self _⟩, fr, q⟩
/-! ### xs[::-1] of a list, a tuple -/
section
variable {prog : Program} {w : World} {A : Around} {E : Value → Shared → Prop} {s : Shared}
theorem fm_congr {α β : Type} {f g : α → Option β} : ∀ l : List α, (∀ x ∈ l, f x = g x) → l.filterMap f = l.filterMap g
  | [], _ => rfl
  | x :: l, h => by
    rw [List.filterMap_cons, List.filterMap_cons, h x (by simp), fm_congr l fun y hy => h y (by simp [hy])]
theorem pick_rev (xs : Array Value) : ((List.range xs.size).filterMap fun (k : Nat) => xs[(((xs.size : Int) - 1) + (k : Int) * (-1)).toNat]?).toArray = xs.toList.reverse.toArray := by
  have e : (List.range xs.size).filterMap (fun (k : Nat) => xs[(((xs.size : Int) - 1) + (k : Int) * (-1)).toNat]?) = ((List.range xs.size).map fun k => xs.size - 1 - k).filterMap (xs[·]?) := by
    rw [List.filterMap_map]
    refine fm_congr _ fun k hk => ?_
    have := List.mem_range.mp hk
    have e2 : (((xs.size : Int) - 1) + (k : Int) * (-1)).toNat = xs.size - 1 - k := by omega
    show _ = xs[xs.size - 1 - k]?
    rw [e2]
  rw [e, PySem.W.krv_range, List.filterMap_reverse, PySem.W.krv_all]
theorem applied_rev {sl : Addr} {u : Tok} {n : Nat} {Q : Int × Int × Nat → Shared → Prop} (hs : s.heap.IsSliceOf sl .none .none (.int (-1) u)) (h : Q ((n : Int) - 1, -1, n) s) : wpAny (model prog w) A (Builtin.Slice.sliceApplied (.ref sl) (pure (n : Int))) Q E s := by
  obtain ⟨os, hos, hcs, hds⟩ := id hs
  unfold Builtin.Slice.sliceApplied Builtin.Slice.sliceFields
  refine wpAny_bind (wpAny_bind (wpAny_field hos hds (x := .none) rfl (wpAny_bind (wpAny_field hos hds (x := .none) rfl (wpAny_bind (wpAny_field hos hds (x := .int (-1) u) rfl (wpAny_pure ?_)))))))
  refine wpAny_bind (slicePart_int ?_)
  show wpAny _ _ (if ((-1 : Int) == 0) = true then _ else _) _ _ s
  rw [if_neg (by decide)]
  refine wpAny_bind (slicePart_none (wpAny_bind (slicePart_none (wpAny_bind (wpAny_pure ?_)))))
  show wpAny _ _ (pure ((n : Int) - 1, (-1 : Int), Builtin.Slice.slicePlaces ((n : Int) - 1) (-1) (-1))) _ _ s
  have e : Builtin.Slice.slicePlaces ((n : Int) - 1) (-1) (-1) = n := by
    unfold Builtin.Slice.slicePlaces
    have h1 : ¬ ((-1 : Int) > 0) := by decide
    by_cases h : (n : Int) - 1 > -1
    · have e : ((n : Int) - 1 - -1 - 1) / (- -1) + 1 = (n : Int) := by
        rw [show (- -1 : Int) = 1 by decide, Int.ediv_one]
        omega
      simp only [h1, if_false, h, if_true, e, Int.toNat_natCast]
    · have e : n = 0 := by omega
      subst e
      simp
  rw [e]
  exact wpAny_pure h
theorem item_rev {t sl : Addr} {items : Array Value} {u : Tok} {Q : Value → Shared → Prop} (ht : IsTup s.heap t items) (hs : s.heap.IsSliceOf sl .none .none (.int (-1) u))
    (h : Q (.ref s.heap.objs.size) { s with heap := s.heap.push { cls := .type "tuple", data := .seq items.toList.reverse.toArray } }) (hsz : items.size ≤ sizeLine) : wpAny (model prog w) A (getItem (.ref t) (.ref sl)) Q E s := by
  have hz : sizeOk (.seq items.toList.reverse.toArray) := by
    show items.toList.reverse.toArray.size ≤ sizeLine
    rw [List.size_toArray, List.length_reverse, Array.length_toList]
    exact hsz
  obtain ⟨os, hos, hcs, hds⟩ := id hs
  have hTs : s.TypeIs (.ref sl) "slice" := ⟨os, hos, hcs⟩
  unfold getItem
  try with_reducible refine wpAny_holding ?_
  first | refine wpAny_bind (wpAny_pure ?_) | skip
  refine wpAny_bind (wpAny_sequenceKey ht.typeIs (by decide) ?_)
  refine wpAny_bind (wpAny_callSpecial?_slot (name := Str.ofString "__getitem__") ht.typeIs PyProof.Rows.slot_tuple_getitem
    (wpAny_call_entry PyProof.Rows.slot_tuple_getitem ht.typeIs entry_tuple_getitem ?_ (args_tuple_getitem _ _)))
  show wpAny _ _ (Builtin.Tuple.tupleItemsOf (.ref t) >>= _) _ _ s
  refine wpAny_bind (tupleItemsOf_ ht (wpAny_bind (wpAny_typeOf hTs ?_)))
  rw [if_pos (by decide)]
  refine wpAny_bind (applied_rev hs ?_)
  have hno : ¬ ((((items.size : Int) - 1) == 0 && (-1 : Int) == 1 && items.size == items.size) = true) := by
    rw [show ((-1 : Int) == 1) = false by decide, Bool.and_false, Bool.false_and]
    exact Bool.false_ne_true
  show wpAny _ _ (if (((items.size : Int) - 1) == 0 && (-1 : Int) == 1 && items.size == items.size) = true then _ else _) _ _ s
  rw [if_neg hno, pick_rev]
  first
    | exact wpAny_bind (m := Builtin.Tuple.tupleExact _) (wpAny_newObj_type (wpAny_pure ⟨_, rfl, wpAny_pure h⟩) hz)
    | exact wpAny_bind (m := Builtin.Tuple.tupleExact _) (wpAny_newObj_type (wpAny_bind (wpAny_pure (wpAny_pure ⟨_, rfl, wpAny_pure h⟩))) hz)
    | exact wpAny_bind (wpAny_bind (m := Builtin.Tuple.tupleExact _) (wpAny_newObj_type (wpAny_pure (wpAny_pure ⟨_, rfl, wpAny_pure h⟩)) hz))
    | exact wpAny_bind (wpAny_bind (m := Builtin.Tuple.tupleExact _) (wpAny_newObj_type (wpAny_pure ⟨_, rfl, wpAny_pure h⟩) hz))
end
def tRevA (K : PySem.W.Frag) (te : TE) : TE := fun σ H Q => te σ H fun x H1 => ∃ a xs, x = .ref a ∧ ((SqL K H1 a xs ∧ ∀ p, H1 p = none → Q (.ref p) (upd H1 p (.lst xs.reverse))) ∨ (SqT K H1 a xs ∧ ∀ p, H1 p = none → Q (.ref p) (upd H1 p (.tup xs.reverse))))
theorem pe_revA {X : Cx} {e : Expr} {te : TE} {k : Nat} {p1 p2 p3 pos : Pos} (he : PE X e te) : PE X (.Subscript e (.Slice none none (some (.UnaryOp .USub (.Constant (.int 1) k p1) p2)) p3) pos) (tRevA X.K te) := by
  refine ⟨fun pins s σ H Q I h => ?_⟩
  refine Subscript_ (thn (he.run pins s σ H _ I h) fun v s1 ⟨x, H1, I1, r1, a, xs, ex, hx⟩ => ?_)
  subst ex
  cases r1
  have hst : PO X (some (.UnaryOp .USub (.Constant (.int 1) k p1) p2)) (tPart (tUn (rU fun i => .int (-i)) (tC (.int 1)))) := po_some (pe_un un_neg pe_int)
  refine wpAny_Slice (thn (po_none.run pins s1 σ H1 (fun o H2 => o = none ∧ H2 = H1) I1 ⟨rfl, rfl⟩) fun vl s2 ⟨l, H2, I2, pl, el, e2⟩ => ?_)
  subst el e2
  refine thn (po_none.run pins s2 σ H2 (fun o H3 => o = none ∧ H3 = H2) I2 ⟨rfl, rfl⟩) fun vu s3 ⟨u, H3, I3, pu, eu, e3⟩ => ?_
  subst eu e3
  refine thn (hst.run pins s3 σ H3 (fun o H4 => o = some (-1) ∧ H4 = H3) I3 ⟨1, rfl, -1, rfl, rfl, rfl⟩) fun vs s4 ⟨o, H4, I4, ps, eo, e4⟩ => ?_
  subst eo e4
  have I5 : Inv X pins σ H4 { s4 with heap := s4.heap.push { cls := .type "slice", data := .fields #[vl, vu, vs] } } := I4.kept (t' := s4.toks) fun b ob q => Heap.get?_push_of_some _ q
  show wpAny (model X.prog X.w) X.A (subscriptTail e (.Slice none none (some (.UnaryOp .USub (.Constant (.int 1) k p1) p2)) p3) (.ref a) (.ref s4.heap.objs.size)) (EP X pins σ Q) X.xe { s4 with heap := s4.heap.push { cls := .type "slice", data := .fields #[vl, vu, vs] } }
  rcases hx with ⟨hx, q⟩ | ⟨hx, q⟩
  · obtain ⟨its, r, ht, hz⟩ := I5.list hx
    have hlen := r.length
    refine tail_any (ops := [.ref a, .ref s4.heap.objs.size]) ht.isList.typeIs (PySem.slot_list_getitem.lookup) ?_ (by with_unfolding_all rfl)
    refine wpAny_getItem_list_slice ht.isList (Heap.IsSliceOf.new _ vl vu vs) pl pu ps (by decide) ?_ (by rw [List.size_toArray]; omega)
    rw [PySem.W.krv_pick]
    refine ⟨.ref _, _, I5.laid (t' := s4.toks) (o := .lst xs.reverse) (fun b ob q => Heap.get?_push_of_some _ q) (Nat.le_refl _) ?_, rfl, q _ (I5.hok.fresh (Nat.le_refl _))⟩
    exact ⟨by rw [List.length_reverse]; exact hz, _, 0, r.reverse, Heap.get?_push_size _ rfl⟩
  · obtain ⟨its, r, ht, hz⟩ := I5.tuple hx
    have hlen := r.length
    cases pl
    cases pu
    cases ps with
    | int i t =>
      refine tail_any (ops := [.ref a, .ref s4.heap.objs.size]) ht.typeIs (PyProof.Rows.slot_tuple_getitem.lookup) ?_ (by with_unfolding_all rfl)
      refine item_rev ht (Heap.IsSliceOf.new _ .none .none (.int (-1) t)) ?_ (by rw [List.size_toArray]; omega)
      refine ⟨.ref _, _, I5.laid (t' := s4.toks) (o := .tup xs.reverse) (fun b ob q => Heap.get?_push_of_some _ q) (Nat.le_refl _) ?_, rfl, q _ (I5.hok.fresh (Nat.le_refl _))⟩
      exact ⟨by rw [List.length_reverse]; exact hz, _, r.reverse, IsTup.new _ _⟩
/-! ### t <= u -/
theorem lexAt_shift {e r : Nat → Bool} {z : Bool} : ∀ (k i : Nat), Ob.lexAt e r z (i + 1) k = Ob.lexAt (fun j => e (j + 1)) (fun j => r (j + 1)) z i k
  | 0, i => rfl
  | k + 1, i => by
    rw [Ob.lexAt_succ, Ob.lexAt_succ, lexAt_shift k (i + 1)]
theorem lexAt_le : ∀ ns ms : List Int, Ob.lexAt (fun j => decide (ns.getD j 0 = ms.getD j 0)) (fun j => decide (ns.getD j 0 ≤ ms.getD j 0)) (decide (ns.length ≤ ms.length)) 0 (min ns.length ms.length) = !HT.lexLt ms ns
  | [], [] => rfl
  | [], m :: ms => by
    rw [HT.lexLt_cons_nil]
    simp [Ob.lexAt_zero]
  | n :: ns, [] => by
    rw [HT.lexLt_nil_cons]
    simp [Ob.lexAt_zero]
  | n :: ns, m :: ms => by
    have ih := lexAt_le ns ms
    rw [show min (n :: ns).length (m :: ms).length = min ns.length ms.length + 1 by simp only [List.length_cons]; omega, Ob.lexAt_succ, lexAt_shift, HT.lexLt_cons]
    simp only [List.getD_cons_zero, List.getD_cons_succ, List.length_cons, Nat.add_le_add_iff_right]
    by_cases h : n = m
    · subst h
      simpa using ih
    · have h' : ¬ m = n := fun z => h z.symm
      simp only [h, h', decide_false, Bool.false_eq_true, if_false]
      by_cases q : n ≤ m
      · simp only [q, decide_true]
        have : ¬ m < n := by omega
        simp [this]
      · simp only [q, decide_false]
        have : m < n := by omega
        simp [this]
/-! ### a tuple beside () -/
theorem op_eqE {X : Cx} (hu : X.A.units < cLine) : OpR X (compareOp .Eq) (fun x y H Q => ∃ a b xs, x = .ref a ∧ y = .ref b ∧ SqT X.K H a xs ∧ SqT X.K H b [] ∧ Q (.bl (xs.isEmpty)) H) := by
  intro pins s σ H x y v u Q I rx ry h
  obtain ⟨a, b, xs, rfl, rfl, ha, hb, q⟩ := h
  cases rx
  cases ry
  obtain ⟨its, r1, p1, _⟩ := I.tuple ha
  obtain ⟨its2, r2, p2, _⟩ := I.tuple hb
  cases r2
  refine SeqAt.RcAt.tuples (e := fun _ => true) p1 p2 hu (fun j _ h2 => absurd h2 (by simp)) X.prog X.w X.xe _ ⟨.bl _, H, I, ?_, q⟩
  cases r1 <;> rfl
theorem op_neE {X : Cx} (hu : X.A.units < cLine) : OpR X (compareOp .NotEq) (fun x y H Q => ∃ a b xs, x = .ref a ∧ y = .ref b ∧ SqT X.K H a xs ∧ SqT X.K H b [] ∧ Q (.bl (!xs.isEmpty)) H) := by
  intro pins s σ H x y v u Q I rx ry h
  obtain ⟨a, b, xs, rfl, rfl, ha, hb, q⟩ := h
  cases rx
  cases ry
  obtain ⟨its, r1, p1, _⟩ := I.tuple ha
  obtain ⟨its2, r2, p2, _⟩ := I.tuple hb
  cases r2
  refine SeqAt.RcNeAt.tuples (e := fun _ => true) p1 p2 hu (fun j _ h2 => absurd h2 (by simp)) X.prog X.w X.xe _ ⟨.bl _, H, I, ?_, q⟩
  cases r1 <;> rfl
end DL
/-! DL: the operators, subscripts, slices, built-ins over plain data. -/
namespace DL
open PySem PySem.Spec PyProof.Rows L2

/-! ### data -/
mutual
inductive PD (m : MH) : D → PyData → Prop
  | non : PD m .non .none
  | bl (b : Bool) : PD m (.bl b) (.bool b)
  | int (i : Int) : PD m (.int i) (.int i)
  | str (x : Str) : PD m (.str x) (.str x)
  | tup {l : List D} {ps : List PyData} : PDs m l ps → PD m (.tup l) (.tuple ps)
  | rol {l : List D} {ps : List PyData} : PDs m l ps → PD m (.rol l) (.list ps)
  | lst {a : Addr} {l : List D} {ps : List PyData} : m a = some (.lst l) → PDs m l ps → PD m (.ref a) (.list ps)
inductive PDs (m : MH) : List D → List PyData → Prop
  | nil : PDs m [] []
  | cons {d : D} {p : PyData} {l : List D} {ps : List PyData} : PD m d p → PDs m l ps → PDs m (d :: l) (p :: ps)
end
section
variable {K : Frag} {m : MH} {H : Hp}
mutual
theorem PD.dp (rm : RM K m H) : ∀ {d : D} {p : PyData} {v : V}, PD m d p → RD K H d v → Dp K H v p
  | _, _, _, .non, .non => .non
  | _, _, _, .bl b, .bl _ => .bl b
  | _, _, _, .int i, .int _ => .int i
  | _, _, _, .str x, .str _ => .str x
  | _, _, _, .tup h, .tup s r => .tup (sqt s) (PDs.dp rm h r)
  | _, _, _, .rol h, .rol s r => .lst s.l (PDs.dp rm h r)
  | _, _, _, .lst e h, .ref _ => by
    obtain ⟨xs, hx, rx⟩ := rm _ _ e
    exact .lst (SqL.of hx) (PDs.dp rm h rx)
theorem PDs.dp (rm : RM K m H) : ∀ {d : List D} {p : List PyData} {v : List V}, PDs m d p → RDs K H d v → DpAll K H v p
  | _, _, _, .nil, .nil => .nil
  | _, _, _, .cons a b, .cons r s => .cons (PD.dp rm a r) (PDs.dp rm b s)
end
end
mutual
/-- what has no address in it -/
def pure : D → Bool
  | .ref _ => false
  | .tup l => pures l
  | .rol l => pures l
  | .non => true
  | .bl _ => true
  | .int _ => true
  | .str _ => true
def pures : List D → Bool
  | [] => true
  | d :: l => pure d && pures l
end
mutual
def pp : D → PyData
  | .ref _ => .none
  | .tup l => .tuple (pps l)
  | .rol l => .list (pps l)
  | .non => .none
  | .bl b => .bool b
  | .int i => .int i
  | .str x => .str x
def pps : List D → List PyData
  | [] => []
  | d :: l => pp d :: pps l
end
mutual
theorem PD.of (m : MH) : ∀ (d : D), pure d = true → PD m d (pp d)
  | .non, _ => by rw [pp]; exact .non
  | .bl b, _ => by rw [pp]; exact .bl b
  | .int i, _ => by rw [pp]; exact .int i
  | .str x, _ => by rw [pp]; exact .str x
  | .tup l, h => by
    rw [pp]
    exact .tup (PDs.of m l (by rw [pure] at h; exact h))
  | .rol l, h => by
    rw [pp]
    exact .rol (PDs.of m l (by rw [pure] at h; exact h))
  | .ref a, h => by rw [pure] at h; cases h
theorem PDs.of (m : MH) : ∀ (l : List D), pures l = true → PDs m l (pps l)
  | [], _ => by rw [pps]; exact .nil
  | d :: l, h => by
    rw [pures, Bool.and_eq_true] at h
    rw [pps]
    exact .cons (PD.of m d h.1) (PDs.of m l h.2)
end
/-- a tuple of whole numbers -/
def tInts (l : List Int) : D := .tup (l.map .int)

/-! ### operators -/
section
variable {X : Cx}
/-- by one rule -/
theorem opj {f : Value → Value → Sem Value} {rv : R2} {r : DOp} (h : OpR X f rv) (i : ∀ H m x y xv yv Q Q', RM X.K m H → RD X.K H x xv → RD X.K H y yv → r x y m Q → KE X.K H Q Q' → rv xv yv H Q') : OpJ X f r := ⟨rv, h, i⟩
def aAdd : DOp
  | .int i, .int j, m, Q => Q (.int (i + j)) m
  | .str a, .str b, m, Q => a.length + b.length ≤ sizeLine ∧ Q (.str (a ++ b)) m
  | .tup a, .tup b, m, Q => a.length + b.length ≤ sizeLine ∧ Q (.tup (a ++ b)) m
  | .ref p, .ref q, m, Q => ∃ a b, m p = some (.lst a) ∧ m q = some (.lst b) ∧ a.length + b.length ≤ sizeLine ∧ aNew (.lst (a ++ b)) m Q
  | _, _, _, _ => False
theorem oj_add : OpJ X (binaryOp .Add) aAdd := by
  refine opj (OpR.or op_add (OpR.or op_add_str (OpR.or op_catA op_cat))) ?_
  intro H m x y xv yv Q Q' rm rx ry h k
  cases rx <;> cases ry <;> try exact h.elim
  · exact .inl ⟨_, _, rfl, rfl, k _ _ _ _ (Ext.refl H) rm (.int _) h⟩
  · exact .inr (.inl ⟨_, _, rfl, rfl, h.1, k _ _ _ _ (Ext.refl H) rm (.str _) h.2⟩)
  · rename_i l a xs s1 r1 l2 a2 xs2 s2 r2
    have e : xs.length + xs2.length ≤ sizeLine := by rw [← r1.length, ← r2.length]; exact h.1
    refine .inr (.inr (.inl ⟨a, a2, xs, xs2, rfl, rfl, sqt s1, sqt s2, e, fun z => ?_, fun _ z => ?_, fun _ _ p hp => ?_⟩))
    · subst z
      cases r1
      exact k _ _ _ _ (Ext.refl H) rm (.tup s2 r2) h.2
    · subst z
      cases r2
      have h2 := h.2
      rw [List.append_nil] at h2
      exact k _ _ _ _ (Ext.refl H) rm (.tup s1 r1) h2
    · exact k _ _ _ _ (Ext.fresh hp) (rm.more hp) (.tup (.inl upd_same) ((r1.app r2).ext (Ext.fresh hp))) h.2
  · obtain ⟨a, b, h1, h2, hz, q⟩ := h
    obtain ⟨xs, e1, r1⟩ := rm _ _ h1
    obtain ⟨ys, e2, r2⟩ := rm _ _ h2
    refine .inr (.inr (.inr ⟨_, _, xs, ys, rfl, rfl, e1, e2, by rw [← r1.length, ← r2.length]; exact hz, fun p hp => ?_⟩))
    exact k _ _ _ _ (Ext.fresh hp) (rm.upd (o := .lst (a ++ b)) (Ext.fresh hp) ⟨_, upd_same, (r1.app r2).ext (Ext.fresh hp)⟩) (.ref p) (q p (rm.none hp))
def aSub : DOp
  | .int i, .int j, m, Q => Q (.int (i - j)) m
  | _, _, _, _ => False
theorem oj_sub : OpJ X (binaryOp .Sub) aSub := by
  refine opj op_sub ?_
  intro H m x y xv yv Q Q' rm rx ry h k
  cases rx <;> cases ry <;> try exact h.elim
  exact ⟨_, _, rfl, rfl, k _ _ _ _ (Ext.refl H) rm (.int _) h⟩
def aMul : DOp
  | .int i, .int j, m, Q => (CMul i j ∨ CMulW i j) ∧ Q (.int (i * j)) m
  | .tup l, .int k, m, Q => (-(2 ^ 62) ≤ k ∧ k < 2 ^ 62) ∧ l.length * k.toNat ≤ 1000000 ∧ Q (.tup (List.replicate k.toNat l).flatten) m
  | .ref p, .int k, m, Q => ∃ l, m p = some (.lst l) ∧ -(2 ^ 63) ≤ k ∧ k < 2 ^ 63 ∧ l.length * k.toNat ≤ sizeLine ∧ aNew (.lst (List.replicate k.toNat l).flatten) m Q
  | _, _, _, _ => False
theorem oj_mul : OpJ X (binaryOp .Mult) aMul := by
  refine opj (OpR.or (OpR.or op_mul op_mulW) (OpR.or op_mulT op_rep)) ?_
  intro H m x y xv yv Q Q' rm rx ry h k
  cases rx <;> cases ry <;> try exact h.elim
  · rcases h.1 with z | z
    · exact .inl (.inl ⟨_, _, rfl, rfl, z, k _ _ _ _ (Ext.refl H) rm (.int _) h.2⟩)
    · exact .inl (.inr ⟨_, _, rfl, rfl, z, k _ _ _ _ (Ext.refl H) rm (.int _) h.2⟩)
  · rename_i l a xs s1 r1 i
    obtain ⟨⟨h0, h1⟩, h3, q⟩ := h
    refine .inr (.inl ⟨a, i, xs, rfl, rfl, sqt s1, h0, h1, by rw [← r1.length]; exact h3, fun z => ?_, fun z p hp => ?_⟩)
    · have e : (List.replicate i.toNat l).flatten = l := by
        rcases z with z | z
        · subst z
          cases r1
          simp
        · subst z
          simp
      rw [e] at q
      exact k _ _ _ _ (Ext.refl H) rm (.tup s1 r1) q
    · exact k _ _ _ _ (Ext.fresh hp) (rm.more hp) (.tup (.inl upd_same) ((r1.rep _).ext (Ext.fresh hp))) q
  · obtain ⟨l, h1, h2, h3, h4, q⟩ := h
    obtain ⟨xs, e1, r1⟩ := rm _ _ h1
    refine .inr (.inr ⟨_, _, xs, rfl, rfl, e1, h2, h3, by rw [← r1.length]; exact h4, fun p hp => ?_⟩)
    exact k _ _ _ _ (Ext.fresh hp) (rm.upd (o := .lst _) (Ext.fresh hp) ⟨_, upd_same, (r1.rep _).ext (Ext.fresh hp)⟩) (.ref p) (q p (rm.none hp))
def aDiv : DOp
  | .int i, .int j, m, Q => (CDivN i j ∧ Q (.int (i.fdiv j)) m) ∨ (CDivW i j ∧ Q (.int (i / j)) m)
  | _, _, _, _ => False
theorem oj_div : OpJ X (binaryOp .FloorDiv) aDiv := by
  refine opj (OpR.or op_fdivN op_fdivW) ?_
  intro H m x y xv yv Q Q' rm rx ry h k
  cases rx <;> cases ry <;> try exact h.elim
  rcases h with h | h
  · exact .inl ⟨_, _, rfl, rfl, h.1, k _ _ _ _ (Ext.refl H) rm (.int _) h.2⟩
  · exact .inr ⟨_, _, rfl, rfl, h.1, k _ _ _ _ (Ext.refl H) rm (.int _) h.2⟩
def aMod : DOp
  | .int i, .int j, m, Q => j ≠ 0 ∧ Q (.int (i.fmod j)) m
  | _, _, _, _ => False
theorem oj_mod : OpJ X (binaryOp .Mod) aMod := by
  refine opj op_modN ?_
  intro H m x y xv yv Q Q' rm rx ry h k
  cases rx <;> cases ry <;> try exact h.elim
  exact ⟨_, _, rfl, rfl, h.1, k _ _ _ _ (Ext.refl H) rm (.int _) h.2⟩
def aPow : DOp
  | .int i, .int j, m, Q => CPow i j ∧ Q (.int (i ^ j.toNat)) m
  | _, _, _, _ => False
theorem oj_pow : OpJ X (binaryOp .Pow) aPow := by
  refine opj op_pow ?_
  intro H m x y xv yv Q Q' rm rx ry h k
  cases rx <;> cases ry <;> try exact h.elim
  exact ⟨_, _, rfl, rfl, h.1, k _ _ _ _ (Ext.refl H) rm (.int _) h.2⟩

/-! ### comparisons -/
/-- == : texts; any data -/
def aEq : DOp := fun x y m Q => (∃ a b, x = .str a ∧ y = .str b ∧ Q (.bl (decide (a = b))) m) ∨ (∃ p q, PD m x p ∧ PD m y q ∧ SeqAt.shaped p = true ∧ SeqAt.shaped q = true ∧ Q (.bl (PyData.eqv p q)) m) ∨ ∃ l, x = .tup l ∧ y = .tup [] ∧ Q (.bl l.isEmpty) m
def aNe : DOp := fun x y m Q => (∃ a b, x = .str a ∧ y = .str b ∧ Q (.bl (!decide (a = b))) m) ∨ (∃ p q, PD m x p ∧ PD m y q ∧ SeqAt.shaped p = true ∧ SeqAt.shaped q = true ∧ Q (.bl (!PyData.eqv p q)) m) ∨ ∃ l, x = .tup l ∧ y = .tup [] ∧ Q (.bl (!l.isEmpty)) m
theorem dec_strV (a b : Str) : decide (V.str a = V.str b) = decide (a = b) := by
  by_cases h : a = b
  · subst h; simp
  · rw [decide_eq_false h, decide_eq_false (fun e => h (V.str.inj e))]
theorem rds_emp {K : Frag} {H : Hp} {l : List D} {xs : List V} (r : RDs K H l xs) : xs.isEmpty = l.isEmpty := by
  cases r <;> rfl
theorem oj_eq {k : Nat} (hr : Room k X.A) : OpJ X (compareOp .Eq) aEq := by
  refine opj (OpR.or op_eq (OpR.or (op_eqD hr.units) (op_eqE hr.units0))) ?_
  intro H m x y xv yv Q Q' rm rx ry h k
  rcases h with ⟨a, b, rfl, rfl, h⟩ | ⟨p, q, h1, h2, h3, h4, h5⟩ | ⟨l, rfl, rfl, h⟩
  · cases rx
    cases ry
    exact .inl ⟨rfl, by rw [dec_strV]; exact k _ _ _ _ (Ext.refl H) rm (.bl _) h⟩
  · exact .inr (.inl ⟨p, q, h1.dp rm rx, h2.dp rm ry, h3, h4, k _ _ _ _ (Ext.refl H) rm (.bl _) h5⟩)
  · cases rx with
    | tup s1 r1 =>
      cases ry with
      | tup s2 r2 =>
        have e := rds_emp r1
        cases r2
        exact .inr (.inr ⟨_, _, _, rfl, rfl, sqt s1, sqt s2, by rw [e]; exact k _ _ _ _ (Ext.refl H) rm (.bl _) h⟩)
theorem oj_ne {k : Nat} (hr : Room k X.A) : OpJ X (compareOp .NotEq) aNe := by
  refine opj (OpR.or op_ne (OpR.or (op_neD hr.units) (op_neE hr.units0))) ?_
  intro H m x y xv yv Q Q' rm rx ry h k
  rcases h with ⟨a, b, rfl, rfl, h⟩ | ⟨p, q, h1, h2, h3, h4, h5⟩ | ⟨l, rfl, rfl, h⟩
  · cases rx
    cases ry
    exact .inl ⟨rfl, by rw [dec_strV]; exact k _ _ _ _ (Ext.refl H) rm (.bl _) h⟩
  · exact .inr (.inl ⟨p, q, h1.dp rm rx, h2.dp rm ry, h3, h4, k _ _ _ _ (Ext.refl H) rm (.bl _) h5⟩)
  · cases rx with
    | tup s1 r1 =>
      cases ry with
      | tup s2 r2 =>
        have e := rds_emp r1
        cases r2
        exact .inr (.inr ⟨_, _, _, rfl, rfl, sqt s1, sqt s2, by rw [e]; exact k _ _ _ _ (Ext.refl H) rm (.bl _) h⟩)
theorem rds_ints {K : Frag} {H : Hp} : ∀ {ns : List Int} {xs : List V}, RDs K H (ns.map .int) xs → xs = ns.map V.int
  | [], _, .nil => rfl
  | n :: ns, _, .cons (.int _) t => by rw [List.map_cons, rds_ints t]
theorem rds_of_ints {K : Frag} {H : Hp} : ∀ (ns : List Int), RDs K H (ns.map .int) (ns.map V.int)
  | [] => .nil
  | n :: ns => .cons (.int n) (rds_of_ints ns)
/-- an order of data that is alike -/
def cmpD (f : PyData → PyData → Bool) (x y : D) (m : MH) (Q : DK) : Prop := ∃ p q, PD m x p ∧ PD m y q ∧ PySem.W.alike p q = true ∧ p ≠ .none ∧ p.depth ≤ 40 ∧ Q (.bl (f p q)) m
def rCmp (K : PySem.W.Frag) (f : PyData → PyData → Bool) : R2 := fun x y H Q => ∃ p q, Dp K H x p ∧ Dp K H y q ∧ PySem.W.alike p q = true ∧ p ≠ .none ∧ p.depth ≤ 40 ∧ Q (.bl (f p q)) H
theorem cmp_of {K : PySem.W.Frag} {f : PyData → PyData → Bool} {H : Hp} {m : MH} {x y : D} {xv yv : V} {Q : DK} {Q' : VK} (rm : RM K m H) (rx : RD K H x xv) (ry : RD K H y yv) (h : cmpD f x y m Q) (k : KE K H Q Q') : rCmp K f xv yv H Q' := by
  obtain ⟨p, q, h1, h2, h3, h4, h5, h6⟩ := h
  exact ⟨p, q, h1.dp rm rx, h2.dp rm ry, h3, h4, h5, k _ _ _ _ (Ext.refl H) rm (.bl _) h6⟩
theorem room40 {k : Nat} {p q : PyData} (hr : Room k X.A) (h : p.depth ≤ 40) : X.A.units + min p.depth q.depth < cLine := by
  have := hr.units
  have := Nat.min_le_left p.depth q.depth
  omega
theorem op_ltD {k : Nat} (hr : Room k X.A) : OpR X (compareOp .Lt) (rCmp X.K PySem.W.dataLt) := by
  intro pins s σ H x y v u Q I rx ry h
  obtain ⟨p, q, h1, h2, h3, h4, h5, h6⟩ := h
  obtain ⟨as, r1⟩ := Dp.reads I p x v h1 rx
  obtain ⟨bs, r2⟩ := Dp.reads I q y u h2 ry
  exact PySem.W.lt_data r1 r2 h3 h4 (room40 hr h5) ⟨.bl _, H, I, rfl, h6⟩
theorem op_gtD {k : Nat} (hr : Room k X.A) : OpR X (compareOp .Gt) (rCmp X.K fun p q => PySem.W.dataLt q p) := by
  intro pins s σ H x y v u Q I rx ry h
  obtain ⟨p, q, h1, h2, h3, h4, h5, h6⟩ := h
  obtain ⟨as, r1⟩ := Dp.reads I p x v h1 rx
  obtain ⟨bs, r2⟩ := Dp.reads I q y u h2 ry
  exact PySem.W.gt_data r1 r2 h3 h4 (room40 hr h5) ⟨.bl _, H, I, rfl, h6⟩
theorem op_leD {k : Nat} (hr : Room k X.A) : OpR X (compareOp .LtE) (rCmp X.K fun p q => !PySem.W.dataLt q p) := by
  intro pins s σ H x y v u Q I rx ry h
  obtain ⟨p, q, h1, h2, h3, h4, h5, h6⟩ := h
  obtain ⟨as, r1⟩ := Dp.reads I p x v h1 rx
  obtain ⟨bs, r2⟩ := Dp.reads I q y u h2 ry
  exact PySem.W.le_data r1 r2 h3 h4 (room40 hr h5) ⟨.bl _, H, I, rfl, h6⟩
theorem op_geD {k : Nat} (hr : Room k X.A) : OpR X (compareOp .GtE) (rCmp X.K fun p q => !PySem.W.dataLt p q) := by
  intro pins s σ H x y v u Q I rx ry h
  obtain ⟨p, q, h1, h2, h3, h4, h5, h6⟩ := h
  obtain ⟨as, r1⟩ := Dp.reads I p x v h1 rx
  obtain ⟨bs, r2⟩ := Dp.reads I q y u h2 ry
  exact PySem.W.ge_data r1 r2 h3 h4 (room40 hr h5) ⟨.bl _, H, I, rfl, h6⟩
/-- < : whole numbers, tuples of data that are alike -/
def aLt : DOp
  | .int i, .int j, m, Q => Q (.bl (decide (i < j))) m
  | .tup a, .tup b, m, Q => cmpD PySem.W.dataLt (.tup a) (.tup b) m Q
  | _, _, _, _ => False
def aGt : DOp
  | .int i, .int j, m, Q => Q (.bl (decide (j < i))) m
  | .tup a, .tup b, m, Q => cmpD (fun p q => PySem.W.dataLt q p) (.tup a) (.tup b) m Q
  | _, _, _, _ => False
def aLe : DOp
  | .int i, .int j, m, Q => Q (.bl (decide (i ≤ j))) m
  | .tup a, .tup b, m, Q => cmpD (fun p q => !PySem.W.dataLt q p) (.tup a) (.tup b) m Q
  | _, _, _, _ => False
def aGe : DOp
  | .int i, .int j, m, Q => Q (.bl (decide (j ≤ i))) m
  | .tup a, .tup b, m, Q => cmpD (fun p q => !PySem.W.dataLt p q) (.tup a) (.tup b) m Q
  | _, _, _, _ => False
theorem oj_lt {k : Nat} (hr : Room k X.A) : OpJ X (compareOp .Lt) aLt := by
  refine opj (OpR.or op_lt (op_ltD hr)) ?_
  intro H m x y xv yv Q Q' rm rx ry h k
  cases rx <;> cases ry <;> try exact h.elim
  · exact .inl ⟨_, _, rfl, rfl, k _ _ _ _ (Ext.refl H) rm (.bl _) h⟩
  · rename_i s1 r1 _ _ _ s2 r2
    exact .inr (cmp_of rm (.tup s1 r1) (.tup s2 r2) h k)
theorem oj_gt {k : Nat} (hr : Room k X.A) : OpJ X (compareOp .Gt) aGt := by
  refine opj (OpR.or op_gt (op_gtD hr)) ?_
  intro H m x y xv yv Q Q' rm rx ry h k
  cases rx <;> cases ry <;> try exact h.elim
  · exact .inl ⟨_, _, rfl, rfl, k _ _ _ _ (Ext.refl H) rm (.bl _) h⟩
  · rename_i s1 r1 _ _ _ s2 r2
    exact .inr (cmp_of rm (.tup s1 r1) (.tup s2 r2) h k)
theorem oj_le {k : Nat} (hr : Room k X.A) : OpJ X (compareOp .LtE) aLe := by
  refine opj (OpR.or op_le (op_leD hr)) ?_
  intro H m x y xv yv Q Q' rm rx ry h k
  cases rx <;> cases ry <;> try exact h.elim
  · exact .inl ⟨_, _, rfl, rfl, k _ _ _ _ (Ext.refl H) rm (.bl _) h⟩
  · rename_i s1 r1 _ _ _ s2 r2
    exact .inr (cmp_of rm (.tup s1 r1) (.tup s2 r2) h k)
theorem oj_ge {k : Nat} (hr : Room k X.A) : OpJ X (compareOp .GtE) aGe := by
  refine opj (OpR.or op_ge (op_geD hr)) ?_
  intro H m x y xv yv Q Q' rm rx ry h k
  cases rx <;> cases ry <;> try exact h.elim
  · exact .inl ⟨_, _, rfl, rfl, k _ _ _ _ (Ext.refl H) rm (.bl _) h⟩
  · rename_i s1 r1 _ _ _ s2 r2
    exact .inr (cmp_of rm (.tup s1 r1) (.tup s2 r2) h k)
def isNon : D → Bool
  | .non => true
  | _ => false
theorem isNon_of {K : Frag} {H : Hp} {d : D} {v : V} (r : RD K H d v) : decide (v = .non) = isNon d := by
  cases r <;> simp [isNon]
def aIs : DOp := fun x y m Q => y = .non ∧ Q (.bl (isNon x)) m
theorem oj_is : OpJ X (compareOp .Is) aIs := by
  refine opj op_isN ?_
  intro H m x y xv yv Q Q' rm rx ry h k
  obtain ⟨rfl, q⟩ := h
  cases ry
  exact ⟨rfl, k _ _ _ _ (Ext.refl H) rm (by rw [isNon_of rx]; exact .bl _) q⟩
def aIsNot : DOp := fun x y m Q => y = .non ∧ Q (.bl (!isNon x)) m
theorem oj_isnot : OpJ X (compareOp .IsNot) aIsNot := by
  refine opj op_notN ?_
  intro H m x y xv yv Q Q' rm rx ry h k
  obtain ⟨rfl, q⟩ := h
  cases ry
  exact ⟨rfl, k _ _ _ _ (Ext.refl H) rm (by rw [isNon_of rx]; exact .bl _) q⟩
/-- a < b < c -/
def dChain (r r' : DOp) (f g h : DE) : DE := fun ds m Q => f ds m fun x m1 => g ds m1 fun y m2 => r x y m2 fun z m3 => ∃ k, z = .bl k ∧ if k = true then h ds m3 fun c m4 => r' y c m4 Q else Q (.bl false) m3
end

/-! ### subscripts -/
section
variable {X : Cx}
/-- o[i], by values -/
def IxJ (X : Cx) (r : DOp) : Prop := ∃ rv : R2, IxR X rv ∧ ∀ H m x y xv yv Q Q', RM X.K m H → RD X.K H x xv → RD X.K H y yv → r x y m Q → KE X.K H Q Q' → rv xv yv H Q'
theorem je_ix {a b : Expr} {f g : DE} {pos : Pos} {r : DOp} (hr : IxJ X r) (ha : JE X a f) (hb : JE X b g) (hs : PlainIx b := by exact fun _ _ => rfl) : JE X (.Subscript a b pos) (dOp r f g) := by
  obtain ⟨rv, h1, h2⟩ := hr
  refine ⟨(pe_ix h1 ha.pe hb.pe hs).imp fun σ H Q' h => ?_⟩
  exact tOp_of (X := X) (fv := fun _ _ => Pure.pure .none) h2 σ H Q' h
theorem RDs.atI {K : Frag} {H : Hp} {l : List D} {xs : List V} {i : Int} {d : D} (r : RDs K H l xs) (h : L2.atI l i = some d) : ∃ v, L2.atI xs i = some v ∧ RD K H d v := by
  unfold L2.atI at h ⊢
  rw [← r.length]
  cases e : ixN l.length i with
  | none => rw [e] at h; cases h
  | some j =>
    rw [e] at h
    exact r.get h
def aIx : DOp
  | .tup l, .int i, m, Q => ∃ d, atI l i = some d ∧ Q d m
  | .rol l, .int i, m, Q => ∃ d, atI l i = some d ∧ Q d m
  | .ref p, .int i, m, Q => ∃ l d, m p = some (.lst l) ∧ atI l i = some d ∧ Q d m
  | .str z, .int i, m, Q => z.length ≤ sizeLine ∧ ∃ c, atI z.cps.toList i = some c ∧ Q (.str ⟨#[c]⟩) m
  | _, _, _, _ => False
theorem ij_seq : IxJ X aIx := by
  refine ⟨_, ix_seq, ?_⟩
  intro H m x y xv yv Q Q' rm rx ry h k
  cases rx <;> cases ry <;> try exact h.elim
  · obtain ⟨h1, c, h2, q⟩ := h
    exact .inr (.inr ⟨_, _, c, rfl, rfl, h1, h2, k _ _ _ _ (Ext.refl H) rm (.str _) q⟩)
  · rename_i l a xs s1 r1 i
    obtain ⟨d, h1, q⟩ := h
    obtain ⟨v, h2, rv⟩ := r1.atI h1
    exact .inr (.inl ⟨a, xs, i, v, rfl, rfl, sqt s1, h2, k _ _ _ _ (Ext.refl H) rm rv q⟩)
  · obtain ⟨l, d, h0, h1, q⟩ := h
    obtain ⟨xs, e1, r1⟩ := rm _ _ h0
    obtain ⟨v, h2, rv⟩ := r1.atI h1
    exact .inl ⟨_, xs, _, v, rfl, rfl, SqL.of e1, h2, k _ _ _ _ (Ext.refl H) rm rv q⟩
  · rename_i l a xs s1 r1 i
    obtain ⟨d, h1, q⟩ := h
    obtain ⟨v, h2, rv⟩ := r1.atI h1
    exact .inl ⟨a, xs, i, v, rfl, rfl, s1.l, h2, k _ _ _ _ (Ext.refl H) rm rv q⟩
/-! slices -/
abbrev DO := Sd → MH → (Option Int → MH → Prop) → Prop
def lO (K : Frag) (f : DO) : TO := fun σ H Q' => ∃ ds m Q, RSt K H ds σ ∧ RM K m H ∧ f ds m Q ∧ ∀ o m' H', Ext H H' → RM K m' H' → Q o m' → Q' o H'
structure JO (X : Cx) (e : Option Expr) (f : DO) : Prop where
  po : PO X e (lO X.K f)
def dNo : DO := fun _ m Q => Q none m
def dPart (f : DE) : DO := fun ds m Q => f ds m fun x m1 => ∃ i, x = .int i ∧ Q (some i) m1
theorem jo_none : JO X none dNo := by
  refine ⟨⟨fun pins s σ H Q' I h => ?_⟩⟩
  obtain ⟨ds, m, Q, rs, rm, q, k⟩ := h
  exact po_none.run pins s σ H Q' I (k none m H (Ext.refl H) rm q)
theorem jo_some {e : Expr} {f : DE} (h : JE X e f) : JO X (some e) (dPart f) := by
  refine ⟨⟨fun pins s σ H Q' I h' => ?_⟩⟩
  obtain ⟨ds, m, Q, rs, rm, q, k⟩ := h'
  refine (po_some h.pe).run pins s σ H Q' I ⟨ds, m, _, rs, rm, q, fun x m1 xv H1 e1 rm1 rx q1 => ?_⟩
  obtain ⟨i, rfl, q1⟩ := q1
  cases rx
  exact ⟨i, rfl, k _ _ _ e1 rm1 q1⟩
def cutD {α : Type} (xs : List α) (lo hi : Option Int) : List α := (xs.drop (HT.sIx xs.length 0 lo)).take (HT.sIx xs.length xs.length hi - HT.sIx xs.length 0 lo)
theorem RDs.cut {K : Frag} {H : Hp} {l : List D} {xs : List V} (r : RDs K H l xs) (lo hi : Option Int) : RDs K H (cutD l lo hi) (cutV xs lo hi) := by
  unfold cutD cutV
  rw [← r.length]
  exact (r.drop _).take _
theorem cutD_whole {l : List D} {lo hi : Option Int} (h : HT.sIx l.length 0 lo = 0 ∧ HT.sIx l.length l.length hi = l.length) : cutD l lo hi = l := by
  unfold cutD
  rw [h.1, h.2]
  simp
abbrev DSl := D → Option Int → Option Int → MH → DK → Prop
def aSl : DSl
  | .tup l, lo, hi, m, Q => Q (.tup (cutD l lo hi)) m
  | .rol l, lo, hi, m, Q => aNew (.lst (cutD l lo hi)) m Q
  | .ref p, lo, hi, m, Q => ∃ l, m p = some (.lst l) ∧ aNew (.lst (cutD l lo hi)) m Q
  | _, _, _, _, _ => False
def dSl (f : DE) (g h : DO) : DE := fun ds m Q => f ds m fun x m1 => g ds m1 fun lo m2 => h ds m2 fun hi m3 => aSl x lo hi m3 Q
theorem je_sl {e : Expr} {lo hi : Option Expr} {f : DE} {g h : DO} {pos p2 : Pos} (he : JE X e f) (hl : JO X lo g) (hh : JO X hi h) : JE X (.Subscript e (.Slice lo hi none p2) pos) (dSl f g h) := by
  refine ⟨(pe_slice (SlR.or sl_tupA sl_list) he.pe hl.po hh.po).imp fun σ H Q' h => ?_⟩
  obtain ⟨ds, m, Q, rs, rm, q, k⟩ := h
  refine ⟨ds, m, _, rs, rm, q, fun x m1 xv H1 e1 rm1 rx q1 => ?_⟩
  refine ⟨ds, m1, _, rs.ext e1, rm1, q1, fun l m2 H2 e2 rm2 q2 => ?_⟩
  refine ⟨ds, m2, _, rs.ext (e1.trans e2), rm2, q2, fun u m3 H3 e3 rm3 q3 => ?_⟩
  have kk := k.ext ((e1.trans e2).trans e3)
  have rx3 := rx.ext (e2.trans e3)
  clear rx q q1 q2
  cases rx3 <;> try exact q3.elim
  · rename_i l2 a xs s1 r1
    have el := r1.length
    refine .inl ⟨a, xs, rfl, sqt s1, fun z => ?_, fun z p hp => ?_⟩
    · rw [← el] at z
      have q3' : Q (.tup (cutD l2 l u)) m3 := q3
      rw [cutD_whole z] at q3'
      exact kk _ _ _ _ (Ext.refl H3) rm3 (.tup s1 r1) q3'
    · exact kk _ _ _ _ (Ext.fresh hp) (rm3.more hp) (.tup (.inl upd_same) ((r1.cut l u).ext (Ext.fresh hp))) q3
  · obtain ⟨l2, h1, q⟩ := q3
    obtain ⟨xs, ex, r1⟩ := rm3 _ _ h1
    refine .inr ⟨_, xs, rfl, SqL.of ex, fun p hp => ?_⟩
    exact kk _ _ _ _ (Ext.fresh hp) (rm3.upd (o := .lst _) (Ext.fresh hp) ⟨_, upd_same, (r1.cut l u).ext (Ext.fresh hp)⟩) (.ref p) (q p (rm3.none hp))
  · rename_i l2 a xs s1 r1
    refine .inr ⟨a, xs, rfl, s1.l, fun p hp => ?_⟩
    exact kk _ _ _ _ (Ext.fresh hp) (rm3.upd (o := .lst _) (Ext.fresh hp) ⟨_, upd_same, (r1.cut l u).ext (Ext.fresh hp)⟩) (.ref p) (q3 p (rm3.none hp))
end

/-! ### built-ins -/
abbrev DCl := List D → MH → DK → Prop
def CallJ (X : Cx) (f : Value) (r : DCl) : Prop := ∃ rv, CallR X f rv ∧ ∀ H m l vs Q Q', RM X.K m H → RDs X.K H l vs → r l m Q → KE X.K H Q Q' → rv vs H Q'
def dB1 (r : DCl) (t : DA) : DE := fun ds m Q => t ds m fun l m1 => r l m1 Q
section
variable {X : Cx} {x : Str} {id T : String} {e : Expr} {es : List Expr} {t : DA} {r : DCl} {p pos : Pos}
theorem je_blt (hc : CallJ X (.builtin id) r) (hm : X.mg x = none) (ha : JA X (e :: es) t) (hg : Gl X x := by rfl) (hv : bootBuiltins x = some (.builtin id) := by decide +kernel) (hn : x ≠ "__name__" := by decide) (hdb : (x == ("__debug__" : Str)) = false := by decide)
    (hs : starEach (e :: es) X.env = (false, eval e X.env) :: starEach es X.env := by rfl) (hpl : (backTo pos (starEach es X.env)).any (·.1) = false := by rfl) : JE X (.Call (.Name x p) (e :: es) [] pos) (dB1 r t) := by
  obtain ⟨rv, h1, h2⟩ := hc
  refine ⟨(pe_callB h1 hg hm hv ha.pa hn hdb hs hpl).imp fun σ H Q' h => ?_⟩
  obtain ⟨ds, m, Q, rs, rm, q, k⟩ := h
  exact ⟨ds, m, _, rs, rm, q, fun l m1 vs H1 e1 rm1 rv q1 => h2 H1 m1 l vs Q Q' rm1 rv q1 (k.ext e1)⟩
theorem je_bty (hc : CallJ X (.type T) r) (hm : X.mg x = none) (ha : JA X (e :: es) t) (hg : Gl X x := by rfl) (hv : bootBuiltins x = some (.type T) := by decide +kernel) (hn : x ≠ "__name__" := by decide) (hdb : (x == ("__debug__" : Str)) = false := by decide)
    (hs : starEach (e :: es) X.env = (false, eval e X.env) :: starEach es X.env := by rfl) (hpl : (backTo pos (starEach es X.env)).any (·.1) = false := by rfl) : JE X (.Call (.Name x p) (e :: es) [] pos) (dB1 r t) := by
  obtain ⟨rv, h1, h2⟩ := hc
  refine ⟨(pe_callTy h1 hg hm hv ha.pa hn hdb hs hpl).imp fun σ H Q' h => ?_⟩
  obtain ⟨ds, m, Q, rs, rm, q, k⟩ := h
  exact ⟨ds, m, _, rs, rm, q, fun l m1 vs H1 e1 rm1 rv q1 => h2 H1 m1 l vs Q Q' rm1 rv q1 (k.ext e1)⟩
end
section
variable {X : Cx}
def bLen : DCl
  | [.tup l], m, Q => Q (.int l.length) m
  | [.rol l], m, Q => Q (.int l.length) m
  | [.ref a], m, Q => ∃ l, m a = some (.lst l) ∧ Q (.int l.length) m
  | [.str z], m, Q => z.length ≤ sizeLine ∧ Q (.int z.length) m
  | _, _, _ => False
theorem cj_len : CallJ X (.builtin "len") bLen := by
  refine ⟨_, CallR.or call_len_seq call_len_str, ?_⟩
  intro H m l vs Q Q' rm rl h k
  cases rl with
  | nil => exact h.elim
  | cons rx rr =>
    cases rr with
    | cons _ _ => cases rx <;> exact h.elim
    | nil =>
      cases rx <;> try exact h.elim
      · exact .inr ⟨_, rfl, h.1, k _ _ _ _ (Ext.refl H) rm (.int _) h.2⟩
      · rename_i l a xs s1 r1
        refine .inl ⟨a, xs, rfl, .inr (sqt s1), ?_⟩
        rw [← r1.length]
        exact k _ _ _ _ (Ext.refl H) rm (.int _) h
      · obtain ⟨l, h1, q⟩ := h
        obtain ⟨xs, ex, r1⟩ := rm _ _ h1
        refine .inl ⟨_, xs, rfl, .inl (SqL.of ex), ?_⟩
        rw [← r1.length]
        exact k _ _ _ _ (Ext.refl H) rm (.int _) q
      · rename_i l a xs s1 r1
        refine .inl ⟨a, xs, rfl, .inl s1.l, ?_⟩
        rw [← r1.length]
        exact k _ _ _ _ (Ext.refl H) rm (.int _) h
def bAbs : DCl
  | [.int i], m, Q => Q (.int (if i < 0 then -i else i)) m
  | _, _, _ => False
theorem cj_abs : CallJ X (.builtin "abs") bAbs := by
  refine ⟨_, call_abs, ?_⟩
  intro H m l vs Q Q' rm rl h k
  cases rl with
  | nil => exact h.elim
  | cons rx rr =>
    cases rr with
    | cons _ _ => cases rx <;> exact h.elim
    | nil =>
      cases rx <;> try exact h.elim
      exact ⟨_, rfl, k _ _ _ _ (Ext.refl H) rm (.int _) h⟩
def bList : DCl
  | [.tup l], m, Q => aNew (.lst l) m Q
  | [.rol l], m, Q => aNew (.lst l) m Q
  | [.ref a], m, Q => ∃ l, m a = some (.lst l) ∧ aNew (.lst l) m Q
  | _, _, _ => False
theorem cj_list : CallJ X (.type "list") bList := by
  refine ⟨_, call_list_of, ?_⟩
  intro H m l vs Q Q' rm rl h k
  cases rl with
  | nil => exact h.elim
  | cons rx rr =>
    cases rr with
    | cons _ _ => cases rx <;> exact h.elim
    | nil =>
      cases rx <;> try exact h.elim
      · rename_i l a xs s1 r1
        exact ⟨a, xs, rfl, .inr (sqt s1), fun p hp => k _ _ _ _ (Ext.fresh hp) (rm.upd (o := .lst l) (Ext.fresh hp) ⟨_, upd_same, r1.ext (Ext.fresh hp)⟩) (.ref p) (h p (rm.none hp))⟩
      · obtain ⟨l, h1, q⟩ := h
        obtain ⟨xs, ex, r1⟩ := rm _ _ h1
        exact ⟨_, xs, rfl, .inl (SqL.of ex), fun p hp => k _ _ _ _ (Ext.fresh hp) (rm.upd (o := .lst l) (Ext.fresh hp) ⟨_, upd_same, r1.ext (Ext.fresh hp)⟩) (.ref p) (q p (rm.none hp))⟩
      · rename_i l a xs s1 r1
        exact ⟨a, xs, rfl, .inl s1.l, fun p hp => k _ _ _ _ (Ext.fresh hp) (rm.upd (o := .lst l) (Ext.fresh hp) ⟨_, upd_same, r1.ext (Ext.fresh hp)⟩) (.ref p) (h p (rm.none hp))⟩
def bTuple : DCl
  | [.tup l], m, Q => Q (.tup l) m
  | [.rol l], m, Q => Q (.tup l) m
  | [.ref a], m, Q => ∃ l, m a = some (.lst l) ∧ Q (.tup l) m
  | _, _, _ => False
theorem cj_tuple : CallJ X (.type "tuple") bTuple := by
  refine ⟨_, call_tuple_of, ?_⟩
  intro H m l vs Q Q' rm rl h k
  cases rl with
  | nil => exact h.elim
  | cons rx rr =>
    cases rr with
    | cons _ _ => cases rx <;> exact h.elim
    | nil =>
      cases rx <;> try exact h.elim
      · rename_i l a xs s1 r1
        exact ⟨a, xs, rfl, .inr ⟨sqt s1, k _ _ _ _ (Ext.refl H) rm (.tup s1 r1) h⟩⟩
      · obtain ⟨l, h1, q⟩ := h
        obtain ⟨xs, ex, r1⟩ := rm _ _ h1
        exact ⟨_, xs, rfl, .inl ⟨SqL.of ex, fun p hp => k _ _ _ _ (Ext.fresh hp) (rm.more hp) (.tup (.inl upd_same) (r1.ext (Ext.fresh hp))) q⟩⟩
      · rename_i l a xs s1 r1
        exact ⟨a, xs, rfl, .inl ⟨s1.l, fun p hp => k _ _ _ _ (Ext.fresh hp) (rm.more hp) (.tup (.inl upd_same) (r1.ext (Ext.fresh hp))) h⟩⟩
end
end DL
/-! DL: dicts, membership, stores, what is walked, methods of lists. -/
namespace DL
open PySem PySem.Spec PyProof.Rows L2

/-! ### keys of dicts -/
def kD : Key → D
  | .inl i => .int i
  | .inr x => .str x
def look {κ α : Type} [DecidableEq κ] (l : List (κ × α)) (k : κ) : Option α := (l.find? fun kv => decide (kv.1 = k)).map (·.2)
def stored {κ α : Type} [DecidableEq κ] (l : List (κ × α)) (k : κ) (v : α) : List (κ × α) :=
  if (l.any fun kv => decide (kv.1 = k)) = true then l.map (fun kv => if kv.1 = k then (kv.1, v) else kv) else l ++ [(k, v)]
section
variable {κ : Type} [DecidableEq κ] {K : Frag} {H : Hp}
theorem RKs.look : ∀ {l : List (κ × D)} {xs : List (κ × V)} (k : κ), RKs K H l xs → (DL.look l k = none ∧ valV xs k = none) ∨ ∃ d v, DL.look l k = some d ∧ valV xs k = some v ∧ RD K H d v
  | _, _, k, .nil => .inl ⟨rfl, rfl⟩
  | _, _, k, .cons (k := j) (d := d) (v := v) r t => by
    by_cases e : j = k
    · exact .inr ⟨d, v, by simp [DL.look, e], by simp [valV, e], r⟩
    · rcases RKs.look k t with ⟨h1, h2⟩ | ⟨d', v', h1, h2, h3⟩
      · exact .inl ⟨by simpa [DL.look, e] using h1, by simpa [valV, e] using h2⟩
      · exact .inr ⟨d', v', by simpa [DL.look, e] using h1, by simpa [valV, e] using h2, h3⟩
theorem RKs.any (k : κ) : ∀ {l : List (κ × D)} {xs : List (κ × V)}, RKs K H l xs → (l.any fun kv => decide (kv.1 = k)) = (xs.any fun kv => decide (kv.1 = k))
  | _, _, .nil => rfl
  | _, _, .cons r t => by rw [List.any_cons, List.any_cons, RKs.any k t]
theorem RKs.map_put {d : D} {v : V} (r : RD K H d v) (k : κ) : ∀ {l : List (κ × D)} {xs : List (κ × V)}, RKs K H l xs → RKs K H (l.map fun kv => if kv.1 = k then (kv.1, d) else kv) (xs.map fun kv => if kv.1 = k then (kv.1, v) else kv)
  | _, _, .nil => .nil
  | _, _, .cons (k := j) q t => by
    rw [List.map_cons, List.map_cons]
    by_cases e : j = k
    · simp only [e, if_true]
      exact .cons r (RKs.map_put r k t)
    · simp only [e, if_false]
      exact .cons q (RKs.map_put r k t)
theorem RKs.app : ∀ {l l' : List (κ × D)} {xs xs' : List (κ × V)}, RKs K H l xs → RKs K H l' xs' → RKs K H (l ++ l') (xs ++ xs')
  | _, _, _, _, .nil, s => s
  | _, _, _, _, .cons r t, s => .cons r (RKs.app t s)
theorem RKs.put {l : List (κ × D)} {xs : List (κ × V)} {d : D} {v : V} (h : RKs K H l xs) (k : κ) (r : RD K H d v) : RKs K H (stored l k d) (putK xs k v) := by
  unfold stored putK
  rw [h.any k]
  split
  · exact h.map_put r k
  · exact h.app (.cons r .nil)
end
/-- what a value is as a key -/
def keyOf : D → Option Key
  | .int i => some (.inl i)
  | .str x => some (.inr x)
  | _ => none
def keysOf : List D → Option (List Key)
  | [] => some []
  | d :: l => (keyOf d).bind fun k => (keysOf l).map fun r => k :: r
theorem keyOf_kV {K : Frag} {H : Hp} {d : D} {v : V} {k : Key} (r : RD K H d v) (e : keyOf d = some k) : v = kV k := by
  cases r <;> simp [keyOf] at e <;> subst e <;> rfl
theorem keysOf_kV {K : Frag} {H : Hp} : ∀ {l : List D} {xs : List V} {ks : List Key}, RDs K H l xs → keysOf l = some ks → xs = ks.map kV
  | _, _, _, .nil, e => by simp [keysOf] at e; subst e; rfl
  | _, _, ks, .cons (d := d) (l := l) r t, e => by
    unfold keysOf at e
    cases h1 : keyOf d with
    | none => rw [h1] at e; cases e
    | some k =>
      cases h2 : keysOf l with
      | none => rw [h1, h2] at e; cases e
      | some r' =>
        rw [h1, h2] at e
        have e' : k :: r' = ks := Option.some.inj e
        subst e'
        rw [keyOf_kV r h1, keysOf_kV t h2]
        rfl
/-- what the dict at a holds at a value -/
def dGet (m : MH) (a : Addr) (y : D) (o : Option D) : Prop :=
  (∃ kvs k, m a = some (.dct kvs) ∧ keyOf y = some k ∧ o = look kvs k) ∨ ∃ kvs l ks, m a = some (.dtp kvs) ∧ y = .tup l ∧ keysOf l = some ks ∧ o = look kvs ks
theorem key_tup {K : Frag} {H : Hp} {a : Addr} {xs : List V} {l : List D} {ks : List Key} (h : TupAt K H a xs l) (hk : keysOf l = some ks) : H a = some (.tup xs) := by
  rcases h with h | ⟨⟨d, hd, ds, rfl⟩, _⟩
  · exact h
  · exfalso
    have : ∀ (l : List D) (ks : List Key), D.tup ds ∈ l → keysOf l = some ks → False := by
      intro l
      induction l with
      | nil => intro _ h _; cases h
      | cons x l ih =>
        intro ks h e
        unfold keysOf at e
        rcases List.mem_cons.mp h with rfl | h
        · simp [keyOf] at e
        · cases hx : keyOf x <;> cases hl : keysOf l <;> simp [hx, hl] at e
          exact ih _ h hl
    exact this l ks hd hk
theorem dGet.v {K : Frag} {m : MH} {H : Hp} {a : Addr} {y : D} {o : Option D} {yv : V} (g : dGet m a y o) (rm : RM K m H) (ry : RD K H y yv) :
    (o = none ∧ DGet H a yv none) ∨ ∃ d v, o = some d ∧ DGet H a yv (some v) ∧ RD K H d v := by
  rcases g with ⟨kvs, k, h1, h2, rfl⟩ | ⟨kvs, l, ks, h1, rfl, h2, rfl⟩
  · obtain ⟨xs, e1, r1⟩ := rm _ _ h1
    have ey := keyOf_kV ry h2
    subst ey
    rcases r1.look k with ⟨q1, q2⟩ | ⟨d, v, q1, q2, q3⟩
    · exact .inl ⟨q1, by rw [← q2]; exact DGet.k e1⟩
    · exact .inr ⟨d, v, q1, by rw [← q2]; exact DGet.k e1, q3⟩
  · obtain ⟨xs, e1, r1⟩ := rm _ _ h1
    cases ry with
    | @tup _ b ys s r =>
      have ez := keysOf_kV r h2
      subst ez
      rcases r1.look ks with ⟨q1, q2⟩ | ⟨d, v, q1, q2, q3⟩
      · exact .inl ⟨q1, by rw [← q2]; exact DGet.t e1 (key_tup s h2)⟩
      · exact .inr ⟨d, v, q1, by rw [← q2]; exact DGet.t e1 (key_tup s h2), q3⟩

/-! ### o[i] -/
section
variable {X : Cx}
theorem ix_dict (hu : X.A.units + 1 < cLine) : IxR X (fun x y H Q => ∃ a v, x = .ref a ∧ DGet H a y (some v) ∧ Q v H) := by
  intro value slice pins s σ H x y v u Q I rx ry h hs
  obtain ⟨a, z, rfl, g, q⟩ := h
  obtain rfl : v = Value.ref a := rx
  exact tail_any (ops := [.ref a, u]) (dict_typeIs I g) PySem.F.slot_dict_getitem.lookup (d_getItem hu I g ry fun w' s3 I3 rw' => ⟨z, H, I3, rw', q⟩) hs
def aIxA : DOp
  | .tup l, .int i, m, Q => ∃ d, atI l i = some d ∧ Q d m
  | .rol l, .int i, m, Q => ∃ d, atI l i = some d ∧ Q d m
  | .str z, .int i, m, Q => z.length ≤ sizeLine ∧ ∃ c, atI z.cps.toList i = some c ∧ Q (.str ⟨#[c]⟩) m
  | .ref p, y, m, Q => (∃ i l d, y = .int i ∧ m p = some (.lst l) ∧ atI l i = some d ∧ Q d m) ∨ ∃ d, dGet m p y (some d) ∧ Q d m
  | _, _, _, _ => False
theorem ij_any {k : Nat} (hr : Room k X.A) : IxJ X aIxA := by
  obtain ⟨rs, h1, h2⟩ := ij_seq (X := X)
  refine ⟨_, h1.or (ix_dict (hu_of hr)), ?_⟩
  intro H m x y xv yv Q Q' rm rx ry h k
  cases rx with
  | ref p =>
    rcases h with ⟨i, l, d, rfl, q1, q2, q3⟩ | ⟨d, g, q⟩
    · exact .inl (h2 H m (.ref p) _ _ _ Q Q' rm (.ref p) ry ⟨l, d, q1, q2, q3⟩ k)
    · rcases g.v rm ry with ⟨e, _⟩ | ⟨d', v, e, g', rd⟩
      · cases e
      · cases e
        exact .inr ⟨p, v, rfl, g', k _ _ _ _ (Ext.refl H) rm rd q⟩
  | non => exact h.elim
  | bl b => exact h.elim
  | int i => exact h.elim
  | str z => cases ry <;> first | exact h.elim | exact .inl (h2 H m (.str z) (.int _) _ _ Q Q' rm (.str z) (.int _) h k)
  | tup s1 r1 => cases ry <;> first | exact h.elim | exact .inl (h2 H m (.tup _) (.int _) _ _ Q Q' rm (.tup s1 r1) (.int _) h k)
  | rol s1 r1 => cases ry <;> first | exact h.elim | exact .inl (h2 H m (.rol _) (.int _) _ _ Q Q' rm (.rol s1 r1) (.int _) h k)
/-! ### x in o -/
theorem op_inDict (hu : X.A.units + 1 < cLine) : OpR X (compareOp .In) (fun y x H Q => ∃ a o, x = .ref a ∧ DGet H a y o ∧ Q (.bl o.isSome) H) := by
  intro pins s σ H y x u v Q I ry rx h
  obtain ⟨a, o, rfl, g, q⟩ := h
  obtain rfl : v = Value.ref a := rx
  exact d_in hu I g ry fun s3 I3 => ⟨.bl o.isSome, H, I3, rfl, q⟩
theorem op_notInDict (hu : X.A.units + 1 < cLine) : OpR X (compareOp .NotIn) (fun y x H Q => ∃ a o, x = .ref a ∧ DGet H a y o ∧ Q (.bl (!o.isSome)) H) := by
  intro pins s σ H y x u v Q I ry rx h
  obtain ⟨a, o, rfl, g, q⟩ := h
  obtain rfl : v = Value.ref a := rx
  exact d_notIn hu I g ry fun s3 I3 => ⟨.bl (!o.isSome), H, I3, rfl, q⟩
theorem op_inTup (hu : X.A.units + 65 < cLine) : OpR X (compareOp .In) (fun x y H Q => ∃ d ds, Dp X.K H x d ∧ Dp X.K H y (.tuple ds) ∧ SeqAt.shaped d = true ∧ SeqAt.shaped (.tuple ds) = true ∧ Q (.bl (ds.any fun z => PyData.eqv z d)) H) := by
  intro pins s σ H x y v u Q I rx ry h
  obtain ⟨d, ds, hd, he, sd, se, q⟩ := h
  obtain ⟨as, r1⟩ := Dp.reads I d x v hd rx
  obtain ⟨bs, r2⟩ := Dp.reads I (.tuple ds) y u he ry
  exact SeqAt.in_tuple_reads r2 r1 (SeqAt.canLay_of_shaped se) (SeqAt.canLay_of_shaped sd) (room_in_shaped sd hu) ⟨.bl _, H, I, rfl, q⟩
theorem op_notInTup (hu : X.A.units + 65 < cLine) : OpR X (compareOp .NotIn) (fun x y H Q => ∃ d ds, Dp X.K H x d ∧ Dp X.K H y (.tuple ds) ∧ SeqAt.shaped d = true ∧ SeqAt.shaped (.tuple ds) = true ∧ Q (.bl (!ds.any fun z => PyData.eqv z d)) H) := by
  intro pins s σ H x y v u Q I rx ry h
  obtain ⟨d, ds, hd, he, sd, se, q⟩ := h
  obtain ⟨as, r1⟩ := Dp.reads I d x v hd rx
  obtain ⟨bs, r2⟩ := Dp.reads I (.tuple ds) y u he ry
  exact SeqAt.notIn_tuple_reads r2 r1 (SeqAt.canLay_of_shaped se) (SeqAt.canLay_of_shaped sd) (room_in_shaped sd hu) ⟨.bl _, H, I, rfl, q⟩
theorem room66 {k : Nat} {A : Around} (hr : Room k A) : A.units + 65 < cLine := by have := hr.un; omega
/-- in: a dict; the items of a list, a tuple (data); a sign of a text -/
def memD (x y : D) (m : MH) (b : Bool) : Prop :=
  (∃ a o, y = .ref a ∧ dGet m a x o ∧ b = o.isSome) ∨ (∃ p ps, PD m x p ∧ PD m y (.list ps) ∧ SeqAt.shaped p = true ∧ SeqAt.shaped (.list ps) = true ∧ b = ps.any fun z => PyData.eqv z p) ∨
  (∃ p ps, PD m x p ∧ PD m y (.tuple ps) ∧ SeqAt.shaped p = true ∧ SeqAt.shaped (.tuple ps) = true ∧ b = ps.any fun z => PyData.eqv z p) ∨ ∃ (c : Nat) (z : Str), x = .str ⟨#[c]⟩ ∧ y = .str z ∧ b = decide (c ∈ z.cps.toList)
def aIn : DOp := fun x y m Q => ∃ b, memD x y m b ∧ Q (.bl b) m
def aNotIn : DOp := fun x y m Q => ∃ b, memD x y m b ∧ Q (.bl (!b)) m
theorem oj_in {k : Nat} (hr : Room k X.A) : OpJ X (compareOp .In) aIn := by
  refine opj (OpR.or (op_inDict (hu_of hr)) (OpR.or (op_inD (room66 hr)) (OpR.or (op_inTup (room66 hr)) op_in_sign))) ?_
  intro H m x y xv yv Q Q' rm rx ry h k
  obtain ⟨b, h, q⟩ := h
  have fin := k _ _ (.bl b) H (Ext.refl H) rm (.bl b) q
  rcases h with ⟨a, o, rfl, g, rfl⟩ | ⟨p, ps, h1, h2, h3, h4, rfl⟩ | ⟨p, ps, h1, h2, h3, h4, rfl⟩ | ⟨c, z, rfl, rfl, rfl⟩
  · cases ry
    rcases g.v rm rx with ⟨rfl, g'⟩ | ⟨d', v, rfl, g', rd⟩
    · exact .inl ⟨a, none, rfl, g', fin⟩
    · exact .inl ⟨a, some v, rfl, g', fin⟩
  · exact .inr (.inl ⟨p, ps, h1.dp rm rx, h2.dp rm ry, h3, h4, fin⟩)
  · exact .inr (.inr (.inl ⟨p, ps, h1.dp rm rx, h2.dp rm ry, h3, h4, fin⟩))
  · cases rx
    cases ry
    exact .inr (.inr (.inr ⟨c, z, rfl, rfl, fin⟩))
end
end DL
/-! DL: stores, displays of dicts, what is walked, methods of lists, the other built-ins. -/
namespace DL
open PySem PySem.Spec PyProof.Rows L2
section
variable {X : Cx}
/-! ### o[i] = v -/
theorem set_dict (hu : X.A.units + 1 < cLine) : PSet X (fun o i v H Q => ∃ a H', o = .ref a ∧ DPut H a i v H' ∧ Q H') := by
  intro pins s σ H o i v ov iv u Q I ro ri rv h
  obtain ⟨a, H', rfl, g, q⟩ := h
  obtain rfl : ov = Value.ref a := ro
  exact d_setItem hu I g ri rv fun s4 I4 => ⟨H', I4, q⟩
theorem PSet.or {r r' : TSet} (h : PSet X r) (h' : PSet X r') : PSet X (fun o i v H Q => r o i v H Q ∨ r' o i v H Q) := by
  intro pins s σ H o i v ov iv u Q I ro ri rv q
  rcases q with q | q
  · exact h pins s σ H o i v ov iv u Q I ro ri rv q
  · exact h' pins s σ H o i v ov iv u Q I ro ri rv q
def aSet : DSet := fun o i v m Q => ∃ p, o = .ref p ∧ ((∃ l k j, m p = some (.lst l) ∧ i = .int k ∧ ixN l.length k = some j ∧ Q (mup m p (.lst (l.set j v)))) ∨
  (∃ kvs k, m p = some (.dct kvs) ∧ keyOf i = some k ∧ kvs.length < sizeLine ∧ Q (mup m p (.dct (stored kvs k v)))) ∨
  ∃ kvs l ks, m p = some (.dtp kvs) ∧ i = .tup l ∧ keysOf l = some ks ∧ kvs.length < sizeLine ∧ Q (mup m p (.dtp (stored kvs ks v))))
theorem sj_set {k : Nat} (hr : Room k X.A) : SetJ X aSet := by
  refine ⟨_, PSet.or set_list (set_dict (hu_of hr)), ?_⟩
  intro H m o i v ov iv vv Q Q' rm ro ri rv h k
  obtain ⟨p, rfl, h⟩ := h
  cases ro
  rcases h with ⟨l, n, j, h1, rfl, h2, q⟩ | ⟨kvs, key, h1, h2, h3, q⟩ | ⟨kvs, l, ks, h1, rfl, h2, h3, q⟩
  · obtain ⟨xs, e, r⟩ := rm _ _ h1
    cases ri
    exact .inl ⟨p, xs, n, j, rfl, rfl, e, by rw [← r.length]; exact h2, k _ _ (Ext.lst e) (rm.upd (o := .lst _) (Ext.lst e) ⟨_, upd_same, (RDs.set rv j r).ext (Ext.lst e)⟩) q⟩
  · obtain ⟨xs, e, r⟩ := rm _ _ h1
    have ei := keyOf_kV ri h2
    subst ei
    refine .inr ⟨p, _, rfl, DPut.k e (by rw [← r.length]; exact h3), k _ _ (Ext.dK e) (rm.upd (o := .dct _) (Ext.dK e) ⟨_, upd_same, (r.put key rv).ext (Ext.dK e)⟩) q⟩
  · obtain ⟨xs, e, r⟩ := rm _ _ h1
    cases ri with
    | @tup _ b ys s rl =>
      have ez := keysOf_kV rl h2
      subst ez
      refine .inr ⟨p, _, rfl, DPut.t e (key_tup s h2) (by rw [← r.length]; exact h3), k _ _ (Ext.dT e) (rm.upd (o := .dtp _) (Ext.dT e) ⟨_, upd_same, (r.put ks rv).ext (Ext.dT e)⟩) q⟩

/-! ### dicts made -/
def dNewK : DE := fun _ m Q => aNew (.dct []) m Q
def dNewT : DE := fun _ m Q => aNew (.dtp []) m Q
theorem je_newK {pos : Pos} : JE X (.Dict [] [] pos) dNewK := by
  refine ⟨pe_dnewK.imp fun σ H Q' h => ?_⟩
  obtain ⟨ds, m, Q, rs, rm, q, k⟩ := h
  exact fun p hp => k _ _ _ _ (Ext.fresh hp) (rm.upd (o := .dct []) (Ext.fresh hp) ⟨[], upd_same, .nil⟩) (.ref p) (q p (rm.none hp))
theorem je_newT {pos : Pos} : JE X (.Dict [] [] pos) dNewT := by
  refine ⟨pe_dnewT.imp fun σ H Q' h => ?_⟩
  obtain ⟨ds, m, Q, rs, rm, q, k⟩ := h
  exact fun p hp => k _ _ _ _ (Ext.fresh hp) (rm.upd (o := .dtp []) (Ext.fresh hp) ⟨[], upd_same, .nil⟩) (.ref p) (q p (rm.none hp))
/-- {k: v, ..}: the keys written texts -/
def dPairs : List (Str × DE) → Sd → MH → (List (Key × D) → MH → Prop) → Prop
  | [], _, m, Q => Q [] m
  | (k, f) :: r, ds, m, Q => f ds m fun d m1 => dPairs r ds m1 fun l m2 => Q ((.inr k, d) :: l) m2
structure JPs (X : Cx) (pos : Pos) (keys : List (Option Expr)) (values : List Expr) (l : List (Str × DE)) : Prop where
  pps : PPs X pos keys values (l.map fun kf => (tC (.str kf.1), lE X.K kf.2))
theorem jps_nil {pos : Pos} : JPs X pos [] [] [] := ⟨pps_nil⟩
theorem jps_cons {pos p : Pos} {j} {k : Str} {v : Expr} {ks : List (Option Expr)} {vs : List Expr} {f : DE} {l : List (Str × DE)} (hv : JE X v f) (hr : JPs X pos ks vs l) : JPs X pos (some (.Constant (.str k) j p) :: ks) (v :: vs) ((k, f) :: l) := ⟨pps_cons pe_str hv.pe hr.pps⟩
def dDisp (l : List (Str × DE)) : DE := fun ds m Q => ∀ p, m p = none → dPairs l ds (mup m p (.dct [])) fun kvs m1 => m1 p = some (.dct []) ∧ kvs.length ≤ 15 ∧ (kvs.map (·.1)).Nodup ∧ Q (.ref p) (mup m1 p (.dct kvs))
theorem pairs_of {K : Frag} {σ : L2.St} {ds : Sd} : ∀ {l : List (Str × DE)} {m : MH} {H H0 : Hp} {Q : List (Key × D) → MH → Prop} {Q' : List (V × V) → Hp → Prop}, Ext H0 H → RSt K H ds σ → RM K m H → dPairs l ds m Q →
    (∀ kvs m' (xs : List (Key × V)) H', Ext H0 H' → RM K m' H' → RKs K H' kvs xs → Q kvs m' → Q' (xs.map fun kv => (kV kv.1, kv.2)) H') → tPairs (l.map fun kf => (tC (.str kf.1), lE K kf.2)) σ H Q'
  | [], m, H, H0, Q, Q', e, rs, rm, q, k => k [] m [] H e rm .nil q
  | (x, f) :: l, m, H, H0, Q, Q', e, rs, rm, q, k => by
    refine ⟨ds, m, _, rs, rm, q, fun d m1 v H1 e1 rm1 rv q1 => ?_⟩
    refine pairs_of (H0 := H1) (Ext.refl H1) (rs.ext e1) rm1 q1 fun kvs m2 xs H2 e2 rm2 r2 q2 => ?_
    exact k ((.inr x, d) :: kvs) m2 ((.inr x, v) :: xs) H2 ((e.trans e1).trans e2) rm2 (.cons (rv.ext e2) r2) q2
theorem merge_nodup : ∀ (more acc : List (Key × V)), ((acc ++ more).map (·.1)).Nodup → mergeK acc more = acc ++ more
  | [], acc, _ => by simp [mergeK]
  | p :: r, acc, h => by
    have hn : ¬ p.1 ∈ acc.map (·.1) := fun hm => by
      rw [List.map_append, List.nodup_append] at h
      exact h.2.2 _ hm _ (by simp) rfl
    have e : putK acc p.1 p.2 = acc ++ [p] := by
      unfold putK
      rw [if_neg]
      intro z
      rw [List.any_eq_true] at z
      obtain ⟨q, hq, e⟩ := z
      exact hn (List.mem_map.mpr ⟨q, hq, of_decide_eq_true e⟩)
    have h' : ((acc ++ [p] ++ r).map (·.1)).Nodup := by simpa using h
    show mergeK (putK acc p.1 p.2) r = acc ++ p :: r
    rw [e, merge_nodup r _ h']
    simp
theorem RKs.keys {κ : Type} {K : Frag} {H : Hp} : ∀ {l : List (κ × D)} {xs : List (κ × V)}, RKs K H l xs → l.map (·.1) = xs.map (·.1)
  | _, _, .nil => rfl
  | _, _, .cons r t => by rw [List.map_cons, List.map_cons, RKs.keys t]
theorem je_disp {pos : Pos} {keys : List (Option Expr)} {values : List Expr} {l : List (Str × DE)} (h : JPs X pos keys values l) (hall : keys.all (·.isSome) = true := by rfl) (hl : keys.length = values.length := by rfl) (h0 : keys ≠ [] := by exact fun z => nomatch z)
    (h15 : keys.length ≤ 15 := by decide) : JE X (.Dict keys values pos) (dDisp l) := by
  refine ⟨(pe_disp h.pps hall hl h0 h15).imp fun σ H Q' h => ?_⟩
  obtain ⟨ds, m, Q, rs, rm, q, k⟩ := h
  intro p hp
  have ep : Ext H (upd H p (.dK [])) := Ext.fresh hp
  refine pairs_of (H0 := H) ep (rs.ext ep) (rm.upd (o := .dct []) ep ⟨[], upd_same, .nil⟩) (q p (rm.none hp)) fun kvs m1 xs H1 e1 rm1 r1 q1 => ?_
  obtain ⟨h1, h2, h3, q1⟩ := q1
  obtain ⟨ys, hy, ry⟩ := rm1 p _ h1
  cases ry
  refine ⟨hy, xs, rfl, by rw [← r1.length]; exact h2, ?_⟩
  have em : mergeK [] xs = xs := merge_nodup xs [] (by rw [List.nil_append, ← r1.keys]; exact h3)
  rw [em]
  exact k _ _ _ _ (e1.trans (Ext.dK hy)) (rm1.upd (o := .dct kvs) (Ext.dK hy) ⟨xs, upd_same, r1.ext (Ext.dK hy)⟩) (.ref p) q1
end

/-! ### what is walked -/
section
variable {X : Cx} {tg e : Expr}
theorem pi_any {te : TE} (he : PE X e te) : PI X tg e (fun σ H R => te σ H fun x H1 => (∃ a, x = .ref a ∧ (∃ xs, SqL X.K H1 a xs) ∧ R (Itl X.K a) H1) ∨ (∃ a, x = .ref a ∧ (∃ xs, SqT X.K H1 a xs) ∧ R (Itt X.K a) H1) ∨ ∃ z, x = .str z ∧ R (Its z) H1) := by
  refine ⟨fun pins s σ H R I h => thn (he.run pins s σ H _ I h) fun v s1 ⟨x, H1, I1, r1, q1⟩ => ?_⟩
  have hc : PE X e (fun σ' H' Q => σ' = σ → H' = H1 → Q x H1) → True := fun _ => trivial
  rcases q1 with ⟨a, rfl, ⟨xs, hq⟩, q⟩ | ⟨a, rfl, ⟨xs, hq⟩, q⟩ | ⟨z, rfl, q⟩
  · obtain rfl : v = Value.ref a := r1
    obtain ⟨its, rv, p, hz⟩ := I1.list hq
    exact wpAny_pyIter_list p.isList (pi_one (tk := s1.toks) I1 _ (turn_list a _) ⟨_, Heap.get?_push_size _ rfl, rfl, rfl⟩ q)
  · obtain rfl : v = Value.ref a := r1
    obtain ⟨its, rv, p, hz⟩ := I1.tuple hq
    exact wpAny_pyIter_tuple (show s1.heap.IsTuple a its.toArray from p) (pi_one (tk := s1.toks) I1 _ (turn_tuple a _) ⟨_, Heap.get?_push_size _ rfl, rfl, rfl⟩ q)
  · obtain ⟨t, rfl⟩ := r1
    cases ha : z.cps.all (· < 128)
    · exact wpAny_pyIter_wide ha (pi_one (tk := s1.toks) I1 _ (turn_str _ z t "str_iterator" (.inr rfl)) ⟨_, Heap.get?_push_size _ rfl, rfl, rfl⟩ q)
    · exact wpAny_pyIter_ascii ha (pi_one (tk := s1.toks) I1 _ (turn_str _ z t "str_ascii_iterator" (.inl rfl)) ⟨_, Heap.get?_push_size _ rfl, rfl, rfl⟩ q)
def signs (z : Str) : List D := z.cps.toList.map fun c => .str ⟨#[c]⟩
/-- for x in e: a tuple, a list (that stays), a text -/
def iAny (t : DE) : DI := fun ds m Q => t ds m fun d m1 => match d with
  | .tup l => Q (fun _ => True) l m1
  | .rol l => Q (fun _ => True) l m1
  | .str z => Q (fun _ => True) (signs z) m1
  | .ref a => ∃ l, m1 a = some (.lst l) ∧ Q (fun m => m a = some (.lst l)) l m1
  | _ => False
theorem rit_list {K : Frag} {a : Addr} {H0 : Hp} {chk : MH → Prop} {l : List D} (h : ∀ m H, Ext H0 H → RM K m H → chk m → ∃ xs, SqL K H a xs ∧ RDs K H l xs) : RIt K (Itl K a) H0 chk l := by
  intro m H e rm c
  obtain ⟨xs, hs, r⟩ := h m H e rm c
  refine ⟨fun i hi => ⟨?_, fun x H' y => ?_⟩, ⟨xs, hs, by rw [r.length]; exact Nat.le_refl _⟩⟩
  · have hi' : i < xs.length := by rw [← r.length]; exact hi
    exact ⟨xs, xs[i], hs, List.getElem?_eq_getElem hi'⟩
  · obtain ⟨rfl, y⟩ := y
    obtain ⟨v, hv, rd⟩ := r.get (List.getElem?_eq_getElem hi)
    rw [y xs hs] at hv
    cases hv
    exact ⟨Ext.refl _, rm, l[i], List.getElem?_eq_getElem hi, rd⟩
theorem rit_tup {K : Frag} {a : Addr} {H0 : Hp} {xs : List V} {l : List D} (h : TupAt K H0 a xs l) (r : RDs K H0 l xs) : RIt K (Itt K a) H0 (fun _ => True) l := by
  intro m H e rm _
  have hs : SqT K H a xs := SqT.ext e (sqt h)
  have r := r.ext e
  refine ⟨fun i hi => ⟨?_, fun x H' y => ?_⟩, ⟨xs, hs, by rw [r.length]; exact Nat.le_refl _⟩⟩
  · have hi' : i < xs.length := by rw [← r.length]; exact hi
    exact ⟨xs, xs[i], hs, List.getElem?_eq_getElem hi'⟩
  · obtain ⟨rfl, y⟩ := y
    obtain ⟨v, hv, rd⟩ := r.get (List.getElem?_eq_getElem hi)
    rw [y xs hs] at hv
    cases hv
    exact ⟨Ext.refl _, rm, l[i], List.getElem?_eq_getElem hi, rd⟩
theorem rit_str {K : Frag} {z : Str} {H0 : Hp} : RIt K (Its z) H0 (fun _ => True) (signs z) := by
  intro m H e rm _
  have hl : (signs z).length = z.cps.size := by simp [signs]
  refine ⟨fun i hi => ⟨by rw [hl] at hi; exact hi, fun x H' y => ?_⟩, by rw [hl]; exact Nat.le_refl _⟩
  obtain ⟨rfl, c, hc, rfl⟩ := y
  refine ⟨Ext.refl _, rm, .str ⟨#[c]⟩, ?_, .str _⟩
  simp [signs, hc]
theorem ji_any {t : DE} (he : JE X e t) : JI X tg e (iAny t) := by
  refine ⟨(pi_any he.pe).imp fun σ H R' h => ?_⟩
  obtain ⟨ds, m, Q, rs, rm, q, k⟩ := h
  refine ⟨ds, m, _, rs, rm, q, fun d m1 v H1 e1 rm1 rv q1 => ?_⟩
  cases rv with
  | tup s r => exact .inr (.inl ⟨_, rfl, ⟨_, sqt s⟩, k _ _ _ _ _ e1 rm1 (rit_tup s r) q1⟩)
  | rol s r => exact .inl ⟨_, rfl, ⟨_, s.l⟩, k _ _ _ _ _ e1 rm1 (rit_list fun m H e _ _ => ⟨_, (s.ext e).l, r.ext e⟩) q1⟩
  | str z => exact .inr (.inr ⟨z, rfl, k _ _ _ _ _ e1 rm1 rit_str q1⟩)
  | ref a =>
    obtain ⟨l, h1, q1⟩ := q1
    obtain ⟨xs, ex, _⟩ := rm1 _ _ h1
    refine .inl ⟨a, rfl, ⟨xs, SqL.of ex⟩, k _ _ _ _ _ e1 rm1 (rit_list fun m H e rm2 c => ?_) q1⟩
    obtain ⟨ys, ey, ry⟩ := rm2 _ _ c
    exact ⟨ys, SqL.of ey, ry⟩
  | non => exact q1.elim
  | bl b => exact q1.elim
  | int i => exact q1.elim
def rangeD (lo : Int) (n : Nat) : List D := (List.range n).map fun i => .int (lo + (i : Nat))
theorem rit_rng {K : Frag} {lo : Int} {n : Nat} {H0 : Hp} : RIt K (Itr lo n) H0 (fun _ => True) (rangeD lo n) := by
  intro m H e rm _
  have hl : (rangeD lo n).length = n := by simp [rangeD]
  refine ⟨fun i hi => ⟨by rw [hl] at hi; exact hi, fun x H' y => ?_⟩, by rw [hl]; exact Nat.le_refl _⟩
  obtain ⟨rfl, rfl⟩ := y
  rw [hl] at hi
  refine ⟨Ext.refl _, rm, .int (lo + (i : Nat)), ?_, .int _⟩
  simp [rangeD, hi]
def iR1 (t : DA) : DI := fun ds m Q => t ds m fun l m1 => ∃ j : Int, l = [.int j] ∧ -(2 ^ 62) ≤ j ∧ j < 2 ^ 62 ∧ Q (fun _ => True) (rangeD 0 j.toNat) m1
def iR2 (t : DA) : DI := fun ds m Q => t ds m fun l m1 => ∃ i j : Int, l = [.int i, .int j] ∧ (-(2 ^ 62) ≤ i ∧ i < 2 ^ 62 ∧ -(2 ^ 62) ≤ j ∧ j < 2 ^ 62) ∧ Q (fun _ => True) (rangeD i (j - i).toNat) m1
theorem ji_r1 {a : Expr} {t : DA} {p pos : Pos} (hm : X.mg "range" = none) (ha : JA X [a] t) (hg : Gl X "range" := by rfl) (hs : starEach [a] X.env = [(false, eval a X.env)] := by rfl) : JI X tg (.Call (.Name "range" p) [a] [] pos) (iR1 t) := by
  refine ⟨(pi_range1 hg hm ha.pa hs).imp fun σ H R' h => ?_⟩
  obtain ⟨ds, m, Q, rs, rm, q, k⟩ := h
  refine ⟨ds, m, _, rs, rm, q, fun l m1 vs H1 e1 rm1 rv q1 => ?_⟩
  obtain ⟨j, rfl, h1, h2, q1⟩ := q1
  cases rv with
  | cons r rr =>
    cases rr
    cases r
    exact ⟨j, rfl, h1, h2, k _ _ _ _ _ e1 rm1 rit_rng q1⟩
theorem ji_r2 {a b : Expr} {t : DA} {p pos : Pos} (hm : X.mg "range" = none) (ha : JA X [a, b] t) (hg : Gl X "range" := by rfl) (hs : starEach [a, b] X.env = [(false, eval a X.env), (false, eval b X.env)] := by rfl) (hs2 : starEach [b] X.env = [(false, eval b X.env)] := by rfl) :
    JI X tg (.Call (.Name "range" p) [a, b] [] pos) (iR2 t) := by
  refine ⟨(pi_range2 hg hm ha.pa hs hs2).imp fun σ H R' h => ?_⟩
  obtain ⟨ds, m, Q, rs, rm, q, k⟩ := h
  refine ⟨ds, m, _, rs, rm, q, fun l m1 vs H1 e1 rm1 rv q1 => ?_⟩
  obtain ⟨i, j, rfl, h1, q1⟩ := q1
  cases rv with
  | cons r rr =>
    cases rr with
    | cons r2 rr =>
      cases rr
      cases r
      cases r2
      exact ⟨i, j, rfl, h1, k _ _ _ _ _ e1 rm1 rit_rng q1⟩
end

/-! ### methods of lists -/
abbrev DMt := D → List D → MH → DK → Prop
section
variable {X : Cx} {o e : Expr} {es : List Expr} {f : DE} {t : DA} {apos cpos : Pos} {id : String} {name : Str}
/-- a method of a list, by values -/
def MtJ (X : Cx) (id : String) (r : DMt) : Prop := ∃ rv, MtR X id rv ∧ ∀ H m x l xv vs Q Q', RM X.K m H → RD X.K H x xv → RDs X.K H l vs → r x l m Q → KE X.K H Q Q' → rv xv vs H Q'
def isL (m : MH) (x : D) : Prop := (∃ a l, x = .ref a ∧ m a = some (.lst l)) ∨ ∃ l, x = .rol l
theorem isL.ty {K : Frag} {m : MH} {H : Hp} {x : D} {xv : V} (h : isL m x) (rm : RM K m H) (r : RD K H x xv) : tyV K "list" xv H := by
  rcases h with ⟨a, l, rfl, h⟩ | ⟨l, rfl⟩
  · obtain ⟨xs, e, _⟩ := rm _ _ h
    cases r
    exact .inl ⟨rfl, xs, SqL.of e⟩
  · cases r with
    | rol s _ => exact .inl ⟨rfl, _, s.l⟩
def dM0 (r : DMt) (f : DE) : DE := fun ds m Q => f ds m fun x m1 => isL m1 x ∧ r x [] m1 Q
def dM (r : DMt) (f : DE) (t : DA) : DE := fun ds m Q => f ds m fun x m1 => isL m1 x ∧ t ds m1 fun l m2 => r x l m2 Q
theorem je_lm0 {r : DMt} (slot : Slot "list" name id) (hty : typeOf (.builtin id) = Pure.pure (.type "method_descriptor")) (hm : MtJ X id r) (ho : JE X o f)
    (hb : attributeBase o name X.env (eval o X.env) = eval o X.env := by rfl) (hl : (apos.endLine == cpos.line) = true := by rfl) : JE X (.Call (.Attribute o name apos) [] [] cpos) (dM0 r f) := by
  obtain ⟨rv, h1, h2⟩ := hm
  refine ⟨(pe_bm0 PySem.F.plainAttrs_list slot hty h1 ho.pe hb hl).imp fun σ H Q' h => ?_⟩
  obtain ⟨ds, m, Q, rs, rm, q, k⟩ := h
  refine ⟨ds, m, _, rs, rm, q, fun x m1 xv H1 e1 rm1 rx q1 => ⟨q1.1.ty rm1 rx, ?_⟩⟩
  exact h2 H1 m1 x [] xv [] Q Q' rm1 rx .nil q1.2 (k.ext e1)
theorem je_lm {r : DMt} (slot : Slot "list" name id) (hty : typeOf (.builtin id) = Pure.pure (.type "method_descriptor")) (hm : MtJ X id r) (ho : JE X o f) (ha : JA X (e :: es) t)
    (hb : attributeBase o name X.env (eval o X.env) = eval o X.env := by rfl)
    (hf : ((backTo cpos (starEach (e :: es) X.env)).all (fun x => !x.1) && (backToKw cpos (keywordEach [] X.env)).all (fun x => x.1.isSome) && decide ((e :: es).length + ([] : List Keyword).length + (if ([] : List Keyword).isEmpty then 0 else 1) < 30)) = true := by rfl)
    (hl : (apos.endLine == cpos.line) = true := by rfl) (hs : starEach (e :: es) X.env = (false, eval e X.env) :: starEach es X.env := by rfl) (hp : (backTo cpos (starEach es X.env)).any (·.1) = false := by rfl) :
    JE X (.Call (.Attribute o name apos) (e :: es) [] cpos) (dM r f t) := by
  obtain ⟨rv, h1, h2⟩ := hm
  refine ⟨(pe_bm PySem.F.plainAttrs_list slot hty h1 ho.pe ha.pa hb hf hl hs hp).imp fun σ H Q' h => ?_⟩
  obtain ⟨ds, m, Q, rs, rm, q, k⟩ := h
  refine ⟨ds, m, _, rs, rm, q, fun x m1 xv H1 e1 rm1 rx q1 => ⟨q1.1.ty rm1 rx, ?_⟩⟩
  refine ⟨ds, m1, _, rs.ext e1, rm1, q1.2, fun l m2 vs H2 e2 rm2 rv q2 => ?_⟩
  exact h2 H2 m2 x l xv vs Q Q' rm2 (rx.ext e2) rv q2 (k.ext (e1.trans e2))
def mAppend : DMt := fun x l m Q => ∃ a xs d, x = .ref a ∧ l = [d] ∧ m a = some (.lst xs) ∧ xs.length < sizeLine ∧ Q .non (mup m a (.lst (xs ++ [d])))
theorem mj_append : MtJ X "list.append" mAppend := by
  refine ⟨_, mt_append, ?_⟩
  intro H m x l xv vs Q Q' rm rx rl h k
  obtain ⟨a, xs, d, rfl, rfl, h1, h2, q⟩ := h
  obtain ⟨ys, e, r⟩ := rm _ _ h1
  cases rx
  cases rl with
  | cons rd rr =>
    cases rr
    exact ⟨a, ys, _, rfl, rfl, e, by rw [← r.length]; exact h2, k _ _ _ _ (Ext.lst e) (rm.upd (o := .lst _) (Ext.lst e) ⟨_, upd_same, (r.app (.cons rd .nil)).ext (Ext.lst e)⟩) .non q⟩
theorem je_append (ho : JE X o f) (ha : JA X (e :: es) t) (hb : attributeBase o "append" X.env (eval o X.env) = eval o X.env := by rfl)
    (hf : ((backTo cpos (starEach (e :: es) X.env)).all (fun x => !x.1) && (backToKw cpos (keywordEach [] X.env)).all (fun x => x.1.isSome) && decide ((e :: es).length + ([] : List Keyword).length + (if ([] : List Keyword).isEmpty then 0 else 1) < 30)) = true := by rfl)
    (hl : (apos.endLine == cpos.line) = true := by rfl) (hs : starEach (e :: es) X.env = (false, eval e X.env) :: starEach es X.env := by rfl) (hp : (backTo cpos (starEach es X.env)).any (·.1) = false := by rfl) :
    JE X (.Call (.Attribute o "append" apos) (e :: es) [] cpos) (dM mAppend f t) := je_lm PySem.F.slot_list_append PySem.F.type_list_append mj_append ho ha hb hf hl hs hp
def mPop : DMt := fun x l m Q => ∃ a xs d, x = .ref a ∧ l = [] ∧ m a = some (.lst xs) ∧ xs[xs.length - 1]? = some d ∧ Q d (mup m a (.lst xs.dropLast))
theorem mj_pop : MtJ X "list.pop" mPop := by
  refine ⟨_, mt_pop, ?_⟩
  intro H m x l xv vs Q Q' rm rx rl h k
  obtain ⟨a, xs, d, rfl, rfl, h1, h2, q⟩ := h
  obtain ⟨ys, e, r⟩ := rm _ _ h1
  cases rx
  cases rl
  obtain ⟨v, hv, rd⟩ := r.get h2
  exact ⟨a, ys, v, rfl, rfl, e, by rw [← r.length]; exact hv, k _ _ _ _ (Ext.lst e) (rm.upd (o := .lst _) (Ext.lst e) ⟨_, upd_same, r.dropLast.ext (Ext.lst e)⟩) (rd.ext (Ext.lst e)) q⟩
theorem je_pop0 (ho : JE X o f) (hb : attributeBase o "pop" X.env (eval o X.env) = eval o X.env := by rfl) (hl : (apos.endLine == cpos.line) = true := by rfl) : JE X (.Call (.Attribute o "pop" apos) [] [] cpos) (dM0 mPop f) := je_lm0 PySem.F.slot_list_pop PySem.F.type_list_pop mj_pop ho hb hl
def mPopAt : DMt := fun x l m Q => ∃ a xs i j d, x = .ref a ∧ l = [.int i] ∧ m a = some (.lst xs) ∧ -(2 ^ 63) ≤ i ∧ i < 2 ^ 63 ∧ seqIndex? i xs.length = some j ∧ xs[j]? = some d ∧ Q d (mup m a (.lst (xs.eraseIdx j)))
theorem mj_popAt : MtJ X "list.pop" mPopAt := by
  refine ⟨_, mt_popAt, ?_⟩
  intro H m x l xv vs Q Q' rm rx rl h k
  obtain ⟨a, xs, i, j, d, rfl, rfl, h1, h2, h3, h4, h5, q⟩ := h
  obtain ⟨ys, e, r⟩ := rm _ _ h1
  cases rx
  cases rl with
  | cons ri rr =>
    cases rr
    cases ri
    obtain ⟨v, hv, rd⟩ := r.get h5
    exact ⟨a, ys, i, j, v, rfl, rfl, e, h2, h3, by rw [← r.length]; exact h4, hv, k _ _ _ _ (Ext.lst e) (rm.upd (o := .lst _) (Ext.lst e) ⟨_, upd_same, (r.eraseIdx j).ext (Ext.lst e)⟩) (rd.ext (Ext.lst e)) q⟩
theorem je_pop1 (ho : JE X o f) (ha : JA X (e :: es) t) (hb : attributeBase o "pop" X.env (eval o X.env) = eval o X.env := by rfl)
    (hf : ((backTo cpos (starEach (e :: es) X.env)).all (fun x => !x.1) && (backToKw cpos (keywordEach [] X.env)).all (fun x => x.1.isSome) && decide ((e :: es).length + ([] : List Keyword).length + (if ([] : List Keyword).isEmpty then 0 else 1) < 30)) = true := by rfl)
    (hl : (apos.endLine == cpos.line) = true := by rfl) (hs : starEach (e :: es) X.env = (false, eval e X.env) :: starEach es X.env := by rfl) (hp : (backTo cpos (starEach es X.env)).any (·.1) = false := by rfl) :
    JE X (.Call (.Attribute o "pop" apos) (e :: es) [] cpos) (dM mPopAt f t) := je_lm PySem.F.slot_list_pop PySem.F.type_list_pop mj_popAt ho ha hb hf hl hs hp
end
end DL
/-! DL: the rest of the expressions: signs, chains, constants, sums, repr, isinstance; the law's own call. -/
namespace DL
open PySem PySem.Spec PyProof.Rows L2
section
variable {X : Cx} {a b c : Expr} {f g h : DE} {pos : Pos}
theorem oj_notin {k : Nat} (hr : Room k X.A) : OpJ X (compareOp .NotIn) aNotIn := by
  refine opj (OpR.or (op_notInDict (hu_of hr)) (OpR.or (op_notInD (room66 hr)) (OpR.or (op_notInTup (room66 hr)) op_notIn_sign))) ?_
  intro H m x y xv yv Q Q' rm rx ry h k
  obtain ⟨b, h, q⟩ := h
  have fin := k _ _ (.bl (!b)) H (Ext.refl H) rm (.bl (!b)) q
  rcases h with ⟨a, o, rfl, g, rfl⟩ | ⟨p, ps, h1, h2, h3, h4, rfl⟩ | ⟨p, ps, h1, h2, h3, h4, rfl⟩ | ⟨c, z, rfl, rfl, rfl⟩
  · cases ry
    rcases g.v rm rx with ⟨rfl, g'⟩ | ⟨d', v, rfl, g', rd⟩
    · exact .inl ⟨a, none, rfl, g', fin⟩
    · exact .inl ⟨a, some v, rfl, g', fin⟩
  · exact .inr (.inl ⟨p, ps, h1.dp rm rx, h2.dp rm ry, h3, h4, fin⟩)
  · exact .inr (.inr (.inl ⟨p, ps, h1.dp rm rx, h2.dp rm ry, h3, h4, fin⟩))
  · cases rx
    cases ry
    exact .inr (.inr (.inr ⟨c, z, rfl, rfl, fin⟩))
/-! ### signs, constants -/
def dNeg (f : DE) : DE := fun ds m Q => f ds m fun x m1 => ∃ i, x = .int i ∧ Q (.int (-i)) m1
theorem je_neg (ha : JE X a f) : JE X (.UnaryOp .USub a pos) (dNeg f) := by
  refine ⟨(pe_un un_neg ha.pe).imp fun σ H Q' h => ?_⟩
  obtain ⟨ds, m, Q, rs, rm, q, k⟩ := h
  refine ⟨ds, m, _, rs, rm, q, fun x m1 v H1 e1 rm1 rv q1 => ?_⟩
  obtain ⟨i, rfl, q1⟩ := q1
  cases rv
  exact ⟨i, rfl, k _ _ _ _ e1 rm1 (.int _) q1⟩
/-- a constant of the module, a whole number -/
theorem je_k {x : Str} {i : Int} {p : Pos} (hm : ∃ t, X.mg x = some (.int i t)) (hg : Gl X x := by rfl) (hd : (x == ("__debug__" : Str)) = false := by decide) : JE X (.Name x p) (dC (.int i)) := by
  obtain ⟨t, hm⟩ := hm
  exact je_c (pe_glob (v := .int i) hg hm ⟨t, rfl⟩ hd) fun _ => .int i
theorem je_ks {x y : Str} {p : Pos} (hm : ∃ t, X.mg x = some (.str y t)) (hg : Gl X x := by rfl) (hd : (x == ("__debug__" : Str)) = false := by decide) : JE X (.Name x p) (dC (.str y)) := by
  obtain ⟨t, hm⟩ := hm
  exact je_c (pe_glob (v := .str y) hg hm ⟨t, rfl⟩ hd) fun _ => .str y
/-! ### chains -/
theorem chain_of {fv gv : Value → Value → Sem Value} {r r' : DOp} {rv rv' : R2} (h1 : ∀ H m x y xv yv Q Q', RM X.K m H → RD X.K H x xv → RD X.K H y yv → r x y m Q → KE X.K H Q Q' → rv xv yv H Q')
    (h2 : ∀ H m x y xv yv Q Q', RM X.K m H → RD X.K H x xv → RD X.K H y yv → r' x y m Q → KE X.K H Q Q' → rv' xv yv H Q') (σ : L2.St) (H : Hp) (Q' : VK) (hh : lE X.K (dChain r r' f g h) σ H Q') :
    tChain rv rv' (lE X.K f) (lE X.K g) (lE X.K h) σ H Q' := by
  obtain ⟨ds, m, Q, rs, rm, q, k⟩ := hh
  refine ⟨ds, m, _, rs, rm, q, fun x m1 xv H1 e1 rm1 rx q1 => ?_⟩
  refine ⟨ds, m1, _, rs.ext e1, rm1, q1, fun y m2 yv H2 e2 rm2 ry q2 => ?_⟩
  refine h1 H2 m2 x y xv yv _ _ rm2 (rx.ext e2) ry q2 fun z m3 zv H3 e3 rm3 rz q3 => ?_
  obtain ⟨kk, rfl, q3⟩ := q3
  cases rz
  refine ⟨kk, rfl, ?_⟩
  cases kk with
  | false => exact k _ _ _ _ ((e1.trans e2).trans e3) rm3 (.bl _) q3
  | true =>
    refine ⟨ds, m3, _, rs.ext ((e1.trans e2).trans e3), rm3, q3, fun c m4 cv H4 e4 rm4 rc q4 => ?_⟩
    exact h2 H4 m4 y c yv cv Q Q' rm4 (ry.ext (e3.trans e4)) rc q4 (k.ext (((e1.trans e2).trans e3).trans e4))
theorem je_chain {op op' : CmpOp} {r r' : DOp} (ho : OpJ X (compareOp op) r) (ho' : OpJ X (compareOp op') r') (ha : JE X a f) (hb : JE X b g) (hc : JE X c h)
    (hm : lastMarks [op, op'] [b, c] = false := by with_unfolding_all rfl) : JE X (.Compare a [op, op'] [b, c] pos) (dChain r r' f g h) := by
  obtain ⟨rv, a1, a2⟩ := ho
  obtain ⟨rv', b1, b2⟩ := ho'
  exact ⟨(pe_chain a1 b1 ha.pe hb.pe hc.pe hm).imp fun σ H Q' hh => chain_of (X := X) (fv := compareOp op) (gv := compareOp op') a2 b2 σ H Q' hh⟩
theorem jt_chain {op op' : CmpOp} {r r' : DOp} (ho : OpJ X (compareOp op) r) (ho' : OpJ X (compareOp op') r') (ha : JE X a f) (hb : JE X b g) (hc : JE X c h)
    (hm : lastMarks [op, op'] [b, c] = false := by with_unfolding_all rfl) : JT X (.Compare a [op, op'] [b, c] pos) (dB (dChain r r' f g h)) := by
  obtain ⟨rv, a1, a2⟩ := ho
  obtain ⟨rv', b1, b2⟩ := ho'
  refine ⟨(pt_chain a1 b1 ha.pe hb.pe hc.pe hm).imp fun σ H Q' hh => ?_⟩
  obtain ⟨ds, m, Q, rs, rm, q, k⟩ := hh
  refine chain_of (X := X) (fv := compareOp op) (gv := compareOp op') a2 b2 σ H _ ⟨ds, m, _, rs, rm, q, fun z m1 v H1 e1 rm1 rz q1 => ?_⟩
  obtain ⟨kk, rfl, q1⟩ := q1
  cases rz
  exact ⟨kk, rfl, k _ _ _ e1 rm1 q1⟩
/-- what is never reached -/
def dNever : DS := fun _ _ _ => False
theorem js_never {st : Stmt} : JS X st dNever := ⟨ps_never.imp fun _ _ _ ⟨_, _, _, _, _, q, _⟩ => q.elim⟩
/-! ### sums, all, any -/
theorem one_ref {K : Frag} {m : MH} {H : Hp} {p : Addr} {l : List D} (rm : RM K m H) (h : m p = some (.lst l)) : ∃ xs, SqL K H p xs ∧ RDs K H l xs := by
  obtain ⟨xs, e, r⟩ := rm _ _ h
  exact ⟨xs, SqL.of e, r⟩
def bSum : DCl := fun l m Q => ∃ (p : Addr) (ns : List Int), l = [.ref p] ∧ m p = some (.lst (ns.map .int)) ∧ Q (.int ns.sum) m
theorem cj_sum (hc : X.calm = true) : CallJ X (.builtin "sum") bSum := by
  refine ⟨_, cr_sum hc, ?_⟩
  intro H m l vs Q Q' rm rl h k
  obtain ⟨p, ns, rfl, h1, q⟩ := h
  obtain ⟨xs, e, r⟩ := one_ref rm h1
  cases rl with
  | cons r1 rr =>
    cases rr
    cases r1
    rw [rds_ints r] at e
    exact ⟨p, ns, rfl, e, k _ _ _ _ (Ext.refl H) rm (.int _) q⟩
theorem rds_bls {K : Frag} {H : Hp} : ∀ {bs : List Bool} {xs : List V}, RDs K H (bs.map .bl) xs → xs = bs.map V.bl
  | [], _, .nil => rfl
  | n :: ns, _, .cons (.bl _) t => by rw [List.map_cons, rds_bls t]
def bAll : DCl := fun l m Q => ∃ (p : Addr) (bs : List Bool), l = [.ref p] ∧ m p = some (.lst (bs.map .bl)) ∧ Q (.bl (bs.all id)) m
theorem cj_all (hc : X.calm = true) : CallJ X (.builtin "all") bAll := by
  refine ⟨_, cr_all hc, ?_⟩
  intro H m l vs Q Q' rm rl h k
  obtain ⟨p, ns, rfl, h1, q⟩ := h
  obtain ⟨xs, e, r⟩ := one_ref rm h1
  cases rl with
  | cons r1 rr =>
    cases rr
    cases r1
    rw [rds_bls r] at e
    exact ⟨p, ns, rfl, e, k _ _ _ _ (Ext.refl H) rm (.bl _) q⟩
def bAny : DCl := fun l m Q => ∃ (p : Addr) (bs : List Bool), l = [.ref p] ∧ m p = some (.lst (bs.map .bl)) ∧ Q (.bl (bs.any id)) m
theorem cj_any (hc : X.calm = true) : CallJ X (.builtin "any") bAny := by
  refine ⟨_, cr_any hc, ?_⟩
  intro H m l vs Q Q' rm rl h k
  obtain ⟨p, ns, rfl, h1, q⟩ := h
  obtain ⟨xs, e, r⟩ := one_ref rm h1
  cases rl with
  | cons r1 rr =>
    cases rr
    cases r1
    rw [rds_bls r] at e
    exact ⟨p, ns, rfl, e, k _ _ _ _ (Ext.refl H) rm (.bl _) q⟩
def bMin : DCl
  | [.int i, .int j], m, Q => Q (.int (if j < i then j else i)) m
  | [.ref p], m, Q => ∃ ns : List Int, m p = some (.lst (ns.map .int)) ∧ 0 < ns.length ∧ ∀ k, k ∈ ns → (∀ y, y ∈ ns → k ≤ y) → Q (.int k) m
  | _, _, _ => False
theorem cj_min {k : Nat} (hc : X.calm = true) (hr : Room k X.A) : CallJ X (.builtin "min") bMin := by
  refine ⟨_, CallR.or (call_min2 hc) (cr_min hc), ?_⟩
  intro H m l vs Q Q' rm rl h k
  cases rl with
  | nil => exact h.elim
  | cons r1 rr =>
    cases rr with
    | nil =>
      cases r1 <;> try exact h.elim
      obtain ⟨ns, h1, h2, q⟩ := h
      obtain ⟨xs, e, r⟩ := one_ref rm h1
      rw [rds_ints r] at e
      exact .inr ⟨_, ns, rfl, e, h2, fun y hy hl => k _ _ _ _ (Ext.refl H) rm (.int _) (q y hy hl)⟩
    | cons r2 rr =>
      cases rr with
      | nil =>
        cases r1 <;> try exact h.elim
        cases r2 <;> try exact h.elim
        exact .inl ⟨_, _, rfl, k _ _ _ _ (Ext.refl H) rm (.int _) h⟩
      | cons _ _ => cases r1 <;> first | exact h.elim | (cases r2 <;> exact h.elim)
def bMax : DCl
  | [.int i, .int j], m, Q => Q (.int (if j > i then j else i)) m
  | [.ref p], m, Q => ∃ ns : List Int, m p = some (.lst (ns.map .int)) ∧ 0 < ns.length ∧ ∀ k, k ∈ ns → (∀ y, y ∈ ns → y ≤ k) → Q (.int k) m
  | _, _, _ => False
theorem cj_max {k : Nat} (hc : X.calm = true) (hr : Room k X.A) : CallJ X (.builtin "max") bMax := by
  refine ⟨_, CallR.or (call_max2 hc) (cr_max hc), ?_⟩
  intro H m l vs Q Q' rm rl h k
  cases rl with
  | nil => exact h.elim
  | cons r1 rr =>
    cases rr with
    | nil =>
      cases r1 <;> try exact h.elim
      obtain ⟨ns, h1, h2, q⟩ := h
      obtain ⟨xs, e, r⟩ := one_ref rm h1
      rw [rds_ints r] at e
      exact .inr ⟨_, ns, rfl, e, h2, fun y hy hl => k _ _ _ _ (Ext.refl H) rm (.int _) (q y hy hl)⟩
    | cons r2 rr =>
      cases rr with
      | nil =>
        cases r1 <;> try exact h.elim
        cases r2 <;> try exact h.elim
        exact .inl ⟨_, _, rfl, k _ _ _ _ (Ext.refl H) rm (.int _) h⟩
      | cons _ _ => cases r1 <;> first | exact h.elim | (cases r2 <;> exact h.elim)
/-- list(range(n)) -/
def dListR1 (f : DE) : DE := fun ds m Q => f ds m fun x m1 => ∃ j, x = .int j ∧ RgOk 0 j ∧ aNew (.lst (rangeD 0 j.toNat)) m1 Q
theorem rds_range {K : Frag} {H : Hp} (lo : Int) : ∀ l : List Nat, RDs K H (l.map fun i => .int (lo + (i : Nat))) (l.map fun i => V.int (lo + (i : Nat)))
  | [] => .nil
  | n :: ns => .cons (.int _) (rds_range lo ns)
theorem je_listR1 {e : Expr} {p p2 pos2 : Pos} (hm : X.mg "list" = none) (hm2 : X.mg "range" = none) (he : JE X e f) (hc : X.calm = true := by rfl) (hg : Gl X "list" := by rfl) (hg2 : Gl X "range" := by rfl) (na2 : starEach [e] X.env = (false, eval e X.env) :: starEach [] X.env := by rfl)
    (na : starEach [.Call (.Name "range" p2) [e] [] pos2] X.env = (false, eval (.Call (.Name "range" p2) [e] [] pos2) X.env) :: starEach [] X.env := by rfl) : JE X (.Call (.Name "list" p) [.Call (.Name "range" p2) [e] [] pos2] [] pos) (dListR1 f) := by
  refine ⟨(pe_listRg hc hg hm (prg_1 hg2 hm2 he.pe na2) na).imp fun σ H Q' h => ?_⟩
  obtain ⟨ds, m, Q, rs, rm, q, k⟩ := h
  refine ⟨ds, m, _, rs, rm, q, fun x m1 v H1 e1 rm1 rv q1 => ?_⟩
  obtain ⟨j, rfl, h1, q1⟩ := q1
  cases rv
  refine ⟨j, rfl, h1, fun p hp => k _ _ _ _ (e1.trans (Ext.fresh hp)) (rm1.upd (o := .lst _) (Ext.fresh hp) ⟨_, upd_same, ?_⟩) (.ref p) (q1 p (rm1.none hp))⟩
  have e0 : (j - 0).toNat = j.toNat := by omega
  unfold rangeD rgV
  rw [e0]
  exact rds_range 0 _
end

/-! ### repr -/
def keyP : Key → PyData
  | .inl i => .int i
  | .inr x => .str x
/-- a leaf -/
inductive PL : D → PyData → Prop
  | non : PL .non .none
  | bl (b : Bool) : PL (.bl b) (.bool b)
  | int (i : Int) : PL (.int i) (.int i)
  | str (x : Str) : PL (.str x) (.str x)
inductive PLs : List D → List PyData → Prop
  | nil : PLs [] []
  | cons {d : D} {p : PyData} {l : List D} {ps : List PyData} : PL d p → PLs l ps → PLs (d :: l) (p :: ps)
mutual
/-- data with lists, with dicts (of leaves) -/
inductive PX (m : MH) : D → PyData → Prop
  | leaf {d : D} {p : PyData} : PL d p → PX m d p
  | tup {l : List D} {ps : List PyData} : PXs m l ps → PX m (.tup l) (.tuple ps)
  | lst {a : Addr} {l : List D} {ps : List PyData} : m a = some (.lst l) → PXs m l ps → PX m (.ref a) (.list ps)
  | dct {a : Addr} {kvs : List (Key × D)} {ps : List PyData} : m a = some (.dct kvs) → PLs (kvs.map (·.2)) ps → PX m (.ref a) (.dict ((kvs.map fun kv => keyP kv.1).zip ps))
inductive PXs (m : MH) : List D → List PyData → Prop
  | nil : PXs m [] []
  | cons {d : D} {p : PyData} {l : List D} {ps : List PyData} : PX m d p → PXs m l ps → PXs m (d :: l) (p :: ps)
end
theorem PLs.len : ∀ {l : List D} {ps : List PyData}, PLs l ps → l.length = ps.length
  | _, _, .nil => rfl
  | _, _, .cons _ t => congrArg (· + 1) (PLs.len t)
theorem PL.reads {K : Frag} {H : Hp} {hp : Heap} {d : D} {p : PyData} {v : V} {u : Value} (h : PL d p) (rd : RD K H d v) (ru : L2.RelV v u) : Reads hp u p [] := by
  cases h with
  | non => cases rd; cases ru; exact .none
  | bl b => cases rd; cases ru; exact .bool b
  | int i => cases rd; obtain ⟨t, rfl⟩ := ru; exact .int i t
  | str x => cases rd; obtain ⟨t, rfl⟩ := ru; exact .str x t
theorem reads_key {h : Heap} {k : Key} {u : Value} (e : keyIs k u = true) : Reads h u (keyP k) [] := by
  rcases keyIs_shape e with ⟨i, t, rfl, rfl⟩ | ⟨x, t, rfl, rfl⟩
  · exact .int i t
  · exact .str x t
theorem PLs.readsK {P : Program} {w : World} {K : Frag} {H : Hp} {hp : Heap} : ∀ {kvs : List (Key × D)} {ps : List PyData} {xs : List (Key × V)} {vs : List (Key × Value)} {es : List DictEntry}, PLs (kvs.map (·.2)) ps → RKs K H kvs xs → KV xs vs → Pairs (mixKind P w) es vs →
    ReadsAll hp (es.map (·.key)) (kvs.map fun kv => keyP kv.1) [] ∧ ReadsAll hp (es.map (·.val)) ps []
  | [], _, _, _, _, .nil, .nil, .nil, .nil => ⟨.nil, .nil⟩
  | _ :: _, _, _, _, _, .cons h t, .cons r rs, .cons q vs, .cons hk hv hp => by
    obtain ⟨k1, v⟩ := q
    obtain ⟨b0, b1⟩ := PLs.readsK t rs vs hp
    refine ⟨.cons (as := []) (bs := []) (reads_key ((congrArg (fun z => keyIs z _) k1).trans hk)) b0, ?_⟩
    rw [List.map_cons, hv]
    exact .cons (as := []) (bs := []) (h.reads r v) b1
section
variable {X : Cx} {pins : List (Addr × Obj)} {σ : L2.St} {H : Hp} {s : Shared} {m : MH}
mutual
/-- what a value is in the heap, and how it is written there -/
theorem PX.look (I : L2.Inv X pins σ H s) (rm : RM X.K m H) : ∀ {d : D} {p : PyData} {v : V} {u : Value}, PX m d p → RD X.K H d v → L2.RelV v u → p.showable = true → p.shown.length ≤ sizeLine →
    ∃ as bs, Reads s.heap u p as ∧ ReadAtMost s.heap p.depth bs ∧ ReprK X.prog X.w bs s.heap p.depth u p.shown
  | d, p, v, u, .leaf h1, rd, ru, hs, hz => by
    have r : Reads s.heap u p [] := h1.reads rd ru
    obtain ⟨bs, b1, b2⟩ := ReprK.of_reads (prog := X.prog) (w := X.w) r hs (fun _ hm => nomatch hm) hz
    exact ⟨[], bs, r, b1, b2⟩
  | _, _, _, u, .tup (ps := ps) h, .tup (a := a) hH r, ru, hs, hz => by
    obtain rfl : u = Value.ref a := ru
    obtain ⟨its, rv, ⟨o, ho, hc, n, hd⟩, hl⟩ := I.tuple (sqt hH)
    have hz2 : (tupleText (PyData.shownAll ps)).length ≤ sizeLine := by rw [PyData.shown] at hz; exact hz
    obtain ⟨as, bs, r1, b1, k1⟩ := PXs.look I rm h r rv (by rw [PyData.showable] at hs; exact hs) fun t ht => Nat.le_trans (tupleText_mem_le ht) hz2
    have r2 : Reads s.heap (.ref a) (.tuple ps) as := .tuple ho hc hd (by simpa using r1)
    have hna : a ∉ bs := not_mem_of_deeper r2 (by rw [PyData.depth]; exact Nat.lt_succ_self _) b1
    refine ⟨as, a :: bs, r2, ReadAtMost.cons r2 (by rw [PyData.depth]; exact Nat.le_succ _) b1, ?_⟩
    rw [PyData.depth, PyData.shown]
    exact ReprK.tuple ho hc hd hna (by simpa using k1)
  | _, _, _, u, .lst (a := a) (ps := ps) e h, .ref _, ru, hs, hz => by
    obtain rfl : u = Value.ref a := ru
    obtain ⟨xs, hx, rx⟩ := rm _ _ e
    obtain ⟨hl, its, n, rv, _, ho⟩ := I.lstM hx
    have hz2 : (listText (PyData.shownAll ps)).length ≤ sizeLine := by rw [PyData.shown] at hz; exact hz
    obtain ⟨as, bs, r1, b1, k1⟩ := PXs.look I rm h rx rv (by rw [PyData.showable] at hs; exact hs) fun t ht => Nat.le_trans (listText_mem_le ht) hz2
    have r2 : Reads s.heap (.ref a) (.list ps) (a :: as) := .list ho rfl rfl (by simpa using r1)
    have hna : a ∉ bs := not_mem_of_deeper r2 (by rw [PyData.depth]; exact Nat.lt_succ_self _) b1
    refine ⟨a :: as, a :: bs, r2, ReadAtMost.cons r2 (by rw [PyData.depth]; exact Nat.le_succ _) b1, ?_⟩
    rw [PyData.depth, PyData.shown]
    cases its with
    | nil =>
      cases r1
      rw [PyData.shownAll, listText_nil]
      exact ReprK.listEmpty ho rfl rfl
    | cons x l => exact ReprK.list ho rfl rfl hna (by simpa using k1.length_eq) fun i y ey => k1.item i y (by simpa using ey)
  | _, _, _, u, .dct (a := a) (kvs := kvs) (ps := ps) e h, .ref _, ru, hs, hz => by
    obtain rfl : u = Value.ref a := ru
    obtain ⟨xs, hx, rx⟩ := rm _ _ e
    obtain ⟨z, hsm, vs, kv, o, es, ep, ho, hx2, hdat, hk, hp, hn⟩ := I.hok a _ hx
    obtain ⟨r1, r2⟩ := PLs.readsK (hp := s.heap) h rx kv hp
    have el : (kvs.map fun kv => keyP kv.1).length = ps.length := by
      have := PLs.len h
      rw [List.length_map] at this ⊢
      exact this
    have r : Reads s.heap (.ref a) (.dict ((kvs.map fun kv => keyP kv.1).zip ps)) (a :: [] ++ []) := by
      refine .dict ho hx2.1 hdat ?_ ?_
      · rw [List.map_fst_zip (by rw [el]; exact Nat.le_refl _)]
        exact r1
      · rw [List.map_snd_zip (by rw [el]; exact Nat.le_refl _)]
        exact r2
    obtain ⟨bs, b1, b2⟩ := ReprK.of_reads (prog := X.prog) (w := X.w) r hs (fun _ hm => by
      have e : sysModules = a := by simpa using hm
      rw [e] at hsm
      simp at hsm) hz
    exact ⟨_, bs, r, b1, b2⟩
theorem PXs.look (I : L2.Inv X pins σ H s) (rm : RM X.K m H) : ∀ {l : List D} {ps : List PyData} {vs : List V} {us : List Value}, PXs m l ps → RDs X.K H l vs → Vals vs us → PyData.showableAll ps = true → (∀ t ∈ PyData.shownAll ps, t.length ≤ sizeLine) →
    ∃ as bs, ReadsAll s.heap us ps as ∧ ReadAtMost s.heap (PyData.depthAll ps) bs ∧ ReprAllK X.prog X.w bs s.heap (PyData.depthAll ps) us (PyData.shownAll ps)
  | _, _, _, _, .nil, .nil, .nil, _, _ => ⟨[], [], .nil, fun _ hm => (nomatch hm), by rw [PyData.shownAll]; exact .nil⟩
  | _, _, _, _, .cons h t, .cons r rs, .cons v vs, hs, hz => by
    rw [PyData.showableAll, Bool.and_eq_true] at hs
    rw [PyData.shownAll] at hz
    obtain ⟨as, bs, a1, a2, a3⟩ := PX.look I rm h r v hs.1 (hz _ (by simp))
    obtain ⟨as2, bs2, c1, c2, c3⟩ := PXs.look I rm t rs vs hs.2 fun t ht => hz t (by simp [ht])
    refine ⟨as ++ as2, bs ++ bs2, .cons a1 c1, ?_, ?_⟩
    · rw [PyData.depthAll]
      exact (a2.mono (Nat.le_max_left _ _)).append (c2.mono (Nat.le_max_right _ _))
    · rw [PyData.depthAll, PyData.shownAll]
      exact .cons ((a3.more fun b hb => List.mem_append_left _ hb).level_le (Nat.le_max_left _ _)) (c3.more_le (fun b hb => List.mem_append_right _ hb) (Nat.le_max_right _ _))
end
/-- repr(x) -/
theorem PX.call (I : L2.Inv X pins σ H s) (rm : RM X.K m H) {k : Nat} (gd : X.A.guards = some []) (hr : Room k X.A) {d : D} {p : PyData} {v : V} {a : Addr} {Q : VK} (h : PX m d p) (rd : RD X.K H d v) (ru : L2.RelV v (.ref a)) (hs : p.showable = true) (hd : p.depth ≤ 40) (hz : p.shown.length ≤ sizeLine) (q : Q (.str p.shown) H) :
    wpAny (model X.prog X.w) X.A (call (.builtin "repr") [.ref a]) (EP X pins σ Q) X.xe s := by
  have hu := hr.un
  have fin : ∀ h' u tk, (∀ b o, s.heap.get? b = some o → h'.get? b = some o) → ∃ x t, Value.str p.shown u = .str x t ∧ EP X pins σ Q (Value.str p.shown u) { s with heap := h', toks := tk } := fun h' u tk hk => ⟨_, _, rfl, .str p.shown, H, I.kept (t' := tk) hk, ⟨u, rfl⟩, q⟩
  cases h with
  | leaf h1 =>
    exfalso
    cases h1 <;> cases rd
    · exact nomatch (show Value.ref a = Value.none from ru)
    · exact nomatch (show Value.ref a = Value.bool _ from ru)
    · obtain ⟨t, e⟩ := ru; cases e
    · obtain ⟨t, e⟩ := ru; cases e
  | tup h =>
    rename_i l ps
    cases rd with
    | tup hH r =>
      cases ru
      obtain ⟨its, rv, ⟨o, ho, hc, n, hdt⟩, hl⟩ := I.tuple (sqt hH)
      have hz2 : (tupleText (PyData.shownAll ps)).length ≤ sizeLine := by rw [PyData.shown] at hz; exact hz
      obtain ⟨as, bs, r1, b1, k1⟩ := PXs.look I rm h r rv (by rw [PyData.showable] at hs; exact hs) fun t ht => Nat.le_trans (tupleText_mem_le ht) hz2
      have r2 : Reads s.heap (.ref a) (.tuple ps) as := .tuple ho hc hdt (by simpa using r1)
      have hna : a ∉ bs := not_mem_of_deeper r2 (by rw [PyData.depth]; exact Nat.lt_succ_self _) b1
      rw [PyData.depth] at hd
      rw [PyData.shown] at fin
      refine call_repr_slot (by omega) ⟨o, ho, hc⟩ F.slot_tuple_repr (call_tuple_reprK ho hc hdt hna (by simpa using k1) gd (fun b _ => Clear.nil b) (by show X.A.units + 1 + _ < cLine; omega) (fun _ _ e => e) fin hz2)
  | lst e h =>
    rename_i l ps
    cases rd
    cases ru
    obtain ⟨xs, hx, rx⟩ := rm _ _ e
    obtain ⟨hl, its, n, rv, _, ho⟩ := I.lstM hx
    have hz2 : (listText (PyData.shownAll ps)).length ≤ sizeLine := by rw [PyData.shown] at hz; exact hz
    obtain ⟨as, bs, r1, b1, k1⟩ := PXs.look I rm h rx rv (by rw [PyData.showable] at hs; exact hs) fun t ht => Nat.le_trans (listText_mem_le ht) hz2
    have r2 : Reads s.heap (.ref a) (.list ps) (a :: as) := .list ho rfl rfl (by simpa using r1)
    have hna : a ∉ bs := not_mem_of_deeper r2 (by rw [PyData.depth]; exact Nat.lt_succ_self _) b1
    rw [PyData.depth] at hd
    rw [PyData.shown] at fin
    refine call_repr_slot (by omega) ⟨_, ho, rfl⟩ F.slot_list_repr.toG ?_
    cases its with
    | nil =>
      cases r1
      rw [PyData.shownAll, listText_nil] at fin
      exact call_list_repr_empty ⟨_, ho, rfl⟩ ho rfl (fin s.heap _ _ fun _ _ e => e)
    | cons x l => exact call_list_reprK ho rfl rfl hna (by simpa using k1.length_eq) (fun i y ey => k1.item i y (by simpa using ey)) gd (fun b _ => Clear.nil b) (by show X.A.units + 1 + _ < cLine; omega) (fun _ _ e => e) fin hz2
  | dct e h =>
    rename_i kvs ps
    cases rd
    cases ru
    obtain ⟨xs, hx, rx⟩ := rm _ _ e
    obtain ⟨z, hsm, vs, kv, o, es, ep, ho, hx2, hdat, hk, hp, hn⟩ := I.hok a _ hx
    obtain ⟨r1, r2⟩ := PLs.readsK (hp := s.heap) h rx kv hp
    have el : (kvs.map fun kv => keyP kv.1).length = ps.length := by
      have := PLs.len h
      rw [List.length_map] at this ⊢
      exact this
    have r : Reads s.heap (.ref a) (.dict ((kvs.map fun kv => keyP kv.1).zip ps)) (a :: [] ++ []) := by
      refine .dict ho hx2.1 hdat ?_ ?_
      · rw [List.map_fst_zip (by rw [el]; exact Nat.le_refl _)]
        exact r1
      · rw [List.map_snd_zip (by rw [el]; exact Nat.le_refl _)]
        exact r2
    exact repr_of_reads' r hs (fun _ hm => by
      have e : sysModules = a := by simpa using hm
      rw [e] at hsm
      simp at hsm) gd (by omega) (fun _ _ e => e) (fun h' u tk hk => ⟨.str _, H, I.kept (t' := tk) hk, ⟨u, rfl⟩, q⟩) hz
end
theorem PD.flat {m : MH} : ∀ {d : D} {p : PyData}, PD m d p → p.hasDict = false
  | _, _, .non => by rw [PyData.hasDict]
  | _, _, .bl b => by rw [PyData.hasDict]
  | _, _, .int i => by rw [PyData.hasDict]
  | _, _, .str x => by rw [PyData.hasDict]
  | _, _, .tup h => by rw [PyData.hasDict]; exact PDs.flat h
  | _, _, .rol h => by rw [PyData.hasDict]; exact PDs.flat h
  | _, _, .lst _ h => by rw [PyData.hasDict]; exact PDs.flat h
where PDs.flat {m : MH} : ∀ {l : List D} {ps : List PyData}, PDs m l ps → PyData.hasDictAll ps = false
  | _, _, .nil => by rw [PyData.hasDictAll]
  | _, _, .cons h t => by rw [PyData.hasDictAll, PD.flat h, PDs.flat t, Bool.or_false]
section
variable {X : Cx}
/-- how a value is written -/
def bRepr : DCl := fun l m Q => ∃ d p, l = [d] ∧ (PD m d p ∨ PX m d p) ∧ p.showable = true ∧ p.depth ≤ 40 ∧ p.shown.length ≤ sizeLine ∧ Q (.str p.shown) m
theorem call_reprD {k : Nat} (gd : X.A.guards = some []) (hr : Room k X.A) : CallR X (.builtin "repr") (fun vs H Q => ∃ v d m p, vs = [v] ∧ RM X.K m H ∧ RD X.K H d v ∧ (PD m d p ∨ PX m d p) ∧ p.showable = true ∧ p.depth ≤ 40 ∧ p.shown.length ≤ sizeLine ∧ Q (.str p.shown) H) := by
  intro pins s σ H vs us Q I r h
  obtain ⟨v, d, m, p, rfl, rm, rd, hp, hs, hd, hz, q⟩ := h
  obtain ⟨u, rfl, ru⟩ := vals1 r
  have hu := hr.un
  have fin2 : ∀ t n, EP X pins σ Q (.str p.shown t) { s with toks := n } := fun t n => ⟨.str p.shown, H, I.tok n, ⟨t, rfl⟩, q⟩
  have small : ∀ {p' : PyData}, p' = p → PL d p' → wpAny (model X.prog X.w) X.A (call (.builtin "repr") [u]) (EP X pins σ Q) X.xe s := by
    rintro p' rfl h1
    cases h1 with
    | non =>
      cases rd
      cases ru
      refine P.repr_of_none ?_
      have e : PyData.none.shown = "None" := by rw [PyData.shown]
      rw [← e]
      exact fin2 _ _
    | bl b =>
      cases rd
      cases ru
      refine P.repr_of_bool ?_
      have e : (PyData.bool b).shown = (if b = true then ("True" : Str) else ("False" : Str)) := by rw [PyData.shown]
      rw [← e]
      exact fin2 _ _
    | int i =>
      cases rd
      obtain ⟨t, rfl⟩ := ru
      have e : (PyData.int i).shown = toString i := by rw [PyData.shown]
      refine P.repr_of_int (by rw [PyData.showable] at hs; exact of_decide_eq_true hs) ?_
      rw [← e]
      exact fin2 _ _
    | str x =>
      cases rd
      obtain ⟨t, rfl⟩ := ru
      have e : (PyData.str x).shown = reprText x := by rw [PyData.shown]
      refine P.repr_of_str ?_ (by rw [← e]; exact hz)
      rw [← e]
      exact fin2 _ _
  have big : ∀ {a : Addr} {as : List Addr}, u = .ref a → PD m d p → Reads s.heap (.ref a) p as → wpAny (model X.prog X.w) X.A (call (.builtin "repr") [u]) (EP X pins σ Q) X.xe s := by
    rintro a as rfl hpd hq
    exact repr_of_reads' hq hs (PyData.noDict_hsm hpd.flat) gd (by omega) (fun _ _ e => e) (fun h' t tk hk => ⟨.str p.shown, H, I.kept (t' := tk) hk, ⟨t, rfl⟩, q⟩) hz
  rcases hp with hp | hp
  · have hp0 := hp
    obtain ⟨as, hreads⟩ := Dp.reads I p _ u (hp.dp rm rd) ru
    cases hp with
    | non => exact small rfl .non
    | bl b => exact small rfl (.bl b)
    | int i => exact small rfl (.int i)
    | str x => exact small rfl (.str x)
    | tup h =>
      cases hreads with
      | tuple a1 a2 a3 a4 => exact big rfl hp0 (.tuple a1 a2 a3 a4)
    | rol h =>
      cases hreads with
      | list a1 a2 a3 a4 => exact big rfl hp0 (.list a1 a2 a3 a4)
    | lst e h =>
      cases hreads with
      | list a1 a2 a3 a4 => exact big rfl hp0 (.list a1 a2 a3 a4)
  · have hp0 := hp
    cases hp with
    | leaf h1 => exact small rfl h1
    | tup h =>
      have rd0 := rd
      have ru0 := ru
      cases rd with
      | tup hH r =>
        cases ru
        exact PX.call I rm gd hr hp0 rd0 rfl hs hd hz q
    | lst e h =>
      have rd0 := rd
      cases rd
      cases ru
      exact PX.call I rm gd hr hp0 rd0 rfl hs hd hz q
    | dct e h =>
      have rd0 := rd
      cases rd
      cases ru
      exact PX.call I rm gd hr hp0 rd0 rfl hs hd hz q
theorem cj_repr {k : Nat} (gd : X.A.guards = some []) (hr : Room k X.A) : CallJ X (.builtin "repr") bRepr := by
  refine ⟨_, call_reprD gd hr, ?_⟩
  intro H m l vs Q Q' rm rl h k
  obtain ⟨d, p, rfl, hd, h1, h2, h3, q⟩ := h
  cases rl with
  | cons r1 rr =>
    cases rr
    exact ⟨_, d, m, p, rfl, rm, r1, hd, h1, h2, h3, k _ _ _ _ (Ext.refl H) rm (.str _) q⟩
/-! ### isinstance -/
/-- the name of a value's built-in class -/
def tyD (m : MH) : D → Option String
  | .non => some "NoneType"
  | .bl _ => some "bool"
  | .int _ => some "int"
  | .str _ => some "str"
  | .tup _ => some "tuple"
  | .rol _ => some "list"
  | .ref a => match m a with
    | some (.lst _) => some "list"
    | some (.dct _) => some "dict"
    | some (.dtp _) => some "dict"
    | some (.xtp _) => some "tuple"
    | _ => none
def dIsi (T : String) (f : DE) : DE := fun ds m Q => f ds m fun x m1 => ∃ t b, tyD m1 x = some t ∧ kitB t T = some b ∧ Q (.bl b) m1
theorem tyx_tup {K : Frag} {H : Hp} {a : Addr} {xs : List V} (h : SqT K H a xs) : TyX K H (.ref a) (.type "tuple") := by
  rcases h with (h | ⟨o, h⟩) | ⟨o, its, n, h, hc, _⟩
  · exact .base (.tup h)
  · exact .fTuple h
  · exact .kTuple h hc
theorem tyD_of {K : Frag} {m : MH} {H : Hp} {x : D} {v : V} {t : String} (rm : RM K m H) (r : RD K H x v) (e : tyD m x = some t) : TyX K H v (.type t) := by
  cases r with
  | non => cases e; exact .base .non
  | bl b => cases e; exact .base (.bl b)
  | int i => cases e; exact .base (.int i)
  | str z => cases e; exact .base (.str z)
  | tup h _ => cases e; exact tyx_tup (sqt h)
  | rol h _ =>
    cases e
    rcases h with ⟨o, h⟩ | ⟨o, its, n, h, hc, _⟩
    · exact .base (.frz h)
    · exact .kList h hc
  | ref a =>
    unfold tyD at e
    cases q : m a with
    | none => simp [q] at e
    | some o =>
      have ro := rm a o q
      cases o with
      | lst l => simp [q] at e; subst e; obtain ⟨xs, h, _⟩ := ro; exact .base (.lst h)
      | dct l => simp [q] at e; subst e; obtain ⟨xs, h, _⟩ := ro; exact .base (.dK h)
      | dtp l => simp [q] at e; subst e; obtain ⟨xs, h, _⟩ := ro; exact .base (.dT h)
      | ins C l => simp [q] at e
      | mem J => simp [q] at e
      | fn φ c q0 caps => simp [q] at e
      | xd l => simp [q] at e
      | xtp l => simp [q] at e; subst e; obtain ⟨o, xs, h, _⟩ := ro; exact .fTuple h
theorem je_isi {e : Expr} {f : DE} {pos p p2 : Pos} (x : Str) (T : String) (hm : X.mg "isinstance" = none) (hm2 : X.mg x = none) (he : JE X e f) (hv2 : bootBuiltins x = some (.type T) := by decide +kernel) (hg : Gl X "isinstance" := by rfl) (hg2 : Gl X x := by rfl) (hn : x ≠ "__name__" := by decide) (hdb : (x == ("__debug__" : Str)) = false := by decide)
    (hs : starEach [e, .Name x p2] X.env = (false, eval e X.env) :: starEach [.Name x p2] X.env := by rfl) (hs2 : starEach [.Name x p2] X.env = (false, eval (.Name x p2) X.env) :: starEach [] X.env := by rfl) (hpl : (backTo pos (starEach [.Name x p2] X.env)).any (·.1) = false := by rfl) :
    JE X (.Call (.Name "isinstance" p) [e, .Name x p2] [] pos) (dIsi T f) := by
  refine ⟨(pe_callB call_isi hg hm (by decide +kernel) (pa_cons he.pe (pa_cons (pe_bltn (v := .ty T) hg2 hm2 hv2 rfl hn hdb) pa_nil hs2) hs) (by decide) (by decide) hs hpl).imp fun σ H Q' h => ?_⟩
  obtain ⟨ds, m, Q, rs, rm, q, k⟩ := h
  refine ⟨ds, m, _, rs, rm, q, fun d m1 v H1 e1 rm1 rv q1 => ?_⟩
  obtain ⟨t, b, h1, h2, q1⟩ := q1
  exact ⟨v, .ty T, .type t, .type T, b, rfl, .ty T, tyD_of rm1 rv h1, kit_ty h2, k _ _ _ _ e1 rm1 (.bl _) q1⟩
end

end DL
/-! DL: the law's own call, from its body over plain data. -/
namespace DL
open PySem PySem.Spec PyProof.Rows L2
/-- how the caller stands -/
theorem room_caller : Room 230 callerA := ⟨rfl, by decide, by decide⟩
section
variable {P : Program} {w : World} {K : Frag} {mg mb : Str → Option Value}
/-- a def's body at the law's entry: the frame is laid, the body runs, the frame is left -/
theorem law_run {base : Heap} {x qual : Str} {st : Stmt} {f : Addr} {fd : FuncData} {N : List Str} {p : Str} {sp : DSp} (F : Fun K x qual st f fd) (S : FnScope N [p] (defScope st))
    (len : ∀ ds m Q, sp ds m Q → ds.length = 1)
    (hbody : ∀ (cdv : Value) (s : Shared) (H : Hp) (E : XK), fd.code = cdv → Room 229 (callerA.deeper (envOfC qual (defScope st) s.heap.objs.size f cdv)) →
      ∃ g, JSs (cxOf CX0 P w K mg base N qual (defScope st) f cdv callerA [] s H E).nox (defBody st) g ∧ ∀ ds m Q, sp ds m Q → g { nx := fun _ m' => Q .non m', rt := Q } (dstart N.length ds) m)
    {s : Shared} {H : Hp} {a : Addr} {Q' : VK} (e0 : Env0 P w K mg base callerA [] s H) (hb : BindsTo s fd ⟨[.ref a], []⟩ [(p, .ref a)]) (hsp : lSp K sp [.ref a] H Q' fun _ _ _ => False) :
    codeAny (model P w) callerA (.call (.ref f) ⟨[.ref a], []⟩) (fun r s' => ∃ u v H', r = .ok (.ret u) ∧ s'.os = s.os ∧ AllBare s'.gens ∧ Un [] [] H H' s.heap s'.heap ∧ HOk P w H' s'.heap ∧ L2.RelV v u ∧ Q' v H') s := by
  obtain ⟨oc, od, kV, doc, pm, an, cdv, ct, osl, rfl, lk, hcd⟩ := F.ex
  obtain ⟨ds, m, Q, rd, rm, q, k⟩ := hsp
  have KX : K.In s.heap := e0.mod.kin.keeps fun b o e => (e0.bs b o e).1
  have lim : s.heap.NoLimit := e0.mod.nolimit.keeps fun b o e => (e0.bs b o e).1
  have hd : callerA.handled = none := rfl
  have par : ∀ y ∈ ([p] : List Str).zip [Value.ref a], (defScope st).names.lookup y.1 = some .local ∨ ((defScope st).names.lookup y.1 = some .cell ∧ ((cellsFrom (s.heap.objs.size + 1) (defScope st).names []).lookup y.1).isSome = true) := by
    intro y hy
    have ey : y.1 = p := by
      have : y = (p, .ref a) := by simpa using hy
      rw [this]
    rcases S.par y.1 (by rw [ey]; simp) with z | z
    · exact .inl z
    · exact .inr ⟨z, PySem.W.cellsFrom_some _ _ _ (.inl z)⟩
  refine codeAny_call_function room_caller.depth (KX _ _ lk) rfl S.co S.gen rfl (PySem.W.codeRec_of KX hcd) (hb _ _ _ _ ?_)
  refine wpAny_newFunctionEnv_cells S.kind par fun env he s1 hin => ?_
  subst he
  refine ⟨lim.keeps hin.toInCall.keep, codeAny_func ?_⟩
  have hr : Room 229 (callerA.deeper (envOfC qual (defScope st) s.heap.objs.size f cdv)) := Room.deeper (k := 229) room_caller _
  have J := inv_start (CX := CX0) (E := fun _ _ _ => False) S hd e0 (show [V.ref a].length = [p].length from rfl) (.cons rfl .nil) hin
  obtain ⟨g, hg, hp⟩ := hbody cdv s H (fun _ _ _ => False) rfl hr
  have body := hg.pss.nox
  have start : lS (cxOf CX0 P w K mg base N qual (defScope st) f cdv callerA [] s H (fun _ _ _ => False)).nox g { nx := fun _ H' => Q' .non H', rt := Q' } (L2.start N [.ref a]) H :=
    ⟨_, m, _, RSt.start rd, rm, hp ds m Q q, ⟨fun ds2 m2 σ2 H2 e2 rs2 rm2 q2 => k .non m2 .non H2 e2 rm2 .non q2, k, fun _ _ _ _ _ _ _ z => z.elim, fun _ _ _ _ _ _ _ z => z.elim, fun _ _ _ _ _ _ _ _ _ z => z.elim⟩⟩
  refine wpAny_mono (body.run [] s1 _ H _ J start) (fun fl s' h => ?_) fun e s' h => ?_
  · cases fl with
    | ret u =>
      obtain ⟨v, σ', H', J', rv, q'⟩ := h
      exact ⟨u, v, H', rfl, J'.os, J'.bare, J'.base, J'.hok, rv, q'⟩
    | next =>
      obtain ⟨σ', H', J', q'⟩ := h
      exact ⟨.none, .non, H', rfl, J'.os, J'.bare, J'.base, J'.hok, rfl, q'⟩
    | brk => exact h.elim fun _ z => z.elim fun _ z => z.2.elim
    | cont => exact h.elim fun _ z => z.elim fun _ z => z.2.elim
  · refine wpAny_mono h (fun _ _ z => ?_) fun _ _ z => ?_ <;> exact False.elim z
/-- what a law over a list of whole numbers promises -/
def spLaw : DSp := fun ds m Q => ∃ ns : List Int, ns.length ≤ 63 ∧ ds = [.rol (ns.map .int)] ∧ m = (fun _ => none) ∧ Q = fun d _ => d = .bl true
/-- what the making of functions asks of the base -/
def TabsB (K : Frag) (mg : Str → Option Value) (base : Heap) : Prop := ∀ x q c P, (x, q) ∈ nestQ → PySem.W.tabIn K x = some (c, P) → PySem.W.codeHdIn K c P = true → LamX.TabB base mg c P
theorem TabsB.keeps {K : Frag} {mg : Str → Option Value} {base base' : Heap} (t : TabsB K mg base) (k : ∀ b o, base.get? b = some o → base'.get? b = some o) : TabsB K mg base' := fun x q c P h1 h2 h3 =>
  let z := t x q c P h1 h2 h3
  ⟨z.code.keeps k, z.bm.keeps k, z.gP⟩
theorem mem_tabs {K : Frag} {x q : Str} {c P : Addr} (h : (x, q) ∈ nestQ) (e : PySem.W.tabIn K x = some (c, P)) : (P, q) ∈ tabsOf K := List.mem_filterMap.mpr ⟨(x, q), h, by rw [e]; rfl⟩
theorem law_attachN {l : PySem.W.OpenLaw} {q : Program} {loose : List Str} {XP : (Str → Option Value) → Heap → Prop} {YP : World → Heap → Prop} {d : DefRec} {KK : Params → Frag} {p qual : Str} {st : Stmt} {N : List Str}
    (hn : l.most = some 63) (hdf : d.params.defaults = []) (hY : ∀ (w : World) (h : Heap), YP w h → (KK w.params).In h)
    (hT : ∀ (w : World) (h : Heap), YP w h → ∀ t ∈ tabsOf (KK w.params), h.get? t.1 = some { cls := .none, data := .fields #[] }) (nT : ∀ (w : World), ∀ t ∈ tabsOf (KK w.params), (KK w.params).lookup t.1 = none ∧ ∃ c, PySem.W.codeHdIn (KK w.params) c t.1 = true) (S : FnScope N [p] (defScope st))
    (F : ∀ (w : World) (mg : Str → Option Value) (fa : Addr) (h : Heap), (KK w.params).In h → h.Ns mainGlobals mg → mg d.name = some (.ref fa) →
      ∃ (x : Str) (fd : FuncData), Fun (KK w.params) x qual st fa fd ∧ (∀ (s : Shared) (u : Value), BindsTo s fd ⟨[u], []⟩ [(p, u)]) ∧
        ∀ (base : Heap), TabsB (KK w.params) mg base → ∀ (cdv : Value) (s : Shared) (H : Hp) (E : XK), fd.code = cdv → Room 229 (callerA.deeper (envOfC qual (defScope st) s.heap.objs.size fa cdv)) →
          ∃ g, JSs (cxOf CX0 l.prog w (KK w.params) mg base N qual (defScope st) fa cdv callerA [] s H E).nox (defBody st) g ∧ ∀ ns : List Int, ns.length ≤ 63 → g { nx := fun _ _ => D.non = .bl true, rt := fun d _ => d = .bl true } (dstart N.length [.rol (ns.map .int)]) fun _ => none) :
    PySem.W.WalkO q loose XP YP l.row.toRowW d [] (fun f vs => PySem.call f vs) := by
  refine Att.attach_call hn hdf fun w s₀ s₁ mg mb fa o pm cd doc a vs ns G Y ho hd hcd hmg hobj hints hlen hg => ?_
  have KX := hY w _ Y
  have hTab := hT w _ Y
  have nTab := nT w
  obtain ⟨x, fd, hF, hb, hbody⟩ := F w mg fa _ KX G.T.g hmg
  have rv := vals_ints hints
  have lz : ns.length ≤ sizeLine := by
    rw [sizeLine_eq]
    exact Nat.le_trans hlen (by decide)
  have lv := hints.length
  let isT : Addr → Prop := fun b => ∃ t ∈ tabsOf (KK w.params), t.1 = b
  have tabAt : ∀ b, isT b → s₁.heap.get? b = some { cls := .none, data := .fields #[] } := fun b ⟨t, ht, e⟩ => e ▸ hTab t ht
  have aNo : ¬ isT a := fun z => by
    have e := tabAt a z
    rw [hobj] at e
    cases e
  -- the heap's plain side: nothing but the script, known to the object, and the tables
  have main : ∀ H : Hp, (∀ b, H b = none ∨ (b = a ∧ (KK w.params).lookup a = none ∧ H b = some (.frz { cls := .type "list", data := .seq vs.toArray } (.lst (ns.map V.int)))) ∨ (isT b ∧ H b = some (.tbl #[]))) → (∀ b, isT b → H b = some (.tbl #[])) → SqF (KK w.params) H a (ns.map V.int) →
      codeAny (model l.prog w) callerA (.call (.ref fa) ⟨[.ref a], []⟩) (fun r s' => r = .ok (.ret (.bool true)) ∧ OldK s₁.heap s'.heap ∧ s'.os = s₁.os ∧ AllBare s'.gens) s₁ := by
    intro H hH hHT hS
    have hok : HOk l.prog w H s₁.heap := fun b u e => by
      rcases hH b with z | ⟨rfl, _, z⟩ | ⟨hb', z⟩
      · rw [e] at z
        cases z
      · rw [e] at z
        cases z
        exact ⟨hobj, by rw [List.length_map]; exact lz, vs, _, rv, hobj⟩
      · rw [e] at z
        cases z
        exact tabAt b hb'
    have plain : ∀ {b : Addr} {o : Obj}, s₁.heap.get? b = some o → (∀ v n, o.data ≠ .seq v n) → o.data ≠ .fields #[] → H b = none := fun {b o} e h1 h2 => by
      rcases hH b with z | ⟨rfl, _, _⟩ | ⟨hb', _⟩
      · exact z
      · rw [hobj] at e
        cases e
        exact (h1 _ _ rfl).elim
      · rw [tabAt b hb'] at e
        cases e
        exact (h2 rfl).elim
    have dict0 : ∀ {b : Addr} {m : Str → Option Value}, s₁.heap.Ns b m → (hidT s₁.heap H).Ns b m := by
      intro b m hm
      obtain ⟨ob, es, ep, h1, h2, h3⟩ := hm
      refine ⟨ob, es, ep, hidT_get h1 (plain h1 (fun v n z => ?_) fun z => ?_), h2, h3⟩
      · rw [h2] at z; cases z
      · rw [h2] at z; cases z
    have kin : (KK w.params).In (hidT s₁.heap H) := fun b ob e => hidT_get (KX b ob e) (by
      rcases hH b with z | ⟨rfl, z, _⟩ | ⟨⟨t, ht, et⟩, _⟩
      · exact z
      · rw [z] at e
        cases e
      · have := (nTab t ht).1
        rw [et, e] at this
        cases this)
    have md : Mod (KK w.params) mg (hidT s₁.heap H) := by
      refine ⟨kin, dict0 G.T.g, ⟨mb, dict0 G.T.b, G.T.builtins⟩, ?_⟩
      obtain ⟨mc, h1, h2⟩ := G.T.nolimit
      exact ⟨mc, dict0 h1, h2⟩
    have e0 : Env0 l.prog w (KK w.params) mg (hidT s₁.heap H) callerA [] s₁ H :=
      ⟨rfl, md, fun b ob e => of_hidT e, Nat.le_of_eq (hidT_size _ _), trivial, fun b hb' => absurd hb' (by simp [frs]), hok, .of_eq hg⟩
    have tb : TabsB (KK w.params) mg (hidT s₁.heap H) := fun x' q' c P h1 h2 h3 => by
      have hP := tabAt P ⟨_, mem_tabs h1 h2, rfl⟩
      refine ⟨PySem.W.codeHd_of_K kin h3, ?_, fun z => ?_⟩
      · obtain ⟨bm, ob, b1, b2, b3, b4, b5, b6⟩ := G.T.bmain
        have nG : bm ≠ mainGlobals := fun qq => by
          obtain ⟨o', es, ep, e, hd', _⟩ := G.T.g
          rw [qq, e] at b3
          cases b3
          rw [hd'] at b6
          cases b6
        have nP : bm ≠ P := fun qq => by
          rw [qq, hP] at b3
          cases b3
          cases b6
        refine ⟨bm, ob, b1, b2, nG, nP, hidT_get b3 (plain b3 (fun v n z => ?_) fun z => ?_), b4, b5, b6⟩
        · rw [b6] at z; cases z
        · rw [b6] at z; cases z
      · obtain ⟨o', es, ep, e, hd', _⟩ := G.T.g
        rw [z, hP] at e
        cases e
        cases hd'
    refine codeAny_mono (law_run (sp := spLaw) (Q' := fun v _ => v = .bl true) hF S (fun ds m Q h => ?_) (fun cdv s H E hcv hr => ?_) e0 (hb s₁ (.ref a)) ?_) fun r s' h => ?_
    · obtain ⟨_, _, rfl, _⟩ := h
      rfl
    · obtain ⟨g, h1, h2⟩ := hbody _ tb cdv s H E hcv hr
      refine ⟨g, h1, fun ds m Q h => ?_⟩
      obtain ⟨ns', hl, rfl, rfl, rfl⟩ := h
      exact h2 ns' hl
    · refine ⟨[.rol (ns.map .int)], fun _ => none, fun d _ => d = .bl true, .cons (.rol hS (rds_of_ints ns)) .nil, ⟨fun b ob e => by (have e' : (none : Option MO) = some ob := e; cases e'), fun t ht => LamX.TabS.nil (hHT t.1 ⟨t, ht, rfl⟩)⟩, ⟨ns, hlen, rfl, rfl, rfl⟩, fun d m' v H' _ _ r e => ?_⟩
      have e' : d = .bl true := e
      subst e'
      cases r
      rfl
    · obtain ⟨u, v, H', rfl, os, bare, un, hok', ru, e⟩ := h
      have e' : v = .bl true := e
      subst e'
      obtain rfl : u = Value.bool true := ru
      have key : ∀ b ob, ¬ isT b → s₁.heap.get? b = some ob → s'.heap.get? b = some ob := fun b ob nb hb' => by
        rcases hH b with z | ⟨rfl, _, z⟩ | ⟨z, _⟩
        · exact un.keep b ob hb' z (by simp) (by simp)
        · have z2 := un.frzs b _ _ z
          have h1 := (hok b _ z).1
          have h2 := (hok' b _ z2).1
          rw [hb'] at h1
          cases h1
          exact h2
        · exact absurd z nb
      have grown : ∀ b, isT b → ∃ more : Array Value, s'.heap.get? b = some { cls := .none, data := .fields more } := fun b hb' => by
        obtain ⟨more, z⟩ := un.tbls b #[] (hHT b hb')
        exact ⟨_, hok' b _ z⟩
      refine ⟨rfl, ⟨fun b ob e => ?_, fun b ob e => ?_⟩, os, bare⟩
      · by_cases hb' : isT b
        · obtain ⟨more, hm⟩ := grown b hb'
          have e1 := tabAt b hb'
          rw [e1] at e
          cases e
          obtain ⟨t, ht, rfl⟩ := hb'
          obtain ⟨c, hc⟩ := (nTab t ht).2
          exact .inr (.inl ⟨((PySem.W.codeHd_of_K KX hc).tab e1).isCodeTable, rfl, #[], more, rfl, by rw [Array.empty_append]; exact hm⟩)
        · exact .inl (key b ob hb' e)
      · by_cases hb' : isT b
        · obtain ⟨more, hm⟩ := grown b hb'
          exact ⟨_, hm⟩
        · exact ⟨ob, key b ob hb' e⟩
  haveI : DecidablePred isT := fun b => Classical.propDecidable _
  cases hk : (KK w.params).lookup a with
  | some ob =>
    have e := KX a ob hk
    rw [hobj] at e
    cases e
    refine main (fun b => if isT b then some (.tbl #[]) else none) (fun b => ?_) (fun b hb' => if_pos hb') (.inr ⟨_, vs.toArray, _, hk, rfl, rfl, rfl, by rw [List.size_toArray, lv]; exact lz, by simpa using rv⟩)
    by_cases hb' : isT b
    · exact .inr (.inr ⟨hb', if_pos hb'⟩)
    · exact .inl (if_neg hb')
  | none =>
    refine main (fun b => if b = a then some (.frz { cls := .type "list", data := .seq vs.toArray } (.lst (ns.map V.int))) else if isT b then some (.tbl #[]) else none) (fun b => ?_) (fun b hb' => ?_) (.inl ⟨{ cls := .type "list", data := .seq vs.toArray }, if_pos rfl⟩)
    · by_cases hb' : b = a
      · exact .inr (.inl ⟨hb', hk, if_pos hb'⟩)
      · by_cases hb2 : isT b
        · exact .inr (.inr ⟨hb2, (if_neg hb').trans (if_pos hb2)⟩)
        · exact .inl ((if_neg hb').trans (if_neg hb2))
    · exact (if_neg (show ¬ b = a from fun z => aNo (by rw [← z]; exact hb'))).trans (if_pos hb')
theorem law_attach {l : PySem.W.OpenLaw} {q : Program} {loose : List Str} {XP : (Str → Option Value) → Heap → Prop} {YP : World → Heap → Prop} {d : DefRec} {KK : Params → Frag} {p qual : Str} {st : Stmt} {N : List Str} {g : DS}
    (hn : l.most = some 63) (hdf : d.params.defaults = []) (hY : ∀ (w : World) (h : Heap), YP w h → (KK w.params).In h)
    (hT : ∀ (w : World) (h : Heap), YP w h → ∀ t ∈ tabsOf (KK w.params), h.get? t.1 = some { cls := .none, data := .fields #[] }) (nT : ∀ (w : World), ∀ t ∈ tabsOf (KK w.params), (KK w.params).lookup t.1 = none ∧ ∃ c, PySem.W.codeHdIn (KK w.params) c t.1 = true) (S : FnScope N [p] (defScope st))
    (F : ∀ (w : World) (mg : Str → Option Value) (fa : Addr) (h : Heap), (KK w.params).In h → h.Ns mainGlobals mg → mg d.name = some (.ref fa) →
      ∃ (x : Str) (fd : FuncData), Fun (KK w.params) x qual st fa fd ∧ (∀ (s : Shared) (u : Value), BindsTo s fd ⟨[u], []⟩ [(p, u)]) ∧
        ∀ (base : Heap), TabsB (KK w.params) mg base → ∀ (cdv : Value) (s : Shared) (H : Hp) (E : XK), Room 229 (callerA.deeper (envOfC qual (defScope st) s.heap.objs.size fa cdv)) →
          JSs (cxOf CX0 l.prog w (KK w.params) mg base N qual (defScope st) fa cdv callerA [] s H E).nox (defBody st) g)
    (hp : ∀ ns : List Int, ns.length ≤ 63 → g { nx := fun _ _ => D.non = .bl true, rt := fun d _ => d = .bl true } (dstart N.length [.rol (ns.map .int)]) fun _ => none) :
    PySem.W.WalkO q loose XP YP l.row.toRowW d [] (fun f vs => PySem.call f vs) :=
  law_attachN hn hdf hY hT nT S (fun w mg fa h a b c => by
    obtain ⟨x, fd, h1, h2, h3⟩ := F w mg fa h a b c
    exact ⟨x, fd, h1, h2, fun base tb cdv s H E _ hr => ⟨g, h3 base tb cdv s H E hr, hp⟩⟩)
end
end DL
namespace DL
open PySem PySem.Spec PyProof.Rows L2
/-! ### the tables, from what the top tells -/
section
variable {K : Frag}
theorem tabIn_none {x : Str} (h : PySem.W.nsIn K mainGlobals x = some none) : PySem.W.tabIn K x = none := by
  unfold PySem.W.tabIn
  rw [h]
theorem tabIn_some {x : Str} {f c P : Addr} {o1 : Value} {o2 : Option Addr} {fd : FuncData} {o3 : Array (Option Value)} {o4 : Value} {o5 : Option Addr} {vs : Array Value} {o6 : Array (Option Value)} (h : PySem.W.nsIn K mainGlobals x = some (some (.ref f))) (h2 : K.lookup f = some ⟨o1, o2, .func fd, o3⟩) (h3 : fd.code = .ref c)
    (h4 : K.lookup c = some ⟨o4, o5, .fields vs, o6⟩) (h5 : vs[11]? = some (.ref P)) : PySem.W.tabIn K x = some (c, P) := by
  unfold PySem.W.tabIn
  rw [h]
  dsimp only
  rw [h2]
  dsimp only
  rw [h3]
  dsimp only
  rw [h4]
  dsimp only
  rw [h5]
theorem tabs_eq {t1 t2 t3 t4 t5 : Option (Addr × Addr)} (h1 : PySem.W.tabIn K "best_pair" = t1) (h2 : PySem.W.tabIn K "worst_pair" = t2) (h3 : PySem.W.tabIn K "mended" = t3) (h4 : PySem.W.tabIn K "best_kept" = t4) (h5 : PySem.W.tabIn K "ledger" = t5) :
    tabsOf K = [t1.map fun cP => (cP.2, ("best_pair.<locals>.<lambda>" : Str)), t2.map fun cP => (cP.2, ("worst_pair.<locals>.leaf" : Str)), t3.map fun cP => (cP.2, ("mended.<locals>.leaf" : Str)), t4.map fun cP => (cP.2, ("best_kept.<locals>.<lambda>" : Str)), t5.map fun cP => (cP.2, ("ledger.<locals>.<lambda>" : Str))].filterMap id := by
  subst h1 h2 h3 h4 h5
  rfl
end
end DL
namespace DL
open PySem PySem.Spec PyProof.Rows L2
/-! ### steps -/
theorem ix_dct {m : MH} {p : Addr} {y d : D} {kvs : List (Key × D)} {k : Key} {Q : DK} (h : m p = some (.dct kvs)) (hk : keyOf y = some k) (hl : look kvs k = some d) (q : Q d m) : aIxA (.ref p) y m Q := .inr ⟨d, .inl ⟨kvs, k, h, hk, hl.symm⟩, q⟩
theorem ix_lst {m : MH} {p : Addr} {i : Int} {l : List D} {d : D} {Q : DK} (h : m p = some (.lst l)) (hl : atI l i = some d) (q : Q d m) : aIxA (.ref p) (.int i) m Q := .inl ⟨i, l, d, rfl, h, hl, q⟩
theorem set_dct {m : MH} {p : Addr} {y d : D} {kvs : List (Key × D)} {k : Key} {Q : MH → Prop} (h : m p = some (.dct kvs)) (hk : keyOf y = some k) (hl : kvs.length < 1000) (q : Q (mup m p (.dct (stored kvs k d)))) : aSet (.ref p) y d m Q :=
  ⟨p, rfl, .inr (.inl ⟨kvs, k, h, hk, small1000 (Nat.le_of_lt hl), q⟩)⟩
/-! ### the deck -/
def deckL (c : Addr) (t g : Int) : List (Key × D) := [(.inr "cells", .ref c), (.inr "turn", .int t), (.inr "great", .int g)]
theorem str_ne1 : ¬ (("cells" : Str) = "turn") := by decide +kernel
theorem str_ne2 : ¬ (("cells" : Str) = "great") := by decide +kernel
theorem str_ne3 : ¬ (("turn" : Str) = "great") := by decide +kernel
theorem key_ne {a b : Str} (h : ¬ a = b) : ¬ ((.inr a : Key) = .inr b) := fun e => h (Sum.inr.inj e)
theorem deck_cells (c : Addr) (t g : Int) : look (deckL c t g) (.inr "cells") = some (.ref c) := by simp [look, deckL]
theorem deck_turn (c : Addr) (t g : Int) : look (deckL c t g) (.inr "turn") = some (.int t) := by simp [look, deckL, key_ne str_ne1]
theorem deck_great (c : Addr) (t g : Int) : look (deckL c t g) (.inr "great") = some (.int g) := by simp [look, deckL, key_ne str_ne2, key_ne str_ne3]
theorem deck_setT (c : Addr) (t g u : Int) : stored (deckL c t g) (.inr "turn") (.int u) = deckL c u g := by
  simp [stored, deckL, key_ne str_ne1, key_ne (fun e => str_ne3 e.symm)]
theorem deck_setG (c : Addr) (t g u : Int) : stored (deckL c t g) (.inr "great") (.int u) = deckL c t u := by
  simp [stored, deckL, key_ne str_ne2, key_ne str_ne3]
/-- the deck stands at p; at most n draws so far -/
def Deck (m : MH) (p : Addr × Addr) (n : Nat) : Prop := ∃ (cells : List Int) (t g : Int), m p.1 = some (.dct (deckL p.2 t g)) ∧ m p.2 = some (.lst (cells.map .int)) ∧ cells ≠ [] ∧ cells.length ≤ 100 ∧ 0 ≤ t ∧ t ≤ n ∧ 0 ≤ g
theorem Deck.mono {m : MH} {p : Addr × Addr} {n k : Nat} (h : Deck m p n) (e : n ≤ k) : Deck m p k := by
  obtain ⟨cells, t, g, h1, h2, h3, h4, h5, h6, h7⟩ := h
  exact ⟨cells, t, g, h1, h2, h3, h4, h5, by omega, h7⟩
theorem Deck.at {m m' : MH} {p : Addr × Addr} {n : Nat} (h : Deck m p n) (k : ∀ b o, m b = some o → m' b = some o) : Deck m' p n := by
  obtain ⟨cells, t, g, h1, h2, h3⟩ := h
  exact ⟨cells, t, g, k _ _ h1, k _ _ h2, h3⟩
/-- another object is written -/
theorem Deck.upd {m : MH} {p : Addr × Addr} {n : Nat} {q : Addr} {o : MO} (h : Deck m p n) (h1 : q ≠ p.1) (h2 : q ≠ p.2) : Deck (mup m q o) p n := by
  obtain ⟨cells, t, g, a1, a2, h3⟩ := h
  exact ⟨cells, t, g, by rw [mup_ne h1.symm]; exact a1, by rw [mup_ne h2.symm]; exact a2, h3⟩
theorem Deck.fresh {m : MH} {p : Addr × Addr} {n : Nat} {q : Addr} (h : Deck m p n) (e : m q = none) : q ≠ p.1 ∧ q ≠ p.2 := by
  obtain ⟨cells, t, g, a1, a2, h3⟩ := h
  exact ⟨fun z => (by rw [z, a1] at e; cases e), fun z => (by rw [z, a2] at e; cases e)⟩
theorem sub_small {i : Int} (h0 : 0 ≤ i) (h1 : i < 2 ^ 64) : -(2 ^ 64) < i ∧ i < 2 ^ 64 := ⟨by omega, h1⟩
theorem fmod_pos {i j : Int} (h : 0 < j) : i.fmod j = i % j := Int.fmod_eq_emod_of_nonneg _ (Int.le_of_lt h)
theorem fdiv_pos {i j : Int} (h : 0 < j) : i.fdiv j = i / j := Int.fdiv_eq_ediv_of_nonneg _ (Int.le_of_lt h)
theorem atI_ints {cells : List Int} {i : Int} (h0 : 0 ≤ i) (h1 : i < cells.length) : ∃ z, atI (cells.map D.int) i = some (.int z) := by
  obtain ⟨j, rfl⟩ := Int.eq_ofNat_of_zero_le h0
  have hj : j < cells.length := by omega
  exact ⟨cells[j], atI_nat (by simp [hj])⟩
/-! ### what stays -/
def Keep (p : Addr) (m m' : MH) : Prop := ∀ b o, b ≠ p → m b = some o → m' b = some o
def Grow (m m' : MH) : Prop := ∀ b o, m b = some o → m' b = some o
theorem Grow.refl (m : MH) : Grow m m := fun _ _ h => h
theorem Grow.trans {m m1 m2 : MH} (a : Grow m m1) (b : Grow m1 m2) : Grow m m2 := fun c o h => b c o (a c o h)
theorem aNew_of {o : MO} {m : MH} {Q : DK} (k : ∀ r m', Grow m m' → m' r = some o → m r = none → (∀ b, b ≠ r → m' b = m b) → Q (.ref r) m') : aNew o m Q := fun p hp =>
  k p _ (fun b u e => by rw [mup_ne (mne_of_none e hp)]; exact e) mup_same hp fun b hb => mup_ne hb
theorem Grow.new {m : MH} {r : Addr} {o : MO} (h : m r = none) : Grow m (mup m r o) := fun b u e => by rw [mup_ne (mne_of_none e h)]; exact e
theorem Keep.refl (p : Addr) (m : MH) : Keep p m m := fun _ _ _ h => h
theorem Keep.trans {p : Addr} {m m1 m2 : MH} (a : Keep p m m1) (b : Keep p m1 m2) : Keep p m m2 := fun c o n h => b c o n (a c o n h)
theorem Grow.keep {p : Addr} {m m' : MH} (a : Grow m m') : Keep p m m' := fun b o _ h => a b o h
theorem Deck.ne {m : MH} {p : Addr × Addr} {n : Nat} (h : Deck m p n) {q : Addr} {l : List D} (e : m q = some (.lst l)) : q ≠ p.1 := by
  obtain ⟨cells, t, g, h1, _⟩ := h
  exact mne_of e h1 (fun z => nomatch z)
/-! ### loops -/
theorem loop_by {chk : MH → Prop} {g : DG} {body : DS} {D : DEnds} (Iv : List DL.D → Sd → MH → Prop) (h0 : ∀ ds m, Iv [] ds m → chk m ∧ D.nx ds m)
    (hs : ∀ x r ds m (N : Sd → MH → Prop), (∀ ds' m', Iv r ds' m' → N ds' m') → Iv (x :: r) ds m → chk m ∧ g x ds m fun ds2 m2 => body { D with nx := N, ct := N, bk := D.nx } ds2 m2) : ∀ l ds m, Iv l ds m → dLoop chk g body l D ds m
  | [], ds, m, h => h0 ds m h
  | x :: r, ds, m, h => hs x r ds m (dLoop chk g body r D) (loop_by Iv h0 hs r) h
theorem lc_by {chk : MH → Prop} {g : DG} {tt : DT} {te : DE} {vs : List Nat} {p : Addr} {Q : DK} {ds : Sd} (Iv : List DL.D → MH → Prop) (h0 : ∀ m, Iv [] m → chk m ∧ Q (.ref p) m)
    (hs : ∀ x r m (N : MH → Prop), (∀ m', Iv r m' → N m') → Iv (x :: r) m → chk m ∧ g x (dwipe ds vs) m fun ds2 m2 => tt ds2 m2 fun b m3 => if b = true then te ds2 m3 fun y m4 => ∃ acc, m4 p = some (.lst acc) ∧ acc.length < sizeLine ∧ N (mup m4 p (.lst (acc ++ [y]))) else N m3) :
    ∀ l m, Iv l m → dLcL chk g tt te vs p Q ds l m
  | [], m, h => h0 m h
  | x :: r, m, h => hs x r m (dLcL chk g tt te vs p Q ds r) (lc_by Iv h0 hs r) h
def b__law_take : DS := (dSeq (dAsg (dOp aAdd (dOp aIxA (dVar 0) (dC (.str "turn"))) (dC (.int 1))) (gS (dVar 0) (dC (.str "turn")) aSet))
  (dSeq (dIf (dB (dOp aGt (dOp aIxA (dVar 0) (dC (.str "great"))) (dC (.int 0)))) (dSeq (dAsg (dOp aMod (dOp aIxA (dVar 0) (dC (.str "great"))) (dVar 1)) (gN 2))
  (dSeq (dAsg (dOp aDiv (dOp aIxA (dVar 0) (dC (.str "great"))) (dVar 1)) (gS (dVar 0) (dC (.str "great")) aSet))
  (dRet (dVar 2)))) dSkip)
  (dSeq (dPar 3 4 (dCons (dOp aIxA (dVar 0) (dC (.str "turn"))) (dCons (dOp aIxA (dVar 0) (dC (.str "cells"))) dNil)))
  (dSeq (dAsg (dOp aMod (dOp aPow (dOp aAdd (dOp aAdd (dOp aMod (dOp aIxA (dVar 4) (dOp aMod (dVar 3) (dB1 bLen (dCons (dVar 4) dNil)))) (dC (.int 2147483399))) (dOp aMul (dC (.int 70001)) (dVar 3))) (dC (.int 47))) (dC (.int 3))) (dC (.int 2147483489))) (gN 5))
  (dRet (dOp aMod (dOp aDiv (dOp aMod (dOp aAdd (dOp aMul (dVar 5) (dC (.int 53129))) (dOp aMul (dOp aMul (dC (.int 6397)) (dVar 3)) (dVar 3))) (dC (.int 2147483423))) (dC (.int 13))) (dVar 1)))))))
def sp__law_take : DSp := fun ds m Q => ∃ (p : Addr × Addr) (n : Nat) (k : Int), ds = [.ref p.1, .int k] ∧ Deck m p n ∧ n ≤ 2 ^ 40 ∧ 0 < k ∧ k < 2 ^ 60 ∧ ∀ (r : Int) m', 0 ≤ r → r < k → Deck m' p (n + 1) → Keep p.1 m m' → Q (.int r) m'
theorem hp__law_take : ∀ ds m Q, sp__law_take ds m Q → b__law_take { nx := fun _ m' => Q .non m', rt := Q } (dstart 6 ds) m := by
  rintro ds m Q ⟨⟨p, c⟩, n, k, rfl, ⟨cells, t, g, h1, h2, h3, h4, h5, h6, h7⟩, hn, hk0, hk1, q⟩
  have hcp : c ≠ p := mne_of h2 h1 (fun z => nomatch z)
  show b__law_take _ [some (.ref p), some (.int k), none, none, none, none] m
  simp only [b__law_take, dSeq, dAsg, dOp, dVar, dC, gS, gN, dIf, dB, dRet, dPar, dCons, dNil, dB1, dSkip, List.getElem?_cons_zero, List.getElem?_cons_succ, List.set_cons_zero, List.set_cons_succ, Option.some.injEq, exists_eq_left', List.cons.injEq, and_true, exists_eq_right', exists_and_left]
  -- turn
  refine ix_dct h1 rfl (deck_turn c t g) ?_
  simp only [aAdd]
  refine set_dct h1 rfl (by simp [deckL]) ?_
  rw [deck_setT]
  have e1 : mup m p (.dct (deckL c (t + 1) g)) p = some (.dct (deckL c (t + 1) g)) := mup_same
  refine ix_dct e1 rfl (deck_great _ _ _) ?_
  simp only [aGt]
  refine ⟨_, rfl, ?_⟩
  by_cases hg : 0 < g
  · rw [if_pos (decide_eq_true hg)]
    refine ix_dct e1 rfl (deck_great _ _ _) ?_
    simp only [aMod]
    refine ⟨by omega, ?_⟩
    refine ix_dct e1 rfl (deck_great _ _ _) ?_
    simp only [aDiv]
    refine .inr ⟨wide_div hk0 (b := 60) (by omega) (by decide) (by decide), ?_⟩
    refine set_dct e1 rfl (by simp [deckL]) ?_
    rw [deck_setG, mup_mup, fmod_pos hk0]
    refine q _ _ (Int.emod_nonneg _ (by omega)) (Int.emod_lt_of_pos _ hk0) ⟨cells, t + 1, g / k, mup_same, by rw [mup_ne hcp]; exact h2, h3, h4, by omega, by omega, Int.ediv_nonneg h7 (Int.le_of_lt hk0)⟩ fun b o hb e => (mup_ne hb).trans e
  · rw [if_neg (by simpa using hg)]
    refine ix_dct e1 rfl (deck_turn _ _ _) ?_
    refine ix_dct e1 rfl (deck_cells _ _ _) ?_
    refine ⟨_, _, ⟨rfl, rfl⟩, ?_⟩
    have e2 : mup m p (.dct (deckL c (t + 1) g)) c = some (.lst (cells.map .int)) := by rw [mup_ne hcp]; exact h2
    simp only [bLen]
    refine ⟨_, e2, ?_⟩
    have hc : 0 < ((cells.map D.int).length : Int) := by
      rw [List.length_map]
      have := List.length_pos_iff.mpr h3
      omega
    simp only [aMod]
    refine ⟨by omega, ?_⟩
    rw [fmod_pos hc]
    obtain ⟨z, hz⟩ := atI_ints (cells := cells) (i := (t + 1) % ((cells.map D.int).length : Int)) (Int.emod_nonneg _ (by omega)) (by
      have := Int.emod_lt_of_pos (t + 1) hc
      rw [List.length_map] at this ⊢
      exact this)
    refine ix_lst e2 hz ?_
    simp only [aMod, aMul, aAdd, aPow, aDiv]
    refine ⟨by decide, ?_⟩
    rw [fmod_pos (by decide)]
    have a1 := Int.emod_nonneg z (show (2147483399 : Int) ≠ 0 by decide)
    have a2 := Int.emod_lt_of_pos z (show (0 : Int) < 2147483399 by decide)
    generalize z % 2147483399 = y at a1 a2
    refine ⟨.inl (.inl (by decide)), ⟨by decide, by decide, by omega⟩, by decide, ?_⟩
    rw [fmod_pos (by decide)]
    generalize hu : (y + 70001 * (t + 1) + 47) ^ (3 : Int).toNat % 2147483489 = u
    have b1 : 0 ≤ u := by rw [← hu]; exact Int.emod_nonneg _ (by decide)
    have b2 : u < 2147483489 := by rw [← hu]; exact Int.emod_lt_of_pos _ (by decide)
    refine ⟨.inl (.inr (by decide)), .inl (.inl (by decide)), .inl (.inl (by omega)), by decide, .inl ⟨⟨by decide, by decide⟩, by omega, ?_⟩⟩
    rw [fmod_pos hk0]
    refine q _ _ (Int.emod_nonneg _ (by omega)) (Int.emod_lt_of_pos _ hk0) ⟨cells, t + 1, g, mup_same, e2, h3, h4, by omega, by omega, h7⟩ fun b o hb e => (mup_ne hb).trans e
def b__law_one : DS := (dRet (dOp aIxA (dVar 1) (dCall sp__law_take (dCons (dVar 0) (dCons (dB1 bLen (dCons (dVar 1) dNil)) dNil)))))
/-- one of the items of a list or a tuple -/
def sp__law_one : DSp := fun ds m Q => ∃ (p : Addr × Addr) (n : Nat) (it : D) (l : List D), ds = [.ref p.1, it] ∧ Deck m p n ∧ n ≤ 2 ^ 40 ∧ (it = .tup l ∨ ∃ q, it = .ref q ∧ m q = some (.lst l)) ∧ l ≠ [] ∧ l.length < 2 ^ 30 ∧ ∀ d m', d ∈ l → Deck m' p (n + 1) → Keep p.1 m m' → Q d m'
theorem atI_mem {l : List D} {i : Int} (h0 : 0 ≤ i) (h1 : i < l.length) : ∃ d, atI l i = some d ∧ d ∈ l := by
  obtain ⟨j, rfl⟩ := Int.eq_ofNat_of_zero_le h0
  have hj : j < l.length := by omega
  exact ⟨l[j], atI_nat (List.getElem?_eq_getElem hj), List.getElem_mem hj⟩
theorem hp__law_one : ∀ ds m Q, sp__law_one ds m Q → b__law_one { nx := fun _ m' => Q .non m', rt := Q } (dstart 2 ds) m := by
  rintro ds m Q ⟨p, n, it, l, rfl, hD, hn, hit, hl, hz, q⟩
  have hpos : 0 < (l.length : Int) := by
    have := List.length_pos_iff.mpr hl
    omega
  show b__law_one _ [some (.ref p.1), some it] m
  simp only [b__law_one, dRet, dOp, dVar, dCall, dCons, dNil, dB1, List.getElem?_cons_zero, List.getElem?_cons_succ, Option.some.injEq, exists_eq_left']
  rcases hit with rfl | ⟨a, rfl, ha⟩
  · simp only [bLen]
    refine ⟨p, n, _, rfl, hD, hn, hpos, by omega, fun r m' h0 h1 hD' hk => ?_⟩
    obtain ⟨d, hd, hm⟩ := atI_mem h0 h1
    exact ⟨d, hd, q d m' hm hD' hk⟩
  · simp only [bLen]
    refine ⟨l, ha, p, n, _, rfl, hD, hn, hpos, by omega, fun r m' h0 h1 hD' hk => ?_⟩
    obtain ⟨d, hd, hm⟩ := atI_mem h0 h1
    exact ix_lst (hk a _ (hD.ne ha) ha) hd (q d m' hm hD' hk)
def b__law_deck : DS := (dSeq (dAsg (dC (.int 0)) (gN 1))
  (dSeq (dFor (iAny (dSl (dVar 0) dNo (dPart (dC (.int 57))))) (gN 2) (dIf (dB (dOp aGe (dB1 bAbs (dCons (dVar 2) dNil)) (dOp aPow (dC (.int 10)) (dC (.int 18))))) (dAsg (dOp aAdd (dOp aMul (dVar 1) (dC (.int 83))) (dB1 bAbs (dCons (dVar 2) dNil))) (gN 1)) dSkip))
  (dRet (dDisp (("cells", (dOp aAdd (dB1 bList (dCons (dSl (dVar 0) dNo (dPart (dC (.int 57)))) dNil)) (dLst (dCons (dOp aAdd (dB1 bLen (dCons (dVar 0) dNil)) (dC (.int 23))) dNil)))) :: ("turn", (dC (.int 0))) :: ("great", (dVar 1)) :: [])))))
def sp__law_deck : DSp := fun ds m Q => ∃ ns : List Int, ds = [.rol (ns.map .int)] ∧ ns.length ≤ 63 ∧ ∀ m' (p : Addr × Addr), Grow m m' → Deck m' p 0 → m p.2 = none → m p.1 = none → Q (.ref p.1) m'
theorem cut_to {α : Type} (l : List α) (k : Nat) : cutD l none (some (k : Int)) = l.take k := by
  unfold cutD
  rw [HT.sIx_none, HT.sIx_nat, List.drop_zero, Nat.sub_zero]
  exact (List.take_eq_take_min).symm
theorem hp__law_deck : ∀ ds m Q, sp__law_deck ds m Q → b__law_deck { nx := fun _ m' => Q .non m', rt := Q } (dstart 3 ds) m := by
  rintro ds m Q ⟨ns, rfl, hl, q⟩
  show b__law_deck _ [some (.rol (ns.map .int)), none, none] m
  simp only [b__law_deck, dSeq, dAsg, dC, gN, dFor, iAny, dSl, dVar, dNo, dPart, List.getElem?_cons_zero, List.getElem?_cons_succ, List.set_cons_zero, List.set_cons_succ, Option.some.injEq, exists_eq_left', D.int.injEq, aSl]
  intro r hr
  have e57 : cutD (ns.map D.int) none (some 57) = (ns.take 57).map D.int := by rw [show (57 : Int) = ((57 : Nat) : Int) from rfl, cut_to, List.map_take]
  rw [e57]
  refine ⟨_, mup_same, ?_⟩
  refine loop_by (fun l ds m' => ∃ g v, 0 ≤ g ∧ (∃ ks : List Int, l = ks.map .int) ∧ ds = [some (.rol (ns.map .int)), some (.int g), v] ∧ m' = mup m r (.lst ((ns.take 57).map .int))) ?_ ?_ _ _ _ ⟨0, none, Int.le_refl _, ⟨_, rfl⟩, rfl, rfl⟩
  · rintro ds m' ⟨g, v, hg, -, rfl, rfl⟩
    refine ⟨mup_same, ?_⟩
    simp only [dRet, dDisp, dPairs, dOp, dB1, dCons, dNil, dSl, dVar, dNo, dPart, dC, dLst, List.getElem?_cons_zero, List.getElem?_cons_succ, Option.some.injEq, exists_eq_left', D.int.injEq, aSl]
    intro p hp s hs
    rw [e57]
    simp only [bList]
    refine ⟨_, mup_same, fun u hu => ?_⟩
    simp only [bLen, aAdd]
    refine ⟨by show 1 ≤ sizeLine; decide, fun v2 hv => ?_⟩
    refine ⟨_, _, by rw [mup_ne (mne_of_none mup_same hv)]; exact mup_same, mup_same, ?_, fun w hw => ?_⟩
    · simp only [List.length_map, List.length_take, List.length_cons, List.length_nil]
      rw [sizeLine_eq]
      omega
    have hp2 : ∀ {x : MH} {y : Addr} {o : MO}, x y = none → x p = some (.dct []) → mup x y o p = some (.dct []) := fun hy hx => by rw [mup_ne (mne_of_none hx hy)]; exact hx
    have k1 := hp2 (o := .lst ((ns.take 57).map .int)) hs mup_same
    have k2 := hp2 (o := .lst ((ns.take 57).map .int)) hu k1
    have k3 := hp2 (o := .lst [.int (((ns.map D.int).length : Int) + 23)]) hv k2
    have k4 := hp2 (o := .lst ((ns.take 57).map .int ++ [.int (((ns.map D.int).length : Int) + 23)])) hw k3
    refine ⟨k4, by show 3 ≤ 15; decide, by simp [key_ne str_ne1, key_ne str_ne2, key_ne str_ne3], ?_⟩
    refine q _ (p, w) ?_ ⟨ns.take 57 ++ [((ns.map D.int).length : Int) + 23], 0, g, mup_same, ?_, by simp, ?_, Int.le_refl _, Int.le_refl _, hg⟩ ?_ ?_
    · intro b o e
      have a1 := Grow.new (o := .lst ((ns.take 57).map .int)) hr b o e
      have a2 := Grow.new (o := .dct []) hp b o a1
      have a3 := Grow.new (o := .lst ((ns.take 57).map .int)) hs b o a2
      have a4 := Grow.new (o := .lst ((ns.take 57).map .int)) hu b o a3
      have a5 := Grow.new (o := .lst [.int (((ns.map D.int).length : Int) + 23)]) hv b o a4
      have a6 := Grow.new (o := .lst ((ns.take 57).map .int ++ [.int (((ns.map D.int).length : Int) + 23)])) hw b o a5
      rw [mup_ne (mne_of_none a1 hp)]
      exact a6
    · have hwp : w ≠ p := fun e => by rw [e, k3] at hw; cases hw
      show mup _ p _ w = _
      rw [mup_ne hwp, mup_same, List.map_append]
      rfl
    · rw [List.length_append, List.length_take, List.length_singleton]
      omega
    · cases e : m w with
      | none => rfl
      | some o =>
        have a1 := Grow.new (o := .lst ((ns.take 57).map .int)) hr w o e
        have a2 := Grow.new (o := .dct []) hp w o a1
        have a3 := Grow.new (o := .lst ((ns.take 57).map .int)) hs w o a2
        have a4 := Grow.new (o := .lst ((ns.take 57).map .int)) hu w o a3
        have a5 := Grow.new (o := .lst [.int (((ns.map D.int).length : Int) + 23)]) hv w o a4
        rw [hw] at a5
        cases a5
    · cases e : m p with
      | none => rfl
      | some o =>
        have a1 := Grow.new (o := .lst ((ns.take 57).map .int)) hr p o e
        rw [hp] at a1
        cases a1
  · rintro x rest ds m' N hN ⟨g, v, hg, ⟨ks, hks⟩, rfl, rfl⟩
    obtain ⟨z, ks', rfl, rfl, rfl⟩ : ∃ z ks', ks = z :: ks' ∧ x = .int z ∧ rest = ks'.map .int := by
      cases ks with
      | nil => cases hks
      | cons z ks' =>
        rw [List.map_cons] at hks
        injection hks with a b
        exact ⟨z, ks', rfl, a, b⟩
    refine ⟨mup_same, ?_⟩
    simp only [gN, dIf, dB, dOp, dB1, dCons, dNil, dVar, dC, dAsg, dSkip, bAbs, aPow, aGe, aMul, aAdd, List.getElem?_cons_zero, List.getElem?_cons_succ, List.set_cons_zero, List.set_cons_succ, Option.some.injEq, exists_eq_left']
    refine ⟨⟨by decide, by decide, by decide⟩, _, rfl, ?_⟩
    generalize hy : (if z < 0 then -z else z) = y
    have hy0 : 0 ≤ y := by
      rw [← hy]
      split <;> omega
    split
    · exact ⟨.inl (.inr (by decide)), hN _ _ ⟨_, _, by omega, ⟨ks', rfl⟩, rfl, rfl⟩⟩
    · exact hN _ _ ⟨g, _, hg, ⟨ks', rfl⟩, rfl, rfl⟩
end DL
/-! How long what is written is; equal data; comprehensions of pure elements. -/
namespace DL
open PySem PySem.Spec PyProof.Rows L2
/-! ### signs below 16 ^ 8 -/
def Asc (x : Str) : Prop := ∀ c ∈ x.cps.toList, c < 16 ^ 8
theorem asc_of (s : String) : Asc (Str.ofString s) := by
  intro c hc
  rw [Str.ofString_eq_toList] at hc
  obtain ⟨ch, _, rfl⟩ := List.mem_map.mp (by simpa using hc)
  have h := ch.valid
  have e : ch.toNat = ch.val.toNat := rfl
  simp only [UInt32.isValidChar, Nat.isValidChar] at h
  omega
theorem asc_app {x y : Str} (hx : Asc x) (hy : Asc y) : Asc (x ++ y) := by
  intro c hc
  have e : (x ++ y).cps.toList = x.cps.toList ++ y.cps.toList := by
    show (x.cps ++ y.cps).toList = _
    simp
  rw [e] at hc
  rcases List.mem_append.mp hc with z | z
  · exact hx c z
  · exact hy c z
theorem asc_char {q c : Nat} (hq : c < 16 ^ 8) : ∀ d ∈ Builtin.Str.reprChar q c, d < 16 ^ 8 := by
  have hx : ∀ w : Nat, ∀ d ∈ (let e := (Nat.toDigits 16 c).map Char.toNat; List.replicate (w - e.length) 48 ++ e), d < 16 ^ 8 := by
    intro w d hd
    rcases List.mem_append.mp hd with z | z
    · rw [(List.mem_replicate.mp z).2]; decide
    · obtain ⟨ch, _, rfl⟩ := List.mem_map.mp z
      have h := ch.valid
      have e : ch.toNat = ch.val.toNat := rfl
      simp only [UInt32.isValidChar, Nat.isValidChar] at h
      omega
  intro d hd
  unfold Builtin.Str.reprChar at hd
  simp only at hd
  split at hd
  · rcases List.mem_cons.mp hd with z | z
    · rw [z]; decide
    · rw [List.mem_singleton.mp z]; exact hq
  split at hd
  · rcases List.mem_cons.mp hd with z | z
    · rw [z]; decide
    · rw [List.mem_singleton.mp z]; decide
  split at hd
  · rcases List.mem_cons.mp hd with z | z
    · rw [z]; decide
    · rw [List.mem_singleton.mp z]; decide
  split at hd
  · rcases List.mem_cons.mp hd with z | z
    · rw [z]; decide
    · rw [List.mem_singleton.mp z]; decide
  split at hd
  · rw [List.mem_singleton.mp hd]; exact hq
  split at hd
  · rcases List.mem_append.mp hd with z | z
    · rcases List.mem_cons.mp z with z | z
      · rw [z]; decide
      · rw [List.mem_singleton.mp z]; decide
    · exact hx 2 d z
  split at hd
  · rcases List.mem_append.mp hd with z | z
    · rcases List.mem_cons.mp z with z | z
      · rw [z]; decide
      · rw [List.mem_singleton.mp z]; decide
    · exact hx 4 d z
  · rcases List.mem_append.mp hd with z | z
    · rcases List.mem_cons.mp z with z | z
      · rw [z]; decide
      · rw [List.mem_singleton.mp z]; decide
    · exact hx 8 d z
theorem asc_fold {q : Nat} : ∀ (l : List Nat) (acc : Array Nat), (∀ c ∈ l, c < 16 ^ 8) → (∀ c ∈ acc.toList, c < 16 ^ 8) → ∀ d ∈ (l.foldl (fun out c => out ++ (Builtin.Str.reprChar q c).toArray) acc).toList, d < 16 ^ 8
  | [], acc, _, ha => ha
  | c :: l, acc, hl, ha => by
    refine asc_fold l _ (fun d hd => hl d (List.mem_cons_of_mem _ hd)) fun d hd => ?_
    have hd' : d ∈ acc.toList ++ Builtin.Str.reprChar q c := by simpa using hd
    rcases List.mem_append.mp hd' with z | z
    · exact ha d z
    · exact asc_char (hl c List.mem_cons_self) d z
theorem asc_repr {x : Str} (hx : Asc x) : Asc (reprText x) := by
  intro d hd
  have hq : reprQuote x < 16 ^ 8 := by unfold reprQuote; split <;> decide
  unfold reprText at hd
  rw [← Array.foldl_toList, Array.toList_push] at hd
  rcases List.mem_append.mp hd with z | z
  · exact asc_fold _ _ hx (fun c hc => by simp at hc; rw [hc]; exact hq) d z
  · rw [List.mem_singleton.mp z]; exact hq
theorem asc_join {sep : Str} (hs : Asc sep) : ∀ l : List Str, (∀ x ∈ l, Asc x) → Asc (Str.join sep l)
  | [], _ => fun c hc => by simp [Str.join, Str.empty] at hc
  | [x], h => by
    have e : Str.join sep [x] = x := by simp [Str.join]
    rw [e]
    exact h x (by simp)
  | x :: y :: r, h => by
    have e : Str.join sep (x :: y :: r) = x ++ sep ++ Str.join sep (y :: r) := by simp [Str.join]
    rw [e]
    exact asc_app (asc_app (h x (by simp)) hs) (asc_join hs (y :: r) fun z hz => h z (List.mem_cons_of_mem _ hz))
open PyData in
mutual
theorem asc_shown (B : Nat) : ∀ d : PyData, d.leavesShort B = true → Asc d.shown
  | .none, _ => by rw [PyData.shown]; exact asc_of _
  | .bool b, _ => by rw [PyData.shown]; split <;> exact asc_of _
  | .int i, _ => by rw [PyData.shown]; exact asc_of _
  | .str x, h => by
    rw [PyData.shown]
    refine asc_repr fun c hc => ?_
    rw [leavesShort, List.all_eq_true] at h
    exact of_decide_eq_true (h c hc)
  | .list xs, h => by
    rw [shown_list]
    exact asc_app (asc_app (asc_of _) (asc_join (asc_of _) _ (asc_shownAll B xs (by rw [leavesShort] at h; exact h)))) (asc_of _)
  | .tuple xs, h => by
    rw [shown_tuple]
    refine asc_app (asc_app (asc_of _) (asc_join (asc_of _) _ (asc_shownAll B xs (by rw [leavesShort] at h; exact h)))) (asc_of _)
  | .dict kvs, h => by
    rw [shown_dict]
    exact asc_app (asc_app (asc_of _) (asc_join (asc_of _) _ (asc_shownKv B kvs (by rw [leavesShort] at h; exact h)))) (asc_of _)
theorem asc_shownAll (B : Nat) : ∀ xs : List PyData, leavesShortAll B xs = true → ∀ x ∈ shownAll xs, Asc x
  | [], _ => by rw [shownAll]; exact fun _ z => nomatch z
  | d :: xs, h => by
    rw [leavesShortAll, Bool.and_eq_true] at h
    rw [shownAll]
    intro x hx
    rcases List.mem_cons.mp hx with z | z
    · rw [z]; exact asc_shown B d h.1
    · exact asc_shownAll B xs h.2 x z
theorem asc_shownKv (B : Nat) : ∀ kvs : List (PyData × PyData), leavesShortKv B kvs = true → ∀ x ∈ shownKv kvs, Asc x
  | [], _ => by rw [shownKv]; exact fun _ z => nomatch z
  | (k, v) :: r, h => by
    rw [leavesShortKv, Bool.and_eq_true, Bool.and_eq_true] at h
    rw [shownKv]
    intro x hx
    rcases List.mem_cons.mp hx with z | z
    · rw [z]; exact asc_app (asc_app (asc_shown B k h.1.1) (asc_of _)) (asc_shown B v h.1.2)
    · exact asc_shownKv B r h.2 x z
end
/-- data that can be written: its leaves short, its depth, its weight -/
structure Rp (p : PyData) (d w : Nat) : Prop where
  sh : p.showable = true
  sl : p.leavesShort 60 = true
  dp : p.depth ≤ d
  wt : p.weight ≤ w
theorem Rp.fits {p : PyData} {d w : Nat} (h : Rp p d w) (hw : w ≤ 200000) : p.shown.length ≤ sizeLine := by
  have h1 := PyData.shown_le 60 (by decide) p h.sl
  have h2 := h.wt
  rw [sizeLine_eq]
  have : (60 + 2) * p.weight ≤ 62 * 200000 := Nat.mul_le_mul_left 62 (Nat.le_trans h2 hw)
  omega
theorem Rp.mono {p : PyData} {d w d' w' : Nat} (h : Rp p d w) (hd : d ≤ d') (hw : w ≤ w') : Rp p d' w' := ⟨h.sh, h.sl, Nat.le_trans h.dp hd, Nat.le_trans h.wt hw⟩
/-- what was written, written again -/
theorem Rp.text {p : PyData} {d w : Nat} (h : Rp p d w) : Rp (.str p.shown) 0 (62 * w + 60) := by
  refine ⟨by rw [PyData.showable], ?_, by rw [PyData.depth]; exact Nat.le_refl _, ?_⟩
  · rw [PyData.leavesShort, List.all_eq_true]
    exact fun c hc => decide_eq_true (asc_shown 60 p h.sl c hc)
  · rw [PyData.weight]
    have h1 := PyData.shown_le 60 (by decide) p h.sl
    have h2 : (60 + 2) * p.weight ≤ 62 * w := Nat.mul_le_mul_left 62 h.wt
    exact Nat.le_trans h1 (by omega)
structure Rps (ps : List PyData) (d w : Nat) : Prop where
  sh : PyData.showableAll ps = true
  sl : PyData.leavesShortAll 60 ps = true
  dp : PyData.depthAll ps ≤ d
  wt : PyData.weightAll ps ≤ w
theorem Rps.nil {d w : Nat} : Rps [] d w := ⟨by rw [PyData.showableAll], by rw [PyData.leavesShortAll], by rw [PyData.depthAll]; exact Nat.zero_le _, by rw [PyData.weightAll]; exact Nat.zero_le _⟩
theorem Rps.cons {p : PyData} {ps : List PyData} {d w w1 w2 : Nat} (h : Rp p d w1) (t : Rps ps d w2) (hw : w1 + 1 + w2 ≤ w) : Rps (p :: ps) d w := by
  refine ⟨by rw [PyData.showableAll, h.sh, t.sh]; rfl, by rw [PyData.leavesShortAll, h.sl, t.sl]; rfl, ?_, ?_⟩
  · rw [PyData.depthAll]
    exact Nat.max_le.mpr ⟨h.dp, t.dp⟩
  · rw [PyData.weightAll]
    have := h.wt
    have := t.wt
    omega
theorem Rps.list {ps : List PyData} {d w : Nat} (h : Rps ps d w) : Rp (.list ps) (d + 1) w := by
  refine ⟨by rw [PyData.showable]; exact h.sh, by rw [PyData.leavesShort]; exact h.sl, ?_, by rw [PyData.weight]; exact h.wt⟩
  rw [PyData.depth]
  have := h.dp
  omega
theorem Rps.tuple {ps : List PyData} {d w : Nat} (h : Rps ps d w) : Rp (.tuple ps) (d + 1) w := by
  refine ⟨by rw [PyData.showable]; exact h.sh, by rw [PyData.leavesShort]; exact h.sl, ?_, by rw [PyData.weight]; exact h.wt⟩
  rw [PyData.depth]
  have := h.dp
  omega
theorem Rp.bool (b : Bool) : Rp (.bool b) 0 0 := ⟨by rw [PyData.showable], by rw [PyData.leavesShort], by rw [PyData.depth]; exact Nat.le_refl _, by rw [PyData.weight]; exact Nat.le_refl _⟩
theorem Rp.none : Rp .none 0 0 := ⟨by rw [PyData.showable], by rw [PyData.leavesShort], by rw [PyData.depth]; exact Nat.le_refl _, by rw [PyData.weight]; exact Nat.le_refl _⟩

theorem int_wt {i : Int} {k : Nat} (h : i.natAbs < 2 ^ k) : (PyData.int i).weight ≤ k := by
  rw [PyData.weight]
  by_cases h0 : i = 0
  · subst h0
    simp
  · have hb : (i == 0) = false := by simpa using h0
    rw [hb]
    have hn : i.natAbs ≠ 0 := by omega
    have := (Nat.log2_lt hn).mpr h
    simp only [Bool.false_eq_true, if_false]
    omega
theorem Rp.int {i : Int} {k : Nat} (h : i.natAbs < 2 ^ k) (hk : k ≤ 150) : Rp (.int i) 0 k := by
  have h1 : i.natAbs < 10 ^ 46 := Nat.lt_of_lt_of_le h (Nat.le_trans (Nat.pow_le_pow_right (by decide) hk) (by decide))
  have sl : (PyData.int i).leavesShort 60 = true := by
    rw [PyData.leavesShort]
    refine decide_eq_true ?_
    rw [PyData.shown]
    have e : (Str.ofString (toString i)).length = (toString i).length := by
      rw [Str.ofString_eq_toList]
      show ((toString i).toList.map Char.toNat).toArray.size = _
      simp [String.length]
    rw [e]
    exact Nat.le_trans (int_text_length_le10 (k := 46) (by decide) h1) (by decide)
  refine ⟨?_, sl, by rw [PyData.depth]; exact Nat.le_refl _, int_wt h⟩
  rw [PyData.showable]
  refine decide_eq_true ?_
  by_cases h0 : i.natAbs = 0
  · rw [h0]; decide
  · exact (Nat.log2_lt h0).mpr (Nat.lt_of_lt_of_le h (Nat.pow_le_pow_right (by decide) (by omega)))
theorem Rps.ints {k : Nat} (hk : k ≤ 150) : ∀ {ns : List Int}, (∀ i ∈ ns, i.natAbs < 2 ^ k) → Rps (ns.map .int) 0 ((k + 1) * ns.length)
  | [], _ => .nil
  | i :: ns, h => by
    rw [List.map_cons]
    refine .cons (Rp.int (h i List.mem_cons_self) hk) (Rps.ints hk fun j hj => h j (List.mem_cons_of_mem _ hj)) ?_
    rw [List.length_cons, Nat.mul_succ]
    omega
/-! ### equal whole numbers -/
theorem eqv_ints : ∀ (ns ms : List Int), PyData.eqvAll (ns.map .int) (ms.map .int) = decide (ns = ms)
  | [], [] => by simp [PyData.eqvAll]
  | [], m :: ms => by simp [PyData.eqvAll]
  | n :: ns, [] => by simp [PyData.eqvAll]
  | n :: ns, m :: ms => by
    rw [List.map_cons, List.map_cons, PyData.eqvAll, eqv_ints ns ms, PyData.eqv]
    by_cases h1 : n = m
    · subst h1
      by_cases h2 : ns = ms
      · simp [h2]
      · simp [h2]
    · have : (n == m) = false := beq_eq_false_iff_ne.mpr h1
      simp [this, h1]
theorem lay_ints : ∀ ns : List Int, PyData.canLayAll0 (ns.map .int) = true
  | [] => by simp [PyData.canLayAll0]
  | n :: ns => by rw [List.map_cons, PyData.canLayAll0, lay_ints ns, PyData.canLay0]; rfl
theorem depth_ints : ∀ ns : List Int, PyData.depthAll (ns.map .int) = 0
  | [] => by rw [List.map_nil, PyData.depthAll]
  | n :: ns => by rw [List.map_cons, PyData.depthAll, depth_ints ns, PyData.depth]; rfl
theorem shaped_of {p : PyData} (h : p.canLay0 = true) (hd : p.depth ≤ 64) : SeqAt.shaped p = true := by
  show (p.canLay0 && decide (p.depth ≤ 64)) = true
  rw [h, decide_eq_true hd]
  rfl
theorem shaped_tints (ns : List Int) : SeqAt.shaped (.tuple (ns.map .int)) = true := shaped_of (by rw [PyData.canLay0]; exact lay_ints ns) (by rw [PyData.depth, depth_ints]; decide)
theorem shaped_lints (ns : List Int) : SeqAt.shaped (.list (ns.map .int)) = true := shaped_of (by rw [PyData.canLay0]; exact lay_ints ns) (by rw [PyData.depth, depth_ints]; decide)
theorem shaped_int (n : Int) : SeqAt.shaped (.int n) = true := shaped_of (by rw [PyData.canLay0]) (by rw [PyData.depth]; decide)
theorem pds_ints {m : MH} : ∀ ns : List Int, PDs m (ns.map .int) (ns.map .int)
  | [] => .nil
  | n :: ns => .cons (.int n) (pds_ints ns)
theorem pd_ints {m : MH} (ns : List Int) : PD m (tInts ns) (.tuple (ns.map .int)) := .tup (pds_ints ns)
theorem eq_tints {ns ms : List Int} {m : MH} {Q : DK} (q : Q (.bl (decide (ns = ms))) m) : aEq (tInts ns) (tInts ms) m Q := by
  refine .inr (.inl ⟨_, _, pd_ints ns, pd_ints ms, shaped_tints ns, shaped_tints ms, ?_⟩)
  rw [PyData.eqv, eqv_ints]
  exact q
theorem ne_tints {ns ms : List Int} {m : MH} {Q : DK} (q : Q (.bl (!decide (ns = ms))) m) : aNe (tInts ns) (tInts ms) m Q := by
  refine .inr (.inl ⟨_, _, pd_ints ns, pd_ints ms, shaped_tints ns, shaped_tints ms, ?_⟩)
  rw [PyData.eqv, eqv_ints]
  exact q
theorem eq_int {i j : Int} {m : MH} {Q : DK} (q : Q (.bl (decide (i = j))) m) : aEq (.int i) (.int j) m Q := by
  refine .inr (.inl ⟨_, _, .int i, .int j, shaped_int i, shaped_int j, ?_⟩)
  rw [PyData.eqv, show (i == j) = decide (i = j) from rfl]
  exact q
theorem ne_int {i j : Int} {m : MH} {Q : DK} (q : Q (.bl (!decide (i = j))) m) : aNe (.int i) (.int j) m Q := by
  refine .inr (.inl ⟨_, _, .int i, .int j, shaped_int i, shaped_int j, ?_⟩)
  rw [PyData.eqv, show (i == j) = decide (i = j) from rfl]
  exact q
/-- two texts that were written of the same -/
theorem ne_same {x y : Str} {m : MH} {Q : DK} (h : x = y) (q : Q (.bl false) m) : aNe (.str x) (.str y) m Q := .inl ⟨x, y, rfl, rfl, by rw [decide_eq_true h]; exact q⟩
theorem repr_d {d : D} {p : PyData} {dd w : Nat} {m : MH} {Q : DK} (h : PD m d p ∨ PX m d p) (r : Rp p dd w) (hd : dd ≤ 40) (hw : w ≤ 200000) (q : Q (.str p.shown) m) : bRepr [d] m Q := ⟨d, p, rfl, h, r.sh, Nat.le_trans r.dp hd, r.fits hw, q⟩
/-! ### comprehensions of elements that change nothing that stood -/
theorem lc_filter {chk : MH → Prop} {g : DG} {tt : DT} {te : DE} {vs : List Nat} {p : Addr} {Q : DK} {ds : Sd} {m0 : MH} (c : D → Bool) (f : D → D) (items : List D) (hp : m0 p = none) (hz : items.length < sizeLine) (hchk : ∀ m', Grow m0 m' → chk m')
    (hel : ∀ x ∈ items, ∀ (m' : MH) (N1 : DK) (N2 : MH → Prop), Grow m0 m' → (c x = true → ∀ m'', Grow m' m'' → N1 (f x) m'') → (c x = false → ∀ m'', Grow m' m'' → N2 m'') →
      g x (dwipe ds vs) m' fun ds2 m2 => tt ds2 m2 fun b m3 => if b = true then te ds2 m3 N1 else N2 m3)
    (hq : ∀ m', Grow m0 m' → m' p = some (.lst ((items.filter c).map f)) → Q (.ref p) m') : dLcL chk g tt te vs p Q ds items (mup m0 p (.lst [])) := by
  refine lc_by (fun l m' => ∃ done, items = done ++ l ∧ Grow m0 m' ∧ m' p = some (.lst ((done.filter c).map f))) (fun m' h => ?_) (fun x r m' N hN h => ?_) items _ ⟨[], rfl, Grow.new hp, mup_same⟩
  · obtain ⟨done, e, hg, ha⟩ := h
    rw [List.append_nil] at e
    subst e
    exact ⟨hchk m' hg, hq m' hg ha⟩
  · obtain ⟨done, e, hg, ha⟩ := h
    have hx : x ∈ items := by rw [e]; simp
    refine ⟨hchk m' hg, hel x hx m' _ _ hg (fun hc m'' g2 => ?_) fun hc m'' g2 => ?_⟩
    · have h2 := g2 _ _ ha
      have hl : ((done.filter c).map f).length < sizeLine := by
        rw [List.length_map]
        have h3 := List.length_filter_le c done
        have h4 : items.length = done.length + (x :: r).length := by rw [e, List.length_append]
        omega
      refine ⟨_, h2, hl, hN _ ⟨done ++ [x], by rw [e]; simp, fun b o eb => ?_, ?_⟩⟩
      · rw [mup_ne (mne_of_none eb hp)]
        exact g2 _ _ (hg _ _ eb)
      · rw [mup_same, List.filter_append, List.filter_cons_of_pos hc, List.map_append]
        rfl
    · refine hN _ ⟨done ++ [x], by rw [e]; simp, hg.trans g2, ?_⟩
      rw [g2 _ _ ha, List.filter_append, List.filter_cons_of_neg (by simp [hc])]
      simp
theorem lc_map {chk : MH → Prop} {g : DG} {te : DE} {vs : List Nat} {p : Addr} {Q : DK} {ds : Sd} {m0 : MH} (f : D → D) (items : List D) (hp : m0 p = none) (hz : items.length < sizeLine) (hchk : ∀ m', Grow m0 m' → chk m')
    (hel : ∀ x ∈ items, ∀ (m' : MH) (N : DK), Grow m0 m' → (∀ m'', Grow m' m'' → N (f x) m'') → g x (dwipe ds vs) m' fun ds2 m2 => te ds2 m2 N)
    (hq : ∀ m', Grow m0 m' → m' p = some (.lst (items.map f)) → Q (.ref p) m') : dLcL chk g dYes te vs p Q ds items (mup m0 p (.lst [])) := by
  refine lc_by (fun l m' => ∃ done, items = done ++ l ∧ Grow m0 m' ∧ m' p = some (.lst (done.map f))) (fun m' h => ?_) (fun x r m' N hN h => ?_) items _ ⟨[], rfl, Grow.new hp, mup_same⟩
  · obtain ⟨done, e, hg, ha⟩ := h
    rw [List.append_nil] at e
    subst e
    exact ⟨hchk m' hg, hq m' hg ha⟩
  · obtain ⟨done, e, hg, ha⟩ := h
    have hx : x ∈ items := by rw [e]; simp
    refine ⟨hchk m' hg, hel x hx m' _ hg fun m'' g2 => ?_⟩
    have h2 := g2 _ _ ha
    have hl : (done.map f).length < sizeLine := by
      rw [List.length_map]
      have h4 : items.length = done.length + (x :: r).length := by rw [e, List.length_append]
      rw [List.length_cons] at h4
      omega
    refine ⟨_, h2, hl, hN _ ⟨done ++ [x], by rw [e]; simp, fun b o eb => ?_, ?_⟩⟩
    · rw [mup_ne (mne_of_none eb hp)]
      exact g2 _ _ (hg _ _ eb)
    · rw [mup_same, List.map_append]
      rfl
/-- draws -/
theorem lc_draws {g : DG} {te : DE} {vs : List Nat} {p : Addr} {dk : Addr × Addr} {Q : DK} {ds : Sd} {m0 : MH} {n : Nat} (k : Int) (items : List D) (hp : m0 p = none) (hz : items.length < sizeLine) (hD : Deck m0 dk n) (hn : n + items.length ≤ 2 ^ 40)
    (hel : ∀ x ∈ items, ∀ (m' : MH) (j : Nat) (N : DK), Deck m' dk j → j ≤ 2 ^ 40 → (∀ (r : Int) m'', 0 ≤ r → r < k → Deck m'' dk (j + 1) → Keep dk.1 m' m'' → N (.int r) m'') → g x (dwipe ds vs) m' fun ds2 m2 => te ds2 m2 N)
    (hq : ∀ m' (rs : List Int), rs.length = items.length → (∀ r ∈ rs, 0 ≤ r ∧ r < k) → Keep dk.1 m0 m' → Deck m' dk (n + items.length) → m' p = some (.lst (rs.map .int)) → Q (.ref p) m') : dLcL (fun _ => True) g dYes te vs p Q ds items (mup m0 p (.lst [])) := by
  obtain ⟨hdp, hcp⟩ := hD.fresh hp
  refine lc_by (fun l m' => ∃ (done : List D) (rs : List Int), items = done ++ l ∧ rs.length = done.length ∧ (∀ r ∈ rs, 0 ≤ r ∧ r < k) ∧ Keep dk.1 m0 m' ∧ Deck m' dk (n + done.length) ∧ m' p = some (.lst (rs.map .int))) (fun m' h => ?_) (fun x r m' N hN h => ?_) items _
    ⟨[], [], rfl, rfl, (fun r hr => by simp at hr), (Grow.new hp).keep, hD.at (Grow.new hp), mup_same⟩
  · obtain ⟨done, rs, e, hl, hr, hk, hd, ha⟩ := h
    rw [List.append_nil] at e
    subst e
    exact ⟨trivial, hq m' rs hl hr hk hd ha⟩
  · obtain ⟨done, rs, e, hl, hr, hk, hd, ha⟩ := h
    have hx : x ∈ items := by rw [e]; simp
    have h4 : items.length = done.length + (r.length + 1) := by rw [e, List.length_append]; rfl
    refine ⟨trivial, hel x hx m' _ _ hd (by omega) fun z m'' z0 z1 hd2 hk2 => ?_⟩
    have h2 := hk2 _ _ hdp ha
    refine ⟨_, h2, by rw [List.length_map]; omega, hN _ ⟨done ++ [x], rs ++ [z], by rw [e]; simp, by simp [hl], fun y hy => ?_, fun b o nb eb => ?_, ?_, ?_⟩⟩
    · rcases List.mem_append.mp hy with q | q
      · exact hr y q
      · rw [List.mem_singleton.mp q]; exact ⟨z0, z1⟩
    · rw [mup_ne (mne_of_none eb hp)]
      exact hk2 _ _ nb (hk _ _ nb eb)
    · have := hd2.upd (o := .lst (rs.map .int ++ [.int z])) hdp hcp
      rw [List.length_append, List.length_singleton]
      exact this
    · rw [mup_same, List.map_append]
      rfl
end DL
/-! What values are: the program's and the law's own looks. -/
namespace DL
open PySem PySem.Spec PyProof.Rows L2
/-! ### kinds -/
def kinds : List String := ["NoneType", "bool", "int", "str", "tuple", "list", "dict"]
theorem tyD_kind {m : MH} {x : D} {t : String} (h : tyD m x = some t) : t ∈ kinds := by
  cases x with
  | ref a =>
    unfold tyD at h
    cases q : m a with
    | none => simp [q] at h
    | some o => cases o <;> simp [q] at h <;> subst h <;> decide
  | non => cases h; decide
  | bl b => cases h; decide
  | int i => cases h; decide
  | str z => cases h; decide
  | tup l => cases h; decide
  | rol l => cases h; decide
theorem kit_int : ∀ t ∈ kinds, kitB t "int" = some (t == "int" || t == "bool") := by decide +kernel
theorem kit_bool : ∀ t ∈ kinds, kitB t "bool" = some (t == "bool") := by decide +kernel
theorem kit_tuple : ∀ t ∈ kinds, kitB t "tuple" = some (t == "tuple") := by decide +kernel
theorem kit_str : ∀ t ∈ kinds, kitB t "str" = some (t == "str") := by decide +kernel
theorem kit_list : ∀ t ∈ kinds, kitB t "list" = some (t == "list") := by decide +kernel
def Ty (m : MH) (x : D) : Prop := ∃ t, tyD m x = some t
theorem tyD_grow {m m' : MH} {x : D} {t : String} (g : ∀ a o, x = .ref a → m a = some o → m' a = some o) (h : tyD m x = some t) : tyD m' x = some t := by
  cases x with
  | ref a =>
    unfold tyD at h ⊢
    cases q : m a with
    | none => simp [q] at h
    | some o =>
      have q' := g a o rfl q
      simpa [q', q] using h
  | _ => exact h
theorem Ty.grow {m m' : MH} {x : D} (h : Ty m x) (g : Grow m m') : Ty m' x := by
  obtain ⟨t, h⟩ := h
  exact ⟨t, tyD_grow (fun a o _ e => g a o e) h⟩
/-- no tuple that is known to the object -/
def NoX (m : MH) (x : D) : Prop := ∀ a l, x = .ref a → m a ≠ some (.xtp l)
theorem NoX.grow {m m' : MH} {x : D} (ht : Ty m x) (g : Grow m m') (h : NoX m x) : NoX m' x := by
  rintro a l rfl e
  obtain ⟨t, ht⟩ := ht
  unfold tyD at ht
  cases q : m a with
  | none => simp [q] at ht
  | some o =>
    rw [g _ _ q] at e
    cases e
    exact h a l rfl q
/-- a whole number within bounds -/
def intIn (lo hi : Int) : D → Bool
  | .int i => decide (lo ≤ i) && decide (i ≤ hi)
  | _ => false
def isTup : D → Bool
  | .tup _ => true
  | _ => false
theorem ty_tup {m : MH} {x : D} {t : String} (h : tyD m x = some t) (hn : NoX m x) : (t == "tuple") = isTup x := by
  cases x with
  | ref a =>
    unfold tyD at h
    cases q : m a with
    | none => simp [q] at h
    | some o => cases o <;> first | exact absurd q (hn a _ rfl) | (simp [q] at h; done) | (simp [q] at h; subst h; simp [isTup])
  | non => cases h; simp [isTup]
  | bl b => cases h; simp [isTup]
  | int i => cases h; simp [isTup]
  | str z => cases h; simp [isTup]
  | tup l => cases h; simp [isTup]
  | rol l => cases h; simp [isTup]
/-- isinstance(x, tuple) -/
theorem isi_tup {f : DE} {ds : Sd} {m : MH} {Q : DK} {x : D} (h : ∀ Q', Q' x m → f ds m Q') (ht : Ty m x ∧ NoX m x) (q : Q (.bl (isTup x)) m) : dIsi "tuple" f ds m Q := by
  obtain ⟨⟨t, ht⟩, hn⟩ := ht
  exact h _ ⟨t, _, ht, kit_tuple t (tyD_kind ht), by rw [ty_tup ht hn]; exact q⟩
def b_is_integer : DS := (dRet (dAnd (dIsi "int" (dVar 0)) (dAnd (dNot (dIsi "bool" (dVar 0))) (dChain aLe aLe (dVar 1) (dVar 0) (dVar 2)))))
/-- slots: 0 value, 1 low, 2 high -/
def n_is_integer : Nat := 3
def sp_is_integer : DSp := fun ds m Q => ∃ v lo hi, ds = [v, .int lo, .int hi] ∧ Ty m v ∧ Q (.bl (intIn lo hi v)) m
theorem int_body {v : D} {lo hi : Int} {m : MH} {Q : DK} (ht : Ty m v) (q : Q (.bl (intIn lo hi v)) m) : (dRet (dAnd (dIsi "int" (dVar 0)) (dAnd (dNot (dIsi "bool" (dVar 0))) (dChain aLe aLe (dVar 1) (dVar 0) (dVar 2)))))
    { nx := fun _ m' => Q .non m', rt := Q } [some v, some (.int lo), some (.int hi)] m := by
  obtain ⟨t, ht⟩ := ht
  have hk := tyD_kind ht
  simp only [dRet, dAnd, dIsi, dVar, dNot, dChain, List.getElem?_cons_zero, List.getElem?_cons_succ, Option.some.injEq, exists_eq_left']
  refine ⟨t, _, ht, kit_int t hk, _, rfl, ?_⟩
  cases v with
  | int i =>
    cases ht
    rw [if_pos (by decide)]
    refine ⟨_, _, rfl, kit_bool _ hk, _, rfl, _, rfl, ?_⟩
    rw [if_pos (by decide)]
    simp only [aLe]
    refine ⟨_, rfl, ?_⟩
    by_cases h : lo ≤ i
    · rw [if_pos (decide_eq_true h)]
      have e : intIn lo hi (.int i) = decide (i ≤ hi) := by simp [intIn, h]
      rw [← e]
      exact q
    · rw [if_neg (by simpa using h)]
      have e : intIn lo hi (.int i) = false := by simp [intIn, h]
      rw [← e]
      exact q
  | bl b =>
    cases ht
    rw [if_pos (by decide)]
    refine ⟨_, _, rfl, kit_bool _ hk, _, rfl, _, rfl, ?_⟩
    rw [if_neg (by decide)]
    exact q
  | non => cases ht; rw [if_neg (by decide)]; exact q
  | str z => cases ht; rw [if_neg (by decide)]; exact q
  | tup l => cases ht; rw [if_neg (by decide)]; exact q
  | rol l => cases ht; rw [if_neg (by decide)]; exact q
  | ref a =>
    have e : (t == "int" || t == "bool") = false := by
      unfold tyD at ht
      cases q : m a with
      | none => simp [q] at ht
      | some o => cases o <;> simp [q] at ht <;> subst ht <;> decide
    rw [e, if_neg (by decide)]
    exact q
theorem hp_is_integer : ∀ ds m Q, sp_is_integer ds m Q → b_is_integer { nx := fun _ m' => Q .non m', rt := Q } (dstart 3 ds) m := by
  rintro ds m Q ⟨v, lo, hi, rfl, ht, q⟩
  exact int_body ht q
def b__law_is_whole : DS := (dRet (dAnd (dIsi "int" (dVar 0)) (dAnd (dNot (dIsi "bool" (dVar 0))) (dChain aLe aLe (dVar 1) (dVar 0) (dVar 2)))))
/-- slots: 0 value, 1 low, 2 high -/
def n__law_is_whole : Nat := 3
def sp__law_is_whole : DSp := sp_is_integer
theorem hp__law_is_whole : ∀ ds m Q, sp__law_is_whole ds m Q → b__law_is_whole { nx := fun _ m' => Q .non m', rt := Q } (dstart 3 ds) m := by
  rintro ds m Q ⟨v, lo, hi, rfl, ht, q⟩
  exact int_body ht q
/-! ### signs, words -/
def areSigns (s : Int) : D → Bool
  | .tup l => l.all (intIn 0 (s - 1))
  | _ => false
def isWord (s : Int) : D → Bool
  | .tup l => l.all (intIn 0 (s - 1)) && decide (l.length ≤ 16)
  | _ => false
theorem map_bl {α : Type} (c : α → Bool) (l : List α) : l.map (fun x => D.bl (c x)) = (l.map c).map .bl := by rw [List.map_map]; rfl
theorem all_map {α : Type} (c : α → Bool) (l : List α) : (l.map c).all id = l.all c := by rw [List.all_map]; rfl
theorem small_len {n : Nat} (h : n ≤ 100000) : n < sizeLine := Nat.lt_of_le_of_lt h (by decide)
/-- all([f(x) for x in l]) of the items of a tuple -/
theorem all_lc {l : List D} {c : D → Bool} {g : DG} {te : DE} {vs : List Nat} {ds : Sd} {m : MH} {Q : DK} {t : DE} (ht : ∀ Q', Q' (.tup l) m → t ds m Q') (hz : l.length ≤ 100000)
    (hel : ∀ x ∈ l, ∀ (m' : MH) (N : DK), Grow m m' → N (.bl (c x)) m' → g x (dwipe ds vs) m' fun ds2 m2 => te ds2 m2 N) (q : ∀ m', Grow m m' → Q (.bl (l.all c)) m') :
    dB1 bAll (dCons (dLc (iAny t) g dYes te vs) dNil) ds m Q := by
  simp only [dB1, dCons, dNil, dLc, iAny]
  refine ht _ fun p hp => ?_
  refine lc_map (fun x => .bl (c x)) l hp (small_len hz) (fun _ _ => trivial) (fun x hx m' N hg hN => hel x hx m' N hg (hN m' (Grow.refl _))) fun m' hg hm => ?_
  refine ⟨p, l.map c, rfl, by rw [hm, map_bl], ?_⟩
  rw [all_map]
  exact q m' hg
def b_are_signs : DS := (dRet (dAnd (dIsi "tuple" (dVar 1)) (dB1 bAll (dCons (dLc (iAny (dVar 1)) (gN 2) dYes (dCall sp_is_integer (dCons (dVar 2) (dCons (dC (.int 0)) (dCons (dOp aSub (dVar 0) (dC (.int 1))) dNil)))) [2]) dNil))))
/-- slots: 0 signs, 1 value, 2 item -/
def n_are_signs : Nat := 3
def TyI (m : MH) (v : D) : Prop := (Ty m v ∧ NoX m v) ∧ ∀ l, v = .tup l → l.length ≤ 100000 ∧ ∀ x ∈ l, Ty m x
def sp_are_signs : DSp := fun ds m Q => ∃ s v, ds = [.int s, v] ∧ TyI m v ∧ ∀ m', Grow m m' → Q (.bl (areSigns s v)) m'
theorem hp_are_signs : ∀ ds m Q, sp_are_signs ds m Q → b_are_signs { nx := fun _ m' => Q .non m', rt := Q } (dstart 3 ds) m := by
  rintro ds m Q ⟨s, v, rfl, ⟨ht, hi⟩, q⟩
  show b_are_signs _ [some (.int s), some v, none] m
  simp only [b_are_signs, dRet, dAnd]
  refine isi_tup (x := v) (fun Q' h => ⟨v, rfl, h⟩) ht ⟨_, rfl, ?_⟩
  cases v with
  | tup l =>
    rw [if_pos (show isTup (.tup l) = true from rfl)]
    obtain ⟨hz, hi⟩ := hi l rfl
    refine all_lc (l := l) (c := intIn 0 (s - 1)) (fun Q' h => ⟨_, rfl, h⟩) hz (fun x hx m' N hg hN => ?_) q
    simp only [gN, dwipe, dCall, dCons, dNil, dVar, dC, dOp, List.set_cons_zero, List.set_cons_succ, List.getElem?_cons_zero, List.getElem?_cons_succ, Option.some.injEq, exists_eq_left', aSub]
    exact ⟨x, 0, s - 1, rfl, (hi x hx).grow hg, hN⟩
  | _ => exact q m (Grow.refl m)
abbrev c_MAX_LONG : D := .int 16
def b_is_word : DS := (dRet (dAnd (dCall sp_are_signs (dCons (dVar 0) (dCons (dVar 1) dNil))) (dOp aLe (dB1 bLen (dCons (dVar 1) dNil)) (dC c_MAX_LONG))))
/-- slots: 0 signs, 1 value -/
def n_is_word : Nat := 2
def sp_is_word : DSp := fun ds m Q => ∃ s v, ds = [.int s, v] ∧ TyI m v ∧ ∀ m', Grow m m' → Q (.bl (isWord s v)) m'
theorem hp_is_word : ∀ ds m Q, sp_is_word ds m Q → b_is_word { nx := fun _ m' => Q .non m', rt := Q } (dstart 2 ds) m := by
  rintro ds m Q ⟨s, v, rfl, ht, q⟩
  show b_is_word _ [some (.int s), some v] m
  simp only [b_is_word, dRet, dAnd, dCall, dCons, dNil, dVar, dC, dOp, dB1, List.getElem?_cons_zero, List.getElem?_cons_succ, Option.some.injEq, exists_eq_left', c_MAX_LONG]
  refine ⟨s, v, rfl, ht, fun m' hg => ⟨_, rfl, ?_⟩⟩
  cases v with
  | tup l =>
    have e : isWord s (.tup l) = (areSigns s (.tup l) && decide (l.length ≤ 16)) := rfl
    cases h : areSigns s (.tup l) with
    | true =>
      rw [if_pos rfl]
      simp only [bLen, aLe]
      have e2 : decide ((l.length : Int) ≤ 16) = isWord s (.tup l) := by
        rw [e, h, Bool.true_and]
        by_cases hl : l.length ≤ 16
        · rw [decide_eq_true hl, decide_eq_true (by omega)]
        · rw [decide_eq_false hl, decide_eq_false (by omega)]
      rw [e2]
      exact q m' hg
    | false =>
      rw [if_neg (by decide)]
      have e2 : isWord s (.tup l) = false := by rw [e, h]; rfl
      rw [← e2]
      exact q m' hg
  | _ => exact q m' hg
def b__law_is_word : DS := (dSeq (dIf (dOrT (dNotT (dB (dIsi "tuple" (dVar 1)))) (dB (dOp aGt (dB1 bLen (dCons (dVar 1) dNil)) (dC (.int 16))))) (dRet (dC (.bl false))) dSkip)
  (dRet (dB1 bAll (dCons (dLc (iAny (dVar 1)) (gN 2) dYes (dCall sp__law_is_whole (dCons (dVar 2) (dCons (dC (.int 0)) (dCons (dOp aSub (dVar 0) (dC (.int 1))) dNil)))) [2]) dNil))))
/-- slots: 0 signs, 1 value, 2 sign -/
def n__law_is_word : Nat := 3
def sp__law_is_word : DSp := sp_is_word
theorem hp__law_is_word : ∀ ds m Q, sp__law_is_word ds m Q → b__law_is_word { nx := fun _ m' => Q .non m', rt := Q } (dstart 3 ds) m := by
  rintro ds m Q ⟨s, v, rfl, ⟨ht, hi⟩, q⟩
  show b__law_is_word _ [some (.int s), some v, none] m
  simp only [b__law_is_word, dSeq, dIf, dOrT, dNotT, dB]
  refine isi_tup (x := v) (fun Q' h => ⟨v, rfl, h⟩) ht ⟨_, rfl, ?_⟩
  cases v with
  | tup l =>
    rw [if_neg (show ¬ (!isTup (.tup l)) = true from Bool.false_ne_true)]
    obtain ⟨hz, hi⟩ := hi l rfl
    simp only [dOp, dB1, dCons, dNil, dVar, dC, List.getElem?_cons_zero, List.getElem?_cons_succ, Option.some.injEq, exists_eq_left', bLen, aGt]
    refine ⟨_, rfl, ?_⟩
    by_cases h : 16 < (l.length : Int)
    · rw [if_pos (decide_eq_true h)]
      have e : isWord s (.tup l) = false := by
        have : ¬ l.length ≤ 16 := by omega
        simp [isWord, this]
      have := q m (Grow.refl m)
      rw [e] at this
      exact this
    · rw [if_neg (by simpa using h)]
      have e : isWord s (.tup l) = l.all (intIn 0 (s - 1)) := by
        have : l.length ≤ 16 := by omega
        simp [isWord, this]
      rw [e] at q
      simp only [dSkip, dRet]
      refine all_lc (l := l) (c := intIn 0 (s - 1)) (fun Q' h => ⟨_, rfl, h⟩) hz (fun x hx m' N hg hN => ?_) q
      simp only [gN, dwipe, dCall, dCons, dNil, dVar, dC, dOp, List.set_cons_zero, List.set_cons_succ, List.getElem?_cons_zero, List.getElem?_cons_succ, Option.some.injEq, exists_eq_left', aSub]
      exact ⟨x, 0, s - 1, rfl, (hi x hx).grow hg, hN⟩
  | _ => exact q m (Grow.refl m)
/-! ### one word begins another -/
def isPre (a b : List Int) : Bool := decide (b.take a.length = a)
theorem cut_ints (b : List Int) (k : Nat) : cutD (b.map D.int) none (some (k : Int)) = (b.take k).map .int := by rw [cut_to, List.map_take]
def b_is_start : DS := (dRet (dOp aEq (dSl (dVar 1) dNo (dPart (dB1 bLen (dCons (dVar 0) dNil)))) (dVar 0)))
/-- slots: 0 one, 1 other -/
def n_is_start : Nat := 2
def sp_is_start : DSp := fun ds m Q => ∃ a b, ds = [tInts a, tInts b] ∧ Q (.bl (isPre a b)) m
theorem hp_is_start : ∀ ds m Q, sp_is_start ds m Q → b_is_start { nx := fun _ m' => Q .non m', rt := Q } (dstart 2 ds) m := by
  rintro ds m Q ⟨a, b, rfl, q⟩
  show b_is_start _ [some (tInts a), some (tInts b)] m
  simp only [b_is_start, dRet, dOp, dSl, dVar, dNo, dPart, dB1, dCons, dNil, List.getElem?_cons_zero, List.getElem?_cons_succ, Option.some.injEq, exists_eq_left']
  refine ⟨_, rfl, ?_⟩
  show aEq (.tup (cutD (b.map D.int) none (some ((a.map D.int).length : Int)))) (tInts a) m Q
  rw [List.length_map, cut_ints]
  exact eq_tints q
def b__law_starts : DS := (dRet (dAnd (dOp aLe (dB1 bLen (dCons (dVar 0) dNil)) (dB1 bLen (dCons (dVar 1) dNil))) (dOp aEq (dB1 bList (dCons (dVar 0) dNil)) (dB1 bList (dCons (dSl (dVar 1) dNo (dPart (dB1 bLen (dCons (dVar 0) dNil)))) dNil)))))
/-- slots: 0 one, 1 other -/
def n__law_starts : Nat := 2
def sp__law_starts : DSp := fun ds m Q => ∃ a b, ds = [tInts a, tInts b] ∧ ∀ m', Grow m m' → Q (.bl (isPre a b)) m'
theorem eq_lints {ns ms : List Int} {m : MH} {Q : DK} {p r : Addr} (h1 : m p = some (.lst (ns.map .int))) (h2 : m r = some (.lst (ms.map .int))) (q : Q (.bl (decide (ns = ms))) m) : aEq (.ref p) (.ref r) m Q := by
  refine .inr (.inl ⟨_, _, .lst h1 (pds_ints ns), .lst h2 (pds_ints ms), shaped_lints ns, shaped_lints ms, ?_⟩)
  rw [PyData.eqv, eqv_ints]
  exact q
theorem hp__law_starts : ∀ ds m Q, sp__law_starts ds m Q → b__law_starts { nx := fun _ m' => Q .non m', rt := Q } (dstart 2 ds) m := by
  rintro ds m Q ⟨a, b, rfl, q⟩
  show b__law_starts _ [some (tInts a), some (tInts b)] m
  simp only [b__law_starts, dRet, dAnd, dOp, dSl, dVar, dNo, dPart, dB1, dCons, dNil, List.getElem?_cons_zero, List.getElem?_cons_succ, Option.some.injEq, exists_eq_left']
  simp only [tInts, bLen, aLe, List.length_map]
  refine ⟨_, rfl, ?_⟩
  by_cases h : (a.length : Int) ≤ b.length
  · rw [if_pos (decide_eq_true h)]
    simp only [bList, aSl, D.int.injEq, exists_eq_left', cut_ints]
    intro r hr u hu
    refine eq_lints (ns := a) (ms := b.take a.length) ?_ mup_same ?_
    · rw [mup_ne (mne_of_none mup_same hu)]
      exact mup_same
    · have e : decide (a = b.take a.length) = isPre a b := by
        unfold isPre
        by_cases h : b.take a.length = a
        · rw [decide_eq_true h, decide_eq_true h.symm]
        · rw [decide_eq_false h, decide_eq_false (fun e => h e.symm)]
      rw [e]
      exact q _ ((Grow.new hr).trans (Grow.new hu))
  · rw [if_neg (by simpa using h)]
    have e : isPre a b = false := by
      unfold isPre
      refine decide_eq_false fun z => ?_
      have := congrArg List.length z
      rw [List.length_take] at this
      omega
    have := q m (Grow.refl m)
    rw [e] at this
    exact this
end DL
/-! A value of some kind: what can be seen of it, how long it is when written. -/
namespace DL
open PySem PySem.Spec PyProof.Rows L2
theorem le_line {n : Nat} (h : n ≤ 1000) : (n ≤ sizeLine) = True := eq_true (Nat.le_of_lt (small1000 h))
theorem lt_line {n : Nat} (h : n ≤ 1000) : (n < sizeLine) = True := eq_true (small1000 h)
/-! ### what stays of data -/
section
variable {m m' : MH}
mutual
theorem PD.at (h : ∀ a l, m a = some (.lst l) → m' a = some (.lst l)) : ∀ {d : D} {p : PyData}, PD m d p → PD m' d p
  | _, _, .non => .non
  | _, _, .bl b => .bl b
  | _, _, .int i => .int i
  | _, _, .str x => .str x
  | _, _, .tup t => .tup (PDs.at h t)
  | _, _, .rol t => .rol (PDs.at h t)
  | _, _, .lst e t => .lst (h _ _ e) (PDs.at h t)
theorem PDs.at (h : ∀ a l, m a = some (.lst l) → m' a = some (.lst l)) : ∀ {d : List D} {p : List PyData}, PDs m d p → PDs m' d p
  | _, _, .nil => .nil
  | _, _, .cons a b => .cons (PD.at h a) (PDs.at h b)
end
mutual
theorem PX.at (hl : ∀ a l, m a = some (.lst l) → m' a = some (.lst l)) (h : ∀ (a : Addr) (kvs : List (Key × D)) ps, PLs (kvs.map (·.2)) ps → m a = some (.dct kvs) → m' a = some (.dct kvs)) : ∀ {d : D} {p : PyData}, PX m d p → PX m' d p
  | _, _, .leaf l => .leaf l
  | _, _, .tup t => .tup (PXs.at hl h t)
  | _, _, .lst e t => .lst (hl _ _ e) (PXs.at hl h t)
  | _, _, .dct e t => .dct (h _ _ _ t e) t
theorem PXs.at (hl : ∀ a l, m a = some (.lst l) → m' a = some (.lst l)) (h : ∀ (a : Addr) (kvs : List (Key × D)) ps, PLs (kvs.map (·.2)) ps → m a = some (.dct kvs) → m' a = some (.dct kvs)) : ∀ {d : List D} {p : List PyData}, PXs m d p → PXs m' d p
  | _, _, .nil => .nil
  | _, _, .cons a b => .cons (PX.at hl h a) (PXs.at hl h b)
end
theorem PX.grow {d : D} {p : PyData} (g : Grow m m') (h : PX m d p) : PX m' d p := h.at (fun a l e => g a _ e) fun a l _ _ e => g a _ e
theorem PXs.grow {d : List D} {p : List PyData} (g : Grow m m') (h : PXs m d p) : PXs m' d p := h.at (fun a l e => g a _ e) fun a l _ _ e => g a _ e
theorem no_deck {kvs : List (Key × D)} {ps : List PyData} {dk : Addr × Addr} {n : Nat} {a : Addr} (hD : Deck m dk n) (hl : PLs (kvs.map (·.2)) ps) (e : m a = some (.dct kvs)) : a ≠ dk.1 := fun z => by
  obtain ⟨cells, t, gg, h1, _⟩ := hD
  rw [z, h1] at e
  have e' := MO.dct.inj (Option.some.inj e)
  subst e'
  cases hl with
  | cons hd _ => cases hd
theorem PX.keep {d : D} {p : PyData} {dk : Addr × Addr} {n : Nat} (hD : Deck m dk n) (g : Keep dk.1 m m') (h : PX m d p) : PX m' d p := h.at (fun a l e => g a _ (hD.ne e) e) fun a kvs ps hl e => g a _ (no_deck hD hl e) e
theorem PXs.keep {d : List D} {p : List PyData} {dk : Addr × Addr} {n : Nat} (hD : Deck m dk n) (g : Keep dk.1 m m') (h : PXs m d p) : PXs m' d p := h.at (fun a l e => g a _ (hD.ne e) e) fun a kvs ps hl e => g a _ (no_deck hD hl e) e
theorem TyI.grow {v : D} (g : Grow m m') (h : TyI m v) : TyI m' v := ⟨⟨h.1.1.grow g, h.1.2.grow h.1.1 g⟩, fun l e => ⟨(h.2 l e).1, fun x hx => ((h.2 l e).2 x hx).grow g⟩⟩
theorem Ty.keep {x : D} {dk : Addr × Addr} {n : Nat} (hD : Deck m dk n) (g : Keep dk.1 m m') (hx : x ≠ .ref dk.1) (h : Ty m x) : Ty m' x := by
  obtain ⟨t, h⟩ := h
  exact ⟨t, tyD_grow (fun a o e q => g a o (fun z => hx (by rw [e, z])) q) h⟩
end
mutual
/-- written, no list in it -/
def pureX : D → Bool
  | .ref _ => false
  | .rol _ => false
  | .tup l => pureXs l
  | .non => true
  | .bl _ => true
  | .int _ => true
  | .str _ => true
def pureXs : List D → Bool
  | [] => true
  | d :: l => pureX d && pureXs l
end
mutual
theorem PX.of (m : MH) : ∀ (d : D), pureX d = true → PX m d (pp d)
  | .non, _ => by rw [pp]; exact .leaf .non
  | .bl b, _ => by rw [pp]; exact .leaf (.bl b)
  | .int i, _ => by rw [pp]; exact .leaf (.int i)
  | .str x, _ => by rw [pp]; exact .leaf (.str x)
  | .tup l, h => by
    rw [pp]
    exact .tup (PXs.of m l (by rw [pureX] at h; exact h))
  | .rol l, h => by rw [pureX] at h; cases h
  | .ref a, h => by rw [pureX] at h; cases h
theorem PXs.of (m : MH) : ∀ (l : List D), pureXs l = true → PXs m l (pps l)
  | [], _ => by rw [pps]; exact .nil
  | d :: l, h => by
    rw [pureXs, Bool.and_eq_true] at h
    rw [pps]
    exact .cons (PX.of m d h.1) (PXs.of m l h.2)
end
/-! ### how long it is when written -/
structure Rq (p : PyData) (d n : Nat) : Prop where
  sh : p.showable = true
  sl : p.leavesShort 60 = true
  dp : p.depth ≤ d
  ln : p.shown.length ≤ n
structure Rqs (ps : List PyData) (d n : Nat) : Prop where
  sh : PyData.showableAll ps = true
  sl : PyData.leavesShortAll 60 ps = true
  dp : PyData.depthAll ps ≤ d
  ln : piled (PyData.shownAll ps) ≤ n
theorem Rq.mono {p : PyData} {d n d' n' : Nat} (h : Rq p d n) (hd : d ≤ d') (hn : n ≤ n') : Rq p d' n' := ⟨h.sh, h.sl, Nat.le_trans h.dp hd, Nat.le_trans h.ln hn⟩
theorem Rqs.mono {p : List PyData} {d n d' n' : Nat} (h : Rqs p d n) (hd : d ≤ d') (hn : n ≤ n') : Rqs p d' n' := ⟨h.sh, h.sl, Nat.le_trans h.dp hd, Nat.le_trans h.ln hn⟩
theorem Rp.q {p : PyData} {d w : Nat} (h : Rp p d w) : Rq p d (62 * w + 60) := by
  refine ⟨h.sh, h.sl, h.dp, ?_⟩
  have h1 := PyData.shown_le 60 (by decide) p h.sl
  have h2 : (60 + 2) * p.weight ≤ 62 * w := Nat.mul_le_mul_left 62 h.wt
  omega
theorem Rqs.nil {d n : Nat} : Rqs [] d n := ⟨by rw [PyData.showableAll], by rw [PyData.leavesShortAll], by rw [PyData.depthAll]; exact Nat.zero_le _, by rw [PyData.shownAll]; exact Nat.zero_le _⟩
theorem Rqs.cons {p : PyData} {ps : List PyData} {d n n1 n2 : Nat} (h : Rq p d n1) (t : Rqs ps d n2) (hn : n1 + 2 + n2 ≤ n) : Rqs (p :: ps) d n := by
  refine ⟨by rw [PyData.showableAll, h.sh, t.sh]; rfl, by rw [PyData.leavesShortAll, h.sl, t.sl]; rfl, ?_, ?_⟩
  · rw [PyData.depthAll]
    exact Nat.max_le.mpr ⟨h.dp, t.dp⟩
  · rw [PyData.shownAll, piled_cons]
    have h1 := h.ln
    have h2 := t.ln
    omega
theorem Rqs.app {d n1 n2 : Nat} : ∀ {ps qs : List PyData}, Rqs ps d n1 → Rqs qs d n2 → Rqs (ps ++ qs) d (n1 + n2)
  | [], qs, _, h => h.mono (Nat.le_refl _) (by omega)
  | p :: ps, qs, h, h' => by
    have a1 := h.sh
    have a2 := h.sl
    have a3 := h.dp
    have a4 := h.ln
    rw [PyData.showableAll, Bool.and_eq_true] at a1
    rw [PyData.leavesShortAll, Bool.and_eq_true] at a2
    rw [PyData.depthAll, Nat.max_le] at a3
    rw [PyData.shownAll, piled_cons] at a4
    have t : Rqs ps d (piled (PyData.shownAll ps)) := ⟨a1.2, a2.2, a3.2, Nat.le_refl _⟩
    exact .cons (n1 := p.shown.length) (n2 := piled (PyData.shownAll ps) + n2) ⟨a1.1, a2.1, a3.1, Nat.le_refl _⟩ (t.app h') (by omega)
theorem piled_sum : ∀ ts : List Str, piled ts = (ts.map (·.length)).sum + 2 * ts.length
  | [] => rfl
  | t :: ts => by
    rw [piled_cons, piled_sum ts, List.map_cons, List.sum_cons, List.length_cons]
    omega
theorem Rqs.tuple {ps : List PyData} {d n : Nat} (h : Rqs ps d n) : Rq (.tuple ps) (d + 1) (n + 3) := by
  refine ⟨by rw [PyData.showable]; exact h.sh, by rw [PyData.leavesShort]; exact h.sl, by rw [PyData.depth]; exact Nat.succ_le_succ h.dp, ?_⟩
  rw [PyData.shown]
  have h1 := tupleText_len_le (PyData.shownAll ps)
  have h2 := h.ln
  rw [piled_sum] at h2
  omega
theorem Rqs.list {ps : List PyData} {d n : Nat} (h : Rqs ps d n) : Rq (.list ps) (d + 1) (n + 3) := by
  refine ⟨by rw [PyData.showable]; exact h.sh, by rw [PyData.leavesShort]; exact h.sl, by rw [PyData.depth]; exact Nat.succ_le_succ h.dp, ?_⟩
  rw [PyData.shown]
  have h1 := listText_len_le (PyData.shownAll ps)
  have h2 := h.ln
  rw [piled_sum] at h2
  omega
theorem Rq.untuple {ps : List PyData} {d n : Nat} (h : Rq (.tuple ps) (d + 1) n) : Rqs ps d n := by
  have a1 := h.sh
  have a2 := h.sl
  have a3 := h.dp
  have a4 := h.ln
  rw [PyData.showable] at a1
  rw [PyData.leavesShort] at a2
  rw [PyData.depth] at a3
  rw [PyData.shown] at a4
  refine ⟨a1, a2, Nat.le_of_succ_le_succ a3, ?_⟩
  by_cases hn : PyData.shownAll ps = []
  · rw [hn]
    exact Nat.zero_le _
  · have h1 := join_length_add (PyData.shownAll ps) hn
    unfold tupleText at a4
    rw [strLen_append, strLen_append] at a4
    have e1 : (("(" : Str)).length = 1 := rfl
    have e2 : 1 ≤ ((if (PyData.shownAll ps).length == 1 then ",)" else ")" : String) : Str).length := by split <;> decide
    rw [e1] at a4
    omega
theorem Rqs.mem {d n : Nat} : ∀ {ps : List PyData}, Rqs ps d n → ∀ p ∈ ps, Rq p d n
  | p :: ps, h, q, hq => by
    have a1 := h.sh
    have a2 := h.sl
    have a3 := h.dp
    have a4 := h.ln
    rw [PyData.showableAll, Bool.and_eq_true] at a1
    rw [PyData.leavesShortAll, Bool.and_eq_true] at a2
    rw [PyData.depthAll, Nat.max_le] at a3
    rw [PyData.shownAll, piled_cons] at a4
    rcases List.mem_cons.mp hq with z | z
    · rw [z]
      exact ⟨a1.1, a2.1, a3.1, by omega⟩
    · exact Rqs.mem ⟨a1.2, a2.2, a3.2, by omega⟩ q z
theorem Rqs.len {d n : Nat} {ps : List PyData} (h : Rqs ps d n) : 2 * ps.length ≤ n := by
  have h1 := h.ln
  rw [piled_sum] at h1
  have e : ∀ l : List PyData, (PyData.shownAll l).length = l.length := fun l => by
    induction l with
    | nil => rfl
    | cons x l ih => rw [PyData.shownAll, List.length_cons, ih, List.length_cons]
  rw [e] at h1
  omega
theorem Rqs.sub {d n : Nat} {ps qs : List PyData} (s : qs.Sublist ps) (h : Rqs ps d n) : Rqs qs d n := by
  induction s generalizing n with
  | slnil => exact h
  | cons a s ih =>
    have a1 := h.sh
    have a2 := h.sl
    have a3 := h.dp
    have a4 := h.ln
    rw [PyData.showableAll, Bool.and_eq_true] at a1
    rw [PyData.leavesShortAll, Bool.and_eq_true] at a2
    rw [PyData.depthAll, Nat.max_le] at a3
    rw [PyData.shownAll, piled_cons] at a4
    exact ih ⟨a1.2, a2.2, a3.2, by omega⟩
  | cons_cons a s ih =>
    have a1 := h.sh
    have a2 := h.sl
    have a3 := h.dp
    have a4 := h.ln
    rw [PyData.showableAll, Bool.and_eq_true] at a1
    rw [PyData.leavesShortAll, Bool.and_eq_true] at a2
    rw [PyData.depthAll, Nat.max_le] at a3
    rw [PyData.shownAll, piled_cons] at a4
    exact .cons (n1 := a.shown.length) (n2 := n - (a.shown.length + 2)) ⟨a1.1, a2.1, a3.1, Nat.le_refl _⟩ (ih ⟨a1.2, a2.2, a3.2, by omega⟩) (by omega)
/-- what was written, written again -/
theorem Rq.text {p : PyData} {d n : Nat} (h : Rq p d n) : Rq (.str p.shown) 0 (62 * n + 60) := by
  refine ⟨by rw [PyData.showable], ?_, by rw [PyData.depth]; exact Nat.le_refl _, ?_⟩
  · rw [PyData.leavesShort, List.all_eq_true]
    exact fun c hc => decide_eq_true (asc_shown 60 p h.sl c hc)
  · have hl : (PyData.str p.shown).leavesShort 60 = true := by
      rw [PyData.leavesShort, List.all_eq_true]
      exact fun c hc => decide_eq_true (asc_shown 60 p h.sl c hc)
    have h1 := PyData.shown_le 60 (by decide) _ hl
    rw [PyData.weight] at h1
    have h3 : p.shown.cps.size = p.shown.length := rfl
    rw [h3] at h1
    have h2 : (60 + 2) * p.shown.length ≤ 62 * n := Nat.mul_le_mul_left 62 h.ln
    omega
theorem Rq.bool (b : Bool) : Rq (.bool b) 0 5 := ⟨by rw [PyData.showable], by rw [PyData.leavesShort], by rw [PyData.depth]; exact Nat.le_refl _, by rw [PyData.shown]; cases b <;> decide⟩
theorem Rq.none : Rq .none 0 4 := ⟨by rw [PyData.showable], by rw [PyData.leavesShort], by rw [PyData.depth]; exact Nat.le_refl _, by rw [PyData.shown]; decide⟩
/-- a number of twelve digits -/
theorem Rq.int {i : Int} (h : i.natAbs < 10 ^ 12) : Rq (.int i) 0 13 :=
  ⟨(Rp.int (k := 40) (Nat.lt_trans h (by decide)) (by decide)).sh, (Rp.int (k := 40) (Nat.lt_trans h (by decide)) (by decide)).sl, by rw [PyData.depth]; exact Nat.le_refl _, PyData.shown_int_le h⟩
theorem Rqs.ints : ∀ {ns : List Int}, (∀ i ∈ ns, i.natAbs < 10 ^ 12) → Rqs (ns.map .int) 0 (15 * ns.length)
  | [], _ => .nil
  | i :: ns, h => .cons (Rq.int (h i (by simp))) (Rqs.ints fun j hj => h j (by simp [hj])) (by rw [List.length_cons]; omega)
theorem Rq.fits {p : PyData} {d n : Nat} (h : Rq p d n) (hn : n ≤ 16000000) : p.shown.length ≤ sizeLine := by
  rw [sizeLine_eq]
  have := h.ln
  omega
theorem repr_q {d : D} {p : PyData} {dd n : Nat} {m : MH} {Q : DK} (h : PX m d p) (r : Rq p dd n) (hd : dd ≤ 40) (hn : n ≤ 16000000) (q : Q (.str p.shown) m) : bRepr [d] m Q := ⟨d, p, rfl, .inr h, r.sh, Nat.le_trans r.dp hd, r.fits hn, q⟩
/-! ### values -/
/-- a value that can be looked at, and written: its depth, its length -/
def OkW (m : MH) (dd n : Nat) (d : D) : Prop := ∃ p, PX m d p ∧ Rq p dd n
/-- items of such -/
def OkL (m : MH) (dd n : Nat) (l : List D) : Prop := ∃ ps, PXs m l ps ∧ Rqs ps dd n
section
variable {m m' : MH} {dd n n' : Nat} {d : D} {l l' : List D}
theorem PX.ty {d : D} {p : PyData} (h : PX m d p) : Ty m d := by
  cases h with
  | leaf l => cases l <;> exact ⟨_, rfl⟩
  | tup _ => exact ⟨_, rfl⟩
  | lst e _ => exact ⟨"list", by unfold tyD; simp [e]⟩
  | dct e _ => exact ⟨"dict", by unfold tyD; simp [e]⟩
theorem PX.nox {d : D} {p : PyData} (h : PX m d p) : NoX m d := by
  rintro a l rfl q
  cases h with
  | leaf l => cases l
  | lst e _ => rw [e] at q; cases q
  | dct e _ => rw [e] at q; cases q
theorem PXs.len : ∀ {l : List D} {ps : List PyData}, PXs m l ps → l.length = ps.length
  | _, _, .nil => rfl
  | _, _, .cons _ t => congrArg (· + 1) (PXs.len t)
theorem PXs.mem : ∀ {l : List D} {ps : List PyData}, PXs m l ps → ∀ x ∈ l, ∃ p ∈ ps, PX m x p
  | _, _, .cons a b, x, hx => by
    rcases List.mem_cons.mp hx with z | z
    · rw [z]; exact ⟨_, by simp, a⟩
    · obtain ⟨p, hp, h⟩ := PXs.mem b x z
      exact ⟨p, by simp [hp], h⟩
theorem PXs.app : ∀ {l l' : List D} {ps ps' : List PyData}, PXs m l ps → PXs m l' ps' → PXs m (l ++ l') (ps ++ ps')
  | _, _, _, _, .nil, s => s
  | _, _, _, _, .cons r t, s => .cons r (PXs.app t s)
theorem PXs.sub (s : l'.Sublist l) : ∀ {ps : List PyData}, PXs m l ps → ∃ qs, qs.Sublist ps ∧ PXs m l' qs := by
  induction s with
  | slnil => intro ps h; exact ⟨ps, .refl _, h⟩
  | cons a s ih =>
    intro ps h
    cases h with
    | cons h t =>
      obtain ⟨qs, h1, h2⟩ := ih t
      exact ⟨qs, h1.cons _, h2⟩
  | cons_cons a s ih =>
    intro ps h
    cases h with
    | cons h t =>
      obtain ⟨qs, h1, h2⟩ := ih t
      exact ⟨_, h1.cons_cons _, .cons h h2⟩
theorem OkW.grow (g : Grow m m') (h : OkW m dd n d) : OkW m' dd n d := let ⟨p, h, r⟩ := h; ⟨p, h.grow g, r⟩
theorem OkL.grow (g : Grow m m') (h : OkL m dd n l) : OkL m' dd n l := let ⟨p, h, r⟩ := h; ⟨p, h.grow g, r⟩
theorem OkW.keep {dk : Addr × Addr} {j : Nat} (hD : Deck m dk j) (g : Keep dk.1 m m') (h : OkW m dd n d) : OkW m' dd n d := let ⟨p, h, r⟩ := h; ⟨p, h.keep hD g, r⟩
theorem OkL.keep {dk : Addr × Addr} {j : Nat} (hD : Deck m dk j) (g : Keep dk.1 m m') (h : OkL m dd n l) : OkL m' dd n l := let ⟨p, h, r⟩ := h; ⟨p, h.keep hD g, r⟩
theorem OkW.mono {dd' : Nat} (h : OkW m dd n d) (h1 : dd ≤ dd') (h2 : n ≤ n') : OkW m dd' n' d := let ⟨p, h, r⟩ := h; ⟨p, h, r.mono h1 h2⟩
theorem OkL.mono {dd' : Nat} (h : OkL m dd n l) (h1 : dd ≤ dd') (h2 : n ≤ n') : OkL m dd' n' l := let ⟨p, h, r⟩ := h; ⟨p, h, r.mono h1 h2⟩
theorem OkL.nil : OkL m dd n [] := ⟨[], .nil, .nil⟩
theorem OkL.cons (h : OkW m dd n d) (t : OkL m dd n' l) : OkL m dd (n + 2 + n') (d :: l) := let ⟨p, a, r⟩ := h; let ⟨ps, b, rs⟩ := t; ⟨p :: ps, .cons a b, .cons r rs (Nat.le_refl _)⟩
theorem OkL.app (h : OkL m dd n l) (t : OkL m dd n' l') : OkL m dd (n + n') (l ++ l') := let ⟨p, a, r⟩ := h; let ⟨ps, b, rs⟩ := t; ⟨p ++ ps, a.app b, r.app rs⟩
theorem OkL.sub (s : l'.Sublist l) (h : OkL m dd n l) : OkL m dd n l' := by
  obtain ⟨ps, a, r⟩ := h
  obtain ⟨qs, b, c⟩ := a.sub s
  exact ⟨qs, c, r.sub b⟩
theorem OkL.rep (h : OkL m dd n l) : ∀ k : Nat, OkL m dd (k * n) (List.replicate k l).flatten
  | 0 => by
    rw [Nat.zero_mul]
    exact OkL.nil
  | k + 1 => by
    rw [List.replicate_succ, List.flatten_cons, Nat.succ_mul, Nat.add_comm]
    exact h.app (OkL.rep h k)
theorem OkL.rev : ∀ {l : List D} {n : Nat}, OkL m dd n l → OkL m dd n l.reverse
  | [], _, h => h
  | d :: l, n, ⟨_, .cons (p := p) (ps := ps) a b, r⟩ => by
    have e : OkL m dd (n - (p.shown.length + 2)) l ∧ OkW m dd p.shown.length d ∧ p.shown.length + 2 ≤ n := by
      have a1 := r.sh
      have a2 := r.sl
      have a3 := r.dp
      have a4 := r.ln
      rw [PyData.showableAll, Bool.and_eq_true] at a1
      rw [PyData.leavesShortAll, Bool.and_eq_true] at a2
      rw [PyData.depthAll, Nat.max_le] at a3
      rw [PyData.shownAll, piled_cons] at a4
      exact ⟨⟨ps, b, ⟨a1.2, a2.2, a3.2, by omega⟩⟩, ⟨p, a, ⟨a1.1, a2.1, a3.1, Nat.le_refl _⟩⟩, by omega⟩
    rw [List.reverse_cons]
    exact ((OkL.rev e.1).app (OkL.cons e.2.1 (OkL.nil (n := 0)))).mono (Nat.le_refl _) (by omega)
theorem OkL.tup (h : OkL m dd n l) : OkW m (dd + 1) (n + 3) (.tup l) := let ⟨ps, a, r⟩ := h; ⟨_, .tup a, r.tuple⟩
theorem OkL.lst {a : Addr} (e : m a = some (.lst l)) (h : OkL m dd n l) : OkW m (dd + 1) (n + 3) (.ref a) := let ⟨ps, b, r⟩ := h; ⟨_, .lst e b, r.list⟩
theorem OkW.untup (h : OkW m (dd + 1) n (.tup l)) : OkL m dd n l := by
  obtain ⟨p, h, r⟩ := h
  cases h with
  | leaf h => cases h
  | tup h => exact ⟨_, h, r.untuple⟩
theorem OkL.mem (h : OkL m dd n l) : ∀ x ∈ l, OkW m dd n x := fun x hx => by
  obtain ⟨ps, a, r⟩ := h
  obtain ⟨p, hp, b⟩ := a.mem x hx
  exact ⟨p, b, r.mem p hp⟩
theorem OkL.len (h : OkL m dd n l) : 2 * l.length ≤ n := by
  obtain ⟨ps, a, r⟩ := h
  rw [a.len]
  exact r.len
theorem OkW.ty1 (h : OkW m dd n d) : Ty m d := let ⟨_, h, _⟩ := h; h.ty
theorem OkW.up (h : OkW m 0 n d) (l : List D) : d ≠ .tup l := by
  rintro rfl
  obtain ⟨p, h, r⟩ := h
  cases h with
  | leaf h => cases h
  | tup h =>
    have := r.dp
    rw [PyData.depth] at this
    omega
theorem OkW.ty (h : OkW m dd n d) (hn : n ≤ 100000) : TyI m d := by
  refine ⟨⟨h.ty1, let ⟨_, h, _⟩ := h; h.nox⟩, fun l e => ?_⟩
  subst e
  cases dd with
  | zero => exact absurd rfl (h.up l)
  | succ dd =>
    have hl := h.untup
    have := hl.len
    exact ⟨by omega, fun x hx => (hl.mem x hx).ty1⟩
theorem OkW.text (h : OkW m dd n d) (hd : dd ≤ 40) (hn : n ≤ 16000000) : ∃ p, PX m d p ∧ Rq p dd n ∧ ∀ (m' : MH), Grow m m' → ∀ Q : DK, Q (.str p.shown) m' → bRepr [d] m' Q := by
  obtain ⟨p, h, r⟩ := h
  exact ⟨p, h, r, fun m' g Q q => repr_q (h.grow g) r hd hn q⟩
theorem OkL.ints {a : List Int} (h : ∀ i ∈ a, i.natAbs < 10 ^ 12) : OkL m 0 (15 * a.length) (a.map .int) := ⟨a.map .int, by
  clear h
  induction a with
  | nil => exact .nil
  | cons x a ih => exact .cons (.leaf (.int x)) ih, Rqs.ints h⟩
theorem OkW.int {i : Int} (h : i.natAbs < 10 ^ 12) : OkW m 0 13 (.int i) := ⟨_, .leaf (.int i), Rq.int h⟩
theorem OkW.bl (b : Bool) : OkW m 0 5 (.bl b) := ⟨_, .leaf (.bl b), Rq.bool b⟩
theorem OkW.non : OkW m 0 4 .non := ⟨_, .leaf .non, Rq.none⟩
/-- what can be seen of a written value -/
def seenX (d : D) : Bool := pureX d && (pp d).showable && (pp d).leavesShort 60 && decide ((pp d).depth ≤ 2) && decide ((pp d).weight ≤ 140)
theorem OkW.seen {d : D} (h : DL.seenX d = true) : OkW m 2 8740 d := by
  unfold DL.seenX at h
  simp only [Bool.and_eq_true, decide_eq_true_eq] at h
  obtain ⟨⟨⟨⟨h1, h2⟩, h3⟩, h4⟩, h5⟩ := h
  exact ⟨pp d, PX.of m d h1, (Rp.q (w := 140) ⟨h2, h3, h4, h5⟩).mono (Nat.le_refl _) (by decide)⟩
theorem rq_seen {p : PyData} (h : (p.showable && p.leavesShort 60 && decide (p.depth ≤ 2) && decide (p.weight ≤ 140)) = true) : Rq p 2 8740 := by
  simp only [Bool.and_eq_true, decide_eq_true_eq] at h
  obtain ⟨⟨⟨h2, h3⟩, h4⟩, h5⟩ := h
  exact (Rp.q (w := 140) ⟨h2, h3, h4, h5⟩).mono (Nat.le_refl _) (by decide)
theorem seenX_all {l : List D} (h : l.all DL.seenX = true) : ∀ d ∈ l, OkW m 2 8740 d := fun d hd => .seen (List.all_eq_true.mp h d hd)
end
/-! ### without one object -/
def out (o : Option Addr) (m : MH) : MH := fun b => if o = some b then none else m b
theorem out_none (m : MH) : out none m = m := by
  funext b
  simp [out]
theorem out_at {o : Option Addr} {m : MH} {b : Addr} {u : MO} (h : out o m b = some u) : m b = some u ∧ o ≠ some b := by
  unfold out at h
  by_cases e : o = some b
  · rw [if_pos e] at h
    cases h
  · rw [if_neg e] at h
    exact ⟨h, e⟩
theorem out_ne {o : Option Addr} {m : MH} {b : Addr} {u : MO} (h : m b = some u) (e : o ≠ some b) : out o m b = some u := by
  unfold out
  rw [if_neg e]
  exact h
/-- the object that is left out stands, beside the deck -/
def Outs (o : Option Addr) (m : MH) (p : Addr × Addr) : Prop := ∀ q, o = some q → (∃ u, m q = some u) ∧ q ≠ p.1 ∧ q ≠ p.2
theorem Outs.none {m : MH} {p : Addr × Addr} : Outs none m p := fun q e => nomatch e
theorem Outs.keep {o : Option Addr} {m m' : MH} {p : Addr × Addr} (h : Outs o m p) (k : Keep p.1 m m') : Outs o m' p := fun q e => let ⟨⟨u, h1⟩, h2, h3⟩ := h q e; ⟨⟨u, k _ _ h2 h1⟩, h2, h3⟩
theorem Outs.new {o : Option Addr} {m m' : MH} {p : Addr × Addr} {r : Addr} {u : MO} (h : Outs o m p) (hr : m r = Option.none) (e : m' r = some u) : out o m' r = some u := out_ne e fun z => by
  obtain ⟨⟨u', h1⟩, _⟩ := h r z
  rw [hr] at h1
  cases h1
theorem Keep.out {o : Option Addr} {m m' : MH} {a : Addr} (k : Keep a m m') : Keep a (out o m) (out o m') := fun b u hb e => out_ne (k b u hb (out_at e).1) (out_at e).2
theorem Grow.out {o : Option Addr} {m m' : MH} (k : Grow m m') : Grow (DL.out o m) (DL.out o m') := fun b u e => out_ne (k b u (out_at e).1) (out_at e).2
theorem Deck.out {o : Option Addr} {m : MH} {p : Addr × Addr} {n : Nat} (h : Deck m p n) (ho : Outs o m p) : Deck (DL.out o m) p n := by
  obtain ⟨cells, t, g, a1, a2, h3⟩ := h
  exact ⟨cells, t, g, out_ne a1 fun z => (ho _ z).2.1 rfl, out_ne a2 fun z => (ho _ z).2.2 rfl, h3⟩
theorem fresh_of {m m' : MH} {r : Addr} (g : Grow m m') (h : m' r = none) : m r = none := by
  cases e : m r with
  | none => rfl
  | some u =>
    rw [g _ _ e] at h
    cases h
end DL
/-! DL: more that is walked (enumerate, zip, range downwards), extend, xs[::-1]. -/
namespace DL
open PySem PySem.Spec PyProof.Rows L2
section
variable {X : Cx}
/-! ### enumerate -/
def enumD (k : Nat) : List D → List D
  | [] => []
  | x :: l => .tup [.int (k : Nat), x] :: enumD (k + 1) l
theorem enumD_len : ∀ (l : List D) (k : Nat), (enumD k l).length = l.length
  | [], _ => rfl
  | x :: l, k => congrArg (· + 1) (enumD_len l (k + 1))
theorem enumD_get : ∀ (l : List D) (k i : Nat), (enumD k l)[i]? = l[i]?.map fun x => .tup [.int ((k + i : Nat) : Int), x]
  | [], _, _ => by simp [enumD]
  | x :: l, k, 0 => by simp [enumD]
  | x :: l, k, i + 1 => by
    rw [enumD, List.getElem?_cons_succ, List.getElem?_cons_succ, enumD_get l (k + 1) i, show k + 1 + i = k + (i + 1) by omega]
def iEnum (t : DA) : DI := fun ds m Q => t ds m fun l m1 => match l with
  | [.tup xs] => Q (fun _ => True) (enumD 0 xs) m1
  | [.rol xs] => Q (fun _ => True) (enumD 0 xs) m1
  | [.ref a] => ∃ xs, m1 a = some (.lst xs) ∧ Q (fun m => m a = some (.lst xs)) (enumD 0 xs) m1
  | _ => False
theorem rit_enum {K : Frag} {a : Addr} {H0 : Hp} {chk : MH → Prop} {l : List D} {J : It} (h : ∀ m H, Ext H0 H → RM K m H → chk m → ∃ xs, RDs K H l xs ∧
    (∀ i x, xs[i]? = some x → J.go i H) ∧ (∀ i x H', J.yld i H x H' → ∃ T y, x = .ref T ∧ H T = none ∧ H' = upd H T (.tup [.int (i : Nat), y]) ∧ xs[i]? = some y) ∧ J.stop xs.length H) : RIt K J H0 chk (enumD 0 l) := by
  intro m H e rm c
  obtain ⟨xs, r, hg, hy, hs⟩ := h m H e rm c
  rw [enumD_len]
  refine ⟨fun i hi => ⟨?_, fun x H' y => ?_⟩, by rw [r.length]; exact hs⟩
  · have hi' : i < xs.length := by rw [← r.length]; exact hi
    exact hg i _ (List.getElem?_eq_getElem hi')
  · obtain ⟨T, z, rfl, hT, rfl, hz⟩ := hy i x H' y
    obtain ⟨v, hv, rd⟩ := r.get (List.getElem?_eq_getElem hi)
    rw [hz] at hv
    cases hv
    have ex : Ext H (upd H T (.tup [.int (i : Nat), z])) := Ext.fresh hT
    refine ⟨ex, rm.more hT, .tup [.int (i : Nat), l[i]], ?_, .tup (.inl upd_same) (.cons (.int _) (.cons (rd.ext ex) .nil))⟩
    rw [enumD_get, List.getElem?_eq_getElem hi, Nat.zero_add]
    rfl
theorem ji_enum {e : Expr} {t : DA} {p pos tpos : Pos} {elts : List Expr} {kk : Nat} (hm : X.mg "enumerate" = none) (ha : JA X [e] t) (hg : Gl X "enumerate" := by rfl) (hs : starEach [e] X.env = [(false, eval e X.env)] := by rfl) :
    JI X (.Tuple elts kk tpos) (.Call (.Name "enumerate" p) [e] [] pos) (iEnum t) := by
  refine ⟨(pi_enuA hg hm ha.pa hs).imp fun σ H R' h => ?_⟩
  obtain ⟨ds, m, Q, rs, rm, q, k⟩ := h
  refine ⟨ds, m, _, rs, rm, q, fun l m1 vs H1 e1 rm1 rv q1 => ?_⟩
  cases rv with
  | nil => exact q1.elim
  | cons r rr =>
    cases rr with
    | cons _ _ => cases r <;> exact q1.elim
    | nil =>
      cases r with
      | tup s r =>
        refine ⟨_, rfl, .inr ⟨_, sqt s, k _ _ _ _ _ e1 rm1 (rit_enum (a := 0) fun m H e rm _ => ?_) q1⟩⟩
        have hs2 := SqT.ext e (sqt s)
        exact ⟨_, r.ext e, fun i x hx => ⟨_, x, hs2, hx⟩, fun i x H' ⟨T, y, h1, h2, h3, h4⟩ => ⟨T, y, h1, h2, h3, h4 _ hs2⟩, ⟨_, hs2, Nat.le_refl _⟩⟩
      | rol s r =>
        refine ⟨_, rfl, .inl ⟨_, s.l, k _ _ _ _ _ e1 rm1 (rit_enum (a := 0) fun m H e rm _ => ?_) q1⟩⟩
        have hs2 := (s.ext e).l
        exact ⟨_, r.ext e, fun i x hx => ⟨_, x, hs2, hx⟩, fun i x H' ⟨T, y, h1, h2, h3, h4⟩ => ⟨T, y, h1, h2, h3, h4 _ hs2⟩, ⟨_, hs2, Nat.le_refl _⟩⟩
      | ref a =>
        obtain ⟨l, h1, q1⟩ := q1
        obtain ⟨xs, ex, _⟩ := rm1 _ _ h1
        refine ⟨_, rfl, .inl ⟨_, SqL.of ex, k _ _ _ _ _ e1 rm1 (rit_enum (a := 0) fun m H e rm c => ?_) q1⟩⟩
        obtain ⟨ys, ey, ry⟩ := rm _ _ c
        have hs2 := SqL.of (K := X.K) ey
        exact ⟨ys, ry, fun i x hx => ⟨_, x, hs2, hx⟩, fun i x H' ⟨T, y, h1, h2, h3, h4⟩ => ⟨T, y, h1, h2, h3, h4 _ hs2⟩, ⟨_, hs2, Nat.le_refl _⟩⟩
      | _ => exact q1.elim
/-! ### zip of two -/
def zipD : List D → List D → List D
  | x :: l, y :: r => .tup [x, y] :: zipD l r
  | _, _ => []
theorem zipD_len : ∀ l r : List D, (zipD l r).length = min l.length r.length
  | [], r => by simp [zipD]
  | x :: l, [] => by simp [zipD]
  | x :: l, y :: r => by
    rw [zipD, List.length_cons, zipD_len l r, List.length_cons, List.length_cons]
    omega
theorem zipD_get : ∀ (l r : List D) (i : Nat) (x y : D), l[i]? = some x → r[i]? = some y → (zipD l r)[i]? = some (.tup [x, y])
  | [], _, _, _, _, h, _ => by simp at h
  | x :: l, [], _, _, _, _, h => by simp at h
  | x :: l, y :: r, 0, _, _, h1, h2 => by
    simp at h1 h2
    subst h1 h2
    rfl
  | x :: l, y :: r, i + 1, _, _, h1, h2 => by
    rw [List.getElem?_cons_succ] at h1 h2
    rw [zipD, List.getElem?_cons_succ]
    exact zipD_get l r i _ _ h1 h2
def iZip2 (t : DA) : DI := fun ds m Q => t ds m fun l m1 => match l with
  | [.tup xs, .tup ys] => Q (fun _ => True) (zipD xs ys) m1
  | [.ref a, .ref b] => ∃ xs ys, m1 a = some (.lst xs) ∧ m1 b = some (.lst ys) ∧ Q (fun m => m a = some (.lst xs) ∧ m b = some (.lst ys)) (zipD xs ys) m1
  | _ => False
theorem rit_zip {K : Frag} {H0 : Hp} {chk : MH → Prop} {l l2 : List D} {J : It} (h : ∀ m H, Ext H0 H → RM K m H → chk m → ∃ xs ys, RDs K H l xs ∧ RDs K H l2 ys ∧
    (∀ i x y, xs[i]? = some x → ys[i]? = some y → J.go i H) ∧ (∀ i x H', J.yld i H x H' → ∃ T y z, x = .ref T ∧ H T = none ∧ H' = upd H T (.tup [y, z]) ∧ xs[i]? = some y ∧ ys[i]? = some z) ∧ J.stop (min xs.length ys.length) H) : RIt K J H0 chk (zipD l l2) := by
  intro m H e rm c
  obtain ⟨xs, ys, r, r2, hg, hy, hs⟩ := h m H e rm c
  rw [zipD_len]
  refine ⟨fun i hi => ⟨?_, fun x H' y => ?_⟩, by rw [r.length, r2.length]; exact hs⟩
  · have l1 := r.length
    have l3 := r2.length
    exact hg i _ _ (List.getElem?_eq_getElem (by omega)) (List.getElem?_eq_getElem (by omega))
  · obtain ⟨T, z, z2, rfl, hT, rfl, hz, hz2⟩ := hy i x H' y
    have i1 : i < l.length := by omega
    have i2 : i < l2.length := by omega
    obtain ⟨v, hv, rd⟩ := r.get (List.getElem?_eq_getElem i1)
    obtain ⟨v2, hv2, rd2⟩ := r2.get (List.getElem?_eq_getElem i2)
    rw [hz] at hv
    cases hv
    rw [hz2] at hv2
    cases hv2
    have ex : Ext H (upd H T (.tup [z, z2])) := Ext.fresh hT
    exact ⟨ex, rm.more hT, .tup [l[i], l2[i]], zipD_get _ _ _ _ _ (List.getElem?_eq_getElem i1) (List.getElem?_eq_getElem i2), .tup (.inl upd_same) (.cons (rd.ext ex) (.cons (rd2.ext ex) .nil))⟩
theorem ji_zip2 {e e2 : Expr} {t : DA} {p pos tpos : Pos} {elts : List Expr} {kk : Nat} (hm : X.mg "zip" = none) (ha : JA X [e, e2] t) (hg : Gl X "zip" := by rfl)
    (hs : starEach [e, e2] X.env = (false, eval e X.env) :: starEach [e2] X.env := by rfl) (hpl : (backTo pos (starEach [e2] X.env)).any (·.1) = false := by rfl) :
    JI X (.Tuple elts kk tpos) (.Call (.Name "zip" p) [e, e2] [] pos) (iZip2 t) := by
  refine ⟨(RZ.pi_zipA hg hm ha.pa hs hpl).imp fun σ H R' h => ?_⟩
  obtain ⟨ds, m, Q, rs, rm, q, k⟩ := h
  refine ⟨ds, m, _, rs, rm, q, fun l m1 vs H1 e1 rm1 rv q1 => ?_⟩
  have none1 : ∀ {α : Type} (xs ys : List α), xs.length ≤ min xs.length ys.length ∨ ys.length ≤ min xs.length ys.length := fun xs ys => by
    rcases Nat.le_total xs.length ys.length with z | z
    · exact .inl (by omega)
    · exact .inr (by omega)
  cases rv with
  | nil => exact q1.elim
  | cons r rr =>
    cases rr with
    | nil => cases r <;> exact q1.elim
    | cons r2 rr =>
      cases rr with
      | cons _ _ => cases r <;> cases r2 <;> exact q1.elim
      | nil =>
        cases r with
        | tup s r =>
          cases r2 with
          | tup s2 r2 =>
            refine ⟨_, _, _, _, rfl, .inr ⟨sqt s, sqt s2, k _ _ _ _ _ e1 rm1 (rit_zip fun m H e rm _ => ?_) q1⟩⟩
            have h1 := SqT.ext e (sqt s)
            have h2 := SqT.ext e (sqt s2)
            exact ⟨_, _, r.ext e, r2.ext e, fun i x y hx hy => ⟨_, _, x, y, h1, h2, hx, hy⟩, fun i x H' ⟨T, y, z, g1, g2, g3, g4, g5⟩ => ⟨T, y, z, g1, g2, g3, g4 _ h1, g5 _ h2⟩, ⟨_, _, h1, h2, none1 _ _⟩⟩
          | _ => exact q1.elim
        | ref a =>
          cases r2 with
          | ref b =>
            obtain ⟨xs, ys, g1, g2, q1⟩ := q1
            obtain ⟨us, ex, _⟩ := rm1 _ _ g1
            obtain ⟨ws, ew, _⟩ := rm1 _ _ g2
            refine ⟨_, _, us, ws, rfl, .inl ⟨SqL.of ex, SqL.of ew, k _ _ _ _ _ e1 rm1 (rit_zip fun m H e rm c => ?_) q1⟩⟩
            obtain ⟨us, ex, r⟩ := rm _ _ c.1
            obtain ⟨ws, ew, r2⟩ := rm _ _ c.2
            have h1 := SqL.of (K := X.K) ex
            have h2 := SqL.of (K := X.K) ew
            exact ⟨_, _, r, r2, fun i x y hx hy => ⟨_, _, x, y, h1, h2, hx, hy⟩, fun i x H' ⟨T, y, z, g1, g2, g3, g4, g5⟩ => ⟨T, y, z, g1, g2, g3, g4 _ h1, g5 _ h2⟩, ⟨_, _, h1, h2, none1 _ _⟩⟩
          | _ => exact q1.elim
        | _ => exact q1.elim
/-! ### range(i, j, -1) -/
def rangeDn (hi : Int) (n : Nat) : List D := (List.range n).map fun i => .int (hi - (i : Nat))
def iR3 (t : DA) : DI := fun ds m Q => t ds m fun l m1 => ∃ i j : Int, l = [.int i, .int j, .int (-1)] ∧ (-(2 ^ 62) ≤ i ∧ i < 2 ^ 62 ∧ -(2 ^ 62) ≤ j ∧ j < 2 ^ 62) ∧ Q (fun _ => True) (rangeDn i (i - j).toNat) m1
theorem rit_rngC {K : Frag} {lo : Int} {n : Nat} {H0 : Hp} : RIt K (Itc lo (-1) n) H0 (fun _ => True) (rangeDn lo n) := by
  intro m H e rm _
  have hl : (rangeDn lo n).length = n := by simp [rangeDn]
  refine ⟨fun i hi => ⟨by rw [hl] at hi; exact hi, fun x H' y => ?_⟩, by rw [hl]; exact Nat.le_refl _⟩
  obtain ⟨rfl, rfl⟩ := y
  rw [hl] at hi
  refine ⟨Ext.refl _, rm, .int (lo - (i : Nat)), ?_, ?_⟩
  · simp [rangeDn, hi]
  · rw [show lo + (i : Int) * (-1) = lo - (i : Nat) by omega]
    exact .int _
theorem ji_r3 {tg a b c : Expr} {t : DA} {p pos : Pos} (hm : X.mg "range" = none) (ha : JA X [a, b, c] t) (hg : Gl X "range" := by rfl)
    (hs : starEach [a, b, c] X.env = (false, eval a X.env) :: starEach [b, c] X.env := by rfl) (hpl : (backTo pos (starEach [b, c] X.env)).any (·.1) = false := by rfl) : JI X tg (.Call (.Name "range" p) [a, b, c] [] pos) (iR3 t) := by
  refine ⟨(pi_range3 hg hm ha.pa hs hpl).imp fun σ H R' h => ?_⟩
  obtain ⟨ds, m, Q, rs, rm, q, k⟩ := h
  refine ⟨ds, m, _, rs, rm, q, fun l m1 vs H1 e1 rm1 rv q1 => ?_⟩
  obtain ⟨i, j, rfl, ⟨h1, h2, h3, h4⟩, q1⟩ := q1
  cases rv with
  | cons r rr =>
    cases rr with
    | cons r2 rr =>
      cases rr with
      | cons r3 rr =>
        cases rr
        cases r
        cases r2
        cases r3
        exact ⟨i, j, -1, _, rfl, RgC.neg h1 h2 h3 h4, k _ _ _ _ _ e1 rm1 rit_rngC q1⟩
/-! ### extend, xs[::-1] -/
def mExtend : DMt := fun x l m Q => ∃ a xs zs, x = .ref a ∧ m a = some (.lst xs) ∧ (l = [.tup zs] ∨ ∃ b, l = [.ref b] ∧ m b = some (.lst zs)) ∧ xs.length + zs.length ≤ sizeLine ∧ Q .non (mup m a (.lst (xs ++ zs)))
theorem mtr_or {id : String} {r r' : V → List V → Hp → VK → Prop} (h : MtR X id r) (h' : MtR X id r') : MtR X id fun x xs H Q => r x xs H Q ∨ r' x xs H Q := by
  intro pins s σ H x xs v us Q I rx rxs q
  exact q.elim (h pins s σ H x xs v us Q I rx rxs) (h' pins s σ H x xs v us Q I rx rxs)
theorem mj_extend : MtJ X "list.extend" mExtend := by
  refine ⟨_, mtr_or mt_extend mt_extT, ?_⟩
  intro H m x l xv vs Q Q' rm rx rl h k
  obtain ⟨a, xs, zs, rfl, h1, h2, h3, q⟩ := h
  obtain ⟨ys, e, r⟩ := rm _ _ h1
  cases rx
  rcases h2 with rfl | ⟨b, rfl, h2⟩
  · cases rl with
    | cons rd rr =>
      cases rr
      cases rd with
      | tup s rd =>
        exact .inr ⟨a, _, ys, _, rfl, rfl, e, sqt s, by rw [← r.length, ← rd.length]; exact h3, k _ _ _ _ (Ext.lst e) (rm.upd (o := .lst _) (Ext.lst e) ⟨_, upd_same, (r.app rd).ext (Ext.lst e)⟩) .non q⟩
  · obtain ⟨ws, e2, r2⟩ := rm _ _ h2
    cases rl with
    | cons rd rr =>
      cases rr
      cases rd
      exact .inl ⟨a, b, ys, ws, rfl, rfl, e, e2, by rw [← r.length, ← r2.length]; exact h3, k _ _ _ _ (Ext.lst e) (rm.upd (o := .lst _) (Ext.lst e) ⟨_, upd_same, (r.app r2).ext (Ext.lst e)⟩) .non q⟩
theorem je_extend {o e : Expr} {es : List Expr} {f : DE} {t : DA} {apos cpos : Pos} (ho : JE X o f) (ha : JA X (e :: es) t) (hb : attributeBase o "extend" X.env (eval o X.env) = eval o X.env := by rfl)
    (hf : ((backTo cpos (starEach (e :: es) X.env)).all (fun x => !x.1) && (backToKw cpos (keywordEach [] X.env)).all (fun x => x.1.isSome) && decide ((e :: es).length + ([] : List Keyword).length + (if ([] : List Keyword).isEmpty then 0 else 1) < 30)) = true := by rfl)
    (hl : (apos.endLine == cpos.line) = true := by rfl) (hs : starEach (e :: es) X.env = (false, eval e X.env) :: starEach es X.env := by rfl) (hp : (backTo cpos (starEach es X.env)).any (·.1) = false := by rfl) :
    JE X (.Call (.Attribute o "extend" apos) (e :: es) [] cpos) (dM mExtend f t) := je_lm PySem.F.slot_list_extend PySem.F.type_list_extend mj_extend ho ha hb hf hl hs hp
def dRev (f : DE) : DE := fun ds m Q => f ds m fun x m1 => match x with
  | .tup l => Q (.tup l.reverse) m1
  | .rol l => aNew (.lst l.reverse) m1 Q
  | .ref a => ∃ l, m1 a = some (.lst l) ∧ aNew (.lst l.reverse) m1 Q
  | _ => False
theorem je_rev {e : Expr} {f : DE} {k : Nat} {p1 p2 p3 pos : Pos} (he : JE X e f) : JE X (.Subscript e (.Slice none none (some (.UnaryOp .USub (.Constant (.int 1) k p1) p2)) p3) pos) (dRev f) := by
  refine ⟨(pe_revA he.pe).imp fun σ H Q' h => ?_⟩
  obtain ⟨ds, m, Q, rs, rm, q, k⟩ := h
  refine ⟨ds, m, _, rs, rm, q, fun d m1 v H1 e1 rm1 rv q1 => ?_⟩
  cases rv with
  | tup s r => exact ⟨_, _, rfl, .inr ⟨sqt s, fun p hp => k _ _ _ _ (e1.trans (Ext.fresh hp)) (rm1.more hp) (.tup (.inl upd_same) (r.reverse.ext (Ext.fresh hp))) q1⟩⟩
  | rol s r => exact ⟨_, _, rfl, .inl ⟨s.l, fun p hp => k _ _ _ _ (e1.trans (Ext.fresh hp)) (rm1.upd (o := .lst _) (Ext.fresh hp) ⟨_, upd_same, r.reverse.ext (Ext.fresh hp)⟩) (.ref p) (q1 p (rm1.none hp))⟩⟩
  | ref a =>
    obtain ⟨l, h1, q1⟩ := q1
    obtain ⟨ys, e, r⟩ := rm1 _ _ h1
    exact ⟨_, ys, rfl, .inl ⟨SqL.of e, fun p hp => k _ _ _ _ (e1.trans (Ext.fresh hp)) (rm1.upd (o := .lst _) (Ext.fresh hp) ⟨_, upd_same, r.reverse.ext (Ext.fresh hp)⟩) (.ref p) (q1 p (rm1.none hp))⟩⟩
  | _ => exact q1.elim
end
end DL
/-! Words, codes: _law_split, _law_code, _law_words. -/
namespace DL
open PySem PySem.Spec PyProof.Rows L2
theorem ite_yes {b : Bool} {P Q : Prop} (hb : b = true) (h : P) : if b = true then P else Q := by
  rw [if_pos hb]
  exact h
theorem ite_no {b : Bool} {P Q : Prop} (hb : b = false) (h : Q) : if b = true then P else Q := by
  rw [if_neg (by rw [hb]; exact Bool.false_ne_true)]
  exact h
theorem while_by {c : DT} {body : DS} {D : DEnds} {ds : Sd} {m : MH} (Iv : Nat → Sd → MH → Prop) (n : Nat) (h : Iv n ds m)
    (turn : ∀ n ds m (N : Sd → MH → Prop), (∀ ds' m' j, j < n → Iv j ds' m' → N ds' m') → Iv n ds m → c ds m fun b m1 => if b = true then body { D with nx := N, ct := N, bk := D.nx } ds m1 else D.nx ds m1) : dWhile c body D ds m :=
  ⟨Iv, ⟨n, h⟩, fun n ds m h => turn n ds m _ (fun d' m' j hj h' => ⟨j, hj, h'⟩) h⟩
theorem mem_rangeD {x : D} {n : Nat} (h : x ∈ rangeD 0 n) : ∃ i : Nat, i < n ∧ x = .int i := by
  unfold rangeD at h
  obtain ⟨i, hi, e⟩ := List.mem_map.mp h
  exact ⟨i, List.mem_range.mp hi, by rw [← e]; simp⟩
theorem rangeD_len (lo : Int) (n : Nat) : (rangeD lo n).length = n := by simp [rangeD]
theorem cut_from (l : List D) (k : Nat) : cutD l (some (k : Int)) none = l.drop k := by
  unfold cutD
  rw [HT.sIx_none, HT.sIx_nat]
  rw [List.take_of_length_le (by rw [List.length_drop]; omega)]
  by_cases h : k ≤ l.length
  · rw [Nat.min_eq_left h]
  · rw [Nat.min_eq_right (by omega), List.drop_length, List.drop_eq_nil_of_le (by omega)]
theorem filter_rangeD (c : D → Bool) (n : Nat) : (rangeD 0 n).filter c = (((List.range n).filter fun i : Nat => c (.int i)).map fun i : Nat => (i : Int)).map .int := by
  unfold rangeD
  rw [List.filter_map, List.map_map]
  have e : (fun i : Nat => D.int (0 + (i : Int))) = fun i : Nat => D.int i := funext fun i => by simp
  rw [e]
  rfl
abbrev wD (ws : List (List Int)) : List D := ws.map tInts
theorem wD_get {ws : List (List Int)} {i : Nat} {w : List Int} (h : ws[i]? = some w) : (wD ws)[i]? = some (tInts w) := by rw [List.getElem?_map, h]; rfl
/-- a word of ws is made longer by the signs own, each its own -/
def Splits (s : Int) (many deep : Nat) (ws ws' : List (List Int)) : Prop := ∃ (k : Nat) (w own : List Int), ws[k]? = some w ∧ w.length < deep ∧ own ≠ [] ∧ own.Pairwise (· < ·) ∧ (∀ o ∈ own, 0 ≤ o ∧ o < s) ∧ ws.length + own.length ≤ many + 1 ∧
  ws' = ws.take k ++ own.map (fun o => w ++ [o]) ++ ws.drop (k + 1)
def spotC (ws : List (List Int)) (deep : Nat) (x : D) : Bool := match x with
  | .int i => decide ((ws.getD i.toNat []).length < deep)
  | _ => false
theorem spotC_int {ws : List (List Int)} {deep i : Nat} {w : List Int} (h : ws[i]? = some w) : spotC ws deep (.int i) = decide (w.length < deep) := by
  show decide ((ws.getD ((i : Int).toNat) []).length < deep) = _
  rw [Int.toNat_natCast, List.getD_eq_getElem?_getD, h]
  rfl
def b__law_split_7 : DS := (dRet (dOp aAdd (dOp aAdd (dSl (dVar 2) dNo (dPart (dVar 5))) (dLc (iAny (dVar 9)) (gN 10) dYes (dOp aAdd (dOp aIxA (dVar 2) (dVar 5)) (dTup (dCons (dVar 10) dNil))) [10])) (dSl (dVar 2) (dPart (dOp aAdd (dVar 5) (dC (.int 1)))) dNo)))
def b__law_split_7L : DS := (dExpr (dM mPopAt (dVar 9) (dCons (dCall sp__law_take (dCons (dVar 0) (dCons (dB1 bLen (dCons (dVar 9) dNil)) dNil))) dNil)))
def b__law_split_6 : DS := (dSeq (dWhile (dB (dOp aGt (dB1 bLen (dCons (dVar 9) dNil)) (dB1 bMin (dCons (dVar 8) (dCons (dVar 7) dNil))))) b__law_split_7L) b__law_split_7)
def b__law_split_5 : DS := (dSeq (dAsg (dListR1 (dVar 1)) (gN 9)) b__law_split_6)
def b__law_split_4 : DS := (dSeq (dAsg (dIfE (dB (dOp aEq (dCall sp__law_take (dCons (dVar 0) (dCons (dC (.int 5)) dNil))) (dC (.int 0)))) (dC (.int 1)) (dOp aAdd (dC (.int 2)) (dCall sp__law_take (dCons (dVar 0) (dCons (dOp aSub (dVar 7) (dC (.int 1))) dNil))))) (gN 8)) b__law_split_5)
def b__law_split_3 : DS := (dSeq (dAsg (dB1 bMin (dCons (dVar 1) (dCons (dOp aAdd (dOp aSub (dVar 3) (dB1 bLen (dCons (dVar 2) dNil))) (dC (.int 1))) dNil))) (gN 7)) b__law_split_4)
def b__law_split_2 : DS := (dSeq (dAsg (dCall sp__law_one (dCons (dVar 0) (dCons (dVar 6) dNil))) (gN 5)) b__law_split_3)
def b__law_split_1 : DS := (dSeq (dIf (dB (dOp aEq (dVar 6) (dLst dNil))) (dRet (dC .non)) dSkip) b__law_split_2)
def b__law_split : DS := (dSeq (dAsg (dLc (iR1 (dCons (dB1 bLen (dCons (dVar 2) dNil)) dNil)) (gN 5) (dB (dOp aLt (dB1 bLen (dCons (dOp aIxA (dVar 2) (dVar 5)) dNil)) (dVar 4))) (dVar 5) [5]) (gN 6)) b__law_split_1)
/-- slots: 0 deck, 1 signs, 2 words, 3 many, 4 deep, 5 spot, 6 spots, 7 left, 8 most, 9 own, 10 sign -/
def n__law_split : Nat := 11
def sp__law_split : DSp := fun ds m Q => ∃ (p : Addr × Addr) (n many deep : Nat) (q : Addr) (s : Int) (ws : List (List Int)), ds = [.ref p.1, .int s, .ref q, .int many, .int deep] ∧ Deck m p n ∧ n ≤ 2 ^ 39 ∧ 2 ≤ s ∧ s ≤ 20 ∧ m q = some (.lst (wD ws)) ∧ ws.length < many ∧ many ≤ 100 ∧ deep ≤ 1000 ∧
  (∀ m', Grow m m' → (∀ w ∈ ws, deep ≤ w.length) → Q .non m') ∧ ∀ m' q' ws', Keep p.1 m m' → Deck m' p (n + 30) → Splits s many deep ws ws' → m' q' = some (.lst (wD ws')) → Q (.ref q') m'
theorem map_erase {α β : Type} (f : α → β) : ∀ (l : List α) (i : Nat), (l.map f).eraseIdx i = (l.eraseIdx i).map f
  | [], _ => rfl
  | x :: l, 0 => rfl
  | x :: l, i + 1 => congrArg (f x :: ·) (map_erase f l i)
theorem pair_range : ∀ n : Nat, ((List.range n).map fun i : Nat => (i : Int)).Pairwise (· < ·) := fun n => by
  rw [List.pairwise_map]
  exact List.pairwise_lt_range.imp fun h => by omega
theorem rangeD_ints (n : Nat) : rangeD 0 n = (((List.range n).map fun i : Nat => (i : Int)).map .int : List D) := by
  unfold rangeD
  rw [List.map_map]
  refine List.map_congr_left fun i _ => ?_
  simp
section
variable {En : DEnds} {m : MH} {p : Addr × Addr} {n many deep k : Nat} {q : Addr} {s : Int} {ws : List (List Int)} {w own : List Int} {v6 v7 v8 v10 : Option D} {o : Addr}
/-- the row with the word made longer -/
theorem split7 (hq : m q = some (.lst (wD ws))) (hw : ws[k]? = some w) (ho : m o = some (.lst (own.map .int))) (hl : ws.length ≤ 1000) (hol : own.length ≤ 1000) (hwl : w.length ≤ 1000)
    (h : ∀ m' q', Grow m m' → m' q' = some (.lst (wD (ws.take k ++ own.map (fun o => w ++ [o]) ++ ws.drop (k + 1)))) → En.rt (.ref q') m') :
    b__law_split_7 En [some (.ref p.1), some (.int s), some (.ref q), some (.int many), some (.int deep), some (.int k), v6, v7, v8, some (.ref o), v10] m := by
  unfold b__law_split_7
  simp only [dSeq, dAsg, dIf, dRet, dExpr, dB, dB1, dOp, dCall, dCons, dNil, dVar, dC, dTup, dLst, dNeg, dIfE, dNot, dAnd, dOr, dAndT, dOrT, dNotT, dSl, dNo, dPart, dRev, dM, dM0, dListR1, dPar, dSkip, dYes, gN, gT, gS, gsCons, gsNil, dFor, iR1, iR2, iR3, iAny, DL.iEnum, iZip2, dLc, dwipe, List.set_cons_zero, List.set_cons_succ, List.getElem?_cons_zero, List.getElem?_cons_succ, Option.some.injEq, exists_eq_left', D.int.injEq, D.bl.injEq, D.tup.injEq, aAdd, aSub, aLt, aLe, aGt, aGe, bLen, bList, bTuple, aSl]
  refine ⟨_, hq, aNew_of fun r1 m1 g1 e1 _ _ => ?_⟩
  refine ⟨_, g1 _ _ ho, fun r2 hr2 => ?_⟩
  refine lc_map (fun x => match x with | .int i => tInts (w ++ [i]) | _ => .non) _ hr2 (by rw [List.length_map]; exact small1000 hol) (fun m' g => g _ _ (g1 _ _ ho)) (fun x hx m' N g hN => ?_) fun m2 g2 e2 => ?_
  · obtain ⟨i, hi, rfl⟩ := List.mem_map.mp hx
    simp only [dSeq, dAsg, dIf, dRet, dExpr, dB, dB1, dOp, dCall, dCons, dNil, dVar, dC, dTup, dLst, dNeg, dIfE, dNot, dAnd, dOr, dAndT, dOrT, dNotT, dSl, dNo, dPart, dRev, dM, dM0, dListR1, dPar, dSkip, dYes, gN, gT, gS, gsCons, gsNil, dFor, iR1, iR2, iR3, iAny, DL.iEnum, iZip2, dLc, dwipe, List.set_cons_zero, List.set_cons_succ, List.getElem?_cons_zero, List.getElem?_cons_succ, Option.some.injEq, exists_eq_left', D.int.injEq, D.bl.injEq, D.tup.injEq, aAdd, aSub, aLt, aLe, aGt, aGe, bLen, bList, bTuple, aSl]
    refine ix_lst (g _ _ (g1 _ _ hq)) (atI_nat (wD_get hw)) ⟨by show 1 ≤ sizeLine; decide, ?_⟩
    show _ ∧ _
    refine ⟨by rw [List.length_map]; exact Nat.le_of_lt (Nat.lt_of_le_of_lt (Nat.add_le_add_right hwl 1) (by decide)), ?_⟩
    have := hN m' (Grow.refl _)
    have e : tInts (w ++ [i]) = .tup (w.map .int ++ [.int i]) := by simp [tInts]
    simp only [e] at this
    exact this
  have e2' : m2 r2 = some (.lst (wD (own.map fun o => w ++ [o]))) := by
    rw [e2, List.map_map]
    show _ = some (MO.lst ((own.map fun o => w ++ [o]).map tInts))
    rw [List.map_map]
    rfl
  have e1' := g2 _ _ e1
  rw [cut_to, ← List.map_take] at e1'
  refine ⟨_, _, e1', e2', by simp only [List.length_map, List.length_take]; exact Nat.le_of_lt (Nat.lt_of_le_of_lt (show _ ≤ 2000 by omega) (by decide)), aNew_of fun r3 m3 g3 e3 _ _ => ?_⟩
  refine ⟨_, g3 _ _ (g2 _ _ (g1 _ _ hq)), aNew_of fun r4 m4 g4 e4 _ _ => ?_⟩
  rw [show ((k : Int) + 1) = ((k + 1 : Nat) : Int) by omega, cut_from, ← List.map_drop] at e4
  refine ⟨_, _, g4 _ _ e3, e4, by simp only [List.length_map, List.length_take, List.length_append, List.length_drop]; exact Nat.le_of_lt (Nat.lt_of_le_of_lt (show _ ≤ 3000 by omega) (by decide)), aNew_of fun r5 m5 g5 e5 _ _ => ?_⟩
  refine h m5 r5 (g1.trans (g2.trans (g3.trans (g4.trans g5)))) ?_
  rw [e5, ← List.map_append, ← List.map_append]
/-- the loop that leaves fewer signs -/
theorem split6 {left most : Int} {v10 : Option D} {m0 : MH} (hm0 : m0 o = none) (hk0 : Keep p.1 m0 m) (hD0 : Deck m0 p n) (hq0 : m0 q = some (.lst (wD ws))) (hD : Deck m p n) (hn : n ≤ 2 ^ 39 + 10) (hq : m q = some (.lst (wD ws))) (hw : ws[k]? = some w) (hwd : w.length < deep) (ho : m o = some (.lst (own.map .int))) (hl : ws.length < many) (hm : many ≤ 100) (hdp : w.length ≤ 1000)
    (ho0 : own ≠ []) (hos : own.length ≤ 20) (hsr : own.Pairwise (· < ·)) (hor : ∀ x ∈ own, 0 ≤ x ∧ x < s) (hm1 : 1 ≤ most) (hl1 : 1 ≤ left) (hl2 : left ≤ many - ws.length + 1)
    (h : ∀ m' q' ws', Keep p.1 m0 m' → Deck m' p (n + 20) → Splits s many deep ws ws' → m' q' = some (.lst (wD ws')) → En.rt (.ref q') m') :
    b__law_split_6 En [some (.ref p.1), some (.int s), some (.ref q), some (.int many), some (.int deep), some (.int k), v6, some (.int left), some (.int most), some (.ref o), v10] m := by
  unfold b__law_split_6
  simp only [dSeq]
  refine while_by (fun j ds' m' => ∃ own : List Int, j = own.length ∧ ds' = [some (.ref p.1), some (.int s), some (.ref q), some (.int many), some (.int deep), some (.int k), v6, some (.int left), some (.int most), some (.ref o), v10] ∧
    m' o = some (.lst (own.map .int)) ∧ m' q = some (.lst (wD ws)) ∧ Keep p.1 m0 m' ∧ Deck m' p (n + 20 - own.length) ∧ own ≠ [] ∧ own.length ≤ 20 ∧ own.Pairwise (· < ·) ∧ ∀ x ∈ own, 0 ≤ x ∧ x < s) own.length ⟨own, rfl, rfl, ho, hq, hk0, hD.mono (by omega), ho0, hos, hsr, hor⟩ ?_
  rintro j ds' m' N hN ⟨own, rfl, rfl, ho, hq', hk, hD', ho0, hos, hsr, hor⟩
  obtain ⟨op1, op2⟩ := hD0.fresh hm0
  have hpos := List.length_pos_iff.mpr ho0
  simp only [dSeq, dAsg, dIf, dRet, dExpr, dB, dB1, dOp, dCall, dCons, dNil, dVar, dC, dTup, dLst, dNeg, dIfE, dNot, dAnd, dOr, dAndT, dOrT, dNotT, dSl, dNo, dPart, dRev, dM, dM0, dListR1, dPar, dSkip, dYes, gN, gT, gS, gsCons, gsNil, dFor, iR1, iR2, iR3, iAny, DL.iEnum, iZip2, dLc, dwipe, List.set_cons_zero, List.set_cons_succ, List.getElem?_cons_zero, List.getElem?_cons_succ, Option.some.injEq, exists_eq_left', D.int.injEq, D.bl.injEq, D.tup.injEq, aAdd, aSub, aLt, aLe, aGt, aGe, bLen, bList, bTuple, aSl, bMin]
  refine ⟨_, ho, ?_⟩
  rw [List.length_map]
  by_cases hc : (if left < most then left else most) < (own.length : Int)
  · rw [if_pos (decide_eq_true hc)]
    unfold b__law_split_7L
    simp only [dSeq, dAsg, dIf, dRet, dExpr, dB, dB1, dOp, dCall, dCons, dNil, dVar, dC, dTup, dLst, dNeg, dIfE, dNot, dAnd, dOr, dAndT, dOrT, dNotT, dSl, dNo, dPart, dRev, dM, dM0, dListR1, dPar, dSkip, dYes, gN, gT, gS, gsCons, gsNil, dFor, iR1, iR2, iR3, iAny, DL.iEnum, iZip2, dLc, dwipe, List.set_cons_zero, List.set_cons_succ, List.getElem?_cons_zero, List.getElem?_cons_succ, Option.some.injEq, exists_eq_left', D.int.injEq, D.bl.injEq, D.tup.injEq, aAdd, aSub, aLt, aLe, aGt, aGe, bLen, bList, bTuple, aSl, mPopAt]
    refine ⟨.inl ⟨_, _, rfl, ho⟩, _, ho, p, n + 20 - own.length, _, rfl, hD', by omega, ?_, ?_, fun r m1 r0 r1 hD1 hk1 => ?_⟩
    · rw [List.length_map]
      omega
    · rw [List.length_map]
      omega
    rw [List.length_map] at r1
    obtain ⟨i, rfl⟩ := Int.eq_ofNat_of_zero_le r0
    have hi : i < own.length := by omega
    have ho1 := hk1 _ _ (hD'.ne ho) ho
    have hsi : seqIndex? (i : Int) (own.map D.int).length = some i := by
      rw [List.length_map]
      unfold seqIndex?
      simp
      omega
    refine ⟨o, own.map .int, (i : Int), i, .int own[i], rfl, rfl, ho1, by omega, by omega, hsi, by simp [hi], ?_⟩
    have hel : (own.eraseIdx i).length = own.length - 1 := List.length_eraseIdx_of_lt hi
    have hlow : 1 < own.length := by
      split at hc <;> omega
    refine hN _ _ (own.length - 1) (by omega) ⟨own.eraseIdx i, hel.symm, rfl, ?_, ?_, ?_, ?_, ?_, by omega, hsr.sublist (List.eraseIdx_sublist ..), fun x hx => hor x (List.mem_of_mem_eraseIdx hx)⟩
    · rw [mup_same, map_erase]
    · rw [mup_ne (mne_of_none hq0 hm0)]
      exact hk1 _ _ (hD'.ne hq') hq'
    · intro b u nb e
      rw [mup_ne (mne_of_none e hm0)]
      exact hk1 _ _ nb (hk _ _ nb e)
    · rw [hel]
      exact (hD1.upd op1 op2).mono (by omega)
    · intro z
      rw [z] at hel
      simp at hel
      omega
  · rw [if_neg (by simpa using hc)]
    refine split7 hq' hw ho (by omega) (by omega) hdp fun m2 q2 g2 e2 => h m2 q2 _ (hk.trans g2.keep) ((hD'.at g2).mono (by omega)) ⟨k, w, own, hw, hwd, ho0, hsr, hor, ?_, rfl⟩ e2
    split at hc <;> omega
end
theorem hp__law_split : ∀ ds m Q, sp__law_split ds m Q → b__law_split { nx := fun _ m' => Q .non m', rt := Q } (dstart 11 ds) m := by
  rintro ds m Q ⟨p, n, many, deep, q, s, ws, rfl, hD, hn, hs0, hs1, hq, hwl, hm, hdp, q0, q1⟩
  show b__law_split _ [some (.ref p.1), some (.int s), some (.ref q), some (.int many), some (.int deep), none, none, none, none, none, none] m
  unfold b__law_split
  simp only [dSeq, dAsg, dIf, dRet, dExpr, dB, dB1, dOp, dCall, dCons, dNil, dVar, dC, dTup, dLst, dNeg, dIfE, dNot, dAnd, dOr, dAndT, dOrT, dNotT, dSl, dNo, dPart, dRev, dM, dM0, dListR1, dPar, dSkip, dYes, gN, gT, gS, gsCons, gsNil, dFor, iR1, iR2, iR3, iAny, DL.iEnum, iZip2, dLc, dwipe, List.set_cons_zero, List.set_cons_succ, List.getElem?_cons_zero, List.getElem?_cons_succ, Option.some.injEq, exists_eq_left', D.int.injEq, D.bl.injEq, D.tup.injEq, aAdd, aSub, aLt, aLe, aGt, aGe, bLen, bList, bTuple, aSl]
  refine ⟨_, hq, _, rfl, by rw [List.length_map]; omega, by rw [List.length_map]; omega, fun r hr => ?_⟩
  rw [List.length_map, Int.toNat_natCast]
  refine lc_filter (spotC ws deep) (fun x => x) _ hr (by rw [rangeD_len]; exact small1000 (by omega)) (fun _ _ => trivial) (fun x hx m' N1 N2 g h1 h2 => ?_) fun m1 g1 e1 => ?_
  · obtain ⟨i, hi, rfl⟩ := mem_rangeD hx
    simp only [dSeq, dAsg, dIf, dRet, dExpr, dB, dB1, dOp, dCall, dCons, dNil, dVar, dC, dTup, dLst, dNeg, dIfE, dNot, dAnd, dOr, dAndT, dOrT, dNotT, dSl, dNo, dPart, dRev, dM, dM0, dListR1, dPar, dSkip, dYes, gN, gT, gS, gsCons, gsNil, dFor, iR1, iR2, iR3, iAny, DL.iEnum, iZip2, dLc, dwipe, List.set_cons_zero, List.set_cons_succ, List.getElem?_cons_zero, List.getElem?_cons_succ, Option.some.injEq, exists_eq_left', D.int.injEq, D.bl.injEq, D.tup.injEq, aAdd, aSub, aLt, aLe, aGt, aGe, bLen, bList, bTuple, aSl]
    have hw : ws[i]? = some ws[i] := List.getElem?_eq_getElem hi
    refine ix_lst (g _ _ hq) (atI_nat (wD_get hw)) ?_
    refine ⟨_, rfl, ?_⟩
    rw [List.length_map]
    by_cases hd : ws[i].length < deep
    · rw [if_pos (decide_eq_true (by omega))]
      exact h1 (by rw [spotC_int hw]; exact decide_eq_true hd) m' (Grow.refl _)
    · rw [if_neg (by simp; omega)]
      exact h2 (by rw [spotC_int hw]; exact decide_eq_false hd) m' (Grow.refl _)
  rw [List.map_id', filter_rangeD] at e1
  have hsp : ∀ i ∈ (List.range ws.length).filter (fun i : Nat => spotC ws deep (.int i)), ∃ w, ws[i]? = some w ∧ w.length < deep := by
    intro i hi
    obtain ⟨h1, h2⟩ := List.mem_filter.mp hi
    have h1 := List.mem_range.mp h1
    have hw : ws[i]? = some ws[i] := List.getElem?_eq_getElem h1
    rw [spotC_int hw] at h2
    exact ⟨_, hw, of_decide_eq_true h2⟩
  have hsz : ((List.range ws.length).filter (fun i : Nat => spotC ws deep (.int i))).length ≤ ws.length := by
    have := List.length_filter_le (fun i : Nat => spotC ws deep (.int i)) (List.range ws.length)
    rw [List.length_range] at this
    exact this
  have hnil : (List.range ws.length).filter (fun i : Nat => spotC ws deep (.int i)) = [] → ∀ w ∈ ws, deep ≤ w.length := by
    intro h w hw
    obtain ⟨i, hi⟩ := List.getElem?_of_mem hw
    have h3 := List.filter_eq_nil_iff.mp h i (List.mem_range.mpr (List.getElem?_eq_some_iff.mp hi).1)
    rw [spotC_int hi] at h3
    have : ¬ w.length < deep := fun z => h3 (decide_eq_true z)
    omega
  generalize hsps : (List.range ws.length).filter (fun i : Nat => spotC ws deep (.int i)) = sps at e1 hsp hsz hnil
  clear hsps
  unfold b__law_split_1
  simp only [dSeq, dAsg, dIf, dRet, dExpr, dB, dB1, dOp, dCall, dCons, dNil, dVar, dC, dTup, dLst, dNeg, dIfE, dNot, dAnd, dOr, dAndT, dOrT, dNotT, dSl, dNo, dPart, dRev, dM, dM0, dListR1, dPar, dSkip, dYes, gN, gT, gS, gsCons, gsNil, dFor, iR1, iR2, iR3, iAny, DL.iEnum, iZip2, dLc, dwipe, List.set_cons_zero, List.set_cons_succ, List.getElem?_cons_zero, List.getElem?_cons_succ, Option.some.injEq, exists_eq_left', D.int.injEq, D.bl.injEq, D.tup.injEq, aAdd, aSub, aLt, aLe, aGt, aGe, bLen, bList, bTuple, aSl]
  refine ⟨by show 0 ≤ sizeLine; decide, aNew_of fun r2 m2 g2 e2 _ _ => ?_⟩
  refine eq_lints (ns := sps.map fun i : Nat => (i : Int)) (ms := []) (g2 _ _ e1) e2 ⟨_, rfl, ?_⟩
  have hg12 := g1.trans g2
  by_cases hn0 : sps = []
  · subst hn0
    rw [if_pos (by decide)]
    exact q0 m2 hg12 (hnil rfl)
  rw [if_neg (by simpa using hn0)]
  unfold b__law_split_2
  simp only [dSeq, dAsg, dIf, dRet, dExpr, dB, dB1, dOp, dCall, dCons, dNil, dVar, dC, dTup, dLst, dNeg, dIfE, dNot, dAnd, dOr, dAndT, dOrT, dNotT, dSl, dNo, dPart, dRev, dM, dM0, dListR1, dPar, dSkip, dYes, gN, gT, gS, gsCons, gsNil, dFor, iR1, iR2, iR3, iAny, DL.iEnum, iZip2, dLc, dwipe, List.set_cons_zero, List.set_cons_succ, List.getElem?_cons_zero, List.getElem?_cons_succ, Option.some.injEq, exists_eq_left', D.int.injEq, D.bl.injEq, D.tup.injEq, aAdd, aSub, aLt, aLe, aGt, aGe, bLen, bList, bTuple, aSl]
  refine ⟨p, n, _, _, rfl, hD.at hg12, by omega, .inr ⟨r, rfl, g2 _ _ e1⟩, by simpa using hn0, by rw [List.length_map, List.length_map]; omega, fun d m3 hd hD3 hk3 => ?_⟩
  rw [List.map_map] at hd
  obtain ⟨k, hk, rfl⟩ := List.mem_map.mp hd
  obtain ⟨w, hw, hwd⟩ := hsp k hk
  have hkl : k < ws.length := (List.getElem?_eq_some_iff.mp hw).1
  have q3 := hk3 _ _ (hD.ne hq) (hg12 _ _ hq)
  have k03 : Keep p.1 m m3 := hg12.keep.trans hk3
  -- left
  unfold b__law_split_3
  simp only [dSeq, dAsg, dIf, dRet, dExpr, dB, dB1, dOp, dCall, dCons, dNil, dVar, dC, dTup, dLst, dNeg, dIfE, dNot, dAnd, dOr, dAndT, dOrT, dNotT, dSl, dNo, dPart, dRev, dM, dM0, dListR1, dPar, dSkip, dYes, gN, gT, gS, gsCons, gsNil, dFor, iR1, iR2, iR3, iAny, DL.iEnum, iZip2, dLc, dwipe, List.set_cons_zero, List.set_cons_succ, List.getElem?_cons_zero, List.getElem?_cons_succ, Option.some.injEq, exists_eq_left', D.int.injEq, D.bl.injEq, D.tup.injEq, aAdd, aSub, aLt, aLe, aGt, aGe, bLen, bList, bTuple, aSl, bMin]
  refine ⟨_, q3, ?_⟩
  rw [List.length_map]
  generalize hlf : (if (many : Int) - ws.length + 1 < s then (many : Int) - ws.length + 1 else s) = left
  have hl2 : 2 ≤ left ∧ left ≤ many - ws.length + 1 ∧ left ≤ 100 := by
    rw [← hlf]
    split <;> omega
  -- own, and the rest
  have rest : ∀ (most : Int) (m4 : MH) (j : Nat), 1 ≤ most → j ≤ n + 5 → Deck m4 p j → Keep p.1 m m4 →
      b__law_split_5 { nx := fun x m' => Q D.non m', rt := Q } [some (.ref p.1), some (.int s), some (.ref q), some (.int many), some (.int deep), some (.int k), some (.ref r), some (.int left), some (.int most), none, none] m4 := by
    intro most m4 j hm1 hj hD4 hk4
    unfold b__law_split_5
    simp only [dSeq, dAsg, dIf, dRet, dExpr, dB, dB1, dOp, dCall, dCons, dNil, dVar, dC, dTup, dLst, dNeg, dIfE, dNot, dAnd, dOr, dAndT, dOrT, dNotT, dSl, dNo, dPart, dRev, dM, dM0, dListR1, dPar, dSkip, dYes, gN, gT, gS, gsCons, gsNil, dFor, iR1, iR2, iR3, iAny, DL.iEnum, iZip2, dLc, dwipe, List.set_cons_zero, List.set_cons_succ, List.getElem?_cons_zero, List.getElem?_cons_succ, Option.some.injEq, exists_eq_left', D.int.injEq, D.bl.injEq, D.tup.injEq, aAdd, aSub, aLt, aLe, aGt, aGe, bLen, bList, bTuple, aSl]
    refine ⟨⟨by omega, by omega⟩, fun o ho => ?_⟩
    have q4 := hk4 _ _ (hD.ne hq) hq
    obtain ⟨o1, o2⟩ := hD4.fresh ho
    refine split6 (m0 := m4) (n := j) (own := (List.range s.toNat).map fun i : Nat => (i : Int)) ho (fun b u _ e => ?_) hD4 q4 (hD4.upd o1 o2) (by omega) ?_ hw hwd ?_ hwl hm ?_ ?_ ?_ (pair_range _) ?_ hm1 (by omega) (by omega) fun m5 q5 ws' hk5 hD5 hsp5 e5 => ?_
    · rw [mup_ne (mne_of_none e ho)]
      exact e
    · rw [mup_ne (mne_of_none q4 ho)]
      exact q4
    · rw [mup_same, rangeD_ints]
    · omega
    · simp
      omega
    · simp
      omega
    · intro x hx
      obtain ⟨i, hi, rfl⟩ := List.mem_map.mp hx
      have := List.mem_range.mp hi
      omega
    · exact q1 m5 q5 ws' (hk4.trans hk5) (hD5.mono (by omega)) hsp5 e5
  unfold b__law_split_4
  simp only [dSeq, dAsg, dIf, dRet, dExpr, dB, dB1, dOp, dCall, dCons, dNil, dVar, dC, dTup, dLst, dNeg, dIfE, dNot, dAnd, dOr, dAndT, dOrT, dNotT, dSl, dNo, dPart, dRev, dM, dM0, dListR1, dPar, dSkip, dYes, gN, gT, gS, gsCons, gsNil, dFor, iR1, iR2, iR3, iAny, DL.iEnum, iZip2, dLc, dwipe, List.set_cons_zero, List.set_cons_succ, List.getElem?_cons_zero, List.getElem?_cons_succ, Option.some.injEq, exists_eq_left', D.int.injEq, D.bl.injEq, D.tup.injEq, aAdd, aSub, aLt, aLe, aGt, aGe, bLen, bList, bTuple, aSl]
  refine ⟨p, n + 1, 5, rfl, hD3, by omega, by decide, by decide, fun y m4 y0 y1 hD4 hk4 => eq_int ⟨_, rfl, ?_⟩⟩
  by_cases hy : y = 0
  · rw [if_pos (decide_eq_true hy)]
    exact rest 1 m4 (n + 2) (by omega) (by omega) hD4 (k03.trans hk4)
  · rw [if_neg (by simpa using hy)]
    refine ⟨p, n + 2, _, rfl, hD4, by omega, by omega, by omega, fun z m5 z0 z1 hD5 hk5 => ?_⟩
    exact rest (2 + z) m5 (n + 3) (by omega) (by omega) hD5 (k03.trans (hk4.trans hk5))
/-! ### codes -/
/-- two words part, the one less -/
def Apart (a b : List Int) : Prop := ∃ (c : List Int) (x y : Int) (a' b' : List Int), a = c ++ x :: a' ∧ b = c ++ y :: b' ∧ x < y
theorem Apart.right {a b : List Int} (h : Apart a b) (t : List Int) : Apart a (b ++ t) := by
  obtain ⟨c, x, y, a', b', rfl, rfl, h⟩ := h
  exact ⟨c, x, y, a', b' ++ t, rfl, by simp, h⟩
theorem Apart.left {a b : List Int} (h : Apart a b) (t : List Int) : Apart (a ++ t) b := by
  obtain ⟨c, x, y, a', b', rfl, rfl, h⟩ := h
  exact ⟨c, x, y, a' ++ t, b', by simp, rfl, h⟩
structure Code (s : Int) (deep : Nat) (ws : List (List Int)) : Prop where
  sg : ∀ w ∈ ws, ∀ i ∈ w, 0 ≤ i ∧ i < s
  dp : ∀ w ∈ ws, w.length ≤ deep
  ap : ws.Pairwise Apart
  ne : ws ≠ []
theorem split_list {α : Type} {l : List α} {k : Nat} {x : α} (h : l[k]? = some x) : l = l.take k ++ x :: l.drop (k + 1) := by
  obtain ⟨hk, e⟩ := List.getElem?_eq_some_iff.mp h
  rw [← e, ← List.drop_eq_getElem_cons hk, List.take_append_drop]
theorem Splits.code {s : Int} {many deep : Nat} {ws ws' : List (List Int)} (h : Splits s many deep ws ws') (c : Code s deep ws) : Code s deep ws' ∧ ws'.length ≤ many ∧ ((ws.map List.length).sum < (ws'.map List.length).sum) := by
  obtain ⟨k, w, own, hw, hd, ho, hp, hr, hl, e⟩ := h
  have hs := split_list hw
  generalize ws.take k = a at hs e
  generalize ws.drop (k + 1) = b at hs e
  subst hs
  subst e
  obtain ⟨sg, dp, ap, ne⟩ := c
  have hwm : w ∈ a ++ w :: b := by simp
  obtain ⟨pa, pwb, hab⟩ := List.pairwise_append.mp ap
  obtain ⟨hwb, pb⟩ := List.pairwise_cons.mp pwb
  have hop := List.length_pos_iff.mpr ho
  refine ⟨⟨fun v hv i hi => ?_, fun v hv => ?_, ?_, ?_⟩, ?_, ?_⟩
  · rcases List.mem_append.mp hv with hv | hv
    · rcases List.mem_append.mp hv with hv | hv
      · exact sg v (by simp [hv]) i hi
      · obtain ⟨o, hom, rfl⟩ := List.mem_map.mp hv
        rcases List.mem_append.mp hi with hi | hi
        · exact sg w hwm i hi
        · rw [List.mem_singleton.mp hi]
          exact hr o hom
    · exact sg v (by simp [hv]) i hi
  · rcases List.mem_append.mp hv with hv | hv
    · rcases List.mem_append.mp hv with hv | hv
      · exact dp v (by simp [hv])
      · obtain ⟨o, hom, rfl⟩ := List.mem_map.mp hv
        rw [List.length_append, List.length_singleton]
        omega
    · exact dp v (by simp [hv])
  · refine List.pairwise_append.mpr ⟨List.pairwise_append.mpr ⟨pa, ?_, fun x hx y hy => ?_⟩, pb, fun x hx y hy => ?_⟩
    · rw [List.pairwise_map]
      exact hp.imp fun {x y} h => ⟨w, x, y, [], [], rfl, rfl, h⟩
    · obtain ⟨o, hom, rfl⟩ := List.mem_map.mp hy
      exact (hab x hx w (by simp)).right _
    · rcases List.mem_append.mp hx with hx | hx
      · exact hab x hx y (by simp [hy])
      · obtain ⟨o, hom, rfl⟩ := List.mem_map.mp hx
        exact (hwb y hy).left _
  · intro z
    have := congrArg List.length z
    simp only [List.length_append, List.length_map, List.length_nil] at this
    omega
  · simp only [List.length_append, List.length_map, List.length_cons] at hl ⊢
    omega
  · simp only [List.map_append, List.map_cons, List.map_map, List.sum_append, List.sum_cons]
    have : ∀ l : List Int, (List.map (List.length ∘ fun o => w ++ [o]) l).sum = l.length * (w.length + 1) := by
      intro l
      induction l with
      | nil => simp
      | cons x l ih =>
        rw [List.map_cons, List.sum_cons, ih, List.length_cons, Nat.add_mul]
        simp
        omega
    rw [this]
    have : w.length + 1 ≤ own.length * (w.length + 1) := Nat.le_mul_of_pos_left _ hop
    omega
theorem Code.sum {s : Int} {deep : Nat} {ws : List (List Int)} (c : Code s deep ws) : (ws.map List.length).sum ≤ ws.length * deep := by
  have h := c.dp
  clear c
  induction ws with
  | nil => simp
  | cons w ws ih =>
    rw [List.map_cons, List.sum_cons, List.length_cons, Nat.add_mul, Nat.one_mul]
    have h1 := h w (by simp)
    have h2 := ih fun v hv => h v (by simp [hv])
    omega
theorem Code.one (s : Int) (deep : Nat) : Code s deep [[]] := ⟨fun w hw i hi => (by rw [List.mem_singleton.mp hw] at hi; exact (nomatch hi)), fun w hw => (by rw [List.mem_singleton.mp hw]; exact Nat.zero_le _), by simp, by simp⟩
def b__law_code_2 : DS := (dRet (dB1 bTuple (dCons (dVar 4) dNil)))
def b__law_code_2L_2 : DS := (dAsg (dVar 5) (gN 4))
def b__law_code_2L_1 : DS := (dSeq (dIf (dB (dOp aIs (dVar 5) (dC .non))) (dRet (dB1 bTuple (dCons (dVar 4) dNil))) dSkip) b__law_code_2L_2)
def b__law_code_2L : DS := (dSeq (dAsg (dCall sp__law_split (dCons (dVar 0) (dCons (dVar 1) (dCons (dVar 4) (dCons (dVar 2) (dCons (dVar 3) dNil)))))) (gN 5)) b__law_code_2L_1)
def b__law_code_1 : DS := (dSeq (dWhile (dB (dOp aLt (dB1 bLen (dCons (dVar 4) dNil)) (dVar 2))) b__law_code_2L) b__law_code_2)
def b__law_code : DS := (dSeq (dAsg (dLst (dCons (dTup dNil) dNil)) (gN 4)) b__law_code_1)
/-- slots: 0 deck, 1 signs, 2 many, 3 deep, 4 words, 5 later -/
def n__law_code : Nat := 6
def sp__law_code : DSp := fun ds m Q => ∃ (p : Addr × Addr) (n many deep : Nat) (s : Int), ds = [.ref p.1, .int s, .int many, .int deep] ∧ Deck m p n ∧ n ≤ 2 ^ 38 ∧ 2 ≤ s ∧ s ≤ 20 ∧ 1 ≤ many ∧ many ≤ 100 ∧ deep ≤ 100 ∧
  ∀ m' ws, Keep p.1 m m' → Deck m' p (n + 1000000) → Code s deep ws → ws.length ≤ many → (ws.length < many → ∀ w ∈ ws, deep ≤ w.length) → Q (.tup (wD ws)) m'
theorem hp__law_code : ∀ ds m Q, sp__law_code ds m Q → b__law_code { nx := fun _ m' => Q .non m', rt := Q } (dstart 6 ds) m := by
  rintro ds m Q ⟨p, n, many, deep, s, rfl, hD, hn, hs0, hs1, hm0, hm1, hdp, q⟩
  show b__law_code _ [some (.ref p.1), some (.int s), some (.int many), some (.int deep), none, none] m
  unfold b__law_code
  simp only [dSeq, dAsg, dIf, dRet, dExpr, dB, dB1, dOp, dCall, dCons, dNil, dVar, dC, dTup, dLst, dNeg, dIfE, dNot, dAnd, dOr, dAndT, dOrT, dNotT, dSl, dNo, dPart, dRev, dM, dM0, dListR1, dPar, dSkip, dYes, gN, gT, gS, gsCons, gsNil, dFor, iR1, iR2, iR3, iAny, DL.iEnum, iZip2, dLc, dwipe, List.set_cons_zero, List.set_cons_succ, List.getElem?_cons_zero, List.getElem?_cons_succ, Option.some.injEq, exists_eq_left', D.int.injEq, D.bl.injEq, D.tup.injEq, aAdd, aSub, aLt, aLe, aGt, aGe, bLen, bList, bTuple, aSl]
  refine ⟨by show 0 ≤ sizeLine; decide, by show 1 ≤ sizeLine; decide, aNew_of fun q0 m0 g0 e0 _ _ => ?_⟩
  unfold b__law_code_1
  simp only [dSeq]
  refine while_by (fun j ds' m' => ∃ (q1 : Addr) (ws : List (List Int)) (i : Nat) (v5 : Option D), j + (ws.map List.length).sum = many * deep ∧ i + j = many * deep ∧ ds' = [some (.ref p.1), some (.int s), some (.int many), some (.int deep), some (.ref q1), v5] ∧
    m' q1 = some (.lst (wD ws)) ∧ Keep p.1 m m' ∧ Deck m' p (n + 30 * i) ∧ Code s deep ws ∧ ws.length ≤ many) (many * deep) ⟨q0, [[]], 0, _, by simp, by omega, rfl, e0, g0.keep, hD.at g0, Code.one s deep, hm0⟩ ?_
  rintro j ds' m' N hN ⟨q1, ws, i, v5, hj, hi, rfl, hq1, hk, hD', hc, hl⟩
  have hmd : many * deep ≤ 100 * 100 := Nat.mul_le_mul hm1 hdp
  have fin : ∀ m2, Grow m' m2 → (ws.length < many → ∀ w ∈ ws, deep ≤ w.length) → Q (.tup (wD ws)) m2 := fun m2 g2 hfew => q m2 ws (hk.trans g2.keep) ((hD'.at g2).mono (by omega)) hc hl hfew
  simp only [dSeq, dAsg, dIf, dRet, dExpr, dB, dB1, dOp, dCall, dCons, dNil, dVar, dC, dTup, dLst, dNeg, dIfE, dNot, dAnd, dOr, dAndT, dOrT, dNotT, dSl, dNo, dPart, dRev, dM, dM0, dListR1, dPar, dSkip, dYes, gN, gT, gS, gsCons, gsNil, dFor, iR1, iR2, iR3, iAny, DL.iEnum, iZip2, dLc, dwipe, List.set_cons_zero, List.set_cons_succ, List.getElem?_cons_zero, List.getElem?_cons_succ, Option.some.injEq, exists_eq_left', D.int.injEq, D.bl.injEq, D.tup.injEq, aAdd, aSub, aLt, aLe, aGt, aGe, bLen, bList, bTuple, aSl]
  refine ⟨_, hq1, ?_⟩
  rw [List.length_map]
  by_cases hlt : ws.length < many
  · rw [if_pos (decide_eq_true (by omega))]
    unfold b__law_code_2L
    simp only [dSeq, dAsg, dIf, dRet, dExpr, dB, dB1, dOp, dCall, dCons, dNil, dVar, dC, dTup, dLst, dNeg, dIfE, dNot, dAnd, dOr, dAndT, dOrT, dNotT, dSl, dNo, dPart, dRev, dM, dM0, dListR1, dPar, dSkip, dYes, gN, gT, gS, gsCons, gsNil, dFor, iR1, iR2, iR3, iAny, DL.iEnum, iZip2, dLc, dwipe, List.set_cons_zero, List.set_cons_succ, List.getElem?_cons_zero, List.getElem?_cons_succ, Option.some.injEq, exists_eq_left', D.int.injEq, D.bl.injEq, D.tup.injEq, aAdd, aSub, aLt, aLe, aGt, aGe, bLen, bList, bTuple, aSl]
    refine ⟨p, n + 30 * i, many, deep, q1, s, ws, rfl, hD', by omega, hs0, hs1, hq1, hlt, hm1, by omega, fun m2 g2 hfew => ?_, fun m2 q2 ws' hk2 hD2 hsp e2 => ?_⟩
    · unfold b__law_code_2L_1
      simp only [dSeq, dAsg, dIf, dRet, dExpr, dB, dB1, dOp, dCall, dCons, dNil, dVar, dC, dTup, dLst, dNeg, dIfE, dNot, dAnd, dOr, dAndT, dOrT, dNotT, dSl, dNo, dPart, dRev, dM, dM0, dListR1, dPar, dSkip, dYes, gN, gT, gS, gsCons, gsNil, dFor, iR1, iR2, iR3, iAny, DL.iEnum, iZip2, dLc, dwipe, List.set_cons_zero, List.set_cons_succ, List.getElem?_cons_zero, List.getElem?_cons_succ, Option.some.injEq, exists_eq_left', D.int.injEq, D.bl.injEq, D.tup.injEq, aAdd, aSub, aLt, aLe, aGt, aGe, bLen, bList, bTuple, aSl]
      refine ⟨rfl, _, rfl, ?_⟩
      refine ite_yes rfl ?_
      exact ⟨_, g2 _ _ hq1, fin m2 g2 fun _ => hfew⟩
    · obtain ⟨hc', hl', hsum⟩ := hsp.code hc
      have hs' := hc'.sum
      have : ws'.length * deep ≤ many * deep := Nat.mul_le_mul_right _ hl'
      unfold b__law_code_2L_1
      simp only [dSeq, dAsg, dIf, dRet, dExpr, dB, dB1, dOp, dCall, dCons, dNil, dVar, dC, dTup, dLst, dNeg, dIfE, dNot, dAnd, dOr, dAndT, dOrT, dNotT, dSl, dNo, dPart, dRev, dM, dM0, dListR1, dPar, dSkip, dYes, gN, gT, gS, gsCons, gsNil, dFor, iR1, iR2, iR3, iAny, DL.iEnum, iZip2, dLc, dwipe, List.set_cons_zero, List.set_cons_succ, List.getElem?_cons_zero, List.getElem?_cons_succ, Option.some.injEq, exists_eq_left', D.int.injEq, D.bl.injEq, D.tup.injEq, aAdd, aSub, aLt, aLe, aGt, aGe, bLen, bList, bTuple, aSl]
      refine ⟨rfl, _, rfl, ?_⟩
      refine ite_no rfl ?_
      unfold b__law_code_2L_2
      simp only [dSeq, dAsg, dIf, dRet, dExpr, dB, dB1, dOp, dCall, dCons, dNil, dVar, dC, dTup, dLst, dNeg, dIfE, dNot, dAnd, dOr, dAndT, dOrT, dNotT, dSl, dNo, dPart, dRev, dM, dM0, dListR1, dPar, dSkip, dYes, gN, gT, gS, gsCons, gsNil, dFor, iR1, iR2, iR3, iAny, DL.iEnum, iZip2, dLc, dwipe, List.set_cons_zero, List.set_cons_succ, List.getElem?_cons_zero, List.getElem?_cons_succ, Option.some.injEq, exists_eq_left', D.int.injEq, D.bl.injEq, D.tup.injEq, aAdd, aSub, aLt, aLe, aGt, aGe, bLen, bList, bTuple, aSl]
      refine hN _ _ (many * deep - (ws'.map List.length).sum) (by omega) ⟨q2, ws', (ws'.map List.length).sum, _, by omega, by omega, rfl, e2, hk.trans hk2, hD2.mono ?_, hc', hl'⟩
      have : i + 1 ≤ (ws'.map List.length).sum := by omega
      omega
  · rw [if_neg (by simpa using hlt)]
    unfold b__law_code_2
    simp only [dSeq, dAsg, dIf, dRet, dExpr, dB, dB1, dOp, dCall, dCons, dNil, dVar, dC, dTup, dLst, dNeg, dIfE, dNot, dAnd, dOr, dAndT, dOrT, dNotT, dSl, dNo, dPart, dRev, dM, dM0, dListR1, dPar, dSkip, dYes, gN, gT, gS, gsCons, gsNil, dFor, iR1, iR2, iR3, iAny, DL.iEnum, iZip2, dLc, dwipe, List.set_cons_zero, List.set_cons_succ, List.getElem?_cons_zero, List.getElem?_cons_succ, Option.some.injEq, exists_eq_left', D.int.injEq, D.bl.injEq, D.tup.injEq, aAdd, aSub, aLt, aLe, aGt, aGe, bLen, bList, bTuple, aSl]
    exact ⟨_, hq1, fin m' (Grow.refl _) fun z => absurd z hlt⟩
/-! ### all words of a length -/
def signsOf (s : Nat) : List Int := (List.range s).map fun i : Nat => (i : Int)
def allWords (s : Nat) : Nat → List (List Int)
  | 0 => [[]]
  | k + 1 => (allWords s k).flatMap fun w => (signsOf s).map fun x => w ++ [x]
theorem flat_len (s : Nat) : ∀ l : List (List Int), (l.flatMap fun w => (signsOf s).map fun x => w ++ [x]).length = l.length * s
  | [] => by simp
  | x :: l => by
    rw [List.flatMap_cons, List.length_append, flat_len s l, List.length_cons, Nat.add_mul]
    simp [signsOf]
    omega
theorem allWords_len (s : Nat) : ∀ k, (allWords s k).length = s ^ k
  | 0 => rfl
  | k + 1 => by rw [allWords, flat_len, allWords_len s k, Nat.pow_succ]
theorem mem_allWords {s : Nat} : ∀ {k : Nat} {w : List Int}, w ∈ allWords s k ↔ w.length = k ∧ ∀ i ∈ w, 0 ≤ i ∧ i < s
  | 0, w => by
    rw [allWords, List.mem_singleton]
    constructor
    · rintro rfl
      exact ⟨rfl, fun i hi => nomatch hi⟩
    · rintro ⟨h, _⟩
      exact List.eq_nil_of_length_eq_zero h
  | k + 1, w => by
    rw [allWords, List.mem_flatMap]
    constructor
    · rintro ⟨v, hv, hw⟩
      obtain ⟨x, hx, rfl⟩ := List.mem_map.mp hw
      obtain ⟨i, hi, rfl⟩ := List.mem_map.mp hx
      have hi := List.mem_range.mp hi
      obtain ⟨h1, h2⟩ := mem_allWords.mp hv
      refine ⟨by rw [List.length_append, h1, List.length_singleton], fun j hj => ?_⟩
      rcases List.mem_append.mp hj with hj | hj
      · exact h2 j hj
      · rw [List.mem_singleton.mp hj]
        omega
    · rintro ⟨h1, h2⟩
      have hne : w ≠ [] := fun z => by rw [z] at h1; simp at h1
      refine ⟨w.dropLast, mem_allWords.mpr ⟨by rw [List.length_dropLast, h1]; rfl, fun i hi => h2 i ((List.dropLast_sublist w).subset hi)⟩, List.mem_map.mpr ⟨w.getLast hne, ?_, List.dropLast_concat_getLast hne⟩⟩
      obtain ⟨h3, h4⟩ := h2 _ (List.getLast_mem hne)
      exact List.mem_map.mpr ⟨(w.getLast hne).toNat, List.mem_range.mpr (by omega), by omega⟩
def b__law_words_2 : DS := (dRet (dVar 2))
def b__law_words_2L_2 : DS := (dAsg (dVar 4) (gN 2))
def b__law_words_2L_2L : DS := (dExpr (dM mExtend (dVar 4) (dCons (dLc (iR1 (dCons (dVar 0) dNil)) (gN 6) dYes (dOp aAdd (dVar 5) (dTup (dCons (dVar 6) dNil))) [6]) dNil)))
def b__law_words_2L_1 : DS := (dSeq (dFor (iAny (dVar 2)) (gN 5) b__law_words_2L_2L) b__law_words_2L_2)
def b__law_words_2L : DS := (dSeq (dAsg (dLst dNil) (gN 4)) b__law_words_2L_1)
def b__law_words_1 : DS := (dSeq (dFor (iR1 (dCons (dVar 1) dNil)) (gN 3) b__law_words_2L) b__law_words_2)
def b__law_words : DS := (dSeq (dAsg (dLst (dCons (dTup dNil) dNil)) (gN 2)) b__law_words_1)
/-- slots: 0 signs, 1 length, 2 found, 3 turn, 4 longer, 5 word, 6 sign -/
def n__law_words : Nat := 7
def sp__law_words : DSp := fun ds m Q => ∃ (s k : Nat), ds = [.int s, .int k] ∧ s ≤ 10 ∧ k ≤ 5 ∧ ∀ m' q, Grow m m' → m q = none → m' q = some (.lst (wD (allWords s k))) → Q (.ref q) m'
theorem hp__law_words : ∀ ds m Q, sp__law_words ds m Q → b__law_words { nx := fun _ m' => Q .non m', rt := Q } (dstart 7 ds) m := by
  rintro ds m Q ⟨s, k, rfl, hs, hk, q⟩
  show b__law_words _ [some (.int s), some (.int k), none, none, none, none, none] m
  unfold b__law_words
  simp only [dSeq, dAsg, dIf, dRet, dExpr, dB, dB1, dOp, dCall, dCons, dNil, dVar, dC, dTup, dLst, dNeg, dIfE, dNot, dAnd, dOr, dAndT, dOrT, dNotT, dSl, dNo, dPart, dRev, dM, dM0, dListR1, dPar, dSkip, dYes, gN, gT, gS, gsCons, gsNil, dFor, iR1, iR2, iR3, iAny, DL.iEnum, iZip2, dLc, dwipe, List.set_cons_zero, List.set_cons_succ, List.getElem?_cons_zero, List.getElem?_cons_succ, Option.some.injEq, exists_eq_left', D.int.injEq, D.bl.injEq, D.tup.injEq, aAdd, aSub, aLt, aLe, aGt, aGe, bLen, bList, bTuple, aSl]
  refine ⟨by show 0 ≤ sizeLine; decide, by show 1 ≤ sizeLine; decide, aNew_of fun q0 m0 g0 e0 h0 _ => ?_⟩
  unfold b__law_words_1
  simp only [dSeq, dAsg, dIf, dRet, dExpr, dB, dB1, dOp, dCall, dCons, dNil, dVar, dC, dTup, dLst, dNeg, dIfE, dNot, dAnd, dOr, dAndT, dOrT, dNotT, dSl, dNo, dPart, dRev, dM, dM0, dListR1, dPar, dSkip, dYes, gN, gT, gS, gsCons, gsNil, dFor, iR1, iR2, iR3, iAny, DL.iEnum, iZip2, dLc, dwipe, List.set_cons_zero, List.set_cons_succ, List.getElem?_cons_zero, List.getElem?_cons_succ, Option.some.injEq, exists_eq_left', D.int.injEq, D.bl.injEq, D.tup.injEq, aAdd, aSub, aLt, aLe, aGt, aGe, bLen, bList, bTuple, aSl]
  refine ⟨_, rfl, by omega, by omega, ?_⟩
  rw [Int.toNat_natCast]
  refine loop_by (fun l ds m' => ∃ (i : Nat) (q1 : Addr) (v3 v4 v5 v6 : Option D), i + l.length = k ∧ ds = [some (.int s), some (.int k), some (.ref q1), v3, v4, v5, v6] ∧ Grow m m' ∧ m q1 = none ∧ m' q1 = some (.lst (wD (allWords s i)))) ?_ ?_ _ _ _ ⟨0, q0, _, _, _, _, by rw [rangeD_len]; omega, rfl, g0, h0, e0⟩
  · rintro ds m1 ⟨i, q1, v3, v4, v5, v6, hi, rfl, g1, h1, e1⟩
    refine ⟨trivial, ?_⟩
    unfold b__law_words_2
    simp only [dSeq, dAsg, dIf, dRet, dExpr, dB, dB1, dOp, dCall, dCons, dNil, dVar, dC, dTup, dLst, dNeg, dIfE, dNot, dAnd, dOr, dAndT, dOrT, dNotT, dSl, dNo, dPart, dRev, dM, dM0, dListR1, dPar, dSkip, dYes, gN, gT, gS, gsCons, gsNil, dFor, iR1, iR2, iR3, iAny, DL.iEnum, iZip2, dLc, dwipe, List.set_cons_zero, List.set_cons_succ, List.getElem?_cons_zero, List.getElem?_cons_succ, Option.some.injEq, exists_eq_left', D.int.injEq, D.bl.injEq, D.tup.injEq, aAdd, aSub, aLt, aLe, aGt, aGe, bLen, bList, bTuple, aSl]
    simp at hi
    subst hi
    exact q m1 q1 g1 h1 e1
  rintro x l ds m1 N hN ⟨i0, q1, v3, v4, v5, v6, hi, rfl, g1, h1, e1⟩
  rw [List.length_cons] at hi
  refine ⟨trivial, ?_⟩
  unfold b__law_words_2L
  simp only [dSeq, dAsg, dIf, dRet, dExpr, dB, dB1, dOp, dCall, dCons, dNil, dVar, dC, dTup, dLst, dNeg, dIfE, dNot, dAnd, dOr, dAndT, dOrT, dNotT, dSl, dNo, dPart, dRev, dM, dM0, dListR1, dPar, dSkip, dYes, gN, gT, gS, gsCons, gsNil, dFor, iR1, iR2, iR3, iAny, DL.iEnum, iZip2, dLc, dwipe, List.set_cons_zero, List.set_cons_succ, List.getElem?_cons_zero, List.getElem?_cons_succ, Option.some.injEq, exists_eq_left', D.int.injEq, D.bl.injEq, D.tup.injEq, aAdd, aSub, aLt, aLe, aGt, aGe, bLen, bList, bTuple, aSl]
  refine ⟨by show 0 ≤ sizeLine; decide, aNew_of fun q2 m2 g2 e2 h2 _ => ?_⟩
  unfold b__law_words_2L_1
  simp only [dSeq, dAsg, dIf, dRet, dExpr, dB, dB1, dOp, dCall, dCons, dNil, dVar, dC, dTup, dLst, dNeg, dIfE, dNot, dAnd, dOr, dAndT, dOrT, dNotT, dSl, dNo, dPart, dRev, dM, dM0, dListR1, dPar, dSkip, dYes, gN, gT, gS, gsCons, gsNil, dFor, iR1, iR2, iR3, iAny, DL.iEnum, iZip2, dLc, dwipe, List.set_cons_zero, List.set_cons_succ, List.getElem?_cons_zero, List.getElem?_cons_succ, Option.some.injEq, exists_eq_left', D.int.injEq, D.bl.injEq, D.tup.injEq, aAdd, aSub, aLt, aLe, aGt, aGe, bLen, bList, bTuple, aSl]
  refine ⟨_, g2 _ _ e1, ?_⟩
  have hsz : (allWords s i0).length ≤ 100000 := by
    rw [allWords_len]
    exact Nat.le_trans (Nat.pow_le_pow_left hs i0) (Nat.pow_le_pow_right (show 10 > 0 by decide) (show i0 ≤ 5 by omega))
  have h12 : q1 ≠ q2 := mne_of_none e1 h2
  refine loop_by (fun l ds m' => ∃ (done rest : List (List Int)) (v5 v6 : Option D), l = wD rest ∧ allWords s i0 = done ++ rest ∧ ds = [some (.int s), some (.int k), some (.ref q1), some x, some (.ref q2), v5, v6] ∧
    (∀ b o, b ≠ q2 → m2 b = some o → m' b = some o) ∧ m' q2 = some (.lst (wD (done.flatMap fun w => (signsOf s).map fun x => w ++ [x])))) ?_ ?_ _ _ _ ⟨[], allWords s i0, _, _, rfl, rfl, rfl, fun _ _ _ h => h, e2⟩
  · rintro ds m3 ⟨done, rest, v5, v6, hr, hdone, rfl, k3, e3⟩
    have hr : rest = [] := by simpa using hr.symm
    subst hr
    rw [List.append_nil] at hdone
    refine ⟨k3 _ _ h12 (g2 _ _ e1), ?_⟩
    unfold b__law_words_2L_2
    simp only [dSeq, dAsg, dIf, dRet, dExpr, dB, dB1, dOp, dCall, dCons, dNil, dVar, dC, dTup, dLst, dNeg, dIfE, dNot, dAnd, dOr, dAndT, dOrT, dNotT, dSl, dNo, dPart, dRev, dM, dM0, dListR1, dPar, dSkip, dYes, gN, gT, gS, gsCons, gsNil, dFor, iR1, iR2, iR3, iAny, DL.iEnum, iZip2, dLc, dwipe, List.set_cons_zero, List.set_cons_succ, List.getElem?_cons_zero, List.getElem?_cons_succ, Option.some.injEq, exists_eq_left', D.int.injEq, D.bl.injEq, D.tup.injEq, aAdd, aSub, aLt, aLe, aGt, aGe, bLen, bList, bTuple, aSl]
    refine hN _ _ ⟨i0 + 1, q2, _, _, _, _, by omega, rfl, fun b o e => k3 b o (mne_of_none (g1 _ _ e) h2) (g2 _ _ (g1 _ _ e)), ?_, by rw [e3, allWords, hdone]⟩
    cases e : m q2 with
    | none => rfl
    | some o =>
      rw [g1 _ _ e] at h2
      cases h2
  · rintro y l ds m3 N' hN' ⟨done, rest, v5, v6, hr, hdone, rfl, k3, e3⟩
    cases rest with
    | nil => cases hr
    | cons w rest =>
      obtain ⟨rfl, rfl⟩ := List.cons.inj hr
      refine ⟨k3 _ _ h12 (g2 _ _ e1), ?_⟩
      unfold b__law_words_2L_2L
      simp only [dSeq, dAsg, dIf, dRet, dExpr, dB, dB1, dOp, dCall, dCons, dNil, dVar, dC, dTup, dLst, dNeg, dIfE, dNot, dAnd, dOr, dAndT, dOrT, dNotT, dSl, dNo, dPart, dRev, dM, dM0, dListR1, dPar, dSkip, dYes, gN, gT, gS, gsCons, gsNil, dFor, iR1, iR2, iR3, iAny, DL.iEnum, iZip2, dLc, dwipe, List.set_cons_zero, List.set_cons_succ, List.getElem?_cons_zero, List.getElem?_cons_succ, Option.some.injEq, exists_eq_left', D.int.injEq, D.bl.injEq, D.tup.injEq, aAdd, aSub, aLt, aLe, aGt, aGe, bLen, bList, bTuple, aSl]
      refine ⟨.inl ⟨_, _, rfl, e3⟩, _, rfl, by omega, by omega, fun r hr => ?_⟩
      rw [Int.toNat_natCast]
      refine lc_map (fun x => match x with | .int i => tInts (w ++ [i]) | _ => .non) _ hr (by rw [rangeD_len]; exact small1000 (by omega)) (fun _ _ => trivial) (fun z hz m' N g hN => ?_) fun m4 g4 e4 => ?_
      · obtain ⟨i, hi, rfl⟩ := mem_rangeD hz
        simp only [dSeq, dAsg, dIf, dRet, dExpr, dB, dB1, dOp, dCall, dCons, dNil, dVar, dC, dTup, dLst, dNeg, dIfE, dNot, dAnd, dOr, dAndT, dOrT, dNotT, dSl, dNo, dPart, dRev, dM, dM0, dListR1, dPar, dSkip, dYes, gN, gT, gS, gsCons, gsNil, dFor, iR1, iR2, iR3, iAny, DL.iEnum, iZip2, dLc, dwipe, List.set_cons_zero, List.set_cons_succ, List.getElem?_cons_zero, List.getElem?_cons_succ, Option.some.injEq, exists_eq_left', D.int.injEq, D.bl.injEq, D.tup.injEq, aAdd, aSub, aLt, aLe, aGt, aGe, bLen, bList, bTuple, aSl]
        refine ⟨by show 1 ≤ sizeLine; decide, ?_⟩
        show _ ∧ _
        have hwl : w.length ≤ 5 := by
          have : w ∈ allWords s i0 := by rw [hdone]; simp
          rw [(mem_allWords.mp this).1]
          omega
        refine ⟨by rw [List.length_map]; exact Nat.le_of_lt (small1000 (show w.length + 1 ≤ 1000 by omega)), ?_⟩
        have := hN m' (Grow.refl _)
        have e : tInts (w ++ [(i : Int)]) = .tup (w.map .int ++ [.int i]) := by simp [tInts]
        simp only [e] at this
        exact this
      · have e3' := g4 _ _ e3
        refine ⟨q2, _, _, rfl, e3', .inr ⟨r, rfl, e4⟩, ?_, ?_⟩
        · have h5 : done.length ≤ 100000 := by
            have := congrArg List.length hdone
            rw [List.length_append] at this
            omega
          have h6 : done.length * s ≤ 100000 * 10 := Nat.mul_le_mul h5 hs
          simp only [List.length_map, flat_len, rangeD_len]
          exact Nat.le_trans (show _ ≤ 1000010 by omega) (by decide)
        · refine hN' _ _ ⟨done ++ [w], rest, _, _, rfl, by rw [hdone]; simp, rfl, fun b o nb e => ?_, ?_⟩
          · rw [mup_ne nb]
            exact g4 _ _ (k3 b o nb e)
          · rw [mup_same, List.flatMap_append, List.flatMap_cons, List.flatMap_nil, List.append_nil]
            show _ = some (MO.lst (List.map tInts (_ ++ _)))
            rw [List.map_append, List.map_map, signsOf, List.map_map, rangeD_ints, List.map_map, List.map_map]
            rfl
end DL
/-! DL: sorted(xs) of alike tuples, empty ones among them. -/
namespace DL
open PySem PySem.Spec PyProof.Rows L2
open PySem.W (EachIs Looks SortsAt dataKind dataKind_some dataKind_inv AllAlike Sortable dataLt dataLt_tuple alike alikeAll looks_reads kas_first_eq kas_mapM)
section
variable {prog : Program} {w : World} {A : Around} {s : Shared}
/-- one tuple against another, as the sort asks it of keys of one type -/
theorem one_tup {da db : PyData} {a b : Value} {as bs : List Addr} {xs : List PyData} {Q : Bool → Shared → Prop} {E : Value → Shared → Prop} (et : da = .tuple xs) (ra : Reads s.heap a da as) (rb : Reads s.heap b db bs) (h : alike da db = true)
    (hu : A.units + min da.depth db.depth < cLine) (hq : Q (dataLt da db) s) : wpAny (model prog w) A (oneLt' true a b) Q E s := by
  subst et
  cases db with
  | tuple ys =>
    have hal : alikeAll xs ys = true := by simpa [alike] using h
    cases ra with
    | @tuple l o vs n _ as₁ h1 h2 h3 h4 =>
      cases rb with
      | @tuple l' o' vs' n' _ bs₁ k1 k2 k3 k4 =>
        have n1 : vs.size = xs.length := by simpa using SeqAt.ReadsAll.length _ _ _ h4
        have n2 : vs'.size = ys.length := by simpa using SeqAt.ReadsAll.length _ _ _ k4
        rw [dataLt_tuple, ← PySem.W.firstLt_toks xs ys hal, ← n1, ← n2] at hq
        obtain ⟨oc, odd, od, osl⟩ := o
        obtain ⟨oc', odd', od', osl'⟩ := o'
        simp only at h2 h3 k2 k3
        subst h2 h3 k2 k3
        rw [oneLt'_eq]
        simp only [if_true]
        have e1 := PySem.W.eqAt_alikeAll xs ys A.in1 s vs.toList vs'.toList _ _ h4 k4 hal (SeqAt.room_in hu)
        have e2 := PySem.W.rcLt_alikeAll xs ys A.in1 s vs.toList vs'.toList _ _ h4 k4 hal (SeqAt.room_in hu)
        refine wpAny_bind (wpAny_cRoomFor (SeqAt.room_here hu) ?_)
        refine wpAny_bind (wpAny_callSpecialIfBound?_slot (T := "tuple") ⟨_, h1, rfl⟩ F.slot_tuple_lt
          (call_meets F.slot_tuple_lt ⟨_, h1, rfl⟩ F.entry_tuple_lt (F.args_tuple_lt_2 _ _) (SeqAt.tuple_ltAt l l' vs vs' n n' odd odd' osl osl' (SeqAt.pairEq xs ys) (fun j => dataLt (xs.getD j .none) (ys.getD j .none))) ⟨h1, k1, fun j j1 j2 => ?_, fun j j1 j2 hj => ?_, ?_⟩))
        · have := e1 j (by simpa using j1) (by simpa using j2)
          simpa using this
        · have := e2 j (by simpa using j1) (by simpa using j2) hj
          simpa using this
        · exact wpAny_truthy_bool hq
  | _ => exact absurd h (by simp [alike])
/-- the first items of tuples -/
def FirstsAre (h : Heap) : List Value → List (Option Value) → Prop
  | [], [] => True
  | v :: vs, f :: fs => (∃ (a : Addr) (o : Obj) (xs : Array Value) (n : Nat), v = .ref a ∧ h.get? a = some o ∧ o.cls = .type "tuple" ∧ o.data = .seq xs n ∧ xs[0]? = f) ∧ FirstsAre h vs fs
  | _, _ => False
theorem firsts_at {E : Value → Shared → Prop} : ∀ (vs : List Value) (fs : List (Option Value)) {Q : List (Option Value) → Shared → Prop}, FirstsAre s.heap vs fs → Q fs s → wpAny (model prog w) A (vs.mapM firstOfTuple') Q E s
  | [], [], _, _, h => by rw [List.mapM_nil]; exact wpAny_pure h
  | [], _ :: _, _, t, _ => t.elim
  | _ :: _, [], _, t, _ => t.elim
  | v :: vs, f :: fs, Q, t, h => by
    obtain ⟨⟨a, o, xs, n, rfl, ho, hc, hd, hf⟩, t⟩ := t
    rw [List.mapM_cons]
    refine wpAny_bind ?_
    rw [kas_first_eq]
    refine wpAny_bind (PySem.W.Looks.here (show Looks (model prog w) s.heap (typeOf (.ref a)) o.cls from (PySem.W.Looks.ld ho).andThen .now) ?_)
    rw [hc, if_neg (by first | decide | simp)]
    refine wpAny_bind (listItems_at ho hd (wpAny_pure ?_))
    rw [hf]
    exact wpAny_bind (firsts_at vs fs (Q := fun bs s' => wpAny (model prog w) A (Pure.pure (f :: bs)) Q E s') t (wpAny_pure h))
theorem firsts_of {h : Heap} : ∀ {vs : List Value} {ds : List PyData}, EachIs (fun v d => ∃ as, Reads h v d as) vs ds → (∀ d, d ∈ ds → ∃ xs, d = .tuple xs) →
    ∃ fs, FirstsAre h vs fs ∧ fs.length = vs.length ∧ ((.tuple []) ∈ ds → none ∈ fs)
  | _, _, .nil, _ => ⟨[], trivial, rfl, fun h => nomatch h⟩
  | _, _, .cons (b := d) ⟨as, r⟩ t, ht => by
    obtain ⟨fs, h1, h2, h3⟩ := firsts_of t fun d hd => ht d (List.mem_cons_of_mem _ hd)
    obtain ⟨xs, rfl⟩ := ht d (List.mem_cons_self ..)
    cases r with
    | @tuple a o vs n _ _ ho hc hd hr =>
      refine ⟨vs[0]? :: fs, ⟨⟨a, o, vs, n, rfl, ho, hc, hd, rfl⟩, h1⟩, by rw [List.length_cons, List.length_cons, h2], fun hm => ?_⟩
      rcases List.mem_cons.mp hm with e | hm
      · have e : xs = [] := by cases e; rfl
        subst e
        have e0 : vs.toList = [] := by
          generalize vs.toList = l at hr
          cases hr
          rfl
        have : vs[0]? = none := by rw [← Array.getElem?_toList, e0]; rfl
        rw [this]
        exact List.mem_cons_self ..
      · exact List.mem_cons_of_mem _ (h3 hm)
/-- the kind of keys -/
theorem kind_emp {E : Value → Shared → Prop} {vs : List Value} {fs : List (Option Value)} {Q : SortKind → Shared → Prop} (t : FirstsAre s.heap vs fs) (hl : fs.length = vs.length) (h2 : 2 ≤ vs.length) (hn : none ∈ fs) (hT : ∀ v ∈ vs, Looks (model prog w) s.heap (typeOf v) (Value.type "tuple"))
    (h : Q (if ((fs.toArray[0]?).bind id).isSome then general' else oneType') s) : wpAny (model prog w) A (keyKind' vs.toArray) Q E s := by
  rw [kat_kind_eq, List.mapM_toArray, map_eq_pure_bind]
  refine wpAny_bind (wpAny_bind (firsts_at vs _ t (wpAny_pure ?_)))
  have hall : ¬ ((fs.toArray.all fun x => x.isSome) = true) := fun z => by
    simp only [List.all_toArray, List.all_eq_true] at z
    exact absurd (z none hn) (by simp)
  rw [if_neg hall]
  by_cases hf : ((fs.toArray[0]?).bind id).isSome = true
  · rw [if_pos hf] at h ⊢
    exact wpAny_pure h
  · rw [if_neg hf] at h ⊢
    rw [oneTypeOnly'_eq, List.mapM_toArray, map_eq_pure_bind]
    refine wpAny_bind (wpAny_bind (wpAny_bind (kas_mapM (r := Value.type "tuple") _ (fun v hv Q' hq => (hT v hv).here hq) (wpAny_pure ?_))))
    obtain ⟨v1, rest, rfl⟩ : ∃ v1 rest, vs = v1 :: rest := by
      cases vs with
      | nil => simp at h2
      | cons v r => exact ⟨v, r, rfl⟩
    have hall2 : ((List.map (fun _ => Value.type "tuple") (v1 :: rest)).toArray.all fun x => x == Value.type "tuple") = true := by
      simp only [List.all_toArray, List.all_map, List.all_eq_true]
      intro _ _
      rfl
    have h0 : (List.map (fun _ => Value.type "tuple") (v1 :: rest)).toArray[0]? = some (Value.type "tuple") := by simp
    rw [h0]
    simp only [hall2, if_true]
    exact wpAny_pure (wpAny_pure h)
/-- alike tuples can be sorted -/
theorem sorts_tups {vs : List Value} {ds : List PyData} (e : EachIs (fun v d => ∃ as, Reads s.heap v d as) vs ds) (hal : AllAlike ds) (ht : ∀ d, d ∈ ds → ∃ xs, d = .tuple xs) (hu : ∀ d, d ∈ ds → A.units + d.depth < cLine) : SortsAt prog w A s (dataKind s.heap ds) vs := by
  by_cases hem : (.tuple []) ∈ ds
  · have room : ∀ {d d' : PyData}, d ∈ ds → A.units + min d.depth d'.depth < cLine := fun {d d'} hd => Nat.lt_of_le_of_lt (Nat.add_le_add_left (Nat.min_le_left _ _) _) (hu d hd)
    obtain ⟨fs, f1, f2, f3⟩ := firsts_of e ht
    refine ⟨fun v hv => ?_, (if ((fs.toArray[0]?).bind id).isSome then general' else oneType'), ?_, fun h2 E Q hq => ?_⟩
    · obtain ⟨d, hd, as, r⟩ := e.left v hv
      exact ⟨_, dataKind_some hal hd r⟩
    · intro E x y a b Q ha hb hq
      obtain ⟨d, as, hd, ra, rfl⟩ := dataKind_inv ha
      obtain ⟨d', as', hd', rb, rfl⟩ := dataKind_inv hb
      obtain ⟨xs, ex⟩ := ht d hd
      have hne : d ≠ .none := fun z => by rw [z] at ex; cases ex
      split
      · exact PySem.W.oneLt_alike (f := false) (fun z => nomatch z) ra rb (hal d hd d' hd') hne (room hd) hq
      · rw [keyLt'_oneType]
        exact one_tup ex ra rb (hal d hd d' hd') (room hd) hq
    · refine kind_emp f1 f2 h2 (f3 hem) (fun v hv => ?_) hq
      obtain ⟨d, hd, as, r⟩ := e.left v hv
      obtain ⟨xs, rfl⟩ := ht d hd
      exact looks_reads r
  · refine SortsAt.data e hal (.inl fun d hd => ?_) hu
    obtain ⟨xs, rfl⟩ := ht d hd
    cases xs with
    | nil => exact absurd hd hem
    | cons x r => exact ⟨x, r, rfl⟩
end
/-! ### the call -/
open PySem.W (dataLe)
theorem each_vals {β : Type} {dec : β → V} : ∀ {bs : List β} {us : List Value}, Vals (bs.map dec) us → EachIs (fun u b => RelV (dec b) u) us bs
  | [], _, .nil => .nil
  | _ :: _, _, .cons r t => .cons r (each_vals t)
theorem vals_each {β : Type} {dec : β → V} : ∀ {bs : List β} {us : List Value}, EachIs (fun u b => RelV (dec b) u) us bs → Vals (bs.map dec) us
  | _, _, .nil => .nil
  | _, _, .cons r t => .cons r (vals_each t)
theorem each_memB {α β : Type} {R : α → β → Prop} {as : List α} {bs : List β} (h : EachIs R as bs) : EachIs (fun a b => R a b ∧ b ∈ bs) as bs := PySem.W.each_mem h
def rSortT (K : PySem.W.Frag) : List V → Hp → VK → Prop := fun vs H Q => ∃ (a : Addr) (β : Type) (bs : List β) (dec : β → V) (enc : β → PyData), vs = [.ref a] ∧ SqL K H a (bs.map dec) ∧ (∀ b ∈ bs, Dp K H (dec b) (enc b)) ∧ AllAlike (bs.map enc) ∧
  (∀ b ∈ bs, ∃ xs, enc b = .tuple xs) ∧ (∀ b ∈ bs, (enc b).depth ≤ 40) ∧ ∀ p, H p = none → Q (.ref p) (upd H p (.lst ((bs.mergeSort (dataLe false enc)).map dec)))
theorem cr_sortT {X : Cx} (hu : X.A.units + 64 < cLine) : CallR X (.builtin "sorted") (rSortT X.K) := by
  intro pins s σ H vs us Q I r h
  obtain ⟨a, β, bs, dec, enc, rfl, hs, hd, hal, ht, hdep, q⟩ := h
  obtain ⟨its, rv, hl, hz⟩ := I.list hs
  obtain ⟨u, rfl, ru⟩ := vals1 r
  obtain rfl : u = Value.ref a := ru
  have hlen := rv.length
  rw [List.length_map] at hz hlen
  have e1 := each_vals rv
  have er : EachIs (fun v b => ∃ as, Reads s.heap v (enc b) as) its bs := (each_memB e1).mono fun v b ⟨rb, hb⟩ => Dp.reads I (enc b) (dec b) v (hd b hb) rb
  have er' : EachIs (fun v b => ∃ as, Reads (PySem.W.sortingHeap (PySem.W.copyHeap s.heap its) (s.heap.objs.size + 1) its) v (enc b) as) its bs := er.mono fun _ _ ⟨as, r⟩ => ⟨as, PyProof.Rows.Reads.keeps (fun _ _ => PySem.W.sorting_copy_old) r⟩
  refine PySem.W.sorted_vals hl.isList (sorts_tups (s := { s with heap := PySem.W.sortingHeap (PySem.W.copyHeap s.heap its) (s.heap.objs.size + 1) its }) (PySem.W.each_map (R := fun v d => ∃ as, Reads (PySem.W.sortingHeap (PySem.W.copyHeap s.heap its) (s.heap.objs.size + 1) its) v d as) enc er') hal (fun d hd' => ?_) fun d hd' => ?_) (by omega) ?_
  · obtain ⟨b, hb, rfl⟩ := List.mem_map.mp hd'
    exact ht b hb
  · obtain ⟨b, hb, rfl⟩ := List.mem_map.mp hd'
    have := hdep b hb
    show X.A.units + 1 + 1 + _ < cLine
    omega
  · have es := PySem.W.sortVals_data (R := fun u b => RelV (dec b) u) false e1 er' hal
    have ev := vals_each es
    generalize PySem.W.sortVals _ false its its = out at ev ⊢
    obtain ⟨c, hc⟩ := sortedAll_at s.heap its out.toArray
    refine ⟨.ref (s.heap.objs.size + 1), _, I.laid (t' := s.toks) (o := .lst ((bs.mergeSort (dataLe false enc)).map dec)) (fun b o e => sortedAll_old e) (Nat.le_succ _) ⟨?_, out, c, ev, hc⟩, rfl, q _ (I.hok.fresh (Nat.le_succ _))⟩
    rw [List.length_map, List.length_mergeSort]
    exact hz
/-! ### over plain data -/
def bSorted : DCl := fun l m Q => ∃ (a : Addr) (β : Type) (bs : List β) (dec : β → D) (enc : β → PyData), l = [.ref a] ∧ m a = some (.lst (bs.map dec)) ∧ (∀ b ∈ bs, PD m (dec b) (enc b)) ∧ AllAlike (bs.map enc) ∧
  (∀ b ∈ bs, ∃ xs, enc b = .tuple xs) ∧ (∀ b ∈ bs, (enc b).depth ≤ 40) ∧ aNew (.lst ((bs.mergeSort (dataLe false enc)).map dec)) m Q
theorem rds_zip {β : Type} {K : Frag} {H : Hp} {dec : β → D} : ∀ {bs : List β} {xs : List V}, RDs K H (bs.map dec) xs → (bs.zip xs).map (·.1) = bs ∧ (bs.zip xs).map (·.2) = xs ∧ ∀ q ∈ bs.zip xs, RD K H (dec q.1) q.2 ∧ q.1 ∈ bs
  | [], _, .nil => ⟨rfl, rfl, fun _ h => nomatch h⟩
  | b :: bs, _, .cons r t => by
    obtain ⟨h1, h2, h3⟩ := rds_zip t
    refine ⟨by rw [List.zip_cons_cons, List.map_cons, h1], by rw [List.zip_cons_cons, List.map_cons, h2], fun q hq => ?_⟩
    rw [List.zip_cons_cons] at hq
    rcases List.mem_cons.mp hq with rfl | hq
    · exact ⟨r, by simp⟩
    · exact ⟨(h3 q hq).1, by simp [(h3 q hq).2]⟩
theorem rds_pairs {β : Type} {K : Frag} {H : Hp} {dec : β → D} : ∀ {l : List (β × V)}, (∀ q ∈ l, RD K H (dec q.1) q.2) → RDs K H (l.map fun q => dec q.1) (l.map (·.2))
  | [], _ => .nil
  | q :: l, h => .cons (h q (by simp)) (rds_pairs fun r hr => h r (by simp [hr]))
theorem cj_sorted {X : Cx} {k : Nat} (hr : Room k X.A) : CallJ X (.builtin "sorted") bSorted := by
  refine ⟨_, cr_sortT hr.units, ?_⟩
  intro H m l vs Q Q' rm rl h k
  obtain ⟨a, β, bs, dec, enc, rfl, h1, h2, h3, h4, h5, q⟩ := h
  obtain ⟨xs, e, r⟩ := rm _ _ h1
  cases rl with
  | cons r1 rr =>
    cases rr
    cases r1
    obtain ⟨z1, z2, z3⟩ := rds_zip r
    refine ⟨a, β × V, bs.zip xs, fun q => q.2, fun q => enc q.1, rfl, by rw [z2]; exact SqL.of e, fun b hb => (h2 _ (z3 b hb).2).dp rm (z3 b hb).1, ?_, fun b hb => h4 _ (z3 b hb).2, fun b hb => h5 _ (z3 b hb).2, fun p hp => ?_⟩
    · have : (bs.zip xs).map (fun q => enc q.1) = bs.map enc := by
        conv => rhs; rw [← z1]
        rw [List.map_map]
        rfl
      rw [this]
      exact h3
    · have es : ((bs.zip xs).mergeSort (dataLe false fun q : β × V => enc q.1)).map (·.1) = bs.mergeSort (dataLe false enc) := by
        have := List.map_mergeSort (r := dataLe false fun q : β × V => enc q.1) (s := dataLe false enc) (f := fun q : β × V => q.1) (l := bs.zip xs) (fun _ _ _ _ => rfl)
        rw [z1] at this
        exact this
      have rp : RDs X.K H (((bs.zip xs).mergeSort (dataLe false fun q : β × V => enc q.1)).map fun q => dec q.1) (((bs.zip xs).mergeSort (dataLe false fun q : β × V => enc q.1)).map (·.2)) :=
        rds_pairs fun q hq => (z3 q (List.mem_mergeSort.mp hq)).1
      have e2 : (((bs.zip xs).mergeSort (dataLe false fun q : β × V => enc q.1)).map fun q => dec q.1) = (bs.mergeSort (dataLe false enc)).map dec := by
        rw [← es, List.map_map]
        rfl
      rw [e2] at rp
      exact k _ _ _ _ (Ext.fresh hp) (rm.upd (o := .lst _) (Ext.fresh hp) ⟨_, upd_same, rp.ext (Ext.fresh hp)⟩) (.ref p) (q p (rm.none hp))
end DL
/-! Words as data: membership, sorted; keys that a word begins. -/
namespace DL
open PySem PySem.Spec PyProof.Rows L2
theorem ls {n : Nat} (h : n ≤ 10000000) : n ≤ sizeLine := Nat.le_trans h (by decide)
def wP (w : List Int) : PyData := .tuple (w.map .int)
theorem pds_words {m : MH} : ∀ ws : List (List Int), PDs m (wD ws) (ws.map wP)
  | [] => .nil
  | w :: ws => .cons (pd_ints w) (pds_words ws)
theorem lay_words : ∀ ws : List (List Int), PyData.canLayAll0 (ws.map wP) = true
  | [] => by rw [List.map_nil, PyData.canLayAll0]
  | w :: ws => by
    rw [List.map_cons, PyData.canLayAll0, lay_words ws, Bool.and_true, wP, PyData.canLay0]
    exact lay_ints w
theorem depth_words : ∀ ws : List (List Int), PyData.depthAll (ws.map wP) ≤ 1
  | [] => by rw [List.map_nil, PyData.depthAll]; decide
  | w :: ws => by
    rw [List.map_cons, PyData.depthAll, wP, PyData.depth, depth_ints]
    exact Nat.max_le.mpr ⟨by decide, depth_words ws⟩
theorem shaped_words (ws : List (List Int)) : SeqAt.shaped (.list (ws.map wP)) = true := shaped_of (by rw [PyData.canLay0]; exact lay_words ws) (by
  rw [PyData.depth]
  have := depth_words ws
  omega)
theorem shaped_twords (ws : List (List Int)) : SeqAt.shaped (.tuple (ws.map wP)) = true := shaped_of (by rw [PyData.canLay0]; exact lay_words ws) (by
  rw [PyData.depth]
  have := depth_words ws
  omega)
theorem any_words (w : List Int) : ∀ ws : List (List Int), ((ws.map wP).any fun z => PyData.eqv z (wP w)) = decide (w ∈ ws)
  | [] => by simp
  | v :: ws => by
    rw [List.map_cons, List.any_cons, any_words w ws, wP, wP, PyData.eqv, eqv_ints]
    by_cases h : v = w
    · subst h
      simp
    · have h' : ¬ w = v := fun z => h z.symm
      simp [h, h']
theorem in_words {w : List Int} {ws : List (List Int)} {m : MH} {a : Addr} (h : m a = some (.lst (wD ws))) : memD (tInts w) (.ref a) m (decide (w ∈ ws)) :=
  .inr (.inl ⟨wP w, ws.map wP, pd_ints w, .lst h (pds_words ws), shaped_tints w, shaped_words ws, (any_words w ws).symm⟩)
/-! ### the order of words -/
open PySem.W (dataLt dataLt_tuple dataLt_cons alike alikeAll AllAlike dataLe)
theorem alike_ints (x y : Int) : alike (.int x) (.int y) = true := by simp [alike]
theorem toks_words : ∀ a b : List Int, PyProof.Rows.lexLt itemOrd (PySem.W.keyToksAll (a.map .int)) (PySem.W.keyToksAll (b.map .int)) = HT.lexLt a b
  | [], [] => by rw [HT.lexLt_nil_nil]; decide
  | [], y :: b => by
    rw [HT.lexLt_nil_cons, List.map_nil, List.map_cons, PySem.W.keyToksAll, PySem.W.keyToksAll]
    rfl
  | x :: a, [] => by
    rw [HT.lexLt_cons_nil, List.map_nil, List.map_cons, PySem.W.keyToksAll, PySem.W.keyToksAll]
    rfl
  | x :: a, y :: b => by
    rw [List.map_cons, List.map_cons, dataLt_cons (alike_ints x y), toks_words a b, HT.lexLt_cons, PyData.eqv, PySem.W.dataLt_int]
    by_cases h : x = y
    · subst h
      simp
    · simp [h]
theorem lt_words (a b : List Int) : dataLt (wP a) (wP b) = HT.lexLt a b := by
  rw [wP, wP, dataLt_tuple]
  exact toks_words a b
theorem alike_lists : ∀ a b : List Int, alikeAll (a.map .int) (b.map .int) = true
  | [], _ => by rw [List.map_nil, alikeAll]
  | _ :: _, [] => by rw [List.map_nil, List.map_cons, alikeAll]
  | x :: a, y :: b => by rw [List.map_cons, List.map_cons, alikeAll, alike_ints, alike_lists a b]; rfl
theorem alike_words (a b : List Int) : alike (wP a) (wP b) = true := by
  rw [wP, wP, alike]
  exact alike_lists a b
def wLe (a b : List Int) : Bool := !HT.lexLt b a
theorem sorted_words {m : MH} {a : Addr} {ws : List (List Int)} {Q : DK} (h : m a = some (.lst (wD ws))) (q : aNew (.lst (wD (ws.mergeSort wLe))) m Q) : bSorted [.ref a] m Q := by
  refine ⟨a, List Int, ws, tInts, wP, rfl, h, fun b _ => pd_ints b, PySem.W.AllAlike.of alike_words, fun b _ => ⟨_, rfl⟩, fun b _ => ?_, ?_⟩
  · rw [wP, PyData.depth, depth_ints]
    decide
  · have e : dataLe false wP = wLe := by
      rw [PySem.W.dataLe_eq]
      funext x y
      show (!dataLt (wP y) (wP x)) = _
      rw [lt_words]
      rfl
    rw [e]
    exact q
/-! ### keys -/
def begun (ws : List (List Int)) (w : List Int) : List Nat := (List.range ws.length).filter fun k => isPre w (ws.getD k [])
abbrev nD (ks : List Nat) : List D := (ks.map fun k : Nat => (k : Int)).map .int
def toldD (ws : List (List Int)) (w : List Int) : D := if begun ws w = [] then .non else .tup [.int ((begun ws w).getD 0 0 : Nat), .int ((begun ws w).getD ((begun ws w).length - 1) 0 : Nat)]
def innerB (ws : List (List Int)) (f l : Nat) (w : List Int) : Bool := !(begun ws w).isEmpty && decide (f ≤ (begun ws w).getD 0 0) && decide ((begun ws w).getD ((begun ws w).length - 1) 0 ≤ l)
theorem ne_nil_nats {ks : List Nat} {m : MH} {Q : DK} {p r : Addr} (h1 : m p = some (.lst (nD ks))) (h2 : m r = some (.lst [])) (q : Q (.bl (!ks.isEmpty)) m) : aNe (.ref p) (.ref r) m Q := by
  refine .inr (.inl ⟨_, _, .lst h1 (pds_ints _), .lst h2 .nil, shaped_lints _, shaped_lints [], ?_⟩)
  have e : PyData.eqv (.list ((ks.map fun k : Nat => (k : Int)).map .int)) (.list []) = ks.isEmpty := by
    cases ks <;> simp [PyData.eqv, PyData.eqvAll]
  rw [e]
  exact q
theorem at_first {ks : List Nat} (h : ks ≠ []) : atI (nD ks) 0 = some (.int (ks.getD 0 0 : Nat)) := by
  cases ks with
  | nil => exact absurd rfl h
  | cons k r => exact atI_nat (j := 0) rfl
theorem at_last {ks : List Nat} (h : ks ≠ []) : atI (nD ks) (-1) = some (.int (ks.getD (ks.length - 1) 0 : Nat)) := by
  have hp := List.length_pos_iff.mpr h
  unfold atI
  have e : ixN (nD ks).length (-1) = some (ks.length - 1) := by
    unfold ixN
    simp
    omega
  rw [e]
  show (nD ks)[ks.length - 1]? = _
  rw [List.getElem?_map, List.getElem?_map, List.getD_eq_getElem?_getD, List.getElem?_eq_getElem (by omega)]
  rfl
end DL
/-! Words: their order, all of them, sizes when written. -/
namespace DL
open PySem PySem.Spec PyProof.Rows L2
theorem lexLt_lt : ∀ a b : List Int, HT.lexLt a b = decide (a < b)
  | [], [] => by
    rw [HT.lexLt_nil_nil]
    exact (decide_eq_false (List.not_lt_nil _)).symm
  | [], y :: b => by
    rw [HT.lexLt_nil_cons]
    exact (decide_eq_true (List.nil_lt_cons _ _)).symm
  | x :: a, [] => by
    rw [HT.lexLt_cons_nil]
    exact (decide_eq_false (List.not_lt_nil _)).symm
  | x :: a, y :: b => by
    rw [HT.lexLt_cons, lexLt_lt a b]
    by_cases h : x = y
    · subst h
      rw [if_pos rfl]
      by_cases h2 : a < b
      · rw [decide_eq_true h2, decide_eq_true (List.cons_lt_cons_iff.mpr (.inr ⟨rfl, h2⟩))]
      · rw [decide_eq_false h2, decide_eq_false fun z => ?_]
        rcases List.cons_lt_cons_iff.mp z with z | z
        · omega
        · exact h2 z.2
    · rw [if_neg h]
      by_cases h2 : x < y
      · rw [decide_eq_true h2, decide_eq_true (List.cons_lt_cons_iff.mpr (.inl h2))]
      · rw [decide_eq_false h2, decide_eq_false fun z => ?_]
        rcases List.cons_lt_cons_iff.mp z with z | z
        · exact h2 z
        · exact h z.1
theorem wLe_le (a b : List Int) : wLe a b = true ↔ a ≤ b := by
  unfold wLe
  rw [lexLt_lt]
  constructor
  · intro h
    have : ¬ b < a := by simpa using h
    exact List.not_lt.mp this
  · intro h
    simpa using List.not_lt.mpr h
theorem perm_sorted : ∀ {a b : List (List Int)}, a.Perm b → a.Pairwise (· ≤ ·) → b.Pairwise (· ≤ ·) → a = b
  | [], b, h, _, _ => (List.Perm.nil_eq h)
  | x :: a, [], h, _, _ => absurd h.length_eq (by simp)
  | x :: a, y :: b, h, ha, hb => by
    have e : x = y := by
      have h1 : y ∈ x :: a := h.mem_iff.mpr (by simp)
      have h2 : x ∈ y :: b := h.mem_iff.mp (by simp)
      rcases List.mem_cons.mp h1 with z | z
      · exact z.symm
      · rcases List.mem_cons.mp h2 with w | w
        · exact w
        · exact List.le_antisymm ((List.pairwise_cons.mp ha).1 y z) ((List.pairwise_cons.mp hb).1 x w)
    subst e
    rw [perm_sorted ((List.perm_cons x).mp h) (List.pairwise_cons.mp ha).2 (List.pairwise_cons.mp hb).2]
theorem sort_eq {a b : List (List Int)} (ha : a.Nodup) (hb : b.Pairwise (· < ·)) (h : ∀ w, w ∈ a ↔ w ∈ b) : a.mergeSort wLe = b := by
  have hbn : b.Nodup := hb.imp fun {x y} h e => by subst e; exact List.lt_irrefl _ h
  have hp : a.Perm b := (List.perm_ext_iff_of_nodup ha hbn).mpr h
  refine perm_sorted ((List.mergeSort_perm a wLe).trans hp) ?_ (hb.imp fun {x y} h => List.le_of_lt h)
  have := List.pairwise_mergeSort (le := wLe) (fun x y z h1 h2 => (wLe_le _ _).mpr (List.le_trans ((wLe_le _ _).mp h1) ((wLe_le _ _).mp h2))) (fun x y => by
    rw [Bool.or_eq_true]
    exact (List.le_total x y).imp (wLe_le _ _).mpr (wLe_le _ _).mpr) a
  exact this.imp fun {x y} h => (wLe_le _ _).mp h
theorem isPre_iff {a b : List Int} : isPre a b = true ↔ a <+: b := by
  unfold isPre
  rw [decide_eq_true_eq, List.prefix_iff_eq_take]
  exact eq_comm
def everyOf (s : Nat) (n : Nat) : List (List Int) := (List.range n).flatMap (allWords s)
theorem mem_everyOf {s n : Nat} {w : List Int} : w ∈ everyOf s n ↔ w.length < n ∧ ∀ i ∈ w, 0 ≤ i ∧ i < s := by
  unfold everyOf
  rw [List.mem_flatMap]
  constructor
  · rintro ⟨k, hk, hw⟩
    obtain ⟨h1, h2⟩ := mem_allWords.mp hw
    have := List.mem_range.mp hk
    exact ⟨by omega, h2⟩
  · rintro ⟨h1, h2⟩
    exact ⟨w.length, List.mem_range.mpr h1, mem_allWords.mpr ⟨rfl, h2⟩⟩
theorem signs_nodup (s : Nat) : (signsOf s).Nodup := (pair_range s).imp fun {x y} h e => by omega
theorem allWords_nodup (s : Nat) : ∀ k, (allWords s k).Nodup
  | 0 => by
    rw [allWords]
    simp
  | k + 1 => by
    rw [allWords]
    refine List.pairwise_flatMap.mpr ⟨fun w _ => ?_, (allWords_nodup s k).imp fun {u v} h x hx y hy e => ?_⟩
    · rw [List.pairwise_map]
      exact (signs_nodup s).imp fun {x y} h e => h (by simpa using e)
    · obtain ⟨i, _, rfl⟩ := List.mem_map.mp hx
      obtain ⟨j, _, rfl⟩ := List.mem_map.mp hy
      exact h (List.append_inj_left' e rfl)
theorem every_nodup (s n : Nat) : (everyOf s n).Nodup := by
  unfold everyOf
  refine List.pairwise_flatMap.mpr ⟨fun k _ => allWords_nodup s k, List.pairwise_lt_range.imp fun {i j} h x hx y hy e => ?_⟩
  subst e
  have h1 := (mem_allWords.mp hx).1
  have h2 := (mem_allWords.mp hy).1
  omega
theorem OkL.all {m : MH} {dd M k : Nat} : ∀ {l : List D}, (∀ x ∈ l, OkW m dd M x) → l.length ≤ k → OkL m dd (k * (M + 2)) l
  | [], _, _ => OkL.nil
  | x :: l, h, hk => by
    have t := OkL.all (k := k - 1) (l := l) (fun y hy => h y (by simp [hy])) (by rw [List.length_cons] at hk; omega)
    refine (OkL.cons (h x (by simp)) t).mono (Nat.le_refl _) ?_
    rw [List.length_cons] at hk
    obtain ⟨j, rfl⟩ : ∃ j, k = j + 1 := ⟨k - 1, by omega⟩
    rw [Nat.add_sub_cancel, Nat.add_mul]
    omega
theorem wD_snoc (l : List (List Int)) (w : List Int) : wD (l ++ [w]) = wD l ++ [tInts w] := List.map_append
theorem every_len : ∀ s ≤ 3, ∀ n ≤ 5, (everyOf s n).length ≤ 200 := by decide +kernel
theorem every_succ (s n : Nat) : everyOf s (n + 1) = everyOf s n ++ allWords s n := by
  unfold everyOf
  rw [List.range_succ, List.flatMap_append, List.flatMap_cons, List.flatMap_nil, List.append_nil]
theorem word_ok {m : MH} {w : List Int} (h : ∀ i ∈ w, 0 ≤ i ∧ i < 20) (hl : w.length ≤ 5) : OkW m 1 100 (tInts w) :=
  (OkL.ints fun i hi => by
    have := h i hi
    omega).tup.mono (Nat.le_refl _) (by omega)
theorem words_ok {m : MH} {ws : List (List Int)} (h : ∀ w ∈ ws, w.length ≤ 5 ∧ ∀ i ∈ w, 0 ≤ i ∧ i < 20) (hl : ws.length ≤ 200) : OkW m 2 20500 (.tup (wD ws)) :=
  (OkL.all (M := 100) (k := 200) (fun x hx => by
    obtain ⟨w, hw, rfl⟩ := List.mem_map.mp hx
    exact word_ok (h w hw).2 (h w hw).1) (by rw [List.length_map]; exact hl)).tup.mono (Nat.le_refl _) (by decide)
theorem wD_filter (c : List Int → Bool) (l : List (List Int)) (c' : D → Bool) (h : ∀ w ∈ l, c' (tInts w) = c w) : (wD l).filter c' = wD (l.filter c) := by
  rw [List.filter_map]
  refine congrArg _ (List.filter_congr fun w hw => ?_)
  exact h w hw
def wordOf : D → List Int
  | .tup l => l.map fun d => match d with | .int i => i | _ => 0
  | _ => []
theorem wordOf_t (w : List Int) : wordOf (tInts w) = w := by
  show (w.map D.int).map _ = w
  rw [List.map_map]
  exact List.map_id _
end DL
/-! DL: a, b = a list. -/
namespace DL
open PySem PySem.Spec PyProof.Rows L2
section
variable {X : Cx} {vs : List Nat} {pos : Pos}
def gL (n : Nat) (gs : DGs) : DG := fun d ds m Q => ∃ a l, d = .ref a ∧ m a = some (.lst l) ∧ l.length = n ∧ gs l ds m Q
theorem jg_lst {es : List Expr} {k : Nat} {gs : DGs} {n : Nat} (hc : X.calm = true) (h : JGs X vs es gs)
    (hn : (assignEach es X.env).length = n := by rfl) (hst : (assignEach es X.env).findIdx? (·.1) = none := by rfl) : JG X vs (.Tuple es k pos) (gL n gs) := by
  refine ⟨PG.imp (pg_unl hc h.pgs hn hst) fun v σ H Q' h => ?_⟩
  obtain ⟨d, ds, m, Q, rv, rs, rm, ⟨a, l, rfl, e, hl, q⟩, k⟩ := h
  cases rv
  obtain ⟨xs, ex, rx⟩ := rm _ _ e
  exact ⟨_, xs, rfl, SqL.of ex, by rw [← rx.length]; exact hl, l, ds, m, Q, rx, rs, rm, q, k⟩
end
end DL
/-! DL: min of two alike data, min of a list of alike data. -/
namespace DL
open PySem PySem.Spec PyProof.Rows L2
open PySem.W (dataLt alike)
section
variable {prog : Program} {w : World} {A : Around} {E : Value → Shared → Prop} {s : Shared}
theorem call_min_twoH {a b : Value} {Q : Value → Shared → Prop}
    (h : wpAny (model prog w) A.in1 (pyIter (.ref s.heap.objs.size)) (fun it s₂ => ∃ I fp wr G n P St H bt, it = .ref I ∧ WalksS prog w A.in1 I fp wr G n P St ∧ St 0 s₂ ∧ (∀ b ∈ fp, b < s₂.heap.objs.size) ∧ 0 < n ∧
      (∀ b o, H.get? b = some o → b ∉ wr) ∧ (∀ b o, H.get? b = some o → s₂.heap.get? b = some o) ∧ CmpIn prog w A.in1 .Lt H P bt ∧ ∀ v s', P (argBest bt (n - 1)) v → Moved wr G s₂ s' → Q v s') E
      { s with heap := s.heap.push { cls := .type "tuple", data := .seq #[a, b] } }) :
    wpAny (model prog w) A (call (.builtin "min") [a, b]) Q E s := by
  have hname : (toString "min" ++ toString ".loop" : String) = "min.loop" := by decide
  refine call_function_tree F.kind_min F.plain_min F.entry_min (F.args_min2 _ _) ?_
  show wpAny _ A.in1 (Builtin.Builtins.bindParams "min" ["key", "default"] 0 ⟨[], []⟩ >>= _) _ _ s
  refine wpAny_bind (wpAny_of_eq (show Builtin.Builtins.bindParams "min" ["key", "default"] 0 ⟨[], []⟩ = Pure.pure [none, none] from rfl) ?_)
  show wpAny _ A.in1 (newTuple [a, b] >>= _) _ _ s
  refine wpAny_bind (wpAny_newObj_type ?_)
  refine wpAny_bind (wpAny_mono h (fun it s₂ h₂ => ?_) fun _ _ e => e)
  obtain ⟨I, fp, wr, G, n, P, St, H, bt, rfl, W, hst, hfp, hn, hw, hkeep, hcmp, hQ⟩ := h₂
  refine wpAny_bind (wpAny_newObj_type ?_)
  have hSf : s₂.heap.objs.size ∉ fp := fun hm => Nat.lt_irrefl _ (hfp _ hm)
  rw [hname]
  refine wpAny_pure ⟨plainId_quiet F.plain_min_loop _, codeAny_min_loop_firstH W H hw bt hcmp s₂.heap.objs.size hSf (fresh_in hkeep) _ hn (fun b o e => Heap.get?_push_of_some _ (hkeep b o e)) (W.frame 0 s₂ _ s₂.toks hst (Nat.le_refl _) fun b _ o e => Heap.get?_push_of_some _ e) (Heap.get?_push_size _ rfl) fun v s' hP hm => ?_⟩
  exact hQ v s' hP (Moved.drop_new (tk := s₂.toks) hm (Nat.le_refl _))
theorem min_two_data {a b : Value} {x y : PyData} {as bs : List Addr} {Q : Value → Shared → Prop} (hh : A.handled = none) (ra : Reads s.heap a x as) (rb : Reads s.heap b y bs) (hal : PySem.W.AlikeAll [x, y]) (hu : A.units + 1 + PyData.depthAll [x, y] < cLine)
    (h : ∀ h' tk, (∀ c o, s.heap.get? c = some o → h'.get? c = some o) → Q (if dataLt y x = true then b else a) { s with heap := h', toks := tk }) :
    wpAny (model prog w) A (call (.builtin "min") [a, b]) Q E s := by
  have hT : (s.heap.push { cls := .type "tuple", data := .seq #[a, b] }).IsTuple s.heap.objs.size #[a, b] := ⟨_, Heap.get?_push_size _ rfl, rfl, 0, rfl⟩
  have up : ∀ c o, s.heap.get? c = some o → (s.heap.push { cls := .type "tuple", data := .seq #[a, b] }).get? c = some o := fun c o e => Heap.get?_push_of_some _ e
  refine call_min_twoH (PySem.W.iter_tupleW (A := A.in1) (s := { s with heap := s.heap.push { cls := .type "tuple", data := .seq #[a, b] } }) hh hT fun s₂ e W st hfp hw hk => ?_)
  have hr : ReadsAll (s.heap.push { cls := .type "tuple", data := .seq #[a, b] }) (#[a, b] : Array Value).toList [x, y] (as ++ (bs ++ [])) := .cons (Reads.keeps up ra) (.cons (Reads.keeps up rb) .nil)
  refine ⟨_, _, _, _, _, _, _, _, _, rfl, W, st, hfp, by simp, hw, hk, PySem.W.cmpIn_lt (A := A.in1) (s := { s with heap := s.heap.push { cls := .type "tuple", data := .seq #[a, b] } }) hr hal (by show A.units + 1 + _ < _; exact hu), fun v s' hP m => ?_⟩
  obtain ⟨h', tk, rfl, hk'⟩ := PySem.W.moved_old e rfl m
  have := h h' tk fun c o ec => hk' c o (up c o ec)
  have hv : v = if dataLt y x = true then b else a := by
    cases hc : dataLt y x <;> simp [argBest, hc] at hP <;> simp [hP]
  rw [hv]
  exact this
end
/-! ### over the hand layer -/
def rMinT (K : PySem.W.Frag) : List V → Hp → VK → Prop := fun vs H Q =>
  (∃ u v x y, vs = [u, v] ∧ Dp K H u x ∧ Dp K H v y ∧ PySem.W.AlikeAll [x, y] ∧ PyData.depthAll [x, y] ≤ 40 ∧ Q (if dataLt y x = true then v else u) H)
theorem cr_minT {X : Cx} (hc : X.calm = true) (hu : X.A.units + 64 < cLine) : CallR X (.builtin "min") (rMinT X.K) := by
  intro pins s σ H vs us Q I r h
  obtain ⟨u, v, x, y, rfl, hx, hy, hal, hd, q⟩ := h
  obtain ⟨a, b, rfl, r1, r2⟩ := vals2 r
  obtain ⟨as, ra⟩ := Dp.reads I x u a hx r1
  obtain ⟨bs, rb⟩ := Dp.reads I y v b hy r2
  refine min_two_data (I.ok.hd hc) ra rb hal (by omega) fun h' tk k => ⟨_, H, I.kept k, ?_, q⟩
  by_cases hj : dataLt y x = true
  · rw [if_pos hj, if_pos hj]; exact r2
  · rw [if_neg hj, if_neg hj]; exact r1
theorem each_reads {s : Shared} {β : Type} {enc : β → PyData} : ∀ {us : List Value} {bs : List β}, PySem.W.EachIs (fun v b => ∃ as, Reads s.heap v (enc b) as) us bs → ∃ as, ReadsAll s.heap us (bs.map enc) as
  | _, _, .nil => ⟨[], .nil⟩
  | _, _, .cons ⟨as, r⟩ t => let ⟨bs, rs⟩ := each_reads t; ⟨as ++ bs, .cons r rs⟩
theorem minD_mem : ∀ (xs : List PyData) (x : PyData), PySem.W.minD x xs ∈ x :: xs
  | [], x => List.mem_cons_self
  | y :: xs, x => by
    have e : PySem.W.minD x (y :: xs) = PySem.W.minD (if dataLt y x = true then y else x) xs := rfl
    rw [e]
    have := minD_mem xs (if dataLt y x = true then y else x)
    rcases List.mem_cons.mp this with h | h
    · rw [h]
      split <;> simp
    · simp [h]
/-- min of a list of alike data -/
def rMinL (K : PySem.W.Frag) : List V → Hp → VK → Prop := fun vs H Q =>
  ∃ (a : Addr) (β : Type) (b0 : β) (bs : List β) (dec : β → V) (enc : β → PyData), vs = [.ref a] ∧ SqL K H a ((b0 :: bs).map dec) ∧ (∀ b ∈ b0 :: bs, Dp K H (dec b) (enc b)) ∧ PySem.W.AlikeAll ((b0 :: bs).map enc) ∧ PyData.depthAll ((b0 :: bs).map enc) ≤ 40 ∧
    ∀ b ∈ b0 :: bs, enc b = PySem.W.minD (enc b0) (bs.map enc) → Q (dec b) H
theorem cr_minL {X : Cx} (hc : X.calm = true) (hu : X.A.units + 64 < cLine) : CallR X (.builtin "min") (rMinL X.K) := by
  intro pins s σ H vs us Q I r h
  obtain ⟨a, β, b0, bs, dec, enc, rfl, hs, hd, hal, hdep, q⟩ := h
  obtain ⟨its, rv, hl, hz⟩ := I.list hs
  obtain ⟨u, rfl, ru⟩ := vals1 r
  obtain rfl : u = Value.ref a := ru
  have e1 := each_memB (each_vals rv)
  obtain ⟨as, hr⟩ := each_reads (s := s) (enc := enc) (e1.mono fun v b ⟨rb, hb⟩ => Dp.reads I (enc b) (dec b) v (hd b hb) rb)
  refine PySem.W.min_list_data (I.ok.hd hc) hl.isList (by simpa using hr) hal (by rw [List.map_cons] at hdep; omega) fun i v h' tk bs' hi rr hk => ?_
  have hv : v ∈ its := by
    have : its.toArray[i]? = some v := hi
    rw [List.getElem?_toArray] at this
    exact List.mem_of_getElem? this
  obtain ⟨b, hb, rb, _⟩ := e1.left v hv
  obtain ⟨as', r1⟩ := Dp.reads I (enc b) (dec b) v (hd b hb) rb
  have m1 : enc b ∈ (b0 :: bs).map enc := List.mem_map.mpr ⟨b, hb, rfl⟩
  have m2 : PySem.W.minD (enc b0) (bs.map enc) ∈ (b0 :: bs).map enc := by
    rw [List.map_cons]
    exact minD_mem _ _
  have eq : enc b = PySem.W.minD (enc b0) (bs.map enc) := PySem.W.alike_unique (h := h') _ _ v as' bs' (hal.1 _ m1 _ m2) (Reads.keeps hk r1) rr
  exact ⟨dec b, H, I.kept hk, rb, q b hb eq⟩
/-! ### over plain data -/
def bMinT : DCl := fun l m Q =>
  (∃ x y p q, l = [x, y] ∧ PD m x p ∧ PD m y q ∧ PySem.W.AlikeAll [p, q] ∧ PyData.depthAll [p, q] ≤ 40 ∧ Q (if dataLt q p = true then y else x) m) ∨
  ∃ (a : Addr) (β : Type) (b0 : β) (bs : List β) (dec : β → D) (enc : β → PyData), l = [.ref a] ∧ m a = some (.lst ((b0 :: bs).map dec)) ∧ (∀ b ∈ b0 :: bs, PD m (dec b) (enc b)) ∧ PySem.W.AlikeAll ((b0 :: bs).map enc) ∧ PyData.depthAll ((b0 :: bs).map enc) ≤ 40 ∧
    ∀ b ∈ b0 :: bs, enc b = PySem.W.minD (enc b0) (bs.map enc) → Q (dec b) m
theorem cj_minT {X : Cx} {k : Nat} (hc : X.calm = true) (hr : Room k X.A) : CallJ X (.builtin "min") bMinT := by
  refine ⟨_, CallR.or (cr_minT hc hr.units) (cr_minL hc hr.units), ?_⟩
  intro H m l vs Q Q' rm rl h k
  rcases h with ⟨x, y, p, q, rfl, h1, h2, h3, h4, h5⟩ | ⟨a, β, b0, bs, dec, enc, rfl, h1, h2, h3, h4, q⟩
  · cases rl with
    | cons r1 rr =>
      cases rr with
      | cons r2 rr =>
        cases rr
        refine .inl ⟨_, _, p, q, rfl, h1.dp rm r1, h2.dp rm r2, h3, h4, ?_⟩
        by_cases hj : dataLt q p = true
        · rw [if_pos hj] at h5 ⊢
          exact k _ _ _ _ (Ext.refl H) rm r2 h5
        · rw [if_neg hj] at h5 ⊢
          exact k _ _ _ _ (Ext.refl H) rm r1 h5
  · cases rl with
    | cons r1 rr =>
      cases rr
      cases r1
      obtain ⟨xs, e, r⟩ := rm _ _ h1
      obtain ⟨z1, z2, z3⟩ := rds_zip r
      cases r with
      | cons q1 qq =>
        rename_i v0 vr
        refine .inr ⟨a, β × V, (b0, v0), bs.zip vr, fun q => q.2, fun q => enc q.1, rfl, ?_, fun b hb => ?_, ?_, ?_, fun b hb he => ?_⟩
        · have : (((b0, v0) :: bs.zip vr).map fun q => q.2) = v0 :: vr := by simpa using z2
          rw [this]
          exact SqL.of e
        · have hb' : b ∈ (b0 :: bs).zip (v0 :: vr) := by rw [List.zip_cons_cons]; exact hb
          exact (h2 _ (z3 b hb').2).dp rm (z3 b hb').1
        · have : (((b0, v0) :: bs.zip vr).map fun q => enc q.1) = (b0 :: bs).map enc := by
            conv => rhs; rw [← z1]
            rw [List.zip_cons_cons, List.map_map]
            rfl
          rw [this]
          exact h3
        · have : (((b0, v0) :: bs.zip vr).map fun q => enc q.1) = (b0 :: bs).map enc := by
            conv => rhs; rw [← z1]
            rw [List.zip_cons_cons, List.map_map]
            rfl
          rw [this]
          exact h4
        · have hb' : b ∈ (b0 :: bs).zip (v0 :: vr) := by rw [List.zip_cons_cons]; exact hb
          have hz : ((bs.zip vr).map fun q => enc q.1) = bs.map enc := by
            have := congrArg List.tail z1
            rw [List.zip_cons_cons, List.map_cons] at this
            have this : (bs.zip vr).map (·.1) = bs := this
            conv => rhs; rw [← this]
            rw [List.map_map]
            rfl
          rw [hz] at he
          exact k _ _ _ _ (Ext.refl H) rm (z3 b hb').1 (q b.1 (z3 b hb').2 he)
end DL
/-! VL: values that are trees. A slot holds a value (frozen: never written again), or owns a list, a dict that it may write. -/
namespace DL
open PySem PySem.Spec PyProof.Rows L2

inductive PV where
  | non | bl (b : Bool) | int (i : Int) | str (x : Str) | tup (l : List PV) | lst (l : List PV) | dct (l : List (Key × PV)) | xtp (l : List PV)

mutual
inductive RV (f : MH) : PV → D → Prop
  | non : RV f .non .non
  | bl (b : Bool) : RV f (.bl b) (.bl b)
  | int (i : Int) : RV f (.int i) (.int i)
  | str (x : Str) : RV f (.str x) (.str x)
  | tup {l : List PV} {ds : List D} : RVs f l ds → RV f (.tup l) (.tup ds)
  | lst {l : List PV} {a : Addr} {ds : List D} : f a = some (.lst ds) → RVs f l ds → RV f (.lst l) (.ref a)
  | dct {l : List (Key × PV)} {a : Addr} {ks : List (Key × D)} : f a = some (.dct ks) → RVk f l ks → RV f (.dct l) (.ref a)
  | xtp {l : List PV} {a : Addr} {ds : List D} : f a = some (.xtp ds) → RVs f l ds → RV f (.xtp l) (.ref a)
inductive RVs (f : MH) : List PV → List D → Prop
  | nil : RVs f [] []
  | cons {v : PV} {d : D} {l : List PV} {ds : List D} : RV f v d → RVs f l ds → RVs f (v :: l) (d :: ds)
inductive RVk (f : MH) : List (Key × PV) → List (Key × D) → Prop
  | nil : RVk f [] []
  | cons {k : Key} {v : PV} {d : D} {l : List (Key × PV)} {ds : List (Key × D)} : RV f v d → RVk f l ds → RVk f ((k, v) :: l) ((k, d) :: ds)
end
mutual
theorem RV.grow {f g : MH} (h : Grow f g) : ∀ {v : PV} {d : D}, RV f v d → RV g v d
  | _, _, .non => .non
  | _, _, .bl b => .bl b
  | _, _, .int i => .int i
  | _, _, .str x => .str x
  | _, _, .tup r => .tup (RVs.grow h r)
  | _, _, .lst e r => .lst (h _ _ e) (RVs.grow h r)
  | _, _, .dct e r => .dct (h _ _ e) (RVk.grow h r)
  | _, _, .xtp e r => .xtp (h _ _ e) (RVs.grow h r)
theorem RVs.grow {f g : MH} (h : Grow f g) : ∀ {v : List PV} {d : List D}, RVs f v d → RVs g v d
  | _, _, .nil => .nil
  | _, _, .cons a b => .cons (RV.grow h a) (RVs.grow h b)
theorem RVk.grow {f g : MH} (h : Grow f g) : ∀ {v : List (Key × PV)} {d : List (Key × D)}, RVk f v d → RVk g v d
  | _, _, .nil => .nil
  | _, _, .cons a b => .cons (RV.grow h a) (RVk.grow h b)
end
section
variable {f : MH}
theorem RVs.len : ∀ {l : List PV} {ds : List D}, RVs f l ds → l.length = ds.length
  | _, _, .nil => rfl
  | _, _, .cons _ t => congrArg (· + 1) (RVs.len t)
theorem RVk.len : ∀ {l : List (Key × PV)} {ds : List (Key × D)}, RVk f l ds → l.length = ds.length
  | _, _, .nil => rfl
  | _, _, .cons _ t => congrArg (· + 1) (RVk.len t)
theorem RVs.app : ∀ {l l' : List PV} {xs xs' : List D}, RVs f l xs → RVs f l' xs' → RVs f (l ++ l') (xs ++ xs')
  | _, _, _, _, .nil, s => s
  | _, _, _, _, .cons r t, s => .cons r (RVs.app t s)
theorem RVs.take : ∀ {l : List PV} {xs : List D} (n : Nat), RVs f l xs → RVs f (l.take n) (xs.take n)
  | _, _, 0, _ => .nil
  | _, _, _ + 1, .nil => .nil
  | _, _, n + 1, .cons r t => .cons r (RVs.take n t)
theorem RVs.drop : ∀ {l : List PV} {xs : List D} (n : Nat), RVs f l xs → RVs f (l.drop n) (xs.drop n)
  | _, _, 0, r => r
  | _, _, _ + 1, .nil => .nil
  | _, _, n + 1, .cons _ t => RVs.drop n t
theorem RVs.get : ∀ {l : List PV} {xs : List D} {i : Nat} {d : PV}, RVs f l xs → l[i]? = some d → ∃ v, xs[i]? = some v ∧ RV f d v
  | _, _, _, _, .nil, e => by simp at e
  | _, _, 0, _, .cons r _, e => by simp at e; subst e; exact ⟨_, rfl, r⟩
  | _, _, i + 1, _, .cons _ t, e => by
    obtain ⟨u, h1, h2⟩ := RVs.get (i := i) t (by simpa using e)
    exact ⟨u, by simpa using h1, h2⟩
theorem RVs.set {d : PV} {v : D} (r : RV f d v) : ∀ {l : List PV} {xs : List D} (i : Nat), RVs f l xs → RVs f (l.set i d) (xs.set i v)
  | _, _, _, .nil => .nil
  | _, _, 0, .cons _ t => .cons r t
  | _, _, i + 1, .cons q t => .cons q (RVs.set r i t)
theorem RVs.reverse : ∀ {l : List PV} {xs : List D}, RVs f l xs → RVs f l.reverse xs.reverse
  | _, _, .nil => .nil
  | _, _, .cons r t => by
    rw [List.reverse_cons, List.reverse_cons]
    exact RVs.app (RVs.reverse t) (.cons r .nil)
theorem RVs.rep {l : List PV} {xs : List D} (h : RVs f l xs) : ∀ k : Nat, RVs f (List.replicate k l).flatten (List.replicate k xs).flatten
  | 0 => .nil
  | k + 1 => by
    rw [List.replicate_succ, List.replicate_succ, List.flatten_cons, List.flatten_cons]
    exact RVs.app h (RVs.rep h k)
theorem RVs.dropLast {l : List PV} {xs : List D} (h : RVs f l xs) : RVs f l.dropLast xs.dropLast := by
  rw [List.dropLast_eq_take, List.dropLast_eq_take, ← h.len]
  exact h.take _
theorem RVs.eraseIdx : ∀ {l : List PV} {xs : List D} (i : Nat), RVs f l xs → RVs f (l.eraseIdx i) (xs.eraseIdx i)
  | _, _, _, .nil => .nil
  | _, _, 0, .cons _ t => t
  | _, _, i + 1, .cons q t => .cons q (RVs.eraseIdx i t)
theorem RVs.cut {l : List PV} {xs : List D} (r : RVs f l xs) (lo hi : Option Int) : RVs f (cutD l lo hi) (cutD xs lo hi) := by
  unfold cutD
  rw [← r.len]
  exact (r.drop _).take _
theorem RVs.mem : ∀ {l : List PV} {xs : List D} {d : D}, RVs f l xs → d ∈ xs → ∃ v ∈ l, RV f v d
  | _, _, _, .nil, e => nomatch e
  | _, _, _, .cons r t, e => by
    rcases List.mem_cons.mp e with e | e
    · subst e; exact ⟨_, List.mem_cons_self, r⟩
    · obtain ⟨v, hv, rv⟩ := RVs.mem t e
      exact ⟨v, List.mem_cons_of_mem _ hv, rv⟩
end

/-! ### slots -/
inductive Sl where
  | no | va (v : PV) | ow (v : PV) | dk (p : Addr × Addr) (n : Nat) | scr (ns : List Int)
abbrev Ev := List Sl
/-- what an owned thing holds -/
def RC (f : MH) : PV → MO → Prop
  | .lst l, .lst ds => RVs f l ds
  | .dct l, .dct ks => RVk f l ks
  | .xtp l, .xtp ds => RVs f l ds
  | _, _ => False
theorem RC.grow {f g : MH} (h : Grow f g) {v : PV} {o : MO} (r : RC f v o) : RC g v o := by
  cases v <;> cases o <;> first | exact r.elim | exact RVs.grow h r | exact RVk.grow h r
theorem RC.freeze {f : MH} {v : PV} {a : Addr} {o : MO} (e : f a = some o) (r : RC f v o) : RV f v (.ref a) := by
  cases v <;> cases o <;> first | exact r.elim | exact .lst e r | exact .dct e r | exact .xtp e r
structure C3 where
  f : MH
  O : Nat → Addr → Prop
  m : MH
def SlOk (c : C3) (A : Addr → Prop) : Sl → Option (Option D) → Prop
  | .no, _ => True
  | .va v, x => ∃ d, x = some (some d) ∧ RV c.f v d
  | .ow v, x => ∃ a o, x = some (some (.ref a)) ∧ c.m a = some o ∧ RC c.f v o ∧ A a
  | .dk p n, x => x = some (some (.ref p.1)) ∧ Deck c.m p n ∧ A p.1 ∧ A p.2
  | .scr ns, x => x = some (some (.rol (ns.map .int))) ∧ ns.length ≤ 63
structure VS (c : C3) (env : Ev) (ds : Sd) : Prop where
  len : env.length = ds.length
  sub : Grow c.f c.m
  sl : ∀ i s, env[i]? = some s → SlOk c (c.O i) s ds[i]?
  dj : ∀ i j a, c.O i a → c.O j a → i = j
  fr : ∀ i a, c.O i a → c.f a = none
  ex : ∀ i a, c.O i a → c.m a ≠ none
structure Step (c c' : C3) : Prop where
  mono : Grow c.f c'.f
  keep : ∀ b o, (∀ i, ¬ c.O i b) → c.m b = some o → c'.m b = some o
  acc : ∀ b, c'.f b ≠ none → c.f b ≠ none ∨ c.m b = none ∨ ∃ i, c.O i b
  own : ∀ i b, c'.O i b → c.m b = none ∨ ∃ i, c.O i b
  dom : ∀ b, c'.m b = none → c.m b = none
theorem Step.refl (c : C3) : Step c c := ⟨Grow.refl _, fun _ _ _ h => h, fun _ h => .inl h, fun i _ h => .inr ⟨i, h⟩, fun _ h => h⟩
theorem Step.trans {c c1 c2 : C3} (a : Step c c1) (b : Step c1 c2) : Step c c2 := by
  refine ⟨a.mono.trans b.mono, fun x o hx hm => ?_, fun x hx => ?_, fun i x hx => ?_, fun x hx => a.dom x (b.dom x hx)⟩
  · refine b.keep x o (fun i hi => ?_) (a.keep x o hx hm)
    rcases a.own i x hi with z | ⟨j, z⟩
    · rw [z] at hm; cases hm
    · exact hx j z
  · rcases b.acc x hx with z | z | ⟨i, z⟩
    · exact a.acc x z
    · exact .inr (.inl (a.dom x z))
    · rcases a.own i x z with z | z
      · exact .inr (.inl z)
      · exact .inr (.inr z)
  · rcases b.own i x hx with z | ⟨j, z⟩
    · exact .inl (a.dom x z)
    · exact a.own j x z
/-- an address that nothing told reaches -/
structure Priv (c : C3) (a : Addr) : Prop where
  f : c.f a = none
  o : ∀ i, ¬ c.O i a
theorem Priv.step {c c' : C3} {a : Addr} {o : MO} (p : Priv c a) (s : Step c c') (h : c.m a = some o) : Priv c' a ∧ c'.m a = some o := by
  refine ⟨⟨?_, fun i hi => ?_⟩, s.keep a o p.o h⟩
  · cases e : c'.f a with
    | none => rfl
    | some u =>
      rcases s.acc a (by rw [e]; exact fun z => nomatch z) with z | z | ⟨i, z⟩
      · exact absurd p.f z
      · rw [h] at z; cases z
      · exact absurd z (p.o i)
  · rcases s.own i a hi with z | ⟨j, z⟩
    · rw [h] at z; cases z
    · exact p.o j z
/-- what came about since c0 -/
def Fr (c0 : C3) (a : Addr) : Prop := c0.m a = none ∨ ∃ i, c0.O i a
theorem Fr.back {c0 c : C3} {a : Addr} (s : Step c0 c) (h : Fr c a) : Fr c0 a := by
  rcases h with h | ⟨i, h⟩
  · exact .inl (s.dom a h)
  · exact s.own i a h
inductive Rs where
  | va (v : PV) | ow (v : PV) | br (v : PV)
@[reducible] def Rs.v : Rs → PV
  | .va v => v
  | .ow v => v
  | .br v => v
def RR (c0 c : C3) (env : Ev) (ds : Sd) : Rs → D → Prop
  | .va v, d => RV c.f v d
  | .ow v, d => ∃ a o, d = .ref a ∧ c.m a = some o ∧ RC c.f v o ∧ Priv c a ∧ Fr c0 a
  | .br v, d => ∃ i : Nat, (env[i]? = some (Sl.ow v) ∨ env[i]? = some (Sl.va v)) ∧ ds[i]? = some (some d)
/-- owned things are as they were, or frozen -/
def Same : Ev → Ev → Prop
  | .ow v :: l, s :: r => (s = .ow v ∨ s = .va v) ∧ Same l r
  | .va v :: l, s :: r => s = .va v ∧ Same l r
  | .no :: l, _ :: r => Same l r
  | .dk _ _ :: l, _ :: r => Same l r
  | .scr _ :: l, _ :: r => Same l r
  | [], _ => True
  | _ :: _, [] => False
theorem same_cons {s : Sl} {l r : Ev} : Same (s :: l) (s :: r) = Same l r := by
  cases s <;> simp [Same]
theorem Same.refl : ∀ e : Ev, Same e e
  | [] => trivial
  | s :: l => by rw [same_cons]; exact Same.refl l
theorem Same.get : ∀ {e e' : Ev} {i : Nat} {v : PV}, Same e e' → (e[i]? = some (.ow v) ∨ e[i]? = some (.va v)) → (e'[i]? = some (.ow v) ∨ e'[i]? = some (.va v))
  | [], _, _, _, _, h => by simp at h
  | _ :: _, [], _, _, s, _ => by
    rename_i x l i v h
    cases x <;> exact s.elim
  | x :: l, y :: r, 0, v, s, h => by
    simp at h
    rcases h with rfl | rfl
    · rcases s.1 with z | z <;> simp [z]
    · have z : y = .va v := s.1
      simp [z]
  | x :: l, y :: r, i + 1, v, s, h => by
    rw [List.getElem?_cons_succ] at h ⊢
    cases x with
    | ow u => exact Same.get s.2 h
    | va u => exact Same.get s.2 h
    | no => exact Same.get (e := l) s h
    | dk p n => exact Same.get (e := l) s h
    | scr n => exact Same.get (e := l) s h
def SameR : Rs → Ev → Ev → Prop
  | .br _, a, b => Same a b
  | _, _, _ => True
theorem RR.step {c0 c c' : C3} {env env' : Ev} {ds : Sd} {r : Rs} {d : D} (h : RR c0 c env ds r d) (s : Step c c') (k : SameR r env env') : RR c0 c' env' ds r d := by
  cases r with
  | va v => exact RV.grow s.mono h
  | ow v =>
    obtain ⟨a, o, rfl, h1, h2, h3, h4⟩ := h
    obtain ⟨p, q⟩ := h3.step s h1
    exact ⟨a, o, rfl, q, h2.grow s.mono, p, h4⟩
  | br v =>
    obtain ⟨i, h1, h2⟩ := h
    exact ⟨i, Same.get k h1, h2⟩
theorem RR.back {c0 c1 c : C3} {env : Ev} {ds : Sd} {r : Rs} {d : D} (s : Step c0 c1) (h : RR c1 c env ds r d) : RR c0 c env ds r d := by
  cases r with
  | va v => exact h
  | ow v =>
    obtain ⟨a, o, rfl, h1, h2, h3, h4⟩ := h
    exact ⟨a, o, rfl, h1, h2, h3, h4.back s⟩
  | br v => exact h
/-- a value, read where it stands -/
def RVr (c : C3) : PV → D → Prop
  | .lst l, d => ∃ a ds, d = .ref a ∧ c.m a = some (.lst ds) ∧ RVs c.f l ds
  | .dct l, d => ∃ a ks, d = .ref a ∧ c.m a = some (.dct ks) ∧ RVk c.f l ks
  | .xtp l, d => ∃ a ds, d = .ref a ∧ c.m a = some (.xtp ds) ∧ RVs c.f l ds
  | v, d => RV c.f v d
theorem RV.read {c : C3} (g : Grow c.f c.m) {v : PV} {d : D} (h : RV c.f v d) : RVr c v d := by
  cases h with
  | lst e r => exact ⟨_, _, rfl, g _ _ e, r⟩
  | dct e r => exact ⟨_, _, rfl, g _ _ e, r⟩
  | xtp e r => exact ⟨_, _, rfl, g _ _ e, r⟩
  | non => exact .non
  | bl b => exact .bl b
  | int b => exact .int b
  | str b => exact .str b
  | tup b => exact .tup b
theorem RC.read {c : C3} {v : PV} {a : Addr} {o : MO} (e : c.m a = some o) (r : RC c.f v o) : RVr c v (.ref a) := by
  cases v <;> cases o <;> first | exact r.elim | exact ⟨_, _, rfl, e, r⟩
theorem RR.read {c0 c : C3} {env : Ev} {ds : Sd} {r : Rs} {d : D} (w : VS c env ds) (h : RR c0 c env ds r d) : RVr c r.v d := by
  cases r with
  | va v => exact RV.read w.sub h
  | ow v =>
    obtain ⟨a, o, rfl, h1, h2, h3, h4⟩ := h
    exact RC.read h1 h2
  | br v =>
    obtain ⟨i, h1, h2⟩ := h
    rcases h1 with h1 | h1
    · have z := w.sl i _ h1
      rw [h2] at z
      obtain ⟨a, o, e, h3, h4, h5⟩ := z
      cases e
      exact RC.read h3 h4
    · have z := w.sl i _ h1
      rw [h2] at z
      obtain ⟨a, e, h3⟩ := z
      cases e
      exact RV.read w.sub h3

/-! ### how the state changes -/
section
variable {c : C3} {env : Ev} {ds : Sd}
theorem SlOk.grow {c c' : C3} {A A' : Addr → Prop} {s : Sl} {x : Option (Option D)} (h : SlOk c A s x) (g : Grow c.f c'.f) (hm : ∀ a, A a → c.m a ≠ none → c'.m a = c.m a) (hA : ∀ a, A a → A' a) : SlOk c' A' s x := by
  cases s with
  | no => trivial
  | va v => obtain ⟨d, e, r⟩ := h; exact ⟨d, e, RV.grow g r⟩
  | ow v =>
    obtain ⟨a, o, e, h1, h2, h3⟩ := h
    exact ⟨a, o, e, by rw [hm a h3 (by rw [h1]; exact fun z => nomatch z)]; exact h1, h2.grow g, hA a h3⟩
  | dk p n =>
    obtain ⟨e, h1, h2, h3⟩ := h
    refine ⟨e, ?_, hA _ h2, hA _ h3⟩
    obtain ⟨cells, t, gg, a1, a2, a3⟩ := h1
    exact ⟨cells, t, gg, by rw [hm _ h2 (by rw [a1]; exact fun z => nomatch z)]; exact a1, by rw [hm _ h3 (by rw [a2]; exact fun z => nomatch z)]; exact a2, a3⟩
  | scr ns => exact h
/-- the heap grows by what is not reached -/
theorem VS.grow {m' f' : MH} (w : VS c env ds) (g : Grow c.m m') (gf : Grow c.f f') (gm : Grow f' m') (acc : ∀ b, f' b ≠ none → c.f b ≠ none ∨ c.m b = none) : VS ⟨f', c.O, m'⟩ env ds := by
  refine ⟨w.len, gm, fun i s h => (w.sl i s h).grow gf (fun a _ hn => ?_) fun _ h => h, w.dj, fun i a h => ?_, fun i a h z => ?_⟩
  · cases e : c.m a with
    | none => exact absurd e hn
    | some o => exact g _ _ e
  · show f' a = none
    cases e : f' a with
    | none => rfl
    | some o =>
      rcases acc a (by rw [e]; exact fun z => nomatch z) with z | z
      · exact absurd (w.fr i a h) z
      · exact absurd z (w.ex i a h)
  · have z : m' a = none := z
    cases e : c.m a with
    | none => exact w.ex i a h e
    | some o => rw [g _ _ e] at z; cases z
theorem Step.grow {m' f' : MH} (g : Grow c.m m') (gf : Grow c.f f') (acc : ∀ b, f' b ≠ none → c.f b ≠ none ∨ c.m b = none) : Step c ⟨f', c.O, m'⟩ := by
  refine ⟨gf, fun b o _ h => g b o h, fun b h => ?_, fun i b h => .inr ⟨i, h⟩, fun b h => ?_⟩
  · rcases acc b h with z | z
    · exact .inl z
    · exact .inr (.inl z)
  · have h : m' b = none := h
    cases e : c.m b with
    | none => rfl
    | some o => rw [g _ _ e] at h; cases h
/-- a private object is laid or written -/
theorem VS.priv {a : Addr} {o : MO} (w : VS c env ds) (p : Priv c a) : VS { c with m := mup c.m a o } env ds := by
  refine ⟨w.len, fun b u e => ?_, fun i s h => (w.sl i s h).grow (Grow.refl _) (fun b hb _ => mup_ne fun z => p.o i (z ▸ hb)) fun _ h => h, w.dj, w.fr, fun i b h z => ?_⟩
  · show mup c.m a o b = some u
    rw [mup_ne fun z => (by rw [z, p.f] at e; cases e)]
    exact w.sub b u e
  · have z : mup c.m a o b = none := z
    rw [mup_ne fun y : b = a => p.o i (y ▸ h)] at z
    exact w.ex i b h z
theorem Step.priv {c0 : C3} {a : Addr} {o : MO} (s : Step c0 c) (n : c0.m a = none) : Step c0 { c with m := mup c.m a o } := by
  refine ⟨s.mono, fun b u hb e => ?_, s.acc, s.own, fun b h => ?_⟩
  · show mup c.m a o b = some u
    rw [mup_ne fun z => (by rw [z, n] at e; cases e)]
    exact s.keep b u hb e
  · have h : mup c.m a o b = none := h
    by_cases z : b = a
    · rw [z]; exact n
    · rw [mup_ne z] at h
      exact s.dom b h
theorem Priv.new {a : Addr} (w : VS c env ds) (n : c.m a = none) : Priv c a := by
  refine ⟨?_, fun i h => w.ex i a h n⟩
  cases e : c.f a with
  | none => rfl
  | some o => rw [w.sub _ _ e] at n; cases n
/-- a private object is frozen -/
theorem VS.freeze {a : Addr} {o : MO} (w : VS c env ds) (p : Priv c a) (h : c.m a = some o) : VS { c with f := mup c.f a o } env ds := by
  have g : Grow c.f (mup c.f a o) := fun b u e => by rw [mup_ne fun z => (by rw [z, p.f] at e; cases e)]; exact e
  refine ⟨w.len, fun b u e => ?_, fun i s h => (w.sl i s h).grow g (fun _ _ _ => rfl) fun _ h => h, w.dj, fun i b hb => ?_, w.ex⟩
  · by_cases z : b = a
    · subst z
      have e : mup c.f b o b = some u := e
      rw [mup_same] at e
      cases e
      exact h
    · have e : mup c.f a o b = some u := e
      rw [mup_ne z] at e
      exact w.sub b u e
  · show mup c.f a o b = none
    rw [mup_ne fun z : b = a => p.o i (z ▸ hb)]
    exact w.fr i b hb
theorem Step.freeze {c0 : C3} {a : Addr} {o : MO} (s : Step c0 c) (p : Priv c a) (fr : Fr c0 a) : Step c0 { c with f := mup c.f a o } := by
  refine ⟨fun b u e => ?_, s.keep, fun b h => ?_, s.own, s.dom⟩
  · show mup c.f a o b = some u
    rw [mup_ne fun z => (by rw [z] at e; have := s.mono _ _ e; rw [p.f] at this; cases this)]
    exact s.mono _ _ e
  · by_cases z : b = a
    · subst z
      rcases fr with fr | fr
      · exact .inr (.inl fr)
      · exact .inr (.inr fr)
    · have h : mup c.f a o b ≠ none := h
      rw [mup_ne z] at h
      exact s.acc b h
/-- slots -/
theorem VS.ds_len (w : VS c env ds) {i : Nat} (h : i < env.length) : i < ds.length := by rw [← w.len]; exact h
/-- a slot gets a frozen value, a private thing, nothing -/
theorem VS.set {i : Nat} {s : Sl} {d : Option D} {A : Addr → Prop} (w : VS c env ds) (h : SlOk c A s (some d)) (hA : ∀ a, A a → Priv c a ∨ c.O i a) (hx : ∀ a, A a → c.m a ≠ none) : VS { c with O := fun j a => if j = i then A a else c.O j a } (env.set i s) (ds.set i d) := by
  refine ⟨by rw [List.length_set, List.length_set]; exact w.len, w.sub, fun j u hu => ?_, fun j k a h1 h2 => ?_, fun j a h1 => ?_, fun j a h1 => ?_⟩
  · by_cases e : j = i
    · subst e
      have hl : j < env.length := by
        have := (List.getElem?_eq_some_iff.mp hu).1
        rwa [List.length_set] at this
      rw [List.getElem?_set_self hl] at hu
      cases hu
      rw [List.getElem?_set_self (w.ds_len hl)]
      simp only [if_true]
      exact h.grow (c' := { c with O := fun k a => if k = j then A a else c.O k a }) (Grow.refl _) (fun _ _ _ => rfl) fun _ h => h
    · rw [List.getElem?_set_ne (fun z => e z.symm)] at hu ⊢
      simp only [if_neg e]
      exact (w.sl j u hu).grow (c' := { c with O := fun k a => if k = i then A a else c.O k a }) (Grow.refl _) (fun _ _ _ => rfl) fun _ h => h
  · have h1 : if j = i then A a else c.O j a := h1
    have h2 : if k = i then A a else c.O k a := h2
    by_cases e : j = i <;> by_cases e2 : k = i
    · rw [e, e2]
    · rw [if_pos e] at h1
      rw [if_neg e2] at h2
      rcases hA a h1 with p | p
      · exact absurd h2 (p.o k)
      · exact absurd (w.dj k i a h2 p) e2
    · rw [if_neg e] at h1
      rw [if_pos e2] at h2
      rcases hA a h2 with p | p
      · exact absurd h1 (p.o j)
      · exact absurd (w.dj j i a h1 p) e
    · rw [if_neg e] at h1
      rw [if_neg e2] at h2
      exact w.dj j k a h1 h2
  · have h1 : if j = i then A a else c.O j a := h1
    by_cases e : j = i
    · rw [if_pos e] at h1
      rcases hA a h1 with p | p
      · exact p.f
      · exact w.fr i a p
    · rw [if_neg e] at h1
      exact w.fr j a h1
  · have h1 : if j = i then A a else c.O j a := h1
    by_cases e : j = i
    · rw [if_pos e] at h1
      exact hx a h1
    · rw [if_neg e] at h1
      exact w.ex j a h1
theorem Step.set {c0 : C3} {i : Nat} {A : Addr → Prop} (s : Step c0 c) (hA : ∀ a, A a → Fr c0 a) : Step c0 { c with O := fun j a => if j = i then A a else c.O j a } := by
  refine ⟨s.mono, s.keep, s.acc, fun j b h => ?_, s.dom⟩
  have h : if j = i then A b else c.O j b := h
  by_cases e : j = i
  · rw [if_pos e] at h
    exact hA b h
  · rw [if_neg e] at h
    exact s.own j b h
theorem VS.set_va {i : Nat} {v : PV} {d : D} (w : VS c env ds) (r : RV c.f v d) : VS { c with O := fun j a => if j = i then False else c.O j a } (env.set i (.va v)) (ds.set i (some d)) :=
  w.set (A := fun _ => False) (s := .va v) ⟨d, rfl, r⟩ (fun _ h => h.elim) fun _ h => h.elim
theorem VS.set_no {i : Nat} {d : Option D} (w : VS c env ds) : VS { c with O := fun j a => if j = i then False else c.O j a } (env.set i .no) (ds.set i d) :=
  w.set (A := fun _ => False) (s := .no) trivial (fun _ h => h.elim) fun _ h => h.elim
theorem Step.set_va {c0 : C3} {i : Nat} (s : Step c0 c) : Step c0 { c with O := fun j a => if j = i then False else c.O j a } := s.set (A := fun _ => False) fun _ h => h.elim
theorem VS.set_ow {i : Nat} {v : PV} {a : Addr} {o : MO} (w : VS c env ds) (h : c.m a = some o) (r : RC c.f v o) (p : Priv c a) : VS { c with O := fun j b => if j = i then b = a else c.O j b } (env.set i (.ow v)) (ds.set i (some (.ref a))) :=
  w.set (A := fun b => b = a) (s := .ow v) ⟨a, o, rfl, h, r, rfl⟩ (fun b hb => .inl (hb ▸ p)) fun b hb z => (by rw [hb, h] at z; cases z)
/-- an owned thing is written -/
theorem VS.write {i : Nat} {v v' : PV} {o' : MO} (w : VS c env ds) (h : env[i]? = some (.ow v)) {a : Addr} (hd : ds[i]? = some (some (.ref a))) (r : RC c.f v' o') : VS { c with m := mup c.m a o' } (env.set i (.ow v')) ds ∧ Step c { c with m := mup c.m a o' } := by
  have z := w.sl i _ h
  rw [hd] at z
  obtain ⟨b, o, e, h1, h2, h3⟩ := z
  cases e
  have hl : i < env.length := (List.getElem?_eq_some_iff.mp h).1
  refine ⟨⟨by rw [List.length_set]; exact w.len, fun b u e => ?_, fun j s hs => ?_, w.dj, w.fr, fun j b hb z => ?_⟩, Grow.refl _, fun b u hb e => ?_, fun b h => .inl h, fun j b hb => .inr ⟨j, hb⟩, fun b z => ?_⟩
  · show mup c.m a o' b = some u
    rw [mup_ne fun z => (by rw [z, w.fr i a h3] at e; cases e)]
    exact w.sub b u e
  · by_cases e : j = i
    · subst e
      rw [List.getElem?_set_self hl] at hs
      cases hs
      exact ⟨a, o', hd, mup_same, r, h3⟩
    · rw [List.getElem?_set_ne (fun z => e z.symm)] at hs
      exact (w.sl j s hs).grow (Grow.refl _) (fun b hb _ => mup_ne fun z => e (w.dj j i a (z ▸ hb) h3)) fun _ h => h
  · have z : mup c.m a o' b = none := z
    by_cases e : b = a
    · rw [e, mup_same] at z; cases z
    · rw [mup_ne e] at z
      exact w.ex j b hb z
  · show mup c.m a o' b = some u
    rw [mup_ne fun z : b = a => hb i (z ▸ h3)]
    exact e
  · have z : mup c.m a o' b = none := z
    by_cases e : b = a
    · rw [e, mup_same] at z; cases z
    · rw [mup_ne e] at z
      exact z
end
end DL
/-! VL: expressions. -/
namespace DL
open PySem PySem.Spec PyProof.Rows L2
abbrev WE := Ev → (Rs → Ev → Prop) → Prop
abbrev WF := Ev → (PV → Ev → Prop) → Prop
abbrev WT := Ev → (Bool → Ev → Prop) → Prop
abbrev WA := Ev → (List PV → Ev → Prop) → Prop
abbrev WO := Ev → (Option Int → Ev → Prop) → Prop
def VJ (w : WE) (t : DE) : Prop := ∀ c env ds Q R, VS c env ds → w env Q → (∀ r env' c' d, VS c' env' ds → Step c c' → RR c c' env' ds r d → Q r env' → R d c'.m) → t ds c.m R
def FJ (w : WF) (t : DE) : Prop := ∀ c env ds Q R, VS c env ds → w env Q → (∀ v env' c' d, VS c' env' ds → Step c c' → RV c'.f v d → Q v env' → R d c'.m) → t ds c.m R
def TJ (w : WT) (t : DT) : Prop := ∀ c env ds Q R, VS c env ds → w env Q → (∀ b env' c', VS c' env' ds → Step c c' → Q b env' → R b c'.m) → t ds c.m R
def AJ (w : WA) (t : DA) : Prop := ∀ c env ds Q R, VS c env ds → w env Q → (∀ l env' c' dl, VS c' env' ds → Step c c' → RVs c'.f l dl → Q l env' → R dl c'.m) → t ds c.m R
def OJ (w : WO) (t : DO) : Prop := ∀ c env ds Q R, VS c env ds → w env Q → (∀ b env' c', VS c' env' ds → Step c c' → Q b env' → R b c'.m) → t ds c.m R
/-! ### frozen -/
def vF (e : WE) : WF := fun env Q => e env fun r env1 => match r with | .va v => Q v env1 | .ow v => Q v env1 | .br _ => False
theorem fj {w : WE} {t : DE} (h : VJ w t) : FJ (vF w) t := by
  intro c env ds Q R W q k
  refine h c env ds _ R W q fun r env' c' d W' s rr q' => ?_
  cases r with
  | va v => exact k v env' c' d W' s rr q'
  | ow v =>
    obtain ⟨a, o, rfl, h1, h2, h3, h4⟩ := rr
    have g : Grow c'.f (mup c'.f a o) := fun b u e => by rw [mup_ne fun z => (by rw [z, h3.f] at e; cases e)]; exact e
    exact k v env' { c' with f := mup c'.f a o } _ (W'.freeze h3 h1) (s.freeze h3 h4) (RC.freeze mup_same (h2.grow g)) q'
  | br v => exact q'.elim
def vVar (i : Nat) : WE := fun env Q => match env[i]? with
  | some (.va v) => Q (.va v) env
  | some (.ow v) => Q (.br v) env
  | _ => False
theorem VS.va {c : C3} {env : Ev} {ds : Sd} (w : VS c env ds) {i : Nat} {v : PV} (h : env[i]? = some (.va v)) : ∃ d, ds[i]? = some (some d) ∧ RV c.f v d := by
  obtain ⟨d, e, r⟩ := w.sl i _ h
  exact ⟨d, e, r⟩
theorem VS.ow {c : C3} {env : Ev} {ds : Sd} (w : VS c env ds) {i : Nat} {v : PV} (h : env[i]? = some (.ow v)) : ∃ a o, ds[i]? = some (some (.ref a)) ∧ c.m a = some o ∧ RC c.f v o ∧ c.O i a := by
  obtain ⟨a, o, e, r⟩ := w.sl i _ h
  exact ⟨a, o, e, r⟩
theorem vj_var (i : Nat) : VJ (vVar i) (dVar i) := by
  intro c env ds Q R W q k
  unfold vVar at q
  cases e : env[i]? with
  | none => rw [e] at q; exact q.elim
  | some s =>
    rw [e] at q
    cases s with
    | va v =>
      obtain ⟨d, h1, h2⟩ := W.va e
      exact ⟨d, h1, k (.va _) _ c _ W (Step.refl c) h2 q⟩
    | ow v =>
      obtain ⟨a, o, h1, _⟩ := W.ow e
      exact ⟨_, h1, k (.br _) _ c _ W (Step.refl c) ⟨i, .inl e, h1⟩ q⟩
    | no => exact q.elim
    | dk p n => exact q.elim
    | scr n => exact q.elim
def vMov (i : Nat) : WE := fun env Q => match env[i]? with
  | some (.va v) => Q (.va v) env
  | some (.ow v) => Q (.va v) (env.set i (.va v))
  | _ => False
/-- an owned thing is frozen in its place -/
theorem VS.mov {c : C3} {env : Ev} {ds : Sd} (w : VS c env ds) {i : Nat} {v : PV} (h : env[i]? = some (.ow v)) : ∃ (d : D) (c' : C3), ds[i]? = some (some d) ∧ VS c' (env.set i (.va v)) ds ∧ Step c c' ∧ RV c'.f v d ∧ c'.m = c.m := by
  obtain ⟨a, o, h1, h2, h3, h4⟩ := w.ow h
  have w1 := w.set_no (i := i) (d := some (.ref a))
  have e1 : ds.set i (some (.ref a)) = ds := by
    obtain ⟨hl, e⟩ := List.getElem?_eq_some_iff.mp h1
    rw [← e]
    exact List.set_getElem_self hl
  rw [e1] at w1
  have p1 : Priv { c with O := fun j a => if j = i then False else c.O j a } a := ⟨w.fr i a h4, fun j hj => by
    have hj : if j = i then False else c.O j a := hj
    by_cases e : j = i
    · rw [if_pos e] at hj; exact hj
    · rw [if_neg e] at hj; exact e (w.dj j i a hj h4)⟩
  have s1 := Step.set_va (i := i) (Step.refl c)
  have w2 := w1.freeze p1 h2
  have s2 := s1.freeze (o := o) p1 (.inr ⟨i, h4⟩)
  have g : Grow c.f (mup c.f a o) := fun b u e => by rw [mup_ne fun z => (by rw [z, w.fr i a h4] at e; cases e)]; exact e
  have r2 : RV (mup c.f a o) v (.ref a) := RC.freeze mup_same (h3.grow g)
  have w3 := w2.set_va (i := i) (v := v) (d := .ref a) r2
  rw [e1, List.set_set] at w3
  exact ⟨_, _, h1, w3, Step.set_va (i := i) s2, r2, rfl⟩
theorem vj_mov (i : Nat) : VJ (vMov i) (dVar i) := by
  intro c env ds Q R W q k
  unfold vMov at q
  cases e : env[i]? with
  | none => rw [e] at q; exact q.elim
  | some s =>
    rw [e] at q
    cases s with
    | va v =>
      obtain ⟨d, h1, h2⟩ := W.va e
      exact ⟨d, h1, k (.va _) _ c _ W (Step.refl c) h2 q⟩
    | ow v =>
      obtain ⟨d, c', h1, h3, h4, h5, h2⟩ := W.mov e
      exact ⟨d, h1, h2 ▸ k (.va v) _ c' _ h3 h4 h5 q⟩
    | no => exact q.elim
    | dk p n => exact q.elim
    | scr n => exact q.elim
def vC (v : PV) : WE := fun env Q => Q (.va v) env
theorem vj_c {v : PV} {d : D} (h : ∀ f, RV f v d) : VJ (vC v) (dC d) := fun c env ds Q R W q k => k (.va _) _ c _ W (Step.refl c) (h _) q
def vNil : WA := fun env Q => Q [] env
def vCons (e : WF) (a : WA) : WA := fun env Q => e env fun v env1 => a env1 fun l env2 => Q (v :: l) env2
theorem aj_nil : AJ vNil dNil := fun c env ds Q R W q k => k _ _ c _ W (Step.refl c) .nil q
theorem aj_cons {e : WF} {a : WA} {te : DE} {ta : DA} (h : FJ e te) (ha : AJ a ta) : AJ (vCons e a) (dCons te ta) := by
  intro c env ds Q R W q k
  refine h c env ds _ _ W q fun v env1 c1 d W1 s1 rv q1 => ha c1 env1 ds _ _ W1 q1 fun l env2 c2 dl W2 s2 rl q2 => ?_
  exact k _ env2 c2 _ W2 (s1.trans s2) (.cons (rv.grow s2.mono) rl) q2
def vTup (a : WA) : WE := fun env Q => a env fun l env1 => l.length ≤ sizeLine ∧ Q (.va (.tup l)) env1
theorem vj_tup {a : WA} {t : DA} (h : AJ a t) : VJ (vTup a) (dTup t) := by
  intro c env ds Q R W q k
  refine h c env ds _ _ W q fun l env1 c1 dl W1 s1 rl q1 => ?_
  exact ⟨by rw [← rl.len]; exact q1.1, k (.va _) env1 c1 _ W1 s1 (show RV c1.f _ _ from .tup rl) q1.2⟩
theorem new_rr {c0 c : C3} {env : Ev} {ds : Sd} {v : PV} {o : MO} {p : Addr} (W : VS c env ds) (s : Step c0 c) (rc : RC c.f v o) (n : c.m p = none) :
    VS { c with m := mup c.m p o } env ds ∧ Step c0 { c with m := mup c.m p o } ∧ RR c0 { c with m := mup c.m p o } env ds (.ow v) (.ref p) := by
  have pr := Priv.new W n
  exact ⟨W.priv pr, s.priv (s.dom p n), p, o, rfl, mup_same, rc, ⟨pr.f, pr.o⟩, .inl (s.dom p n)⟩
def vLst (a : WA) : WE := fun env Q => a env fun l env1 => l.length ≤ sizeLine ∧ Q (.ow (.lst l)) env1
theorem vj_lst {a : WA} {t : DA} (h : AJ a t) : VJ (vLst a) (dLst t) := by
  intro c env ds Q R W q k
  refine h c env ds _ _ W q fun l env1 c1 dl W1 s1 rl q1 => ?_
  refine ⟨by rw [← rl.len]; exact q1.1, fun p hp => ?_⟩
  obtain ⟨W2, s2, r2⟩ := new_rr (v := .lst l) (o := .lst dl) W1 s1 rl hp
  exact k _ env1 _ _ W2 s2 r2 q1.2
def vNewD : WE := fun env Q => Q (.ow (.dct [])) env
theorem vj_newD : VJ vNewD dNewK := by
  intro c env ds Q R W q k
  intro p hp
  obtain ⟨W2, s2, r2⟩ := new_rr (v := .dct []) (o := .dct []) W (Step.refl c) (show RC c.f (.dct []) (.dct []) from RVk.nil) hp
  exact k _ env _ _ W2 s2 r2 q
/-! ### operators -/
abbrev WOp := PV → PV → (Rs → Prop) → Prop
def OpV (r : DOp) (w : WOp) : Prop := ∀ c env ds x y dx dy Q R, VS c env ds → RVr c x dx → RVr c y dy → w x y Q → (∀ z c' d, VS c' env ds → Step c c' → RR c c' env ds z d → Q z → R d c'.m) → r dx dy c.m R
def vOp (w : WOp) (f g : WE) : WE := fun env Q => f env fun x env1 => g env1 fun y env2 => SameR x env1 env2 ∧ w x.v y.v fun z => Q z env2
theorem vj_op {r : DOp} {w : WOp} {f g : WE} {tf tg : DE} (h : OpV r w) (ha : VJ f tf) (hb : VJ g tg) : VJ (vOp w f g) (dOp r tf tg) := by
  intro c env ds Q R W q k
  refine ha c env ds _ _ W q fun x env1 c1 dx W1 s1 rx q1 => hb c1 env1 ds _ _ W1 q1 fun y env2 c2 dy W2 s2 ry q2 => ?_
  obtain ⟨sm, q2⟩ := q2
  have rx2 := rx.step s2 sm
  refine h c2 env2 ds _ _ _ _ _ _ W2 (rx2.read W2) (ry.read W2) q2 fun z c3 d W3 s3 rz qz => ?_
  exact k z env2 c3 d W3 ((s1.trans s2).trans s3) (rz.back (s1.trans s2)) qz
def vChain (r r' : WOp) (f g h : WE) : WE := fun env Q => f env fun x env1 => g env1 fun y env2 => SameR x env1 env2 ∧ r x.v y.v fun z => ∃ k, z = .va (.bl k) ∧ if k = true then h env2 fun u env3 => SameR y env2 env3 ∧ r' y.v u.v fun z => Q z env3 else Q (.va (.bl false)) env2
theorem vj_chain {r r' : DOp} {w w' : WOp} {f g e : WE} {tf tg th : DE} (h : OpV r w) (h' : OpV r' w') (ha : VJ f tf) (hb : VJ g tg) (he : VJ e th) : VJ (vChain w w' f g e) (dChain r r' tf tg th) := by
  intro c env ds Q R W q k
  refine ha c env ds _ _ W q fun x env1 c1 dx W1 s1 rx q1 => hb c1 env1 ds _ _ W1 q1 fun y env2 c2 dy W2 s2 ry q2 => ?_
  obtain ⟨sm, q2⟩ := q2
  have rx2 := rx.step s2 sm
  refine h c2 env2 ds _ _ _ _ _ _ W2 (rx2.read W2) (ry.read W2) q2 fun z c3 d W3 s3 rz qz => ?_
  obtain ⟨kk, rfl, qz⟩ := qz
  cases rz
  refine ⟨kk, rfl, ?_⟩
  have s13 := (s1.trans s2).trans s3
  cases kk with
  | true =>
    rw [if_pos rfl] at qz ⊢
    refine he c3 env2 ds _ _ W3 qz fun u env3 c4 du W4 s4 ru q4 => ?_
    obtain ⟨sm4, q4⟩ := q4
    have ry4 := (ry.step s3 (by cases y <;> first | trivial | exact Same.refl _)).step s4 sm4
    refine h' c4 env3 ds _ _ _ _ _ _ W4 (ry4.read W4) (ru.read W4) q4 fun z c5 d W5 s5 rz qz => ?_
    exact k z env3 c5 d W5 ((s13.trans s4).trans s5) (rz.back (s13.trans s4)) qz
  | false =>
    rw [if_neg (by decide)] at qz ⊢
    exact k (.va _) env2 c3 _ W3 s13 (show RV c3.f _ _ from .bl false) qz
/-! ### not, and, or, if -/
def vB (f : WE) : WT := fun env Q => f env fun x env1 => ∃ k, x = .va (.bl k) ∧ Q k env1
theorem tj_b {f : WE} {t : DE} (h : VJ f t) : TJ (vB f) (dB t) := by
  intro c env ds Q R W q k
  refine h c env ds _ _ W q fun x env1 c1 dx W1 s1 rx q1 => ?_
  obtain ⟨b, rfl, q1⟩ := q1
  cases rx
  exact ⟨b, rfl, k b env1 c1 W1 s1 q1⟩
def vNotT (f : WT) : WT := fun env Q => f env fun b env1 => Q (!b) env1
def vAndT (f g : WT) : WT := fun env Q => f env fun b env1 => if b = true then g env1 Q else Q false env1
def vOrT (f g : WT) : WT := fun env Q => f env fun b env1 => if b = true then Q true env1 else g env1 Q
section
variable {f g : WT} {tf tg : DT}
theorem tj_not (h : TJ f tf) : TJ (vNotT f) (dNotT tf) := fun c env ds Q R W q k => h c env ds _ _ W q fun b env1 c1 W1 s1 q1 => k _ env1 c1 W1 s1 q1
theorem tj_and (h : TJ f tf) (h' : TJ g tg) : TJ (vAndT f g) (dAndT tf tg) := by
  intro c env ds Q R W q k
  refine h c env ds _ _ W q fun b env1 c1 W1 s1 q1 => ?_
  cases b with
  | true =>
    rw [if_pos rfl] at q1 ⊢
    exact h' c1 env1 ds _ _ W1 q1 fun b env2 c2 W2 s2 q2 => k b env2 c2 W2 (s1.trans s2) q2
  | false =>
    rw [if_neg (by decide)] at q1 ⊢
    exact k _ env1 c1 W1 s1 q1
theorem tj_or (h : TJ f tf) (h' : TJ g tg) : TJ (vOrT f g) (dOrT tf tg) := by
  intro c env ds Q R W q k
  refine h c env ds _ _ W q fun b env1 c1 W1 s1 q1 => ?_
  cases b with
  | true =>
    rw [if_pos rfl] at q1 ⊢
    exact k _ env1 c1 W1 s1 q1
  | false =>
    rw [if_neg (by decide)] at q1 ⊢
    exact h' c1 env1 ds _ _ W1 q1 fun b env2 c2 W2 s2 q2 => k b env2 c2 W2 (s1.trans s2) q2
end
def vAnd (f g : WE) : WE := fun env Q => f env fun x env1 => ∃ k, x = .va (.bl k) ∧ if k = true then g env1 Q else Q (.va (.bl false)) env1
def vOr (f g : WE) : WE := fun env Q => f env fun x env1 => ∃ k, x = .va (.bl k) ∧ if k = true then Q (.va (.bl true)) env1 else g env1 Q
def vNot (f : WE) : WE := fun env Q => f env fun x env1 => ∃ k, x = .va (.bl k) ∧ Q (.va (.bl (!k))) env1
def vIfE (t : WT) (f g : WE) : WE := fun env Q => t env fun b env1 => if b = true then f env1 Q else g env1 Q
section
variable {f g : WE} {tf tg : DE} {t : WT} {tt : DT}
theorem vj_and (h : VJ f tf) (h' : VJ g tg) : VJ (vAnd f g) (dAnd tf tg) := by
  intro c env ds Q R W q k
  refine h c env ds _ _ W q fun x env1 c1 dx W1 s1 rx q1 => ?_
  obtain ⟨b, rfl, q1⟩ := q1
  cases rx
  refine ⟨b, rfl, ?_⟩
  cases b with
  | true =>
    rw [if_pos rfl] at q1 ⊢
    exact h' c1 env1 ds _ _ W1 q1 fun b env2 c2 d W2 s2 rr q2 => k b env2 c2 d W2 (s1.trans s2) (rr.back s1) q2
  | false =>
    rw [if_neg (by decide)] at q1 ⊢
    exact k (.va _) env1 c1 _ W1 s1 (show RV c1.f _ _ from .bl false) q1
theorem vj_or (h : VJ f tf) (h' : VJ g tg) : VJ (vOr f g) (dOr tf tg) := by
  intro c env ds Q R W q k
  refine h c env ds _ _ W q fun x env1 c1 dx W1 s1 rx q1 => ?_
  obtain ⟨b, rfl, q1⟩ := q1
  cases rx
  refine ⟨b, rfl, ?_⟩
  cases b with
  | true =>
    rw [if_pos rfl] at q1 ⊢
    exact k (.va _) env1 c1 _ W1 s1 (show RV c1.f _ _ from .bl true) q1
  | false =>
    rw [if_neg (by decide)] at q1 ⊢
    exact h' c1 env1 ds _ _ W1 q1 fun b env2 c2 d W2 s2 rr q2 => k b env2 c2 d W2 (s1.trans s2) (rr.back s1) q2
theorem vj_not (h : VJ f tf) : VJ (vNot f) (dNot tf) := by
  intro c env ds Q R W q k
  refine h c env ds _ _ W q fun x env1 c1 dx W1 s1 rx q1 => ?_
  obtain ⟨b, rfl, q1⟩ := q1
  cases rx
  exact ⟨b, rfl, k (.va _) env1 c1 _ W1 s1 (show RV c1.f _ _ from .bl _) q1⟩
theorem vj_if (ht : TJ t tt) (h : VJ f tf) (h' : VJ g tg) : VJ (vIfE t f g) (dIfE tt tf tg) := by
  intro c env ds Q R W q k
  refine ht c env ds _ _ W q fun b env1 c1 W1 s1 q1 => ?_
  cases b with
  | true =>
    rw [if_pos rfl] at q1 ⊢
    exact h c1 env1 ds _ _ W1 q1 fun b env2 c2 d W2 s2 rr q2 => k b env2 c2 d W2 (s1.trans s2) (rr.back s1) q2
  | false =>
    rw [if_neg (by decide)] at q1 ⊢
    exact h' c1 env1 ds _ _ W1 q1 fun b env2 c2 d W2 s2 rr q2 => k b env2 c2 d W2 (s1.trans s2) (rr.back s1) q2
end
def vNeg (f : WE) : WE := fun env Q => f env fun x env1 => ∃ i, x = .va (.int i) ∧ Q (.va (.int (-i))) env1
theorem vj_neg {f : WE} {t : DE} (h : VJ f t) : VJ (vNeg f) (dNeg t) := by
  intro c env ds Q R W q k
  refine h c env ds _ _ W q fun x env1 c1 dx W1 s1 rx q1 => ?_
  obtain ⟨b, rfl, q1⟩ := q1
  cases rx
  exact ⟨b, rfl, k (.va _) env1 c1 _ W1 s1 (show RV c1.f _ _ from .int _) q1⟩
/-! ### data -/
mutual
def ppv : PV → PyData
  | .non => .none
  | .bl b => .bool b
  | .int i => .int i
  | .str x => .str x
  | .tup l => .tuple (ppvs l)
  | .lst l => .list (ppvs l)
  | .dct l => .dict (ppvk l)
  | .xtp l => .tuple (ppvs l)
def ppvs : List PV → List PyData
  | [] => []
  | v :: l => ppv v :: ppvs l
def ppvk : List (Key × PV) → List (PyData × PyData)
  | [] => []
  | (k, v) :: l => (keyP k, ppv v) :: ppvk l
end
mutual
/-- no dict within -/
def noD : PV → Bool
  | .dct _ => false
  | .xtp _ => false
  | .tup l => noDs l
  | .lst l => noDs l
  | .non => true
  | .bl _ => true
  | .int _ => true
  | .str _ => true
def noDs : List PV → Bool
  | [] => true
  | v :: l => noD v && noDs l
end
mutual
theorem pd_of {f m : MH} (g : Grow f m) : ∀ {v : PV} {d : D}, RV f v d → noD v = true → PD m d (ppv v)
  | _, _, .non, _ => by rw [ppv]; exact .non
  | _, _, .bl b, _ => by rw [ppv]; exact .bl b
  | _, _, .int b, _ => by rw [ppv]; exact .int b
  | _, _, .str b, _ => by rw [ppv]; exact .str b
  | _, _, .tup r, h => by rw [ppv]; exact .tup (pds_of g r (by rw [noD] at h; exact h))
  | _, _, .lst e r, h => by rw [ppv]; exact .lst (g _ _ e) (pds_of g r (by rw [noD] at h; exact h))
  | _, _, .dct e r, h => by rw [noD] at h; cases h
  | _, _, .xtp e r, h => by rw [noD] at h; cases h
theorem pds_of {f m : MH} (g : Grow f m) : ∀ {v : List PV} {d : List D}, RVs f v d → noDs v = true → PDs m d (ppvs v)
  | _, _, .nil, _ => by rw [ppvs]; exact .nil
  | _, _, .cons r t, h => by
    rw [noDs, Bool.and_eq_true] at h
    rw [ppvs]
    exact .cons (pd_of g r h.1) (pds_of g t h.2)
end
theorem pdr_of {c : C3} (g : Grow c.f c.m) {v : PV} {d : D} (r : RVr c v d) (h : noD v = true) : PD c.m d (ppv v) := by
  cases v with
  | lst l =>
    obtain ⟨a, ds, rfl, h1, h2⟩ := r
    rw [ppv]
    exact .lst h1 (pds_of g h2 (by rw [noD] at h; exact h))
  | dct l => rw [noD] at h; cases h
  | xtp l => rw [noD] at h; cases h
  | non => exact pd_of g r h
  | bl b => exact pd_of g r h
  | int b => exact pd_of g r h
  | str b => exact pd_of g r h
  | tup b => exact pd_of g r h
def leafV : PV → Bool
  | .non => true
  | .bl _ => true
  | .int _ => true
  | .str _ => true
  | _ => false
mutual
/-- dicts within hold leaves -/
def lfD : PV → Bool
  | .dct l => l.all fun kv => leafV kv.2
  | .xtp _ => false
  | .tup l => lfDs l
  | .lst l => lfDs l
  | .non => true
  | .bl _ => true
  | .int _ => true
  | .str _ => true
def lfDs : List PV → Bool
  | [] => true
  | v :: l => lfD v && lfDs l
end
theorem pl_of {f : MH} {v : PV} {d : D} (r : RV f v d) (h : leafV v = true) : PL d (ppv v) := by
  cases r <;> first | (cases h; done) | (rw [ppv]; first | exact .non | exact .bl _ | exact .int _ | exact .str _)
theorem pls_of {f : MH} : ∀ {l : List (Key × PV)} {ks : List (Key × D)}, RVk f l ks → (l.all fun kv => leafV kv.2) = true → ∃ ps, PLs (ks.map (·.2)) ps ∧ ppvk l = (ks.map fun kv => keyP kv.1).zip ps
  | _, _, .nil, _ => ⟨[], .nil, by rw [ppvk]; rfl⟩
  | _, _, .cons r t, h => by
    rw [List.all_cons, Bool.and_eq_true] at h
    obtain ⟨ps, h1, h2⟩ := pls_of t h.2
    exact ⟨_ :: ps, .cons (pl_of r h.1) h1, by rw [ppvk, h2]; rfl⟩
mutual
theorem px_of {f m : MH} (g : Grow f m) : ∀ {v : PV} {d : D}, RV f v d → lfD v = true → PX m d (ppv v)
  | _, _, .non, _ => by rw [ppv]; exact .leaf .non
  | _, _, .bl b, _ => by rw [ppv]; exact .leaf (.bl b)
  | _, _, .int b, _ => by rw [ppv]; exact .leaf (.int b)
  | _, _, .str b, _ => by rw [ppv]; exact .leaf (.str b)
  | _, _, .tup r, h => by rw [ppv]; exact .tup (pxs_of g r (by rw [lfD] at h; exact h))
  | _, _, .lst e r, h => by rw [ppv]; exact .lst (g _ _ e) (pxs_of g r (by rw [lfD] at h; exact h))
  | _, _, .dct e r, h => by
    obtain ⟨ps, h1, h2⟩ := pls_of r (by rw [lfD] at h; exact h)
    rw [ppv, h2]
    exact .dct (g _ _ e) h1
  | _, _, .xtp e r, h => by rw [lfD] at h; cases h
theorem pxs_of {f m : MH} (g : Grow f m) : ∀ {v : List PV} {d : List D}, RVs f v d → lfDs v = true → PXs m d (ppvs v)
  | _, _, .nil, _ => by rw [ppvs]; exact .nil
  | _, _, .cons r t, h => by
    rw [lfDs, Bool.and_eq_true] at h
    rw [ppvs]
    exact .cons (px_of g r h.1) (pxs_of g t h.2)
end
theorem pxr_of {c : C3} (g : Grow c.f c.m) {v : PV} {d : D} (r : RVr c v d) (h : lfD v = true) : PX c.m d (ppv v) := by
  cases v with
  | lst l =>
    obtain ⟨a, ds, rfl, h1, h2⟩ := r
    rw [ppv]
    exact .lst h1 (pxs_of g h2 (by rw [lfD] at h; exact h))
  | dct l =>
    obtain ⟨a, ks, rfl, h1, h2⟩ := r
    obtain ⟨ps, h3, h4⟩ := pls_of h2 (by rw [lfD] at h; exact h)
    rw [ppv, h4]
    exact .dct h1 h3
  | xtp l => rw [lfD] at h; cases h
  | non => exact px_of g r h
  | bl b => exact px_of g r h
  | int b => exact px_of g r h
  | str b => exact px_of g r h
  | tup b => exact px_of g r h
/-! ### the operators by value -/
theorem rvs_ints {f : MH} : ∀ {ns : List Int} {ds : List D}, RVs f (ns.map .int) ds → ds = ns.map .int
  | [], _, .nil => rfl
  | n :: ns, _, .cons (.int _) t => by rw [List.map_cons, rvs_ints t]
theorem rvs_of_ints {f : MH} : ∀ (ns : List Int), RVs f (ns.map .int) (ns.map .int)
  | [] => .nil
  | n :: ns => .cons (.int n) (rvs_of_ints ns)
theorem rvs_bls {f : MH} : ∀ {ns : List Bool} {ds : List D}, RVs f (ns.map .bl) ds → ds = ns.map .bl
  | [], _, .nil => rfl
  | n :: ns, _, .cons (.bl _) t => by rw [List.map_cons, rvs_bls t]
def xAdd : WOp
  | .int i, .int j, Q => Q (.va (.int (i + j)))
  | .str a, .str b, Q => a.length + b.length ≤ sizeLine ∧ Q (.va (.str (a ++ b)))
  | .tup a, .tup b, Q => a.length + b.length ≤ sizeLine ∧ Q (.va (.tup (a ++ b)))
  | .lst a, .lst b, Q => a.length + b.length ≤ sizeLine ∧ Q (.ow (.lst (a ++ b)))
  | _, _, _ => False
theorem ov_add : OpV aAdd xAdd := by
  intro c env ds x y dx dy Q R W rx ry q k
  cases x <;> cases y <;> try exact q.elim
  · cases rx; cases ry; exact k (.va _) c _ W (Step.refl c) (show RV c.f _ _ from .int _) q
  · cases rx; cases ry; exact ⟨q.1, k (.va _) c _ W (Step.refl c) (show RV c.f _ _ from .str _) q.2⟩
  · cases rx with
    | tup r1 =>
      cases ry with
      | tup r2 => exact ⟨by rw [← r1.len, ← r2.len]; exact q.1, k (.va _) c _ W (Step.refl c) (show RV c.f _ _ from .tup (r1.app r2)) q.2⟩
  · obtain ⟨a, xs, rfl, h1, r1⟩ := rx
    obtain ⟨b, ys, rfl, h2, r2⟩ := ry
    refine ⟨xs, ys, h1, h2, by rw [← r1.len, ← r2.len]; exact q.1, fun p hp => ?_⟩
    obtain ⟨W2, s2, rr⟩ := new_rr (v := .lst _) (o := .lst (xs ++ ys)) W (Step.refl c) (r1.app r2) hp
    exact k _ _ _ W2 s2 rr q.2
def xSub : WOp
  | .int i, .int j, Q => Q (.va (.int (i - j)))
  | _, _, _ => False
theorem ov_sub : OpV aSub xSub := by
  intro c env ds x y dx dy Q R W rx ry q k
  cases x <;> cases y <;> try exact q.elim
  cases rx; cases ry; exact k (.va _) c _ W (Step.refl c) (show RV c.f _ _ from .int _) q
def xMul : WOp
  | .int i, .int j, Q => (CMul i j ∨ CMulW i j) ∧ Q (.va (.int (i * j)))
  | .tup l, .int k, Q => (-(2 ^ 62) ≤ k ∧ k < 2 ^ 62) ∧ l.length * k.toNat ≤ 1000000 ∧ Q (.va (.tup (List.replicate k.toNat l).flatten))
  | .lst l, .int k, Q => -(2 ^ 63) ≤ k ∧ k < 2 ^ 63 ∧ l.length * k.toNat ≤ sizeLine ∧ Q (.ow (.lst (List.replicate k.toNat l).flatten))
  | _, _, _ => False
theorem ov_mul : OpV aMul xMul := by
  intro c env ds x y dx dy Q R W rx ry q k
  cases x <;> cases y <;> try exact q.elim
  · cases rx; cases ry; exact ⟨q.1, k (.va _) c _ W (Step.refl c) (show RV c.f _ _ from .int _) q.2⟩
  · cases rx with
    | tup r1 =>
      cases ry
      exact ⟨q.1, by rw [← r1.len]; exact q.2.1, k (.va _) c _ W (Step.refl c) (show RV c.f _ _ from .tup (r1.rep _)) q.2.2⟩
  · obtain ⟨a, xs, rfl, h1, r1⟩ := rx
    cases ry
    refine ⟨xs, h1, q.1, q.2.1, by rw [← r1.len]; exact q.2.2.1, fun p hp => ?_⟩
    obtain ⟨W2, s2, rr⟩ := new_rr (v := .lst _) (o := .lst _) W (Step.refl c) (r1.rep _) hp
    exact k _ _ _ W2 s2 rr q.2.2.2
def xDiv : WOp
  | .int i, .int j, Q => (CDivN i j ∧ Q (.va (.int (i.fdiv j)))) ∨ (CDivW i j ∧ Q (.va (.int (i / j))))
  | _, _, _ => False
theorem ov_div : OpV aDiv xDiv := by
  intro c env ds x y dx dy Q R W rx ry q k
  cases x <;> cases y <;> try exact q.elim
  cases rx; cases ry
  rcases q with q | q
  · exact .inl ⟨q.1, k (.va _) c _ W (Step.refl c) (show RV c.f _ _ from .int _) q.2⟩
  · exact .inr ⟨q.1, k (.va _) c _ W (Step.refl c) (show RV c.f _ _ from .int _) q.2⟩
def xMod : WOp
  | .int i, .int j, Q => j ≠ 0 ∧ Q (.va (.int (i.fmod j)))
  | _, _, _ => False
theorem ov_mod : OpV aMod xMod := by
  intro c env ds x y dx dy Q R W rx ry q k
  cases x <;> cases y <;> try exact q.elim
  cases rx; cases ry; exact ⟨q.1, k (.va _) c _ W (Step.refl c) (show RV c.f _ _ from .int _) q.2⟩
def xPow : WOp
  | .int i, .int j, Q => CPow i j ∧ Q (.va (.int (i ^ j.toNat)))
  | _, _, _ => False
theorem ov_pow : OpV aPow xPow := by
  intro c env ds x y dx dy Q R W rx ry q k
  cases x <;> cases y <;> try exact q.elim
  cases rx; cases ry; exact ⟨q.1, k (.va _) c _ W (Step.refl c) (show RV c.f _ _ from .int _) q.2⟩
/-- how == may be asked -/
def xEq : WOp := fun x y Q => (∃ a b, x = .str a ∧ y = .str b ∧ Q (.va (.bl (decide (a = b))))) ∨ (noD x = true ∧ noD y = true ∧ SeqAt.shaped (ppv x) = true ∧ SeqAt.shaped (ppv y) = true ∧ Q (.va (.bl (PyData.eqv (ppv x) (ppv y))))) ∨ ∃ l, x = .tup l ∧ y = .tup [] ∧ Q (.va (.bl l.isEmpty))
def xNe : WOp := fun x y Q => xEq x y fun r => ∃ b, r = .va (.bl b) ∧ Q (.va (.bl (!b)))
theorem ov_eq : OpV aEq xEq := by
  intro c env ds x y dx dy Q R W rx ry q k
  rcases q with ⟨a, b, rfl, rfl, q⟩ | ⟨h1, h2, h3, h4, q⟩ | ⟨l, rfl, rfl, q⟩
  · cases rx; cases ry
    exact .inl ⟨_, _, rfl, rfl, k (.va _) c _ W (Step.refl c) (show RV c.f _ _ from .bl _) q⟩
  · exact .inr (.inl ⟨_, _, pdr_of W.sub rx h1, pdr_of W.sub ry h2, h3, h4, k (.va _) c _ W (Step.refl c) (show RV c.f _ _ from .bl _) q⟩)
  · cases rx with
    | tup r1 =>
      cases ry with
      | tup r2 =>
        cases r2
        refine .inr (.inr ⟨_, rfl, rfl, k (.va _) c _ W (Step.refl c) ?_ q⟩)
        cases r1 <;> exact .bl _
theorem ov_ne : OpV aNe xNe := by
  intro c env ds x y dx dy Q R W rx ry q k
  rcases q with ⟨a, b, rfl, rfl, b', e, q⟩ | ⟨h1, h2, h3, h4, b', e, q⟩ | ⟨l, rfl, rfl, b', e, q⟩
  · cases rx; cases ry; cases e
    exact .inl ⟨_, _, rfl, rfl, k (.va _) c _ W (Step.refl c) (show RV c.f _ _ from .bl _) q⟩
  · cases e
    exact .inr (.inl ⟨_, _, pdr_of W.sub rx h1, pdr_of W.sub ry h2, h3, h4, k (.va _) c _ W (Step.refl c) (show RV c.f _ _ from .bl _) q⟩)
  · cases e
    cases rx with
    | tup r1 =>
      cases ry with
      | tup r2 =>
        cases r2
        refine .inr (.inr ⟨_, rfl, rfl, k (.va _) c _ W (Step.refl c) ?_ q⟩)
        cases r1 <;> exact .bl _
def xCmp (f : PyData → PyData → Bool) (x y : PV) (Q : Rs → Prop) : Prop := noD x = true ∧ noD y = true ∧ PySem.W.alike (ppv x) (ppv y) = true ∧ ppv x ≠ .none ∧ (ppv x).depth ≤ 40 ∧ Q (.va (.bl (f (ppv x) (ppv y))))
theorem xcmp_of {c : C3} {f : PyData → PyData → Bool} {x y : PV} {dx dy : D} {Q : Rs → Prop} {R : DK} (g : Grow c.f c.m) (rx : RVr c x dx) (ry : RVr c y dy) (h : xCmp f x y Q) (k : ∀ b, Q (.va (.bl b)) → R (.bl b) c.m) : cmpD f dx dy c.m R := by
  obtain ⟨h1, h2, h3, h4, h5, h6⟩ := h
  exact ⟨_, _, pdr_of g rx h1, pdr_of g ry h2, h3, h4, h5, k _ h6⟩
def xLt : WOp
  | .int i, .int j, Q => Q (.va (.bl (decide (i < j))))
  | .tup a, .tup b, Q => xCmp (PySem.W.dataLt) (.tup a) (.tup b) Q
  | _, _, _ => False
theorem ov_lt : OpV aLt xLt := by
  intro c env ds x y dx dy Q R W rx ry q k
  cases x <;> cases y <;> try exact q.elim
  · cases rx; cases ry; exact k (.va _) c _ W (Step.refl c) (show RV c.f _ _ from .bl _) q
  · cases rx with
    | tup r1 =>
      cases ry with
      | tup r2 => exact xcmp_of (x := .tup _) (y := .tup _) W.sub (show RVr c (.tup _) _ from RV.tup r1) (show RVr c (.tup _) _ from RV.tup r2) q fun b q => k (.va (.bl b)) c _ W (Step.refl c) (show RV c.f _ _ from .bl _) q
def xLe : WOp
  | .int i, .int j, Q => Q (.va (.bl (decide (i ≤ j))))
  | .tup a, .tup b, Q => xCmp (fun p q => !PySem.W.dataLt q p) (.tup a) (.tup b) Q
  | _, _, _ => False
theorem ov_le : OpV aLe xLe := by
  intro c env ds x y dx dy Q R W rx ry q k
  cases x <;> cases y <;> try exact q.elim
  · cases rx; cases ry; exact k (.va _) c _ W (Step.refl c) (show RV c.f _ _ from .bl _) q
  · cases rx with
    | tup r1 =>
      cases ry with
      | tup r2 => exact xcmp_of (x := .tup _) (y := .tup _) W.sub (show RVr c (.tup _) _ from RV.tup r1) (show RVr c (.tup _) _ from RV.tup r2) q fun b q => k (.va (.bl b)) c _ W (Step.refl c) (show RV c.f _ _ from .bl _) q
def xGt : WOp
  | .int i, .int j, Q => Q (.va (.bl (decide (j < i))))
  | .tup a, .tup b, Q => xCmp (fun p q => PySem.W.dataLt q p) (.tup a) (.tup b) Q
  | _, _, _ => False
theorem ov_gt : OpV aGt xGt := by
  intro c env ds x y dx dy Q R W rx ry q k
  cases x <;> cases y <;> try exact q.elim
  · cases rx; cases ry; exact k (.va _) c _ W (Step.refl c) (show RV c.f _ _ from .bl _) q
  · cases rx with
    | tup r1 =>
      cases ry with
      | tup r2 => exact xcmp_of (x := .tup _) (y := .tup _) W.sub (show RVr c (.tup _) _ from RV.tup r1) (show RVr c (.tup _) _ from RV.tup r2) q fun b q => k (.va (.bl b)) c _ W (Step.refl c) (show RV c.f _ _ from .bl _) q
def xGe : WOp
  | .int i, .int j, Q => Q (.va (.bl (decide (j ≤ i))))
  | .tup a, .tup b, Q => xCmp (fun p q => !PySem.W.dataLt p q) (.tup a) (.tup b) Q
  | _, _, _ => False
theorem ov_ge : OpV aGe xGe := by
  intro c env ds x y dx dy Q R W rx ry q k
  cases x <;> cases y <;> try exact q.elim
  · cases rx; cases ry; exact k (.va _) c _ W (Step.refl c) (show RV c.f _ _ from .bl _) q
  · cases rx with
    | tup r1 =>
      cases ry with
      | tup r2 => exact xcmp_of (x := .tup _) (y := .tup _) W.sub (show RVr c (.tup _) _ from RV.tup r1) (show RVr c (.tup _) _ from RV.tup r2) q fun b q => k (.va (.bl b)) c _ W (Step.refl c) (show RV c.f _ _ from .bl _) q
def isNo : PV → Bool
  | .non => true
  | _ => false
theorem isNo_of {c : C3} {v : PV} {d : D} (r : RVr c v d) : isNon d = isNo v := by
  cases v with
  | lst l => obtain ⟨a, ds, rfl, _⟩ := r; rfl
  | dct l => obtain ⟨a, ds, rfl, _⟩ := r; rfl
  | xtp l => obtain ⟨a, ds, rfl, _⟩ := r; rfl
  | _ => cases r; rfl
def xIs : WOp := fun x y Q => y = .non ∧ Q (.va (.bl (isNo x)))
def xIsNot : WOp := fun x y Q => y = .non ∧ Q (.va (.bl (!isNo x)))
theorem ov_is : OpV aIs xIs := by
  intro c env ds x y dx dy Q R W rx ry q k
  obtain ⟨rfl, q⟩ := q
  cases ry
  exact ⟨rfl, k (.va _) c _ W (Step.refl c) (by rw [isNo_of rx]; exact .bl _) q⟩
theorem ov_isnot : OpV aIsNot xIsNot := by
  intro c env ds x y dx dy Q R W rx ry q k
  obtain ⟨rfl, q⟩ := q
  cases ry
  exact ⟨rfl, k (.va _) c _ W (Step.refl c) (by rw [isNo_of rx]; exact .bl _) q⟩
def keyP' : PV → Option Key
  | .int i => some (.inl i)
  | .str x => some (.inr x)
  | _ => none
theorem keyOf_of {c : C3} {v : PV} {d : D} {k : Key} (r : RVr c v d) (e : keyP' v = some k) : keyOf d = some k := by
  cases v <;> first | (cases e; done) | (cases r; exact e)
theorem RVk.look {f : MH} : ∀ {l : List (Key × PV)} {ks : List (Key × D)} (k : Key), RVk f l ks → (DL.look l k = none ∧ DL.look ks k = none) ∨ ∃ v d, DL.look l k = some v ∧ DL.look ks k = some d ∧ RV f v d
  | _, _, k, .nil => .inl ⟨rfl, rfl⟩
  | _, _, k, .cons (k := j) (v := v) (d := d) r t => by
    by_cases e : j = k
    · exact .inr ⟨v, d, by simp [DL.look, e], by simp [DL.look, e], r⟩
    · rcases RVk.look k t with ⟨h1, h2⟩ | ⟨v', d', h1, h2, h3⟩
      · exact .inl ⟨by simpa [DL.look, e] using h1, by simpa [DL.look, e] using h2⟩
      · exact .inr ⟨v', d', by simpa [DL.look, e] using h1, by simpa [DL.look, e] using h2, h3⟩
theorem RVk.any {f : MH} (k : Key) : ∀ {l : List (Key × PV)} {xs : List (Key × D)}, RVk f l xs → (l.any fun kv => decide (kv.1 = k)) = (xs.any fun kv => decide (kv.1 = k))
  | _, _, .nil => rfl
  | _, _, .cons r t => by rw [List.any_cons, List.any_cons, RVk.any k t]
theorem RVk.map_put {f : MH} {d : PV} {v : D} (r : RV f d v) (k : Key) : ∀ {l : List (Key × PV)} {xs : List (Key × D)}, RVk f l xs → RVk f (l.map fun kv => if kv.1 = k then (kv.1, d) else kv) (xs.map fun kv => if kv.1 = k then (kv.1, v) else kv)
  | _, _, .nil => .nil
  | _, _, .cons (k := j) q t => by
    rw [List.map_cons, List.map_cons]
    by_cases e : j = k
    · simp only [e, if_true]
      exact .cons r (RVk.map_put r k t)
    · simp only [e, if_false]
      exact .cons q (RVk.map_put r k t)
theorem RVk.app {f : MH} : ∀ {l l' : List (Key × PV)} {xs xs' : List (Key × D)}, RVk f l xs → RVk f l' xs' → RVk f (l ++ l') (xs ++ xs')
  | _, _, _, _, .nil, s => s
  | _, _, _, _, .cons r t, s => .cons r (RVk.app t s)
theorem RVk.put {f : MH} {l : List (Key × PV)} {xs : List (Key × D)} {d : PV} {v : D} (h : RVk f l xs) (k : Key) (r : RV f d v) : RVk f (stored l k d) (stored xs k v) := by
  unfold stored
  rw [h.any k]
  split
  · exact h.map_put r k
  · exact h.app (.cons r .nil)
theorem RVs.atI {f : MH} {l : List PV} {xs : List D} {i : Int} {v : PV} (r : RVs f l xs) (h : L2.atI l i = some v) : ∃ d, L2.atI xs i = some d ∧ RV f v d := by
  unfold L2.atI at h ⊢
  rw [← r.len]
  cases e : ixN l.length i with
  | none => rw [e] at h; cases h
  | some j =>
    rw [e] at h
    exact r.get h
def xIx : WOp
  | .tup l, .int i, Q => ∃ v, atI l i = some v ∧ Q (.va v)
  | .lst l, .int i, Q => ∃ v, atI l i = some v ∧ Q (.va v)
  | .str z, .int i, Q => z.length ≤ sizeLine ∧ ∃ c, atI z.cps.toList i = some c ∧ Q (.va (.str ⟨#[c]⟩))
  | .dct l, y, Q => ∃ k v, keyP' y = some k ∧ look l k = some v ∧ Q (.va v)
  | _, _, _ => False
theorem ov_ix : OpV aIxA xIx := by
  intro c env ds x y dx dy Q R W rx ry q k
  cases x with
  | tup l =>
    cases y <;> try exact q.elim
    obtain ⟨v, h, q⟩ := q
    cases rx with
    | tup r =>
      cases ry
      obtain ⟨d, h1, h2⟩ := r.atI h
      exact ⟨d, h1, k (.va _) c _ W (Step.refl c) h2 q⟩
  | lst l =>
    cases y <;> try exact q.elim
    obtain ⟨v, h, q⟩ := q
    obtain ⟨a, xs, rfl, h1, r⟩ := rx
    cases ry
    obtain ⟨d, h3, h4⟩ := r.atI h
    exact .inl ⟨_, _, d, rfl, h1, h3, k (.va _) c _ W (Step.refl c) h4 q⟩
  | str z =>
    cases y <;> try exact q.elim
    cases rx; cases ry
    obtain ⟨h1, c', h2, q⟩ := q
    exact ⟨h1, c', h2, k (.va _) c _ W (Step.refl c) (show RV c.f _ _ from .str _) q⟩
  | dct l =>
    obtain ⟨kk, v, h1, h2, q⟩ := q
    obtain ⟨a, ks, rfl, h3, r⟩ := rx
    rcases r.look kk with ⟨e, _⟩ | ⟨v', d, e1, e2, e3⟩
    · rw [h2] at e; cases e
    · rw [h2] at e1
      cases e1
      exact .inr ⟨d, .inl ⟨ks, kk, h3, keyOf_of ry h1, e2.symm⟩, k (.va _) c _ W (Step.refl c) e3 q⟩
  | non => exact q.elim
  | bl b => exact q.elim
  | int b => exact q.elim
  | xtp b => exact q.elim
def mem? (x y : PV) (b : Bool) : Prop := match y with
  | .lst l => noD x = true ∧ noDs l = true ∧ SeqAt.shaped (ppv x) = true ∧ SeqAt.shaped (.list (ppvs l)) = true ∧ b = (ppvs l).any fun z => PyData.eqv z (ppv x)
  | .tup l => noD x = true ∧ noDs l = true ∧ SeqAt.shaped (ppv x) = true ∧ SeqAt.shaped (.tuple (ppvs l)) = true ∧ b = (ppvs l).any fun z => PyData.eqv z (ppv x)
  | .dct l => ∃ k, keyP' x = some k ∧ b = (look l k).isSome
  | .str z => ∃ c : Nat, x = .str ⟨#[c]⟩ ∧ b = decide (c ∈ z.cps.toList)
  | _ => False
theorem mem_of {c : C3} {x y : PV} {dx dy : D} {b : Bool} (g : Grow c.f c.m) (rx : RVr c x dx) (ry : RVr c y dy) (h : mem? x y b) : memD dx dy c.m b := by
  cases y with
  | lst l =>
    obtain ⟨h1, h2, h3, h4, h5⟩ := h
    obtain ⟨a, ds, rfl, h6, h7⟩ := ry
    exact .inr (.inl ⟨_, _, pdr_of g rx h1, .lst h6 (pds_of g h7 h2), h3, h4, h5⟩)
  | tup l =>
    obtain ⟨h1, h2, h3, h4, h5⟩ := h
    cases ry with
    | tup r => exact .inr (.inr (.inl ⟨_, _, pdr_of g rx h1, .tup (pds_of g r h2), h3, h4, h5⟩))
  | dct l =>
    obtain ⟨k, h1, h2⟩ := h
    obtain ⟨a, ks, rfl, h6, h7⟩ := ry
    refine .inl ⟨a, look ks k, rfl, .inl ⟨ks, k, h6, keyOf_of rx h1, rfl⟩, ?_⟩
    rw [h2]
    rcases h7.look k with ⟨e, e'⟩ | ⟨v', d, e1, e2, e3⟩
    · rw [e, e']; rfl
    · rw [e1, e2]; rfl
  | str z =>
    obtain ⟨cc, rfl, h2⟩ := h
    cases rx; cases ry
    exact .inr (.inr (.inr ⟨cc, z, rfl, rfl, h2⟩))
  | non => exact h.elim
  | bl b => exact h.elim
  | int b => exact h.elim
  | xtp b => exact h.elim
def xIn : WOp := fun x y Q => ∃ b, mem? x y b ∧ Q (.va (.bl b))
def xNotIn : WOp := fun x y Q => ∃ b, mem? x y b ∧ Q (.va (.bl (!b)))
theorem ov_in : OpV aIn xIn := by
  intro c env ds x y dx dy Q R W rx ry q k
  obtain ⟨b, h, q⟩ := q
  exact ⟨b, mem_of W.sub rx ry h, k (.va _) c _ W (Step.refl c) (show RV c.f _ _ from .bl _) q⟩
theorem ov_notin : OpV aNotIn xNotIn := by
  intro c env ds x y dx dy Q R W rx ry q k
  obtain ⟨b, h, q⟩ := q
  exact ⟨b, mem_of W.sub rx ry h, k (.va _) c _ W (Step.refl c) (show RV c.f _ _ from .bl _) q⟩
/-! ### slices -/
def vNo : WO := fun env Q => Q none env
def vPart (f : WE) : WO := fun env Q => f env fun x env1 => ∃ i, x = .va (.int i) ∧ Q (some i) env1
theorem oj_none : OJ vNo dNo := fun c env ds Q R W q k => k _ _ c W (Step.refl c) q
theorem oj_part {f : WE} {t : DE} (h : VJ f t) : OJ (vPart f) (dPart t) := by
  intro c env ds Q R W q k
  refine h c env ds _ _ W q fun x env1 c1 dx W1 s1 rx q1 => ?_
  obtain ⟨i, rfl, q1⟩ := q1
  cases rx
  exact ⟨i, rfl, k _ env1 c1 W1 s1 q1⟩
def xSl (x : PV) (lo hi : Option Int) (Q : Rs → Prop) : Prop := match x with
  | .tup l => Q (.va (.tup (cutD l lo hi)))
  | .lst l => Q (.ow (.lst (cutD l lo hi)))
  | _ => False
def vSl (f : WE) (g h : WO) : WE := fun env Q => f env fun x env1 => g env1 fun lo env2 => h env2 fun hi env3 => SameR x env1 env3 ∧ xSl x.v lo hi fun z => Q z env3
theorem vj_sl {f : WE} {g h : WO} {tf : DE} {tg th : DO} (hf : VJ f tf) (hg : OJ g tg) (hh : OJ h th) : VJ (vSl f g h) (dSl tf tg th) := by
  intro c env ds Q R W q k
  refine hf c env ds _ _ W q fun x env1 c1 dx W1 s1 rx q1 => hg c1 env1 ds _ _ W1 q1 fun lo env2 c2 W2 s2 q2 => hh c2 env2 ds _ _ W2 q2 fun hi env3 c3 W3 s3 q3 => ?_
  obtain ⟨sm, q3⟩ := q3
  have rx3 := (rx.step (s2.trans s3) sm).read W3
  have s03 := (s1.trans s2).trans s3
  unfold xSl at q3
  generalize hx : x.v = v at q3 rx3
  cases v <;> try exact q3.elim
  · cases rx3 with
    | tup r => exact k (.va _) env3 c3 _ W3 s03 (show RV c3.f _ _ from .tup (r.cut lo hi)) q3
  · obtain ⟨a, xs, rfl, h1, r⟩ := rx3
    refine ⟨xs, h1, fun p hp => ?_⟩
    obtain ⟨W4, s4, rr⟩ := new_rr (v := .lst _) (o := .lst _) W3 s03 (r.cut lo hi) hp
    exact k _ env3 _ _ W4 s4 rr q3
def vRev (f : WE) : WE := fun env Q => f env fun x env1 => match x.v with
  | .tup l => Q (.va (.tup l.reverse)) env1
  | .lst l => Q (.ow (.lst l.reverse)) env1
  | _ => False
theorem vj_rev {f : WE} {t : DE} (h : VJ f t) : VJ (vRev f) (dRev t) := by
  intro c env ds Q R W q k
  refine h c env ds _ _ W q fun x env1 c1 dx W1 s1 rx q1 => ?_
  have rx := rx.read W1
  generalize x.v = v at q1 rx
  cases v <;> try exact q1.elim
  · cases rx with
    | tup r => exact k (.va _) env1 c1 _ W1 s1 (show RV c1.f _ _ from .tup r.reverse) q1
  · obtain ⟨a, xs, rfl, h1, r⟩ := rx
    refine ⟨xs, h1, fun p hp => ?_⟩
    obtain ⟨W4, s4, rr⟩ := new_rr (v := .lst _) (o := .lst _) W1 s1 r.reverse hp
    exact k _ env1 _ _ W4 s4 rr q1
/-! ### built-ins of one, of two -/
abbrev WB := PV → (Rs → Prop) → Prop
def B1V (r : DCl) (w : WB) : Prop := ∀ c env ds x dx Q R, VS c env ds → RVr c x dx → w x Q → (∀ z c' d, VS c' env ds → Step c c' → RR c c' env ds z d → Q z → R d c'.m) → r [dx] c.m R
def B2V (r : DCl) (w : WOp) : Prop := ∀ c env ds x y dx dy Q R, VS c env ds → RVr c x dx → RVr c y dy → w x y Q → (∀ z c' d, VS c' env ds → Step c c' → RR c c' env ds z d → Q z → R d c'.m) → r [dx, dy] c.m R
def vB1 (w : WB) (f : WE) : WE := fun env Q => f env fun x env1 => w x.v fun z => Q z env1
theorem vj_b1 {r : DCl} {w : WB} {f : WE} {t : DE} (h : B1V r w) (hf : VJ f t) : VJ (vB1 w f) (dB1 r (dCons t dNil)) := by
  intro c env ds Q R W q k
  refine hf c env ds _ _ W q fun x env1 c1 dx W1 s1 rx q1 => ?_
  refine h c1 env1 ds _ _ _ _ W1 (rx.read W1) q1 fun z c2 d W2 s2 rz qz => ?_
  exact k z env1 c2 d W2 (s1.trans s2) (rz.back s1) qz
theorem vj_b2 {r : DCl} {w : WOp} {f g : WE} {tf tg : DE} (h : B2V r w) (ha : VJ f tf) (hb : VJ g tg) : VJ (vOp w f g) (dB1 r (dCons tf (dCons tg dNil))) := by
  intro c env ds Q R W q k
  refine ha c env ds _ _ W q fun x env1 c1 dx W1 s1 rx q1 => hb c1 env1 ds _ _ W1 q1 fun y env2 c2 dy W2 s2 ry q2 => ?_
  obtain ⟨sm, q2⟩ := q2
  have rx2 := rx.step s2 sm
  refine h c2 env2 ds _ _ _ _ _ _ W2 (rx2.read W2) (ry.read W2) q2 fun z c3 d W3 s3 rz qz => ?_
  exact k z env2 c3 d W3 ((s1.trans s2).trans s3) (rz.back (s1.trans s2)) qz
def xLen : WB
  | .tup l, Q => Q (.va (.int l.length))
  | .lst l, Q => Q (.va (.int l.length))
  | .str z, Q => z.length ≤ sizeLine ∧ Q (.va (.int z.length))
  | _, _ => False
theorem bv_len : B1V bLen xLen := by
  intro c env ds x dx Q R W rx q k
  cases x <;> try exact q.elim
  · cases rx; exact ⟨q.1, k (.va _) c _ W (Step.refl c) (show RV c.f _ _ from .int _) q.2⟩
  · cases rx with
    | tup r => exact k (.va _) c _ W (Step.refl c) (by rw [← r.len]; exact .int _) q
  · obtain ⟨a, xs, rfl, h1, r⟩ := rx
    exact ⟨xs, h1, k (.va _) c _ W (Step.refl c) (by rw [← r.len]; exact .int _) q⟩
def xAbs : WB
  | .int i, Q => Q (.va (.int (if i < 0 then -i else i)))
  | _, _ => False
theorem bv_abs : B1V bAbs xAbs := by
  intro c env ds x dx Q R W rx q k
  cases x <;> try exact q.elim
  cases rx; exact k (.va _) c _ W (Step.refl c) (show RV c.f _ _ from .int _) q
def xList : WB
  | .tup l, Q => Q (.ow (.lst l))
  | .lst l, Q => Q (.ow (.lst l))
  | _, _ => False
theorem bv_list : B1V bList xList := by
  intro c env ds x dx Q R W rx q k
  cases x <;> try exact q.elim
  · cases rx with
    | tup r =>
      intro p hp
      obtain ⟨W4, s4, rr⟩ := new_rr (v := .lst _) (o := .lst _) W (Step.refl c) r hp
      exact k _ _ _ W4 s4 rr q
  · obtain ⟨a, xs, rfl, h1, r⟩ := rx
    refine ⟨xs, h1, fun p hp => ?_⟩
    obtain ⟨W4, s4, rr⟩ := new_rr (v := .lst _) (o := .lst _) W (Step.refl c) r hp
    exact k _ _ _ W4 s4 rr q
def xTuple : WB
  | .tup l, Q => Q (.va (.tup l))
  | .lst l, Q => Q (.va (.tup l))
  | _, _ => False
theorem bv_tuple : B1V bTuple xTuple := by
  intro c env ds x dx Q R W rx q k
  cases x <;> try exact q.elim
  · cases rx with
    | tup r => exact k (.va _) c _ W (Step.refl c) (show RV c.f _ _ from .tup r) q
  · obtain ⟨a, xs, rfl, h1, r⟩ := rx
    exact ⟨xs, h1, k (.va _) c _ W (Step.refl c) (show RV c.f _ _ from .tup r) q⟩
def xSum : WB
  | .lst l, Q => ∃ ns : List Int, l = ns.map .int ∧ Q (.va (.int ns.sum))
  | _, _ => False
theorem bv_sum : B1V bSum xSum := by
  intro c env ds x dx Q R W rx q k
  cases x <;> try exact q.elim
  obtain ⟨ns, rfl, q⟩ := q
  obtain ⟨a, xs, rfl, h1, r⟩ := rx
  rw [rvs_ints r] at h1
  exact ⟨a, ns, rfl, h1, k (.va _) c _ W (Step.refl c) (show RV c.f _ _ from .int _) q⟩
def xAll : WB
  | .lst l, Q => ∃ bs : List Bool, l = bs.map .bl ∧ Q (.va (.bl (bs.all id)))
  | _, _ => False
theorem bv_all : B1V bAll xAll := by
  intro c env ds x dx Q R W rx q k
  cases x <;> try exact q.elim
  obtain ⟨ns, rfl, q⟩ := q
  obtain ⟨a, xs, rfl, h1, r⟩ := rx
  rw [rvs_bls r] at h1
  exact ⟨a, ns, rfl, h1, k (.va _) c _ W (Step.refl c) (show RV c.f _ _ from .bl _) q⟩
def xAny : WB
  | .lst l, Q => ∃ bs : List Bool, l = bs.map .bl ∧ Q (.va (.bl (bs.any id)))
  | _, _ => False
theorem bv_any : B1V bAny xAny := by
  intro c env ds x dx Q R W rx q k
  cases x <;> try exact q.elim
  obtain ⟨ns, rfl, q⟩ := q
  obtain ⟨a, xs, rfl, h1, r⟩ := rx
  rw [rvs_bls r] at h1
  exact ⟨a, ns, rfl, h1, k (.va _) c _ W (Step.refl c) (show RV c.f _ _ from .bl _) q⟩
def xMin1 : WB
  | .lst l, Q => ∃ ns : List Int, l = ns.map .int ∧ 0 < ns.length ∧ ∀ k, k ∈ ns → (∀ y, y ∈ ns → k ≤ y) → Q (.va (.int k))
  | _, _ => False
theorem bv_min1 : B1V bMin xMin1 := by
  intro c env ds x dx Q R W rx q k
  cases x <;> try exact q.elim
  obtain ⟨ns, rfl, hn, q⟩ := q
  obtain ⟨a, xs, rfl, h1, r⟩ := rx
  rw [rvs_ints r] at h1
  exact ⟨ns, h1, hn, fun y hy hl => k (.va _) c _ W (Step.refl c) (show RV c.f _ _ from .int _) (q y hy hl)⟩
def xMax1 : WB
  | .lst l, Q => ∃ ns : List Int, l = ns.map .int ∧ 0 < ns.length ∧ ∀ k, k ∈ ns → (∀ y, y ∈ ns → y ≤ k) → Q (.va (.int k))
  | _, _ => False
theorem bv_max1 : B1V bMax xMax1 := by
  intro c env ds x dx Q R W rx q k
  cases x <;> try exact q.elim
  obtain ⟨ns, rfl, hn, q⟩ := q
  obtain ⟨a, xs, rfl, h1, r⟩ := rx
  rw [rvs_ints r] at h1
  exact ⟨ns, h1, hn, fun y hy hl => k (.va _) c _ W (Step.refl c) (show RV c.f _ _ from .int _) (q y hy hl)⟩
def xMin2 : WOp
  | .int i, .int j, Q => Q (.va (.int (if j < i then j else i)))
  | _, _, _ => False
theorem bv_min2 : B2V bMin xMin2 := by
  intro c env ds x y dx dy Q R W rx ry q k
  cases x <;> cases y <;> try exact q.elim
  cases rx; cases ry; exact k (.va _) c _ W (Step.refl c) (show RV c.f _ _ from .int _) q
def xMax2 : WOp
  | .int i, .int j, Q => Q (.va (.int (if j > i then j else i)))
  | _, _, _ => False
theorem bv_max2 : B2V bMax xMax2 := by
  intro c env ds x y dx dy Q R W rx ry q k
  cases x <;> cases y <;> try exact q.elim
  cases rx; cases ry; exact k (.va _) c _ W (Step.refl c) (show RV c.f _ _ from .int _) q
def xRepr : WB := fun v Q => lfD v = true ∧ (ppv v).showable = true ∧ (ppv v).depth ≤ 40 ∧ (ppv v).shown.length ≤ sizeLine ∧ Q (.va (.str (ppv v).shown))
theorem bv_repr : B1V bRepr xRepr := by
  intro c env ds x dx Q R W rx q k
  obtain ⟨h1, h2, h3, h4, q⟩ := q
  exact ⟨_, _, rfl, .inr (pxr_of W.sub rx h1), h2, h3, h4, k (.va _) c _ W (Step.refl c) (show RV c.f _ _ from .str _) q⟩
/-- min of data that is alike -/
def xMinT1 : WB
  | .lst l, Q => ∃ (β : Type) (b0 : β) (bs : List β) (dec : β → PV), l = (b0 :: bs).map dec ∧ noDs l = true ∧ PySem.W.AlikeAll (ppvs l) ∧ PyData.depthAll (ppvs l) ≤ 40 ∧
      ∀ b ∈ b0 :: bs, ppv (dec b) = PySem.W.minD (ppv (dec b0)) (bs.map fun b => ppv (dec b)) → Q (.va (dec b))
  | _, _ => False
theorem ppvs_map {β : Type} (dec : β → PV) : ∀ bs : List β, ppvs (bs.map dec) = bs.map fun b => ppv (dec b)
  | [] => by rw [List.map_nil, ppvs]; rfl
  | b :: bs => by rw [List.map_cons, ppvs, ppvs_map dec bs]; rfl
theorem noDs_mem : ∀ {l : List PV} {v : PV}, noDs l = true → v ∈ l → noD v = true
  | x :: l, v, h, e => by
    rw [noDs, Bool.and_eq_true] at h
    rcases List.mem_cons.mp e with e | e
    · rw [e]; exact h.1
    · exact noDs_mem h.2 e
def xMinT2 : WOp := fun x y Q => noD x = true ∧ noD y = true ∧ PySem.W.AlikeAll [ppv x, ppv y] ∧ PyData.depthAll [ppv x, ppv y] ≤ 40 ∧ (isTupV x = true ∧ isTupV y = true) ∧ Q (.va (if PySem.W.dataLt (ppv y) (ppv x) = true then y else x))
where isTupV : PV → Bool
  | .tup _ => true
  | _ => false
theorem bv_minT2 : B2V bMinT xMinT2 := by
  intro c env ds x y dx dy Q R W rx ry q k
  obtain ⟨h1, h2, h3, h4, ⟨h5, h6⟩, q⟩ := q
  have tv : ∀ {v d}, xMinT2.isTupV v = true → RVr c v d → RV c.f v d := by
    intro v d h r
    cases v <;> first | (cases h; done) | exact r
  refine .inl ⟨_, _, _, _, rfl, pdr_of W.sub rx h1, pdr_of W.sub ry h2, h3, h4, ?_⟩
  by_cases e : PySem.W.dataLt (ppv y) (ppv x) = true
  · rw [if_pos e] at q ⊢
    exact k (.va _) c _ W (Step.refl c) (tv h6 ry) q
  · rw [if_neg e] at q ⊢
    exact k (.va _) c _ W (Step.refl c) (tv h5 rx) q
/-! ### isinstance -/
def tyP : PV → String
  | .non => "NoneType"
  | .bl _ => "bool"
  | .int _ => "int"
  | .str _ => "str"
  | .tup _ => "tuple"
  | .lst _ => "list"
  | .dct _ => "dict"
  | .xtp _ => "tuple"
theorem tyP_of {c : C3} {v : PV} {d : D} (r : RVr c v d) : tyD c.m d = some (tyP v) := by
  cases v with
  | lst l => obtain ⟨a, ds, rfl, h, _⟩ := r; simp [tyD, h, tyP]
  | dct l => obtain ⟨a, ds, rfl, h, _⟩ := r; simp [tyD, h, tyP]
  | xtp l => obtain ⟨a, ds, rfl, h, _⟩ := r; simp [tyD, h, tyP]
  | _ => cases r; rfl
def isInt : PV → Bool
  | .int _ => true
  | .bl _ => true
  | _ => false
def isBool : PV → Bool
  | .bl _ => true
  | _ => false
def isStrV : PV → Bool
  | .str _ => true
  | _ => false
def isTupP : PV → Bool
  | .tup _ => true
  | .xtp _ => true
  | _ => false
def isLstP : PV → Bool
  | .lst _ => true
  | _ => false
def IsT (T : String) (f : PV → Bool) : Prop := ∀ v, kitB (tyP v) T = some (f v)
theorem isT_int : IsT "int" isInt := fun v => by cases v <;> exact kit_int _ (by simp [tyP, kinds])
theorem isT_bool : IsT "bool" isBool := fun v => by cases v <;> exact kit_bool _ (by simp [tyP, kinds])
theorem isT_str : IsT "str" isStrV := fun v => by cases v <;> exact kit_str _ (by simp [tyP, kinds])
theorem isT_tuple : IsT "tuple" isTupP := fun v => by cases v <;> exact kit_tuple _ (by simp [tyP, kinds])
theorem isT_list : IsT "list" isLstP := fun v => by cases v <;> exact kit_list _ (by simp [tyP, kinds])
def vIsi (f : PV → Bool) (e : WE) : WE := fun env Q => e env fun x env1 => Q (.va (.bl (f x.v))) env1
theorem vj_isi {T : String} {f : PV → Bool} {e : WE} {t : DE} (h : IsT T f) (he : VJ e t) : VJ (vIsi f e) (dIsi T t) := by
  intro c env ds Q R W q k
  refine he c env ds _ _ W q fun x env1 c1 dx W1 s1 rx q1 => ?_
  exact ⟨_, _, tyP_of (rx.read W1), h _, k (.va _) env1 c1 _ W1 s1 (show RV c1.f _ _ from .bl _) q1⟩
end DL
/-! VL: what is walked, targets, comprehensions, calls, statements. -/
namespace DL
open PySem PySem.Spec PyProof.Rows L2
/-! ### what is walked -/
abbrev WI := Ev → (List PV → Ev → Prop) → Prop
def IJ (w : WI) (t : DI) : Prop := ∀ c env ds Q R, VS c env ds → w env Q → (∀ chk items l env' c', VS c' env' ds → Step c c' → (∀ m2, Grow c'.f m2 → chk m2) → RVs c'.f l items → Q l env' → R chk items c'.m) → t ds c.m R
def signsP (z : Str) : List PV := z.cps.toList.map fun c => .str ⟨#[c]⟩
theorem rvs_map {α : Type} {f : MH} (g : α → PV) (h : α → D) (k : ∀ x, RV f (g x) (h x)) : ∀ l : List α, RVs f (l.map g) (l.map h)
  | [] => .nil
  | x :: l => .cons (k x) (rvs_map g h k l)
def vAnyI (e : WF) : WI := fun env Q => e env fun v env1 => match v with
  | .tup l => Q l env1
  | .lst l => Q l env1
  | .str z => Q (signsP z) env1
  | _ => False
theorem wj_any {e : WF} {t : DE} (h : FJ e t) : IJ (vAnyI e) (iAny t) := by
  intro c env ds Q R W q k
  refine h c env ds _ _ W q fun v env1 c1 d W1 s1 rv q1 => ?_
  cases rv with
  | tup r => exact k _ _ _ env1 c1 W1 s1 (fun _ _ => trivial) r q1
  | lst e r => exact ⟨_, W1.sub _ _ e, k _ _ _ env1 c1 W1 s1 (fun m2 g => g _ _ e) r q1⟩
  | str z => exact k _ _ _ env1 c1 W1 s1 (fun _ _ => trivial) (rvs_map _ _ (fun c => .str _) _) q1
  | non => exact q1.elim
  | bl b => exact q1.elim
  | int b => exact q1.elim
  | dct _ _ => exact q1.elim
  | xtp _ _ => exact q1.elim
def rangeP (lo : Int) (n : Nat) : List PV := (List.range n).map fun i => .int (lo + (i : Nat))
def rangePn (hi : Int) (n : Nat) : List PV := (List.range n).map fun i => .int (hi - (i : Nat))
def vR1 (a : WA) : WI := fun env Q => a env fun l env1 => ∃ j : Int, l = [.int j] ∧ (-(2 ^ 62) ≤ j ∧ j < 2 ^ 62) ∧ Q (rangeP 0 j.toNat) env1
def vR2 (a : WA) : WI := fun env Q => a env fun l env1 => ∃ i j : Int, l = [.int i, .int j] ∧ (-(2 ^ 62) ≤ i ∧ i < 2 ^ 62 ∧ -(2 ^ 62) ≤ j ∧ j < 2 ^ 62) ∧ Q (rangeP i (j - i).toNat) env1
def vR3 (a : WA) : WI := fun env Q => a env fun l env1 => ∃ i j : Int, l = [.int i, .int j, .int (-1)] ∧ (-(2 ^ 62) ≤ i ∧ i < 2 ^ 62 ∧ -(2 ^ 62) ≤ j ∧ j < 2 ^ 62) ∧ Q (rangePn i (i - j).toNat) env1
section
variable {a : WA} {t : DA}
theorem wj_r1 (h : AJ a t) : IJ (vR1 a) (iR1 t) := by
  intro c env ds Q R W q k
  refine h c env ds _ _ W q fun l env1 c1 dl W1 s1 rl q1 => ?_
  obtain ⟨j, rfl, hj, q1⟩ := q1
  cases rl with
  | cons r1 rr =>
    cases r1; cases rr
    exact ⟨j, rfl, hj.1, hj.2, k _ _ _ env1 c1 W1 s1 (fun _ _ => trivial) (rvs_map _ _ (fun c => .int _) _) q1⟩
theorem wj_r2 (h : AJ a t) : IJ (vR2 a) (iR2 t) := by
  intro c env ds Q R W q k
  refine h c env ds _ _ W q fun l env1 c1 dl W1 s1 rl q1 => ?_
  obtain ⟨i, j, rfl, hj, q1⟩ := q1
  cases rl with
  | cons r1 rr =>
    cases rr with
    | cons r2 rr =>
      cases r1; cases r2; cases rr
      exact ⟨i, j, rfl, hj, k _ _ _ env1 c1 W1 s1 (fun _ _ => trivial) (rvs_map _ _ (fun c => .int _) _) q1⟩
theorem wj_r3 (h : AJ a t) : IJ (vR3 a) (iR3 t) := by
  intro c env ds Q R W q k
  refine h c env ds _ _ W q fun l env1 c1 dl W1 s1 rl q1 => ?_
  obtain ⟨i, j, rfl, hj, q1⟩ := q1
  cases rl with
  | cons r1 rr =>
    cases rr with
    | cons r2 rr =>
      cases rr with
      | cons r3 rr =>
        cases r1; cases r2; cases r3; cases rr
        exact ⟨i, j, rfl, hj, k _ _ _ env1 c1 W1 s1 (fun _ _ => trivial) (rvs_map _ _ (fun c => .int _) _) q1⟩
end
def enumP (k : Nat) : List PV → List PV
  | [] => []
  | x :: l => .tup [.int (k : Nat), x] :: enumP (k + 1) l
theorem rvs_enum {f : MH} : ∀ {l : List PV} {ds : List D} (k : Nat), RVs f l ds → RVs f (enumP k l) (enumD k ds)
  | _, _, _, .nil => .nil
  | _, _, k, .cons r t => .cons (.tup (.cons (.int _) (.cons r .nil))) (rvs_enum (k + 1) t)
def zipP : List PV → List PV → List PV
  | x :: l, y :: r => .tup [x, y] :: zipP l r
  | _, _ => []
theorem rvs_zip {f : MH} : ∀ {l r : List PV} {ds es : List D}, RVs f l ds → RVs f r es → RVs f (zipP l r) (zipD ds es)
  | _, _, _, _, .nil, _ => by rw [zipP, zipD] <;> first | exact .nil | (intros; simp_all)
  | _, _, _, _, .cons _ _, .nil => by rw [zipP, zipD] <;> first | exact .nil | (intros; simp_all)
  | _, _, _, _, .cons r t, .cons r2 t2 => by
    rw [zipP, zipD]
    exact .cons (.tup (.cons r (.cons r2 .nil))) (rvs_zip t t2)
def vEnum (a : WA) : WI := fun env Q => a env fun l env1 => match l with
  | [.tup xs] => Q (enumP 0 xs) env1
  | [.lst xs] => Q (enumP 0 xs) env1
  | _ => False
def vZip2 (a : WA) : WI := fun env Q => a env fun l env1 => match l with
  | [.tup xs, .tup ys] => Q (zipP xs ys) env1
  | [.lst xs, .lst ys] => Q (zipP xs ys) env1
  | _ => False
theorem wj_enum {a : WA} {t : DA} (h : AJ a t) : IJ (vEnum a) (DL.iEnum t) := by
  intro c env ds Q R W q k
  refine h c env ds _ _ W q fun l env1 c1 dl W1 s1 rl q1 => ?_
  cases rl with
  | nil => exact q1.elim
  | cons r1 rr =>
    cases rr with
    | cons _ _ => cases r1 <;> exact q1.elim
    | nil =>
      cases r1 with
      | tup r => exact k _ _ _ env1 c1 W1 s1 (fun _ _ => trivial) (rvs_enum 0 r) q1
      | lst e r => exact ⟨_, W1.sub _ _ e, k _ _ _ env1 c1 W1 s1 (fun m2 g => g _ _ e) (rvs_enum 0 r) q1⟩
      | _ => exact q1.elim
theorem wj_zip2 {a : WA} {t : DA} (h : AJ a t) : IJ (vZip2 a) (iZip2 t) := by
  intro c env ds Q R W q k
  refine h c env ds _ _ W q fun l env1 c1 dl W1 s1 rl q1 => ?_
  cases rl with
  | nil => exact q1.elim
  | cons r1 rr =>
    cases rr with
    | nil => cases r1 <;> exact q1.elim
    | cons r2 rr =>
      cases rr with
      | cons _ _ => cases r1 <;> cases r2 <;> exact q1.elim
      | nil =>
        cases r1 with
        | tup r =>
          cases r2 with
          | tup r2 => exact k _ _ _ env1 c1 W1 s1 (fun _ _ => trivial) (rvs_zip r r2) q1
          | _ => exact q1.elim
        | lst e r =>
          cases r2 with
          | lst e2 r2 => exact ⟨_, _, W1.sub _ _ e, W1.sub _ _ e2, k _ _ _ env1 c1 W1 s1 (fun m2 g => ⟨g _ _ e, g _ _ e2⟩) (rvs_zip r r2) q1⟩
          | _ => exact q1.elim
        | _ => exact q1.elim
/-! ### targets -/
abbrev WG := PV → Ev → (Ev → Prop) → Prop
abbrev WGs := List PV → Ev → (Ev → Prop) → Prop
def GJ (vs : List Nat) (w : WG) (t : DG) : Prop := ∀ c env ds v d Q R, VS c env ds → RV c.f v d → w v env Q → (∀ env' ds' c', VS c' env' ds' → Step c c' → c'.m = c.m → (ds'.length = ds.length ∧ ∀ i : Nat, i ∉ vs → ds'[i]? = ds[i]?) → Q env' → R ds' c'.m) → t d ds c.m R
def GJs (vs : List Nat) (w : WGs) (t : DGs) : Prop := ∀ c env ds v d Q R, VS c env ds → RVs c.f v d → w v env Q → (∀ env' ds' c', VS c' env' ds' → Step c c' → c'.m = c.m → (ds'.length = ds.length ∧ ∀ i : Nat, i ∉ vs → ds'[i]? = ds[i]?) → Q env' → R ds' c'.m) → t d ds c.m R
def vG (i : Nat) : WG := fun v env Q => Q (env.set i (.va v))
theorem gj_n {vs : List Nat} (i : Nat) (h : i ∈ vs) : GJ vs (vG i) (gN i) := by
  intro c env ds v d Q R W r q k
  exact k _ _ { c with O := fun j a => if j = i then False else c.O j a } (W.set_va (i := i) r) (Step.set_va (Step.refl c)) rfl ⟨List.length_set, fun j hj => List.getElem?_set_ne (fun e : i = j => hj (e ▸ h))⟩ q
def vGnil : WGs := fun l env Q => l = [] ∧ Q env
def vGcons (g : WG) (gs : WGs) : WGs := fun l env Q => ∃ x r, l = x :: r ∧ g x env fun env1 => gs r env1 Q
theorem gjs_nil {vs : List Nat} : GJs vs vGnil gsNil := by
  intro c env ds v d Q R W r q k
  obtain ⟨rfl, q⟩ := q
  cases r
  exact ⟨rfl, k _ _ c W (Step.refl c) rfl ⟨rfl, fun _ _ => rfl⟩ q⟩
theorem gjs_cons {vs : List Nat} {g : WG} {gs : WGs} {tg : DG} {ts : DGs} (h : GJ vs g tg) (hs : GJs vs gs ts) : GJs vs (vGcons g gs) (gsCons tg ts) := by
  intro c env ds v d Q R W r q k
  obtain ⟨x, l, rfl, q⟩ := q
  cases r with
  | cons r1 rr =>
    refine ⟨_, _, rfl, h c env ds x _ _ _ W r1 q fun env1 ds1 c1 W1 s1 e1 n1 q1 => ?_⟩
    refine hs c1 env1 ds1 _ _ _ _ W1 (rr.grow s1.mono) q1 fun env2 ds2 c2 W2 s2 e2 n2 q2 => ?_
    exact k env2 ds2 c2 W2 (s1.trans s2) (e2.trans e1) ⟨n2.1.trans n1.1, fun i hi => (n2.2 i hi).trans (n1.2 i hi)⟩ q2
def vGT (n : Nat) (gs : WGs) : WG := fun v env Q => ∃ l, v = .tup l ∧ l.length = n ∧ gs l env Q
def vGL (n : Nat) (gs : WGs) : WG := fun v env Q => ∃ l, v = .lst l ∧ l.length = n ∧ gs l env Q
theorem gj_t {vs : List Nat} {n : Nat} {gs : WGs} {ts : DGs} (h : GJs vs gs ts) : GJ vs (vGT n gs) (gT n ts) := by
  intro c env ds v d Q R W r q k
  obtain ⟨l, rfl, hl, q⟩ := q
  cases r with
  | tup r => exact ⟨_, rfl, by rw [← r.len]; exact hl, h c env ds _ _ _ _ W r q k⟩
theorem gj_l {vs : List Nat} {n : Nat} {gs : WGs} {ts : DGs} (h : GJs vs gs ts) : GJ vs (vGL n gs) (gL n ts) := by
  intro c env ds v d Q R W r q k
  obtain ⟨l, rfl, hl, q⟩ := q
  cases r with
  | lst e r => exact ⟨_, _, rfl, W.sub _ _ e, by rw [← r.len]; exact hl, h c env ds _ _ _ _ W r q k⟩
/-! ### comprehensions -/
def wipeP (env : Ev) : List Nat → Ev
  | [] => env
  | v :: vs => (wipeP env vs).set v .no
theorem wipe_get : ∀ (vs : List Nat) (env : Ev) (i : Nat), (wipeP env vs)[i]? = if i ∈ vs then (env[i]?).map (fun _ => Sl.no) else env[i]?
  | [], env, i => by simp [wipeP]
  | v :: vs, env, i => by
    have hl : ∀ vs : List Nat, (wipeP env vs).length = env.length := by
      intro vs
      induction vs with
      | nil => rfl
      | cons v vs ih => rw [wipeP, List.length_set, ih]
    rw [wipeP]
    by_cases e : i = v
    · subst e
      rw [if_pos List.mem_cons_self]
      by_cases hi : i < env.length
      · rw [List.getElem?_set_self (by rw [hl]; exact hi), List.getElem?_eq_getElem hi]
        rfl
      · rw [List.getElem?_eq_none (by rw [List.length_set, hl]; omega), List.getElem?_eq_none (by omega)]
        rfl
    · rw [List.getElem?_set_ne (fun z => e z.symm), wipe_get vs env i]
      by_cases h : i ∈ vs
      · rw [if_pos h, if_pos (List.mem_cons_of_mem _ h)]
      · rw [if_neg h, if_neg (by simp [e, h])]
theorem wipe_len : ∀ (vs : List Nat) (env : Ev), (wipeP env vs).length = env.length
  | [], _ => rfl
  | v :: vs, env => by rw [wipeP, List.length_set, wipe_len vs env]
/-- slots are forgotten, whatever stands there -/
theorem VS.wipe {c : C3} {env : Ev} {ds ds' : Sd} (w : VS c env ds) (vs : List Nat) (hl : ds'.length = ds.length) (h : ∀ i : Nat, i ∉ vs → ds'[i]? = ds[i]?) : VS c (wipeP env vs) ds' := by
  refine ⟨by rw [wipe_len, w.len, hl], w.sub, fun i s hs => ?_, w.dj, w.fr, w.ex⟩
  rw [wipe_get] at hs
  by_cases hi : i ∈ vs
  · rw [if_pos hi] at hs
    cases e : env[i]? with
    | none => rw [e] at hs; cases hs
    | some x => rw [e] at hs; cases hs; trivial
  · rw [if_neg hi] at hs
    rw [h i hi]
    exact w.sl i s hs
theorem dwipe_len : ∀ (vs : List Nat) (ds : Sd), (dwipe ds vs).length = ds.length
  | [], _ => rfl
  | v :: vs, ds => by rw [dwipe, List.length_set, dwipe_len vs ds]
theorem dwipe_get : ∀ (vs : List Nat) (ds : Sd) (i : Nat), i ∉ vs → (dwipe ds vs)[i]? = ds[i]?
  | [], _, _, _ => rfl
  | v :: vs, ds, i, h => by
    rw [dwipe, List.getElem?_set_ne (fun z => h (by simp [z])), dwipe_get vs ds i fun z => h (List.mem_cons_of_mem _ z)]
/-- what follows a comprehension is not looked into ahead of it -/
inductive Fix {α : Type} (Q : α) : Type
  | mk
def vLcL (g : WG) (tt : WT) (te : WF) (vs : List Nat) (Q : List PV → Ev → Prop) (u : Fix Q) : List PV → List PV → Ev → Prop
  | [], acc, env => Q acc (wipeP env vs)
  | x :: r, acc, env => g x (wipeP env vs) fun env2 => tt env2 fun b env3 => if b = true then te env3 fun v env4 => acc.length < sizeLine ∧ vLcL g tt te vs Q u r (acc ++ [v]) (wipeP env4 vs) else vLcL g tt te vs Q u r acc (wipeP env3 vs)
def vLc (it : WI) (g : WG) (tt : WT) (te : WF) (vs : List Nat) : WE := fun env Q => it env fun items env1 => vLcL g tt te vs (fun acc env => Q (.ow (.lst acc)) env) .mk items [] env1
def vYes : WT := fun env Q => Q true env
theorem tj_yes : TJ vYes dYes := fun c env ds Q R W q k => k _ env c W (Step.refl c) q
theorem vj_lc {it : WI} {g : WG} {tt : WT} {te : WF} {vs : List Nat} {ti : DI} {tg : DG} {td : DT} {tde : DE} (hi : IJ it ti) (hg : GJ vs g tg) (ht : TJ tt td) (he : FJ te tde) : VJ (vLc it g tt te vs) (dLc ti tg td tde vs) := by
  intro c env ds Q R W q k
  refine hi c env ds _ _ W q fun chk items l env1 c1 W1 s1 hchk rl q1 p hp => ?_
  have main : ∀ (l : List PV) (items : List D) (acc : List PV) (dacc : List D) (env2 : Ev) (c2 : C3), VS c2 env2 ds → Step c c2 → Grow c1.f c2.f → RVs c2.f l items → RVs c2.f acc dacc → c2.m p = some (.lst dacc) → Priv c2 p →
      vLcL g tt te vs (fun acc env => Q (.ow (.lst acc)) env) .mk l acc env2 → dLcL chk tg td tde vs p R ds items c2.m := by
    intro l
    induction l with
    | nil =>
      intro items acc dacc env2 c2 W2 s2 g2 rl ra hm pr q2
      cases rl
      exact ⟨hchk _ (g2.trans W2.sub), k (.ow (.lst acc)) _ c2 (.ref p) (W2.wipe vs rfl fun _ _ => rfl) s2 ⟨p, _, rfl, hm, ra, pr, .inl (s1.dom p hp)⟩ q2⟩
    | cons x l ih =>
      intro items acc dacc env2 c2 W2 s2 g2 rl ra hm pr q2
      cases rl with
      | cons rx rl =>
        refine ⟨hchk _ (g2.trans W2.sub), ?_⟩
        have W2' : VS c2 (wipeP env2 vs) (dwipe ds vs) := W2.wipe vs (dwipe_len vs ds) (dwipe_get vs ds)
        refine hg c2 _ (dwipe ds vs) x _ _ _ W2' rx q2 fun env3 ds3 c3 W3 s3 e3 n3 q3 => ?_
        have hl3 : ds.length = ds3.length := by rw [n3.1, dwipe_len]
        have n3 := n3.2
        refine ht c3 env3 ds3 _ _ W3 q3 fun b env4 c4 W4 s4 q4 => ?_
        cases b with
        | true =>
          rw [if_pos rfl] at q4 ⊢
          refine he c4 env4 ds3 _ _ W4 q4 fun v env5 c5 d W5 s5 rv q5 => ?_
          have s25 := (s3.trans s4).trans s5
          obtain ⟨pr5, hm5⟩ := pr.step s25 hm
          refine ⟨dacc, hm5, by rw [← ra.len]; exact q5.1, ?_⟩
          have W6 : VS c5 (wipeP env5 vs) ds := W5.wipe vs hl3 fun i hi => by rw [n3 i hi, dwipe_get vs ds i hi]
          refine ih _ (acc ++ [v]) (dacc ++ [d]) _ { c5 with m := mup c5.m p (.lst (dacc ++ [d])) } (W6.priv pr5) ((s2.trans s25).priv (s1.dom p hp)) (g2.trans s25.mono) (rl.grow s25.mono) ((ra.grow s25.mono).app (.cons rv .nil)) mup_same ⟨pr5.f, pr5.o⟩ q5.2
        | false =>
          rw [if_neg (by decide)] at q4 ⊢
          have s24 := s3.trans s4
          obtain ⟨pr5, hm5⟩ := pr.step s24 hm
          have W6 : VS c4 (wipeP env4 vs) ds := W4.wipe vs hl3 fun i hi => by rw [n3 i hi, dwipe_get vs ds i hi]
          exact ih _ acc dacc _ c4 W6 (s2.trans s24) (g2.trans s24.mono) (rl.grow s24.mono) (ra.grow s24.mono) hm5 pr5 q4
  have pr := Priv.new W1 hp
  exact main l items [] [] env1 { c1 with m := mup c1.m p (.lst []) } (W1.priv pr) (s1.priv (s1.dom p hp)) (Grow.refl _) rl .nil mup_same ⟨pr.f, pr.o⟩ q1
end DL
/-! VL: calls, statements. -/
namespace DL
open PySem PySem.Spec PyProof.Rows L2
/-! ### calls -/
abbrev WSp := List PV → (PV → Prop) → Prop
def CallV (sp : DSp) (w : WSp) : Prop := ∀ c env ds l dl Q R, VS c env ds → RVs c.f l dl → w l Q → (∀ v c' d, VS c' env ds → Step c c' → RV c'.f v d → Q v → R d c'.m) → sp dl c.m R
def vCall (w : WSp) (a : WA) : WE := fun env Q => a env fun l env1 => w l fun v => Q (.va v) env1
theorem vj_call {sp : DSp} {w : WSp} {a : WA} {t : DA} (h : CallV sp w) (ha : AJ a t) : VJ (vCall w a) (dCall sp t) := by
  intro c env ds Q R W q k
  refine ha c env ds _ _ W q fun l env1 c1 dl W1 s1 rl q1 => ?_
  exact h c1 env1 ds _ _ _ _ W1 rl q1 fun v c2 d W2 s2 rv q2 => k (.va v) env1 c2 d W2 (s1.trans s2) rv q2
def lV (w : WSp) : DSp := fun ds m Q => ∃ f args Q0, Grow f m ∧ RVs f args ds ∧ w args Q0 ∧ ∀ v f' m' d, Grow m m' → Grow f f' → Grow f' m' → (∀ b, f' b ≠ none → f b ≠ none ∨ m b = none) → RV f' v d → Q0 v → Q d m'
theorem cv_lV (w : WSp) : CallV (lV w) w := by
  intro c env ds l dl Q R W rl q k
  exact ⟨c.f, l, Q, W.sub, rl, q, fun v f' m' d g gf gm acc rv q' => k v ⟨f', c.O, m'⟩ d (W.grow g gf gm acc) (Step.grow g gf acc) rv q'⟩
abbrev WSpD := Nat → List PV → (PV → Nat → Prop) → Prop
def CallVD (sp : DSp) (w : WSpD) : Prop := ∀ c env ds i p n l dl Q R, VS c env ds → env[i]? = some (.dk p n) → RVs c.f l dl → w n l Q → (∀ v n' c' d, VS c' (env.set i (.dk p n')) ds → Step c c' → RV c'.f v d → Q v n' → R d c'.m) → sp (.ref p.1 :: dl) c.m R
def vCallD (w : WSpD) (i : Nat) (a : WA) : WE := fun env Q => (∃ p n, env[i]? = some (.dk p n)) ∧ a env fun l env1 => ∃ p n, env1[i]? = some (.dk p n) ∧ w n l fun v n' => Q (.va v) (env1.set i (.dk p n'))
theorem VS.dk {c : C3} {env : Ev} {ds : Sd} (w : VS c env ds) {i : Nat} {p : Addr × Addr} {n : Nat} (h : env[i]? = some (.dk p n)) : ds[i]? = some (some (.ref p.1)) ∧ Deck c.m p n ∧ c.O i p.1 ∧ c.O i p.2 := w.sl i _ h
theorem vj_callD {sp : DSp} {w : WSpD} {i : Nat} {a : WA} {t : DA} (h : CallVD sp w) (ha : AJ a t) : VJ (vCallD w i a) (dCall sp (dCons (dVar i) t)) := by
  intro c env ds Q R W q k
  obtain ⟨⟨p0, n0, h0⟩, q⟩ := q
  obtain ⟨e0, -⟩ := W.dk h0
  refine ⟨_, e0, ?_⟩
  refine ha c env ds _ _ W q fun l env1 c1 dl W1 s1 rl q1 => ?_
  obtain ⟨p, n, h1, q1⟩ := q1
  obtain ⟨e1, -⟩ := W1.dk h1
  rw [e0] at e1
  have e2 : p0.1 = p.1 := by
    have e3 := Option.some.inj (Option.some.inj e1)
    injection e3
  rw [e2]
  exact h c1 env1 ds i p n l dl _ _ W1 h1 rl q1 fun v n' c2 d W2 s2 rv q2 => k (.va v) _ c2 d W2 (s1.trans s2) rv q2
def lVD (w : WSpD) : DSp := fun ds m Q => ∃ (p : Addr × Addr) (n : Nat) (f : MH) (args : List PV) (Q0 : PV → Nat → Prop) (ds' : List D), ds = .ref p.1 :: ds' ∧ Deck m p n ∧ f p.1 = none ∧ f p.2 = none ∧ Grow f m ∧ RVs f args ds' ∧ w n args Q0 ∧
  ∀ v n' f' m' d, Deck m' p n' → (∀ b o, b ≠ p.1 → b ≠ p.2 → m b = some o → m' b = some o) → (∀ b, m' b = none → m b = none) → Grow f f' → Grow f' m' → (∀ b, f' b ≠ none → f b ≠ none ∨ m b = none) → RV f' v d → Q0 v n' → Q d m'
/-- the deck is written -/
theorem VS.deck {c : C3} {env : Ev} {ds : Sd} (w : VS c env ds) {i : Nat} {p : Addr × Addr} {n n' : Nat} {f' m' : MH} (h : env[i]? = some (.dk p n)) (hd : Deck m' p n') (hk : ∀ b o, b ≠ p.1 → b ≠ p.2 → c.m b = some o → m' b = some o) (dom : ∀ b, m' b = none → c.m b = none)
    (gf : Grow c.f f') (gm : Grow f' m') (acc : ∀ b, f' b ≠ none → c.f b ≠ none ∨ c.m b = none) : VS ⟨f', c.O, m'⟩ (env.set i (.dk p n')) ds ∧ Step c ⟨f', c.O, m'⟩ := by
  obtain ⟨e1, d1, o1, o2⟩ := w.dk h
  have hl : i < env.length := (List.getElem?_eq_some_iff.mp h).1
  refine ⟨⟨by rw [List.length_set]; exact w.len, gm, fun j s hs => ?_, w.dj, fun j a ha => ?_, fun j a ha z => w.ex j a ha (dom a z)⟩, gf, fun b o hb hm => hk b o (fun z => hb i (z ▸ o1)) (fun z => hb i (z ▸ o2)) hm, fun b hb => ?_, fun j b hb => .inr ⟨j, hb⟩, dom⟩
  · by_cases e : j = i
    · subst e
      rw [List.getElem?_set_self hl] at hs
      cases hs
      exact ⟨e1, hd, o1, o2⟩
    · rw [List.getElem?_set_ne (fun z => e z.symm)] at hs
      refine (w.sl j s hs).grow (c' := ⟨f', c.O, m'⟩) gf (fun b hb hn => ?_) fun _ h => h
      cases em : c.m b with
      | none => exact absurd em hn
      | some o => exact hk b o (fun z => e (w.dj j i _ (z ▸ hb) o1)) (fun z => e (w.dj j i _ (z ▸ hb) o2)) em
  · show f' a = none
    cases e : f' a with
    | none => rfl
    | some o =>
      rcases acc a (by rw [e]; exact fun z => nomatch z) with z | z
      · exact absurd (w.fr j a ha) z
      · exact absurd z (w.ex j a ha)
  · rcases acc b hb with z | z
    · exact .inl z
    · exact .inr (.inl z)
theorem cv_lVD (w : WSpD) : CallVD (lVD w) w := by
  intro c env ds i p n l dl Q R W h rl q k
  obtain ⟨e1, d1, o1, o2⟩ := W.dk h
  refine ⟨p, n, c.f, l, Q, dl, rfl, d1, W.fr i _ o1, W.fr i _ o2, W.sub, rl, q, fun v n' f' m' d hd hk dom gf gm acc rv q' => ?_⟩
  obtain ⟨W2, s2⟩ := W.deck h hd hk dom gf gm acc
  exact k v n' _ d W2 s2 rv q'
/-! ### statements -/
structure VEnds where
  nx : Ev → Prop
  rt : PV → Ev → Prop
  bk : Ev → Prop := fun _ => False
  ct : Ev → Prop := fun _ => False
  xr : Str → Str → PV → Ev → Prop := fun _ _ _ _ => False
abbrev WS := VEnds → Ev → Prop
structure KV [ExcAt] (c : C3) (E : VEnds) (D : DEnds) : Prop where
  nx : ∀ env' ds' c', VS c' env' ds' → Step c c' → E.nx env' → D.nx ds' c'.m
  rt : ∀ v env' ds' c' d, VS c' env' ds' → Step c c' → RV c'.f v d → E.rt v env' → D.rt d c'.m
  bk : ∀ env' ds' c', VS c' env' ds' → Step c c' → E.bk env' → D.bk ds' c'.m
  ct : ∀ env' ds' c', VS c' env' ds' → Step c c' → E.ct env' → D.ct ds' c'.m
  xr : ∀ C f v env' ds' c' y d, VS c' env' ds' → Step c c' → RV c'.f v y → c'.m d = none → E.xr C f v env' → D.xr (ExcAt.at_ C) (some d) ds' (mup c'.m d (.xd [(f, y)]))
variable [ExcAt]
theorem KV.step {c c' : C3} {E : VEnds} {D : DEnds} (k : KV c E D) (s : Step c c') : KV c' E D :=
  ⟨fun e d c2 w s2 => k.nx e d c2 w (s.trans s2), fun v e d c2 x w s2 => k.rt v e d c2 x w (s.trans s2), fun e d c2 w s2 => k.bk e d c2 w (s.trans s2), fun e d c2 w s2 => k.ct e d c2 w (s.trans s2), fun C f v e d c2 y a w s2 => k.xr C f v e d c2 y a w (s.trans s2)⟩
def SJ (w : WS) (t : DS) : Prop := ∀ c env ds E D, VS c env ds → w E env → KV c E D → t D ds c.m
def vSkip : WS := fun E env => E.nx env
theorem sj_skip : SJ vSkip dSkip := fun c env ds E D W q k => k.nx env ds c W (Step.refl c) q
def vSeq (f g : WS) : WS := fun E env => f { E with nx := g E } env
theorem sj_seq {f g : WS} {tf tg : DS} (h : SJ f tf) (h' : SJ g tg) : SJ (vSeq f g) (dSeq tf tg) := fun c env ds E D W q k =>
  h c env ds _ _ W q ⟨fun env' ds' c' W' s' q' => h' c' env' ds' E D W' q' (k.step s'), k.rt, k.bk, k.ct, k.xr⟩
def vBreak : WS := fun E env => E.bk env
def vCont : WS := fun E env => E.ct env
def vNever : WS := fun _ _ => False
theorem sj_break : SJ vBreak dBreak := fun c env ds E D W q k => k.bk env ds c W (Step.refl c) q
theorem sj_cont : SJ vCont dCont := fun c env ds E D W q k => k.ct env ds c W (Step.refl c) q
theorem sj_never : SJ vNever dNever := fun c env ds E D W q k => q
def vExpr (e : WE) : WS := fun E env => e env fun _ env1 => E.nx env1
theorem sj_expr {e : WE} {t : DE} (h : VJ e t) : SJ (vExpr e) (dExpr t) := fun c env ds E D W q k => h c env ds _ _ W q fun r env1 c1 d W1 s1 rr q1 => k.nx env1 ds c1 W1 s1 q1
def vRet (e : WF) : WS := fun E env => e env E.rt
theorem sj_ret {e : WF} {t : DE} (h : FJ e t) : SJ (vRet e) (dRet t) := fun c env ds E D W q k => h c env ds _ _ W q fun v env1 c1 d W1 s1 rr q1 => k.rt v env1 ds c1 d W1 s1 rr q1
def vIf (t : WT) (f g : WS) : WS := fun E env => t env fun b env1 => if b = true then f E env1 else g E env1
theorem sj_if {t : WT} {f g : WS} {tt : DT} {tf tg : DS} (ht : TJ t tt) (h : SJ f tf) (h' : SJ g tg) : SJ (vIf t f g) (dIf tt tf tg) := by
  intro c env ds E D W q k
  refine ht c env ds _ _ W q fun b env1 c1 W1 s1 q1 => ?_
  cases b with
  | true =>
    rw [if_pos rfl] at q1 ⊢
    exact h c1 env1 ds E D W1 q1 (k.step s1)
  | false =>
    rw [if_neg (by decide)] at q1 ⊢
    exact h' c1 env1 ds E D W1 q1 (k.step s1)
/-- what comes of an expression goes to a slot -/
theorem VS.setR {c0 c : C3} {env : Ev} {ds : Sd} (w : VS c env ds) (s : Step c0 c) {v : PV} {a : Addr} {o : MO} (i : Nat) (h1 : c.m a = some o) (h2 : RC c.f v o) (h3 : Priv c a) (h4 : Fr c0 a) :
    VS { c with O := fun j b => if j = i then b = a else c.O j b } (env.set i (.ow v)) (ds.set i (some (.ref a))) ∧ Step c0 { c with O := fun j b => if j = i then b = a else c.O j b } :=
  ⟨w.set_ow h1 h2 h3, s.set (A := fun b => b = a) fun b hb => hb ▸ h4⟩
def vAsgN (i : Nat) (e : WE) : WS := fun E env => e env fun r env1 => match r with
  | .va v => E.nx (env1.set i (.va v))
  | .ow v => E.nx (env1.set i (.ow v))
  | .br _ => False
theorem sj_asgN {e : WE} {t : DE} (i : Nat) (h : VJ e t) : SJ (vAsgN i e) (dAsg t (gN i)) := by
  intro c env ds E D W q k
  refine h c env ds _ _ W q fun r env1 c1 d W1 s1 rr q1 => ?_
  cases r with
  | va v =>
    have z := k.nx _ _ _ (W1.set_va (i := i) rr) (Step.set_va s1) q1
    exact z
  | ow v =>
    obtain ⟨a, o, rfl, h1, h2, h3, h4⟩ := rr
    obtain ⟨W2, s2⟩ := W1.setR s1 i h1 h2 h3 h4
    have z := k.nx _ _ _ W2 s2 q1
    exact z
  | br v => exact q1.elim
def vAsg (e : WF) (g : WG) : WS := fun E env => e env fun v env1 => g v env1 E.nx
theorem sj_asg {e : WF} {g : WG} {t : DE} {tg : DG} {vs : List Nat} (h : FJ e t) (hg : GJ vs g tg) : SJ (vAsg e g) (dAsg t tg) := by
  intro c env ds E D W q k
  refine h c env ds _ _ W q fun v env1 c1 d W1 s1 rr q1 => ?_
  exact hg c1 env1 ds v d _ _ W1 rr q1 fun env2 ds2 c2 W2 s2 _ _ q2 => k.nx env2 ds2 c2 W2 (s1.trans s2) q2
def toSl : Rs → Sl
  | .va v => .va v
  | .ow v => .ow v
  | .br _ => .no
def notBr : Rs → Prop
  | .br _ => False
  | _ => True
def vPar (i j : Nat) (f g : WE) : WS := fun E env => f env fun x env1 => notBr x ∧ g env1 fun y env2 => notBr y ∧ E.nx ((env2.set i (toSl x)).set j (toSl y))
theorem sj_par {f g : WE} {tf tg : DE} (i j : Nat) (hf : VJ f tf) (hg : VJ g tg) : SJ (vPar i j f g) (dPar i j (dCons tf (dCons tg dNil))) := by
  intro c env ds E D W q k
  refine hf c env ds _ _ W q fun x env1 c1 dx W1 s1 rx q1 => ?_
  obtain ⟨nx, q1⟩ := q1
  refine hg c1 env1 ds _ _ W1 q1 fun y env2 c2 dy W2 s2 ry q2 => ?_
  obtain ⟨ny, q2⟩ := q2
  refine ⟨dx, dy, rfl, ?_⟩
  have rx2 := rx.step s2 (env' := env2) (by cases x <;> first | trivial | exact nx.elim)
  have s12 := s1.trans s2
  cases x with
  | br v => exact nx.elim
  | va v =>
    have W3 := W2.set_va (i := i) (v := v) (d := dx) rx2
    have s3 : Step c _ := Step.set_va (i := i) s12
    cases y with
    | br u => exact ny.elim
    | va u =>
      have z := k.nx _ _ _ (W3.set_va (i := j) (v := u) (d := dy) ry) (Step.set_va (i := j) s3) q2
      exact z
    | ow u =>
      obtain ⟨a, o, rfl, h1, h2, h3, h4⟩ := ry
      obtain ⟨W4, s4⟩ := W3.setR s3 j h1 h2 ⟨h3.f, fun n hn => by
        have hn : if n = i then False else c2.O n a := hn
        by_cases e : n = i
        · rw [if_pos e] at hn; exact hn
        · rw [if_neg e] at hn; exact h3.o n hn⟩ (h4.back s1)
      have z := k.nx _ _ _ W4 s4 q2
      exact z
  | ow v =>
    obtain ⟨a, o, rfl, h1, h2, h3, h4⟩ := rx2
    obtain ⟨W3, s3⟩ := W2.setR s12 i h1 h2 h3 h4
    cases y with
    | br u => exact ny.elim
    | va u =>
      have z := k.nx _ _ _ (W3.set_va (i := j) (v := u) (d := dy) ry) (Step.set_va (i := j) s3) q2
      exact z
    | ow u =>
      obtain ⟨a0, o0, e0, g1, g2, g3, g4⟩ := rx
      cases e0
      obtain ⟨b, o', rfl, f1, f2, f3, f4⟩ := ry
      have hab : b ≠ a := by
        intro e
        subst e
        rcases f4 with z | ⟨n, z⟩
        · rw [g1] at z; cases z
        · exact g3.o n z
      obtain ⟨W4, s4⟩ := W3.setR s3 j f1 f2 ⟨f3.f, fun n hn => by
        have hn : if n = i then b = a else c2.O n b := hn
        by_cases e : n = i
        · rw [if_pos e] at hn; exact hab hn
        · rw [if_neg e] at hn; exact f3.o n hn⟩ (f4.back s1)
      have z := k.nx _ _ _ W4 s4 q2
      exact z
/-- x[k] = e, x a slot that owns -/
def vSetI (i : Nat) (y : WE) (e : WF) : WS := fun E env => e env fun v env1 => (∃ u, env1[i]? = some (.ow u)) ∧ y env1 fun z env2 => match env2[i]? with
  | some (.ow (.lst l)) => ∃ n j, z.v = .int n ∧ ixN l.length n = some j ∧ E.nx (env2.set i (.ow (.lst (l.set j v))))
  | some (.ow (.dct l)) => ∃ k, keyP' z.v = some k ∧ l.length < sizeLine ∧ E.nx (env2.set i (.ow (.dct (stored l k v))))
  | _ => False
theorem sj_setI {i : Nat} {y : WE} {e : WF} {ty te : DE} (hy : VJ y ty) (he : FJ e te) : SJ (vSetI i y e) (dAsg te (gS (dVar i) ty aSet)) := by
  intro c env ds E D W q k
  refine he c env ds _ _ W q fun v env1 c1 d W1 s1 rv q1 => ?_
  obtain ⟨⟨u, hu⟩, q1⟩ := q1
  obtain ⟨a, o, e1, e2, e3, e4⟩ := W1.ow hu
  refine ⟨_, e1, hy c1 env1 ds _ _ W1 q1 fun z env2 c2 dz W2 s2 rz q2 => ?_⟩
  have rv2 := rv.grow s2.mono
  cases e5 : env2[i]? with
  | none => rw [e5] at q2; exact q2.elim
  | some s =>
    rw [e5] at q2
    cases s with
    | ow w =>
      obtain ⟨b, o2, f1, f2, f3, f4⟩ := W2.ow e5
      rw [e1] at f1
      cases f1
      have rz := rz.read W2
      cases w with
      | lst l =>
        obtain ⟨n, j, h1, h2, q2⟩ := q2
        rw [h1] at rz
        cases rz
        cases o2 <;> try exact f3.elim
        rename_i dl
        have f3 : RVs c2.f l dl := f3
        obtain ⟨W3, s3⟩ := W2.write (v' := .lst (l.set j v)) (o' := .lst (dl.set j d)) e5 e1 (RVs.set rv2 j f3)
        exact ⟨a, rfl, .inl ⟨dl, n, j, f2, rfl, by rw [← f3.len]; exact h2, k.nx _ _ _ W3 ((s1.trans s2).trans s3) q2⟩⟩
      | dct l =>
        obtain ⟨kk, h1, h2, q2⟩ := q2
        cases o2 <;> try exact f3.elim
        rename_i dl
        have f3 : RVk c2.f l dl := f3
        obtain ⟨W3, s3⟩ := W2.write (v' := .dct (stored l kk v)) (o' := .dct (stored dl kk d)) e5 e1 (RVk.put f3 kk rv2)
        exact ⟨a, rfl, .inr (.inl ⟨dl, kk, f2, keyOf_of rz h1, by rw [← f3.len]; exact h2, k.nx _ _ _ W3 ((s1.trans s2).trans s3) q2⟩)⟩
      | _ => exact q2.elim
    | _ => exact q2.elim
/-! ### methods of lists -/
def vApp (i : Nat) (e : WF) : WE := fun env Q => (∃ u, env[i]? = some (.ow (.lst u))) ∧ e env fun v env1 => ∃ l, env1[i]? = some (.ow (.lst l)) ∧ l.length < sizeLine ∧ Q (.va .non) (env1.set i (.ow (.lst (l ++ [v]))))
theorem VS.owl {c : C3} {env : Ev} {ds : Sd} (w : VS c env ds) {i : Nat} {l : List PV} (h : env[i]? = some (.ow (.lst l))) : ∃ a dl, ds[i]? = some (some (.ref a)) ∧ c.m a = some (.lst dl) ∧ RVs c.f l dl ∧ c.O i a := by
  obtain ⟨a, o, h1, h2, h3, h4⟩ := w.ow h
  cases o <;> first | exact h3.elim | exact ⟨a, _, h1, h2, h3, h4⟩
theorem vj_app {i : Nat} {e : WF} {t : DE} (h : FJ e t) : VJ (vApp i e) (dM mAppend (dVar i) (dCons t dNil)) := by
  intro c env ds Q R W q k
  obtain ⟨⟨u, hu⟩, q⟩ := q
  obtain ⟨a, dl0, e1, e2, e3, e4⟩ := W.owl hu
  refine ⟨_, e1, .inl ⟨a, dl0, rfl, e2⟩, h c env ds _ _ W q fun v env1 c1 d W1 s1 rv q1 => ?_⟩
  obtain ⟨l, h1, h2, q1⟩ := q1
  obtain ⟨b, dl, f1, f2, f3, f4⟩ := W1.owl h1
  rw [e1] at f1
  cases f1
  obtain ⟨W3, s3⟩ := W1.write (v' := .lst (l ++ [v])) (o' := .lst (dl ++ [d])) h1 e1 (f3.app (.cons rv .nil))
  exact ⟨a, dl, d, rfl, rfl, f2, by rw [← f3.len]; exact h2, k (.va .non) _ _ .non W3 (s1.trans s3) .non q1⟩
def vPop0 (i : Nat) : WE := fun env Q => ∃ l v, env[i]? = some (.ow (.lst l)) ∧ l[l.length - 1]? = some v ∧ Q (.va v) (env.set i (.ow (.lst l.dropLast)))
theorem vj_pop0 {i : Nat} : VJ (vPop0 i) (dM0 mPop (dVar i)) := by
  intro c env ds Q R W q k
  obtain ⟨l, v, h1, h2, q⟩ := q
  obtain ⟨a, dl, e1, e2, e3, e4⟩ := W.owl h1
  obtain ⟨d, g1, g2⟩ := e3.get h2
  obtain ⟨W3, s3⟩ := W.write (v' := .lst l.dropLast) (o' := .lst dl.dropLast) h1 e1 e3.dropLast
  exact ⟨_, e1, .inl ⟨a, dl, rfl, e2⟩, a, dl, d, rfl, rfl, e2, by rw [← e3.len]; exact g1, k (.va v) _ _ d W3 s3 g2 q⟩
def vPop1 (i : Nat) (e : WF) : WE := fun env Q => (∃ u, env[i]? = some (.ow (.lst u))) ∧ e env fun v env1 => ∃ l n j x, env1[i]? = some (.ow (.lst l)) ∧ v = .int n ∧ -(2 ^ 63) ≤ n ∧ n < 2 ^ 63 ∧ seqIndex? n l.length = some j ∧ l[j]? = some x ∧ Q (.va x) (env1.set i (.ow (.lst (l.eraseIdx j))))
theorem vj_pop1 {i : Nat} {e : WF} {t : DE} (h : FJ e t) : VJ (vPop1 i e) (dM mPopAt (dVar i) (dCons t dNil)) := by
  intro c env ds Q R W q k
  obtain ⟨⟨u, hu⟩, q⟩ := q
  obtain ⟨a, dl0, e1, e2, e3, e4⟩ := W.owl hu
  refine ⟨_, e1, .inl ⟨a, dl0, rfl, e2⟩, h c env ds _ _ W q fun v env1 c1 d W1 s1 rv q1 => ?_⟩
  obtain ⟨l, n, j, x, h1, rfl, h2, h3, h4, h5, q1⟩ := q1
  obtain ⟨b, dl, f1, f2, f3, f4⟩ := W1.owl h1
  rw [e1] at f1
  cases f1
  cases rv
  obtain ⟨dx, g1, g2⟩ := f3.get h5
  obtain ⟨W3, s3⟩ := W1.write (v' := .lst (l.eraseIdx j)) (o' := .lst (dl.eraseIdx j)) h1 e1 (f3.eraseIdx j)
  exact ⟨a, dl, n, j, dx, rfl, rfl, f2, h2, h3, by rw [← f3.len]; exact h4, g1, k (.va x) _ _ dx W3 (s1.trans s3) g2 q1⟩
def vExt (i : Nat) (e : WF) : WE := fun env Q => (∃ u, env[i]? = some (.ow (.lst u))) ∧ e env fun v env1 => ∃ l zs, env1[i]? = some (.ow (.lst l)) ∧ (v = .tup zs ∨ v = .lst zs) ∧ l.length + zs.length ≤ sizeLine ∧ Q (.va .non) (env1.set i (.ow (.lst (l ++ zs))))
theorem vj_ext {i : Nat} {e : WF} {t : DE} (h : FJ e t) : VJ (vExt i e) (dM mExtend (dVar i) (dCons t dNil)) := by
  intro c env ds Q R W q k
  obtain ⟨⟨u, hu⟩, q⟩ := q
  obtain ⟨a, dl0, e1, e2, e3, e4⟩ := W.owl hu
  refine ⟨_, e1, .inl ⟨a, dl0, rfl, e2⟩, h c env ds _ _ W q fun v env1 c1 d W1 s1 rv q1 => ?_⟩
  obtain ⟨l, zs, h1, h2, h3, q1⟩ := q1
  obtain ⟨b, dl, f1, f2, f3, f4⟩ := W1.owl h1
  rw [e1] at f1
  cases f1
  have go : ∀ dz, RVs c1.f zs dz → ([d] = [D.tup dz] ∨ ∃ b, [d] = [D.ref b] ∧ c1.m b = some (.lst dz)) → mExtend (.ref a) [d] c1.m R := fun dz rz hz => by
    obtain ⟨W3, s3⟩ := W1.write (v' := .lst (l ++ zs)) (o' := .lst (dl ++ dz)) h1 e1 (f3.app rz)
    exact ⟨a, dl, dz, rfl, f2, hz, by rw [← f3.len, ← rz.len]; exact h3, k (.va .non) _ _ .non W3 (s1.trans s3) .non q1⟩
  rcases h2 with rfl | rfl
  · cases rv with
    | tup r => exact go _ r (.inl rfl)
  · cases rv with
    | lst e r => exact go _ r (.inr ⟨_, rfl, W1.sub _ _ e⟩)
/-! ### loops -/
def vLoop (g : WG) (body : WS) : List PV → WS
  | [] => fun E env => E.nx env
  | x :: r => fun E env => g x env fun env2 => body { E with nx := vLoop g body r E, ct := vLoop g body r E, bk := E.nx } env2
def vFor (it : WI) (g : WG) (body : WS) : WS := fun E env => it env fun items env1 => vLoop g body items E env1
theorem sj_for {it : WI} {g : WG} {body : WS} {ti : DI} {tg : DG} {tb : DS} {vs : List Nat} (hi : IJ it ti) (hg : GJ vs g tg) (hb : SJ body tb) : SJ (vFor it g body) (dFor ti tg tb) := by
  intro c env ds E D W q k
  refine hi c env ds _ _ W q fun chk items l env1 c1 W1 s1 hchk rl q1 => ?_
  have main : ∀ (l : List PV) (items : List DL.D) (env2 : Ev) (ds2 : Sd) (c2 : C3), VS c2 env2 ds2 → Step c c2 → Grow c1.f c2.f → RVs c2.f l items → vLoop g body l E env2 → dLoop chk tg tb items D ds2 c2.m := by
    intro l
    induction l with
    | nil =>
      intro items env2 ds2 c2 W2 s2 g2 rl q2
      cases rl
      exact ⟨hchk _ (g2.trans W2.sub), k.nx env2 ds2 c2 W2 s2 q2⟩
    | cons x l ih =>
      intro items env2 ds2 c2 W2 s2 g2 rl q2
      cases rl with
      | cons rx rl =>
        refine ⟨hchk _ (g2.trans W2.sub), hg c2 env2 ds2 x _ _ _ W2 rx q2 fun env3 ds3 c3 W3 s3 _ _ q3 => ?_⟩
        have s23 := s2.trans s3
        have go : ∀ env' ds' c', VS c' env' ds' → Step c3 c' → vLoop g body l E env' → dLoop chk tg tb _ D ds' c'.m := fun env' ds' c' W' s' q' => ih _ env' ds' c' W' (s23.trans s') (g2.trans (s3.mono.trans s'.mono)) (rl.grow (s3.mono.trans s'.mono)) q'
        exact hb c3 env3 ds3 _ _ W3 q3 ⟨go, fun v env' ds' c' d W' s' rv q' => k.rt v env' ds' c' d W' (s23.trans s') rv q', fun env' ds' c' W' s' q' => k.nx env' ds' c' W' (s23.trans s') q', go, fun C f v env' ds' c' y d W' s' => k.xr C f v env' ds' c' y d W' (s23.trans s')⟩
  exact main l items env1 ds c1 W1 s1 (Grow.refl _) rl q1
def vWhile (t : WT) (body : WS) : WS := fun E env => ∃ Iv : Nat → Ev → Prop, (∃ n, Iv n env) ∧
  ∀ n env, Iv n env → t env fun b env1 => if b = true then body { E with nx := fun e' => ∃ j, j < n ∧ Iv j e', ct := fun e' => ∃ j, j < n ∧ Iv j e', bk := E.nx } env1 else E.nx env1
theorem sj_while {t : WT} {body : WS} {tt : DT} {tb : DS} (ht : TJ t tt) (hb : SJ body tb) : SJ (vWhile t body) (dWhile tt tb) := by
  intro c env ds E D W q k
  obtain ⟨Iv, ⟨n, h0⟩, turn⟩ := q
  refine ⟨fun n ds' m' => ∃ env' c', VS c' env' ds' ∧ c'.m = m' ∧ Step c c' ∧ Iv n env', ⟨n, env, c, W, rfl, Step.refl c, h0⟩, ?_⟩
  rintro n ds' m' ⟨env', c', W', rfl, s', h'⟩
  refine ht c' env' ds' _ _ W' (turn n env' h') fun b env1 c1 W1 s1 q1 => ?_
  have s01 := s'.trans s1
  cases b with
  | true =>
    rw [if_pos rfl] at q1 ⊢
    have go : ∀ env' ds' c', VS c' env' ds' → Step c1 c' → (∃ j, j < n ∧ Iv j env') → ∃ j, j < n ∧ ∃ env2 c2, VS c2 env2 ds' ∧ c2.m = c'.m ∧ Step c c2 ∧ Iv j env2 := fun env' ds' c' W' s' ⟨j, hj, q'⟩ => ⟨j, hj, env', c', W', rfl, s01.trans s', q'⟩
    exact hb c1 env1 ds' _ _ W1 q1 ⟨go, fun v env' ds' c' d W' s' rv q' => k.rt v env' ds' c' d W' (s01.trans s') rv q', fun env' ds' c' W' s' q' => k.nx env' ds' c' W' (s01.trans s') q', go, fun C f v env' ds' c' y d W' s' => k.xr C f v env' ds' c' y d W' (s01.trans s')⟩
  | false =>
    rw [if_neg (by decide)] at q1 ⊢
    exact k.nx env1 ds' c1 W1 s01 q1
/-! ### bodies -/
def vstart (n : Nat) (l : List PV) : Ev := l.map .va ++ List.replicate (n - l.length) .no
theorem dstart_get (n : Nat) (ds : List D) (i : Nat) (h : i < ds.length) : (dstart n ds)[i]? = some (ds[i]?) := by
  unfold dstart
  rw [List.getElem?_append_left (by rw [List.length_map]; exact h), List.getElem?_map, List.getElem?_eq_getElem h]
  rfl
theorem VS.start {f m : MH} {l : List PV} {ds : List D} (n : Nat) (g : Grow f m) (r : RVs f l ds) : VS ⟨f, fun _ _ => False, m⟩ (vstart n l) (dstart n ds) := by
  refine ⟨?_, g, fun i s h => ?_, fun i j a h => h.elim, fun i a h => h.elim, fun i a h => h.elim⟩
  · unfold vstart dstart
    simp [r.len]
  · unfold vstart at h
    by_cases hi : i < l.length
    · rw [List.getElem?_append_left (by rw [List.length_map]; exact hi), List.getElem?_map, List.getElem?_eq_getElem hi] at h
      cases h
      obtain ⟨d, h1, h2⟩ := r.get (List.getElem?_eq_getElem hi)
      rw [dstart_get n ds i (by rw [← r.len]; exact hi), h1]
      exact ⟨d, rfl, h2⟩
    · rw [List.getElem?_append_right (by rw [List.length_map]; omega), List.getElem?_replicate] at h
      split at h
      · cases h; trivial
      · cases h
theorem body_V {w : WSp} {vb : WS} {b : DS} (n : Nat) (h : SJ vb b) (hw : ∀ l Q0, w l Q0 → vb { nx := fun _ => Q0 .non, rt := fun v _ => Q0 v } (vstart n l)) :
    ∀ ds m Q, lV w ds m Q → b { nx := fun _ m' => Q .non m', rt := Q } (dstart n ds) m := by
  rintro ds m Q ⟨f, args, Q0, g, r, q, k⟩
  have fin : ∀ v d c', Step ⟨f, fun _ _ => False, m⟩ c' → Grow c'.f c'.m → RV c'.f v d → Q0 v → Q d c'.m := fun v d c' s g' rv q' =>
    k v c'.f c'.m d (fun b o e => s.keep b o (fun _ z => z) e) s.mono g' (fun b hb => by
      rcases s.acc b hb with z | z | ⟨_, z⟩
      · exact .inl z
      · exact .inr z
      · exact z.elim) rv q'
  refine h ⟨f, fun _ _ => False, m⟩ _ _ _ _ (VS.start n g r) (hw args Q0 q) ⟨fun env' ds' c' W' s' q' => fin .non .non c' s' W'.sub .non q', fun v env' ds' c' d W' s' rv q' => fin v d c' s' W'.sub rv q', fun _ _ _ _ _ z => z.elim, fun _ _ _ _ _ z => z.elim, fun _ _ _ _ _ _ _ _ _ _ _ _ z => z.elim⟩
def vstartD (n : Nat) (p : Addr × Addr) (k : Nat) (l : List PV) : Ev := .dk p k :: vstart (n - 1) l
theorem body_VD {w : WSpD} {vb : WS} {b : DS} (n : Nat) (hn : 0 < n) (h : SJ vb b) (hw : ∀ p k l Q0, w k l Q0 → vb { nx := fun env => ∃ k', env[0]? = some (.dk p k') ∧ Q0 .non k', rt := fun v env => ∃ k', env[0]? = some (.dk p k') ∧ Q0 v k' } (vstartD n p k l)) :
    ∀ ds m Q, lVD w ds m Q → b { nx := fun _ m' => Q .non m', rt := Q } (dstart n ds) m := by
  rintro ds m Q ⟨p, k0, f, args, Q0, ds', rfl, hd, f1, f2, g, r, q, k⟩
  have ex1 : m p.1 ≠ none := by
    obtain ⟨cells, t, gg, a1, a2, a3⟩ := hd
    rw [a1]; exact fun z => nomatch z
  have ex2 : m p.2 ≠ none := by
    obtain ⟨cells, t, gg, a1, a2, a3⟩ := hd
    rw [a2]; exact fun z => nomatch z
  let c0 : C3 := ⟨f, fun i a => i = 0 ∧ (a = p.1 ∨ a = p.2), m⟩
  have W0 := VS.start (n - 1) g r
  have W : VS c0 (vstartD n p k0 args) (dstart n (.ref p.1 :: ds')) := by
    have e : dstart n (.ref p.1 :: ds') = some (.ref p.1) :: dstart (n - 1) ds' := by
      unfold dstart
      rw [List.map_cons, List.cons_append, List.length_cons, show n - (ds'.length + 1) = n - 1 - ds'.length by omega]
    rw [e]
    refine ⟨by unfold vstartD; rw [List.length_cons, List.length_cons, W0.len], g, fun i s hs => ?_, fun i j a h1 h2 => h1.1.trans h2.1.symm, fun i a ha => ?_, fun i a ha => ?_⟩
    · cases i with
      | zero =>
        cases hs
        exact ⟨rfl, hd, ⟨rfl, .inl rfl⟩, rfl, .inr rfl⟩
      | succ i =>
        rw [vstartD, List.getElem?_cons_succ] at hs
        rw [List.getElem?_cons_succ]
        exact (W0.sl i s hs).grow (c' := c0) (Grow.refl _) (fun a ha => ha.elim) fun a ha => ha.elim
    · rcases ha.2 with z | z
      · rw [z]; exact f1
      · rw [z]; exact f2
    · rcases ha.2 with z | z
      · rw [z]; exact ex1
      · rw [z]; exact ex2
  have fin : ∀ v d c' env' ds2 k', VS c' env' ds2 → Step c0 c' → env'[0]? = some (.dk p k') → RV c'.f v d → Q0 v k' → Q d c'.m := fun v d c' env' ds2 k' W' s h0 rv q' => by
    obtain ⟨-, hd', o1, o2⟩ := W'.dk h0
    refine k v k' c'.f c'.m d hd' (fun b o hb1 hb2 e => s.keep b o (fun i z => ?_) e) s.dom s.mono W'.sub (fun b hb => ?_) rv q'
    · rcases z.2 with z | z
      · exact hb1 z
      · exact hb2 z
    · rcases s.acc b hb with z | z | ⟨_, z⟩
      · exact .inl z
      · exact .inr z
      · exfalso
        rcases z.2 with z | z
        · rw [z] at hb; exact hb (W'.fr 0 _ o1)
        · rw [z] at hb; exact hb (W'.fr 0 _ o2)
  exact h c0 _ _ _ _ W (hw p k0 args Q0 q) ⟨fun env' ds' c' W' s' ⟨k', h0, q'⟩ => fin .non .non c' env' ds' k' W' s' h0 .non q', fun v env' ds' c' d W' s' rv ⟨k', h0, q'⟩ => fin v d c' env' ds' k' W' s' h0 rv q', fun _ _ _ _ _ z => z.elim, fun _ _ _ _ _ z => z.elim, fun _ _ _ _ _ _ _ _ _ _ _ _ z => z.elim⟩
/-! ### the law -/
def vDeck (i j : Nat) : WS := fun E env => (∃ ns, env[i]? = some (.scr ns)) ∧ ∀ p, E.nx (env.set j (.dk p 0))
theorem sj_deck (i j : Nat) : SJ (vDeck i j) (dAsg (dCall sp__law_deck (dCons (dVar i) dNil)) (gN j)) := by
  intro c env ds E D W q k
  obtain ⟨⟨ns, h⟩, q⟩ := q
  obtain ⟨e1, hl⟩ := W.sl i _ h
  refine ⟨_, e1, ns, rfl, hl, fun m' p g hd h2 h1 => ?_⟩
  have W1 : VS ⟨c.f, c.O, m'⟩ env ds := W.grow g (Grow.refl _) (W.sub.trans g) fun b hb => .inl hb
  have s1 : Step c ⟨c.f, c.O, m'⟩ := Step.grow g (Grow.refl _) fun b hb => .inl hb
  have p1 := Priv.new W h1
  have p2 := Priv.new W h2
  have d1 : m' p.1 ≠ none := by
    obtain ⟨cells, t, gg, a1, a2, a3⟩ := hd
    rw [a1]; exact fun z => nomatch z
  have d2 : m' p.2 ≠ none := by
    obtain ⟨cells, t, gg, a1, a2, a3⟩ := hd
    rw [a2]; exact fun z => nomatch z
  have W2 := W1.set (i := j) (s := .dk p 0) (d := some (.ref p.1)) (A := fun a => a = p.1 ∨ a = p.2) ⟨rfl, hd, .inl rfl, .inr rfl⟩ (fun a ha => .inl (by rcases ha with z | z <;> rw [z]; exact ⟨p1.f, p1.o⟩; exact ⟨p2.f, p2.o⟩)) fun a ha => by rcases ha with z | z <;> rw [z] <;> assumption
  exact k.nx _ _ _ W2 (s1.set (i := j) (A := fun a => a = p.1 ∨ a = p.2) fun a ha => .inl (by rcases ha with z | z <;> rw [z] <;> assumption)) (q p)
theorem law_V {vb : WS} {b : DS} (n : Nat) (h : SJ vb b) (hw : ∀ ns : List Int, vb { nx := fun _ => False, rt := fun v _ => v = .bl true } (.scr ns :: List.replicate (n - 1) .no)) (ns : List Int) (hl : ns.length ≤ 63) :
    b { nx := fun _ m' => D.non = .bl true, rt := fun d _ => d = .bl true } (dstart n [.rol (ns.map .int)]) fun _ => none := by
  refine h ⟨fun _ => none, fun _ _ => False, fun _ => none⟩ _ _ _ _ ?_ (hw ns) ⟨fun _ _ _ _ _ z => z.elim, fun v env' ds' c' d W' s' rv q' => by subst q'; cases rv; rfl, fun _ _ _ _ _ z => z.elim, fun _ _ _ _ _ z => z.elim, fun _ _ _ _ _ _ _ _ _ _ _ _ z => z.elim⟩
  refine ⟨?_, fun _ _ h => h, fun i s hs => ?_, fun i j a h => h.elim, fun i a h => h.elim, fun i a h => h.elim⟩
  · simp [dstart]
  · cases i with
    | zero => cases hs; exact ⟨rfl, hl⟩
    | succ i =>
      rw [List.getElem?_cons_succ, List.getElem?_replicate] at hs
      split at hs
      · cases hs; trivial
      · cases hs
end DL
/-! VL: how loops are shown; the defs that all laws have. -/
namespace DL
open PySem PySem.Spec PyProof.Rows L2
theorem same_self (e : Ev) : Same e e = True := eq_true (Same.refl e)
/-- the ends of a loop's turn: what is next, behind it -/
structure Turn (E' E : VEnds) (P : Ev → Prop) : Prop where
  nx : ∀ env, P env → E'.nx env
  ct : ∀ env, P env → E'.ct env
  bk : ∀ env, E.nx env → E'.bk env
  rt : ∀ v env, E.rt v env → E'.rt v env
  xr : ∀ C f v env, E.xr C f v env → E'.xr C f v env
theorem vloop_by {g : WG} {body : WS} {E : VEnds} (I : List PV → Ev → Prop) (h0 : ∀ env, I [] env → E.nx env)
    (hs : ∀ x r env E', Turn E' E (I r) → I (x :: r) env → g x env fun env2 => body E' env2) : ∀ l env, I l env → vLoop g body l E env
  | [], env, h => h0 env h
  | x :: r, env, h => hs x r env { E with nx := vLoop g body r E, ct := vLoop g body r E, bk := E.nx } ⟨vloop_by I h0 hs r, vloop_by I h0 hs r, fun _ h => h, fun _ _ h => h, fun _ _ _ _ h => h⟩ h
theorem Turn.imp {E' E : VEnds} {P P' : Ev → Prop} (t : Turn E' E P) (h : ∀ env, P' env → P env) : Turn E' E P' := ⟨fun e p => t.nx e (h e p), fun e p => t.ct e (h e p), t.bk, t.rt, t.xr⟩
/-- a loop over places -/
theorem vloop_idx {g : WG} {body : WS} {E : VEnds} {n : Nat} {F : Nat → PV} {env : Ev} (I : Nat → Ev → Prop) (h : I 0 env) (h0 : ∀ env, I n env → E.nx env)
    (hs : ∀ i env E', i < n → Turn E' E (I (i + 1)) → I i env → g (F i) env fun env2 => body E' env2) : vLoop g body ((List.range n).map F) E env := by
  refine vloop_by (fun l env => ∃ i, l = ((List.range n).map F).drop i ∧ i ≤ n ∧ I i env) (fun env ⟨i, hi, hn, h⟩ => ?_) (fun x r env E' t ⟨i, hi, hn, h⟩ => ?_) _ _ ⟨0, rfl, Nat.zero_le _, h⟩
  · have : n - i = 0 := by
      have := congrArg List.length hi
      rw [List.length_drop] at this
      simpa using this.symm
    have : i = n := by omega
    exact h0 env (this ▸ h)
  · have hlt : i < n := by
      have := congrArg List.length hi
      rw [List.length_drop, List.length_cons] at this
      simp at this
      omega
    rw [List.drop_eq_getElem_cons (by simp; exact hlt)] at hi
    obtain ⟨hx, hr⟩ := List.cons.inj hi
    have hx : x = F i := by rw [hx]; simp
    subst hx
    exact hs i env E' hlt (t.imp fun env' h' => ⟨i + 1, hr, by omega, h'⟩) h
/-- a loop over the items of a list, by what stands ahead -/
theorem vloop_list {α : Type} {g : WG} {body : WS} {E : VEnds} {f : α → PV} {l : List α} {env : Ev} (I : List α → Ev → Prop) (h : I [] env) (h0 : ∀ env, I l env → E.nx env)
    (hs : ∀ done x r env E', l = done ++ x :: r → Turn E' E (I (done ++ [x])) → I done env → g (f x) env fun env2 => body E' env2) : vLoop g body (l.map f) E env := by
  refine vloop_by (fun r env => ∃ done r', r = r'.map f ∧ l = done ++ r' ∧ I done env) (fun env ⟨done, r', hr, hl, h⟩ => ?_) (fun x r env E' t ⟨done, r', hr, hl, h⟩ => ?_) _ _ ⟨[], l, rfl, rfl, h⟩
  · have hr : r' = [] := by simpa using hr.symm
    subst hr
    rw [List.append_nil] at hl
    exact h0 env (hl ▸ h)
  · cases r' with
    | nil => cases hr
    | cons y r' =>
      obtain ⟨rfl, rfl⟩ := List.cons.inj hr
      exact hs done y r' env E' hl (t.imp fun env' h' => ⟨done ++ [y], r', rfl, by rw [hl]; simp, h'⟩) h
theorem vwhile_by {t : WT} {body : WS} {E : VEnds} {env : Ev} (I : Nat → Ev → Prop) (n : Nat) (h : I n env)
    (turn : ∀ n env E', Turn E' E (fun env' => ∃ j, j < n ∧ I j env') → I n env → t env fun b env1 => if b = true then body E' env1 else E.nx env1) : vWhile t body E env :=
  ⟨I, ⟨n, h⟩, fun n env h => turn n env { E with nx := fun e' => ∃ j, j < n ∧ I j e', ct := fun e' => ∃ j, j < n ∧ I j e', bk := E.nx } ⟨fun _ h => h, fun _ h => h, fun _ h => h, fun _ _ h => h, fun _ _ _ _ h => h⟩ h⟩
/-! ### bodies, by their ends -/
structure Ends0 (E : VEnds) (Q0 : PV → Prop) : Prop where
  rt : ∀ v env, Q0 v → E.rt v env
  nx : ∀ env, Q0 .non → E.nx env
theorem body_f {w : WSp} {vb : WS} {b : DS} (n : Nat) (h : SJ vb b) (hw : ∀ l Q0 E, Ends0 E Q0 → w l Q0 → vb E (vstart n l)) :
    ∀ ds m Q, lV w ds m Q → b { nx := fun _ m' => Q .non m', rt := Q } (dstart n ds) m := body_V n h fun l Q0 q => hw l Q0 _ ⟨fun _ _ h => h, fun _ h => h⟩ q
structure EndsD (E : VEnds) (p : Addr × Addr) (Q0 : PV → Nat → Prop) : Prop where
  rt : ∀ v env k, env[0]? = some (.dk p k) → Q0 v k → E.rt v env
  nx : ∀ env k, env[0]? = some (.dk p k) → Q0 .non k → E.nx env
theorem body_d {w : WSpD} {vb : WS} {b : DS} (n : Nat) (hn : 0 < n) (h : SJ vb b) (hw : ∀ p k l Q0 E, EndsD E p Q0 → w k l Q0 → vb E (vstartD n p k l)) :
    ∀ ds m Q, lVD w ds m Q → b { nx := fun _ m' => Q .non m', rt := Q } (dstart n ds) m := body_VD n hn h fun p k l Q0 q => hw p k l Q0 _ ⟨fun v env k' h1 h2 => ⟨k', h1, h2⟩, fun env k' h1 h2 => ⟨k', h1, h2⟩⟩ q
theorem body_l {vb : WS} {b : DS} (n : Nat) (h : SJ vb b) (hw : ∀ ns E, (∀ env, E.rt (.bl true) env) → vb E (.scr ns :: List.replicate (n - 1) .no)) (ns : List Int) (hl : ns.length ≤ 63) :
    b { nx := fun _ m' => D.non = .bl true, rt := fun d _ => d = .bl true } (dstart n [.rol (ns.map .int)]) fun _ => none := law_V n h (fun ns => hw ns _ fun _ => rfl) ns hl
/-! ### comprehensions -/
theorem vlc_by {g : WG} {tt : WT} {te : WF} {vs : List Nat} {Q : List PV → Ev → Prop} {u : Fix Q} (I : List PV → List PV → Ev → Prop) (h0 : ∀ acc env, I [] acc env → Q acc (wipeP env vs))
    (hs : ∀ x r acc env (N1 : PV → Ev → Prop) (N2 : Ev → Prop), I (x :: r) acc env → (∀ v env', I r (acc ++ [v]) (wipeP env' vs) → acc.length < sizeLine → N1 v env') → (∀ env', I r acc (wipeP env' vs) → N2 env') → g x (wipeP env vs) fun env2 => tt env2 fun b env3 => if b = true then te env3 N1 else N2 env3) :
    ∀ l acc env, I l acc env → vLcL g tt te vs Q u l acc env
  | [], acc, env, h => h0 acc env h
  | x :: r, acc, env, h => hs x r acc env (fun v env4 => acc.length < sizeLine ∧ vLcL g tt te vs Q u r (acc ++ [v]) (wipeP env4 vs)) (fun env3 => vLcL g tt te vs Q u r acc (wipeP env3 vs)) h (fun v env' hi hz => ⟨hz, vlc_by I h0 hs r _ _ hi⟩) fun env' hi => vlc_by I h0 hs r _ _ hi
theorem wipe_wipeP (vs : List Nat) (env : Ev) : wipeP (wipeP env vs) vs = wipeP env vs := by
  apply List.ext_getElem?
  intro i
  rw [wipe_get, wipe_get]
  by_cases h : i ∈ vs
  · rw [if_pos h, if_pos h]
    cases env[i]? <;> rfl
  · rw [if_neg h]
/-- each item gives f of it -/
theorem vlc_map {α : Type} {h : α → PV} {g : WG} {te : WF} {vs : List Nat} {Q : List PV → Ev → Prop} {u : Fix Q} {env : Ev} {l : List α} (f : α → PV) (hz : l.length ≤ sizeLine)
    (hel : ∀ x ∈ l, ∀ N : PV → Ev → Prop, (∀ env4, wipeP env4 vs = wipeP env vs → N (f x) env4) → g (h x) (wipeP env vs) fun env2 => te env2 N) (hq : Q (l.map f) (wipeP env vs)) : vLcL g vYes te vs Q u (l.map h) [] env := by
  refine vlc_by (fun r acc e => ∃ done r', r = r'.map h ∧ l = done ++ r' ∧ acc = done.map f ∧ wipeP e vs = wipeP env vs) (fun acc e ⟨done, r', hr, hl, ha, he⟩ => ?_) (fun x r acc e N1 N2 ⟨done, r', hr, hl, ha, he⟩ h1 h2 => ?_) _ _ _ ⟨[], l, rfl, rfl, rfl, rfl⟩
  · have hr : r' = [] := by simpa using hr.symm
    subst hr
    rw [List.append_nil] at hl
    rw [he, ha, ← hl]
    exact hq
  · cases r' with
    | nil => cases hr
    | cons y r' =>
      obtain ⟨rfl, rfl⟩ := List.cons.inj hr
      rw [he]
      show g (h y) (wipeP env vs) fun env2 => if true = true then te env2 N1 else N2 env2
      simp only [if_true]
      refine hel y (by rw [hl]; simp) N1 fun env4 h4 => h1 _ _ ⟨done ++ [y], r', rfl, by rw [hl]; simp, by rw [ha]; simp, ?_⟩ ?_
      · rw [h4, wipe_wipeP]
      · have := congrArg List.length hl
        rw [List.length_append, List.length_cons] at this
        rw [ha, List.length_map]
        omega
theorem vlc_filter {α : Type} {h : α → PV} {g : WG} {tt : WT} {te : WF} {vs : List Nat} {Q : List PV → Ev → Prop} {u : Fix Q} {env : Ev} {l : List α} (c : α → Bool) (f : α → PV) (hz : l.length ≤ sizeLine)
    (hel : ∀ x ∈ l, ∀ (N1 : PV → Ev → Prop) (N2 : Ev → Prop), (c x = true → ∀ env4, wipeP env4 vs = wipeP env vs → N1 (f x) env4) → (c x = false → ∀ env4, wipeP env4 vs = wipeP env vs → N2 env4) → g (h x) (wipeP env vs) fun env2 => tt env2 fun b env3 => if b = true then te env3 N1 else N2 env3)
    (hq : Q ((l.filter c).map f) (wipeP env vs)) : vLcL g tt te vs Q u (l.map h) [] env := by
  refine vlc_by (fun r acc e => ∃ done r', r = r'.map h ∧ l = done ++ r' ∧ acc = (done.filter c).map f ∧ wipeP e vs = wipeP env vs) (fun acc e ⟨done, r', hr, hl, ha, he⟩ => ?_) (fun x r acc e N1 N2 ⟨done, r', hr, hl, ha, he⟩ h1 h2 => ?_) _ _ _ ⟨[], l, rfl, rfl, rfl, rfl⟩
  · have hr : r' = [] := by simpa using hr.symm
    subst hr
    rw [List.append_nil] at hl
    rw [he, ha, ← hl]
    exact hq
  · cases r' with
    | nil => cases hr
    | cons y r' =>
      obtain ⟨rfl, rfl⟩ := List.cons.inj hr
      rw [he]
      refine hel y (by rw [hl]; simp) N1 N2 (fun hc env4 h4 => h1 _ _ ⟨done ++ [y], r', rfl, by rw [hl]; simp, ?_, by rw [h4, wipe_wipeP]⟩ ?_) fun hc env4 h4 => h2 _ ⟨done ++ [y], r', rfl, by rw [hl]; simp, ?_, by rw [h4, wipe_wipeP]⟩
      · rw [ha, List.filter_append, List.filter_cons_of_pos hc, List.map_append]
        rfl
      · have := congrArg List.length hl
        have h3 := List.length_filter_le c done
        rw [List.length_append, List.length_cons] at this
        rw [ha, List.length_map]
        omega
      · rw [ha, List.filter_append, List.filter_cons_of_neg (by simp [hc])]
        simp
theorem vlc_mapI {g : WG} {te : WF} {vs : List Nat} {Q : List PV → Ev → Prop} {u : Fix Q} {env : Ev} {l : List PV} (f : PV → PV) (hz : l.length ≤ sizeLine)
    (hel : ∀ x ∈ l, ∀ N : PV → Ev → Prop, (∀ env4, wipeP env4 vs = wipeP env vs → N (f x) env4) → g x (wipeP env vs) fun env2 => te env2 N) (hq : Q (l.map f) (wipeP env vs)) : vLcL g vYes te vs Q u l [] env := by
  have := vlc_map (u := u) (h := fun x : PV => x) f hz hel hq
  rw [List.map_id'] at this
  exact this
theorem vlc_filterI {g : WG} {tt : WT} {te : WF} {vs : List Nat} {Q : List PV → Ev → Prop} {u : Fix Q} {env : Ev} {l : List PV} (c : PV → Bool) (f : PV → PV) (hz : l.length ≤ sizeLine)
    (hel : ∀ x ∈ l, ∀ (N1 : PV → Ev → Prop) (N2 : Ev → Prop), (c x = true → ∀ env4, wipeP env4 vs = wipeP env vs → N1 (f x) env4) → (c x = false → ∀ env4, wipeP env4 vs = wipeP env vs → N2 env4) → g x (wipeP env vs) fun env2 => tt env2 fun b env3 => if b = true then te env3 N1 else N2 env3)
    (hq : Q ((l.filter c).map f) (wipeP env vs)) : vLcL g tt te vs Q u l [] env := by
  have := vlc_filter (u := u) (h := fun x : PV => x) c f hz hel hq
  rw [List.map_id'] at this
  exact this
theorem vloop_listI {g : WG} {body : WS} {E : VEnds} {l : List PV} {env : Ev} (I : List PV → Ev → Prop) (h : I [] env) (h0 : ∀ env, I l env → E.nx env)
    (hs : ∀ done x r env E', l = done ++ x :: r → Turn E' E (I (done ++ [x])) → I done env → g x env fun env2 => body E' env2) : vLoop g body l E env := by
  have := vloop_list (f := fun x : PV => x) I h h0 hs
  rw [List.map_id'] at this
  exact this
/-! ### lengths of arguments -/
theorem len_lV {w : WSp} {k : Nat} (hw : ∀ l Q, w l Q → l.length = k) {ds : List D} {m : MH} {Q : DK} (h : lV w ds m Q) : ds.length = k := by
  obtain ⟨f, args, Q0, _, r, q, _⟩ := h
  rw [← r.len]
  exact hw _ _ q
theorem len_lVD {w : WSpD} {k : Nat} (hw : ∀ n l Q, w n l Q → l.length + 1 = k) {ds : List D} {m : MH} {Q : DK} (h : lVD w ds m Q) : ds.length = k := by
  obtain ⟨p, n, f, args, Q0, ds', rfl, _, _, _, _, r, q, _⟩ := h
  rw [List.length_cons, ← r.len]
  exact hw _ _ _ q
/-! ### the defs that all laws have -/
theorem VS.deckK {c : C3} {env : Ev} {ds : Sd} (W : VS c env ds) {i : Nat} {p : Addr × Addr} {n n' : Nat} {m' : MH} (h : env[i]? = some (.dk p n)) (hd : Deck m' p n') (hk : Keep p.1 c.m m') :
    VS ⟨c.f, c.O, m'⟩ (env.set i (.dk p n')) ds ∧ Step c ⟨c.f, c.O, m'⟩ := by
  obtain ⟨e1, d1, o1, o2⟩ := W.dk h
  refine W.deck h hd (fun b o hb _ e => hk b o hb e) (fun b hb => ?_) (Grow.refl _) (fun b o e => hk b o (fun z => ?_) (W.sub b o e)) fun b hb => .inl hb
  · by_cases e : b = p.1
    · obtain ⟨cells, t, gg, a1, a2, a3⟩ := hd
      rw [e, a1] at hb
      cases hb
    · cases e2 : c.m b with
      | none => rfl
      | some o => rw [hk b o e e2] at hb; cases hb
  · rw [z, W.fr i _ o1] at e
    cases e
def w__law_take : WSpD := fun n l Q => ∃ k : Int, l = [.int k] ∧ n ≤ 2 ^ 40 ∧ 0 < k ∧ k < 2 ^ 60 ∧ ∀ r, 0 ≤ r → r < k → Q (.int r) (n + 1)
theorem cv__law_take : CallVD sp__law_take w__law_take := by
  intro c env ds i p n l dl Q R W h rl q k
  obtain ⟨kk, rfl, h1, h2, h3, q⟩ := q
  obtain ⟨e1, d1, o1, o2⟩ := W.dk h
  cases rl with
  | cons r1 rr =>
    cases r1; cases rr
    refine ⟨p, n, kk, rfl, d1, h1, h2, h3, fun r m' r0 r1 hd hk => ?_⟩
    obtain ⟨W2, s2⟩ := W.deckK h hd hk
    exact k (.int r) (n + 1) ⟨c.f, c.O, m'⟩ _ W2 s2 (.int r) (q r r0 r1)
def itemsP : PV → List PV
  | .tup l => l
  | .lst l => l
  | _ => []
def w__law_one : WSpD := fun n l Q => ∃ v, l = [v] ∧ n ≤ 2 ^ 40 ∧ itemsP v ≠ [] ∧ (itemsP v).length < 2 ^ 30 ∧ ∀ x ∈ itemsP v, Q x (n + 1)
theorem cv__law_one : CallVD sp__law_one w__law_one := by
  intro c env ds i p n l dl Q R W h rl q k
  obtain ⟨v, rfl, h1, h2, h3, q⟩ := q
  obtain ⟨e1, d1, o1, o2⟩ := W.dk h
  cases rl with
  | cons rv rr =>
    cases rr
    have go : ∀ (xs : List PV) (dx : List D) d, itemsP v = xs → RVs c.f xs dx → (d = .tup dx ∨ ∃ q, d = .ref q ∧ c.m q = some (.lst dx)) → sp__law_one [.ref p.1, d] c.m R := by
      intro xs dx d hx rx hd
      rw [hx] at h2 h3 q
      refine ⟨p, n, d, dx, rfl, d1, h1, hd, fun z => h2 ?_, by rw [← rx.len]; exact h3, fun d m' hm hd hk => ?_⟩
      · subst z; cases rx; rfl
      · obtain ⟨x, hx, rv⟩ := rx.mem hm
        obtain ⟨W2, s2⟩ := W.deckK h hd hk
        exact k x (n + 1) ⟨c.f, c.O, m'⟩ _ W2 s2 rv (q x hx)
    cases rv with
    | tup r => exact go _ _ _ rfl r (.inl rfl)
    | lst e r => exact go _ _ _ rfl r (.inr ⟨_, rfl, W.sub _ _ e⟩)
    | _ => exact absurd rfl h2
/-- a tuple of whole numbers; of such -/
def tI (w : List Int) : PV := .tup (w.map .int)
def tW (ws : List (List Int)) : PV := .tup (ws.map tI)
theorem rv_tI {f : MH} (w : List Int) : RV f (tI w) (tInts w) := .tup (rvs_of_ints w)
theorem rvs_tW {f : MH} : ∀ ws : List (List Int), RVs f (ws.map tI) (wD ws)
  | [] => .nil
  | w :: ws => .cons (rv_tI w) (rvs_tW ws)
def w__law_code : WSpD := fun n l Q => ∃ (many deep : Nat) (s : Int), l = [.int s, .int many, .int deep] ∧ n ≤ 2 ^ 38 ∧ 2 ≤ s ∧ s ≤ 20 ∧ 1 ≤ many ∧ many ≤ 100 ∧ deep ≤ 100 ∧
  ∀ ws, Code s deep ws → ws.length ≤ many → (ws.length < many → ∀ w ∈ ws, deep ≤ w.length) → Q (tW ws) (n + 1000000)
theorem cv__law_code : CallVD sp__law_code w__law_code := by
  intro c env ds i p n l dl Q R W h rl q k
  obtain ⟨many, deep, s, rfl, h1, h2, h3, h4, h5, h6, q⟩ := q
  obtain ⟨e1, d1, o1, o2⟩ := W.dk h
  cases rl with
  | cons r1 rr =>
    cases rr with
    | cons r2 rr =>
      cases rr with
      | cons r3 rr =>
        cases r1; cases r2; cases r3; cases rr
        refine ⟨p, n, many, deep, s, rfl, d1, h1, h2, h3, h4, h5, h6, fun m' ws hk hd hc hl hf => ?_⟩
        obtain ⟨W2, s2⟩ := W.deckK h hd hk
        exact k (tW ws) (n + 1000000) ⟨c.f, c.O, m'⟩ _ W2 s2 (.tup (rvs_tW ws)) (q ws hc hl hf)
theorem rvs_int1 {f : MH} {ws : List Int} {d : D} (r : RV f (tI ws) d) : d = tInts ws := by
  cases r with
  | tup r => rw [rvs_ints r]; rfl
def w__law_starts : WSp := fun l Q => ∃ a b, l = [tI a, tI b] ∧ Q (.bl (isPre a b))
theorem cv__law_starts : CallV sp__law_starts w__law_starts := by
  intro c env ds l dl Q R W rl q k
  obtain ⟨a, b, rfl, q⟩ := q
  cases rl with
  | cons r1 rr =>
    cases rr with
    | cons r2 rr =>
      cases rr
      rw [rvs_int1 r1, rvs_int1 r2]
      exact ⟨a, b, rfl, fun m' g => k _ ⟨c.f, c.O, m'⟩ _ (W.grow g (Grow.refl _) (W.sub.trans g) fun b hb => .inl hb) (Step.grow g (Grow.refl _) fun b hb => .inl hb) (.bl _) q⟩
def w_is_start : WSp := w__law_starts
theorem cv_is_start : CallV sp_is_start w_is_start := by
  intro c env ds l dl Q R W rl q k
  obtain ⟨a, b, rfl, q⟩ := q
  cases rl with
  | cons r1 rr =>
    cases rr with
    | cons r2 rr =>
      cases rr
      rw [rvs_int1 r1, rvs_int1 r2]
      exact ⟨a, b, rfl, k _ c _ W (Step.refl c) (.bl _) q⟩
def w__law_words : WSp := fun l Q => ∃ s k : Nat, l = [.int s, .int k] ∧ s ≤ 10 ∧ k ≤ 5 ∧ Q (.lst ((allWords s k).map tI))
theorem cv__law_words : CallV sp__law_words w__law_words := by
  intro c env ds l dl Q R W rl q k
  obtain ⟨s, n, rfl, h1, h2, q⟩ := q
  cases rl with
  | cons r1 rr =>
    cases rr with
    | cons r2 rr =>
      cases r1; cases r2; cases rr
      refine ⟨s, n, rfl, h1, h2, fun m' p g hp e => ?_⟩
      have W1 : VS ⟨c.f, c.O, m'⟩ env ds := W.grow g (Grow.refl _) (W.sub.trans g) fun b hb => .inl hb
      have s1 : Step c ⟨c.f, c.O, m'⟩ := Step.grow g (Grow.refl _) fun b hb => .inl hb
      have pr := Priv.new W hp
      have pr1 : Priv ⟨c.f, c.O, m'⟩ p := ⟨pr.f, pr.o⟩
      exact k _ _ _ (W1.freeze pr1 e) (s1.freeze pr1 (.inl hp)) (.lst mup_same (rvs_tW _)) q
end DL
/-! VL: written values, equal values, order. -/
namespace DL
open PySem PySem.Spec PyProof.Rows L2
open PySem.W (dataLt dataLt_tuple dataLt_cons dataLt_int alike alikeAll AllAlike AlikeAll dataLe minD)
/-! ### dicts -/
section
variable {κ α : Type} [DecidableEq κ]
theorem look_cons (x : κ × α) (l : List (κ × α)) (j : κ) : look (x :: l) j = if x.1 = j then some x.2 else look l j := by
  unfold look
  rw [List.find?_cons]
  by_cases h : x.1 = j
  · rw [decide_eq_true h, if_pos h]
    rfl
  · rw [decide_eq_false h, if_neg h]
theorem look_map (k j : κ) (v : α) : ∀ l : List (κ × α), look (l.map fun kv => if kv.1 = k then (kv.1, v) else kv) j = if j = k then (look l j).map fun _ => v else look l j
  | [] => by
    split <;> rfl
  | x :: l => by
    rw [List.map_cons, look_cons, look_cons, look_map k j v l]
    by_cases hx : x.1 = k
    · rw [if_pos hx]
      by_cases hj : j = k
      · rw [if_pos hj, if_pos hj, if_pos (show x.1 = j by rw [hx, hj]), if_pos (show x.1 = j by rw [hx, hj])]
        rfl
      · have h1 : ¬ x.1 = j := fun z => hj (by rw [← z, hx])
        have h2 : ¬ ((x.1, v) : κ × α).1 = j := h1
        rw [if_neg hj, if_neg hj, if_neg h2, if_neg h1]
    · rw [if_neg hx]
      by_cases hj : j = k
      · have h1 : ¬ x.1 = j := fun z => hx (by rw [z, hj])
        rw [if_pos hj, if_pos hj, if_neg h1, if_neg h1]
      · rw [if_neg hj, if_neg hj]
theorem look_app (k j : κ) (v : α) : ∀ l : List (κ × α), (l.any fun kv => decide (kv.1 = k)) = false → look (l ++ [(k, v)]) j = if j = k then some v else look l j
  | [], _ => by
    rw [List.nil_append, look_cons]
    by_cases h : j = k
    · rw [if_pos h, if_pos h.symm]
    · rw [if_neg h, if_neg fun z => h z.symm]
  | x :: l, h => by
    rw [List.any_cons, Bool.or_eq_false_iff] at h
    have hx : ¬ x.1 = k := of_decide_eq_false h.1
    rw [List.cons_append, look_cons, look_cons, look_app k j v l h.2]
    by_cases hj : j = k
    · have h1 : ¬ x.1 = j := fun z => hx (by rw [z, hj])
      rw [if_pos hj, if_pos hj, if_neg h1]
    · rw [if_neg hj, if_neg hj]
theorem look_any (k : κ) : ∀ l : List (κ × α), (l.any fun kv => decide (kv.1 = k)) = true → ∃ u, look l k = some u
  | [], h => by cases h
  | x :: l, h => by
    rw [look_cons]
    by_cases hx : x.1 = k
    · exact ⟨x.2, if_pos hx⟩
    · rw [if_neg hx]
      rw [List.any_cons, decide_eq_false hx, Bool.false_or] at h
      exact look_any k l h
theorem look_stored (k j : κ) (v : α) (l : List (κ × α)) : look (stored l k v) j = if j = k then some v else look l j := by
  unfold stored
  cases h : l.any fun kv => decide (kv.1 = k) with
  | true =>
    rw [if_pos rfl, look_map]
    by_cases hj : j = k
    · obtain ⟨u, hu⟩ := look_any k l h
      rw [if_pos hj, if_pos hj, hj, hu]
      rfl
    · rw [if_neg hj, if_neg hj]
  | false =>
    rw [if_neg (by simp), look_app k j v l h]
theorem stored_len (k : κ) (v : α) (l : List (κ × α)) : (stored l k v).length ≤ l.length + 1 := by
  unfold stored
  split
  · rw [List.length_map]
    exact Nat.le_succ _
  · simp
end
/-! ### written values -/
structure Wr (v : PV) (d w : Nat) : Prop where
  lf : lfD v = true
  rp : Rp (ppv v) d w
structure WrL (l : List PV) (d w : Nat) : Prop where
  lf : lfDs l = true
  rp : Rps (ppvs l) d w
theorem Wr.mono {v : PV} {d w d' w' : Nat} (h : Wr v d w) (hd : d ≤ d') (hw : w ≤ w') : Wr v d' w' := ⟨h.lf, h.rp.mono hd hw⟩
theorem Rps.mono {v : List PyData} {d w d' w' : Nat} (h : Rps v d w) (hd : d ≤ d') (hw : w ≤ w') : Rps v d' w' := ⟨h.sh, h.sl, Nat.le_trans h.dp hd, Nat.le_trans h.wt hw⟩
theorem WrL.mono {v : List PV} {d w d' w' : Nat} (h : WrL v d w) (hd : d ≤ d') (hw : w ≤ w') : WrL v d' w' := ⟨h.lf, h.rp.mono hd hw⟩
theorem Wr.non : Wr .non 0 0 := ⟨by rw [lfD], by rw [ppv]; exact Rp.none⟩
theorem Wr.bl (b : Bool) : Wr (.bl b) 0 0 := ⟨by rw [lfD], by rw [ppv]; exact Rp.bool b⟩
theorem Wr.int {i : Int} {k : Nat} (h : i.natAbs < 2 ^ k) (hk : k ≤ 150) : Wr (.int i) 0 k := ⟨by rw [lfD], by rw [ppv]; exact Rp.int h hk⟩
theorem WrL.nil {d w : Nat} : WrL [] d w := ⟨by rw [lfDs], by rw [ppvs]; exact Rps.nil⟩
theorem WrL.cons {v : PV} {l : List PV} {d w w1 w2 : Nat} (h : Wr v d w1) (t : WrL l d w2) (hw : w1 + 1 + w2 ≤ w) : WrL (v :: l) d w := ⟨by rw [lfDs, h.lf, t.lf]; rfl, by rw [ppvs]; exact Rps.cons h.rp t.rp hw⟩
theorem WrL.tup {l : List PV} {d w : Nat} (h : WrL l d w) : Wr (.tup l) (d + 1) w := ⟨by rw [lfD, h.lf], by rw [ppv]; exact h.rp.tuple⟩
theorem WrL.lst {l : List PV} {d w : Nat} (h : WrL l d w) : Wr (.lst l) (d + 1) w := ⟨by rw [lfD, h.lf], by rw [ppv]; exact h.rp.list⟩
theorem WrL.all {d M k : Nat} : ∀ {l : List PV}, (∀ x ∈ l, Wr x d M) → l.length ≤ k → WrL l d (k * (M + 1))
  | [], _, _ => WrL.nil
  | x :: l, h, hk => by
    have t := WrL.all (k := k - 1) (l := l) (fun y hy => h y (by simp [hy])) (by rw [List.length_cons] at hk; omega)
    refine WrL.cons (h x (by simp)) t ?_
    rw [List.length_cons] at hk
    obtain ⟨j, rfl⟩ : ∃ j, k = j + 1 := ⟨k - 1, by omega⟩
    rw [Nat.add_sub_cancel, Nat.add_mul]
    omega
theorem WrL.ints {k n : Nat} {ns : List Int} (hk : k ≤ 150) (h : ∀ i ∈ ns, i.natAbs < 2 ^ k) (hn : ns.length ≤ n) : WrL (ns.map .int) 0 (n * (k + 1)) :=
  WrL.all (fun x hx => by obtain ⟨i, hi, rfl⟩ := List.mem_map.mp hx; exact Wr.int (h i hi) hk) (by rw [List.length_map]; exact hn)
theorem Wr.tI {k n : Nat} {ns : List Int} (hk : k ≤ 150) (h : ∀ i ∈ ns, i.natAbs < 2 ^ k) (hn : ns.length ≤ n) : Wr (tI ns) 1 (n * (k + 1)) := (WrL.ints hk h hn).tup
theorem x_repr {v : PV} {d w : Nat} {Q : Rs → Prop} (h : Wr v d w) (hd : d ≤ 40) (hw : w ≤ 200000) (q : Q (.va (.str (ppv v).shown))) : xRepr v Q := ⟨h.lf, h.rp.sh, Nat.le_trans h.rp.dp hd, h.rp.fits hw, q⟩
/-- two texts that were written of the same -/
theorem x_ne_same {x y : Str} {Q : Rs → Prop} (h : x = y) (q : Q (.va (.bl false))) : xNe (.str x) (.str y) Q := .inl ⟨x, y, rfl, rfl, true, by rw [decide_eq_true h], q⟩
/-! ### equal values -/
theorem ppvs_ints : ∀ ns : List Int, ppvs (ns.map .int) = ns.map .int
  | [] => by rw [List.map_nil, ppvs]; rfl
  | n :: ns => by rw [List.map_cons, ppvs, ppvs_ints ns, ppv]; rfl
theorem ppv_tI (ns : List Int) : ppv (tI ns) = wP ns := by rw [tI, ppv, ppvs_ints]; rfl
theorem noDs_ints : ∀ ns : List Int, noDs (ns.map .int) = true
  | [] => by rw [List.map_nil, noDs]
  | n :: ns => by rw [List.map_cons, noDs, noDs_ints ns, noD]; rfl
theorem noD_tI (ns : List Int) : noD (tI ns) = true := by rw [tI, noD, noDs_ints]
theorem noDs_tIs : ∀ ws : List (List Int), noDs (ws.map tI) = true
  | [] => by rw [List.map_nil, noDs]
  | n :: ns => by rw [List.map_cons, noDs, noDs_tIs ns, noD_tI]; rfl
theorem ppvs_tIs (ws : List (List Int)) : ppvs (ws.map tI) = ws.map wP := by
  rw [ppvs_map]
  exact List.map_congr_left fun w _ => ppv_tI w
theorem x_eq_int {i j : Int} {Q : Rs → Prop} (q : Q (.va (.bl (decide (i = j))))) : xEq (.int i) (.int j) Q := by
  refine .inr (.inl ⟨by rw [noD], by rw [noD], by rw [ppv]; exact shaped_int i, by rw [ppv]; exact shaped_int j, ?_⟩)
  rw [ppv, ppv, PyData.eqv, show (i == j) = decide (i = j) from rfl]
  exact q
theorem x_ne_int {i j : Int} {Q : Rs → Prop} (q : Q (.va (.bl (!decide (i = j))))) : xNe (.int i) (.int j) Q := x_eq_int ⟨_, rfl, q⟩
theorem x_eq_bl {i j : Bool} {Q : Rs → Prop} (q : Q (.va (.bl (i == j)))) : xEq (.bl i) (.bl j) Q := by
  refine .inr (.inl ⟨by rw [noD], by rw [noD], by rw [ppv]; cases i <;> decide +kernel, by rw [ppv]; cases j <;> decide +kernel, ?_⟩)
  rw [ppv, ppv, PyData.eqv]
  exact q
theorem x_ne_bl {i j : Bool} {Q : Rs → Prop} (q : Q (.va (.bl (!(i == j))))) : xNe (.bl i) (.bl j) Q := x_eq_bl ⟨_, rfl, q⟩
theorem x_eq_tI {a b : List Int} {Q : Rs → Prop} (q : Q (.va (.bl (decide (a = b))))) : xEq (tI a) (tI b) Q := by
  refine .inr (.inl ⟨noD_tI a, noD_tI b, by rw [ppv_tI]; exact shaped_tints a, by rw [ppv_tI]; exact shaped_tints b, ?_⟩)
  rw [ppv_tI, ppv_tI, wP, wP, PyData.eqv, eqv_ints]
  exact q
theorem x_ne_tI {a b : List Int} {Q : Rs → Prop} (q : Q (.va (.bl (!decide (a = b))))) : xNe (tI a) (tI b) Q := x_eq_tI ⟨_, rfl, q⟩
/-- against the empty tuple -/
theorem x_eq_tnil {l : List PV} {Q : Rs → Prop} (q : Q (.va (.bl l.isEmpty))) : xEq (.tup l) (.tup []) Q := .inr (.inr ⟨l, rfl, rfl, q⟩)
theorem x_ne_tnil {l : List PV} {Q : Rs → Prop} (q : Q (.va (.bl (!l.isEmpty)))) : xNe (.tup l) (.tup []) Q := x_eq_tnil ⟨_, rfl, q⟩
theorem x_eq_lI {a b : List Int} {Q : Rs → Prop} (q : Q (.va (.bl (decide (a = b))))) : xEq (.lst (a.map .int)) (.lst (b.map .int)) Q := by
  have e : ∀ a : List Int, noD (.lst (a.map .int)) = true := fun a => by rw [noD, noDs_ints]
  refine .inr (.inl ⟨e a, e b, by rw [ppv, ppvs_ints]; exact shaped_lints a, by rw [ppv, ppvs_ints]; exact shaped_lints b, ?_⟩)
  rw [ppv, ppv, ppvs_ints, ppvs_ints, PyData.eqv, eqv_ints]
  exact q
theorem x_ne_lI {a b : List Int} {Q : Rs → Prop} (q : Q (.va (.bl (!decide (a = b))))) : xNe (.lst (a.map .int)) (.lst (b.map .int)) Q := x_eq_lI ⟨_, rfl, q⟩
/-- tuples of words -/
theorem shaped_tw (ws : List (List Int)) : SeqAt.shaped (.tuple (ws.map wP)) = true := shaped_of (by rw [PyData.canLay0]; exact lay_words ws) (by rw [PyData.depth]; have := depth_words ws; omega)
theorem shaped_lw (ws : List (List Int)) : SeqAt.shaped (.list (ws.map wP)) = true := shaped_of (by rw [PyData.canLay0]; exact lay_words ws) (by rw [PyData.depth]; have := depth_words ws; omega)
theorem eqv_words : ∀ (a b : List (List Int)), PyData.eqvAll (a.map wP) (b.map wP) = decide (a = b)
  | [], [] => by simp [PyData.eqvAll]
  | [], m :: ms => by simp [PyData.eqvAll]
  | n :: ns, [] => by simp [PyData.eqvAll]
  | n :: ns, m :: ms => by
    rw [List.map_cons, List.map_cons, PyData.eqvAll, eqv_words ns ms, wP, wP, PyData.eqv, eqv_ints]
    by_cases h1 : n = m <;> by_cases h2 : ns = ms <;> simp [h1, h2]
theorem x_eq_tW {a b : List (List Int)} {Q : Rs → Prop} (q : Q (.va (.bl (decide (a = b))))) : xEq (tW a) (tW b) Q := by
  have e : ∀ a : List (List Int), noD (tW a) = true := fun a => by rw [tW, noD, noDs_tIs]
  refine .inr (.inl ⟨e a, e b, by rw [tW, ppv, ppvs_tIs]; exact shaped_tw a, by rw [tW, ppv, ppvs_tIs]; exact shaped_tw b, ?_⟩)
  rw [tW, tW, ppv, ppv, ppvs_tIs, ppvs_tIs, PyData.eqv, eqv_words]
  exact q
theorem x_ne_tW {a b : List (List Int)} {Q : Rs → Prop} (q : Q (.va (.bl (!decide (a = b))))) : xNe (tW a) (tW b) Q := x_eq_tW ⟨_, rfl, q⟩
theorem x_eq_lW {a b : List (List Int)} {Q : Rs → Prop} (q : Q (.va (.bl (decide (a = b))))) : xEq (.lst (a.map tI)) (.lst (b.map tI)) Q := by
  have e : ∀ a : List (List Int), noD (.lst (a.map tI)) = true := fun a => by rw [noD, noDs_tIs]
  refine .inr (.inl ⟨e a, e b, by rw [ppv, ppvs_tIs]; exact shaped_lw a, by rw [ppv, ppvs_tIs]; exact shaped_lw b, ?_⟩)
  rw [ppv, ppv, ppvs_tIs, ppvs_tIs, PyData.eqv, eqv_words]
  exact q
theorem x_ne_lW {a b : List (List Int)} {Q : Rs → Prop} (q : Q (.va (.bl (!decide (a = b))))) : xNe (.lst (a.map tI)) (.lst (b.map tI)) Q := x_eq_lW ⟨_, rfl, q⟩
/-- lists against the empty one -/
theorem x_eq_lnil {l : List PV} {Q : Rs → Prop} (h : noDs l = true) (hs : SeqAt.shaped (.list (ppvs l)) = true) (q : Q (.va (.bl l.isEmpty))) : xEq (.lst l) (.lst []) Q := by
  refine .inr (.inl ⟨by rw [noD]; exact h, by rw [noD, noDs], by rw [ppv]; exact hs, by rw [ppv, ppvs]; exact shaped_lints [], ?_⟩)
  have e : PyData.eqv (ppv (.lst l)) (ppv (.lst [])) = l.isEmpty := by
    cases l with
    | nil => rw [ppv, ppvs, PyData.eqv, PyData.eqvAll]; rfl
    | cons v l => rw [ppv, ppv, ppvs, ppvs, PyData.eqv, PyData.eqvAll]; rfl
  rw [e]
  exact q
theorem x_ne_lnil {l : List PV} {Q : Rs → Prop} (h : noDs l = true) (hs : SeqAt.shaped (.list (ppvs l)) = true) (q : Q (.va (.bl (!l.isEmpty)))) : xNe (.lst l) (.lst []) Q := x_eq_lnil h hs ⟨_, rfl, q⟩
/-! ### membership -/
theorem mem_lW {w : List Int} {ws : List (List Int)} : mem? (tI w) (.lst (ws.map tI)) (decide (w ∈ ws)) :=
  ⟨noD_tI w, noDs_tIs ws, by rw [ppv_tI]; exact shaped_tints w, by rw [ppvs_tIs]; exact shaped_lw ws, by rw [ppvs_tIs, ppv_tI]; exact (any_words w ws).symm⟩
theorem mem_tW {w : List Int} {ws : List (List Int)} : mem? (tI w) (tW ws) (decide (w ∈ ws)) :=
  ⟨noD_tI w, noDs_tIs ws, by rw [ppv_tI]; exact shaped_tints w, by rw [ppvs_tIs]; exact shaped_tw ws, by rw [ppvs_tIs, ppv_tI]; exact (any_words w ws).symm⟩
/-! ### sorted, min of data -/
theorem rvs_zipped {f : MH} : ∀ {l : List PV} {ds : List D}, RVs f l ds → (ds.zip l).map (·.1) = ds ∧ (ds.zip l).map (·.2) = l ∧ ∀ q ∈ ds.zip l, RV f q.2 q.1
  | _, _, .nil => ⟨rfl, rfl, fun _ h => nomatch h⟩
  | _, _, .cons r t => by
    obtain ⟨h1, h2, h3⟩ := rvs_zipped t
    refine ⟨by rw [List.zip_cons_cons, List.map_cons, h1], by rw [List.zip_cons_cons, List.map_cons, h2], fun q hq => ?_⟩
    rw [List.zip_cons_cons] at hq
    rcases List.mem_cons.mp hq with z | z
    · rw [z]; exact r
    · exact h3 q z
theorem rvs_pairs {f : MH} : ∀ l : List (D × PV), (∀ q ∈ l, RV f q.2 q.1) → RVs f (l.map (·.2)) (l.map (·.1))
  | [], _ => .nil
  | q :: l, h => .cons (h q (by simp)) (rvs_pairs l fun q hq => h q (by simp [hq]))
def leV (u v : PV) : Bool := dataLe false ppv u v
def xSorted : WB
  | .lst l, Q => noDs l = true ∧ AllAlike (ppvs l) ∧ (∀ v ∈ l, (∃ xs, v = .tup xs) ∧ (ppv v).depth ≤ 40) ∧ Q (.ow (.lst (l.mergeSort leV)))
  | _, _ => False
theorem mem_zip_snd {q : D × PV} {ds : List D} {l : List PV} (h : q ∈ ds.zip l) : q.2 ∈ l := (List.of_mem_zip h).2
theorem bv_sorted : B1V bSorted xSorted := by
  intro c env ds x dx Q R W rx q k
  cases x <;> try exact q.elim
  rename_i l
  obtain ⟨h1, h2, h3, q⟩ := q
  obtain ⟨a, xs, rfl, h4, r⟩ := rx
  obtain ⟨z1, z2, z3⟩ := rvs_zipped r
  have henc : (xs.zip l).map (fun q => ppv q.2) = ppvs l := by
    have : (xs.zip l).map (fun q => ppv q.2) = ((xs.zip l).map (·.2)).map ppv := by rw [List.map_map]; rfl
    rw [this, z2]
    have := ppvs_map (fun v : PV => v) l
    simpa using this.symm
  refine ⟨a, D × PV, xs.zip l, (·.1), fun q => ppv q.2, rfl, by rw [z1]; exact h4, fun b hb => pd_of W.sub (z3 b hb) (noDs_mem h1 (mem_zip_snd hb)), by rw [henc]; exact h2, fun b hb => ?_, fun b hb => (h3 _ (mem_zip_snd hb)).2, fun p hp => ?_⟩
  · obtain ⟨ys, e⟩ := (h3 _ (mem_zip_snd hb)).1
    exact ⟨ppvs ys, by show ppv b.2 = _; rw [e, ppv]⟩
  · have hm : ((xs.zip l).mergeSort (dataLe false fun q => ppv q.2)).map (·.2) = l.mergeSort leV := by
      refine (List.map_mergeSort (r := dataLe false fun q : D × PV => ppv q.2) (s := leV) (f := fun q : D × PV => q.2) (l := xs.zip l) fun a _ b _ => rfl).trans ?_
      rw [z2]
    have rr := rvs_pairs (f := c.f) ((xs.zip l).mergeSort (dataLe false fun q => ppv q.2)) fun q hq => z3 q (List.mem_mergeSort.mp hq)
    rw [hm] at rr
    obtain ⟨W4, s4, r4⟩ := new_rr (v := .lst _) (o := .lst _) W (Step.refl c) rr hp
    exact k _ _ _ W4 s4 r4 q
def xMinL : WB
  | .lst (v0 :: vs), Q => noDs (v0 :: vs) = true ∧ AlikeAll (ppvs (v0 :: vs)) ∧ PyData.depthAll (ppvs (v0 :: vs)) ≤ 40 ∧ ∀ v ∈ v0 :: vs, ppv v = minD (ppv v0) (ppvs vs) → Q (.va v)
  | _, _ => False
theorem bv_minL : B1V bMinT xMinL := by
  intro c env ds x dx Q R W rx q k
  cases x <;> try exact q.elim
  rename_i l
  cases l with
  | nil => exact q.elim
  | cons v0 vs =>
    obtain ⟨h1, h2, h3, q⟩ := q
    obtain ⟨a, xs, rfl, h4, r⟩ := rx
    obtain ⟨z1, z2, z3⟩ := rvs_zipped r
    cases r with
    | @cons _ d0 _ ds0 r0 rr =>
      have henc : ∀ (xs : List D) (l : List PV), (xs.zip l).map (·.2) = l → (xs.zip l).map (fun q => ppv q.2) = ppvs l := by
        intro xs l z2
        have : (xs.zip l).map (fun q => ppv q.2) = ((xs.zip l).map (·.2)).map ppv := by rw [List.map_map]; rfl
        rw [this, z2]
        have := ppvs_map (fun v : PV => v) l
        simpa using this.symm
      have z2' := (rvs_zipped rr).2.1
      have e0 : (d0, v0) :: ds0.zip vs = (d0 :: ds0).zip (v0 :: vs) := (List.zip_cons_cons).symm
      refine .inr ⟨a, D × PV, (d0, v0), ds0.zip vs, (·.1), fun q => ppv q.2, rfl, by rw [e0, z1]; exact h4, fun b hb => ?_, by rw [e0, henc _ _ z2]; exact h2, by rw [e0, henc _ _ z2]; exact h3, fun b hb e => ?_⟩
      · rw [e0] at hb
        exact pd_of W.sub (z3 b hb) (noDs_mem h1 (mem_zip_snd hb))
      · rw [e0] at hb
        rw [henc _ _ z2'] at e
        exact k (.va b.2) c _ W (Step.refl c) (z3 b hb) (q _ (mem_zip_snd hb) e)
/-- words sorted -/
theorem leV_tI (u v : List Int) : leV (tI u) (tI v) = wLe u v := by
  unfold leV
  rw [PySem.W.dataLe_eq]
  show (!dataLt (ppv (tI v)) (ppv (tI u))) = _
  rw [ppv_tI, ppv_tI, lt_words]
  rfl
theorem x_sorted_words {ws : List (List Int)} {Q : Rs → Prop} (q : Q (.ow (.lst ((ws.mergeSort wLe).map tI)))) : xSorted (.lst (ws.map tI)) Q := by
  refine ⟨noDs_tIs ws, by rw [ppvs_tIs]; exact PySem.W.AllAlike.of alike_words, fun v hv => ?_, ?_⟩
  · obtain ⟨w, _, rfl⟩ := List.mem_map.mp hv
    refine ⟨⟨_, rfl⟩, ?_⟩
    rw [ppv_tI, wP, PyData.depth, depth_ints]
    decide
  · rw [← List.map_mergeSort (r := wLe) (s := leV) (f := tI) fun a _ b _ => (leV_tI a b).symm]
    exact q
/-! ### pairs of a number and a row -/
def qP (x : Int × List Int) : PV := .tup [.int x.1, tI x.2]
def qY (x : Int × List Int) : PyData := .tuple [.int x.1, wP x.2]
theorem ppv_qP (x : Int × List Int) : ppv (qP x) = qY x := by rw [qP, ppv, ppvs, ppvs, ppvs, ppv, ppv_tI]; rfl
theorem noD_qP (x : Int × List Int) : noD (qP x) = true := by rw [qP, noD, noDs, noDs, noDs, noD, noD_tI]; rfl
theorem ppvs_qP (l : List (Int × List Int)) : ppvs (l.map qP) = l.map qY := by
  rw [ppvs_map]
  exact List.map_congr_left fun w _ => ppv_qP w
theorem noDs_qP : ∀ l : List (Int × List Int), noDs (l.map qP) = true
  | [] => by rw [List.map_nil, noDs]
  | n :: ns => by rw [List.map_cons, noDs, noDs_qP ns, noD_qP]; rfl
theorem lt_qY (u v : Int × List Int) : dataLt (qY u) (qY v) = if u.1 = v.1 then HT.lexLt u.2 v.2 else decide (u.1 < v.1) := by
  rw [qY, qY, dataLt_tuple, dataLt_cons (alike_ints _ _), dataLt_cons (alike_words _ _), PyData.eqv, dataLt_int, lt_words, wP, wP, PyData.eqv, eqv_ints]
  by_cases h : u.1 = v.1
  · rw [if_pos h, if_pos (by simpa using h)]
    by_cases e : u.2 = v.2
    · rw [if_pos (by simpa using e), e, lexLt_lt, decide_eq_false (List.lt_irrefl v.2)]
      decide
    · rw [if_neg (by simpa using e)]
  · rw [if_neg h, if_neg (by simpa using h)]
theorem alike_qY (u v : Int × List Int) : alike (qY u) (qY v) = true := by
  rw [qY, qY, alike, alikeAll, alikeAll, alikeAll, alike_ints, alike_words]
  rfl
theorem depth_qY (u : Int × List Int) : (qY u).depth = 2 := by
  rw [qY, PyData.depth, PyData.depthAll, PyData.depthAll, PyData.depthAll, wP, PyData.depth, PyData.depth, depth_ints]
  decide
theorem depths_qY (l : List (Int × List Int)) : PyData.depthAll (l.map qY) ≤ 2 := by
  induction l with
  | nil => rw [List.map_nil, PyData.depthAll]; decide
  | cons w ws ih =>
    rw [List.map_cons, PyData.depthAll, depth_qY]
    exact Nat.max_le.mpr ⟨by decide, ih⟩
def qLe (u v : Int × List Int) : Prop := u.1 < v.1 ∨ (u.1 = v.1 ∧ u.2 ≤ v.2)
theorem lt_qLe (u v : Int × List Int) : dataLt (qY v) (qY u) = false ↔ qLe u v := by
  rw [lt_qY, lexLt_lt]
  unfold qLe
  by_cases h : v.1 = u.1
  · rw [if_pos h, decide_eq_false_iff_not, List.not_lt]
    constructor
    · exact fun k => .inr ⟨h.symm, k⟩
    · rintro (k | k)
      · omega
      · exact k.2
  · rw [if_neg h, decide_eq_false_iff_not]
    constructor
    · exact fun k => .inl (by omega)
    · rintro (k | k)
      · omega
      · exact absurd k.1.symm h
theorem qLe_trans {u v w : Int × List Int} (h1 : qLe u v) (h2 : qLe v w) : qLe u w := by
  rcases h1 with h1 | ⟨h1, k1⟩ <;> rcases h2 with h2 | ⟨h2, k2⟩
  · exact .inl (by omega)
  · exact .inl (by omega)
  · exact .inl (by omega)
  · exact .inr ⟨by omega, List.le_trans k1 k2⟩
theorem qLe_refl (u : Int × List Int) : qLe u u := .inr ⟨rfl, List.le_refl _⟩
theorem qLe_total (u v : Int × List Int) : qLe u v ∨ qLe v u := by
  rcases Int.lt_trichotomy u.1 v.1 with h | h | h
  · exact .inl (.inl h)
  · rcases List.le_total u.2 v.2 with k | k
    · exact .inl (.inr ⟨h, k⟩)
    · exact .inr (.inr ⟨h.symm, k⟩)
  · exact .inr (.inl h)
theorem qLe_anti {u v : Int × List Int} (h1 : qLe u v) (h2 : qLe v u) : u = v := by
  obtain ⟨a, r⟩ := u
  obtain ⟨b, t⟩ := v
  rcases h1 with h1 | ⟨h1, k1⟩ <;> rcases h2 with h2 | ⟨h2, k2⟩ <;> simp only at h1 h2
  · omega
  · omega
  · omega
  · subst h1
    exact congrArg (fun l => (a, l)) (List.le_antisymm k1 k2)
theorem qLe_cons {n m k p : Int} {r t : List Int} (h : qLe (n, r) (m, t)) : qLe (k + n, p :: r) (k + m, p :: t) := by
  rcases h with h | ⟨h, j⟩
  · exact .inl (by simp only at h ⊢; omega)
  · exact .inr ⟨by simp only at h ⊢; omega, List.cons_le_cons_iff.mpr (.inr ⟨rfl, j⟩)⟩
theorem alikeAll_qY (l : List (Int × List Int)) : AlikeAll (l.map qY) := by
  refine ⟨fun x hx y hy => ?_, fun x hx => ?_⟩
  · obtain ⟨u, _, rfl⟩ := List.mem_map.mp hx
    obtain ⟨v, _, rfl⟩ := List.mem_map.mp hy
    exact alike_qY u v
  · obtain ⟨u, _, rfl⟩ := List.mem_map.mp hx
    rw [qY]
    exact fun z => nomatch z
theorem x_min_qP {u v : Int × List Int} {Q : Rs → Prop} (q : ∀ x, (x = u ∨ x = v) → qLe x u → qLe x v → Q (.va (qP x))) : xMinT2 (qP u) (qP v) Q := by
  have hA := alikeAll_qY [u, v]
  have hD := depths_qY [u, v]
  refine ⟨noD_qP u, noD_qP v, by rw [ppv_qP, ppv_qP]; exact hA, by rw [ppv_qP, ppv_qP]; exact Nat.le_trans hD (by decide), ⟨rfl, rfl⟩, ?_⟩
  rw [ppv_qP, ppv_qP]
  cases e : dataLt (qY v) (qY u) with
  | true =>
    rw [if_pos rfl]
    refine q v (.inr rfl) ?_ (qLe_refl v)
    rcases qLe_total u v with h | h
    · rw [(lt_qLe u v).mpr h] at e; cases e
    · exact h
  | false =>
    rw [if_neg (by decide)]
    exact q u (.inl rfl) (qLe_refl u) ((lt_qLe u v).mp e)
theorem qY_inj {u v : Int × List Int} (h : qY u = qY v) : u = v := by
  obtain ⟨a, r⟩ := u
  obtain ⟨b, t⟩ := v
  have h : PyData.tuple [.int a, wP r] = .tuple [.int b, wP t] := h
  injection h with h
  injection h with h1 h2
  injection h1 with h1
  injection h2 with h2 _
  have h2 : PyData.tuple (r.map .int) = .tuple (t.map .int) := h2
  injection h2 with h2
  have : r = t := by
    have h3 := eqv_ints r t
    rw [h2] at h3
    have h4 := eqv_ints t t
    rw [h3] at h4
    simpa using h4
  rw [h1, this]
theorem minD_qY : ∀ (l : List (Int × List Int)) (u : Int × List Int), ∃ x ∈ u :: l, minD (qY u) (l.map qY) = qY x ∧ ∀ y ∈ u :: l, qLe x y
  | [], u => ⟨u, by simp, rfl, fun y hy => by rw [List.mem_singleton.mp hy]; exact qLe_refl u⟩
  | v :: l, u => by
    have e : minD (qY u) ((v :: l).map qY) = minD (if dataLt (qY v) (qY u) = true then qY v else qY u) (l.map qY) := rfl
    rw [e]
    cases h : dataLt (qY v) (qY u) with
    | true =>
      rw [if_pos rfl]
      obtain ⟨x, h1, h2, h3⟩ := minD_qY l v
      refine ⟨x, List.mem_cons_of_mem _ h1, h2, fun y hy => ?_⟩
      rcases List.mem_cons.mp hy with z | z
      · rw [z]
        refine qLe_trans (h3 v (by simp)) ?_
        rcases qLe_total u v with k | k
        · rw [(lt_qLe u v).mpr k] at h; cases h
        · exact k
      · exact h3 y z
    | false =>
      rw [if_neg (by decide)]
      obtain ⟨x, h1, h2, h3⟩ := minD_qY l u
      have hx : x ∈ u :: v :: l := by
        rcases List.mem_cons.mp h1 with z | z
        · rw [z]; simp
        · simp [z]
      refine ⟨x, hx, h2, fun y hy => ?_⟩
      rcases List.mem_cons.mp hy with z | z
      · exact h3 y (by rw [z]; simp)
      · rcases List.mem_cons.mp z with z | z
        · rw [z]
          exact qLe_trans (h3 u (by simp)) ((lt_qLe u v).mp h)
        · exact h3 y (by simp [z])
theorem x_minL_qP {l : List (Int × List Int)} {Q : Rs → Prop} (hl : l ≠ []) (q : ∀ x ∈ l, (∀ y ∈ l, qLe x y) → Q (.va (qP x))) : xMinL (.lst (l.map qP)) Q := by
  cases l with
  | nil => exact absurd rfl hl
  | cons u l =>
    refine ⟨noDs_qP (u :: l), by rw [← List.map_cons, ppvs_qP]; exact alikeAll_qY _, by rw [← List.map_cons, ppvs_qP]; exact Nat.le_trans (depths_qY _) (by decide), fun v hv e => ?_⟩
    rw [← List.map_cons] at hv
    obtain ⟨y, hy, rfl⟩ := List.mem_map.mp hv
    obtain ⟨x, h1, h2, h3⟩ := minD_qY l u
    rw [ppv_qP, ppv_qP, ppvs_qP, h2] at e
    rw [qY_inj e]
    exact q x h1 h3
end DL
/-! VL: words and codes as they stand: rules by equality. -/
namespace DL
open PySem PySem.Spec PyProof.Rows L2
theorem cut_fromG {α : Type} (l : List α) (k : Nat) : cutD l (some (k : Int)) none = l.drop k := by
  unfold cutD
  rw [HT.sIx_none, HT.sIx_nat]
  rw [List.take_of_length_le (by rw [List.length_drop]; omega)]
  by_cases h : k ≤ l.length
  · rw [Nat.min_eq_left h]
  · rw [Nat.min_eq_right (by omega), List.drop_length, List.drop_eq_nil_of_le (by omega)]
theorem cut_toG {α : Type} (l : List α) (k : Nat) : cutD l none (some (k : Int)) = l.take k := by
  unfold cutD
  rw [HT.sIx_none, HT.sIx_nat, List.drop_zero, Nat.sub_zero]
  exact (List.take_eq_take_min).symm
theorem map_int_inj {a b : List Int} (h : a.map PV.int = b.map PV.int) : a = b := by
  induction a generalizing b with
  | nil => cases b with
    | nil => rfl
    | cons y b => cases h
  | cons x a ih => cases b with
    | nil => cases h
    | cons y b =>
      rw [List.map_cons, List.map_cons] at h
      injection h with h1 h2
      injection h1 with h1
      rw [h1, ih h2]
theorem tI_inj {a b : List Int} : (tI a = tI b) = (a = b) := by
  apply propext
  constructor
  · intro h
    unfold tI at h
    injection h with h
    exact map_int_inj h
  · exact fun h => by rw [h]
theorem map_tI_inj {a b : List (List Int)} (h : a.map tI = b.map tI) : a = b := by
  induction a generalizing b with
  | nil => cases b with
    | nil => rfl
    | cons y b => cases h
  | cons x a ih => cases b with
    | nil => cases h
    | cons y b =>
      rw [List.map_cons, List.map_cons] at h
      injection h with h1 h2
      rw [tI_inj] at h1
      rw [h1, ih h2]
theorem tW_inj {a b : List (List Int)} : (tW a = tW b) = (a = b) := by
  apply propext
  constructor
  · intro h
    unfold tW at h
    injection h with h
    exact map_tI_inj h
  · exact fun h => by rw [h]
theorem lI_inj {a b : List Int} : (PV.lst (a.map .int) = .lst (b.map .int)) = (a = b) := by
  apply propext
  constructor
  · intro h
    injection h with h
    exact map_int_inj h
  · exact fun h => by rw [h]
theorem atI_map {α β : Type} (f : α → β) (l : List α) (i : Int) : atI (l.map f) i = (atI l i).map f := by
  unfold atI
  rw [List.length_map]
  cases ixN l.length i with
  | none => rfl
  | some j => show (l.map f)[j]? = (l[j]?).map f; rw [List.getElem?_map]
theorem cutD_map {α β : Type} (f : α → β) (l : List α) (lo hi : Option Int) : cutD (l.map f) lo hi = (cutD l lo hi).map f := by
  unfold cutD
  rw [List.length_map, List.map_take, List.map_drop]
theorem ex_map {α β : Type} {f : α → β} {o : Option α} {P : β → Prop} : (∃ v, o.map f = some v ∧ P v) = ∃ x, o = some x ∧ P (f x) := by
  apply propext
  constructor
  · rintro ⟨v, h, p⟩
    cases o with
    | none => cases h
    | some x => cases h; exact ⟨x, rfl, p⟩
  · rintro ⟨x, rfl, p⟩
    exact ⟨_, rfl, p⟩
section
variable {a b : List Int} {ws vs : List (List Int)} {Q : Rs → Prop} {i : Int}
theorem xLen_tI : xLen (tI a) Q = Q (.va (.int a.length)) := by rw [tI, xLen, List.length_map]
theorem xLen_tW : xLen (tW ws) Q = Q (.va (.int ws.length)) := by rw [tW, xLen, List.length_map]
theorem xIx_tI : xIx (tI a) (.int i) Q = ∃ x, atI a i = some x ∧ Q (.va (.int x)) := by rw [tI, xIx, atI_map, ex_map]
theorem xIx_tW : xIx (tW ws) (.int i) Q = ∃ x, atI ws i = some x ∧ Q (.va (tI x)) := by rw [tW, xIx, atI_map, ex_map]
theorem xIx_lI : xIx (.lst (a.map .int)) (.int i) Q = ∃ x, atI a i = some x ∧ Q (.va (.int x)) := by rw [xIx, atI_map, ex_map]
theorem xIx_lW : xIx (.lst (ws.map tI)) (.int i) Q = ∃ x, atI ws i = some x ∧ Q (.va (tI x)) := by rw [xIx, atI_map, ex_map]
theorem xAdd_tI : xAdd (tI a) (tI b) Q = (a.length + b.length ≤ sizeLine ∧ Q (.va (tI (a ++ b)))) := by rw [tI, tI, xAdd, tI, List.length_map, List.length_map, List.map_append]
theorem xAdd_tI1 {x : Int} : xAdd (tI a) (.tup [.int x]) Q = (a.length + 1 ≤ sizeLine ∧ Q (.va (tI (a ++ [x])))) := xAdd_tI (b := [x])
theorem xAdd_1tI {x : Int} : xAdd (.tup [.int x]) (tI a) Q = (1 + a.length ≤ sizeLine ∧ Q (.va (tI (x :: a)))) := xAdd_tI (a := [x]) (b := a)
theorem xAdd_tW : xAdd (tW ws) (tW vs) Q = (ws.length + vs.length ≤ sizeLine ∧ Q (.va (tW (ws ++ vs)))) := by rw [tW, tW, xAdd, tW, List.length_map, List.length_map, List.map_append]
theorem xAdd_tW1 : xAdd (tW ws) (.tup [tI a]) Q = (ws.length + 1 ≤ sizeLine ∧ Q (.va (tW (ws ++ [a])))) := xAdd_tW (vs := [a])
theorem xAdd_1tW : xAdd (.tup [tI a]) (tW ws) Q = (1 + ws.length ≤ sizeLine ∧ Q (.va (tW (a :: ws)))) := xAdd_tW (ws := [a]) (vs := ws)
theorem xSl_tI {lo hi : Option Int} : xSl (tI a) lo hi Q = Q (.va (tI (cutD a lo hi))) := by
  show Q (.va (.tup (cutD (a.map .int) lo hi))) = _
  rw [cutD_map]; rfl
theorem xSl_tW {lo hi : Option Int} : xSl (tW ws) lo hi Q = Q (.va (tW (cutD ws lo hi))) := by
  show Q (.va (.tup (cutD (ws.map tI) lo hi))) = _
  rw [cutD_map]; rfl
theorem xList_tI : xList (tI a) Q = Q (.ow (.lst (a.map .int))) := rfl
theorem xList_tW : xList (tW ws) Q = Q (.ow (.lst (ws.map tI))) := rfl
theorem xTuple_lI : xTuple (.lst (a.map .int)) Q = Q (.va (tI a)) := rfl
theorem xTuple_lW : xTuple (.lst (ws.map tI)) Q = Q (.va (tW ws)) := rfl
theorem xTuple_tI : xTuple (tI a) Q = Q (.va (tI a)) := rfl
theorem xTuple_tW : xTuple (tW ws) Q = Q (.va (tW ws)) := rfl
theorem xcmp_tI {f : PyData → PyData → Bool} : xCmp f (tI a) (tI b) Q = Q (.va (.bl (f (wP a) (wP b)))) := by
  unfold xCmp
  rw [ppv_tI, ppv_tI]
  refine propext ⟨fun h => h.2.2.2.2.2, fun q => ⟨noD_tI a, noD_tI b, alike_words a b, (by rw [wP]; exact fun z => nomatch z), ?_, q⟩⟩
  rw [wP, PyData.depth, depth_ints]
  decide
theorem lt_dec (a b : List Int) : PySem.W.dataLt (wP a) (wP b) = decide (a < b) := by rw [lt_words, lexLt_lt]
theorem nlt_dec (a b : List Int) : (!PySem.W.dataLt (wP b) (wP a)) = decide (a ≤ b) := by
  rw [lt_dec]
  by_cases h : b < a
  · rw [decide_eq_true h, decide_eq_false (List.not_le.mpr h)]; rfl
  · rw [decide_eq_false h, decide_eq_true (List.not_lt.mp h)]; rfl
theorem xLt_tI : xLt (tI a) (tI b) Q = Q (.va (.bl (decide (a < b)))) := by
  show xCmp (PySem.W.dataLt) (tI a) (tI b) Q = _
  rw [xcmp_tI, lt_dec]
theorem xLe_tI : xLe (tI a) (tI b) Q = Q (.va (.bl (decide (a ≤ b)))) := by
  show xCmp (fun p q => !PySem.W.dataLt q p) (tI a) (tI b) Q = _
  rw [xcmp_tI, nlt_dec]
theorem xGt_tI : xGt (tI a) (tI b) Q = Q (.va (.bl (decide (b < a)))) := by
  show xCmp (fun p q => PySem.W.dataLt q p) (tI a) (tI b) Q = _
  rw [xcmp_tI, lt_dec]
theorem xGe_tI : xGe (tI a) (tI b) Q = Q (.va (.bl (decide (b ≤ a)))) := by
  show xCmp (fun p q => !PySem.W.dataLt p q) (tI a) (tI b) Q = _
  rw [xcmp_tI, nlt_dec]
/-! tuples of words -/
theorem toks_tw : ∀ a b : List (List Int), PyProof.Rows.lexLt itemOrd (PySem.W.keyToksAll (a.map wP)) (PySem.W.keyToksAll (b.map wP)) = decide (a < b)
  | [], [] => by simp [PySem.W.keyToksAll]; decide
  | [], y :: b => by
    rw [decide_eq_true (List.nil_lt_cons _ _), List.map_nil, List.map_cons, PySem.W.keyToksAll, PySem.W.keyToksAll]
    rfl
  | x :: a, [] => by
    rw [decide_eq_false (List.not_lt_nil _), List.map_nil, List.map_cons, PySem.W.keyToksAll, PySem.W.keyToksAll]
    rfl
  | x :: a, y :: b => by
    rw [List.map_cons, List.map_cons, PySem.W.dataLt_cons (alike_words x y), toks_tw a b, lt_dec, wP, wP, PyData.eqv, eqv_ints]
    by_cases h : x = y
    · subst h
      rw [decide_eq_true (rfl : x = x), if_pos rfl]
      refine decide_eq_decide.mpr ?_
      rw [List.cons_lt_cons_iff]
      exact ⟨fun z => .inr ⟨rfl, z⟩, fun z => z.elim (fun z => absurd z (List.lt_irrefl x)) fun z => z.2⟩
    · rw [decide_eq_false h, if_neg (by decide)]
      refine decide_eq_decide.mpr ?_
      rw [List.cons_lt_cons_iff]
      exact ⟨fun z => .inl z, fun z => z.elim id fun z => absurd z.1 h⟩
theorem alike_tws : ∀ a b : List (List Int), PySem.W.alikeAll (a.map wP) (b.map wP) = true
  | [], _ => by rw [List.map_nil, PySem.W.alikeAll]
  | _ :: _, [] => by rw [List.map_nil, List.map_cons, PySem.W.alikeAll]
  | x :: a, y :: b => by rw [List.map_cons, List.map_cons, PySem.W.alikeAll, alike_words, alike_tws a b]; rfl
theorem ppv_tW (ws : List (List Int)) : ppv (tW ws) = .tuple (ws.map wP) := by rw [tW, ppv, ppvs_tIs]
theorem noD_tW (ws : List (List Int)) : noD (tW ws) = true := by rw [tW, noD, noDs_tIs]
theorem xcmp_tW {f : PyData → PyData → Bool} : xCmp f (tW ws) (tW vs) Q = Q (.va (.bl (f (.tuple (ws.map wP)) (.tuple (vs.map wP))))) := by
  unfold xCmp
  rw [ppv_tW, ppv_tW]
  refine propext ⟨fun h => h.2.2.2.2.2, fun q => ⟨noD_tW ws, noD_tW vs, by rw [PySem.W.alike]; exact alike_tws ws vs, (fun z => nomatch z), ?_, q⟩⟩
  rw [PyData.depth]
  have := depth_words ws
  omega
theorem lt_decW (a b : List (List Int)) : PySem.W.dataLt (.tuple (a.map wP)) (.tuple (b.map wP)) = decide (a < b) := by rw [PySem.W.dataLt_tuple, toks_tw]
theorem nlt_decW (a b : List (List Int)) : (!PySem.W.dataLt (.tuple (b.map wP)) (.tuple (a.map wP))) = decide (a ≤ b) := by
  rw [lt_decW]
  by_cases h : b < a
  · rw [decide_eq_true h, decide_eq_false (List.not_le.mpr h)]; rfl
  · rw [decide_eq_false h, decide_eq_true (List.not_lt.mp h)]; rfl
theorem xLt_tW : xLt (tW ws) (tW vs) Q = Q (.va (.bl (decide (ws < vs)))) := by
  show xCmp (PySem.W.dataLt) (tW ws) (tW vs) Q = _
  rw [xcmp_tW, lt_decW]
theorem xLe_tW : xLe (tW ws) (tW vs) Q = Q (.va (.bl (decide (ws ≤ vs)))) := by
  show xCmp (fun p q => !PySem.W.dataLt q p) (tW ws) (tW vs) Q = _
  rw [xcmp_tW, nlt_decW]
theorem eq_rule {x y : PV} {c : Bool} (h1 : ∀ Q : Rs → Prop, Q (.va (.bl c)) → xEq x y Q) (h2 : ∀ a b : Str, x = .str a → y = .str b → decide (a = b) = c) (h3 : PyData.eqv (ppv x) (ppv y) = c) (h4 : ∀ l, x = .tup l → y = .tup [] → l.isEmpty = c) : xEq x y Q = Q (.va (.bl c)) := by
  apply propext
  constructor
  · rintro (⟨a, b, e1, e2, q⟩ | ⟨_, _, _, _, q⟩ | ⟨l, e1, e2, q⟩)
    · rw [h2 a b e1 e2] at q; exact q
    · rw [h3] at q; exact q
    · rw [h4 l e1 e2] at q; exact q
  · exact h1 Q
theorem ne_rule {x y : PV} {c : Bool} (h : ∀ Q : Rs → Prop, xEq x y Q = Q (.va (.bl c))) : xNe x y Q = Q (.va (.bl (!c))) := by
  unfold xNe
  rw [h]
  apply propext
  constructor
  · rintro ⟨b, e, q⟩
    cases e
    exact q
  · exact fun q => ⟨c, rfl, q⟩
theorem xEq_tI : xEq (tI a) (tI b) Q = Q (.va (.bl (decide (a = b)))) :=
  eq_rule (fun Q q => x_eq_tI q) (fun _ _ h => nomatch h) (by rw [ppv_tI, ppv_tI, wP, wP, PyData.eqv, eqv_ints]) fun l h1 h2 => by
    unfold tI at h1 h2
    injection h1 with h1
    injection h2 with h2
    have h2 : b = [] := by cases b with | nil => rfl | cons _ _ => cases h2
    subst h2
    rw [← h1]
    cases a <;> simp
theorem xNe_tI : xNe (tI a) (tI b) Q = Q (.va (.bl (!decide (a = b)))) := ne_rule fun _ => xEq_tI
theorem xEq_tI0 : xEq (tI a) (.tup []) Q = Q (.va (.bl (decide (a = [])))) := xEq_tI (b := [])
theorem xNe_tI0 : xNe (tI a) (.tup []) Q = Q (.va (.bl (!decide (a = [])))) := xNe_tI (b := [])
theorem xEq_tW : xEq (tW ws) (tW vs) Q = Q (.va (.bl (decide (ws = vs)))) :=
  eq_rule (fun Q q => x_eq_tW q) (fun _ _ h => nomatch h) (by rw [tW, tW, ppv, ppv, ppvs_tIs, ppvs_tIs, PyData.eqv, eqv_words]) fun l h1 h2 => by
    unfold tW at h1 h2
    injection h1 with h1
    injection h2 with h2
    have h2 : vs = [] := by cases vs with | nil => rfl | cons _ _ => cases h2
    subst h2
    rw [← h1]
    cases ws <;> simp
theorem xNe_tW : xNe (tW ws) (tW vs) Q = Q (.va (.bl (!decide (ws = vs)))) := ne_rule fun _ => xEq_tW
theorem xEq_tW0 : xEq (tW ws) (.tup []) Q = Q (.va (.bl (decide (ws = [])))) := xEq_tW (vs := [])
theorem xNe_tW0 : xNe (tW ws) (.tup []) Q = Q (.va (.bl (!decide (ws = [])))) := xNe_tW (vs := [])
theorem xEq_int {j : Int} : xEq (.int i) (.int j) Q = Q (.va (.bl (decide (i = j)))) :=
  eq_rule (fun Q q => x_eq_int q) (fun _ _ h => nomatch h) (by rw [ppv, ppv, PyData.eqv]; rfl) fun _ h => nomatch h
theorem xNe_int {j : Int} : xNe (.int i) (.int j) Q = Q (.va (.bl (!decide (i = j)))) := ne_rule fun _ => xEq_int
theorem xEq_bl {c d : Bool} : xEq (.bl c) (.bl d) Q = Q (.va (.bl (c == d))) :=
  eq_rule (fun Q q => x_eq_bl q) (fun _ _ h => nomatch h) (by rw [ppv, ppv, PyData.eqv]) fun _ h => nomatch h
theorem xNe_bl {c d : Bool} : xNe (.bl c) (.bl d) Q = Q (.va (.bl (!(c == d)))) := ne_rule fun _ => xEq_bl
theorem xEq_lI : xEq (.lst (a.map .int)) (.lst (b.map .int)) Q = Q (.va (.bl (decide (a = b)))) :=
  eq_rule (fun Q q => x_eq_lI q) (fun _ _ h => nomatch h) (by rw [ppv, ppv, ppvs_ints, ppvs_ints, PyData.eqv, eqv_ints]) fun _ h => nomatch h
theorem xNe_lI : xNe (.lst (a.map .int)) (.lst (b.map .int)) Q = Q (.va (.bl (!decide (a = b)))) := ne_rule fun _ => xEq_lI
theorem xEq_lI0 : xEq (.lst (a.map .int)) (.lst []) Q = Q (.va (.bl (decide (a = [])))) := xEq_lI (b := [])
theorem xNe_lI0 : xNe (.lst (a.map .int)) (.lst []) Q = Q (.va (.bl (!decide (a = [])))) := xNe_lI (b := [])
theorem xEq_lW : xEq (.lst (ws.map tI)) (.lst (vs.map tI)) Q = Q (.va (.bl (decide (ws = vs)))) :=
  eq_rule (fun Q q => x_eq_lW q) (fun _ _ h => nomatch h) (by rw [ppv, ppv, ppvs_tIs, ppvs_tIs, PyData.eqv, eqv_words]) fun _ h => nomatch h
theorem xNe_lW : xNe (.lst (ws.map tI)) (.lst (vs.map tI)) Q = Q (.va (.bl (!decide (ws = vs)))) := ne_rule fun _ => xEq_lW
theorem xEq_lW0 : xEq (.lst (ws.map tI)) (.lst []) Q = Q (.va (.bl (decide (ws = [])))) := xEq_lW (vs := [])
theorem xNe_lW0 : xNe (.lst (ws.map tI)) (.lst []) Q = Q (.va (.bl (!decide (ws = [])))) := xNe_lW (vs := [])
theorem isTup_tI : isTupP (tI a) = true := rfl
theorem isTup_tW : isTupP (tW ws) = true := rfl
theorem isNo_tI : isNo (tI a) = false := rfl
theorem isNo_tW : isNo (tW ws) = false := rfl
theorem vRev_tI {f : WE} {env : Ev} {Q : Rs → Ev → Prop} : (match tI a with | .tup l => Q (.va (.tup l.reverse)) env | .lst l => Q (.ow (.lst l.reverse)) env | _ => False) = Q (.va (tI a.reverse)) env := by
  show Q (.va (.tup (a.map .int).reverse)) env = _
  rw [tI, List.map_reverse]
end
def xRev (v : PV) (Q : Rs → Prop) : Prop := match v with
  | .tup l => Q (.va (.tup l.reverse))
  | .lst l => Q (.ow (.lst l.reverse))
  | _ => False
theorem vRev_x (f : WE) : vRev f = fun env Q => f env fun x env1 => xRev x.v fun z => Q z env1 := by
  funext env Q
  unfold vRev xRev
  congr
theorem xRev_tI {a : List Int} {Q : Rs → Prop} : xRev (tI a) Q = Q (.va (tI a.reverse)) := by
  show Q (.va (.tup (a.map .int).reverse)) = _
  rw [tI, List.map_reverse]
theorem xRev_tW {a : List (List Int)} {Q : Rs → Prop} : xRev (tW a) Q = Q (.va (tW a.reverse)) := by
  show Q (.va (.tup (a.map tI).reverse)) = _
  rw [tW, List.map_reverse]
def xItems (v : PV) (Q : List PV → Prop) : Prop := match v with
  | .tup l => Q l
  | .lst l => Q l
  | .str z => Q (signsP z)
  | _ => False
theorem vAnyI_x (e : WF) : vAnyI e = fun env Q => e env fun v env1 => xItems v fun l => Q l env1 := by
  funext env Q
  unfold vAnyI xItems
  congr
theorem xItems_tI {a : List Int} {Q : List PV → Prop} : xItems (tI a) Q = Q (a.map .int) := rfl
theorem xItems_tW {a : List (List Int)} {Q : List PV → Prop} : xItems (tW a) Q = Q (a.map tI) := rfl
def xEnum (l : List PV) (Q : List PV → Prop) : Prop := match l with
  | [.tup xs] => Q (enumP 0 xs)
  | [.lst xs] => Q (enumP 0 xs)
  | _ => False
theorem vEnum_x (e : WA) : vEnum e = fun env Q => e env fun v env1 => xEnum v fun l => Q l env1 := by
  funext env Q
  unfold vEnum xEnum
  congr
theorem xEnum_tI {a : List Int} {Q : List PV → Prop} : xEnum [tI a] Q = Q (enumP 0 (a.map .int)) := rfl
theorem xEnum_tW {a : List (List Int)} {Q : List PV → Prop} : xEnum [tW a] Q = Q (enumP 0 (a.map tI)) := rfl
def xZip (l : List PV) (Q : List PV → Prop) : Prop := match l with
  | [.tup xs, .tup ys] => Q (zipP xs ys)
  | [.lst xs, .lst ys] => Q (zipP xs ys)
  | _ => False
theorem vZip2_x (e : WA) : vZip2 e = fun env Q => e env fun v env1 => xZip v fun l => Q l env1 := by
  funext env Q
  unfold vZip2 xZip
  congr
theorem xMax1_lI {a : List Int} {Q : Rs → Prop} (h0 : 0 < a.length) (q : ∀ k ∈ a, (∀ y ∈ a, y ≤ k) → Q (.va (.int k))) : xMax1 (.lst (a.map .int)) Q := ⟨a, rfl, h0, q⟩
theorem xMin1_lI {a : List Int} {Q : Rs → Prop} (h0 : 0 < a.length) (q : ∀ k ∈ a, (∀ y ∈ a, k ≤ y) → Q (.va (.int k))) : xMin1 (.lst (a.map .int)) Q := ⟨a, rfl, h0, q⟩
theorem xSum_lI {a : List Int} {Q : Rs → Prop} : xSum (.lst (a.map .int)) Q = Q (.va (.int a.sum)) := by
  apply propext
  constructor
  · rintro ⟨ns, h, q⟩
    rw [map_int_inj h]
    exact q
  · exact fun q => ⟨a, rfl, q⟩
theorem map_bl_inj {a b : List Bool} (h : a.map PV.bl = b.map PV.bl) : a = b := by
  induction a generalizing b with
  | nil => cases b with
    | nil => rfl
    | cons y b => cases h
  | cons x a ih => cases b with
    | nil => cases h
    | cons y b =>
      rw [List.map_cons, List.map_cons] at h
      injection h with h1 h2
      injection h1 with h1
      rw [h1, ih h2]
theorem xAll_l {a : List Bool} {Q : Rs → Prop} : xAll (.lst (a.map .bl)) Q = Q (.va (.bl (a.all id))) := by
  apply propext
  constructor
  · rintro ⟨ns, h, q⟩
    rw [map_bl_inj h]
    exact q
  · exact fun q => ⟨a, rfl, q⟩
theorem xAny_l {a : List Bool} {Q : Rs → Prop} : xAny (.lst (a.map .bl)) Q = Q (.va (.bl (a.any id))) := by
  apply propext
  constructor
  · rintro ⟨ns, h, q⟩
    rw [map_bl_inj h]
    exact q
  · exact fun q => ⟨a, rfl, q⟩
theorem cut_tl {α : Type} (l : List α) : cutD l (some 1) none = l.tail := by
  have := cut_fromG l 1
  rw [List.drop_one] at this
  exact this
/-! ### rules by constructor -/
theorem xAdd_int {i j : Int} {Q : Rs → Prop} : xAdd (.int i) (.int j) Q = (Q (.va (.int (i + j)))) := rfl
theorem xAdd_str {a b : Str} {Q : Rs → Prop} : xAdd (.str a) (.str b) Q = (a.length + b.length ≤ sizeLine ∧ Q (.va (.str (a ++ b)))) := rfl
theorem xAdd_tup {a b : List PV} {Q : Rs → Prop} : xAdd (.tup a) (.tup b) Q = (a.length + b.length ≤ sizeLine ∧ Q (.va (.tup (a ++ b)))) := rfl
theorem xAdd_lst {a b : List PV} {Q : Rs → Prop} : xAdd (.lst a) (.lst b) Q = (a.length + b.length ≤ sizeLine ∧ Q (.ow (.lst (a ++ b)))) := rfl
theorem xSub_int {i j : Int} {Q : Rs → Prop} : xSub (.int i) (.int j) Q = (Q (.va (.int (i - j)))) := rfl
theorem xMul_int {i j : Int} {Q : Rs → Prop} : xMul (.int i) (.int j) Q = ((CMul i j ∨ CMulW i j) ∧ Q (.va (.int (i * j)))) := rfl
theorem xMul_tup {l : List PV} {k : Int} {Q : Rs → Prop} : xMul (.tup l) (.int k) Q = ((-(2 ^ 62) ≤ k ∧ k < 2 ^ 62) ∧ l.length * k.toNat ≤ 1000000 ∧ Q (.va (.tup (List.replicate k.toNat l).flatten))) := rfl
theorem xMul_lst {l : List PV} {k : Int} {Q : Rs → Prop} : xMul (.lst l) (.int k) Q = (-(2 ^ 63) ≤ k ∧ k < 2 ^ 63 ∧ l.length * k.toNat ≤ sizeLine ∧ Q (.ow (.lst (List.replicate k.toNat l).flatten))) := rfl
theorem xDiv_int {i j : Int} {Q : Rs → Prop} : xDiv (.int i) (.int j) Q = ((CDivN i j ∧ Q (.va (.int (i.fdiv j)))) ∨ (CDivW i j ∧ Q (.va (.int (i / j))))) := rfl
theorem xMod_int {i j : Int} {Q : Rs → Prop} : xMod (.int i) (.int j) Q = (j ≠ 0 ∧ Q (.va (.int (i.fmod j)))) := rfl
theorem xPow_int {i j : Int} {Q : Rs → Prop} : xPow (.int i) (.int j) Q = (CPow i j ∧ Q (.va (.int (i ^ j.toNat)))) := rfl
theorem xLt_int {i j : Int} {Q : Rs → Prop} : xLt (.int i) (.int j) Q = (Q (.va (.bl (decide (i < j))))) := rfl
theorem xLe_int {i j : Int} {Q : Rs → Prop} : xLe (.int i) (.int j) Q = (Q (.va (.bl (decide (i ≤ j))))) := rfl
theorem xGt_int {i j : Int} {Q : Rs → Prop} : xGt (.int i) (.int j) Q = (Q (.va (.bl (decide (j < i))))) := rfl
theorem xGe_int {i j : Int} {Q : Rs → Prop} : xGe (.int i) (.int j) Q = (Q (.va (.bl (decide (j ≤ i))))) := rfl
theorem xIx_tup {l : List PV} {i : Int} {Q : Rs → Prop} : xIx (.tup l) (.int i) Q = (∃ v, atI l i = some v ∧ Q (.va v)) := rfl
theorem xIx_lst {l : List PV} {i : Int} {Q : Rs → Prop} : xIx (.lst l) (.int i) Q = (∃ v, atI l i = some v ∧ Q (.va v)) := rfl
theorem xIx_str {z : Str} {i : Int} {Q : Rs → Prop} : xIx (.str z) (.int i) Q = (z.length ≤ sizeLine ∧ ∃ c, atI z.cps.toList i = some c ∧ Q (.va (.str ⟨#[c]⟩))) := rfl
theorem xIx_dct {l : List (Key × PV)} {y : PV} {Q : Rs → Prop} : xIx (.dct l) y Q = (∃ k v, keyP' y = some k ∧ look l k = some v ∧ Q (.va v)) := rfl
theorem xLen_tup {l : List PV} {Q : Rs → Prop} : xLen (.tup l) Q = (Q (.va (.int l.length))) := rfl
theorem xLen_lst {l : List PV} {Q : Rs → Prop} : xLen (.lst l) Q = (Q (.va (.int l.length))) := rfl
theorem xLen_str {z : Str} {Q : Rs → Prop} : xLen (.str z) Q = (z.length ≤ sizeLine ∧ Q (.va (.int z.length))) := rfl
theorem xAbs_int {i : Int} {Q : Rs → Prop} : xAbs (.int i) Q = (Q (.va (.int (if i < 0 then -i else i)))) := rfl
theorem xList_tup {l : List PV} {Q : Rs → Prop} : xList (.tup l) Q = (Q (.ow (.lst l))) := rfl
theorem xList_lst {l : List PV} {Q : Rs → Prop} : xList (.lst l) Q = (Q (.ow (.lst l))) := rfl
theorem xTuple_tup {l : List PV} {Q : Rs → Prop} : xTuple (.tup l) Q = (Q (.va (.tup l))) := rfl
theorem xTuple_lst {l : List PV} {Q : Rs → Prop} : xTuple (.lst l) Q = (Q (.va (.tup l))) := rfl
theorem xSl_tup {l : List PV} {lo hi : Option Int} {Q : Rs → Prop} : xSl (.tup l) lo hi Q = (Q (.va (.tup (cutD l lo hi)))) := rfl
theorem xSl_lst {l : List PV} {lo hi : Option Int} {Q : Rs → Prop} : xSl (.lst l) lo hi Q = (Q (.ow (.lst (cutD l lo hi)))) := rfl
theorem xRev_tup {l : List PV} {Q : Rs → Prop} : xRev (.tup l) Q = (Q (.va (.tup l.reverse))) := rfl
theorem xRev_lst {l : List PV} {Q : Rs → Prop} : xRev (.lst l) Q = (Q (.ow (.lst l.reverse))) := rfl
theorem xMin2_int {i j : Int} {Q : Rs → Prop} : xMin2 (.int i) (.int j) Q = (Q (.va (.int (if j < i then j else i)))) := rfl
theorem xMax2_int {i j : Int} {Q : Rs → Prop} : xMax2 (.int i) (.int j) Q = (Q (.va (.int (if j > i then j else i)))) := rfl
theorem xItems_tup {l : List PV} {Q : List PV → Prop} : xItems (.tup l) Q = Q l := rfl
theorem xItems_lst {l : List PV} {Q : List PV → Prop} : xItems (.lst l) Q = Q l := rfl
theorem xItems_str {z : Str} {Q : List PV → Prop} : xItems (.str z) Q = Q (signsP z) := rfl
theorem xEnum_tup {l : List PV} {Q : List PV → Prop} : xEnum [.tup l] Q = Q (enumP 0 l) := rfl
theorem xEnum_lst {l : List PV} {Q : List PV → Prop} : xEnum [.lst l] Q = Q (enumP 0 l) := rfl
theorem xZip_tup {l r : List PV} {Q : List PV → Prop} : xZip [.tup l, .tup r] Q = Q (zipP l r) := rfl
theorem xZip_lst {l r : List PV} {Q : List PV → Prop} : xZip [.lst l, .lst r] Q = Q (zipP l r) := rfl
theorem xZip_WW {l r : List (List Int)} {Q : List PV → Prop} : xZip [tW l, tW r] Q = Q (zipP (l.map tI) (r.map tI)) := rfl
theorem xZip_IW {l : List Int} {r : List (List Int)} {Q : List PV → Prop} : xZip [tI l, tW r] Q = Q (zipP (l.map .int) (r.map tI)) := rfl
theorem xZip_WI {l : List Int} {r : List (List Int)} {Q : List PV → Prop} : xZip [tW r, tI l] Q = Q (zipP (r.map tI) (l.map .int)) := rfl
theorem xZip_II {l r : List Int} {Q : List PV → Prop} : xZip [tI l, tI r] Q = Q (zipP (l.map .int) (r.map .int)) := rfl
theorem xZip_tI {l : List PV} {r : List Int} {Q : List PV → Prop} : xZip [.tup l, tI r] Q = Q (zipP l (r.map .int)) := rfl
theorem xZip_It {l : List PV} {r : List Int} {Q : List PV → Prop} : xZip [tI r, .tup l] Q = Q (zipP (r.map .int) l) := rfl
theorem keyP'_int {i : Int} : keyP' (.int i) = some (.inl i) := rfl
theorem keyP'_str {x : Str} : keyP' (.str x) = some (.inr x) := rfl
theorem isNo_non : isNo .non = true := rfl
theorem isNo_bl {b : Bool} : isNo (.bl b) = false := rfl
theorem isNo_int {i : Int} : isNo (.int i) = false := rfl
theorem isNo_str {z : Str} : isNo (.str z) = false := rfl
theorem isNo_tup {l : List PV} : isNo (.tup l) = false := rfl
theorem isNo_lst {l : List PV} : isNo (.lst l) = false := rfl
theorem isNo_dct {l : List (Key × PV)} : isNo (.dct l) = false := rfl
theorem isInt_non : isInt .non = false := rfl
theorem isInt_bl {b : Bool} : isInt (.bl b) = true := rfl
theorem isInt_int {i : Int} : isInt (.int i) = true := rfl
theorem isInt_str {z : Str} : isInt (.str z) = false := rfl
theorem isInt_tup {l : List PV} : isInt (.tup l) = false := rfl
theorem isInt_lst {l : List PV} : isInt (.lst l) = false := rfl
theorem isInt_dct {l : List (Key × PV)} : isInt (.dct l) = false := rfl
theorem isInt_tI {a : List Int} : isInt (tI a) = false := rfl
theorem isInt_tW {a : List (List Int)} : isInt (tW a) = false := rfl
theorem isBool_non : isBool .non = false := rfl
theorem isBool_bl {b : Bool} : isBool (.bl b) = true := rfl
theorem isBool_int {i : Int} : isBool (.int i) = false := rfl
theorem isBool_str {z : Str} : isBool (.str z) = false := rfl
theorem isBool_tup {l : List PV} : isBool (.tup l) = false := rfl
theorem isBool_lst {l : List PV} : isBool (.lst l) = false := rfl
theorem isBool_dct {l : List (Key × PV)} : isBool (.dct l) = false := rfl
theorem isBool_tI {a : List Int} : isBool (tI a) = false := rfl
theorem isBool_tW {a : List (List Int)} : isBool (tW a) = false := rfl
theorem isStrV_non : isStrV .non = false := rfl
theorem isStrV_bl {b : Bool} : isStrV (.bl b) = false := rfl
theorem isStrV_int {i : Int} : isStrV (.int i) = false := rfl
theorem isStrV_str {z : Str} : isStrV (.str z) = true := rfl
theorem isStrV_tup {l : List PV} : isStrV (.tup l) = false := rfl
theorem isStrV_lst {l : List PV} : isStrV (.lst l) = false := rfl
theorem isStrV_dct {l : List (Key × PV)} : isStrV (.dct l) = false := rfl
theorem isStrV_tI {a : List Int} : isStrV (tI a) = false := rfl
theorem isStrV_tW {a : List (List Int)} : isStrV (tW a) = false := rfl
theorem isTupP_non : isTupP .non = false := rfl
theorem isTupP_bl {b : Bool} : isTupP (.bl b) = false := rfl
theorem isTupP_int {i : Int} : isTupP (.int i) = false := rfl
theorem isTupP_str {z : Str} : isTupP (.str z) = false := rfl
theorem isTupP_tup {l : List PV} : isTupP (.tup l) = true := rfl
theorem isTupP_lst {l : List PV} : isTupP (.lst l) = false := rfl
theorem isTupP_dct {l : List (Key × PV)} : isTupP (.dct l) = false := rfl
theorem isLstP_non : isLstP .non = false := rfl
theorem isLstP_bl {b : Bool} : isLstP (.bl b) = false := rfl
theorem isLstP_int {i : Int} : isLstP (.int i) = false := rfl
theorem isLstP_str {z : Str} : isLstP (.str z) = false := rfl
theorem isLstP_tup {l : List PV} : isLstP (.tup l) = false := rfl
theorem isLstP_lst {l : List PV} : isLstP (.lst l) = true := rfl
theorem isLstP_dct {l : List (Key × PV)} : isLstP (.dct l) = false := rfl
theorem isLstP_tI {a : List Int} : isLstP (tI a) = false := rfl
theorem isLstP_tW {a : List (List Int)} : isLstP (tW a) = false := rfl
theorem at_zero {α : Type} (x : α) (l : List α) : atI (x :: l) 0 = some x := atI_nat (j := 0) rfl
theorem at_one {α : Type} (x y : α) (l : List α) : atI (x :: y :: l) 1 = some y := atI_nat (j := 1) rfl
theorem at_two {α : Type} (x y z : α) (l : List α) : atI (x :: y :: z :: l) 2 = some z := atI_nat (j := 2) rfl
theorem at_get {α : Type} {l : List α} {i : Int} (h0 : 0 ≤ i) (h1 : i < l.length) : atI l i = some (l[i.toNat]'(by omega)) := by
  obtain ⟨j, rfl⟩ := Int.eq_ofNat_of_zero_le h0
  have hj : j < l.length := by omega
  exact atI_nat (List.getElem?_eq_getElem hj)
theorem zipP_map {α : Type} (f g : α → PV) : ∀ l : List α, zipP (l.map f) (l.map g) = l.map fun x => .tup [f x, g x]
  | [] => by rw [List.map_nil, List.map_nil, zipP]; rfl; intros; simp_all
  | x :: l => by rw [List.map_cons, List.map_cons, zipP, zipP_map f g l]; rfl
theorem zipP_zip {α β : Type} (f : α → PV) (g : β → PV) : ∀ (l : List α) (r : List β), zipP (l.map f) (r.map g) = (l.zip r).map fun x => .tup [f x.1, g x.2]
  | [], r => by rw [List.map_nil, zipP]; rfl; intros; simp_all
  | x :: l, [] => by rw [List.map_nil, zipP]; rfl; intros; simp_all
  | x :: l, y :: r => by rw [List.map_cons, List.map_cons, zipP, zipP_zip f g l r]; rfl
theorem enumP_map {α : Type} (f : α → PV) : ∀ (l : List α) (k : Nat), enumP k (l.map f) = (l.zipIdx k).map fun x => .tup [.int (x.2 : Nat), f x.1]
  | [], _ => rfl
  | x :: l, k => by rw [List.map_cons, enumP, enumP_map f l (k + 1), List.zipIdx_cons]; rfl
end DL
/-! DL: sum, max, min of a tuple of whole numbers. -/
namespace DL
open PySem PySem.Spec PyProof.Rows L2
section
variable {prog : Program} {w : World} {A : Around} {E : Value → Shared → Prop} {s : Shared} {l : Addr} {its : List Value} {ns : List Int} {Q : Value → Shared → Prop}
theorem sum_tup (hh : A.handled = none) (hl : s.heap.IsTuple l its.toArray) (hi : IntsAre its ns)
    (h : ∀ h' tk t', (∀ b o, s.heap.get? b = some o → h'.get? b = some o) → Q (.int ns.sum t') { s with heap := h', toks := tk }) : wpAny (model prog w) A (call (.builtin "sum") [.ref l]) Q E s := by
  obtain ⟨xs, e⟩ := hi.allInts.items
  have hn : numsOf (intItems xs).toList = ns := by rw [← e]; exact hi.numsOf
  rw [nums_intItems] at hn
  rw [e] at hl
  have hlt : l < s.heap.objs.size := by obtain ⟨_, e, _⟩ := hl; exact Heap.lt_size e
  refine call_sum_walkG (wpAny_pyIter_tuple hl ?_)
  refine ⟨_, _, _, _, _, _, numAt xs, rfl, Walks.tuple (A := A.in1) hh _ l (Nat.ne_of_lt hlt) (intItems xs), ⟨⟨_, Heap.get?_push_size _ rfl, rfl, rfl⟩, hl.push _⟩, fun b hb => ?_, (fun _ _ => intItems_at), fun h' tk t' hk => ?_⟩
  · show b < (s.heap.push _).objs.size
    rw [Heap.size_push]
    rcases List.mem_cons.mp hb with rfl | hb
    · exact Nat.lt_succ_self _
    · rcases List.mem_cons.mp hb with rfl | hb
      · exact Nat.lt_succ_of_lt hlt
      · cases hb
  · have := h h' tk t' fun c o e => by
      refine hk c o (fun hm => ?_) (Heap.get?_push_of_some _ e)
      rcases List.mem_cons.mp hm with e1 | hm
      · have := Heap.lt_size e; rw [e1] at this; exact Nat.lt_irrefl _ this
      · cases hm
    rw [preSum_eq, List.take_of_length_le (by simp [intItems]), hn]
    exact this
theorem reads_ints {h : Heap} : ∀ {its : List Value} {ns : List Int}, IntsAre its ns → PySem.W.HoldAll h its ns
  | _, _, .nil => ⟨[], .nil⟩
  | _, _, .cons n t r => let ⟨as, k⟩ := reads_ints r; ⟨[] ++ as, .cons (.int n t) k⟩
theorem foldl_max : ∀ (xs : List Int) (x : Int), (xs.foldl (fun a y => if PySem.W.DatumOrd.lt a y = true then y else a) x) ∈ x :: xs ∧ ∀ y ∈ x :: xs, y ≤ xs.foldl (fun a y => if PySem.W.DatumOrd.lt a y = true then y else a) x
  | [], x => ⟨by simp, fun y hy => by rw [List.mem_singleton.mp hy]; exact Int.le_refl _⟩
  | z :: xs, x => by
    have e : PySem.W.DatumOrd.lt x z = decide (x < z) := rfl
    rw [List.foldl_cons, e]
    by_cases h : x < z
    · rw [decide_eq_true h, if_pos rfl]
      obtain ⟨h1, h2⟩ := foldl_max xs z
      refine ⟨List.mem_cons_of_mem _ h1, fun y hy => ?_⟩
      rcases List.mem_cons.mp hy with rfl | hy
      · exact Int.le_trans (Int.le_of_lt h) (h2 z (by simp))
      · exact h2 y hy
    · rw [decide_eq_false h, if_neg (by decide)]
      obtain ⟨h1, h2⟩ := foldl_max xs x
      refine ⟨?_, fun y hy => ?_⟩
      · rcases List.mem_cons.mp h1 with z' | z'
        · rw [z']; simp
        · simp [z']
      · rcases List.mem_cons.mp hy with rfl | hy
        · exact h2 y (by simp)
        · rcases List.mem_cons.mp hy with rfl | hy
          · exact Int.le_trans (Int.not_lt.mp h) (h2 x (by simp))
          · exact h2 y (by simp [hy])
theorem foldl_min : ∀ (xs : List Int) (x : Int), (xs.foldl (fun a y => if PySem.W.DatumOrd.lt y a = true then y else a) x) ∈ x :: xs ∧ ∀ y ∈ x :: xs, xs.foldl (fun a y => if PySem.W.DatumOrd.lt y a = true then y else a) x ≤ y
  | [], x => ⟨by simp, fun y hy => by rw [List.mem_singleton.mp hy]; exact Int.le_refl _⟩
  | z :: xs, x => by
    have e : PySem.W.DatumOrd.lt z x = decide (z < x) := rfl
    rw [List.foldl_cons, e]
    by_cases h : z < x
    · rw [decide_eq_true h, if_pos rfl]
      obtain ⟨h1, h2⟩ := foldl_min xs z
      refine ⟨List.mem_cons_of_mem _ h1, fun y hy => ?_⟩
      rcases List.mem_cons.mp hy with rfl | hy
      · exact Int.le_trans (h2 z (by simp)) (Int.le_of_lt h)
      · exact h2 y hy
    · rw [decide_eq_false h, if_neg (by decide)]
      obtain ⟨h1, h2⟩ := foldl_min xs x
      refine ⟨?_, fun y hy => ?_⟩
      · rcases List.mem_cons.mp h1 with z' | z'
        · rw [z']; simp
        · simp [z']
      · rcases List.mem_cons.mp hy with rfl | hy
        · exact h2 y (by simp)
        · rcases List.mem_cons.mp hy with rfl | hy
          · exact Int.le_trans (h2 x (by simp)) (Int.not_lt.mp h)
          · exact h2 y (by simp [hy])
theorem holds_int {h : Heap} {v : Value} {i : Int} (H : PySem.W.Holds h v i) : ∃ t, v = .int i t := by
  obtain ⟨as, r⟩ := H
  have r : Reads h v (.int i) as := r
  cases r with
  | int _ t => exact ⟨t, rfl⟩
end
section
variable {X : Cx}
def rSumU (K : PySem.W.Frag) : List V → Hp → VK → Prop := fun vs H Q => ∃ (a : Addr) (ns : List Int), vs = [V.ref a] ∧ SqT K H a (ns.map V.int) ∧ Q (.int ns.sum) H
def rMaxU (K : PySem.W.Frag) : List V → Hp → VK → Prop := fun vs H Q => ∃ (a : Addr) (ns : List Int), vs = [V.ref a] ∧ SqT K H a (ns.map V.int) ∧ 0 < ns.length ∧ ∀ m, m ∈ ns → (∀ y, y ∈ ns → y ≤ m) → Q (.int m) H
def rMinU (K : PySem.W.Frag) : List V → Hp → VK → Prop := fun vs H Q => ∃ (a : Addr) (ns : List Int), vs = [V.ref a] ∧ SqT K H a (ns.map V.int) ∧ 0 < ns.length ∧ ∀ m, m ∈ ns → (∀ y, y ∈ ns → m ≤ y) → Q (.int m) H
theorem cr_sumU (hc : X.calm = true) : CallR X (.builtin "sum") (rSumU X.K) := by
  intro pins s σ H vs us Q I r h
  obtain ⟨a, ns, rfl, hs, q⟩ := h
  obtain ⟨its, rv, hl, _⟩ := I.tuple hs
  rw [Vals.ref1 r]
  exact sum_tup (I.ok.hd hc) hl rv.ints fun h' tk t' hk => ⟨.int _, H, I.kept hk, ⟨_, rfl⟩, q⟩
theorem cr_maxU {k : Nat} (hc : X.calm = true) (hr : Room k X.A) : CallR X (.builtin "max") (rMaxU X.K) := by
  intro pins s σ H vs us Q I r h
  obtain ⟨a, ns, rfl, hs, hn, q⟩ := h
  obtain ⟨its, rv, hl, _⟩ := I.tuple hs
  rw [Vals.ref1 r]
  cases ns with
  | nil => exact absurd hn (by decide)
  | cons x xs =>
    refine PySem.W.max_tuple_datum (α := Int) (I.ok.hd hc) hl (reads_ints (by simpa using rv.ints)) (by have := hr.units; show _ + 1 + 0 < _; omega) fun i v h' tk hi hv hk => ?_
    obtain ⟨t, rfl⟩ := holds_int hv
    obtain ⟨h1, h2⟩ := foldl_max xs x
    exact ⟨.int _, H, I.kept hk, ⟨_, rfl⟩, q _ h1 h2⟩
theorem cr_minU {k : Nat} (hc : X.calm = true) (hr : Room k X.A) : CallR X (.builtin "min") (rMinU X.K) := by
  intro pins s σ H vs us Q I r h
  obtain ⟨a, ns, rfl, hs, hn, q⟩ := h
  obtain ⟨its, rv, hl, _⟩ := I.tuple hs
  rw [Vals.ref1 r]
  cases ns with
  | nil => exact absurd hn (by decide)
  | cons x xs =>
    refine PySem.W.min_tuple_datum (α := Int) (I.ok.hd hc) hl (reads_ints (by simpa using rv.ints)) (by have := hr.units; show _ + 1 + 0 < _; omega) fun i v h' tk hi hv hk => ?_
    obtain ⟨t, rfl⟩ := holds_int hv
    obtain ⟨h1, h2⟩ := foldl_min xs x
    exact ⟨.int _, H, I.kept hk, ⟨_, rfl⟩, q _ h1 h2⟩
/-! ### over plain data -/
def bSumA : DCl := fun l m Q => bSum l m Q ∨ ∃ ns : List Int, l = [.tup (ns.map .int)] ∧ Q (.int ns.sum) m
def bMaxA : DCl := fun l m Q => bMax l m Q ∨ ∃ ns : List Int, l = [.tup (ns.map .int)] ∧ 0 < ns.length ∧ ∀ k, k ∈ ns → (∀ y, y ∈ ns → y ≤ k) → Q (.int k) m
def bMinA : DCl := fun l m Q => bMin l m Q ∨ ∃ ns : List Int, l = [.tup (ns.map .int)] ∧ 0 < ns.length ∧ ∀ k, k ∈ ns → (∀ y, y ∈ ns → k ≤ y) → Q (.int k) m
theorem tup_ints {K : Frag} {H : Hp} {ns : List Int} {v : V} (r : RD K H (.tup (ns.map .int)) v) : ∃ a, v = .ref a ∧ SqT K H a (ns.map V.int) := by
  cases r with
  | tup h r =>
    rw [rds_ints r] at h
    exact ⟨_, rfl, sqt h⟩
theorem cj_sumA (hc : X.calm = true) : CallJ X (.builtin "sum") bSumA := by
  obtain ⟨rv, h1, h2⟩ := cj_sum (X := X) hc
  refine ⟨_, h1.or (cr_sumU hc), ?_⟩
  intro H m l vs Q Q' rm rl h k
  rcases h with h | ⟨ns, rfl, q⟩
  · exact .inl (h2 H m l vs Q Q' rm rl h k)
  · cases rl with
    | cons r1 rr =>
      cases rr
      obtain ⟨a, rfl, hs⟩ := tup_ints r1
      exact .inr ⟨a, ns, rfl, hs, k _ _ _ _ (Ext.refl H) rm (.int _) q⟩
theorem cj_maxA {k : Nat} (hc : X.calm = true) (hr : Room k X.A) : CallJ X (.builtin "max") bMaxA := by
  obtain ⟨rv, h1, h2⟩ := cj_max (X := X) hc hr
  refine ⟨_, h1.or (cr_maxU hc hr), ?_⟩
  intro H m l vs Q Q' rm rl h k
  rcases h with h | ⟨ns, rfl, hn, q⟩
  · exact .inl (h2 H m l vs Q Q' rm rl h k)
  · cases rl with
    | cons r1 rr =>
      cases rr
      obtain ⟨a, rfl, hs⟩ := tup_ints r1
      exact .inr ⟨a, ns, rfl, hs, hn, fun y hy hm => k _ _ _ _ (Ext.refl H) rm (.int _) (q y hy hm)⟩
theorem cj_minA {k : Nat} (hc : X.calm = true) (hr : Room k X.A) : CallJ X (.builtin "min") bMinA := by
  obtain ⟨rv, h1, h2⟩ := cj_min (X := X) hc hr
  refine ⟨_, h1.or (cr_minU hc hr), ?_⟩
  intro H m l vs Q Q' rm rl h k
  rcases h with h | ⟨ns, rfl, hn, q⟩
  · exact .inl (h2 H m l vs Q Q' rm rl h k)
  · cases rl with
    | cons r1 rr =>
      cases rr
      obtain ⟨a, rfl, hs⟩ := tup_ints r1
      exact .inr ⟨a, ns, rfl, hs, hn, fun y hy hm => k _ _ _ _ (Ext.refl H) rm (.int _) (q y hy hm)⟩
end
end DL
/-! VL: sum, max, min of tuples too. -/
namespace DL
open PySem PySem.Spec PyProof.Rows L2
def xSumA : WB := fun v Q => xSum v Q ∨ ∃ ns, v = tI ns ∧ Q (.va (.int ns.sum))
def xMaxA : WB := fun v Q => xMax1 v Q ∨ ∃ ns, v = tI ns ∧ 0 < ns.length ∧ ∀ k, k ∈ ns → (∀ y, y ∈ ns → y ≤ k) → Q (.va (.int k))
def xMinA : WB := fun v Q => xMin1 v Q ∨ ∃ ns, v = tI ns ∧ 0 < ns.length ∧ ∀ k, k ∈ ns → (∀ y, y ∈ ns → k ≤ y) → Q (.va (.int k))
theorem rvr_tI {c : C3} {ns : List Int} {d : D} (r : RVr c (tI ns) d) : d = .tup (ns.map .int) := rvs_int1 (f := c.f) r
theorem bv_sumA : B1V bSumA xSumA := by
  intro c env ds x dx Q R W rx q k
  rcases q with q | ⟨ns, rfl, q⟩
  · exact .inl (bv_sum c env ds x dx Q R W rx q k)
  · rw [rvr_tI rx]
    exact .inr ⟨ns, rfl, k (.va _) c _ W (Step.refl c) (show RV c.f _ _ from .int _) q⟩
theorem bv_maxA : B1V bMaxA xMaxA := by
  intro c env ds x dx Q R W rx q k
  rcases q with q | ⟨ns, rfl, hn, q⟩
  · exact .inl (bv_max1 c env ds x dx Q R W rx q k)
  · rw [rvr_tI rx]
    exact .inr ⟨ns, rfl, hn, fun y hy hm => k (.va _) c _ W (Step.refl c) (show RV c.f _ _ from .int _) (q y hy hm)⟩
theorem bv_minA : B1V bMinA xMinA := by
  intro c env ds x dx Q R W rx q k
  rcases q with q | ⟨ns, rfl, hn, q⟩
  · exact .inl (bv_min1 c env ds x dx Q R W rx q k)
  · rw [rvr_tI rx]
    exact .inr ⟨ns, rfl, hn, fun y hy hm => k (.va _) c _ W (Step.refl c) (show RV c.f _ _ from .int _) (q y hy hm)⟩
theorem bv_max2A : B2V bMaxA xMax2 := fun c env ds x y dx dy Q R W rx ry q k => .inl (bv_max2 c env ds x y dx dy Q R W rx ry q k)
theorem bv_min2A : B2V bMinA xMin2 := fun c env ds x y dx dy Q R W rx ry q k => .inl (bv_min2 c env ds x y dx dy Q R W rx ry q k)
theorem xSumA_lI {a : List Int} {Q : Rs → Prop} : xSumA (.lst (a.map .int)) Q = Q (.va (.int a.sum)) := by
  unfold xSumA
  rw [xSum_lI]
  exact propext ⟨fun h => h.elim id (fun ⟨_, h, _⟩ => nomatch h), Or.inl⟩
theorem xSumA_tI {a : List Int} {Q : Rs → Prop} : xSumA (tI a) Q = Q (.va (.int a.sum)) :=
  propext ⟨fun h => h.elim (fun h => h.elim) fun ⟨ns, h, q⟩ => by rw [tI_inj] at h; subst h; exact q, fun q => .inr ⟨a, rfl, q⟩⟩
/-- the greatest, the least one -/
def maxI : List Int → Int
  | [] => 0
  | [x] => x
  | x :: y :: r => if x < maxI (y :: r) then maxI (y :: r) else x
theorem maxI_spec : ∀ {a : List Int}, a ≠ [] → maxI a ∈ a ∧ ∀ y ∈ a, y ≤ maxI a
  | [], h => absurd rfl h
  | [x], _ => ⟨by simp [maxI], fun y hy => by rw [List.mem_singleton.mp hy]; exact Int.le_refl _⟩
  | x :: y :: r, _ => by
    obtain ⟨h1, h2⟩ := maxI_spec (a := y :: r) (by simp)
    rw [maxI]
    split
    · next h =>
      refine ⟨List.mem_cons_of_mem _ h1, fun z hz => ?_⟩
      rcases List.mem_cons.mp hz with rfl | hz
      · omega
      · exact h2 z hz
    · next h =>
      refine ⟨by simp, fun z hz => ?_⟩
      rcases List.mem_cons.mp hz with rfl | hz
      · exact Int.le_refl _
      · have := h2 z hz
        omega
def minI : List Int → Int
  | [] => 0
  | [x] => x
  | x :: y :: r => if minI (y :: r) < x then minI (y :: r) else x
theorem minI_spec : ∀ {a : List Int}, a ≠ [] → minI a ∈ a ∧ ∀ y ∈ a, minI a ≤ y
  | [], h => absurd rfl h
  | [x], _ => ⟨by simp [minI], fun y hy => by rw [List.mem_singleton.mp hy]; exact Int.le_refl _⟩
  | x :: y :: r, _ => by
    obtain ⟨h1, h2⟩ := minI_spec (a := y :: r) (by simp)
    rw [minI]
    split
    · next h =>
      refine ⟨List.mem_cons_of_mem _ h1, fun z hz => ?_⟩
      rcases List.mem_cons.mp hz with rfl | hz
      · omega
      · exact h2 z hz
    · next h =>
      refine ⟨by simp, fun z hz => ?_⟩
      rcases List.mem_cons.mp hz with rfl | hz
      · exact Int.le_refl _
      · have := h2 z hz
        omega
theorem max_uniq {a : List Int} {k : Int} (h : k ∈ a) (h2 : ∀ y ∈ a, y ≤ k) : k = maxI a := by
  obtain ⟨h3, h4⟩ := maxI_spec (List.ne_nil_of_mem h)
  exact Int.le_antisymm (h4 k h) (h2 _ h3)
theorem min_uniq {a : List Int} {k : Int} (h : k ∈ a) (h2 : ∀ y ∈ a, k ≤ y) : k = minI a := by
  obtain ⟨h3, h4⟩ := minI_spec (List.ne_nil_of_mem h)
  exact Int.le_antisymm (h2 _ h3) (h4 k h)
theorem len_pos {α : Type} {a : List α} : 0 < a.length ↔ a ≠ [] := List.length_pos_iff
section
variable {a : List Int} {Q : Rs → Prop}
theorem xMaxA_tI : xMaxA (tI a) Q = (a ≠ [] ∧ Q (.va (.int (maxI a)))) := by
  refine propext ⟨fun h => ?_, fun ⟨h, q⟩ => .inr ⟨a, rfl, len_pos.mpr h, fun k h1 h2 => by rw [max_uniq h1 h2]; exact q⟩⟩
  rcases h with h | ⟨ns, h, hn, q⟩
  · exact h.elim
  · rw [tI_inj] at h
    subst h
    obtain ⟨h1, h2⟩ := maxI_spec (len_pos.mp hn)
    exact ⟨len_pos.mp hn, q _ h1 h2⟩
theorem xMaxA_lI : xMaxA (.lst (a.map .int)) Q = (a ≠ [] ∧ Q (.va (.int (maxI a)))) := by
  refine propext ⟨fun h => ?_, fun ⟨h, q⟩ => .inl ⟨a, rfl, len_pos.mpr h, fun k h1 h2 => by rw [max_uniq h1 h2]; exact q⟩⟩
  rcases h with ⟨ns, h, hn, q⟩ | ⟨ns, h, _⟩
  · rw [← map_int_inj h] at hn q
    obtain ⟨h1, h2⟩ := maxI_spec (len_pos.mp hn)
    exact ⟨len_pos.mp hn, q _ h1 h2⟩
  · cases h
theorem xMinA_tI : xMinA (tI a) Q = (a ≠ [] ∧ Q (.va (.int (minI a)))) := by
  refine propext ⟨fun h => ?_, fun ⟨h, q⟩ => .inr ⟨a, rfl, len_pos.mpr h, fun k h1 h2 => by rw [min_uniq h1 h2]; exact q⟩⟩
  rcases h with h | ⟨ns, h, hn, q⟩
  · exact h.elim
  · rw [tI_inj] at h
    subst h
    obtain ⟨h1, h2⟩ := minI_spec (len_pos.mp hn)
    exact ⟨len_pos.mp hn, q _ h1 h2⟩
theorem xMinA_lI : xMinA (.lst (a.map .int)) Q = (a ≠ [] ∧ Q (.va (.int (minI a)))) := by
  refine propext ⟨fun h => ?_, fun ⟨h, q⟩ => .inl ⟨a, rfl, len_pos.mpr h, fun k h1 h2 => by rw [min_uniq h1 h2]; exact q⟩⟩
  rcases h with ⟨ns, h, hn, q⟩ | ⟨ns, h, _⟩
  · rw [← map_int_inj h] at hn q
    obtain ⟨h1, h2⟩ := minI_spec (len_pos.mp hn)
    exact ⟨len_pos.mp hn, q _ h1 h2⟩
  · cases h
end
theorem xDiv_pos {i j : Int} {Q : Rs → Prop} (h0 : 0 < j) (h1 : j < 2 ^ 64) : xDiv (.int i) (.int j) Q = Q (.va (.int (i / j))) := by
  refine propext ⟨fun h => ?_, fun q => .inr ⟨wide_div (b := 64) h0 (by omega) (by decide) (by decide), q⟩⟩
  rcases h with ⟨_, q⟩ | ⟨_, q⟩
  · rw [fdiv_pos h0] at q
    exact q
  · exact q
theorem xMod_pos {i j : Int} {Q : Rs → Prop} (h0 : 0 < j) : xMod (.int i) (.int j) Q = Q (.va (.int (i % j))) := by
  rw [xMod_int, fmod_pos h0]
  exact propext ⟨fun h => h.2, fun q => ⟨by omega, q⟩⟩
theorem xMul_sm {i j : Int} {Q : Rs → Prop} (h0 : 0 ≤ i) (h1 : i < 2 ^ 64) : xMul (.int i) (.int j) Q = Q (.va (.int (i * j))) := by
  rw [xMul_int]
  exact propext ⟨fun h => h.2, fun q => ⟨.inl (.inl (by omega)), q⟩⟩
theorem xMul_sm2 {i j : Int} {Q : Rs → Prop} (h0 : 0 ≤ j) (h1 : j < 2 ^ 64) : xMul (.int i) (.int j) Q = Q (.va (.int (i * j))) := by
  rw [xMul_int]
  exact propext ⟨fun h => h.2, fun q => ⟨.inl (.inr (by omega)), q⟩⟩
/-! ### displays of dicts -/
def vPairs : List (Str × WF) → Ev → (List (Key × PV) → Ev → Prop) → Prop
  | [], env, Q => Q [] env
  | (k, f) :: r, env, Q => f env fun v env1 => vPairs r env1 fun l env2 => Q ((.inr k, v) :: l) env2
def vDisp (l : List (Str × WF)) : WE := fun env Q => vPairs l env fun kvs env1 => kvs.length ≤ 15 ∧ (kvs.map (·.1)).Nodup ∧ Q (.ow (.dct kvs)) env1
inductive PJ : List (Str × WF) → List (Str × DE) → Prop
  | nil : PJ [] []
  | cons {k : Str} {f : WF} {t : DE} {l : List (Str × WF)} {r : List (Str × DE)} : FJ f t → PJ l r → PJ ((k, f) :: l) ((k, t) :: r)
theorem pairs_sound : ∀ {l : List (Str × WF)} {r : List (Str × DE)}, PJ l r → ∀ c env ds Q R, VS c env ds → vPairs l env Q → (∀ kvs env' c' dk, VS c' env' ds → Step c c' → RVk c'.f kvs dk → Q kvs env' → R dk c'.m) → dPairs r ds c.m R
  | _, _, .nil, c, env, ds, Q, R, W, q, k => k [] env c [] W (Step.refl c) .nil q
  | _, _, .cons h t, c, env, ds, Q, R, W, q, k => by
    refine h c env ds _ _ W q fun v env1 c1 d W1 s1 rv q1 => pairs_sound t c1 env1 ds _ _ W1 q1 fun kvs env2 c2 dk W2 s2 rk q2 => ?_
    exact k _ env2 c2 _ W2 (s1.trans s2) (.cons (rv.grow s2.mono) rk) q2
theorem rvk_keys {f : MH} : ∀ {l : List (Key × PV)} {ks : List (Key × D)}, RVk f l ks → ks.map (·.1) = l.map (·.1)
  | _, _, .nil => rfl
  | _, _, .cons _ t => by rw [List.map_cons, List.map_cons, rvk_keys t]
theorem vj_disp {l : List (Str × WF)} {r : List (Str × DE)} (h : PJ l r) : VJ (vDisp l) (dDisp r) := by
  intro c env ds Q R W q k p hp
  have pr := Priv.new W hp
  have W1 : VS { c with m := mup c.m p (.dct []) } env ds := W.priv pr
  have s1 : Step c { c with m := mup c.m p (.dct []) } := (Step.refl c).priv hp
  refine pairs_sound h { c with m := mup c.m p (.dct []) } env ds _ _ W1 q fun kvs env2 c2 dk W2 s2 rk q2 => ?_
  obtain ⟨pr2, e2⟩ := Priv.step (c := { c with m := mup c.m p (.dct []) }) (a := p) (o := .dct []) ⟨pr.f, pr.o⟩ s2 mup_same
  refine ⟨e2, by rw [← rk.len]; exact q2.1, by rw [rvk_keys rk]; exact q2.2.1, ?_⟩
  exact k (.ow (.dct kvs)) env2 { c2 with m := mup c2.m p (.dct dk) } _ (W2.priv pr2) ((s1.trans s2).priv hp) ⟨p, _, rfl, mup_same, rk, ⟨pr2.f, pr2.o⟩, .inl hp⟩ q2.2.2
end DL
/-! Codes as intervals: what a word's number is, words laid one behind another. -/
namespace DL
open PySem PySem.Spec PyProof.Rows L2
def SgW (s : Nat) (w : List Int) : Prop := ∀ i ∈ w, 0 ≤ i ∧ i < (s : Int)
def valN (s : Nat) : List Int → Nat
  | [] => 0
  | x :: w => x.toNat * s ^ w.length + valN s w
theorem SgW.tl {s : Nat} {x : Int} {w : List Int} (h : SgW s (x :: w)) : SgW s w := fun i hi => h i (by simp [hi])
theorem SgW.hd {s : Nat} {x : Int} {w : List Int} (h : SgW s (x :: w)) : 0 ≤ x ∧ x < (s : Int) := h x (by simp)
theorem SgW.app {s : Nat} {a b : List Int} (h : SgW s a) (k : SgW s b) : SgW s (a ++ b) := fun i hi => (List.mem_append.mp hi).elim (h i) (k i)
theorem SgW.pre {s : Nat} {a b : List Int} (h : SgW s (a ++ b)) : SgW s a := fun i hi => h i (by simp [hi])
theorem val_lt {s : Nat} : ∀ {w : List Int}, SgW s w → valN s w < s ^ w.length
  | [], _ => by simp [valN]
  | x :: w, h => by
    have h1 := val_lt h.tl
    have h2 := h.hd
    rw [valN, List.length_cons, Nat.pow_succ, Nat.mul_comm (s ^ w.length) s]
    have h3 : x.toNat + 1 ≤ s := by omega
    have h4 := Nat.mul_le_mul_right (s ^ w.length) h3
    rw [Nat.add_mul, Nat.one_mul] at h4
    omega
theorem pow_split {s a b M : Nat} (h : a + b = M) : s ^ M = s ^ a * s ^ b := by rw [← h, Nat.pow_add]
theorem val_scale {s M : Nat} {x : Int} {w : List Int} (h : w.length + 1 ≤ M + 1) : valN s (x :: w) * s ^ (M + 1 - (x :: w).length) = x.toNat * s ^ M + valN s w * s ^ (M - w.length) := by
  rw [valN, List.length_cons, Nat.add_sub_add_right, Nat.add_mul, Nat.mul_assoc, ← Nat.pow_add, show w.length + (M - w.length) = M by omega]
theorem end_scale {s M : Nat} {x : Int} {w : List Int} (h : w.length + 1 ≤ M + 1) : (valN s (x :: w) + 1) * s ^ (M + 1 - (x :: w).length) = x.toNat * s ^ M + (valN s w + 1) * s ^ (M - w.length) := by
  rw [Nat.add_mul, val_scale h, Nat.add_mul, List.length_cons, Nat.add_sub_add_right]
  omega
theorem end_le {s M : Nat} {w : List Int} (h : SgW s w) (hl : w.length ≤ M) : (valN s w + 1) * s ^ (M - w.length) ≤ s ^ M := by
  have h1 := val_lt h
  have h2 := Nat.mul_le_mul_right (s ^ (M - w.length)) h1
  rw [← Nat.pow_add, show w.length + (M - w.length) = M by omega] at h2
  exact h2
theorem apart_cons {x y : Int} {a b : List Int} : Apart (x :: a) (y :: b) ↔ x < y ∨ (x = y ∧ Apart a b) := by
  constructor
  · rintro ⟨c, u, v, a', b', h1, h2, h⟩
    cases c with
    | nil =>
      injection h1 with h1 _
      injection h2 with h2 _
      exact .inl (by omega)
    | cons z c =>
      injection h1 with h1 h1'
      injection h2 with h2 h2'
      exact .inr ⟨by omega, c, u, v, a', b', h1', h2', h⟩
  · rintro (h | ⟨rfl, c, u, v, a', b', rfl, rfl, h⟩)
    · exact ⟨[], x, y, a, b, rfl, rfl, h⟩
    · exact ⟨x :: c, u, v, a', b', rfl, rfl, h⟩
theorem not_apart_nil {b : List Int} : ¬ Apart [] b := by
  rintro ⟨c, u, v, a', b', h1, _, _⟩
  cases c <;> cases h1
theorem not_apart_nil' {b : List Int} : ¬ Apart b [] := by
  rintro ⟨c, u, v, a', b', _, h1, _⟩
  cases c <;> cases h1
/-- two words part, the one less, just if the one's stretch ends ahead of the other's -/
theorem apart_iff {s : Nat} (hs : 0 < s) : ∀ {w v : List Int} {M : Nat}, SgW s w → SgW s v → w.length ≤ M → v.length ≤ M → (Apart w v ↔ (valN s w + 1) * s ^ (M - w.length) ≤ valN s v * s ^ (M - v.length))
  | [], v, M, _, hv, _, hl => by
    refine iff_of_false not_apart_nil ?_
    have h1 := val_lt hv
    have h2 := end_le hv hl
    rw [Nat.add_mul, Nat.one_mul] at h2
    have h3 : 0 < s ^ (M - v.length) := Nat.pow_pos hs
    simp only [valN, List.length_nil, Nat.sub_zero, Nat.zero_add, Nat.one_mul]
    omega
  | x :: w, [], M, hw, _, hl, _ => by
    refine iff_of_false not_apart_nil' ?_
    have h3 : 0 < s ^ (M - (x :: w).length) := Nat.pow_pos hs
    simp only [valN, Nat.zero_mul]
    rw [Nat.add_mul, Nat.one_mul]
    omega
  | x :: w, y :: v, 0, _, _, hl, _ => by simp at hl
  | x :: w, y :: v, M + 1, hw, hv, hl, hl' => by
    rw [List.length_cons] at hl hl'
    rw [apart_cons, end_scale hl, val_scale hl', apart_iff (M := M) hs hw.tl hv.tl (by omega) (by omega)]
    have hx := hw.hd
    have hy := hv.hd
    have e1 := end_le (M := M) hw.tl (by omega)
    have e2 := end_le (M := M) hv.tl (by omega)
    have p : 0 < s ^ (M - v.length) := Nat.pow_pos hs
    have p2 : 0 < s ^ (M - w.length) := Nat.pow_pos hs
    rw [Nat.add_mul, Nat.one_mul] at e2
    generalize hA : (valN s w + 1) * s ^ (M - w.length) = A at *
    generalize hB : valN s v * s ^ (M - v.length) = B at *
    have hA0 : 0 < A := by rw [← hA]; exact Nat.mul_pos (Nat.succ_pos _) p2
    rcases Int.lt_trichotomy x y with h | h | h
    · have h1 : x.toNat + 1 ≤ y.toNat := by omega
      have h2 := Nat.mul_le_mul_right (s ^ M) h1
      rw [Nat.add_mul, Nat.one_mul] at h2
      exact iff_of_true (.inl h) (by omega)
    · subst h
      constructor
      · rintro (h | h)
        · omega
        · omega
      · intro h
        exact .inr ⟨rfl, by omega⟩
    · have h1 : y.toNat + 1 ≤ x.toNat := by omega
      have h2 := Nat.mul_le_mul_right (s ^ M) h1
      rw [Nat.add_mul, Nat.one_mul] at h2
      refine iff_of_false (fun z => ?_) (by omega)
      rcases z with z | z
      · omega
      · omega
theorem val_inj {s : Nat} : ∀ {w v : List Int}, SgW s w → SgW s v → w.length = v.length → valN s w = valN s v → w = v
  | [], [], _, _, _, _ => rfl
  | [], _ :: _, _, _, h, _ => by simp at h
  | _ :: _, [], _, _, h, _ => by simp at h
  | x :: w, y :: v, hw, hv, hl, h => by
    rw [List.length_cons, List.length_cons] at hl
    have hl : w.length = v.length := by omega
    rw [valN, valN, hl] at h
    have h1 := val_lt hw.tl
    have h2 := val_lt hv.tl
    rw [hl] at h1
    have hx := hw.hd
    have hy := hv.hd
    have e : x.toNat = y.toNat := by
      rcases Nat.lt_trichotomy x.toNat y.toNat with z | z | z
      · have h3 := Nat.mul_le_mul_right (s ^ v.length) z
        rw [Nat.succ_mul] at h3
        omega
      · exact z
      · have h3 := Nat.mul_le_mul_right (s ^ v.length) z
        rw [Nat.succ_mul] at h3
        omega
    rw [e] at h
    rw [show x = y by omega, val_inj hw.tl hv.tl hl (by omega)]
/-! ### the word of a length with a number -/
def numW (s : Nat) : Nat → Nat → List Int
  | 0, _ => []
  | L + 1, n => numW s L (n / s) ++ [((n % s : Nat) : Int)]
theorem numW_len (s : Nat) : ∀ L n, (numW s L n).length = L
  | 0, _ => rfl
  | L + 1, n => by rw [numW, List.length_append, numW_len s L]; rfl
theorem numW_sg {s : Nat} (hs : 0 < s) : ∀ L n, SgW s (numW s L n)
  | 0, _ => fun i h => nomatch h
  | L + 1, n => (numW_sg hs L (n / s)).app fun i hi => by
    rw [List.mem_singleton.mp hi]
    have := Nat.mod_lt n hs
    omega
theorem val_app1 (s : Nat) (x : Int) : ∀ w : List Int, valN s (w ++ [x]) = valN s w * s + x.toNat
  | [] => by simp [valN]
  | y :: w => by
    rw [List.cons_append, valN, valN, val_app1 s x w, List.length_append, List.length_singleton, Nat.pow_succ, Nat.add_mul, Nat.mul_assoc]
    omega
theorem val_numW {s : Nat} (hs : 0 < s) : ∀ L n, n < s ^ L → valN s (numW s L n) = n
  | 0, n, h => by
    rw [Nat.pow_zero] at h
    rw [numW, valN]
    omega
  | L + 1, n, h => by
    rw [numW, val_app1, val_numW hs L (n / s) (by rw [Nat.pow_succ] at h; exact Nat.div_lt_of_lt_mul (by rw [Nat.mul_comm]; exact h)), Int.toNat_natCast]
    exact Nat.div_add_mod' n s
/-! ### words laid behind one another -/
def endW (s M : Nat) (w : List Int) : Nat := (valN s w + 1) * s ^ (M - w.length)
def begW (s M : Nat) (w : List Int) : Nat := valN s w * s ^ (M - w.length)
def ceilN (b k : Nat) : Nat := (b + k - 1) / k
theorem ceil_le {b k n : Nat} (hk : 0 < k) : ceilN b k ≤ n ↔ b ≤ n * k := by
  unfold ceilN
  rw [← Nat.lt_succ_iff, Nat.div_lt_iff_lt_mul hk, Nat.succ_mul]
  omega
def nextW (s M b L : Nat) : Option (List Int) := if ceilN b (s ^ (M - L)) < s ^ L then some (numW s L (ceilN b (s ^ (M - L)))) else none
/-- the least word of a length that begins no sooner -/
structure IsNext (s M b L : Nat) (v : List Int) : Prop where
  len : v.length = L
  sg : SgW s v
  le : b ≤ begW s M v
  least : ∀ u, u.length = L → SgW s u → b ≤ begW s M u → valN s v ≤ valN s u
theorem next_some {s M b L : Nat} {v : List Int} (hs : 0 < s) (h : nextW s M b L = some v) : IsNext s M b L v := by
  unfold nextW at h
  split at h
  · next hc =>
    cases h
    have hv := val_numW hs L _ hc
    have p : 0 < s ^ (M - L) := Nat.pow_pos hs
    refine ⟨numW_len s L _, numW_sg hs L _, ?_, fun u hl hu hb => ?_⟩
    · unfold begW
      rw [hv, numW_len]
      exact (ceil_le p).mp (Nat.le_refl _)
    · unfold begW at hb
      rw [hl] at hb
      rw [hv]
      exact (ceil_le p).mpr hb
  · cases h
theorem next_none {s M b L : Nat} (hs : 0 < s) (h : nextW s M b L = none) {u : List Int} (hl : u.length = L) (hu : SgW s u) : ¬ b ≤ begW s M u := by
  unfold nextW at h
  split at h
  · cases h
  · next hc =>
    intro hb
    unfold begW at hb
    rw [hl] at hb
    have p : 0 < s ^ (M - L) := Nat.pow_pos hs
    have h1 := (ceil_le p).mpr hb
    have h2 := val_lt hu
    rw [hl] at h2
    omega
theorem IsNext.uniq {s M b L : Nat} {v u : List Int} (h : IsNext s M b L v) (k : IsNext s M b L u) : v = u :=
  val_inj h.sg k.sg (h.len.trans k.len.symm) (Nat.le_antisymm (h.least u k.len k.sg k.le) (k.least v h.len h.sg h.le))
theorem next_eq {s M b L : Nat} {v : List Int} (hs : 0 < s) (h : IsNext s M b L v) : nextW s M b L = some v := by
  cases e : nextW s M b L with
  | none => exact absurd h.le (next_none hs e h.len h.sg)
  | some u => rw [(next_some hs e).uniq h]
theorem next_no {s M b L : Nat} (hs : 0 < s) (h : ∀ u, u.length = L → SgW s u → ¬ b ≤ begW s M u) : nextW s M b L = none := by
  cases e : nextW s M b L with
  | none => rfl
  | some u =>
    have k := next_some hs e
    exact absurd k.le (h u k.len k.sg)
def placedM (s M : Nat) : Nat → List Nat → List (List Int)
  | _, [] => []
  | b, L :: r => match nextW s M b L with
    | none => []
    | some w => w :: placedM s M (endW s M w) r
def ChainE (s M : Nat) : Nat → List (List Int) → Prop
  | _, [] => True
  | b, u :: us => b ≤ begW s M u ∧ ChainE s M (endW s M u) us
theorem ChainE.mono {s M b b' : Nat} (h : b ≤ b') : ∀ {us : List (List Int)}, ChainE s M b' us → ChainE s M b us
  | [], _ => trivial
  | u :: us, k => ⟨Nat.le_trans h k.1, k.2⟩
theorem beg_le_end {s M : Nat} {w : List Int} : begW s M w ≤ endW s M w := Nat.mul_le_mul_right _ (Nat.le_succ _)
theorem apart_be {s M : Nat} (hs : 0 < s) {w v : List Int} (hw : SgW s w) (hv : SgW s v) (lw : w.length ≤ M) (lv : v.length ≤ M) : Apart w v ↔ endW s M w ≤ begW s M v := apart_iff hs hw hv lw lv
theorem chain_ge {s M : Nat} : ∀ {us : List (List Int)} {b : Nat}, ChainE s M b us → ∀ u ∈ us, b ≤ begW s M u
  | u :: us, b, h, v, hv => by
    rcases List.mem_cons.mp hv with z | z
    · rw [z]; exact h.1
    · exact Nat.le_trans h.1 (Nat.le_trans beg_le_end (chain_ge h.2 v z))
theorem chain_iff {s M : Nat} (hs : 0 < s) : ∀ {us : List (List Int)} {b : Nat}, (∀ u ∈ us, SgW s u ∧ u.length ≤ M) → (ChainE s M b us ↔ us.Pairwise Apart ∧ ∀ u ∈ us, b ≤ begW s M u)
  | [], b, _ => ⟨fun _ => ⟨List.Pairwise.nil, fun _ h => nomatch h⟩, fun _ => trivial⟩
  | u :: us, b, h => by
    have hu := h u (by simp)
    have ht : ∀ v ∈ us, SgW s v ∧ v.length ≤ M := fun v hv => h v (by simp [hv])
    constructor
    · intro k
      refine ⟨List.pairwise_cons.mpr ⟨fun v hv => ?_, ((chain_iff hs ht).mp k.2).1⟩, chain_ge k⟩
      have := chain_ge k.2 v hv
      exact (apart_be hs hu.1 (ht v hv).1 hu.2 (ht v hv).2).mpr this
    · rintro ⟨k1, k2⟩
      obtain ⟨k3, k4⟩ := List.pairwise_cons.mp k1
      exact ⟨k2 u (by simp), (chain_iff hs ht).mpr ⟨k4, fun v hv => (apart_be hs hu.1 (ht v hv).1 hu.2 (ht v hv).2).mp (k3 v hv)⟩⟩
/-- words with these lengths, one behind another -/
theorem placed_props {s M : Nat} (hs : 0 < s) : ∀ (row : List Nat) (b : Nat), (placedM s M b row).map List.length = row.take (placedM s M b row).length ∧ (∀ u ∈ placedM s M b row, SgW s u) ∧ ChainE s M b (placedM s M b row) ∧ (placedM s M b row).length ≤ row.length
  | [], b => ⟨rfl, (fun _ h => by simp [placedM] at h), trivial, Nat.le_refl _⟩
  | L :: r, b => by
    rw [placedM]
    cases e : nextW s M b L with
    | none => exact ⟨rfl, (fun _ h => by simp at h), trivial, Nat.zero_le _⟩
    | some w =>
      have k := next_some hs e
      obtain ⟨h1, h2, h3, h4⟩ := placed_props hs r (endW s M w)
      refine ⟨by simp only [List.map_cons, List.length_cons, List.take_succ_cons, h1, k.len], fun u hu => ?_, ⟨k.le, h3⟩, by simp only [List.length_cons]; omega⟩
      rcases List.mem_cons.mp hu with z | z
      · rw [z]; exact k.sg
      · exact h2 u z
/-- the least words are ahead of those of any code -/
theorem placed_opt {s M : Nat} (hs : 0 < s) : ∀ {us : List (List Int)} {b b' : Nat}, b ≤ b' → ChainE s M b' us → (∀ u ∈ us, SgW s u ∧ u.length ≤ M) → (placedM s M b (us.map List.length)).length = us.length
  | [], _, _, _, _, _ => rfl
  | u :: us, b, b', hb, hc, hu => by
    rw [List.map_cons, placedM]
    have hu0 := hu u (by simp)
    cases e : nextW s M b u.length with
    | none => exact absurd (Nat.le_trans hb hc.1) (next_none hs e rfl hu0.1)
    | some w =>
      have k := next_some hs e
      have h1 := k.least u rfl hu0.1 (Nat.le_trans hb hc.1)
      have h2 : endW s M w ≤ endW s M u := by
        unfold endW
        rw [k.len]
        exact Nat.mul_le_mul_right _ (Nat.succ_le_succ h1)
      simp only [List.length_cons]
      rw [placed_opt hs h2 hc.2 fun v hv => hu v (by simp [hv])]
theorem placed_take {s M : Nat} : ∀ (row : List Nat) (b k : Nat), placedM s M b (row.take k) = (placedM s M b row).take k
  | [], b, k => by simp [placedM]
  | L :: r, b, 0 => by simp [placedM]
  | L :: r, b, k + 1 => by
    rw [List.take_succ_cons, placedM, placedM]
    cases nextW s M b L with
    | none => simp
    | some w => simp only [List.take_succ_cons]; rw [placed_take r]
/-- there is a code with the first k lengths just if so many words were laid -/
theorem fit_iff {s M : Nat} (hs : 0 < s) {row : List Nat} (hM : ∀ L ∈ row, L ≤ M) {k : Nat} (hk : k ≤ row.length) :
    (∃ us : List (List Int), us.map List.length = row.take k ∧ (∀ u ∈ us, SgW s u) ∧ us.Pairwise Apart) ↔ k ≤ (placedM s M 0 row).length := by
  constructor
  · rintro ⟨us, h1, h2, h3⟩
    have hl : ∀ u ∈ us, SgW s u ∧ u.length ≤ M := fun u hu => ⟨h2 u hu, hM _ (List.mem_of_mem_take (h1 ▸ List.mem_map_of_mem hu))⟩
    have h4 := placed_opt hs (b := 0) (Nat.le_refl 0) ((chain_iff hs hl).mpr ⟨h3, fun u _ => Nat.zero_le _⟩) hl
    rw [h1, placed_take, List.length_take] at h4
    have h5 := congrArg List.length h1
    rw [List.length_map, List.length_take] at h5
    omega
  · intro h
    obtain ⟨h1, h2, h3, h4⟩ := placed_props (s := s) (M := M) hs row 0
    refine ⟨(placedM s M 0 row).take k, ?_, fun u hu => h2 u (List.mem_of_mem_take hu), ?_⟩
    · rw [List.map_take, h1, List.take_take, Nat.min_eq_left h]
    · have hl : ∀ u ∈ placedM s M 0 row, SgW s u ∧ u.length ≤ M := fun u hu => ⟨h2 u hu, hM _ (List.mem_of_mem_take (h1 ▸ List.mem_map_of_mem hu))⟩
      exact ((chain_iff hs hl).mp h3).1.sublist (List.take_sublist _ _)
/-! ### the order of words -/
theorem apart_lt {w v : List Int} : Apart w v ↔ w < v ∧ isPre w v = false := by
  constructor
  · rintro ⟨c, x, y, a, b, rfl, rfl, h⟩
    refine ⟨?_, ?_⟩
    · induction c with
      | nil => exact List.cons_lt_cons_iff.mpr (.inl h)
      | cons z c ih => exact List.cons_lt_cons_iff.mpr (.inr ⟨rfl, ih⟩)
    · cases e : isPre (c ++ x :: a) (c ++ y :: b) with
      | false => rfl
      | true =>
        have h1 := isPre_iff.mp e
        rw [List.prefix_append_right_inj] at h1
        have := (List.cons_prefix_cons.mp h1).1
        omega
  · rintro ⟨h1, h2⟩
    induction w generalizing v with
    | nil =>
      have : isPre [] v = true := isPre_iff.mpr (List.nil_prefix)
      rw [this] at h2
      cases h2
    | cons x w ih =>
      cases v with
      | nil => exact absurd h1 (List.not_lt_nil _)
      | cons y v =>
        rw [apart_cons]
        rcases List.cons_lt_cons_iff.mp h1 with z | ⟨z, z2⟩
        · exact .inl z
        · subst z
          refine .inr ⟨rfl, ih z2 ?_⟩
          cases e : isPre w v with
          | false => rfl
          | true =>
            have : isPre (x :: w) (x :: v) = true := isPre_iff.mpr (List.cons_prefix_cons.mpr ⟨rfl, isPre_iff.mp e⟩)
            rw [this] at h2
            cases h2
theorem apart_same {w v : List Int} (h : w.length = v.length) : Apart w v ↔ w < v := by
  rw [apart_lt]
  refine ⟨fun k => k.1, fun k => ⟨k, ?_⟩⟩
  cases e : isPre w v with
  | false => rfl
  | true =>
    have := (isPre_iff.mp e).eq_of_length h
    rw [this] at k
    exact absurd k (List.lt_irrefl v)
theorem Apart.trans {s M : Nat} {a b c : List Int} (hs : 0 < s) (ha : SgW s a) (hb : SgW s b) (hc : SgW s c) (h1 : Apart a b) (h2 : Apart b c) : Apart a c := by
  let M := a.length + b.length + c.length
  have k1 := (apart_be (M := M) hs ha hb (by omega) (by omega)).mp h1
  have k2 := (apart_be (M := M) hs hb hc (by omega) (by omega)).mp h2
  exact (apart_be (M := M) hs ha hc (by omega) (by omega)).mpr (Nat.le_trans k1 (Nat.le_trans beg_le_end k2))
/-! ### the least word of a length above a word -/
theorem no_apart {s : Nat} : ∀ {t u : List Int}, (∀ y ∈ t.take u.length, y = (s : Int) - 1) → SgW s u → ¬ Apart t u
  | [], u, _, _ => not_apart_nil
  | x :: t, [], _, _ => not_apart_nil'
  | x :: t, y :: u, h, hu => by
    rw [apart_cons]
    have h1 := h x (by simp)
    have h2 := hu.hd
    rintro (z | ⟨_, z⟩)
    · omega
    · exact no_apart (fun y hy => h y (by rw [List.length_cons, List.take_succ_cons]; simp [hy])) hu.tl z
theorem zeros_le {s : Nat} : ∀ {u : List Int}, SgW s u → List.replicate u.length 0 ≤ u
  | [], _ => List.le_refl _
  | y :: u, h => by
    rw [List.length_cons, List.replicate_succ, List.cons_le_cons_iff]
    have := h.hd
    rcases Int.lt_or_eq_of_le this.1 with z | z
    · exact .inl z
    · exact .inr ⟨z, zeros_le h.tl⟩
theorem above_least {s : Nat} : ∀ {q : List Int} {x : Int} {t u : List Int}, (∀ y ∈ t.take (u.length - q.length - 1), y = (s : Int) - 1) → SgW s u → q.length < u.length → Apart (q ++ x :: t) u → q ++ (x + 1) :: List.replicate (u.length - q.length - 1) 0 ≤ u
  | [], x, t, [], _, _, hl, _ => by simp at hl
  | [], x, t, y :: u, h, hu, _, ha => by
    rw [List.nil_append, apart_cons] at ha
    rw [List.nil_append]
    have e : (y :: u).length - ([] : List Int).length - 1 = u.length := by simp
    rw [e] at h ⊢
    rw [List.cons_le_cons_iff]
    rcases ha with z | ⟨_, z⟩
    · rcases Int.lt_or_eq_of_le (show x + 1 ≤ y by omega) with z2 | z2
      · exact .inl z2
      · exact .inr ⟨z2, zeros_le hu.tl⟩
    · exact absurd z (no_apart h hu.tl)
  | a :: q, x, t, [], _, _, hl, _ => by simp at hl
  | a :: q, x, t, y :: u, h, hu, hl, ha => by
    rw [List.cons_append, apart_cons] at ha
    have e : (y :: u).length - (a :: q).length - 1 = u.length - q.length - 1 := by simp only [List.length_cons]; omega
    rw [e] at h ⊢
    rw [List.cons_append, List.cons_le_cons_iff]
    rcases ha with z | ⟨z, z2⟩
    · exact .inl z
    · exact .inr ⟨z, above_least h hu.tl (by simp only [List.length_cons] at hl; omega) z2⟩
theorem val_mono {s : Nat} (hs : 0 < s) {r u : List Int} (hr : SgW s r) (hu : SgW s u) (hl : r.length = u.length) (h : r ≤ u) : valN s r ≤ valN s u := by
  rcases Nat.lt_or_ge (valN s u) (valN s r) with z | z
  · have : Apart u r := (apart_iff (M := r.length) hs hu hr (by omega) (Nat.le_refl _)).mpr (by rw [hl]; simp only [Nat.sub_self, Nat.pow_zero, Nat.mul_one]; omega)
    exact absurd ((apart_same hl.symm).mp this) (List.not_lt.mpr h)
  · exact z
theorem sg_rep {s : Nat} (hs : 0 < s) (n : Nat) : SgW s (List.replicate n 0) := fun i hi => by
  rw [List.eq_of_mem_replicate hi]
  omega
theorem next_above {s M : Nat} (hs : 0 < s) {q t : List Int} {x : Int} {L : Nat} (hw : SgW s (q ++ x :: t)) (hl : (q ++ x :: t).length ≤ M) (hL : L ≤ M) (hq : q.length < L) (hx : x + 1 < s) (ht : ∀ y ∈ t.take (L - q.length - 1), y = (s : Int) - 1) :
    nextW s M (endW s M (q ++ x :: t)) L = some (q ++ (x + 1) :: List.replicate (L - q.length - 1) 0) := by
  have hx0 := hw x (by simp)
  have hr : SgW s (q ++ (x + 1) :: List.replicate (L - q.length - 1) 0) := fun i hi => by
    rcases List.mem_append.mp hi with z | z
    · exact hw i (by simp [z])
    · rcases List.mem_cons.mp z with z | z
      · omega
      · exact sg_rep hs _ i z
  have hlen : (q ++ (x + 1) :: List.replicate (L - q.length - 1) 0).length = L := by
    rw [List.length_append, List.length_cons, List.length_replicate]
    omega
  refine next_eq hs ⟨hlen, hr, ?_, fun u hul hu hb => ?_⟩
  · exact (apart_be hs hw hr hl (by omega)).mp ⟨q, x, x + 1, t, _, rfl, rfl, by omega⟩
  · have ha := (apart_be hs hw hu hl (by omega)).mpr hb
    refine val_mono hs hr hu (hlen.trans hul.symm) ?_
    rw [← hul]
    exact above_least (by rw [hul]; exact ht) hu (by omega) ha
theorem next_top {s M : Nat} (hs : 0 < s) {w : List Int} {L : Nat} (hw : SgW s w) (hl : w.length ≤ M) (hL : L ≤ M) (ht : ∀ y ∈ w.take L, y = (s : Int) - 1) : nextW s M (endW s M w) L = none := by
  refine next_no hs fun u hul hu hb => ?_
  have ha := (apart_be hs hw hu hl (by omega)).mpr hb
  exact no_apart (by rw [hul]; exact ht) hu ha
theorem next_zero {s M L : Nat} (hs : 0 < s) : nextW s M 0 L = some (List.replicate L 0) := by
  refine next_eq hs ⟨List.length_replicate, sg_rep hs L, Nat.zero_le _, fun u hul hu _ => ?_⟩
  refine val_mono hs (sg_rep hs L) hu (by rw [List.length_replicate, hul]) ?_
  rw [← hul]
  exact zeros_le hu
/-! ### all codes with some lengths -/
def lastW (c : List (List Int)) : List Int := c.getLast?.getD []
def okEnd (c : List (List Int)) : Bool := !isPre (lastW c.dropLast) (lastW c)
def stepC (s L : Nat) (found : List (List (List Int))) : List (List (List Int)) :=
  (found.flatMap fun c => ((allWords s L).filter fun w => decide (lastW c < w)).map fun w => c ++ [w]).filter okEnd
def codesL (s : Nat) : List Nat → List (List (List Int))
  | [] => []
  | L :: r => r.foldl (fun f L => stepC s L f) ((allWords s L).map fun w => [w])
theorem lastW_app (c : List (List Int)) (w : List Int) : lastW (c ++ [w]) = w := by simp [lastW]
theorem sgW_all {s L : Nat} {w : List Int} : w ∈ allWords s L ↔ w.length = L ∧ SgW s w := mem_allWords
theorem mem_stepC {s L : Nat} {found : List (List (List Int))} {c : List (List Int)} : c ∈ stepC s L found ↔ ∃ c0 ∈ found, ∃ w, c = c0 ++ [w] ∧ w.length = L ∧ SgW s w ∧ Apart (lastW c0) w := by
  unfold stepC
  rw [List.mem_filter, List.mem_flatMap]
  constructor
  · rintro ⟨⟨c0, h0, h1⟩, h2⟩
    obtain ⟨w, hw, rfl⟩ := List.mem_map.mp h1
    obtain ⟨hw1, hw2⟩ := List.mem_filter.mp hw
    obtain ⟨hl, hs⟩ := sgW_all.mp hw1
    refine ⟨c0, h0, w, rfl, hl, hs, apart_lt.mpr ⟨of_decide_eq_true hw2, ?_⟩⟩
    unfold okEnd at h2
    rw [List.dropLast_concat, lastW_app] at h2
    simpa using h2
  · rintro ⟨c0, h0, w, rfl, hl, hs, ha⟩
    obtain ⟨a1, a2⟩ := apart_lt.mp ha
    refine ⟨⟨c0, h0, List.mem_map.mpr ⟨w, List.mem_filter.mpr ⟨sgW_all.mpr ⟨hl, hs⟩, decide_eq_true a1⟩, rfl⟩⟩, ?_⟩
    unfold okEnd
    rw [List.dropLast_concat, lastW_app, a2]
    rfl
/-- a code with these lengths -/
structure CodeR (s : Nat) (row : List Nat) (us : List (List Int)) : Prop where
  len : us.map List.length = row
  sg : ∀ u ∈ us, SgW s u
  ap : us.Pairwise Apart
theorem CodeR.snoc {s : Nat} (hs : 0 < s) {row : List Nat} {us : List (List Int)} {w : List Int} (hne : us ≠ []) : CodeR s (row ++ [w.length]) (us ++ [w]) ↔ CodeR s row us ∧ SgW s w ∧ Apart (lastW us) w := by
  have hlast : lastW us ∈ us := by
    unfold lastW
    rw [List.getLast?_eq_some_getLast hne]
    exact List.getLast_mem hne
  constructor
  · rintro ⟨h1, h2, h3⟩
    rw [List.map_append] at h1
    obtain ⟨h4, h5, h6⟩ := List.pairwise_append.mp h3
    exact ⟨⟨List.append_inj_left' h1 rfl, fun u hu => h2 u (by simp [hu]), h4⟩, h2 w (by simp), h6 _ hlast w (by simp)⟩
  · rintro ⟨⟨h1, h2, h3⟩, h4, h5⟩
    refine ⟨by rw [List.map_append, h1]; rfl, fun u hu => ?_, List.pairwise_append.mpr ⟨h3, by simp, fun x hx y hy => ?_⟩⟩
    · rcases List.mem_append.mp hu with z | z
      · exact h2 u z
      · rw [List.mem_singleton.mp z]; exact h4
    · rw [List.mem_singleton.mp hy]
      by_cases e : x = lastW us
      · rw [e]; exact h5
      · have hx2 : x ∈ us.dropLast := by
          have hd := List.dropLast_concat_getLast hne
          rw [← hd] at hx
          rcases List.mem_append.mp hx with z | z
          · exact z
          · exfalso
            apply e
            rw [List.mem_singleton.mp z]
            unfold lastW
            rw [List.getLast?_eq_some_getLast hne]
            rfl
        have hd := List.dropLast_concat_getLast hne
        have h3' := h3
        rw [← hd] at h3'
        have h6 := (List.pairwise_append.mp h3').2.2 x hx2 _ (List.mem_singleton.mpr rfl)
        have e2 : lastW us = us.getLast hne := by
          unfold lastW
          rw [List.getLast?_eq_some_getLast hne]
          rfl
        rw [← e2] at h6
        exact Apart.trans (M := 0) hs (h2 x hx) (h2 _ hlast) h4 h6 h5
theorem mem_fold {s : Nat} (hs : 0 < s) : ∀ (r row : List Nat) (found : List (List (List Int))), row ≠ [] → (∀ c, c ∈ found ↔ CodeR s row c) → ∀ c, c ∈ r.foldl (fun f L => stepC s L f) found ↔ CodeR s (row ++ r) c
  | [], row, found, _, h, c => by rw [List.append_nil]; exact h c
  | L :: r, row, found, hne, h, c => by
    have := mem_fold hs r (row ++ [L]) (stepC s L found) (by simp) (fun c => ?_) c
    · rw [List.append_assoc] at this
      exact this
    · rw [mem_stepC]
      constructor
      · rintro ⟨c0, h0, w, rfl, rfl, h1, h2⟩
        have hc := (h c0).mp h0
        have hne0 : c0 ≠ [] := fun z => hne (by rw [← hc.len, z]; rfl)
        exact (CodeR.snoc hs hne0).mpr ⟨hc, h1, h2⟩
      · intro hc
        have hcne : c ≠ [] := fun z => by
          have := hc.len
          rw [z] at this
          simp at this
        have hd := List.dropLast_concat_getLast hcne
        have hlen := hc.len
        rw [← hd, List.map_append] at hlen
        have h2 := List.append_inj_right' hlen rfl
        have h2 : [(c.getLast hcne).length] = [L] := h2
        have h3 : (c.getLast hcne).length = L := by injection h2
        have h4 : c.dropLast ≠ [] := fun z => by
          have h5 := List.append_inj_left' hlen rfl
          rw [z] at h5
          exact hne h5.symm
        rw [← hd, ← h3] at hc
        obtain ⟨k1, k2, k3⟩ := (CodeR.snoc hs h4).mp hc
        exact ⟨c.dropLast, (h _).mpr k1, c.getLast hcne, hd.symm, h3, k2, k3⟩
theorem mem_codes {s : Nat} (hs : 0 < s) {row : List Nat} (hne : row ≠ []) {c : List (List Int)} : c ∈ codesL s row ↔ CodeR s row c := by
  cases row with
  | nil => exact absurd rfl hne
  | cons L r =>
    refine mem_fold hs r [L] _ (by simp) (fun c => ?_) c
    rw [List.mem_map]
    constructor
    · rintro ⟨w, hw, rfl⟩
      obtain ⟨h1, h2⟩ := sgW_all.mp hw
      exact ⟨by rw [List.map_cons, h1]; rfl, fun u hu => by rw [List.mem_singleton.mp hu]; exact h2, by simp⟩
    · rintro ⟨h1, h2, _⟩
      match c, h1 with
      | [w], h1 =>
        have h1 : [w.length] = [L] := h1
        injection h1 with h1
        exact ⟨w, sgW_all.mpr ⟨h1, h2 w (by simp)⟩, rfl⟩
      | [], h1 => cases h1
      | _ :: _ :: _, h1 => cases h1
theorem stepC_len {s L : Nat} (found : List (List (List Int))) : (stepC s L found).length ≤ found.length * s ^ L := by
  unfold stepC
  refine Nat.le_trans (List.length_filter_le _ _) ?_
  induction found with
  | nil => simp
  | cons c f ih =>
    rw [List.flatMap_cons, List.length_append, List.length_map, List.length_cons, Nat.succ_mul]
    have := List.length_filter_le (fun w => decide (lastW c < w)) (allWords s L)
    rw [allWords_len] at this
    omega
end DL
/-! Rows: the program's own functions. -/
namespace DL
open PySem PySem.Spec PyProof.Rows L2
local macro_rules
  | `(tactic| simp_arith) => `(tactic| simp only [↓vSeq, ↓vSkip, ↓vAsgN, ↓vAsg, ↓vPar, ↓vIf, ↓vRet, ↓vExpr, ↓vFor, ↓vSetI, ↓vBreak, ↓vCont, ↓vF, ↓vVar, ↓vMov, ↓vC, ↓vNil, ↓vCons, ↓vTup, ↓vLst, ↓vDisp, ↓vPairs, ↓vNewD, ↓vOp, ↓vChain, ↓vB, ↓vNotT, ↓vAndT, ↓vOrT, ↓vYes, ↓vAnd, ↓vOr, ↓vNot, ↓vIfE, ↓vNeg, ↓vNo, ↓vPart, ↓vSl, ↓vRev_x, ↓vB1, ↓vIsi, ↓vAnyI_x, ↓vR1, ↓vR2, ↓vR3, ↓vEnum_x, ↓vZip2_x, ↓vG, ↓vGnil, ↓vGcons, ↓vGT, ↓vGL, ↓vLc, ↓vCall, ↓vCallD, ↓vApp, ↓vPop0, ↓vPop1, ↓vExt, ↓vDeck, ↓xIs, ↓xIsNot, Rs.v, SameR, Same, same_self, same_cons, reduceCtorEq, or_true, true_or, or_false, false_or, and_false, false_and, toSl, notBr, wipeP, List.set_cons_zero, List.set_cons_succ, List.getElem?_cons_zero, List.getElem?_cons_succ, Option.some.injEq, Sl.ow.injEq, Sl.va.injEq, Sl.dk.injEq, PV.int.injEq, PV.bl.injEq, PV.tup.injEq, PV.lst.injEq, PV.dct.injEq, Rs.va.injEq, List.cons.injEq, List.length_cons, List.length_nil, exists_eq_left', exists_eq_left, exists_eq', exists_const, true_and, and_true, and_self, if_true, if_false, Bool.false_eq_true, reduceIte, and_assoc, exists_and_left, exists_and_right, Bool.not_true, Bool.not_false, at_zero, at_one, at_two, ↓xAdd_int, ↓xAdd_str, ↓xAdd_tup, ↓xAdd_lst, ↓xSub_int, ↓xMul_tup, ↓xMul_lst, ↓xPow_int, ↓xLt_int, ↓xLe_int, ↓xGt_int, ↓xGe_int, ↓xIx_tup, ↓xIx_lst, ↓xIx_str, ↓xIx_dct, ↓xLen_tup, ↓xLen_lst, ↓xLen_str, ↓xAbs_int, ↓xList_tup, ↓xList_lst, ↓xTuple_tup, ↓xTuple_lst, ↓xSl_tup, ↓xSl_lst, ↓xRev_tup, ↓xRev_lst, ↓xMin2_int, ↓xMax2_int, ↓xItems_tup, ↓xItems_lst, ↓xItems_str, ↓xEnum_tup, ↓xEnum_lst, ↓xZip_tup, ↓xZip_lst, ↓xZip_WW, ↓xZip_IW, ↓xZip_WI, ↓xZip_II, ↓xZip_tI, ↓xZip_It, keyP'_int, keyP'_str, isNo_non, isNo_bl, isNo_int, isNo_str, isNo_tup, isNo_lst, isNo_dct, isInt_non, isInt_bl, isInt_int, isInt_str, isInt_tup, isInt_lst, isInt_dct, isInt_tI, isInt_tW, isBool_non, isBool_bl, isBool_int, isBool_str, isBool_tup, isBool_lst, isBool_dct, isBool_tI, isBool_tW, isStrV_non, isStrV_bl, isStrV_int, isStrV_str, isStrV_tup, isStrV_lst, isStrV_dct, isStrV_tI, isStrV_tW, isTupP_non, isTupP_bl, isTupP_int, isTupP_str, isTupP_tup, isTupP_lst, isTupP_dct, isLstP_non, isLstP_bl, isLstP_int, isLstP_str, isLstP_tup, isLstP_lst, isLstP_dct, isLstP_tI, isLstP_tW, ↓xLen_tI, ↓xLen_tW, ↓xIx_tI, ↓xIx_tW, ↓xIx_lI, ↓xIx_lW, ↓xAdd_tI, ↓xAdd_tI1, ↓xAdd_1tI, ↓xAdd_tW, ↓xAdd_tW1, ↓xAdd_1tW, ↓xSl_tI, ↓xSl_tW, ↓xList_tI, ↓xList_tW, ↓xTuple_lI, ↓xTuple_lW, ↓xTuple_tI, ↓xTuple_tW, ↓xLt_tI, ↓xLe_tI, ↓xGt_tI, ↓xGe_tI, ↓xLt_tW, ↓xLe_tW, ↓xEq_tI, ↓xNe_tI, ↓xEq_tI0, ↓xNe_tI0, ↓xEq_tW, ↓xNe_tW, ↓xEq_tW0, ↓xNe_tW0, ↓xEq_int, ↓xNe_int, ↓xEq_bl, ↓xNe_bl, ↓xEq_lI, ↓xNe_lI, ↓xEq_lI0, ↓xNe_lI0, ↓xEq_lW, ↓xNe_lW, ↓xEq_lW0, ↓xNe_lW0, isTup_tI, isTup_tW, isNo_tI, isNo_tW, ↓xRev_tI, ↓xRev_tW, ↓xItems_tI, ↓xItems_tW, ↓xEnum_tI, ↓xEnum_tW, tI_inj, tW_inj, Int.reduceToNat, Int.zero_add, ↓xSum_lI, ↓xAll_l, ↓xAny_l, cut_tl, ↓xSumA_lI, ↓xSumA_tI, ↓xMaxA_tI, ↓xMaxA_lI, ↓xMinA_tI, ↓xMinA_lI, Int.natCast_inj, atI_map, ex_map, Nat.zero_le])
local macro_rules
  | `(tactic| simp_arith [$args,*]) => `(tactic| simp only [↓vSeq, ↓vSkip, ↓vAsgN, ↓vAsg, ↓vPar, ↓vIf, ↓vRet, ↓vExpr, ↓vFor, ↓vSetI, ↓vBreak, ↓vCont, ↓vF, ↓vVar, ↓vMov, ↓vC, ↓vNil, ↓vCons, ↓vTup, ↓vLst, ↓vDisp, ↓vPairs, ↓vNewD, ↓vOp, ↓vChain, ↓vB, ↓vNotT, ↓vAndT, ↓vOrT, ↓vYes, ↓vAnd, ↓vOr, ↓vNot, ↓vIfE, ↓vNeg, ↓vNo, ↓vPart, ↓vSl, ↓vRev_x, ↓vB1, ↓vIsi, ↓vAnyI_x, ↓vR1, ↓vR2, ↓vR3, ↓vEnum_x, ↓vZip2_x, ↓vG, ↓vGnil, ↓vGcons, ↓vGT, ↓vGL, ↓vLc, ↓vCall, ↓vCallD, ↓vApp, ↓vPop0, ↓vPop1, ↓vExt, ↓vDeck, ↓xIs, ↓xIsNot, Rs.v, SameR, Same, same_self, same_cons, reduceCtorEq, or_true, true_or, or_false, false_or, and_false, false_and, toSl, notBr, wipeP, List.set_cons_zero, List.set_cons_succ, List.getElem?_cons_zero, List.getElem?_cons_succ, Option.some.injEq, Sl.ow.injEq, Sl.va.injEq, Sl.dk.injEq, PV.int.injEq, PV.bl.injEq, PV.tup.injEq, PV.lst.injEq, PV.dct.injEq, Rs.va.injEq, List.cons.injEq, List.length_cons, List.length_nil, exists_eq_left', exists_eq_left, exists_eq', exists_const, true_and, and_true, and_self, if_true, if_false, Bool.false_eq_true, reduceIte, and_assoc, exists_and_left, exists_and_right, Bool.not_true, Bool.not_false, at_zero, at_one, at_two, ↓xAdd_int, ↓xAdd_str, ↓xAdd_tup, ↓xAdd_lst, ↓xSub_int, ↓xMul_tup, ↓xMul_lst, ↓xPow_int, ↓xLt_int, ↓xLe_int, ↓xGt_int, ↓xGe_int, ↓xIx_tup, ↓xIx_lst, ↓xIx_str, ↓xIx_dct, ↓xLen_tup, ↓xLen_lst, ↓xLen_str, ↓xAbs_int, ↓xList_tup, ↓xList_lst, ↓xTuple_tup, ↓xTuple_lst, ↓xSl_tup, ↓xSl_lst, ↓xRev_tup, ↓xRev_lst, ↓xMin2_int, ↓xMax2_int, ↓xItems_tup, ↓xItems_lst, ↓xItems_str, ↓xEnum_tup, ↓xEnum_lst, ↓xZip_tup, ↓xZip_lst, ↓xZip_WW, ↓xZip_IW, ↓xZip_WI, ↓xZip_II, ↓xZip_tI, ↓xZip_It, keyP'_int, keyP'_str, isNo_non, isNo_bl, isNo_int, isNo_str, isNo_tup, isNo_lst, isNo_dct, isInt_non, isInt_bl, isInt_int, isInt_str, isInt_tup, isInt_lst, isInt_dct, isInt_tI, isInt_tW, isBool_non, isBool_bl, isBool_int, isBool_str, isBool_tup, isBool_lst, isBool_dct, isBool_tI, isBool_tW, isStrV_non, isStrV_bl, isStrV_int, isStrV_str, isStrV_tup, isStrV_lst, isStrV_dct, isStrV_tI, isStrV_tW, isTupP_non, isTupP_bl, isTupP_int, isTupP_str, isTupP_tup, isTupP_lst, isTupP_dct, isLstP_non, isLstP_bl, isLstP_int, isLstP_str, isLstP_tup, isLstP_lst, isLstP_dct, isLstP_tI, isLstP_tW, ↓xLen_tI, ↓xLen_tW, ↓xIx_tI, ↓xIx_tW, ↓xIx_lI, ↓xIx_lW, ↓xAdd_tI, ↓xAdd_tI1, ↓xAdd_1tI, ↓xAdd_tW, ↓xAdd_tW1, ↓xAdd_1tW, ↓xSl_tI, ↓xSl_tW, ↓xList_tI, ↓xList_tW, ↓xTuple_lI, ↓xTuple_lW, ↓xTuple_tI, ↓xTuple_tW, ↓xLt_tI, ↓xLe_tI, ↓xGt_tI, ↓xGe_tI, ↓xLt_tW, ↓xLe_tW, ↓xEq_tI, ↓xNe_tI, ↓xEq_tI0, ↓xNe_tI0, ↓xEq_tW, ↓xNe_tW, ↓xEq_tW0, ↓xNe_tW0, ↓xEq_int, ↓xNe_int, ↓xEq_bl, ↓xNe_bl, ↓xEq_lI, ↓xNe_lI, ↓xEq_lI0, ↓xNe_lI0, ↓xEq_lW, ↓xNe_lW, ↓xEq_lW0, ↓xNe_lW0, isTup_tI, isTup_tW, isNo_tI, isNo_tW, ↓xRev_tI, ↓xRev_tW, ↓xItems_tI, ↓xItems_tW, ↓xEnum_tI, ↓xEnum_tW, tI_inj, tW_inj, Int.reduceToNat, Int.zero_add, ↓xSum_lI, ↓xAll_l, ↓xAny_l, cut_tl, ↓xSumA_lI, ↓xSumA_tI, ↓xMaxA_tI, ↓xMaxA_lI, ↓xMinA_tI, ↓xMinA_lI, Int.natCast_inj, atI_map, ex_map, Nat.zero_le, $args,*])
/-! ### whole numbers within bounds, words -/
def intP (lo hi : Int) : PV → Bool
  | .int i => decide (lo ≤ i) && decide (i ≤ hi)
  | _ => false
theorem rv_ty {c : C3} {v : PV} {d : D} (g : Grow c.f c.m) (r : RV c.f v d) : Ty c.m d := ⟨_, tyP_of (RV.read g r)⟩
theorem intIn_eq {f : MH} {v : PV} {d : D} (r : RV f v d) (lo hi : Int) : intIn lo hi d = intP lo hi v := by cases r <;> rfl
def w_is_integer : WSp := fun l Q => ∃ v lo hi, l = [v, .int lo, .int hi] ∧ Q (.bl (intP lo hi v))
theorem cv_is_integer : CallV sp_is_integer w_is_integer := by
  intro c env ds l dl Q R W rl q k
  obtain ⟨v, lo, hi, rfl, q⟩ := q
  cases rl with
  | cons r1 rr =>
    cases rr with
    | cons r2 rr =>
      cases rr with
      | cons r3 rr =>
        cases r2; cases r3; cases rr
        exact ⟨_, lo, hi, rfl, rv_ty W.sub r1, k _ c _ W (Step.refl c) (by rw [intIn_eq r1]; exact .bl _) q⟩
def w__law_is_whole : WSp := w_is_integer
theorem cv__law_is_whole : CallV sp__law_is_whole w__law_is_whole := cv_is_integer
def sgnP (s : Int) : PV → Bool
  | .tup l => l.all (intP 0 (s - 1))
  | _ => false
def wordP (s : Int) : PV → Bool
  | .tup l => l.all (intP 0 (s - 1)) && decide (l.length ≤ 16)
  | _ => false
theorem all_eq {f : MH} (lo hi : Int) : ∀ {l : List PV} {ds : List D}, RVs f l ds → ds.all (intIn lo hi) = l.all (intP lo hi)
  | _, _, .nil => rfl
  | _, _, .cons r t => by rw [List.all_cons, List.all_cons, intIn_eq r, all_eq lo hi t]
theorem rvs_ty {c : C3} (g : Grow c.f c.m) : ∀ {l : List PV} {ds : List D}, RVs c.f l ds → ∀ x ∈ ds, Ty c.m x
  | _, _, .cons r t, x, h => by
    rcases List.mem_cons.mp h with z | z
    · rw [z]; exact rv_ty g r
    · exact rvs_ty g t x z
/-- a tuple that is not too long -/
@[reducible] def PV.tv : PV → Option (List PV)
  | .tup l => some l
  | .xtp _ => some (List.replicate 100001 .non)
  | _ => none
def ShortT (v : PV) : Prop := ∀ l, v.tv = some l → l.length ≤ 100000
theorem ShortT.nx {l : List PV} (h : ShortT (.xtp l)) : False := by
  have := h _ rfl
  rw [List.length_replicate] at this
  omega
theorem rv_tyI {c : C3} {v : PV} {d : D} (g : Grow c.f c.m) (r : RV c.f v d) (h : ShortT v) : TyI c.m d := by
  refine ⟨⟨rv_ty g r, ?_⟩, fun l e => ?_⟩
  · rintro a l rfl q
    cases r with
    | lst e _ => rw [g _ _ e] at q; cases q
    | dct e _ => rw [g _ _ e] at q; cases q
    | xtp e _ => exact h.nx
  subst e
  cases r with
  | tup r => exact ⟨by rw [← r.len]; exact h _ rfl, rvs_ty g r⟩
theorem isWord_eq {f : MH} {v : PV} {d : D} (r : RV f v d) (s : Int) : isWord s d = wordP s v := by
  cases r with
  | tup r => show (_ && _) = (_ && _); rw [all_eq 0 (s - 1) r, r.len]
  | _ => rfl
theorem areSigns_eq {f : MH} {v : PV} {d : D} (r : RV f v d) (s : Int) : areSigns s d = sgnP s v := by
  cases r with
  | tup r => exact all_eq 0 (s - 1) r
  | _ => rfl
def w_is_word : WSp := fun l Q => ∃ s v, l = [.int s, v] ∧ ShortT v ∧ Q (.bl (wordP s v))
theorem cv_is_word : CallV sp_is_word w_is_word := by
  intro c env ds l dl Q R W rl q k
  obtain ⟨s, v, rfl, h, q⟩ := q
  cases rl with
  | cons r1 rr =>
    cases rr with
    | cons r2 rr =>
      cases r1; cases rr
      refine ⟨s, _, rfl, rv_tyI W.sub r2 h, fun m' g => ?_⟩
      exact k _ ⟨c.f, c.O, m'⟩ _ (W.grow g (Grow.refl _) (W.sub.trans g) fun b hb => .inl hb) (Step.grow g (Grow.refl _) fun b hb => .inl hb) (by rw [isWord_eq r2]; exact .bl _) q
def w__law_is_word : WSp := w_is_word
theorem cv__law_is_word : CallV sp__law_is_word w__law_is_word := cv_is_word
def w_are_signs : WSp := fun l Q => ∃ s v, l = [.int s, v] ∧ ShortT v ∧ Q (.bl (sgnP s v))
theorem cv_are_signs : CallV sp_are_signs w_are_signs := by
  intro c env ds l dl Q R W rl q k
  obtain ⟨s, v, rfl, h, q⟩ := q
  cases rl with
  | cons r1 rr =>
    cases rr with
    | cons r2 rr =>
      cases r1; cases rr
      refine ⟨s, _, rfl, rv_tyI W.sub r2 h, fun m' g => ?_⟩
      exact k _ ⟨c.f, c.O, m'⟩ _ (W.grow g (Grow.refl _) (W.sub.trans g) fun b hb => .inl hb) (Step.grow g (Grow.refl _) fun b hb => .inl hb) (by rw [areSigns_eq r2]; exact .bl _) q
/-! ### rows -/
def rowP : PV → Bool
  | .tup l => decide (1 ≤ l.length) && decide (l.length ≤ 16) && l.all (intP 0 16)
  | _ => false
def w_is_row : WSp := fun l Q => ∃ v, l = [v] ∧ ShortT v ∧ Q (.bl (rowP v))
theorem map_blP {α : Type} (c : α → Bool) (l : List α) : l.map (fun x => PV.bl (c x)) = (l.map c).map .bl := by rw [List.map_map]; rfl
theorem all_id {α : Type} (c : α → Bool) (l : List α) : (l.map c).all id = l.all c := by rw [List.all_map]; rfl
theorem any_id {α : Type} (c : α → Bool) (l : List α) : (l.map c).any id = l.any c := by rw [List.any_map]; rfl
theorem lsl {n : Nat} (h : n ≤ 100000) : n ≤ sizeLine := Nat.le_trans h (by decide)
abbrev c_MAX_KEYS : D := .int 16
/-- slots: 0 value, 1 item -/
abbrev sp_is_row : DSp := lV w_is_row
theorem cv_is_row : CallV sp_is_row w_is_row := cv_lV _
def b_is_row : DS := (dSeq (dIf (dOrT (dNotT (dB (dIsi "tuple" (dVar 0)))) (dNotT (dB (dChain aLe aLe (dC (.int 1)) (dB1 bLen (dCons (dVar 0) dNil)) (dC c_MAX_KEYS))))) (dRet (dC (.bl false))) dSkip)
  (dRet (dB1 bAll (dCons (dLc (iAny (dVar 0)) (gN 1) dYes (dCall sp_is_integer (dCons (dVar 1) (dCons (dC (.int 0)) (dCons (dC c_MAX_LONG) dNil)))) [1]) dNil))))
def v_is_row_1 : WS := (vRet (vF (vB1 xAll (vLc (vAnyI (vF (vMov 0))) (vG 1) vYes (vF (vCall w_is_integer (vCons (vF (vMov 1)) (vCons (vF (vC (.int 0))) (vCons (vF (vC (.int 16))) vNil))))) [1]))))
def v_is_row : WS := vSeq (vIf (vOrT (vNotT (vB (vIsi isTupP (vVar 0)))) (vNotT (vB (vChain xLe xLe (vC (.int 1)) (vB1 xLen (vVar 0)) (vC (.int 16)))))) (vRet (vF (vC (.bl false)))) vSkip) v_is_row_1
theorem sj_is_row : SJ v_is_row b_is_row := (sj_seq (sj_if (tj_or (tj_not (tj_b (vj_isi isT_tuple (vj_var 0)))) (tj_not (tj_b (vj_chain ov_le ov_le (vj_c (v := (.int 1)) fun _ => .int _) (vj_b1 bv_len (vj_var 0)) (vj_c (v := (.int 16)) fun _ => .int _))))) (sj_ret (fj (vj_c (v := (.bl false)) fun _ => .bl _))) sj_skip) (sj_ret (fj (vj_b1 bv_all (vj_lc (wj_any (fj (vj_mov 0))) (gj_n 1 (by decide)) tj_yes (fj (vj_call cv_is_integer (aj_cons (fj (vj_mov 1)) (aj_cons (fj (vj_c (v := (.int 0)) fun _ => .int _)) (aj_cons (fj (vj_c (v := (.int 16)) fun _ => .int _)) aj_nil))))))))))
abbrev n_is_row : Nat := 2
theorem hw_is_row : ∀ l Q0 E, Ends0 E Q0 → w_is_row l Q0 → v_is_row E (vstart 2 l) := by
  rintro l Q0 E hE ⟨v, rfl, hv, q⟩
  show v_is_row _ [.va v, .no]
  unfold v_is_row v_is_row_1
  cases v with
  | tup l =>
    have hl := hv l rfl
    have e : rowP (.tup l) = (decide (1 ≤ l.length) && decide (l.length ≤ 16) && l.all (intP 0 16)) := rfl
    simp_arith [w_is_integer]
    by_cases h1 : 1 ≤ l.length
    · rw [decide_eq_true h1, Bool.true_and] at e
      rw [decide_eq_true (by omega), if_pos rfl]
      by_cases h2 : l.length ≤ 16
      · rw [decide_eq_true h2, Bool.true_and] at e
        rw [decide_eq_true (by omega)]
        simp_arith
        refine vlc_mapI (fun x => .bl (intP 0 16 x)) (lsl hl) (fun x hx N hN => ?_) ?_
        · simp_arith [w_is_integer]
          exact hN _ rfl
        · rw [map_blP, xAll_l, all_id, ← e]
          exact hE.rt _ _ q
      · rw [decide_eq_false h2, Bool.false_and] at e
        rw [decide_eq_false (by omega)]
        simp_arith
        rw [e] at q
        exact hE.rt _ _ q
    · rw [decide_eq_false h1, Bool.false_and, Bool.false_and] at e
      rw [decide_eq_false (by omega), if_neg (by decide)]
      rw [e] at q
      exact hE.rt _ _ q
  | xtp l => exact hv.nx.elim
  | _ =>
    simp_arith
    exact hE.rt _ _ q
theorem hp_is_row : ∀ ds m Q, sp_is_row ds m Q → b_is_row { nx := fun _ m' => Q .non m', rt := Q } (dstart 2 ds) m := body_f 2 sj_is_row hw_is_row
/-! ### powers -/
def w_power : WSp := fun l Q => ∃ b k : Nat, l = [.int b, .int k] ∧ b < 2 ^ 60 ∧ k < 2 ^ 60 ∧ Q (.int ((b ^ k : Nat) : Int))
/-- slots: 0 base, 1 many, 2 found, 3 turn -/
abbrev sp_power : DSp := lV w_power
theorem cv_power : CallV sp_power w_power := cv_lV _
def b_power : DS := (dSeq (dAsg (dC (.int 1)) (gN 2))
  (dSeq (dFor (iR1 (dCons (dVar 1) dNil)) (gN 3) (dAsg (dOp aMul (dVar 2) (dVar 0)) (gN 2)))
  (dRet (dVar 2))))
def v_power_2L : WS := (vAsgN 2 (vOp xMul (vVar 2) (vVar 0)))
def v_power_2 : WS := (vRet (vF (vMov 2)))
def v_power_1 : WS := vSeq (vFor (vR1 (vCons (vF (vMov 1)) vNil)) (vG 3) v_power_2L) v_power_2
def v_power : WS := vSeq (vAsgN 2 (vC (.int 1))) v_power_1
theorem sj_power : SJ v_power b_power := (sj_seq (sj_asgN 2 (vj_c (v := (.int 1)) fun _ => .int _)) (sj_seq (sj_for (vs := [3]) (wj_r1 (aj_cons (fj (vj_mov 1)) aj_nil)) (gj_n 3 (by decide)) (sj_asgN 2 (vj_op ov_mul (vj_var 2) (vj_var 0)))) (sj_ret (fj (vj_mov 2)))))
abbrev n_power : Nat := 4
theorem hw_power : ∀ l Q0 E, Ends0 E Q0 → w_power l Q0 → v_power E (vstart 4 l) := by
  rintro l Q0 E hE ⟨b, k, rfl, hb, hk, q⟩
  show v_power _ [.va (.int b), .va (.int k), .no, .no]
  unfold v_power v_power_1
  simp_arith
  refine ⟨by omega, by omega, ?_⟩
  rw [Int.toNat_natCast]
  refine vloop_idx (fun i env => ∃ s3, env = [.va (.int b), .va (.int k), .va (.int ((b ^ i : Nat) : Int)), s3]) ⟨_, rfl⟩ ?_ ?_
  · rintro env ⟨s3, rfl⟩
    unfold v_power_2
    simp_arith
    exact hE.rt _ _ q
  · rintro i env E' hi hT ⟨s3, rfl⟩
    unfold v_power_2L
    simp_arith
    rw [Nat.pow_succ, Int.natCast_mul] at hT
    rw [xMul_sm2 (by omega) (by omega)]
    exact hT.nx _ ⟨_, rfl⟩
theorem hp_power : ∀ ds m Q, sp_power ds m Q → b_power { nx := fun _ m' => Q .non m', rt := Q } (dstart 4 ds) m := body_f 4 sj_power hw_power
/-! ### the word with a number -/
def dgs (s : Nat) : Nat → Nat → List Int
  | 0, _ => []
  | L + 1, n => ((n % s : Nat) : Int) :: dgs s L (n / s)
theorem dgs_rev (s : Nat) : ∀ L n, (dgs s L n).reverse = numW s L n
  | 0, _ => rfl
  | L + 1, n => by rw [dgs, List.reverse_cons, dgs_rev s L, numW]
theorem dgs_snoc (s : Nat) : ∀ L n, dgs s (L + 1) n = dgs s L n ++ [((n / s ^ L % s : Nat) : Int)]
  | 0, n => by rw [dgs, dgs, dgs, Nat.pow_zero, Nat.div_one]; rfl
  | L + 1, n => by rw [dgs, dgs_snoc s L (n / s), dgs, Nat.div_div_eq_div_mul, Nat.pow_succ, Nat.mul_comm s]; rfl
theorem dgs_len (s : Nat) : ∀ L n, (dgs s L n).length = L
  | 0, _ => rfl
  | L + 1, n => by rw [dgs, List.length_cons, dgs_len s L]
def w_word_at : WSp := fun l Q => ∃ s L n : Nat, l = [.int s, .int L, .int n] ∧ 0 < s ∧ s < 2 ^ 29 ∧ L ≤ 100000 ∧ Q (tI (numW s L n))
/-- slots: 0 signs, 1 length, 2 start, 3 found, 4 left, 5 turn -/
abbrev sp_word_at : DSp := lV w_word_at
theorem cv_word_at : CallV sp_word_at w_word_at := cv_lV _
def b_word_at : DS := (dSeq (dPar 3 4 (dCons (dLst dNil) (dCons (dVar 2) dNil)))
  (dSeq (dFor (iR1 (dCons (dVar 1) dNil)) (gN 5) (dSeq (dExpr (dM mAppend (dVar 3) (dCons (dOp aMod (dVar 4) (dVar 0)) dNil)))
  (dAsg (dOp aDiv (dVar 4) (dVar 0)) (gN 4))))
  (dRet (dB1 bTuple (dCons (dRev (dVar 3)) dNil)))))
def v_word_at_2L_1 : WS := (vAsgN 4 (vOp xDiv (vVar 4) (vVar 0)))
def v_word_at_2L : WS := vSeq (vExpr (vApp 3 (vF (vOp xMod (vVar 4) (vVar 0))))) v_word_at_2L_1
def v_word_at_2 : WS := (vRet (vF (vB1 xTuple (vRev (vVar 3)))))
def v_word_at_1 : WS := vSeq (vFor (vR1 (vCons (vF (vMov 1)) vNil)) (vG 5) v_word_at_2L) v_word_at_2
def v_word_at : WS := vSeq (vPar 3 4 (vLst vNil) (vMov 2)) v_word_at_1
theorem sj_word_at : SJ v_word_at b_word_at := (sj_seq (sj_par 3 4 (vj_lst aj_nil) (vj_mov 2)) (sj_seq (sj_for (vs := [5]) (wj_r1 (aj_cons (fj (vj_mov 1)) aj_nil)) (gj_n 5 (by decide)) (sj_seq (sj_expr (vj_app (i := 3) (fj (vj_op ov_mod (vj_var 4) (vj_var 0))))) (sj_asgN 4 (vj_op ov_div (vj_var 4) (vj_var 0))))) (sj_ret (fj (vj_b1 bv_tuple (vj_rev (vj_var 3)))))))
abbrev n_word_at : Nat := 6
theorem hw_word_at : ∀ l Q0 E, Ends0 E Q0 → w_word_at l Q0 → v_word_at E (vstart 6 l) := by
  rintro l Q0 E hE ⟨s, L, n, rfl, hs, hs1, hL, q⟩
  show v_word_at _ [.va (.int s), .va (.int L), .va (.int n), .no, .no, .no]
  unfold v_word_at v_word_at_1
  simp_arith
  refine ⟨by omega, by omega, ?_⟩
  rw [Int.toNat_natCast]
  refine vloop_idx (fun i env => ∃ s5, env = [.va (.int s), .va (.int L), .va (.int n), .ow (.lst ((dgs s i n).map .int)), .va (.int ((n / s ^ i : Nat) : Int)), s5]) ⟨.no, by simp [dgs]⟩ ?_ ?_
  · rintro env ⟨s5, rfl⟩
    unfold v_word_at_2
    simp_arith
    rw [← List.map_reverse, dgs_rev]
    exact hE.rt _ _ q
  · rintro i env E' hi hT ⟨s5, rfl⟩
    unfold v_word_at_2L v_word_at_2L_1
    simp_arith [xMod_pos (show (0 : Int) < s by omega), xDiv_pos (show (0 : Int) < s by omega) (by omega)]
    rw [dgs_snoc, List.map_append, Nat.pow_succ, ← Nat.div_div_eq_div_mul, Int.natCast_ediv (n / s ^ i)] at hT
    refine ⟨by rw [List.length_map, dgs_len]; exact Nat.lt_of_le_of_lt (show i ≤ 100000 by omega) (by decide), hT.nx _ ⟨.va (.int i), ?_⟩⟩
    rw [Int.natCast_emod]
    rfl
theorem hp_word_at : ∀ ds m Q, sp_word_at ds m Q → b_word_at { nx := fun _ m' => Q .non m', rt := Q } (dstart 6 ds) m := body_f 6 sj_word_at hw_word_at
/-! ### words laid -/
def rI (row : List Nat) : List Int := row.map fun L : Nat => (L : Int)
def tN (row : List Nat) : PV := tI (rI row)
theorem rI_len (row : List Nat) : (rI row).length = row.length := by simp [rI]
theorem pow_bd {s k : Nat} (hs : s ≤ 6) (hk : k ≤ 16) (h0 : 0 < s) : s ^ k < 2 ^ 42 :=
  Nat.lt_of_le_of_lt (Nat.le_trans (Nat.pow_le_pow_left hs k) (Nat.pow_le_pow_right (by decide) hk)) (by decide)
theorem placed_cons {s M b L : Nat} {r : List Nat} {w : List Int} (h : nextW s M b L = some w) : placedM s M b (L :: r) = w :: placedM s M (endW s M w) r := by rw [placedM, h]
theorem placed_stop {s M b L : Nat} {r : List Nat} (h : nextW s M b L = none) : placedM s M b (L :: r) = [] := by rw [placedM, h]
def w_placed : WSp := fun l Q => ∃ (s : Nat) (row : List Nat) (M : Nat), l = [.int s, tN row] ∧ 1 ≤ s ∧ s ≤ 6 ∧ row ≠ [] ∧ row.length ≤ 100 ∧ (∀ L ∈ row, L ≤ 16) ∧ (M ∈ row ∧ ∀ L ∈ row, L ≤ M) ∧ Q (.lst ((placedM s M 0 row).map tI))
/-- slots: 0 signs, 1 row, 2 most, 3 found, 4 behind, 5 length, 6 size, 7 number -/
abbrev sp_placed : DSp := lV w_placed
theorem cv_placed : CallV sp_placed w_placed := cv_lV _
def b_placed : DS := (dSeq (dAsg (dB1 bMaxA (dCons (dVar 1) dNil)) (gN 2))
  (dSeq (dPar 3 4 (dCons (dLst dNil) (dCons (dC (.int 0)) dNil)))
  (dSeq (dFor (iAny (dVar 1)) (gN 5) (dSeq (dAsg (dCall sp_power (dCons (dVar 0) (dCons (dOp aSub (dVar 2) (dVar 5)) dNil))) (gN 6))
  (dSeq (dAsg (dOp aDiv (dOp aSub (dOp aAdd (dVar 4) (dVar 6)) (dC (.int 1))) (dVar 6)) (gN 7))
  (dSeq (dIf (dB (dOp aGe (dVar 7) (dCall sp_power (dCons (dVar 0) (dCons (dVar 5) dNil))))) (dRet (dVar 3)) dSkip)
  (dSeq (dExpr (dM mAppend (dVar 3) (dCons (dCall sp_word_at (dCons (dVar 0) (dCons (dVar 5) (dCons (dVar 7) dNil)))) dNil)))
  (dAsg (dOp aMul (dOp aAdd (dVar 7) (dC (.int 1))) (dVar 6)) (gN 4)))))))
  (dRet (dVar 3)))))
def v_placed_3L_4 : WS := (vAsgN 4 (vOp xMul (vOp xAdd (vVar 7) (vC (.int 1))) (vVar 6)))
def v_placed_3L_3 : WS := vSeq (vExpr (vApp 3 (vF (vCall w_word_at (vCons (vF (vMov 0)) (vCons (vF (vMov 5)) (vCons (vF (vMov 7)) vNil))))))) v_placed_3L_4
def v_placed_3L_2 : WS := vSeq (vIf (vB (vOp xGe (vVar 7) (vCall w_power (vCons (vF (vMov 0)) (vCons (vF (vMov 5)) vNil))))) (vRet (vF (vMov 3))) vSkip) v_placed_3L_3
def v_placed_3L_1 : WS := vSeq (vAsgN 7 (vOp xDiv (vOp xSub (vOp xAdd (vVar 4) (vVar 6)) (vC (.int 1))) (vVar 6))) v_placed_3L_2
def v_placed_3L : WS := vSeq (vAsgN 6 (vCall w_power (vCons (vF (vMov 0)) (vCons (vF (vOp xSub (vVar 2) (vVar 5))) vNil)))) v_placed_3L_1
def v_placed_3 : WS := (vRet (vF (vMov 3)))
def v_placed_2 : WS := vSeq (vFor (vAnyI (vF (vMov 1))) (vG 5) v_placed_3L) v_placed_3
def v_placed_1 : WS := vSeq (vPar 3 4 (vLst vNil) (vC (.int 0))) v_placed_2
def v_placed : WS := vSeq (vAsgN 2 (vB1 xMaxA (vVar 1))) v_placed_1
theorem sj_placed : SJ v_placed b_placed := (sj_seq (sj_asgN 2 (vj_b1 bv_maxA (vj_var 1))) (sj_seq (sj_par 3 4 (vj_lst aj_nil) (vj_c (v := (.int 0)) fun _ => .int _)) (sj_seq (sj_for (vs := [5]) (wj_any (fj (vj_mov 1))) (gj_n 5 (by decide)) (sj_seq (sj_asgN 6 (vj_call cv_power (aj_cons (fj (vj_mov 0)) (aj_cons (fj (vj_op ov_sub (vj_var 2) (vj_var 5))) aj_nil)))) (sj_seq (sj_asgN 7 (vj_op ov_div (vj_op ov_sub (vj_op ov_add (vj_var 4) (vj_var 6)) (vj_c (v := (.int 1)) fun _ => .int _)) (vj_var 6))) (sj_seq (sj_if (tj_b (vj_op ov_ge (vj_var 7) (vj_call cv_power (aj_cons (fj (vj_mov 0)) (aj_cons (fj (vj_mov 5)) aj_nil))))) (sj_ret (fj (vj_mov 3))) sj_skip) (sj_seq (sj_expr (vj_app (i := 3) (fj (vj_call cv_word_at (aj_cons (fj (vj_mov 0)) (aj_cons (fj (vj_mov 5)) (aj_cons (fj (vj_mov 7)) aj_nil))))))) (sj_asgN 4 (vj_op ov_mul (vj_op ov_add (vj_var 7) (vj_c (v := (.int 1)) fun _ => .int _)) (vj_var 6)))))))) (sj_ret (fj (vj_mov 3))))))
abbrev n_placed : Nat := 8
theorem hw_placed : ∀ l Q0 E, Ends0 E Q0 → w_placed l Q0 → v_placed E (vstart 8 l) := by
  rintro l Q0 E hE ⟨s, row, M, rfl, hs0, hs1, hr0, hrl, hr16, ⟨hM1, hM2⟩, q⟩
  show v_placed _ [.va (.int s), .va (tN row), .no, .no, .no, .no, .no, .no]
  unfold v_placed v_placed_1 v_placed_2 tN
  simp_arith
  have hmax : maxI (rI row) = (M : Int) := (max_uniq (List.mem_map.mpr ⟨M, hM1, rfl⟩) fun y hy => by
    obtain ⟨L, hL, rfl⟩ := List.mem_map.mp hy
    have := hM2 L hL
    omega).symm
  refine ⟨fun z => hr0 (List.map_eq_nil_iff.mp z), ?_⟩
  rw [hmax, rI, List.map_map]
  have hM16 := hr16 M hM1
  refine vloop_list (f := PV.int ∘ fun L : Nat => (L : Int)) (fun done env => ∃ (ws : List (List Int)) (b : Nat) (s5 s6 s7 : Sl), env = [.va (.int s), .va (tI (row.map fun L : Nat => (L : Int))), .va (.int M), .ow (.lst (ws.map tI)), .va (.int b), s5, s6, s7] ∧ ws.length = done.length ∧ b < 2 ^ 42 ∧
    ∀ r, row = done ++ r → placedM s M 0 row = ws ++ placedM s M b r) ⟨[], 0, _, _, _, rfl, rfl, by decide, fun r hr => by rw [hr]; rfl⟩ ?_ ?_
  · rintro env ⟨ws, b, s5, s6, s7, rfl, hl, hb, hp⟩
    have := hp [] (by simp)
    rw [placedM, List.append_nil] at this
    rw [this] at q
    unfold v_placed_3
    simp_arith
    exact hE.rt _ _ q
  · rintro done L rest env E' hrow hT ⟨ws, b, s5, s6, s7, rfl, hl, hb, hp⟩
    have hLm : L ∈ row := by rw [hrow]; simp
    have hLM := hM2 L hLm
    have hp := hp _ hrow
    have hsz : s ^ (M - L) < 2 ^ 42 := pow_bd hs1 (by omega) hs0
    have hszp : 0 < s ^ (M - L) := Nat.pow_pos hs0
    have hsL : s ^ L < 2 ^ 42 := pow_bd hs1 (by omega) hs0
    have hc : ((b : Int) + ((s ^ (M - L) : Nat) : Int) - 1) / ((s ^ (M - L) : Nat) : Int) = ((ceilN b (s ^ (M - L)) : Nat) : Int) := by
      unfold ceilN
      rw [show (b : Int) + ((s ^ (M - L) : Nat) : Int) - 1 = ((b + s ^ (M - L) - 1 : Nat) : Int) by omega, Int.natCast_ediv]
    have hcb : ceilN b (s ^ (M - L)) < 2 ^ 43 := by
      have := (ceil_le (b := b) (n := b) hszp).mpr (Nat.le_mul_of_pos_right _ hszp)
      omega
    have hk : ((M : Int) - (L : Int)) = ((M - L : Nat) : Int) := by omega
    unfold v_placed_3L v_placed_3L_1 v_placed_3L_2 v_placed_3L_3 v_placed_3L_4
    simp only [Function.comp_apply]
    generalize hS : s ^ (M - L) = S at *
    generalize hC : ceilN b S = C at *
    simp_arith [w_power, w_word_at, hk, hS, xDiv_pos (show (0 : Int) < S by omega) (by omega), hc]
    have hnx : nextW s M b L = if C < s ^ L then some (numW s L C) else none := by unfold nextW; rw [hS, hC]
    refine ⟨by omega, by omega, by omega, by omega, ?_⟩
    by_cases hlt : C < s ^ L
    · rw [if_pos hlt] at hnx
      rw [decide_eq_false (by omega), if_neg (by decide), xMul_sm (by omega) (by omega)]
      have hn := next_some hs0 hnx
      have hE2 : endW s M (numW s L C) = (C + 1) * S := by
        unfold endW
        rw [val_numW hs0 L C hlt, numW_len, hS]
      have he : endW s M (numW s L C) ≤ s ^ M := end_le hn.sg (by rw [numW_len]; exact hLM)
      have hsM : s ^ M < 2 ^ 42 := pow_bd hs1 hM16 hs0
      have hcast : ((C : Int) + 1) * (S : Int) = (((C + 1) * S : Nat) : Int) := by rw [Int.natCast_mul]; rfl
      simp_arith
      rw [hcast]
      refine ⟨hs0, by omega, by omega, by rw [List.length_map]; exact Nat.lt_of_le_of_lt (show ws.length ≤ 100000 by have := congrArg List.length hrow; rw [List.length_append] at this; omega) (by decide), hT.nx _ ⟨ws ++ [numW s L C], (C + 1) * S, _, _, _, by rw [List.map_append]; rfl, by simp [hl], by omega, fun r hr => ?_⟩⟩
      rw [hrow, List.append_assoc] at hr
      obtain ⟨_, hr⟩ := List.append_inj hr rfl
      injection hr with _ hr
      subst hr
      rw [hp, placed_cons hnx, hE2, List.append_assoc]
      rfl
    · rw [if_neg hlt] at hnx
      rw [decide_eq_true (by omega), if_pos rfl]
      rw [placed_stop hnx, List.append_nil] at hp
      rw [hp] at q
      exact hT.rt _ _ (hE.rt _ _ q)
theorem hp_placed : ∀ ds m Q, sp_placed ds m Q → b_placed { nx := fun _ m' => Q .non m', rt := Q } (dstart 8 ds) m := body_f 8 sj_placed hw_placed
/-! ### what does not fit -/
def natOf : PV → Nat
  | .int i => i.toNat
  | _ => 0
def rowOf : PV → List Nat
  | .tup l => l.map natOf
  | _ => []
theorem rowOf_tN (row : List Nat) : rowOf (tN row) = row := by
  show ((rI row).map PV.int).map natOf = row
  rw [List.map_map, rI, List.map_map]
  exact (List.map_congr_left fun L _ => Int.toNat_natCast L).trans (List.map_id _)
theorem rowP_tN {v : PV} (h : rowP v = true) : v = tN (rowOf v) ∧ rowOf v ≠ [] ∧ (rowOf v).length ≤ 16 ∧ ∀ L ∈ rowOf v, L ≤ 16 := by
  cases v with
  | tup l =>
    have h : (decide (1 ≤ l.length) && decide (l.length ≤ 16) && l.all (intP 0 16)) = true := h
    rw [Bool.and_eq_true, Bool.and_eq_true, decide_eq_true_eq, decide_eq_true_eq, List.all_eq_true] at h
    obtain ⟨⟨h1, h2⟩, h3⟩ := h
    have hi : ∀ x ∈ l, ∃ i : Int, x = .int i ∧ 0 ≤ i ∧ i ≤ 16 := fun x hx => by
      have := h3 x hx
      cases x <;> try (cases this; done)
      rename_i i
      have : (decide (0 ≤ i) && decide (i ≤ 16)) = true := this
      rw [Bool.and_eq_true, decide_eq_true_eq, decide_eq_true_eq] at this
      exact ⟨i, rfl, this.1, this.2⟩
    refine ⟨?_, ?_, ?_, ?_⟩
    · show PV.tup l = .tup (((l.map natOf).map fun L : Nat => (L : Int)).map .int)
      rw [List.map_map, List.map_map]
      refine congrArg _ ((List.map_id _).symm.trans (List.map_congr_left fun x hx => ?_))
      obtain ⟨i, rfl, h0, _⟩ := hi x hx
      show PV.int i = .int ((i.toNat : Nat) : Int)
      rw [Int.toNat_of_nonneg h0]
    · show l.map natOf ≠ []
      intro z
      rw [List.map_eq_nil_iff] at z
      subst z
      simp at h1
    · show (l.map natOf).length ≤ 16
      rw [List.length_map]
      exact h2
    · intro L hL
      obtain ⟨x, hx, rfl⟩ := List.mem_map.mp hL
      obtain ⟨i, rfl, h0, h1⟩ := hi x hx
      show i.toNat ≤ 16
      omega
  | _ => cases h
/-- how many of the first lengths fit -/
def fitN (s : Nat) (row : List Nat) : Nat := (placedM s 16 0 row).length
theorem placed_lenM {s M : Nat} (hs : 0 < s) {row : List Nat} (hM : ∀ L ∈ row, L ≤ M) (h16 : ∀ L ∈ row, L ≤ 16) : (placedM s M 0 row).length = fitN s row := by
  have h1 := fun k hk => (fit_iff (k := k) hs hM hk).symm.trans (fit_iff (k := k) hs h16 hk)
  have l1 := (placed_props (s := s) (M := M) hs row 0).2.2.2
  have l2 := (placed_props (s := s) (M := 16) hs row 0).2.2.2
  exact Nat.le_antisymm ((h1 _ l1).mp (Nat.le_refl _)) ((h1 _ l2).mpr (Nat.le_refl _))
def errP (s : Nat) (v : PV) : PV := if rowP v = true then (if fitN s (rowOf v) = (rowOf v).length then .non else .int (fitN s (rowOf v))) else .str "row"
def w_row_error : WSp := fun l Q => ∃ (s : Nat) (v : PV), l = [.int s, v] ∧ 1 ≤ s ∧ s ≤ 6 ∧ ShortT v ∧ Q (errP s v)
theorem row_max {row : List Nat} (h : row ≠ []) : ∃ M, M ∈ row ∧ ∀ L ∈ row, L ≤ M := by
  obtain ⟨h1, h2⟩ := maxI_spec (a := rI row) (fun z => h (List.map_eq_nil_iff.mp z))
  obtain ⟨M, hM, e⟩ := List.mem_map.mp h1
  refine ⟨M, hM, fun L hL => ?_⟩
  have := h2 L (List.mem_map.mpr ⟨L, hL, rfl⟩)
  have e : (M : Int) = maxI (rI row) := e
  omega
/-- slots: 0 signs, 1 value, 2 many -/
abbrev sp_row_error : DSp := lV w_row_error
theorem cv_row_error : CallV sp_row_error w_row_error := cv_lV _
def b_row_error : DS := (dSeq (dIf (dNotT (dB (dCall sp_is_row (dCons (dVar 1) dNil)))) (dRet (dC (.str "row"))) dSkip)
  (dSeq (dAsg (dB1 bLen (dCons (dCall sp_placed (dCons (dVar 0) (dCons (dVar 1) dNil))) dNil)) (gN 2))
  (dRet (dIfE (dB (dOp aEq (dVar 2) (dB1 bLen (dCons (dVar 1) dNil)))) (dC .non) (dVar 2)))))
def v_row_error_2 : WS := (vRet (vF (vIfE (vB (vOp xEq (vVar 2) (vB1 xLen (vVar 1)))) (vC .non) (vMov 2))))
def v_row_error_1 : WS := vSeq (vAsgN 2 (vB1 xLen (vCall w_placed (vCons (vF (vMov 0)) (vCons (vF (vMov 1)) vNil))))) v_row_error_2
def v_row_error : WS := vSeq (vIf (vNotT (vB (vCall w_is_row (vCons (vF (vMov 1)) vNil)))) (vRet (vF (vC (.str "row")))) vSkip) v_row_error_1
theorem sj_row_error : SJ v_row_error b_row_error := (sj_seq (sj_if (tj_not (tj_b (vj_call cv_is_row (aj_cons (fj (vj_mov 1)) aj_nil)))) (sj_ret (fj (vj_c (v := (.str "row")) fun _ => .str _))) sj_skip) (sj_seq (sj_asgN 2 (vj_b1 bv_len (vj_call cv_placed (aj_cons (fj (vj_mov 0)) (aj_cons (fj (vj_mov 1)) aj_nil))))) (sj_ret (fj (vj_if (tj_b (vj_op ov_eq (vj_var 2) (vj_b1 bv_len (vj_var 1)))) (vj_c (v := .non) fun _ => .non) (vj_mov 2))))))
abbrev n_row_error : Nat := 3
theorem hw_row_error : ∀ l Q0 E, Ends0 E Q0 → w_row_error l Q0 → v_row_error E (vstart 3 l) := by
  rintro l Q0 E hE ⟨s, v, rfl, hs0, hs1, hv, q⟩
  show v_row_error _ [.va (.int s), .va v, .no]
  unfold v_row_error v_row_error_1 v_row_error_2
  simp_arith [w_is_row]
  refine ⟨hv, ?_⟩
  cases h : rowP v with
  | false =>
    rw [if_pos (by decide)]
    rw [errP, if_neg (by rw [h]; decide)] at q
    exact hE.rt _ _ q
  | true =>
    rw [if_neg (by decide)]
    rw [errP, if_pos h] at q
    obtain ⟨e, h1, h2, h3⟩ := rowP_tN h
    generalize rowOf v = row at e q h1 h2 h3
    subst e
    obtain ⟨M, hM⟩ := row_max h1
    refine ⟨s, row, M, rfl, hs0, hs1, h1, by omega, h3, hM, ?_⟩
    simp_arith
    unfold tN
    simp_arith
    rw [List.length_map, placed_lenM hs0 hM.2 h3, rI_len]
    by_cases hf : fitN s row = row.length
    · rw [if_pos hf] at q
      rw [decide_eq_true (by omega), if_pos rfl]
      exact hE.rt _ _ q
    · rw [if_neg hf] at q
      rw [decide_eq_false (by omega), if_neg (by decide)]
      exact hE.rt _ _ q
theorem hp_row_error : ∀ ds m Q, sp_row_error ds m Q → b_row_error { nx := fun _ m' => Q .non m', rt := Q } (dstart 3 ds) m := body_f 3 sj_row_error hw_row_error
end DL
/-! Rows: the law's own functions. -/
namespace DL
open PySem PySem.Spec PyProof.Rows L2
local macro_rules
  | `(tactic| simp_arith) => `(tactic| simp only [↓vSeq, ↓vSkip, ↓vAsgN, ↓vAsg, ↓vPar, ↓vIf, ↓vRet, ↓vExpr, ↓vFor, ↓vSetI, ↓vBreak, ↓vCont, ↓vF, ↓vVar, ↓vMov, ↓vC, ↓vNil, ↓vCons, ↓vTup, ↓vLst, ↓vDisp, ↓vPairs, ↓vNewD, ↓vOp, ↓vChain, ↓vB, ↓vNotT, ↓vAndT, ↓vOrT, ↓vYes, ↓vAnd, ↓vOr, ↓vNot, ↓vIfE, ↓vNeg, ↓vNo, ↓vPart, ↓vSl, ↓vRev_x, ↓vB1, ↓vIsi, ↓vAnyI_x, ↓vR1, ↓vR2, ↓vR3, ↓vEnum_x, ↓vZip2_x, ↓vG, ↓vGnil, ↓vGcons, ↓vGT, ↓vGL, ↓vLc, ↓vCall, ↓vCallD, ↓vApp, ↓vPop0, ↓vPop1, ↓vExt, ↓vDeck, ↓xIs, ↓xIsNot, Rs.v, SameR, Same, same_self, same_cons, reduceCtorEq, or_true, true_or, or_false, false_or, and_false, false_and, toSl, notBr, wipeP, List.set_cons_zero, List.set_cons_succ, List.getElem?_cons_zero, List.getElem?_cons_succ, Option.some.injEq, Sl.ow.injEq, Sl.va.injEq, Sl.dk.injEq, PV.int.injEq, PV.bl.injEq, PV.tup.injEq, PV.lst.injEq, PV.dct.injEq, Rs.va.injEq, List.cons.injEq, List.length_cons, List.length_nil, exists_eq_left', exists_eq_left, exists_eq', exists_const, true_and, and_true, and_self, if_true, if_false, Bool.false_eq_true, reduceIte, and_assoc, exists_and_left, exists_and_right, Bool.not_true, Bool.not_false, at_zero, at_one, at_two, ↓xAdd_int, ↓xAdd_str, ↓xAdd_tup, ↓xAdd_lst, ↓xSub_int, ↓xMul_tup, ↓xMul_lst, ↓xPow_int, ↓xLt_int, ↓xLe_int, ↓xGt_int, ↓xGe_int, ↓xIx_tup, ↓xIx_lst, ↓xIx_str, ↓xIx_dct, ↓xLen_tup, ↓xLen_lst, ↓xLen_str, ↓xAbs_int, ↓xList_tup, ↓xList_lst, ↓xTuple_tup, ↓xTuple_lst, ↓xSl_tup, ↓xSl_lst, ↓xRev_tup, ↓xRev_lst, ↓xMin2_int, ↓xMax2_int, ↓xItems_tup, ↓xItems_lst, ↓xItems_str, ↓xEnum_tup, ↓xEnum_lst, ↓xZip_tup, ↓xZip_lst, ↓xZip_WW, ↓xZip_IW, ↓xZip_WI, ↓xZip_II, ↓xZip_tI, ↓xZip_It, keyP'_int, keyP'_str, isNo_non, isNo_bl, isNo_int, isNo_str, isNo_tup, isNo_lst, isNo_dct, isInt_non, isInt_bl, isInt_int, isInt_str, isInt_tup, isInt_lst, isInt_dct, isInt_tI, isInt_tW, isBool_non, isBool_bl, isBool_int, isBool_str, isBool_tup, isBool_lst, isBool_dct, isBool_tI, isBool_tW, isStrV_non, isStrV_bl, isStrV_int, isStrV_str, isStrV_tup, isStrV_lst, isStrV_dct, isStrV_tI, isStrV_tW, isTupP_non, isTupP_bl, isTupP_int, isTupP_str, isTupP_tup, isTupP_lst, isTupP_dct, isLstP_non, isLstP_bl, isLstP_int, isLstP_str, isLstP_tup, isLstP_lst, isLstP_dct, isLstP_tI, isLstP_tW, ↓xLen_tI, ↓xLen_tW, ↓xIx_tI, ↓xIx_tW, ↓xIx_lI, ↓xIx_lW, ↓xAdd_tI, ↓xAdd_tI1, ↓xAdd_1tI, ↓xAdd_tW, ↓xAdd_tW1, ↓xAdd_1tW, ↓xSl_tI, ↓xSl_tW, ↓xList_tI, ↓xList_tW, ↓xTuple_lI, ↓xTuple_lW, ↓xTuple_tI, ↓xTuple_tW, ↓xLt_tI, ↓xLe_tI, ↓xGt_tI, ↓xGe_tI, ↓xLt_tW, ↓xLe_tW, ↓xEq_tI, ↓xNe_tI, ↓xEq_tI0, ↓xNe_tI0, ↓xEq_tW, ↓xNe_tW, ↓xEq_tW0, ↓xNe_tW0, ↓xEq_int, ↓xNe_int, ↓xEq_bl, ↓xNe_bl, ↓xEq_lI, ↓xNe_lI, ↓xEq_lI0, ↓xNe_lI0, ↓xEq_lW, ↓xNe_lW, ↓xEq_lW0, ↓xNe_lW0, isTup_tI, isTup_tW, isNo_tI, isNo_tW, ↓xRev_tI, ↓xRev_tW, ↓xItems_tI, ↓xItems_tW, ↓xEnum_tI, ↓xEnum_tW, tI_inj, tW_inj, Int.reduceToNat, Int.zero_add, ↓xSum_lI, ↓xAll_l, ↓xAny_l, cut_tl, ↓xSumA_lI, ↓xSumA_tI, ↓xMaxA_tI, ↓xMaxA_lI, ↓xMinA_tI, ↓xMinA_lI, Int.natCast_inj, atI_map, ex_map, Nat.zero_le])
local macro_rules
  | `(tactic| simp_arith [$args,*]) => `(tactic| simp only [↓vSeq, ↓vSkip, ↓vAsgN, ↓vAsg, ↓vPar, ↓vIf, ↓vRet, ↓vExpr, ↓vFor, ↓vSetI, ↓vBreak, ↓vCont, ↓vF, ↓vVar, ↓vMov, ↓vC, ↓vNil, ↓vCons, ↓vTup, ↓vLst, ↓vDisp, ↓vPairs, ↓vNewD, ↓vOp, ↓vChain, ↓vB, ↓vNotT, ↓vAndT, ↓vOrT, ↓vYes, ↓vAnd, ↓vOr, ↓vNot, ↓vIfE, ↓vNeg, ↓vNo, ↓vPart, ↓vSl, ↓vRev_x, ↓vB1, ↓vIsi, ↓vAnyI_x, ↓vR1, ↓vR2, ↓vR3, ↓vEnum_x, ↓vZip2_x, ↓vG, ↓vGnil, ↓vGcons, ↓vGT, ↓vGL, ↓vLc, ↓vCall, ↓vCallD, ↓vApp, ↓vPop0, ↓vPop1, ↓vExt, ↓vDeck, ↓xIs, ↓xIsNot, Rs.v, SameR, Same, same_self, same_cons, reduceCtorEq, or_true, true_or, or_false, false_or, and_false, false_and, toSl, notBr, wipeP, List.set_cons_zero, List.set_cons_succ, List.getElem?_cons_zero, List.getElem?_cons_succ, Option.some.injEq, Sl.ow.injEq, Sl.va.injEq, Sl.dk.injEq, PV.int.injEq, PV.bl.injEq, PV.tup.injEq, PV.lst.injEq, PV.dct.injEq, Rs.va.injEq, List.cons.injEq, List.length_cons, List.length_nil, exists_eq_left', exists_eq_left, exists_eq', exists_const, true_and, and_true, and_self, if_true, if_false, Bool.false_eq_true, reduceIte, and_assoc, exists_and_left, exists_and_right, Bool.not_true, Bool.not_false, at_zero, at_one, at_two, ↓xAdd_int, ↓xAdd_str, ↓xAdd_tup, ↓xAdd_lst, ↓xSub_int, ↓xMul_tup, ↓xMul_lst, ↓xPow_int, ↓xLt_int, ↓xLe_int, ↓xGt_int, ↓xGe_int, ↓xIx_tup, ↓xIx_lst, ↓xIx_str, ↓xIx_dct, ↓xLen_tup, ↓xLen_lst, ↓xLen_str, ↓xAbs_int, ↓xList_tup, ↓xList_lst, ↓xTuple_tup, ↓xTuple_lst, ↓xSl_tup, ↓xSl_lst, ↓xRev_tup, ↓xRev_lst, ↓xMin2_int, ↓xMax2_int, ↓xItems_tup, ↓xItems_lst, ↓xItems_str, ↓xEnum_tup, ↓xEnum_lst, ↓xZip_tup, ↓xZip_lst, ↓xZip_WW, ↓xZip_IW, ↓xZip_WI, ↓xZip_II, ↓xZip_tI, ↓xZip_It, keyP'_int, keyP'_str, isNo_non, isNo_bl, isNo_int, isNo_str, isNo_tup, isNo_lst, isNo_dct, isInt_non, isInt_bl, isInt_int, isInt_str, isInt_tup, isInt_lst, isInt_dct, isInt_tI, isInt_tW, isBool_non, isBool_bl, isBool_int, isBool_str, isBool_tup, isBool_lst, isBool_dct, isBool_tI, isBool_tW, isStrV_non, isStrV_bl, isStrV_int, isStrV_str, isStrV_tup, isStrV_lst, isStrV_dct, isStrV_tI, isStrV_tW, isTupP_non, isTupP_bl, isTupP_int, isTupP_str, isTupP_tup, isTupP_lst, isTupP_dct, isLstP_non, isLstP_bl, isLstP_int, isLstP_str, isLstP_tup, isLstP_lst, isLstP_dct, isLstP_tI, isLstP_tW, ↓xLen_tI, ↓xLen_tW, ↓xIx_tI, ↓xIx_tW, ↓xIx_lI, ↓xIx_lW, ↓xAdd_tI, ↓xAdd_tI1, ↓xAdd_1tI, ↓xAdd_tW, ↓xAdd_tW1, ↓xAdd_1tW, ↓xSl_tI, ↓xSl_tW, ↓xList_tI, ↓xList_tW, ↓xTuple_lI, ↓xTuple_lW, ↓xTuple_tI, ↓xTuple_tW, ↓xLt_tI, ↓xLe_tI, ↓xGt_tI, ↓xGe_tI, ↓xLt_tW, ↓xLe_tW, ↓xEq_tI, ↓xNe_tI, ↓xEq_tI0, ↓xNe_tI0, ↓xEq_tW, ↓xNe_tW, ↓xEq_tW0, ↓xNe_tW0, ↓xEq_int, ↓xNe_int, ↓xEq_bl, ↓xNe_bl, ↓xEq_lI, ↓xNe_lI, ↓xEq_lI0, ↓xNe_lI0, ↓xEq_lW, ↓xNe_lW, ↓xEq_lW0, ↓xNe_lW0, isTup_tI, isTup_tW, isNo_tI, isNo_tW, ↓xRev_tI, ↓xRev_tW, ↓xItems_tI, ↓xItems_tW, ↓xEnum_tI, ↓xEnum_tW, tI_inj, tW_inj, Int.reduceToNat, Int.zero_add, ↓xSum_lI, ↓xAll_l, ↓xAny_l, cut_tl, ↓xSumA_lI, ↓xSumA_tI, ↓xMaxA_tI, ↓xMaxA_lI, ↓xMinA_tI, ↓xMinA_lI, Int.natCast_inj, atI_map, ex_map, Nat.zero_le, $args,*])
/-! ### odd values -/
def big39 : Int := 10 ^ (39 : Nat)
def oddL : List PV := [.non, .bl true, .bl false, .int (-1), .int 0, .int 1, .int 2, .int 16, .int 17, .int big39, .int (-big39), .str "", .str "0", .str "01", .str "-", .tup [], tI [0], tI [1, 0], tI [0, 0, 1],
  .tup [.bl true], .tup [.int 0, .non], .lst [], .lst [.int 0], .dct [], .dct [(.inr "a", .int 1)], tW [[0], [1]], tW [[], []], .tup [tI [0], .lst [.int 1]], tW [[0], [0, 1]], .lst [tI [0]],
  tI [0, 0, 0, 0, 0, 0, 0, 0, 0, 0, 0, 0, 0, 0, 0, 0, 0], tI [-1], tI [9], .tup [.str "0"], tW [[1], [0]], tI [big39], tI [1, 1, 1], tW [[1, 2], [3]]]
def w__law_odd : WSpD := fun n l Q => l = [] ∧ n ≤ 2 ^ 40 ∧ ∀ v ∈ oddL, Q v (n + 1)
/-- slots: 0 deck, 1 some -/
abbrev sp__law_odd : DSp := lVD w__law_odd
theorem cv__law_odd : CallVD sp__law_odd w__law_odd := cv_lVD _
def b__law_odd : DS := (dSeq (dAsg (dLst (dCons (dC .non) (dCons (dC (.bl true)) (dCons (dC (.bl false)) (dCons (dNeg (dC (.int 1))) (dCons (dC (.int 0)) (dCons (dC (.int 1)) (dCons (dC (.int 2)) (dCons (dC (.int 16)) (dCons (dC (.int 17)) (dCons (dOp aPow (dC (.int 10)) (dC (.int 39))) (dCons (dNeg (dOp aPow (dC (.int 10)) (dC (.int 39)))) (dCons (dC (.str "")) (dCons (dC (.str "0")) (dCons (dC (.str "01")) (dCons (dC (.str "-")) (dCons (dTup dNil) (dCons (dTup (dCons (dC (.int 0)) dNil)) (dCons (dTup (dCons (dC (.int 1)) (dCons (dC (.int 0)) dNil))) (dCons (dTup (dCons (dC (.int 0)) (dCons (dC (.int 0)) (dCons (dC (.int 1)) dNil)))) dNil)))))))))))))))))))) (gN 1))
  (dSeq (dAsg (dOp aAdd (dVar 1) (dLst (dCons (dTup (dCons (dC (.bl true)) dNil)) (dCons (dTup (dCons (dC (.int 0)) (dCons (dC .non) dNil))) (dCons (dLst dNil) (dCons (dLst (dCons (dC (.int 0)) dNil)) (dCons dNewK (dCons (dDisp (("a", (dC (.int 1))) :: [])) (dCons (dTup (dCons (dTup (dCons (dC (.int 0)) dNil)) (dCons (dTup (dCons (dC (.int 1)) dNil)) dNil))) (dCons (dTup (dCons (dTup dNil) (dCons (dTup dNil) dNil))) (dCons (dTup (dCons (dTup (dCons (dC (.int 0)) dNil)) (dCons (dLst (dCons (dC (.int 1)) dNil)) dNil))) (dCons (dTup (dCons (dTup (dCons (dC (.int 0)) dNil)) (dCons (dTup (dCons (dC (.int 0)) (dCons (dC (.int 1)) dNil))) dNil))) (dCons (dLst (dCons (dTup (dCons (dC (.int 0)) dNil)) dNil)) dNil))))))))))))) (gN 1))
  (dRet (dCall sp__law_one (dCons (dVar 0) (dCons (dOp aAdd (dVar 1) (dLst (dCons (dOp aMul (dTup (dCons (dC (.int 0)) dNil)) (dC (.int 17))) (dCons (dTup (dCons (dNeg (dC (.int 1))) dNil)) (dCons (dTup (dCons (dC (.int 9)) dNil)) (dCons (dTup (dCons (dC (.str "0")) dNil)) (dCons (dTup (dCons (dTup (dCons (dC (.int 1)) dNil)) (dCons (dTup (dCons (dC (.int 0)) dNil)) dNil))) (dCons (dTup (dCons (dOp aPow (dC (.int 10)) (dC (.int 39))) dNil)) (dCons (dTup (dCons (dC (.int 1)) (dCons (dC (.int 1)) (dCons (dC (.int 1)) dNil)))) (dCons (dTup (dCons (dTup (dCons (dC (.int 1)) (dCons (dC (.int 2)) dNil))) (dCons (dTup (dCons (dC (.int 3)) dNil)) dNil))) dNil)))))))))) dNil))))))
def v__law_odd_2 : WS := (vRet (vF (vCallD w__law_one 0 (vCons (vF (vOp xAdd (vVar 1) (vLst (vCons (vF (vOp xMul (vTup (vCons (vF (vC (.int 0))) vNil)) (vC (.int 17)))) (vCons (vF (vTup (vCons (vF (vNeg (vC (.int 1)))) vNil))) (vCons (vF (vTup (vCons (vF (vC (.int 9))) vNil))) (vCons (vF (vTup (vCons (vF (vC (.str "0"))) vNil))) (vCons (vF (vTup (vCons (vF (vTup (vCons (vF (vC (.int 1))) vNil))) (vCons (vF (vTup (vCons (vF (vC (.int 0))) vNil))) vNil)))) (vCons (vF (vTup (vCons (vF (vOp xPow (vC (.int 10)) (vC (.int 39)))) vNil))) (vCons (vF (vTup (vCons (vF (vC (.int 1))) (vCons (vF (vC (.int 1))) (vCons (vF (vC (.int 1))) vNil))))) (vCons (vF (vTup (vCons (vF (vTup (vCons (vF (vC (.int 1))) (vCons (vF (vC (.int 2))) vNil)))) (vCons (vF (vTup (vCons (vF (vC (.int 3))) vNil))) vNil)))) vNil))))))))))) vNil))))
def v__law_odd_1 : WS := vSeq (vAsgN 1 (vOp xAdd (vVar 1) (vLst (vCons (vF (vTup (vCons (vF (vC (.bl true))) vNil))) (vCons (vF (vTup (vCons (vF (vC (.int 0))) (vCons (vF (vC .non)) vNil)))) (vCons (vF (vLst vNil)) (vCons (vF (vLst (vCons (vF (vC (.int 0))) vNil))) (vCons (vF vNewD) (vCons (vF (vDisp (("a", (vF (vC (.int 1)))) :: []))) (vCons (vF (vTup (vCons (vF (vTup (vCons (vF (vC (.int 0))) vNil))) (vCons (vF (vTup (vCons (vF (vC (.int 1))) vNil))) vNil)))) (vCons (vF (vTup (vCons (vF (vTup vNil)) (vCons (vF (vTup vNil)) vNil)))) (vCons (vF (vTup (vCons (vF (vTup (vCons (vF (vC (.int 0))) vNil))) (vCons (vF (vLst (vCons (vF (vC (.int 1))) vNil))) vNil)))) (vCons (vF (vTup (vCons (vF (vTup (vCons (vF (vC (.int 0))) vNil))) (vCons (vF (vTup (vCons (vF (vC (.int 0))) (vCons (vF (vC (.int 1))) vNil)))) vNil)))) (vCons (vF (vLst (vCons (vF (vTup (vCons (vF (vC (.int 0))) vNil))) vNil))) vNil)))))))))))))) v__law_odd_2
def v__law_odd : WS := vSeq (vAsgN 1 (vLst (vCons (vF (vC .non)) (vCons (vF (vC (.bl true))) (vCons (vF (vC (.bl false))) (vCons (vF (vNeg (vC (.int 1)))) (vCons (vF (vC (.int 0))) (vCons (vF (vC (.int 1))) (vCons (vF (vC (.int 2))) (vCons (vF (vC (.int 16))) (vCons (vF (vC (.int 17))) (vCons (vF (vOp xPow (vC (.int 10)) (vC (.int 39)))) (vCons (vF (vNeg (vOp xPow (vC (.int 10)) (vC (.int 39))))) (vCons (vF (vC (.str ""))) (vCons (vF (vC (.str "0"))) (vCons (vF (vC (.str "01"))) (vCons (vF (vC (.str "-"))) (vCons (vF (vTup vNil)) (vCons (vF (vTup (vCons (vF (vC (.int 0))) vNil))) (vCons (vF (vTup (vCons (vF (vC (.int 1))) (vCons (vF (vC (.int 0))) vNil)))) (vCons (vF (vTup (vCons (vF (vC (.int 0))) (vCons (vF (vC (.int 0))) (vCons (vF (vC (.int 1))) vNil))))) vNil))))))))))))))))))))) v__law_odd_1
theorem sj__law_odd : SJ v__law_odd b__law_odd := (sj_seq (sj_asgN 1 (vj_lst (aj_cons (fj (vj_c (v := .non) fun _ => .non)) (aj_cons (fj (vj_c (v := (.bl true)) fun _ => .bl _)) (aj_cons (fj (vj_c (v := (.bl false)) fun _ => .bl _)) (aj_cons (fj (vj_neg (vj_c (v := (.int 1)) fun _ => .int _))) (aj_cons (fj (vj_c (v := (.int 0)) fun _ => .int _)) (aj_cons (fj (vj_c (v := (.int 1)) fun _ => .int _)) (aj_cons (fj (vj_c (v := (.int 2)) fun _ => .int _)) (aj_cons (fj (vj_c (v := (.int 16)) fun _ => .int _)) (aj_cons (fj (vj_c (v := (.int 17)) fun _ => .int _)) (aj_cons (fj (vj_op ov_pow (vj_c (v := (.int 10)) fun _ => .int _) (vj_c (v := (.int 39)) fun _ => .int _))) (aj_cons (fj (vj_neg (vj_op ov_pow (vj_c (v := (.int 10)) fun _ => .int _) (vj_c (v := (.int 39)) fun _ => .int _)))) (aj_cons (fj (vj_c (v := (.str "")) fun _ => .str _)) (aj_cons (fj (vj_c (v := (.str "0")) fun _ => .str _)) (aj_cons (fj (vj_c (v := (.str "01")) fun _ => .str _)) (aj_cons (fj (vj_c (v := (.str "-")) fun _ => .str _)) (aj_cons (fj (vj_tup aj_nil)) (aj_cons (fj (vj_tup (aj_cons (fj (vj_c (v := (.int 0)) fun _ => .int _)) aj_nil))) (aj_cons (fj (vj_tup (aj_cons (fj (vj_c (v := (.int 1)) fun _ => .int _)) (aj_cons (fj (vj_c (v := (.int 0)) fun _ => .int _)) aj_nil)))) (aj_cons (fj (vj_tup (aj_cons (fj (vj_c (v := (.int 0)) fun _ => .int _)) (aj_cons (fj (vj_c (v := (.int 0)) fun _ => .int _)) (aj_cons (fj (vj_c (v := (.int 1)) fun _ => .int _)) aj_nil))))) aj_nil))))))))))))))))))))) (sj_seq (sj_asgN 1 (vj_op ov_add (vj_var 1) (vj_lst (aj_cons (fj (vj_tup (aj_cons (fj (vj_c (v := (.bl true)) fun _ => .bl _)) aj_nil))) (aj_cons (fj (vj_tup (aj_cons (fj (vj_c (v := (.int 0)) fun _ => .int _)) (aj_cons (fj (vj_c (v := .non) fun _ => .non)) aj_nil)))) (aj_cons (fj (vj_lst aj_nil)) (aj_cons (fj (vj_lst (aj_cons (fj (vj_c (v := (.int 0)) fun _ => .int _)) aj_nil))) (aj_cons (fj vj_newD) (aj_cons (fj (vj_disp (.cons (fj (vj_c (v := (.int 1)) fun _ => .int _)) .nil))) (aj_cons (fj (vj_tup (aj_cons (fj (vj_tup (aj_cons (fj (vj_c (v := (.int 0)) fun _ => .int _)) aj_nil))) (aj_cons (fj (vj_tup (aj_cons (fj (vj_c (v := (.int 1)) fun _ => .int _)) aj_nil))) aj_nil)))) (aj_cons (fj (vj_tup (aj_cons (fj (vj_tup aj_nil)) (aj_cons (fj (vj_tup aj_nil)) aj_nil)))) (aj_cons (fj (vj_tup (aj_cons (fj (vj_tup (aj_cons (fj (vj_c (v := (.int 0)) fun _ => .int _)) aj_nil))) (aj_cons (fj (vj_lst (aj_cons (fj (vj_c (v := (.int 1)) fun _ => .int _)) aj_nil))) aj_nil)))) (aj_cons (fj (vj_tup (aj_cons (fj (vj_tup (aj_cons (fj (vj_c (v := (.int 0)) fun _ => .int _)) aj_nil))) (aj_cons (fj (vj_tup (aj_cons (fj (vj_c (v := (.int 0)) fun _ => .int _)) (aj_cons (fj (vj_c (v := (.int 1)) fun _ => .int _)) aj_nil)))) aj_nil)))) (aj_cons (fj (vj_lst (aj_cons (fj (vj_tup (aj_cons (fj (vj_c (v := (.int 0)) fun _ => .int _)) aj_nil))) aj_nil))) aj_nil)))))))))))))) (sj_ret (fj (vj_callD (i := 0) cv__law_one (aj_cons (fj (vj_op ov_add (vj_var 1) (vj_lst (aj_cons (fj (vj_op ov_mul (vj_tup (aj_cons (fj (vj_c (v := (.int 0)) fun _ => .int _)) aj_nil)) (vj_c (v := (.int 17)) fun _ => .int _))) (aj_cons (fj (vj_tup (aj_cons (fj (vj_neg (vj_c (v := (.int 1)) fun _ => .int _))) aj_nil))) (aj_cons (fj (vj_tup (aj_cons (fj (vj_c (v := (.int 9)) fun _ => .int _)) aj_nil))) (aj_cons (fj (vj_tup (aj_cons (fj (vj_c (v := (.str "0")) fun _ => .str _)) aj_nil))) (aj_cons (fj (vj_tup (aj_cons (fj (vj_tup (aj_cons (fj (vj_c (v := (.int 1)) fun _ => .int _)) aj_nil))) (aj_cons (fj (vj_tup (aj_cons (fj (vj_c (v := (.int 0)) fun _ => .int _)) aj_nil))) aj_nil)))) (aj_cons (fj (vj_tup (aj_cons (fj (vj_op ov_pow (vj_c (v := (.int 10)) fun _ => .int _) (vj_c (v := (.int 39)) fun _ => .int _))) aj_nil))) (aj_cons (fj (vj_tup (aj_cons (fj (vj_c (v := (.int 1)) fun _ => .int _)) (aj_cons (fj (vj_c (v := (.int 1)) fun _ => .int _)) (aj_cons (fj (vj_c (v := (.int 1)) fun _ => .int _)) aj_nil))))) (aj_cons (fj (vj_tup (aj_cons (fj (vj_tup (aj_cons (fj (vj_c (v := (.int 1)) fun _ => .int _)) (aj_cons (fj (vj_c (v := (.int 2)) fun _ => .int _)) aj_nil)))) (aj_cons (fj (vj_tup (aj_cons (fj (vj_c (v := (.int 3)) fun _ => .int _)) aj_nil))) aj_nil)))) aj_nil))))))))))) aj_nil))))))
abbrev n__law_odd : Nat := 2
theorem hw__law_odd : ∀ p k l Q0 E, EndsD E p Q0 → w__law_odd k l Q0 → v__law_odd E (vstartD 2 p k l) := by
  rintro p n l Q0 E hE ⟨rfl, hn, q⟩
  show v__law_odd _ [.dk p n, .no]
  unfold v__law_odd v__law_odd_1 v__law_odd_2
  have hp : ∀ Q : Rs → Prop, xPow (.int 10) (.int 39) Q = Q (.va (.int big39)) := fun Q => by
    rw [xPow_int]
    exact propext ⟨fun h => h.2, fun q => ⟨⟨by decide, by decide, by decide⟩, q⟩⟩
  simp_arith [hp, w__law_one, xMul_tup]
  repeat (refine And.intro (by first | decide | exact ⟨by decide, by decide, by decide⟩ | exact lsl (by decide) | exact hn | simp) ?_)
  intro x hx
  refine hE.rt _ _ _ rfl (q x ?_)
  have e : itemsP (PV.lst ([PV.non, PV.bl true, PV.bl false, PV.int (-1), PV.int 0, PV.int 1, PV.int 2, PV.int 16, PV.int 17, PV.int (10 ^ 39), PV.int (-10 ^ 39), PV.str (Str.ofString ""), PV.str (Str.ofString "0"), PV.str (Str.ofString "01"), PV.str (Str.ofString "-"), PV.tup [], PV.tup [PV.int 0], PV.tup [PV.int 1, PV.int 0], PV.tup [PV.int 0, PV.int 0, PV.int 1]] ++
    [PV.tup [PV.bl true], PV.tup [PV.int 0, PV.non], PV.lst [], PV.lst [PV.int 0], PV.dct [], PV.dct [(Sum.inr (Str.ofString "a"), PV.int 1)], PV.tup [PV.tup [PV.int 0], PV.tup [PV.int 1]], PV.tup [PV.tup [], PV.tup []], PV.tup [PV.tup [PV.int 0], PV.lst [PV.int 1]], PV.tup [PV.tup [PV.int 0], PV.tup [PV.int 0, PV.int 1]], PV.lst [PV.tup [PV.int 0]]] ++
    [PV.tup (List.replicate 17 [PV.int 0]).flatten, PV.tup [PV.int (-1)], PV.tup [PV.int 9], PV.tup [PV.str (Str.ofString "0")], PV.tup [PV.tup [PV.int 1], PV.tup [PV.int 0]], PV.tup [PV.int (10 ^ 39)], PV.tup [PV.int 1, PV.int 1, PV.int 1], PV.tup [PV.tup [PV.int 1, PV.int 2], PV.tup [PV.int 3]]])) = oddL := rfl
  rw [← e]
  exact hx
theorem hp__law_odd : ∀ ds m Q, sp__law_odd ds m Q → b__law_odd { nx := fun _ m' => Q .non m', rt := Q } (dstart 2 ds) m := body_d 2 (by decide) sj__law_odd hw__law_odd
/-! ### lengths -/
def w__law_lengths : WSp := fun l Q => ∃ ws, l = [tW ws] ∧ ws.length ≤ 100000 ∧ Q (tN (ws.map List.length))
/-- slots: 0 code, 1 word -/
abbrev sp__law_lengths : DSp := lV w__law_lengths
theorem cv__law_lengths : CallV sp__law_lengths w__law_lengths := cv_lV _
def b__law_lengths : DS := (dRet (dB1 bTuple (dCons (dLc (iAny (dVar 0)) (gN 1) dYes (dB1 bLen (dCons (dVar 1) dNil)) [1]) dNil)))
def v__law_lengths : WS := (vRet (vF (vB1 xTuple (vLc (vAnyI (vF (vMov 0))) (vG 1) vYes (vF (vB1 xLen (vVar 1))) [1]))))
theorem sj__law_lengths : SJ v__law_lengths b__law_lengths := (sj_ret (fj (vj_b1 bv_tuple (vj_lc (wj_any (fj (vj_mov 0))) (gj_n 1 (by decide)) tj_yes (fj (vj_b1 bv_len (vj_var 1)))))))
abbrev n__law_lengths : Nat := 2
theorem hw__law_lengths : ∀ l Q0 E, Ends0 E Q0 → w__law_lengths l Q0 → v__law_lengths E (vstart 2 l) := by
  rintro l Q0 E hE ⟨ws, rfl, hl, q⟩
  show v__law_lengths _ [.va (tW ws), .no]
  unfold v__law_lengths
  simp_arith
  refine vlc_map (fun w => .int w.length) (lsl hl) (fun w hw N hN => ?_) ?_
  · simp_arith
    exact hN _ rfl
  · simp_arith
    have e : (PV.tup (ws.map fun w => .int w.length)) = tN (ws.map List.length) := by
      unfold tN tI rI
      rw [List.map_map, List.map_map]
      rfl
    rw [e]
    exact hE.rt _ _ q
theorem hp__law_lengths : ∀ ds m Q, sp__law_lengths ds m Q → b__law_lengths { nx := fun _ m' => Q .non m', rt := Q } (dstart 2 ds) m := body_f 2 sj__law_lengths hw__law_lengths
/-! ### the word above -/
theorem at_last1 {α : Type} (q : List α) (x : α) : atI (q ++ [x]) (-1) = some x := by
  unfold atI
  have e : ixN (q ++ [x]).length (-1) = some q.length := by
    unfold ixN
    simp
    omega
  rw [e]
  show (q ++ [x])[q.length]? = some x
  simp
theorem ix_last1 {α : Type} (q : List α) (x : α) : ixN (q ++ [x]).length (-1) = some q.length := by
  unfold ixN
  simp
  omega
theorem rep0 (k : Nat) : (List.replicate k [PV.int 0]).flatten = (List.replicate k (0 : Int)).map PV.int := by
  induction k with
  | zero => rfl
  | succ k ih => rw [List.replicate_succ, List.replicate_succ, List.flatten_cons, ih]; rfl
def optP : Option (List Int) → PV
  | none => .non
  | some v => tI v
def w__law_above : WSp := fun l Q => ∃ (s M L : Nat) (w : List Int), l = [.int s, tI w, .int L] ∧ 1 ≤ s ∧ SgW s w ∧ w.length ≤ M ∧ L ≤ M ∧ M ≤ 1000 ∧ Q (optP (nextW s M (endW s M w) L))
/-- slots: 0 signs, 1 word, 2 length, 3 found -/
abbrev sp__law_above : DSp := lV w__law_above
theorem cv__law_above : CallV sp__law_above w__law_above := cv_lV _
def b__law_above : DS := (dSeq (dAsg (dB1 bList (dCons (dSl (dVar 1) dNo (dPart (dVar 2))) dNil)) (gN 3))
  (dSeq (dWhile (dB (dOp aNe (dVar 3) (dLst dNil))) (dSeq (dIf (dB (dOp aLt (dOp aIxA (dVar 3) (dNeg (dC (.int 1)))) (dOp aSub (dVar 0) (dC (.int 1))))) (dSeq (dAsg (dOp aAdd (dOp aIxA (dVar 3) (dNeg (dC (.int 1)))) (dC (.int 1))) (gS (dVar 3) (dNeg (dC (.int 1))) aSet))
  (dSeq (dAsg (dOp aAdd (dVar 3) (dOp aMul (dLst (dCons (dC (.int 0)) dNil)) (dOp aSub (dB1 bMinA (dCons (dVar 2) (dCons (dB1 bLen (dCons (dVar 1) dNil)) dNil))) (dB1 bLen (dCons (dVar 3) dNil))))) (gN 3))
  (dRet (dB1 bTuple (dCons (dOp aAdd (dVar 3) (dOp aMul (dLst (dCons (dC (.int 0)) dNil)) (dOp aSub (dVar 2) (dB1 bLen (dCons (dVar 3) dNil))))) dNil))))) dSkip)
  (dExpr (dM0 mPop (dVar 3)))))
  (dRet (dC .non))))
def v__law_above_2L_1A_2 : WS := (vRet (vF (vB1 xTuple (vOp xAdd (vVar 3) (vOp xMul (vLst (vCons (vF (vC (.int 0))) vNil)) (vOp xSub (vVar 2) (vB1 xLen (vVar 3))))))))
def v__law_above_2L_1A_1 : WS := vSeq (vAsgN 3 (vOp xAdd (vVar 3) (vOp xMul (vLst (vCons (vF (vC (.int 0))) vNil)) (vOp xSub (vOp xMin2 (vVar 2) (vB1 xLen (vVar 1))) (vB1 xLen (vVar 3)))))) v__law_above_2L_1A_2
def v__law_above_2L_1A : WS := vSeq (vSetI 3 (vNeg (vC (.int 1))) (vF (vOp xAdd (vOp xIx (vVar 3) (vNeg (vC (.int 1)))) (vC (.int 1))))) v__law_above_2L_1A_1
def v__law_above_2L_1 : WS := (vExpr (vPop0 3))
def v__law_above_2L : WS := vSeq (vIf (vB (vOp xLt (vOp xIx (vVar 3) (vNeg (vC (.int 1)))) (vOp xSub (vVar 0) (vC (.int 1))))) v__law_above_2L_1A vSkip) v__law_above_2L_1
def v__law_above_2 : WS := (vRet (vF (vC .non)))
def v__law_above_1 : WS := vSeq (vWhile (vB (vOp xNe (vVar 3) (vLst vNil))) v__law_above_2L) v__law_above_2
def v__law_above : WS := vSeq (vAsgN 3 (vB1 xList (vSl (vVar 1) vNo (vPart (vVar 2))))) v__law_above_1
theorem sj__law_above : SJ v__law_above b__law_above := (sj_seq (sj_asgN 3 (vj_b1 bv_list (vj_sl (vj_var 1) oj_none (oj_part (vj_var 2))))) (sj_seq (sj_while (tj_b (vj_op ov_ne (vj_var 3) (vj_lst aj_nil))) (sj_seq (sj_if (tj_b (vj_op ov_lt (vj_op ov_ix (vj_var 3) (vj_neg (vj_c (v := (.int 1)) fun _ => .int _))) (vj_op ov_sub (vj_var 0) (vj_c (v := (.int 1)) fun _ => .int _)))) (sj_seq (sj_setI (i := 3) (vj_neg (vj_c (v := (.int 1)) fun _ => .int _)) (fj (vj_op ov_add (vj_op ov_ix (vj_var 3) (vj_neg (vj_c (v := (.int 1)) fun _ => .int _))) (vj_c (v := (.int 1)) fun _ => .int _)))) (sj_seq (sj_asgN 3 (vj_op ov_add (vj_var 3) (vj_op ov_mul (vj_lst (aj_cons (fj (vj_c (v := (.int 0)) fun _ => .int _)) aj_nil)) (vj_op ov_sub (vj_b2 bv_min2A (vj_var 2) (vj_b1 bv_len (vj_var 1))) (vj_b1 bv_len (vj_var 3)))))) (sj_ret (fj (vj_b1 bv_tuple (vj_op ov_add (vj_var 3) (vj_op ov_mul (vj_lst (aj_cons (fj (vj_c (v := (.int 0)) fun _ => .int _)) aj_nil)) (vj_op ov_sub (vj_var 2) (vj_b1 bv_len (vj_var 3)))))))))) sj_skip) (sj_expr (vj_pop0 (i := 3))))) (sj_ret (fj (vj_c (v := .non) fun _ => .non)))))
abbrev n__law_above : Nat := 4
theorem hw__law_above : ∀ l Q0 E, Ends0 E Q0 → w__law_above l Q0 → v__law_above E (vstart 4 l) := by
  rintro l Q0 E hE ⟨s, M, L, w, rfl, hs, hw, hl, hL, hM, q⟩
  show v__law_above _ [.va (.int s), .va (tI w), .va (.int L), .no]
  unfold v__law_above v__law_above_1
  simp_arith [cut_toG]
  refine vwhile_by (fun n env => ∃ (p : List Int) (k : Nat), n = p.length ∧ w.take L = p ++ List.replicate k ((s : Int) - 1) ∧ env = [.va (.int s), .va (tI w), .va (.int L), .ow (.lst (p.map .int))]) (w.take L).length ⟨w.take L, 0, rfl, by simp, rfl⟩ ?_
  rintro n env E' hT ⟨p, k, rfl, hp, rfl⟩
  simp_arith
  rcases List.eq_nil_or_concat p with rfl | ⟨p', x, rfl⟩
  · rw [decide_eq_true rfl]
    simp_arith
    unfold v__law_above_2
    simp_arith
    have ht : nextW s M (endW s M w) L = none := next_top hs hw hl hL fun y hy => by
      rw [hp, List.nil_append] at hy
      exact List.eq_of_mem_replicate hy
    rw [ht] at q
    exact hE.rt _ _ q
  · rw [List.concat_eq_append] at hp ⊢
    rw [decide_eq_false (by simp)]
    simp_arith
    unfold v__law_above_2L v__law_above_2L_1
    simp_arith [at_last1]
    have hx0 : 0 ≤ x ∧ x < (s : Int) := hw x (List.mem_of_mem_take (by rw [hp]; simp))
    by_cases hlt : x < (s : Int) - 1
    · rw [decide_eq_true hlt]
      unfold v__law_above_2L_1A v__law_above_2L_1A_1 v__law_above_2L_1A_2
      have hpl : p'.length < L := by
        have := congrArg List.length hp
        simp only [List.length_take, List.length_append, List.length_cons, List.length_nil, List.length_replicate] at this
        omega
      have e1 : ixN ((p' ++ [x]).map PV.int).length (-1) = some p'.length := by rw [List.length_map]; exact ix_last1 p' x
      simp_arith [at_last1, xMul_lst]
      refine ⟨_, e1, ?_⟩
      have e2 : ((p' ++ [x]).map PV.int).set p'.length (.int (x + 1)) = (p' ++ [x + 1]).map .int := by
        rw [List.map_append, List.map_append]
        simp
      have htl : (w.take L).length = p'.length + 1 + k := by rw [hp]; simp only [List.length_append, List.length_cons, List.length_nil, List.length_replicate]
      have hmin : (if (w.length : Int) < L then (w.length : Int) else L) = ((p'.length + 1 + k : Nat) : Int) := by
        rw [← htl, List.length_take]
        split <;> omega
      have hkL : p'.length + 1 + k ≤ L := by rw [← htl, List.length_take]; omega
      have l1 : ((p' ++ [x + 1]).map PV.int).length = p'.length + 1 := by simp
      have d1 : (((p'.length + 1 + k : Nat) : Int) - ((p'.length + 1 : Nat) : Int)).toNat = k := by omega
      rw [e2, hmin, l1, d1, rep0, ← List.map_append]
      have l2 : ((p' ++ [x + 1] ++ List.replicate k 0).map PV.int).length = p'.length + 1 + k := by simp only [List.length_map, List.length_append, List.length_cons, List.length_nil, List.length_replicate]
      have d2 : ((L : Int) - ((p'.length + 1 + k : Nat) : Int)).toNat = L - p'.length - 1 - k := by omega
      rw [l2, d2, rep0, List.length_map, List.length_replicate, List.length_map, List.length_replicate]
      refine ⟨by decide, by omega, by omega, ls (by omega), ls (by omega), by decide, by omega, by omega, ls (by omega), ls (by omega), ?_⟩
      rw [← List.map_append, show PV.tup (List.map PV.int (p' ++ [x + 1] ++ List.replicate k 0 ++ List.replicate (L - p'.length - 1 - k) 0)) = tI (p' ++ (x + 1) :: List.replicate (L - p'.length - 1) 0) by
        rw [List.append_assoc, List.append_assoc, List.replicate_append_replicate, show k + (L - p'.length - 1 - k) = L - p'.length - 1 by omega]; rfl]
      have hdrop : w = p' ++ x :: (List.replicate k ((s : Int) - 1) ++ w.drop L) := by
        have h := List.take_append_drop L w
        rw [hp, List.append_assoc, List.append_assoc] at h
        exact h.symm
      have hn : nextW s M (endW s M w) L = some (p' ++ (x + 1) :: List.replicate (L - p'.length - 1) 0) := by
        rw [hdrop]
        rw [hdrop] at hw hl
        refine next_above hs hw hl hL hpl (by omega) fun y hy => ?_
        by_cases hkk : L - p'.length - 1 ≤ k
        · rw [List.take_append_of_le_length (by rw [List.length_replicate]; exact hkk)] at hy
          exact List.eq_of_mem_replicate (List.mem_of_mem_take hy)
        · have hlw : w.length ≤ L := by
            rw [List.length_take] at htl
            omega
          rw [List.drop_eq_nil_of_le hlw, List.append_nil] at hy
          exact List.eq_of_mem_replicate (List.mem_of_mem_take hy)
      rw [hn] at q
      exact hT.rt _ _ (hE.rt _ _ q)
    · rw [decide_eq_false hlt]
      simp_arith
      have hx : x = (s : Int) - 1 := by omega
      refine ⟨⟨.int x, by simp⟩, hT.nx _ ⟨p'.length, by simp, p', k + 1, rfl, ?_, ?_⟩⟩
      · rw [hp, hx, List.replicate_succ, List.append_assoc]
        rfl
      · rw [List.map_append, List.map_singleton, List.dropLast_concat]
theorem hp__law_above : ∀ ds m Q, sp__law_above ds m Q → b__law_above { nx := fun _ m' => Q .non m', rt := Q } (dstart 4 ds) m := body_f 4 sj__law_above hw__law_above
/-! ### words laid -/
def w__law_laid : WSp := fun l Q => ∃ (s : Nat) (row : List Nat), l = [.int s, tN row] ∧ 1 ≤ s ∧ row ≠ [] ∧ row.length ≤ 1000 ∧ (∀ L ∈ row, L ≤ 16) ∧ Q (.lst ((placedM s 16 0 row).map tI))
/-- slots: 0 signs, 1 row, 2 found, 3 length, 4 word -/
abbrev sp__law_laid : DSp := lV w__law_laid
theorem cv__law_laid : CallV sp__law_laid w__law_laid := cv_lV _
def b__law_laid : DS := (dSeq (dAsg (dLst (dCons (dOp aMul (dTup (dCons (dC (.int 0)) dNil)) (dOp aIxA (dVar 1) (dC (.int 0)))) dNil)) (gN 2))
  (dSeq (dFor (iAny (dSl (dVar 1) (dPart (dC (.int 1))) dNo)) (gN 3) (dSeq (dAsg (dCall sp__law_above (dCons (dVar 0) (dCons (dOp aIxA (dVar 2) (dNeg (dC (.int 1)))) (dCons (dVar 3) dNil)))) (gN 4))
  (dSeq (dIf (dB (dOp aIs (dVar 4) (dC .non))) (dRet (dVar 2)) dSkip)
  (dExpr (dM mAppend (dVar 2) (dCons (dVar 4) dNil))))))
  (dRet (dVar 2))))
def v__law_laid_2L_2 : WS := (vExpr (vApp 2 (vF (vMov 4))))
def v__law_laid_2L_1 : WS := vSeq (vIf (vB (vOp xIs (vVar 4) (vC .non))) (vRet (vF (vMov 2))) vSkip) v__law_laid_2L_2
def v__law_laid_2L : WS := vSeq (vAsgN 4 (vCall w__law_above (vCons (vF (vMov 0)) (vCons (vF (vOp xIx (vVar 2) (vNeg (vC (.int 1))))) (vCons (vF (vMov 3)) vNil))))) v__law_laid_2L_1
def v__law_laid_2 : WS := (vRet (vF (vMov 2)))
def v__law_laid_1 : WS := vSeq (vFor (vAnyI (vF (vSl (vVar 1) (vPart (vC (.int 1))) vNo))) (vG 3) v__law_laid_2L) v__law_laid_2
def v__law_laid : WS := vSeq (vAsgN 2 (vLst (vCons (vF (vOp xMul (vTup (vCons (vF (vC (.int 0))) vNil)) (vOp xIx (vVar 1) (vC (.int 0))))) vNil))) v__law_laid_1
theorem sj__law_laid : SJ v__law_laid b__law_laid := (sj_seq (sj_asgN 2 (vj_lst (aj_cons (fj (vj_op ov_mul (vj_tup (aj_cons (fj (vj_c (v := (.int 0)) fun _ => .int _)) aj_nil)) (vj_op ov_ix (vj_var 1) (vj_c (v := (.int 0)) fun _ => .int _)))) aj_nil))) (sj_seq (sj_for (vs := [3]) (wj_any (fj (vj_sl (vj_var 1) (oj_part (vj_c (v := (.int 1)) fun _ => .int _)) oj_none))) (gj_n 3 (by decide)) (sj_seq (sj_asgN 4 (vj_call cv__law_above (aj_cons (fj (vj_mov 0)) (aj_cons (fj (vj_op ov_ix (vj_var 2) (vj_neg (vj_c (v := (.int 1)) fun _ => .int _)))) (aj_cons (fj (vj_mov 3)) aj_nil))))) (sj_seq (sj_if (tj_b (vj_op ov_is (vj_var 4) (vj_c (v := .non) fun _ => .non))) (sj_ret (fj (vj_mov 2))) sj_skip) (sj_expr (vj_app (i := 2) (fj (vj_mov 4))))))) (sj_ret (fj (vj_mov 2)))))
abbrev n__law_laid : Nat := 5
theorem hw__law_laid : ∀ l Q0 E, Ends0 E Q0 → w__law_laid l Q0 → v__law_laid E (vstart 5 l) := by
  rintro l Q0 E hE ⟨s, row, rfl, hs, hr0, hrl, hr16, q⟩
  cases row with
  | nil => exact absurd rfl hr0
  | cons L0 row =>
    have hL0 := hr16 L0 (by simp)
    show v__law_laid _ [.va (.int s), .va (tN (L0 :: row)), .no, .no, .no]
    unfold v__law_laid v__law_laid_1 tN
    have e0 : rI (L0 :: row) = (L0 : Int) :: rI row := rfl
    rw [e0]
    simp_arith [xMul_tup]
    refine ⟨by decide, by omega, by omega, by omega, by decide, ?_⟩
    rw [List.tail_cons, Int.toNat_natCast, rep0, rI, List.map_map]
    have hz : PV.tup ((List.replicate L0 (0 : Int)).map PV.int) = tI (List.replicate L0 0) := rfl
    rw [hz]
    refine vloop_list (f := PV.int ∘ fun L : Nat => (L : Int)) (fun done env => ∃ (ws : List (List Int)) (w : List Int) (s3 s4 : Sl), env = [.va (.int s), .va (tI ((L0 : Int) :: rI row)), .ow (.lst ((ws ++ [w]).map tI)), s3, s4] ∧ SgW s w ∧ w.length ≤ 16 ∧ ws.length = done.length ∧
      ∀ r, row = done ++ r → placedM s 16 0 (L0 :: row) = (ws ++ [w]) ++ placedM s 16 (endW s 16 w) r) ⟨[], List.replicate L0 0, _, _, rfl, sg_rep hs L0, by rw [List.length_replicate]; exact hL0, rfl, fun r hr => ?_⟩ ?_ ?_
    · rw [placed_cons (next_zero hs), hr]
      rfl
    · rintro env ⟨ws, w, s3, s4, rfl, h1, h2, h3, hp⟩
      have := hp [] (by simp)
      rw [placedM, List.append_nil] at this
      rw [this] at q
      unfold v__law_laid_2
      simp_arith
      exact hE.rt _ _ q
    · rintro done L rest env E' hrow hT ⟨ws, w, s3, s4, rfl, h1, h2, h3, hp⟩
      have hp := hp _ hrow
      have hL := hr16 L (by rw [hrow]; simp)
      unfold v__law_laid_2L v__law_laid_2L_1 v__law_laid_2L_2
      simp only [Function.comp_apply]
      simp_arith [w__law_above, at_last1]
      refine ⟨hs, h1, 16, h2, hL, by decide, ?_⟩
      cases hn : nextW s 16 (endW s 16 w) L with
      | none =>
        unfold optP
        simp_arith
        rw [placed_stop hn, List.append_nil] at hp
        rw [hp] at q
        exact hT.rt _ _ (hE.rt _ _ q)
      | some v =>
        unfold optP
        simp_arith
        have hv := next_some hs hn
        refine ⟨by rw [List.length_map, List.length_append]; exact Nat.lt_of_le_of_lt (show ws.length + 1 ≤ 100000 by have := congrArg List.length hrow; rw [List.length_append] at this; simp only [List.length_cons] at hrl; omega) (by decide), hT.nx _ ⟨ws ++ [w], v, _, _, by rw [List.map_append, List.map_append, List.map_append]; rfl, hv.sg, by rw [hv.len]; exact hL, by simp [h3], fun r hr => ?_⟩⟩
        rw [hrow, List.append_assoc] at hr
        obtain ⟨_, hr⟩ := List.append_inj hr rfl
        injection hr with _ hr
        subst hr
        rw [hp, placed_cons hn, List.append_assoc, List.append_assoc, List.append_assoc]
        rfl
theorem hp__law_laid : ∀ ds m Q, sp__law_laid ds m Q → b__law_laid { nx := fun _ m' => Q .non m', rt := Q } (dstart 5 ds) m := body_f 5 sj__law_laid hw__law_laid
/-! ### what does not fit -/
def w__law_row_error : WSp := fun l Q => ∃ (s : Nat) (v : PV), l = [.int s, v] ∧ 1 ≤ s ∧ ShortT v ∧ Q (errP s v)
/-- slots: 0 signs, 1 value, 2 many, 3 length -/
abbrev sp__law_row_error : DSp := lV w__law_row_error
theorem cv__law_row_error : CallV sp__law_row_error w__law_row_error := cv_lV _
def b__law_row_error : DS := (dSeq (dIf (dOrT (dNotT (dB (dIsi "tuple" (dVar 1)))) (dNotT (dB (dChain aLe aLe (dC (.int 1)) (dB1 bLen (dCons (dVar 1) dNil)) (dC (.int 16)))))) (dRet (dC (.str "row"))) dSkip)
  (dSeq (dIf (dNotT (dB (dB1 bAll (dCons (dLc (iAny (dVar 1)) (gN 3) dYes (dCall sp__law_is_whole (dCons (dVar 3) (dCons (dC (.int 0)) (dCons (dC (.int 16)) dNil)))) [3]) dNil)))) (dRet (dC (.str "row"))) dSkip)
  (dSeq (dAsg (dB1 bLen (dCons (dCall sp__law_laid (dCons (dVar 0) (dCons (dVar 1) dNil))) dNil)) (gN 2))
  (dRet (dIfE (dB (dOp aEq (dVar 2) (dB1 bLen (dCons (dVar 1) dNil)))) (dC .non) (dVar 2))))))
def v__law_row_error_3 : WS := (vRet (vF (vIfE (vB (vOp xEq (vVar 2) (vB1 xLen (vVar 1)))) (vC .non) (vMov 2))))
def v__law_row_error_2 : WS := vSeq (vAsgN 2 (vB1 xLen (vCall w__law_laid (vCons (vF (vMov 0)) (vCons (vF (vMov 1)) vNil))))) v__law_row_error_3
def v__law_row_error_1 : WS := vSeq (vIf (vNotT (vB (vB1 xAll (vLc (vAnyI (vF (vMov 1))) (vG 3) vYes (vF (vCall w__law_is_whole (vCons (vF (vMov 3)) (vCons (vF (vC (.int 0))) (vCons (vF (vC (.int 16))) vNil))))) [3])))) (vRet (vF (vC (.str "row")))) vSkip) v__law_row_error_2
def v__law_row_error : WS := vSeq (vIf (vOrT (vNotT (vB (vIsi isTupP (vVar 1)))) (vNotT (vB (vChain xLe xLe (vC (.int 1)) (vB1 xLen (vVar 1)) (vC (.int 16)))))) (vRet (vF (vC (.str "row")))) vSkip) v__law_row_error_1
theorem sj__law_row_error : SJ v__law_row_error b__law_row_error := (sj_seq (sj_if (tj_or (tj_not (tj_b (vj_isi isT_tuple (vj_var 1)))) (tj_not (tj_b (vj_chain ov_le ov_le (vj_c (v := (.int 1)) fun _ => .int _) (vj_b1 bv_len (vj_var 1)) (vj_c (v := (.int 16)) fun _ => .int _))))) (sj_ret (fj (vj_c (v := (.str "row")) fun _ => .str _))) sj_skip) (sj_seq (sj_if (tj_not (tj_b (vj_b1 bv_all (vj_lc (wj_any (fj (vj_mov 1))) (gj_n 3 (by decide)) tj_yes (fj (vj_call cv__law_is_whole (aj_cons (fj (vj_mov 3)) (aj_cons (fj (vj_c (v := (.int 0)) fun _ => .int _)) (aj_cons (fj (vj_c (v := (.int 16)) fun _ => .int _)) aj_nil))))))))) (sj_ret (fj (vj_c (v := (.str "row")) fun _ => .str _))) sj_skip) (sj_seq (sj_asgN 2 (vj_b1 bv_len (vj_call cv__law_laid (aj_cons (fj (vj_mov 0)) (aj_cons (fj (vj_mov 1)) aj_nil))))) (sj_ret (fj (vj_if (tj_b (vj_op ov_eq (vj_var 2) (vj_b1 bv_len (vj_var 1)))) (vj_c (v := .non) fun _ => .non) (vj_mov 2)))))))
abbrev n__law_row_error : Nat := 4
theorem hw__law_row_error : ∀ l Q0 E, Ends0 E Q0 → w__law_row_error l Q0 → v__law_row_error E (vstart 4 l) := by
  rintro l Q0 E hE ⟨s, v, rfl, hs0, hv, q⟩
  show v__law_row_error _ [.va (.int s), .va v, .no, .no]
  unfold v__law_row_error
  cases v with
  | tup l =>
    have hl := hv l rfl
    have e : rowP (.tup l) = (decide (1 ≤ l.length) && decide (l.length ≤ 16) && l.all (intP 0 16)) := rfl
    simp_arith
    by_cases h1 : 1 ≤ l.length
    · rw [decide_eq_true h1, Bool.true_and] at e
      rw [decide_eq_true (by omega), if_pos rfl]
      by_cases h2 : l.length ≤ 16
      · rw [decide_eq_true h2, Bool.true_and] at e
        rw [decide_eq_true (by omega)]
        simp_arith
        unfold v__law_row_error_1
        simp_arith
        refine vlc_mapI (fun x => .bl (intP 0 16 x)) (lsl hl) (fun x hx N hN => ?_) ?_
        · simp_arith [w__law_is_whole, w_is_integer]
          exact hN _ rfl
        · rw [map_blP]
          simp_arith
          rw [all_id, ← e]
          cases h : rowP (.tup l) with
          | false =>
            rw [errP, if_neg (by rw [h]; decide)] at q
            simp_arith
            exact hE.rt _ _ q
          | true =>
            rw [errP, if_pos h] at q
            obtain ⟨e1, h1, h2, h3⟩ := rowP_tN h
            generalize rowOf (.tup l) = row at e1 q h1 h2 h3
            rw [e1]
            simp_arith
            unfold v__law_row_error_2 v__law_row_error_3
            simp_arith [w__law_laid]
            refine ⟨row, rfl, hs0, h1, by omega, h3, ?_⟩
            unfold tN
            simp_arith
            rw [List.length_map, rI_len]
            by_cases hf : fitN s row = row.length
            · rw [if_pos hf] at q
              rw [decide_eq_true (by unfold fitN at hf; omega), if_pos rfl]
              exact hE.rt _ _ q
            · rw [if_neg hf] at q
              rw [decide_eq_false (by unfold fitN at hf; omega), if_neg (by decide)]
              exact hE.rt _ _ q
      · rw [decide_eq_false h2, Bool.false_and] at e
        rw [decide_eq_false (by omega)]
        simp_arith
        rw [errP, if_neg (by rw [e]; decide)] at q
        exact hE.rt _ _ q
    · rw [decide_eq_false h1, Bool.false_and, Bool.false_and] at e
      rw [decide_eq_false (by omega), if_neg (by decide)]
      rw [errP, if_neg (by rw [e]; decide)] at q
      exact hE.rt _ _ q
  | xtp l => exact hv.nx.elim
  | _ =>
    simp_arith
    exact hE.rt _ _ q
theorem hp__law_row_error : ∀ ds m Q, sp__law_row_error ds m Q → b__law_row_error { nx := fun _ m' => Q .non m', rt := Q } (dstart 4 ds) m := body_f 4 sj__law_row_error hw__law_row_error
end DL
/-! Rows: all codes with some lengths; drawn rows. -/
namespace DL
open PySem PySem.Spec PyProof.Rows L2
local macro_rules
  | `(tactic| simp_arith) => `(tactic| simp only [↓vSeq, ↓vSkip, ↓vAsgN, ↓vAsg, ↓vPar, ↓vIf, ↓vRet, ↓vExpr, ↓vFor, ↓vSetI, ↓vBreak, ↓vCont, ↓vF, ↓vVar, ↓vMov, ↓vC, ↓vNil, ↓vCons, ↓vTup, ↓vLst, ↓vDisp, ↓vPairs, ↓vNewD, ↓vOp, ↓vChain, ↓vB, ↓vNotT, ↓vAndT, ↓vOrT, ↓vYes, ↓vAnd, ↓vOr, ↓vNot, ↓vIfE, ↓vNeg, ↓vNo, ↓vPart, ↓vSl, ↓vRev_x, ↓vB1, ↓vIsi, ↓vAnyI_x, ↓vR1, ↓vR2, ↓vR3, ↓vEnum_x, ↓vZip2_x, ↓vG, ↓vGnil, ↓vGcons, ↓vGT, ↓vGL, ↓vLc, ↓vCall, ↓vCallD, ↓vApp, ↓vPop0, ↓vPop1, ↓vExt, ↓vDeck, ↓xIs, ↓xIsNot, Rs.v, SameR, Same, same_self, same_cons, reduceCtorEq, or_true, true_or, or_false, false_or, and_false, false_and, toSl, notBr, wipeP, List.set_cons_zero, List.set_cons_succ, List.getElem?_cons_zero, List.getElem?_cons_succ, Option.some.injEq, Sl.ow.injEq, Sl.va.injEq, Sl.dk.injEq, PV.int.injEq, PV.bl.injEq, PV.tup.injEq, PV.lst.injEq, PV.dct.injEq, Rs.va.injEq, List.cons.injEq, List.length_cons, List.length_nil, exists_eq_left', exists_eq_left, exists_eq', exists_const, true_and, and_true, and_self, if_true, if_false, Bool.false_eq_true, reduceIte, and_assoc, exists_and_left, exists_and_right, Bool.not_true, Bool.not_false, at_zero, at_one, at_two, ↓xAdd_int, ↓xAdd_str, ↓xAdd_tup, ↓xAdd_lst, ↓xSub_int, ↓xMul_tup, ↓xMul_lst, ↓xPow_int, ↓xLt_int, ↓xLe_int, ↓xGt_int, ↓xGe_int, ↓xIx_tup, ↓xIx_lst, ↓xIx_str, ↓xIx_dct, ↓xLen_tup, ↓xLen_lst, ↓xLen_str, ↓xAbs_int, ↓xList_tup, ↓xList_lst, ↓xTuple_tup, ↓xTuple_lst, ↓xSl_tup, ↓xSl_lst, ↓xRev_tup, ↓xRev_lst, ↓xMin2_int, ↓xMax2_int, ↓xItems_tup, ↓xItems_lst, ↓xItems_str, ↓xEnum_tup, ↓xEnum_lst, ↓xZip_tup, ↓xZip_lst, ↓xZip_WW, ↓xZip_IW, ↓xZip_WI, ↓xZip_II, ↓xZip_tI, ↓xZip_It, keyP'_int, keyP'_str, isNo_non, isNo_bl, isNo_int, isNo_str, isNo_tup, isNo_lst, isNo_dct, isInt_non, isInt_bl, isInt_int, isInt_str, isInt_tup, isInt_lst, isInt_dct, isInt_tI, isInt_tW, isBool_non, isBool_bl, isBool_int, isBool_str, isBool_tup, isBool_lst, isBool_dct, isBool_tI, isBool_tW, isStrV_non, isStrV_bl, isStrV_int, isStrV_str, isStrV_tup, isStrV_lst, isStrV_dct, isStrV_tI, isStrV_tW, isTupP_non, isTupP_bl, isTupP_int, isTupP_str, isTupP_tup, isTupP_lst, isTupP_dct, isLstP_non, isLstP_bl, isLstP_int, isLstP_str, isLstP_tup, isLstP_lst, isLstP_dct, isLstP_tI, isLstP_tW, ↓xLen_tI, ↓xLen_tW, ↓xIx_tI, ↓xIx_tW, ↓xIx_lI, ↓xIx_lW, ↓xAdd_tI, ↓xAdd_tI1, ↓xAdd_1tI, ↓xAdd_tW, ↓xAdd_tW1, ↓xAdd_1tW, ↓xSl_tI, ↓xSl_tW, ↓xList_tI, ↓xList_tW, ↓xTuple_lI, ↓xTuple_lW, ↓xTuple_tI, ↓xTuple_tW, ↓xLt_tI, ↓xLe_tI, ↓xGt_tI, ↓xGe_tI, ↓xLt_tW, ↓xLe_tW, ↓xEq_tI, ↓xNe_tI, ↓xEq_tI0, ↓xNe_tI0, ↓xEq_tW, ↓xNe_tW, ↓xEq_tW0, ↓xNe_tW0, ↓xEq_int, ↓xNe_int, ↓xEq_bl, ↓xNe_bl, ↓xEq_lI, ↓xNe_lI, ↓xEq_lI0, ↓xNe_lI0, ↓xEq_lW, ↓xNe_lW, ↓xEq_lW0, ↓xNe_lW0, isTup_tI, isTup_tW, isNo_tI, isNo_tW, ↓xRev_tI, ↓xRev_tW, ↓xItems_tI, ↓xItems_tW, ↓xEnum_tI, ↓xEnum_tW, tI_inj, tW_inj, Int.reduceToNat, Int.zero_add, ↓xSum_lI, ↓xAll_l, ↓xAny_l, cut_tl, ↓xSumA_lI, ↓xSumA_tI, ↓xMaxA_tI, ↓xMaxA_lI, ↓xMinA_tI, ↓xMinA_lI, Int.natCast_inj, atI_map, ex_map, Nat.zero_le])
local macro_rules
  | `(tactic| simp_arith [$args,*]) => `(tactic| simp only [↓vSeq, ↓vSkip, ↓vAsgN, ↓vAsg, ↓vPar, ↓vIf, ↓vRet, ↓vExpr, ↓vFor, ↓vSetI, ↓vBreak, ↓vCont, ↓vF, ↓vVar, ↓vMov, ↓vC, ↓vNil, ↓vCons, ↓vTup, ↓vLst, ↓vDisp, ↓vPairs, ↓vNewD, ↓vOp, ↓vChain, ↓vB, ↓vNotT, ↓vAndT, ↓vOrT, ↓vYes, ↓vAnd, ↓vOr, ↓vNot, ↓vIfE, ↓vNeg, ↓vNo, ↓vPart, ↓vSl, ↓vRev_x, ↓vB1, ↓vIsi, ↓vAnyI_x, ↓vR1, ↓vR2, ↓vR3, ↓vEnum_x, ↓vZip2_x, ↓vG, ↓vGnil, ↓vGcons, ↓vGT, ↓vGL, ↓vLc, ↓vCall, ↓vCallD, ↓vApp, ↓vPop0, ↓vPop1, ↓vExt, ↓vDeck, ↓xIs, ↓xIsNot, Rs.v, SameR, Same, same_self, same_cons, reduceCtorEq, or_true, true_or, or_false, false_or, and_false, false_and, toSl, notBr, wipeP, List.set_cons_zero, List.set_cons_succ, List.getElem?_cons_zero, List.getElem?_cons_succ, Option.some.injEq, Sl.ow.injEq, Sl.va.injEq, Sl.dk.injEq, PV.int.injEq, PV.bl.injEq, PV.tup.injEq, PV.lst.injEq, PV.dct.injEq, Rs.va.injEq, List.cons.injEq, List.length_cons, List.length_nil, exists_eq_left', exists_eq_left, exists_eq', exists_const, true_and, and_true, and_self, if_true, if_false, Bool.false_eq_true, reduceIte, and_assoc, exists_and_left, exists_and_right, Bool.not_true, Bool.not_false, at_zero, at_one, at_two, ↓xAdd_int, ↓xAdd_str, ↓xAdd_tup, ↓xAdd_lst, ↓xSub_int, ↓xMul_tup, ↓xMul_lst, ↓xPow_int, ↓xLt_int, ↓xLe_int, ↓xGt_int, ↓xGe_int, ↓xIx_tup, ↓xIx_lst, ↓xIx_str, ↓xIx_dct, ↓xLen_tup, ↓xLen_lst, ↓xLen_str, ↓xAbs_int, ↓xList_tup, ↓xList_lst, ↓xTuple_tup, ↓xTuple_lst, ↓xSl_tup, ↓xSl_lst, ↓xRev_tup, ↓xRev_lst, ↓xMin2_int, ↓xMax2_int, ↓xItems_tup, ↓xItems_lst, ↓xItems_str, ↓xEnum_tup, ↓xEnum_lst, ↓xZip_tup, ↓xZip_lst, ↓xZip_WW, ↓xZip_IW, ↓xZip_WI, ↓xZip_II, ↓xZip_tI, ↓xZip_It, keyP'_int, keyP'_str, isNo_non, isNo_bl, isNo_int, isNo_str, isNo_tup, isNo_lst, isNo_dct, isInt_non, isInt_bl, isInt_int, isInt_str, isInt_tup, isInt_lst, isInt_dct, isInt_tI, isInt_tW, isBool_non, isBool_bl, isBool_int, isBool_str, isBool_tup, isBool_lst, isBool_dct, isBool_tI, isBool_tW, isStrV_non, isStrV_bl, isStrV_int, isStrV_str, isStrV_tup, isStrV_lst, isStrV_dct, isStrV_tI, isStrV_tW, isTupP_non, isTupP_bl, isTupP_int, isTupP_str, isTupP_tup, isTupP_lst, isTupP_dct, isLstP_non, isLstP_bl, isLstP_int, isLstP_str, isLstP_tup, isLstP_lst, isLstP_dct, isLstP_tI, isLstP_tW, ↓xLen_tI, ↓xLen_tW, ↓xIx_tI, ↓xIx_tW, ↓xIx_lI, ↓xIx_lW, ↓xAdd_tI, ↓xAdd_tI1, ↓xAdd_1tI, ↓xAdd_tW, ↓xAdd_tW1, ↓xAdd_1tW, ↓xSl_tI, ↓xSl_tW, ↓xList_tI, ↓xList_tW, ↓xTuple_lI, ↓xTuple_lW, ↓xTuple_tI, ↓xTuple_tW, ↓xLt_tI, ↓xLe_tI, ↓xGt_tI, ↓xGe_tI, ↓xLt_tW, ↓xLe_tW, ↓xEq_tI, ↓xNe_tI, ↓xEq_tI0, ↓xNe_tI0, ↓xEq_tW, ↓xNe_tW, ↓xEq_tW0, ↓xNe_tW0, ↓xEq_int, ↓xNe_int, ↓xEq_bl, ↓xNe_bl, ↓xEq_lI, ↓xNe_lI, ↓xEq_lI0, ↓xNe_lI0, ↓xEq_lW, ↓xNe_lW, ↓xEq_lW0, ↓xNe_lW0, isTup_tI, isTup_tW, isNo_tI, isNo_tW, ↓xRev_tI, ↓xRev_tW, ↓xItems_tI, ↓xItems_tW, ↓xEnum_tI, ↓xEnum_tW, tI_inj, tW_inj, Int.reduceToNat, Int.zero_add, ↓xSum_lI, ↓xAll_l, ↓xAny_l, cut_tl, ↓xSumA_lI, ↓xSumA_tI, ↓xMaxA_tI, ↓xMaxA_lI, ↓xMinA_tI, ↓xMinA_lI, Int.natCast_inj, atI_map, ex_map, Nat.zero_le, $args,*])
theorem at_lastW {c : List (List Int)} (h : c ≠ []) : atI c (-1) = some (lastW c) := by
  have e := List.dropLast_concat_getLast h
  rw [← e, at_last1, lastW_app]
theorem at_last2 {α : Type} (q : List α) (x y : α) : atI (q ++ [x] ++ [y]) (-2) = some x := by
  unfold atI
  have e : ixN (q ++ [x] ++ [y]).length (-2) = some q.length := by
    unfold ixN
    simp
    omega
  rw [e]
  show (q ++ [x] ++ [y])[q.length]? = some x
  simp
theorem codes_snoc (s L0 : Nat) (r : List Nat) (L : Nat) : codesL s (L0 :: (r ++ [L])) = stepC s L (codesL s (L0 :: r)) := by
  simp [codesL]
theorem codes_len {s : Nat} (hs : 0 < s) {row : List Nat} (hne : row ≠ []) {c : List (List Int)} (h : c ∈ codesL s row) : c.length = row.length := by
  have := ((mem_codes hs hne).mp h).len
  rw [← this, List.length_map]
def spurC (s L : Nat) (found : List (List (List Int))) : List (List (List Int)) := found.flatMap fun c => ((allWords s L).filter fun w => decide (lastW c < w)).map fun w => c ++ [w]
theorem spurC_len {s L : Nat} (hs : s ≤ 3) (hL : L ≤ 3) : ∀ (found : List (List (List Int))), (spurC s L found).length ≤ found.length * 27
  | [] => by simp [spurC]
  | c :: f => by
    have ih := spurC_len hs hL f
    unfold spurC at ih ⊢
    rw [List.flatMap_cons, List.length_append, List.length_map, List.length_cons, Nat.succ_mul]
    have := List.length_filter_le (fun w => decide (lastW c < w)) (allWords s L)
    rw [allWords_len] at this
    have h2 : s ^ L ≤ 27 := Nat.le_trans (Nat.pow_le_pow_left hs L) (Nat.pow_le_pow_right (n := 3) (by decide) hL)
    omega
theorem words_le {s L : Nat} (hs : s ≤ 3) (hL : L ≤ 3) : (allWords s L).length ≤ 27 := by
  rw [allWords_len]
  exact Nat.le_trans (Nat.pow_le_pow_left hs L) (Nat.pow_le_pow_right (n := 3) (by decide) hL)
theorem step_spur (s L : Nat) (found : List (List (List Int))) : stepC s L found = (spurC s L found).filter okEnd := rfl
def w__law_codes : WSp := fun l Q => ∃ (s : Nat) (row : List Nat), l = [.int s, tN row] ∧ 1 ≤ s ∧ s ≤ 3 ∧ row ≠ [] ∧ row.length ≤ 4 ∧ (∀ L ∈ row, L ≤ 3) ∧ Q (.lst ((codesL s row).map tW))
/-- slots: 0 signs, 1 row, 2 found, 3 length, 4 longer, 5 code, 6 word -/
abbrev sp__law_codes : DSp := lV w__law_codes
theorem cv__law_codes : CallV sp__law_codes w__law_codes := cv_lV _
def b__law_codes : DS := (dSeq (dAsg (dLc (iAny (dCall sp__law_words (dCons (dVar 0) (dCons (dOp aIxA (dVar 1) (dC (.int 0))) dNil)))) (gN 6) dYes (dTup (dCons (dVar 6) dNil)) [6]) (gN 2))
  (dSeq (dFor (iAny (dSl (dVar 1) (dPart (dC (.int 1))) dNo)) (gN 3) (dSeq (dAsg (dLst dNil) (gN 4))
  (dSeq (dFor (iAny (dVar 2)) (gN 5) (dExpr (dM mExtend (dVar 4) (dCons (dLc (iAny (dCall sp__law_words (dCons (dVar 0) (dCons (dVar 3) dNil)))) (gN 6) (dB (dOp aGt (dVar 6) (dOp aIxA (dVar 5) (dNeg (dC (.int 1)))))) (dOp aAdd (dVar 5) (dTup (dCons (dVar 6) dNil))) [6]) dNil))))
  (dAsg (dLc (iAny (dVar 4)) (gN 5) (dNotT (dB (dCall sp__law_starts (dCons (dOp aIxA (dVar 5) (dNeg (dC (.int 2)))) (dCons (dOp aIxA (dVar 5) (dNeg (dC (.int 1)))) dNil))))) (dVar 5) [5]) (gN 2)))))
  (dRet (dVar 2))))
def v__law_codes_2L_2L : WS := (vExpr (vExt 4 (vF (vLc (vAnyI (vF (vCall w__law_words (vCons (vF (vMov 0)) (vCons (vF (vMov 3)) vNil))))) (vG 6) (vB (vOp xGt (vVar 6) (vOp xIx (vVar 5) (vNeg (vC (.int 1)))))) (vF (vOp xAdd (vVar 5) (vTup (vCons (vF (vMov 6)) vNil)))) [6]))))
def v__law_codes_2L_2 : WS := (vAsgN 2 (vLc (vAnyI (vF (vMov 4))) (vG 5) (vNotT (vB (vCall w__law_starts (vCons (vF (vOp xIx (vVar 5) (vNeg (vC (.int 2))))) (vCons (vF (vOp xIx (vVar 5) (vNeg (vC (.int 1))))) vNil))))) (vF (vMov 5)) [5]))
def v__law_codes_2L_1 : WS := vSeq (vFor (vAnyI (vF (vMov 2))) (vG 5) v__law_codes_2L_2L) v__law_codes_2L_2
def v__law_codes_2L : WS := vSeq (vAsgN 4 (vLst vNil)) v__law_codes_2L_1
def v__law_codes_2 : WS := (vRet (vF (vMov 2)))
def v__law_codes_1 : WS := vSeq (vFor (vAnyI (vF (vSl (vVar 1) (vPart (vC (.int 1))) vNo))) (vG 3) v__law_codes_2L) v__law_codes_2
def v__law_codes : WS := vSeq (vAsgN 2 (vLc (vAnyI (vF (vCall w__law_words (vCons (vF (vMov 0)) (vCons (vF (vOp xIx (vVar 1) (vC (.int 0)))) vNil))))) (vG 6) vYes (vF (vTup (vCons (vF (vMov 6)) vNil))) [6])) v__law_codes_1
theorem sj__law_codes : SJ v__law_codes b__law_codes := (sj_seq (sj_asgN 2 (vj_lc (wj_any (fj (vj_call cv__law_words (aj_cons (fj (vj_mov 0)) (aj_cons (fj (vj_op ov_ix (vj_var 1) (vj_c (v := (.int 0)) fun _ => .int _))) aj_nil))))) (gj_n 6 (by decide)) tj_yes (fj (vj_tup (aj_cons (fj (vj_mov 6)) aj_nil))))) (sj_seq (sj_for (vs := [3]) (wj_any (fj (vj_sl (vj_var 1) (oj_part (vj_c (v := (.int 1)) fun _ => .int _)) oj_none))) (gj_n 3 (by decide)) (sj_seq (sj_asgN 4 (vj_lst aj_nil)) (sj_seq (sj_for (vs := [5]) (wj_any (fj (vj_mov 2))) (gj_n 5 (by decide)) (sj_expr (vj_ext (i := 4) (fj (vj_lc (wj_any (fj (vj_call cv__law_words (aj_cons (fj (vj_mov 0)) (aj_cons (fj (vj_mov 3)) aj_nil))))) (gj_n 6 (by decide)) (tj_b (vj_op ov_gt (vj_var 6) (vj_op ov_ix (vj_var 5) (vj_neg (vj_c (v := (.int 1)) fun _ => .int _))))) (fj (vj_op ov_add (vj_var 5) (vj_tup (aj_cons (fj (vj_mov 6)) aj_nil))))))))) (sj_asgN 2 (vj_lc (wj_any (fj (vj_mov 4))) (gj_n 5 (by decide)) (tj_not (tj_b (vj_call cv__law_starts (aj_cons (fj (vj_op ov_ix (vj_var 5) (vj_neg (vj_c (v := (.int 2)) fun _ => .int _)))) (aj_cons (fj (vj_op ov_ix (vj_var 5) (vj_neg (vj_c (v := (.int 1)) fun _ => .int _)))) aj_nil))))) (fj (vj_mov 5))))))) (sj_ret (fj (vj_mov 2)))))
abbrev n__law_codes : Nat := 7
theorem hw__law_codes : ∀ l Q0 E, Ends0 E Q0 → w__law_codes l Q0 → v__law_codes E (vstart 7 l) := by
  rintro l Q0 E hE ⟨s, row, rfl, hs, hs3, hr0, hrl, hr3, q⟩
  cases row with
  | nil => exact absurd rfl hr0
  | cons L0 row =>
    have hL0 := hr3 L0 (by simp)
    show v__law_codes _ [.va (.int s), .va (tN (L0 :: row)), .no, .no, .no, .no, .no]
    unfold v__law_codes tN rI
    simp_arith [w__law_words, List.map_cons]
    refine ⟨by omega, by omega, vlc_map (fun w => tW [w]) (ls (Nat.le_trans (words_le hs3 hL0) (by decide))) (fun w hw N hN => ?_) ?_⟩
    · simp_arith
      exact ⟨by decide, hN _ rfl⟩
    · unfold v__law_codes_1
      simp_arith
      rw [List.tail_cons, List.map_map]
      have e1 : ((allWords s L0).map fun w => tW [w]) = (codesL s [L0]).map tW := by
        show _ = ((allWords s L0).map fun w => [w]).map tW
        rw [List.map_map]; rfl
      rw [e1]
      refine vloop_list (f := PV.int ∘ fun L : Nat => (L : Int)) (fun done env => ∃ (s3 s4 s5 s6 : Sl), env = [.va (.int s), .va (tI ((L0 : Int) :: row.map fun L : Nat => (L : Int))), .ow (.lst ((codesL s (L0 :: done)).map tW)), s3, s4, s5, s6] ∧ (codesL s (L0 :: done)).length ≤ 27 ^ (done.length + 1)) ⟨_, _, _, _, rfl, ?_⟩ ?_ ?_
      · show ((allWords s L0).map fun w => [w]).length ≤ 27
        rw [List.length_map]
        exact words_le hs3 hL0
      · rintro env ⟨s3, s4, s5, s6, rfl, hl⟩
        unfold v__law_codes_2
        simp_arith
        exact hE.rt _ _ q
      · rintro done L rest env E' hrow hT ⟨s3, s4, s5, s6, rfl, hl⟩
        have hL := hr3 L (by rw [hrow]; simp)
        have hrl2 : done.length + 1 + 1 ≤ 4 := by
          rw [List.length_cons, hrow, List.length_append, List.length_cons] at hrl
          omega
        have hfl : (codesL s (L0 :: done)).length ≤ 19683 := Nat.le_trans hl (Nat.pow_le_pow_right (n := 27) (by decide) (show done.length + 1 ≤ 3 by omega))
        rw [codes_snoc] at hT
        have hcl : ∀ c ∈ codesL s (L0 :: done), c.length = done.length + 1 := fun c hc => by rw [codes_len hs (by simp) hc]; rfl
        generalize codesL s (L0 :: done) = found at hl hfl hT hcl
        unfold v__law_codes_2L v__law_codes_2L_1
        simp only [Function.comp_apply]
        simp_arith
        refine vloop_list (fun dn env => ∃ (s5 s6 : Sl), env = [.va (.int s), .va (tI ((L0 : Int) :: row.map fun L : Nat => (L : Int))), .va (.lst (found.map tW)), .va (.int L), .ow (.lst ((spurC s L dn).map tW)), s5, s6]) ⟨_, _, rfl⟩ ?_ ?_
        · rintro env ⟨s5, s6, rfl⟩
          unfold v__law_codes_2L_2
          have hsl := spurC_len hs3 hL found
          have hcs : ∀ c ∈ spurC s L found, ∃ q x y, c = q ++ [x] ++ [y] := fun c hc => by
            obtain ⟨c0, h0, h1⟩ := List.mem_flatMap.mp hc
            obtain ⟨w, _, rfl⟩ := List.mem_map.mp h1
            have hne : c0 ≠ [] := fun e => by have := hcl c0 h0; rw [e] at this; cases this
            exact ⟨c0.dropLast, c0.getLast hne, w, by rw [List.dropLast_concat_getLast hne]⟩
          have hstep := step_spur s L found
          generalize spurC s L found = spur at hsl hcs hstep
          simp_arith
          refine vlc_filter okEnd tW (ls (by omega)) (fun c hc N1 N2 hN1 hN2 => ?_) ?_
          · obtain ⟨q0, x, y, rfl⟩ := hcs c hc
            simp_arith [at_last2, at_last1, w__law_starts]
            have e2 : okEnd (q0 ++ [x] ++ [y]) = !isPre x y := by
              unfold okEnd
              rw [List.dropLast_concat, lastW_app, lastW_app]
            rw [e2] at hN1 hN2
            cases hpre : isPre x y with
            | true =>
              simp_arith
              exact hN2 (by rw [hpre]; rfl) _ rfl
            | false =>
              simp_arith
              exact hN1 (by rw [hpre]; rfl) _ rfl
          · rw [← hstep]
            simp_arith
            refine hT.nx _ ⟨_, _, _, _, rfl, ?_⟩
            rw [hstep, List.length_append]
            refine Nat.le_trans (List.length_filter_le _ _) (Nat.le_trans hsl ?_)
            rw [List.length_singleton, Nat.pow_succ]
            exact Nat.mul_le_mul_right _ hl
        · rintro dn c rest2 env E2 hfd hT2 ⟨s5, s6, rfl⟩
          have hc : c ∈ found := by rw [hfd]; simp
          have hcl1 := hcl c hc
          have hne : c ≠ [] := fun e => by rw [e] at hcl1; cases hcl1
          have hdl : dn.length ≤ 19683 := by rw [hfd, List.length_append] at hfl; omega
          have hsl := spurC_len hs3 hL dn
          have hwl := words_le hs3 hL
          unfold v__law_codes_2L_2L
          simp_arith [w__law_words]
          refine ⟨by omega, by omega, vlc_filter (fun w => decide (lastW c < w)) (fun w => tW (c ++ [w])) (ls (by omega)) (fun w hw N1 N2 hN1 hN2 => ?_) ?_⟩
          · simp_arith [at_lastW hne]
            by_cases hlt : lastW c < w
            · rw [decide_eq_true hlt, if_pos rfl]
              refine ⟨ls (by omega), ls (by omega), ?_⟩
              exact hN1 (decide_eq_true hlt) _ rfl
            · rw [decide_eq_false hlt, if_neg (by decide)]
              exact hN2 (decide_eq_false hlt) _ rfl
          · have hfl2 := List.length_filter_le (fun w => decide (lastW c < w)) (allWords s L)
            simp_arith
            refine ⟨by rw [List.length_map, List.length_map]; unfold sizeLine; omega, ?_⟩
            have e3 : (spurC s L dn).map tW ++ ((allWords s L).filter fun w => decide (lastW c < w)).map (fun w => tW (c ++ [w])) = (spurC s L (dn ++ [c])).map tW := by
              unfold spurC
              rw [List.flatMap_append, List.map_append, List.flatMap_singleton, List.map_map]
              rfl
            rw [e3]
            exact hT2.nx _ ⟨_, _, rfl⟩
theorem hp__law_codes : ∀ ds m Q, sp__law_codes ds m Q → b__law_codes { nx := fun _ m' => Q .non m', rt := Q } (dstart 7 ds) m := body_f 7 sj__law_codes hw__law_codes
/-! ### lists of codes -/
theorem noDs_tWs : ∀ cs : List (List (List Int)), noDs (cs.map tW) = true
  | [] => by rw [List.map_nil, noDs]
  | c :: cs => by rw [List.map_cons, noDs, noDs_tWs cs, tW, noD, noDs_tIs]; rfl
theorem lay_codes : ∀ cs : List (List (List Int)), PyData.canLayAll0 (ppvs (cs.map tW)) = true ∧ PyData.depthAll (ppvs (cs.map tW)) ≤ 2
  | [] => by rw [List.map_nil, ppvs, PyData.canLayAll0, PyData.depthAll]; exact ⟨rfl, by decide⟩
  | c :: cs => by
    obtain ⟨h1, h2⟩ := lay_codes cs
    have h3 := depth_words c
    rw [List.map_cons, ppvs, PyData.canLayAll0, PyData.depthAll, h1, Bool.and_true, tW, ppv, ppvs_tIs, PyData.canLay0, PyData.depth]
    exact ⟨lay_words c, Nat.max_le.mpr ⟨by omega, h2⟩⟩
theorem shaped_lcodes (cs : List (List (List Int))) : SeqAt.shaped (.list (ppvs (cs.map tW))) = true := shaped_of (by rw [PyData.canLay0]; exact (lay_codes cs).1) (by rw [PyData.depth]; have := (lay_codes cs).2; omega)
theorem xEq_codes0 (cs : List (List (List Int))) (Q : Rs → Prop) (q : Q (.va (.bl (decide (cs = []))))) : xEq (.lst (cs.map tW)) (.lst []) Q := by
  refine x_eq_lnil (noDs_tWs cs) (shaped_lcodes cs) ?_
  cases cs <;> exact q
theorem cut_sub {α : Type} (l : List α) (lo hi : Option Int) : (cutD l lo hi).Sublist l := (List.take_sublist ..).trans (List.drop_sublist ..)
/-! ### lists drawn number by number -/
theorem vlc_draw {g : WG} {te : WF} {vs : List Nat} {Q : List PV → Ev → Prop} {u : Fix Q} {env : Ev} {l : List PV} (j : Nat) (p : Addr × Addr) (n : Nat) (P : PV → Prop) (hz : l.length ≤ sizeLine) (he : (wipeP env vs).set j (.dk p n) = wipeP env vs)
    (hel : ∀ x ∈ l, ∀ k (N : PV → Ev → Prop), k ≤ n + l.length → (∀ v env4, P v → wipeP env4 vs = (wipeP env vs).set j (.dk p (k + 1)) → N v env4) → g x ((wipeP env vs).set j (.dk p k)) fun env2 => te env2 N)
    (hq : ∀ acc, acc.length = l.length → (∀ v ∈ acc, P v) → Q acc ((wipeP env vs).set j (.dk p (n + l.length)))) : vLcL g vYes te vs Q u l [] env := by
  refine vlc_by (fun r acc e => ∃ done, l = done ++ r ∧ acc.length = done.length ∧ (∀ v ∈ acc, P v) ∧ wipeP e vs = (wipeP env vs).set j (.dk p (n + done.length))) (fun acc e ⟨done, hl, h1, h2, h3⟩ => ?_) (fun x r acc e N1 N2 ⟨done, hl, h1, h2, h3⟩ g1 g2 => ?_) _ _ _ ⟨[], rfl, rfl, (by intro v hv; cases hv), he.symm⟩
  · rw [List.append_nil] at hl
    subst hl
    rw [h3]
    exact hq acc h1 h2
  · rw [h3]
    have hll : done.length + 1 ≤ l.length := by rw [hl, List.length_append, List.length_cons]; omega
    have := hel x (by rw [hl]; simp) (n + done.length) N1 (by omega) fun v env4 hv h4 => g1 v env4 ⟨done ++ [x], by rw [hl, List.append_assoc]; rfl, by simp [h1], fun y hy => by
      rcases List.mem_append.mp hy with z | z
      · exact h2 y z
      · rw [List.mem_singleton.mp z]; exact hv, by rw [wipe_wipeP, h4]; simp [Nat.add_assoc]⟩ (by omega)
    simp only [vYes]
    exact this
/-! ### rows drawn -/
def w__law_draw_row : WSpD := fun n l Q => ∃ (s : Int) (many most : Nat), l = [.int s, .int many, .int most] ∧ n ≤ 2 ^ 38 ∧ 2 ≤ s ∧ s ≤ 20 ∧ 1 ≤ many ∧ many ≤ 100 ∧ most ≤ 100 ∧
  ∀ row, row ≠ [] → row.length ≤ many → (∀ L ∈ row, L ≤ most) → ∀ k, k ≤ n + 2000000 → Q (tN row) k
/-- slots: 0 deck, 1 signs, 2 many, 3 most, 4 row, 5 spot, 6 key -/
abbrev sp__law_draw_row : DSp := lVD w__law_draw_row
theorem cv__law_draw_row : CallVD sp__law_draw_row w__law_draw_row := cv_lVD _
def b__law_draw_row : DS := (dSeq (dAsg (dB1 bList (dCons (dCall sp__law_lengths (dCons (dCall sp__law_code (dCons (dVar 0) (dCons (dVar 1) (dCons (dVar 2) (dCons (dVar 3) dNil))))) dNil)) dNil)) (gN 4))
  (dSeq (dIf (dB (dOp aEq (dCall sp__law_take (dCons (dVar 0) (dCons (dC (.int 3)) dNil))) (dC (.int 0)))) (dSeq (dAsg (dCall sp__law_take (dCons (dVar 0) (dCons (dB1 bLen (dCons (dVar 4) dNil)) dNil))) (gN 5))
  (dAsg (dCall sp__law_take (dCons (dVar 0) (dCons (dOp aAdd (dVar 3) (dC (.int 1))) dNil))) (gS (dVar 4) (dVar 5) aSet))) dSkip)
  (dSeq (dIf (dB (dOp aEq (dCall sp__law_take (dCons (dVar 0) (dCons (dC (.int 4)) dNil))) (dC (.int 0)))) (dAsg (dLc (iR1 (dCons (dVar 2) dNil)) (gN 6) dYes (dCall sp__law_take (dCons (dVar 0) (dCons (dOp aAdd (dVar 3) (dC (.int 1))) dNil))) [6]) (gN 4)) dSkip)
  (dRet (dB1 bTuple (dCons (dVar 4) dNil))))))
def v__law_draw_row_2A_1 : WS := (vSetI 4 (vVar 5) (vF (vCallD w__law_take 0 (vCons (vF (vOp xAdd (vVar 3) (vC (.int 1)))) vNil))))
def v__law_draw_row_2A : WS := vSeq (vAsgN 5 (vCallD w__law_take 0 (vCons (vF (vB1 xLen (vVar 4))) vNil))) v__law_draw_row_2A_1
def v__law_draw_row_3 : WS := (vRet (vF (vB1 xTuple (vVar 4))))
def v__law_draw_row_2 : WS := vSeq (vIf (vB (vOp xEq (vCallD w__law_take 0 (vCons (vF (vC (.int 4))) vNil)) (vC (.int 0)))) (vAsgN 4 (vLc (vR1 (vCons (vF (vMov 2)) vNil)) (vG 6) vYes (vF (vCallD w__law_take 0 (vCons (vF (vOp xAdd (vVar 3) (vC (.int 1)))) vNil))) [6])) vSkip) v__law_draw_row_3
def v__law_draw_row_1 : WS := vSeq (vIf (vB (vOp xEq (vCallD w__law_take 0 (vCons (vF (vC (.int 3))) vNil)) (vC (.int 0)))) v__law_draw_row_2A vSkip) v__law_draw_row_2
def v__law_draw_row : WS := vSeq (vAsgN 4 (vB1 xList (vCall w__law_lengths (vCons (vF (vCallD w__law_code 0 (vCons (vF (vMov 1)) (vCons (vF (vMov 2)) (vCons (vF (vMov 3)) vNil))))) vNil)))) v__law_draw_row_1
theorem sj__law_draw_row : SJ v__law_draw_row b__law_draw_row := (sj_seq (sj_asgN 4 (vj_b1 bv_list (vj_call cv__law_lengths (aj_cons (fj (vj_callD (i := 0) cv__law_code (aj_cons (fj (vj_mov 1)) (aj_cons (fj (vj_mov 2)) (aj_cons (fj (vj_mov 3)) aj_nil))))) aj_nil)))) (sj_seq (sj_if (tj_b (vj_op ov_eq (vj_callD (i := 0) cv__law_take (aj_cons (fj (vj_c (v := (.int 3)) fun _ => .int _)) aj_nil)) (vj_c (v := (.int 0)) fun _ => .int _))) (sj_seq (sj_asgN 5 (vj_callD (i := 0) cv__law_take (aj_cons (fj (vj_b1 bv_len (vj_var 4))) aj_nil))) (sj_setI (i := 4) (vj_var 5) (fj (vj_callD (i := 0) cv__law_take (aj_cons (fj (vj_op ov_add (vj_var 3) (vj_c (v := (.int 1)) fun _ => .int _))) aj_nil))))) sj_skip) (sj_seq (sj_if (tj_b (vj_op ov_eq (vj_callD (i := 0) cv__law_take (aj_cons (fj (vj_c (v := (.int 4)) fun _ => .int _)) aj_nil)) (vj_c (v := (.int 0)) fun _ => .int _))) (sj_asgN 4 (vj_lc (wj_r1 (aj_cons (fj (vj_mov 2)) aj_nil)) (gj_n 6 (by decide)) tj_yes (fj (vj_callD (i := 0) cv__law_take (aj_cons (fj (vj_op ov_add (vj_var 3) (vj_c (v := (.int 1)) fun _ => .int _))) aj_nil))))) sj_skip) (sj_ret (fj (vj_b1 bv_tuple (vj_var 4)))))))
abbrev n__law_draw_row : Nat := 7
theorem hw__law_draw_row : ∀ p k l Q0 E, EndsD E p Q0 → w__law_draw_row k l Q0 → v__law_draw_row E (vstartD 7 p k l) := by
  rintro p n l Q0 E hE ⟨s, many, most, rfl, hn, h2, h3, h4, h5, h6, q⟩
  show v__law_draw_row _ [.dk p n, .va (.int s), .va (.int many), .va (.int most), .no, .no, .no]
  unfold v__law_draw_row
  unfold v__law_draw_row_1
  simp_arith [w__law_code, w__law_lengths, w__law_take]
  refine ⟨by omega, h2, h3, h4, h5, h6, fun ws hc hl _ => ⟨by omega, ?_⟩⟩
  have fin : ∀ (row : List Nat) (k : Nat) (s5 s6 : Sl), row ≠ [] → row.length ≤ many → (∀ L ∈ row, L ≤ most) → k ≤ n + 1000005 → v__law_draw_row_2 E [.dk p k, .va (.int s), .va (.int many), .va (.int most), .ow (.lst ((rI row).map .int)), s5, s6] := by
    intro row k s5 s6 hr hrl hrm hk
    unfold v__law_draw_row_2
    simp_arith [w__law_take]
    refine ⟨by omega, by decide, by decide, fun a a0 a1 => ?_⟩
    have out : ∀ (v : Sl) (row : List Nat) (k : Nat) (s6 : Sl), (v = .ow (.lst ((rI row).map .int)) ∨ v = .va (.lst ((rI row).map .int))) → row ≠ [] → row.length ≤ many → (∀ L ∈ row, L ≤ most) → k ≤ n + 1000206 → v__law_draw_row_3 E [.dk p k, .va (.int s), .va (.int many), .va (.int most), v, s5, s6] := by
      rintro v row k s6 (rfl | rfl) hr hrl hrm hk
      all_goals
        unfold v__law_draw_row_3
        simp_arith
        exact hE.rt _ _ _ rfl (q row hr hrl hrm k (by omega))
    by_cases e : a = 0
    · rw [decide_eq_true e, if_pos rfl]
      refine ⟨by omega, by omega, ?_⟩
      refine vlc_by (fun r acc env => ∃ (row2 : List Nat) (k2 : Nat), r.length + row2.length = many ∧ acc = (rI row2).map .int ∧ (∀ L ∈ row2, L ≤ most) ∧ k2 ≤ n + 1000006 + row2.length ∧ wipeP env [6] = [.dk p k2, .va (.int s), .va (.int many), .va (.int most), .ow (.lst ((rI row).map .int)), s5, .no]) ?_ ?_ _ _ _ ⟨[], k + 1, by simp [rangeP], rfl, (by intro L hL; cases hL), (by rw [List.length_nil]; omega), rfl⟩
      · rintro acc env ⟨row2, k2, h1, rfl, h7, h8, he⟩
        rw [he]
        have h9 : row2.length = many := by simpa using h1
        exact out _ row2 k2 _ (.inl rfl) (fun e => by rw [e] at h9; simp at h9; omega) (by omega) h7 (by omega)
      · rintro x r acc env N1 N2 ⟨row2, k2, h1, rfl, h7, h8, he⟩ g1 g2
        rw [he]
        rw [List.length_cons] at h1
        simp_arith [w__law_take]
        refine ⟨by omega, by omega, by omega, fun b b0 b1 => ?_⟩
        refine g1 _ _ ⟨row2 ++ [b.toNat], k2 + 1, by rw [List.length_append, List.length_singleton]; omega, ?_, fun L hL => ?_, by rw [List.length_append, List.length_singleton]; omega, rfl⟩ (by rw [List.length_map, rI_len]; unfold sizeLine; omega)
        · unfold rI
          rw [List.map_append, List.map_append]
          show _ ++ [PV.int b] = _ ++ [PV.int (b.toNat : Int)]
          rw [Int.toNat_of_nonneg b0]
        · rcases List.mem_append.mp hL with z | z
          · exact h7 L z
          · rw [List.mem_singleton.mp z]; omega
    · rw [decide_eq_false e, if_neg (by decide)]
      exact out _ row (k + 1) _ (.inl rfl) hr hrl hrm (by omega)
  have hrm : ∀ L ∈ ws.map List.length, L ≤ most := fun L hL => by
    obtain ⟨w, hw, rfl⟩ := List.mem_map.mp hL
    exact hc.dp w hw
  have hrn : ws.map List.length ≠ [] := fun e => hc.ne (by simpa using e)
  have hrl : (ws.map List.length).length ≤ many := by rw [List.length_map]; exact hl
  generalize ws.map List.length = row at hrm hrn hrl
  unfold tN
  simp_arith
  refine ⟨by omega, by decide, by decide, fun a a0 a1 => ?_⟩
  by_cases e : a = 0
  · rw [decide_eq_true e, if_pos rfl]
    unfold v__law_draw_row_2A v__law_draw_row_2A_1
    have hpos := List.length_pos_iff.mpr hrn
    simp_arith [w__law_take]
    rw [List.length_map, rI_len]
    refine ⟨by omega, by omega, by omega, fun b b0 b1 => ⟨by omega, by omega, by omega, fun c c0 c1 => ⟨b.toNat, ?_, ?_⟩⟩⟩
    · unfold ixN
      rw [if_pos b0, if_pos (by omega)]
    · have e2 : ((rI row).map PV.int).set b.toNat (.int c) = (rI (row.set b.toNat c.toNat)).map .int := by
        unfold rI
        rw [List.map_set, List.map_set]
        show _ = List.set _ _ (PV.int (c.toNat : Int))
        rw [Int.toNat_of_nonneg c0]
      rw [e2]
      refine fin _ _ _ _ (fun e => ?_) (by rw [List.length_set]; exact hrl) (fun L hL => ?_) (by omega)
      · have := congrArg List.length e
        rw [List.length_set, List.length_nil] at this
        omega
      · rcases List.mem_or_eq_of_mem_set hL with z | z
        · exact hrm L z
        · rw [z]; omega
  · rw [decide_eq_false e, if_neg (by decide)]
    exact fin row _ _ _ hrn hrl hrm (by omega)
theorem hp__law_draw_row : ∀ ds m Q, sp__law_draw_row ds m Q → b__law_draw_row { nx := fun _ m' => Q .non m', rt := Q } (dstart 7 ds) m := body_d 7 (by decide) sj__law_draw_row hw__law_draw_row
end DL
/-! sorted(set(x)), x a tuple of ints. -/
namespace L2
open PySem PySem.Spec PyProof.Rows
section
variable {X : Cx}
theorem dlIntsAre : ∀ {ns : List Int} {us : List Value}, Vals (ns.map V.int) us → IntsAre us ns
  | [], _, .nil => .nil
  | n :: ns, _, .cons r t => by
    obtain ⟨k, rfl⟩ := r
    exact .cons n k (dlIntsAre t)
def tSortedSetI (K : PySem.W.Frag) (ta : TE) : TE := fun σ H Q => ta σ H fun x H1 => ∃ (l : Addr) (ns : List Int), x = .ref l ∧ SqT K H1 l (ns.map V.int) ∧ ns.length ≤ 4000 ∧
  ∀ (ns' : List Int) (p : Addr), (∀ i, i ∈ ns' ↔ i ∈ ns) → ns'.Pairwise (· < ·) → H1 p = none → Q (.ref p) (upd H1 p (.lst (ns'.map V.int)))
theorem pe_sortedSetI {a : Expr} {ta : TE} {p p2 q pos : Pos} (hc : X.calm = true) (hg : Gl X "sorted") (hm : X.mg "sorted" = none) (hg2 : Gl X "set") (hm2 : X.mg "set" = none) (ha : PE X a ta)
    (na : starEach [a] X.env = (false, eval a X.env) :: starEach [] X.env := by rfl) : PE X (.Call (.Name "sorted" p) [.Call (.Name "set" p2) [a] [] q] [] pos) (tSortedSetI X.K ta) := by
  refine ⟨fun pins s σ H Q I h => ?_⟩
  refine Call_ (ld_blt I hg hm boot_sorted ?_)
  refine PyProof.Rows.callWith_builtin1 (PyProof.Rows.args_cons ?_ rfl) rfl rfl
  refine Call_ (ld_blt I hg2 hm2 boot_set ?_)
  refine PyProof.Rows.callWith_type1 (PyProof.Rows.args_cons (thn (ha.run pins s σ H _ I h) fun v s1 ⟨x, H1, I1, r1, q1⟩ => PyProof.Rows.args_nil ?_) na) na rfl
  obtain ⟨l, ns, rfl, hq, hl, q1⟩ := q1
  cases r1
  obtain ⟨its, r, pt, hz⟩ := I1.tuple hq
  refine call_set_tupI ns (I1.ok.hd hc) pt (by simpa using dlIntsAre r) (by unfold scanBound; omega) fun h' tk c R hcn k => ?_
  refine PyProof.Rows.args_nil ?_
  obtain ⟨o, es, ep, t, ho, hex, hd, hgood, hnd, hmem, hb, hf, hn, hris, hled⟩ := R
  refine Calls.call_function_entry kind_sorted plain_sorted entry_sorted (args_sorted1 _) ?_
  unfold Builtin.«sorted»
  refine wpAny_bind (m := checkCount "sorted" 1 1 _) (wpAny_pure ?_)
  refine wpAny_bind (collect_set (I1.ok.hd hc) ⟨o, ho, hex.1, hd⟩ hf hb hris hled fun s2 vs k1 hz2 g1 o1 pm => ?_)
  have hvl : vs.length ≤ 4000 := by
    rw [pm.length_eq, List.length_map, Array.length_toList]
    omega
  have hvI : ∀ v ∈ vs, ∃ i t, v = Value.int i t := fun v hv => by
    obtain ⟨e, he, rfl⟩ := List.mem_map.mp (pm.mem_iff.mp hv)
    obtain ⟨kk, tk, e1, _⟩ := hgood e he
    exact ⟨kk, tk, e1⟩
  have hI := SrtO.ints_iv hvI
  have hvz : vs.length ≤ sizeLine := by rw [sizeLine_eq]; omega
  refine wpAny_bind (wpAny_newList ?_ hvz)
  have hoL : (s2.heap.push (seqObj "list" vs.toArray 0)).get? s2.heap.objs.size = some (seqObj "list" vs.toArray 0) := Heap.get?_push_size _ rfl
  refine wpAny_bind (wpAny_holding (wpAny_call_entry slot_list_sort ⟨_, hoL, rfl⟩ entry_list_sort (SrtO.list_sort_ord SrtO.swo_int hoL hvz (fun h2 => SrtO.ints_sortable hI h2) fun out h1 h2 => ⟨_, rfl, ?_⟩) (args_list_sort _)))
  obtain ⟨m1, m2, m3⟩ := SrtO.ints_out hI h1 h2
  obtain ⟨c2, hc2⟩ := sortedHeap_at (vs := vs) (out := out.toArray) hoL
  refine wpAny_pure ⟨_, rfl, ?_⟩
  have hkey : ∀ e : Int × Value, keyOf e = SrtO.iv e.2 := fun e => by
    unfold keyOf SrtO.iv
    cases e.2 <;> rfl
  have hpm : (out.map SrtO.iv).Perm (es.toList.map keyOf) := by
    refine m2.trans ?_
    have := pm.map SrtO.iv
    rw [List.map_map] at this
    rw [show es.toList.map keyOf = es.toList.map (SrtO.iv ∘ fun x => x.snd) from List.map_congr_left fun e _ => hkey e]
    exact this
  have hnd2 : (out.map SrtO.iv).Nodup := hpm.nodup_iff.mpr hnd
  have hlt : (out.map SrtO.iv).Pairwise (· < ·) := List.Pairwise.imp (fun {a b} h => by have h1 := h.1; have h2 := h.2; omega) (List.Pairwise.and m3 hnd2)
  have hm2 : ∀ i, i ∈ out.map SrtO.iv ↔ i ∈ ns := fun i => by
    rw [hpm.mem_iff]
    exact (hmem i).symm.trans (by simp)
  have kk : ∀ b u, s1.heap.get? b = some u → (sortedHeap (s2.heap.push (seqObj "list" vs.toArray 0)) s2.heap.objs.size vs out.toArray).get? b = some u := fun b u e => by
    have q := k1 b u (k b u e)
    have hlt := Heap.lt_size q
    rw [sortedHeap_old (Nat.ne_of_lt hlt) (by rw [size_push']; exact Nat.lt_succ_of_lt hlt)]
    exact Heap.get?_push_of_some _ q
  have hp : s1.heap.objs.size ≤ s2.heap.objs.size := Nat.le_trans (Nat.le_of_lt (Heap.lt_size ho)) hz2
  have hfr : H1 s2.heap.objs.size = none := I1.hok.fresh hp
  have hlen : ((out.map SrtO.iv).map V.int).length ≤ sizeLine := by
    rw [List.length_map, hpm.length_eq, List.length_map, Array.length_toList, sizeLine_eq]
    omega
  have J : Inv X pins σ (upd H1 s2.heap.objs.size (.lst ((out.map SrtO.iv).map V.int))) { s1 with heap := sortedHeap (s2.heap.push (seqObj "list" vs.toArray 0)) s2.heap.objs.size vs out.toArray, gens := s2.gens, drawn := s2.drawn, toks := s2.toks } :=
    I1.call (ch := []) (Un.laid kk hp hfr) (I1.hok.laid kk hp ⟨hlen, out, c2, vals_of_ints m1, hc2⟩) (by rw [g1]; exact I1.bare) (fun _ z => nomatch z)
  have e : s2 = { s1 with heap := s2.heap, gens := s2.gens, drawn := s2.drawn, toks := s2.toks } := by
    cases s2
    cases s1
    cases o1
    rfl
  refine ⟨.ref s2.heap.objs.size, _, ?_, rfl, q1 _ s2.heap.objs.size hm2 hlt hfr⟩
  have o2 : s2.os = s1.os := o1
  show Inv X pins σ _ { heap := _, gens := s2.gens, drawn := s2.drawn, toks := s2.toks, os := s2.os }
  rw [o2]
  exact J
end
end L2
/-! sorted(set(x)) over plain data. -/
namespace DL
open PySem PySem.Spec PyProof.Rows L2
open PySem.W (Frag)
section
variable {X : Cx}
def dSortedSet (f : DE) : DE := fun ds m Q => f ds m fun x m1 => ∃ ns : List Int, x = .tup (ns.map .int) ∧ ns.length ≤ 4000 ∧ ∀ ns' : List Int, (∀ i, i ∈ ns' ↔ i ∈ ns) → ns'.Pairwise (· < ·) → aNew (.lst (ns'.map .int)) m1 Q
theorem je_sortedSet {a : Expr} {f : DE} {p p2 q pos : Pos} (hc : X.calm = true) (hm : X.mg "sorted" = none) (hm2 : X.mg "set" = none) (ha : JE X a f) (hg : Gl X "sorted" := by rfl) (hg2 : Gl X "set" := by rfl)
    (na : starEach [a] X.env = (false, eval a X.env) :: starEach [] X.env := by rfl) : JE X (.Call (.Name "sorted" p) [.Call (.Name "set" p2) [a] [] q] [] pos) (dSortedSet f) := by
  refine ⟨(pe_sortedSetI hc hg hm hg2 hm2 ha.pe na).imp fun σ H Q' h => ?_⟩
  obtain ⟨ds, m, Q, rs, rm, q, k⟩ := h
  refine ⟨ds, m, _, rs, rm, q, fun d m1 v H1 e1 rm1 rv q1 => ?_⟩
  obtain ⟨ns, rfl, hl, q1⟩ := q1
  cases rv with
  | tup s r =>
    have e := rds_ints r
    subst e
    exact ⟨_, ns, rfl, sqt s, hl, fun ns' p h1 h2 hp => k _ _ _ _ (e1.trans (Ext.fresh hp)) (rm1.upd (o := .lst _) (Ext.fresh hp) ⟨_, upd_same, rds_of_ints ns'⟩) (.ref p) (q1 ns' h1 h2 p (rm1.none hp))⟩
/-- tuple(range(i, j)), list(range(i, j)) -/
def dTupleR2 (f g : DE) : DE := fun ds m Q => f ds m fun x m1 => g ds m1 fun y m2 => ∃ i j, x = .int i ∧ y = .int j ∧ RgOk i j ∧ Q (.tup (rangeD i (j - i).toNat)) m2
def dListR2 (f g : DE) : DE := fun ds m Q => f ds m fun x m1 => g ds m1 fun y m2 => ∃ i j, x = .int i ∧ y = .int j ∧ RgOk i j ∧ aNew (.lst (rangeD i (j - i).toNat)) m2 Q
theorem je_tupleR2 {a b : Expr} {f g : DE} {p p2 pos pos2 : Pos} (hm : X.mg "tuple" = none) (hm2 : X.mg "range" = none) (ha : JE X a f) (hb : JE X b g) (hc : X.calm = true := by rfl) (hg : Gl X "tuple" := by rfl) (hg2 : Gl X "range" := by rfl)
    (na2 : starEach [a, b] X.env = (false, eval a X.env) :: starEach [b] X.env := by rfl) (nb2 : starEach [b] X.env = (false, eval b X.env) :: starEach [] X.env := by rfl) (hp2 : (backTo pos2 (starEach [b] X.env)).any (·.1) = false := by rfl)
    (na : starEach [.Call (.Name "range" p2) [a, b] [] pos2] X.env = (false, eval (.Call (.Name "range" p2) [a, b] [] pos2) X.env) :: starEach [] X.env := by rfl) : JE X (.Call (.Name "tuple" p) [.Call (.Name "range" p2) [a, b] [] pos2] [] pos) (dTupleR2 f g) := by
  refine ⟨(pe_tupRg hc hg hm (prg_2 hg2 hm2 ha.pe hb.pe na2 nb2 hp2) na).imp fun σ H Q' h => ?_⟩
  obtain ⟨ds, m, Q, rs, rm, q, k⟩ := h
  refine ⟨ds, m, _, rs, rm, q, fun x m1 v H1 e1 rm1 rv q1 => ?_⟩
  refine ⟨ds, m1, _, rs.ext e1, rm1, q1, fun y m2 yv H2 e2 rm2 ry q2 => ?_⟩
  obtain ⟨i, j, rfl, rfl, h1, q2⟩ := q2
  cases rv
  cases ry
  refine ⟨i, j, rfl, rfl, h1, fun p hp => ?_⟩
  have r : RDs X.K H2 (rangeD i (j - i).toNat) (rgV i j) := rds_range i _
  exact k _ _ _ _ ((e1.trans e2).trans (Ext.fresh hp)) (rm2.more hp) (.tup (.inl upd_same) (r.ext (Ext.fresh hp))) q2
theorem je_listR2 {a b : Expr} {f g : DE} {p p2 pos pos2 : Pos} (hm : X.mg "list" = none) (hm2 : X.mg "range" = none) (ha : JE X a f) (hb : JE X b g) (hc : X.calm = true := by rfl) (hg : Gl X "list" := by rfl) (hg2 : Gl X "range" := by rfl)
    (na2 : starEach [a, b] X.env = (false, eval a X.env) :: starEach [b] X.env := by rfl) (nb2 : starEach [b] X.env = (false, eval b X.env) :: starEach [] X.env := by rfl) (hp2 : (backTo pos2 (starEach [b] X.env)).any (·.1) = false := by rfl)
    (na : starEach [.Call (.Name "range" p2) [a, b] [] pos2] X.env = (false, eval (.Call (.Name "range" p2) [a, b] [] pos2) X.env) :: starEach [] X.env := by rfl) : JE X (.Call (.Name "list" p) [.Call (.Name "range" p2) [a, b] [] pos2] [] pos) (dListR2 f g) := by
  refine ⟨(pe_listRg hc hg hm (prg_2 hg2 hm2 ha.pe hb.pe na2 nb2 hp2) na).imp fun σ H Q' h => ?_⟩
  obtain ⟨ds, m, Q, rs, rm, q, k⟩ := h
  refine ⟨ds, m, _, rs, rm, q, fun x m1 v H1 e1 rm1 rv q1 => ?_⟩
  refine ⟨ds, m1, _, rs.ext e1, rm1, q1, fun y m2 yv H2 e2 rm2 ry q2 => ?_⟩
  obtain ⟨i, j, rfl, rfl, h1, q2⟩ := q2
  cases rv
  cases ry
  refine ⟨i, j, rfl, rfl, h1, fun p hp => k _ _ _ _ ((e1.trans e2).trans (Ext.fresh hp)) (rm2.upd (o := .lst _) (Ext.fresh hp) ⟨_, upd_same, ?_⟩) (.ref p) (q2 p (rm2.none hp))⟩
  exact rds_range i _
end
end DL
/-! sorted(set(x)) over trees. -/
namespace DL
open PySem PySem.Spec PyProof.Rows L2
def vSortedSet (f : WE) : WE := fun env Q => f env fun x env1 => ∃ ns : List Int, x.v = tI ns ∧ ns.length ≤ 4000 ∧ ∀ ns' : List Int, (∀ i, i ∈ ns' ↔ i ∈ ns) → ns'.Pairwise (· < ·) → Q (.ow (.lst (ns'.map .int))) env1
theorem vj_sortedSet {f : WE} {t : DE} (h : VJ f t) : VJ (vSortedSet f) (dSortedSet t) := by
  intro c env ds Q R W q k
  refine h c env ds _ _ W q fun x env1 c1 dx W1 s1 rx q1 => ?_
  have rx := rx.read W1
  generalize x.v = v at q1 rx
  obtain ⟨ns, rfl, hl, q1⟩ := q1
  cases rx with
  | tup r =>
    rw [rvs_ints r]
    refine ⟨ns, rfl, hl, fun ns' h1 h2 p hp => ?_⟩
    obtain ⟨W4, s4, rr⟩ := new_rr (v := .lst (ns'.map .int)) (o := .lst (ns'.map .int)) W1 s1 (rvs_of_ints ns') hp
    exact k _ env1 _ _ W4 s4 rr (q1 ns' h1 h2)
theorem rvs_rng {f : MH} (lo : Int) : ∀ l : List Nat, RVs f (l.map fun i => .int (lo + (i : Nat))) (l.map fun i => .int (lo + (i : Nat)))
  | [] => .nil
  | n :: ns => .cons (.int _) (rvs_rng lo ns)
def vTupleR2 (f g : WE) : WE := fun env Q => f env fun x env1 => g env1 fun y env2 => ∃ i j : Int, x.v = .int i ∧ y.v = .int j ∧ (-(2 ^ 62) ≤ i ∧ i < 2 ^ 62 ∧ -(2 ^ 62) ≤ j ∧ j < 2 ^ 62 ∧ (j - i).toNat ≤ 2 ^ 24) ∧ Q (.va (.tup (rangeP i (j - i).toNat))) env2
def vListR2 (f g : WE) : WE := fun env Q => f env fun x env1 => g env1 fun y env2 => ∃ i j : Int, x.v = .int i ∧ y.v = .int j ∧ (-(2 ^ 62) ≤ i ∧ i < 2 ^ 62 ∧ -(2 ^ 62) ≤ j ∧ j < 2 ^ 62 ∧ (j - i).toNat ≤ 2 ^ 24) ∧ Q (.ow (.lst (rangeP i (j - i).toNat))) env2
theorem vj_tupleR2 {f g : WE} {tf tg : DE} (ha : VJ f tf) (hb : VJ g tg) : VJ (vTupleR2 f g) (dTupleR2 tf tg) := by
  intro c env ds Q R W q k
  refine ha c env ds _ _ W q fun x env1 c1 dx W1 s1 rx q1 => hb c1 env1 ds _ _ W1 q1 fun y env2 c2 dy W2 s2 ry q2 => ?_
  obtain ⟨i, j, hx, hy, h, q2⟩ := q2
  have rx := rx.read W1
  have ry := ry.read W2
  rw [hx] at rx
  rw [hy] at ry
  cases rx
  cases ry
  exact ⟨i, j, rfl, rfl, h, k (.va _) env2 c2 _ W2 (s1.trans s2) (show RV c2.f _ _ from .tup (rvs_rng i _)) q2⟩
theorem vj_listR2 {f g : WE} {tf tg : DE} (ha : VJ f tf) (hb : VJ g tg) : VJ (vListR2 f g) (dListR2 tf tg) := by
  intro c env ds Q R W q k
  refine ha c env ds _ _ W q fun x env1 c1 dx W1 s1 rx q1 => hb c1 env1 ds _ _ W1 q1 fun y env2 c2 dy W2 s2 ry q2 => ?_
  obtain ⟨i, j, hx, hy, h, q2⟩ := q2
  have rx := rx.read W1
  have ry := ry.read W2
  rw [hx] at rx
  rw [hy] at ry
  cases rx
  cases ry
  refine ⟨i, j, rfl, rfl, h, fun p hp => ?_⟩
  obtain ⟨W4, s4, rr⟩ := new_rr (v := .lst (rangeP i (j - i).toNat)) (o := .lst (rangeD i (j - i).toNat)) W2 (s1.trans s2) (rvs_rng i _) hp
  exact k _ env2 _ _ W4 s4 rr q2
end DL
/-! sorted(set(x)), x a list or a tuple of words (fewer than 64). -/
namespace DL
open PySem PySem.Spec PyProof.Rows L2
section
variable {P : Program} {w : World} {A : Around} {E : Value → Shared → Prop} {s : Shared}
abbrev emptySet (w : World) : Obj := { cls := .type "set", dict := none, data := .set #[] 0 (.fresh 0 0 (!w.params.followText "set-order")) }
set_option maxHeartbeats 6400000 in
/-- set(t), t a tuple of words -/
theorem set_of_tuple {l : Addr} {items : Array Value} (ks : List (Addr × List Int)) {Q : Value → Shared → Prop} (calm : A.handled = none) (arg : s.heap.IsTuple l items) (own : items.toList = ks.map fun p => Value.ref p.1)
    (words : ∀ p ∈ ks, L2.IsT P w s.heap p.2 p.1) (few : ks.length < 64) (units : A.units + 3 < cLine)
    (fin : ∀ (h' : Heap) (tk : Nat) L es ep t, SetTR P w h' s.heap.objs.size L es ep t → Got ks ks.length L → (∀ b o, s.heap.get? b = some o → h'.get? b = some o) → Q (.ref s.heap.objs.size) { s with heap := h', toks := tk }) :
    wpAny (model P w) A (call (.type "set") [.ref l]) Q E s := by
  have many : items.size = ks.length := by
    have := congrArg List.length own
    rwa [Array.length_toList, List.length_map] at this
  obtain ⟨c, tl, order⟩ := F.called_set.mro
  have made := F.called_set.made
  have subs := F.called_set.sub
  refine wpAny_call (codeAny_of_tree ?_)
  show wpAny _ _ (callAny (.type "set") _) _ _ _
  refine wpAny_pure ⟨Code.quiet_builtin _ (by decide +kernel), codeAny_builtin F.entry_type_call ?_⟩
  rw [Around.under_plain (weight_type_call_type "set" [.ref l] []) rfl]
  have g1 := F.called_set.notType
  have g2 := F.called_set.canCreate
  have g3 := F.typeCall_set_1 (.ref l)
  repeat (any_goals (first | assumption | wp_step))
  refine codeAny_mono (code_set_led1 (.ref l) (E := E) (Q₁ := fun obj s₁ => obj = .ref s.heap.objs.size ∧ s₁ = { s with heap := s.heap.push (emptySet w) }) ⟨rfl, rfl⟩) fun r s₁ got => ?_
  cases r with
  | error e => exact got
  | ok fl =>
    cases fl with
    | ret obj =>
      obtain ⟨rfl, rfl⟩ := got
      have atS : (s.heap.push (emptySet w)).get? s.heap.objs.size = some (emptySet w) := Heap.get?_push_size _ rfl
      have isS : Shared.TypeIs { s with heap := s.heap.push (emptySet w) } (.ref s.heap.objs.size) "set" := ⟨_, atS, rfl⟩
      have i1 := F.called_set.init.lookup
      have i2 := F.called_set.init.bind (.ref s.heap.objs.size)
      repeat (any_goals (first | assumption | wp_step))
      refine codeAny_mono (codeAny_call_builtin (R := wants (fun r s₂ => r = .none ∧ ∃ h' tk L es ep t, s₂ = { s with heap := h', toks := tk } ∧ SetTR P w h' s.heap.objs.size L es ep t ∧ Got ks ks.length L ∧
          (∀ b o, s.heap.get? b = some o → h'.get? b = some o)) E) F.called_set.init.plain F.entry_set_init (check_set_init_1 isS ?_)) fun r₂ s₂ got₂ => ?_
      · obtain ⟨ol, hol, hcl, nl, hdl⟩ := arg
        obtain ⟨ocls, odict, odata, oslots⟩ := ol
        simp only at hcl hdl
        subst hcl; subst hdl
        have hol' : (s.heap.push (emptySet w)).get? l = some { cls := .type "tuple", dict := odict, data := .seq items nl, slots := oslots } := Heap.get?_push_of_some _ hol
        have hsls := F.sub_tuple_set
        have hslf := F.sub_tuple_frozenset
        have hne : (Value.type "tuple" == Value.type "dict") = false := by decide
        have isT : (s.heap.push (emptySet w)).IsTuple l items := ⟨_, hol', rfl, nl, rfl⟩
        unfold Builtin.«set.__init__» noKeywords Builtin.Frozenset.updateFrom
        generalize hPI : pyIter = PI
        wp_walk
        subst hPI
        refine wpAny_pyIter_tuple isT ?_
        refine wpAny_bind (wpAny_runValue ?_)
        have below : l < s.heap.objs.size := Heap.lt_size hol
        have calm3 : A.in1.in1.in1.handled = none := by simp [calm]
        have apart : l ≠ (s.heap.push (emptySet w)).objs.size := by
          rw [Heap.size_push]; exact Nat.ne_of_lt (Nat.lt_succ_of_lt below)
        have outside : s.heap.objs.size ∉ [(s.heap.push (emptySet w)).objs.size, l] := by
          rw [Heap.size_push]; simp only [List.mem_cons, List.mem_singleton, List.not_mem_nil, or_false, not_or]
          exact ⟨Nat.ne_of_lt (Nat.lt_succ_self _), Nat.ne_of_gt below⟩
        have item : ∀ (i : Nat) (v : Value), items[i]? = some v → ∃ p, ks[i]? = some p ∧ v = .ref p.1 := fun i v hv => by
          have q : items.toList[i]? = some v := by rw [Array.getElem?_toList]; exact hv
          rw [own, List.getElem?_map] at q
          cases hq : ks[i]? with
          | none => rw [hq] at q; cases q
          | some p =>
            rw [hq] at q
            exact ⟨p, rfl, (Option.some.inj q).symm⟩
        have fresh : ∀ b, s.heap.objs.size ≤ b → s.heap.get? b = none := fun b hb => by
          cases q : s.heap.get? b with
          | none => rfl
          | some o => exact absurd (Nat.lt_of_lt_of_le (Heap.lt_size q) hb) (Nat.lt_irrefl _)
        refine set_update_tups ((Walks.tuple calm3 _ l apart items).toS) s.heap.objs.size
          outside ks many few item s.heap words (fresh _ (Nat.le_refl _)) (fun b hb => fresh b (by
            rw [List.mem_singleton.mp hb, Heap.size_push]
            exact Nat.le_succ _)) units (items.size - 0) 0 _ (by omega) (Nat.zero_le _)
          ⟨⟨_, Heap.get?_push_size _ rfl, rfl, rfl⟩, (isT.push _)⟩ (fun b o e => Heap.get?_push_of_some _ (Heap.get?_push_of_some _ e)) ?start ?turn
        case start =>
          have at0 : ((s.heap.push (emptySet w)).push { cls := .type "tuple_iterator", data := .fields #[.ref l, .int 0 0] }).get? s.heap.objs.size
              = some (emptySet w) := Heap.get?_push_of_some _ atS
          exact ⟨[], #[], 0, _, setTR_fresh at0, Got.zero ks⟩
        case turn =>
          intro s' L es ep t hm hS' g' hkp
          obtain ⟨h', g2, d', tk', os'⟩ := s'
          have eg : g2 = s.gens := hm.gens
          have ed : d' = s.drawn := hm.drawn
          have eo : os' = s.os := hm.os
          subst eg; subst ed; subst eo
          show wpAny _ _ _ _ _ _
          refine wpAny_pure ?_
          show wpAny _ _ (ret Value.none) _ _ _
          rw [many] at g'
          exact wpAny_pure ⟨rfl, h', tk', L, es, ep, t, rfl, hS', g', hkp⟩
      · cases r₂ with
        | error e => exact got₂
        | ok fl₂ =>
          cases fl₂ with
          | ret r =>
            obtain ⟨rfl, h', tk, L, es, ep, t, rfl, hS', g', hk'⟩ := got₂
            repeat (any_goals (first | assumption | wp_step))
            exact fin _ _ _ _ _ _ hS' g' hk'
          | _ => exact got₂.elim
    | _ => exact got.elim

/-! ### sorted of it -/
open PySem.W (EachIs Looks SortsAt dataKind AllAlike dataLe)
theorem reads_intsW {h : Heap} : ∀ {vs : List Value} {ns : List Int}, IntsAre vs ns → ∃ as, ReadsAll h vs (ns.map .int) as
  | _, _, .nil => ⟨_, .nil⟩
  | _, _, .cons n t r => by
    obtain ⟨as, q⟩ := reads_intsW r
    exact ⟨_, .cons (.int n t) q⟩
theorem reads_word {h : Heap} {k : List Int} {b : Addr} (x : L2.IsT P w h k b) : ∃ as, Reads h (.ref b) (wP k) as := by
  obtain ⟨o, items, n, ho, hc, hd, hi⟩ := x
  obtain ⟨as, q⟩ := reads_intsW (h := h) (ints_of_items hi)
  exact ⟨as, .tuple ho hc hd q⟩
theorem each_refs {h : Heap} : ∀ {L : List (Addr × List Int)}, (∀ q ∈ L, L2.IsT P w h q.2 q.1) → EachIs (fun v (q : Addr × List Int) => ∃ as, Reads h v (wP q.2) as) (L.map fun q => Value.ref q.1) L
  | [], _ => .nil
  | q :: L, h => .cons (reads_word (h q List.mem_cons_self)) (each_refs fun r hr => h r (List.mem_cons_of_mem _ hr))
theorem each_self : ∀ {L : List (Addr × List Int)}, EachIs (fun v (q : Addr × List Int) => v = Value.ref q.1) (L.map fun q => Value.ref q.1) L
  | [] => .nil
  | _ :: _ => .cons rfl each_self
theorem each_back : ∀ {vs : List Value} {L : List (Addr × List Int)}, EachIs (fun v (q : Addr × List Int) => v = Value.ref q.1) vs L → vs = L.map fun q => Value.ref q.1
  | _, _, .nil => rfl
  | _, _, .cons e t => by rw [List.map_cons, e, each_back t]
theorem dataLe_words : dataLe false (fun q : Addr × List Int => wP q.2) = fun a b => wLe a.2 b.2 := by
  rw [PySem.W.dataLe_eq]
  funext x y
  show (!PySem.W.dataLt (wP y.2) (wP x.2)) = _
  rw [lt_words]
  rfl
/-- values that are addresses of some rows -/
theorem rows_of {L : List (Addr × List Int)} : ∀ vs : List Value, (∀ v ∈ vs, ∃ q ∈ L, v = Value.ref q.1) → ∃ L1 : List (Addr × List Int), vs = L1.map (fun q => Value.ref q.1) ∧ ∀ q ∈ L1, q ∈ L
  | [], _ => ⟨[], rfl, fun _ h => nomatch h⟩
  | v :: vs, h => by
    obtain ⟨q, hq, e⟩ := h v List.mem_cons_self
    obtain ⟨L1, e1, h1⟩ := rows_of vs fun u hu => h u (List.mem_cons_of_mem _ hu)
    refine ⟨q :: L1, by rw [List.map_cons, e, e1], fun r hr => ?_⟩
    rcases List.mem_cons.mp hr with z | z
    · rw [z]; exact hq
    · exact h1 r z
theorem nodup_map_on {α β : Type} {f : α → β} : ∀ {l : List α}, l.Nodup → (∀ x ∈ l, ∀ y ∈ l, f x = f y → x = y) → (l.map f).Nodup
  | [], _, _ => List.nodup_nil
  | a :: l, h, k => by
    obtain ⟨h1, h2⟩ := List.nodup_cons.mp h
    rw [List.map_cons]
    refine List.nodup_cons.mpr ⟨fun hm => ?_, nodup_map_on h2 fun x hx y hy => k x (List.mem_cons_of_mem _ hx) y (List.mem_cons_of_mem _ hy)⟩
    obtain ⟨b, hb, e⟩ := List.mem_map.mp hm
    rw [k b (List.mem_cons_of_mem _ hb) a List.mem_cons_self e] at hb
    exact h1 hb
theorem inj_of_nodup_map {α β : Type} {f : α → β} {l : List α} (h : (l.map f).Nodup) {x y : α} (hx : x ∈ l) (hy : y ∈ l) (e : f x = f y) : x = y := by
  induction l with
  | nil => cases hx
  | cons a l ih =>
    rw [List.map_cons] at h
    obtain ⟨h1, h2⟩ := List.nodup_cons.mp h
    rcases List.mem_cons.mp hx with z | z <;> rcases List.mem_cons.mp hy with u | u
    · rw [z, u]
    · exact absurd (List.mem_map.mpr ⟨y, u, by rw [← e, z]⟩) h1
    · exact absurd (List.mem_map.mpr ⟨x, z, by rw [e, u]⟩) h1
    · exact ih h2 z u
theorem strict_sorted {L : List (Addr × List Int)} (h : (L.map (·.2)).Nodup) : ((L.mergeSort fun a b => wLe a.2 b.2).map (·.2)).Pairwise (· < ·) := by
  have e : (L.mergeSort fun a b => wLe a.2 b.2).map (·.2) = (L.map (·.2)).mergeSort wLe := List.map_mergeSort (r := fun a b : Addr × List Int => wLe a.2 b.2) (s := wLe) (f := (·.2)) (l := L) fun _ _ _ _ => rfl
  rw [e]
  have p1 := List.pairwise_mergeSort (le := wLe) (fun x y z h1 h2 => (wLe_le _ _).mpr (List.le_trans ((wLe_le _ _).mp h1) ((wLe_le _ _).mp h2))) (fun x y => by
    rw [Bool.or_eq_true]
    exact (List.le_total x y).imp (wLe_le _ _).mpr (wLe_le _ _).mpr) (L.map (·.2))
  have p2 : ((L.map (·.2)).mergeSort wLe).Nodup := (List.mergeSort_perm _ _).nodup_iff.mpr h
  refine (p1.and p2).imp fun {x y} ⟨h1, h2⟩ => ?_
  have h1 := (wLe_le _ _).mp h1
  rcases List.le_iff_lt_or_eq.mp h1 with z | z
  · exact z
  · exact absurd z h2
theorem sorted_setW {a : Addr} {L : List (Addr × List Int)} {es : Array (Int × Value)} {ep : Nat} {t : SetTable} {Q : Value → Shared → Prop} (R : SetTR P w s.heap a L es ep t) (calm : A.handled = none) (hu : A.units + 8 < cLine)
    (fin : ∀ s' p (out : List Value) (c : Nat) (L' : List (Addr × List Int)), (∀ b o, s.heap.get? b = some o → s'.heap.get? b = some o) → s'.gens = s.gens → s'.os = s.os → s.heap.objs.size ≤ p →
      s'.heap.get? p = some (seqObj "list" out.toArray c) → out = L'.map (fun q => Value.ref q.1) → (∀ q, q ∈ L' ↔ q ∈ L) → (L'.map (·.2)).Pairwise (· < ·) → L'.length < 64 → Q (.ref p) s') :
    wpAny (model P w) A (call (.builtin "sorted") [.ref a]) Q E s := by
  obtain ⟨o, ho, hex, hd⟩ := R.ob
  have hsz := R.size
  have few := R.few
  refine Calls.call_function_entry kind_sorted plain_sorted entry_sorted (args_sorted1 _) ?_
  unfold Builtin.«sorted»
  refine wpAny_bind (m := checkCount "sorted" 1 1 _) (wpAny_pure ?_)
  refine wpAny_bind (collect_set (A := A.in1) calm ⟨o, ho, hex.1, hd⟩ R.fits (by unfold scanBound; omega) R.tab.ris R.led fun s1 vs k1 hz g1 o1 pm => ?_)
  have hes : es.toList.map (·.2) = L.map fun q => Value.ref q.1 := by
    rw [R.rows]
    unfold rowsOf
    rw [List.map_map] <;> rfl
  rw [hes] at pm
  obtain ⟨L1, rfl, h1⟩ := rows_of (L := L) vs fun v hv => by
    obtain ⟨q, hq, e⟩ := List.mem_map.mp (pm.mem_iff.mp hv)
    exact ⟨q, hq, e.symm⟩
  have one : ∀ q ∈ L, ∀ r ∈ L, Value.ref q.1 = Value.ref r.1 → q = r := fun q hq r hr e => by
    injection e with e
    have a1 := R.tup q hq
    have a2 := R.tup r hr
    rw [e] at a1
    exact Prod.ext e (a1.inj a2)
  have nL : L.Nodup := nodup_of_map R.nd
  have n1 : L1.Nodup := nodup_of_map (pm.nodup_iff.mpr (nodup_map_on nL one))
  have same : ∀ q, q ∈ L1 ↔ q ∈ L := fun q => ⟨h1 q, fun hq => by
    obtain ⟨r, hr, e⟩ := List.mem_map.mp (pm.mem_iff.mpr (List.mem_map.mpr ⟨q, hq, rfl⟩))
    rw [← one r (h1 r hr) q hq e]
    exact hr⟩
  have nk : (L1.map (·.2)).Nodup := nodup_map_on n1 fun x hx y hy e => inj_of_nodup_map R.nd (h1 x hx) (h1 y hy) e
  have hlen : L1.length < 64 := by
    have := pm.length_eq
    rw [List.length_map, List.length_map] at this
    omega
  have hvz : (L1.map fun q => Value.ref q.1).length ≤ sizeLine := by rw [List.length_map, sizeLine_eq]; omega
  refine wpAny_bind (wpAny_newList ?_ hvz)
  have hoL : (s1.heap.push (seqObj "list" (L1.map fun q => Value.ref q.1).toArray 0)).get? s1.heap.objs.size = some (seqObj "list" (L1.map fun q => Value.ref q.1).toArray 0) := Heap.get?_push_size _ rfl
  have keep : ∀ b o, o.cls = .type "tuple" → s1.heap.get? b = some o → (PySem.W.sortingHeap (s1.heap.push (seqObj "list" (L1.map fun q => Value.ref q.1).toArray 0)) s1.heap.objs.size (L1.map fun q => Value.ref q.1)).get? b = some o := fun b o _ e =>
    PySem.W.sortingHeap_old (Nat.ne_of_lt (Heap.lt_size e)) (Heap.get?_push_of_some _ e)
  have tk : ∀ q ∈ L1, L2.IsT P w (PySem.W.sortingHeap (s1.heap.push (seqObj "list" (L1.map fun q => Value.ref q.1).toArray 0)) s1.heap.objs.size (L1.map fun q => Value.ref q.1)) q.2 q.1 := fun q hq => by
    obtain ⟨o, items, n, ho, hc, r⟩ := R.tup q (h1 q hq)
    exact ⟨o, items, n, keep _ _ hc (k1 _ _ ho), hc, r⟩
  have er := each_refs tk
  have hal : AllAlike (L1.map fun q => wP q.2) := PySem.W.AllAlike.of fun a b => alike_words _ _
  have S : SortsAt P w A.in1.in1 { s1 with heap := PySem.W.sortingHeap (s1.heap.push (seqObj "list" (L1.map fun q => Value.ref q.1).toArray 0)) s1.heap.objs.size (L1.map fun q => Value.ref q.1) } (dataKind (PySem.W.sortingHeap (s1.heap.push (seqObj "list" (L1.map fun q => Value.ref q.1).toArray 0)) s1.heap.objs.size (L1.map fun q => Value.ref q.1)) (L1.map fun q => wP q.2)) (L1.map fun q => Value.ref q.1) := by
    refine sorts_tups (PySem.W.each_map (R := fun v d => ∃ as, Reads _ v d as) (fun q : Addr × List Int => wP q.2) er) hal (fun d hd => ?_) fun d hd => ?_
    · obtain ⟨q, _, rfl⟩ := List.mem_map.mp hd
      exact ⟨_, rfl⟩
    · obtain ⟨q, _, rfl⟩ := List.mem_map.mp hd
      rw [wP, PyData.depth, depth_ints]
      show A.units + 1 + 1 + _ < cLine
      omega
  refine wpAny_bind (wpAny_holding (wpAny_call_entry slot_list_sort ⟨_, hoL, rfl⟩ entry_list_sort (PySem.W.list_sort_vals (s := { s1 with heap := s1.heap.push (seqObj "list" (L1.map fun q => Value.ref q.1).toArray 0) }) hoL S hvz ⟨_, rfl, ?_⟩) (args_list_sort _)))
  have es' := PySem.W.sortVals_data (h' := PySem.W.sortingHeap (s1.heap.push (seqObj "list" (L1.map fun q => Value.ref q.1).toArray 0)) s1.heap.objs.size (L1.map fun q => Value.ref q.1)) (R := fun v (q : Addr × List Int) => v = Value.ref q.1) (enc := fun q => wP q.2) false each_self er hal
  have eo := each_back es'
  rw [dataLe_words] at eo
  generalize PySem.W.sortVals _ false (L1.map fun q => Value.ref q.1) (L1.map fun q => Value.ref q.1) = out at eo ⊢
  subst eo
  obtain ⟨c, hc⟩ := sortedHeap_at (vs := L1.map fun q => Value.ref q.1) (out := ((L1.mergeSort fun a b => wLe a.2 b.2).map fun q => Value.ref q.1).toArray) hoL
  refine wpAny_pure ⟨_, rfl, fin _ s1.heap.objs.size _ c _ (fun b u e => ?_) g1 o1 hz hc rfl (fun q => List.mem_mergeSort.trans (same q)) (strict_sorted nk) (by rw [List.length_mergeSort]; exact hlen)⟩
  have q := k1 b u e
  have hlt := Heap.lt_size q
  show (sortedHeap (s1.heap.push (seqObj "list" (L1.map fun q => Value.ref q.1).toArray 0)) s1.heap.objs.size _ _).get? b = some u
  rw [sortedHeap_old (Nat.ne_of_lt hlt) (by rw [size_push']; exact Nat.lt_succ_of_lt hlt)]
  exact Heap.get?_push_of_some _ q
end
/-! ### as an expression -/
section
variable {X : Cx}
def tSortedSetW (K : PySem.W.Frag) (ta : TE) : TE := fun σ H Q => ta σ H fun x H1 => ∃ (l : Addr) (ks : List (Addr × List Int)), x = .ref l ∧ (SqL K H1 l (ks.map fun p => V.ref p.1) ∨ SqT K H1 l (ks.map fun p => V.ref p.1)) ∧ (∀ p ∈ ks, SqT K H1 p.1 (p.2.map V.int)) ∧ ks.length < 64 ∧
  ∀ (L : List (Addr × List Int)) (p : Addr), (∀ q ∈ L, q ∈ ks) → (∀ q ∈ ks, q.2 ∈ L.map (·.2)) → (L.map (·.2)).Pairwise (· < ·) → H1 p = none → Q (.ref p) (upd H1 p (.lst (L.map fun q => V.ref q.1)))
theorem pe_sortedSetW {k : Nat} {a : Expr} {ta : TE} {p p2 q pos : Pos} (hc : X.calm = true) (hr : Room k X.A) (hg : Gl X "sorted") (hm : X.mg "sorted" = none) (hg2 : Gl X "set") (hm2 : X.mg "set" = none) (ha : PE X a ta)
    (na : starEach [a] X.env = (false, eval a X.env) :: starEach [] X.env := by rfl) : PE X (.Call (.Name "sorted" p) [.Call (.Name "set" p2) [a] [] q] [] pos) (tSortedSetW X.K ta) := by
  refine ⟨fun pins s σ H Q I h => ?_⟩
  have hu := hr.units
  refine Call_ (ld_blt I hg hm boot_sorted ?_)
  refine PyProof.Rows.callWith_builtin1 (PyProof.Rows.args_cons ?_ rfl) rfl rfl
  refine Call_ (ld_blt I hg2 hm2 boot_set ?_)
  refine PyProof.Rows.callWith_type1 (PyProof.Rows.args_cons (thn (ha.run pins s σ H _ I h) fun v s1 ⟨x, H1, I1, r1, q1⟩ => PyProof.Rows.args_nil ?_) na) na rfl
  obtain ⟨l, ks, rfl, hq, hw, few, q1⟩ := q1
  cases r1
  have words : ∀ p ∈ ks, L2.IsT X.prog X.w s1.heap p.2 p.1 := fun p hp => I1.isT (hw p hp)
  have fin : ∀ (h' : Heap) (tk : Nat) L es ep t, SetTR X.prog X.w h' s1.heap.objs.size L es ep t → Got ks ks.length L → (∀ b o, s1.heap.get? b = some o → h'.get? b = some o) →
      wpAny (model X.prog X.w) X.A (call (.builtin "sorted") [.ref s1.heap.objs.size]) (EP X pins σ Q) X.xe { s1 with heap := h', toks := tk } := by
    intro h' tk L es ep t R g kp
    refine sorted_setW (s := { s1 with heap := h', toks := tk }) R (I1.ok.hd hc) (by omega) fun s' p out c L' k1 g1 o1 hp hpl hout same pw len => ?_
    subst hout
    have kk : ∀ b o, s1.heap.get? b = some o → s'.heap.get? b = some o := fun b o e => k1 b o (kp b o e)
    have hz : s1.heap.objs.size ≤ p := by
      obtain ⟨o, ho, _⟩ := R.ob
      exact Nat.le_trans (Nat.le_of_lt (Heap.lt_size ho)) hp
    have hfr : H1 p = none := I1.hok.fresh hz
    have hlen : (L'.map fun q => V.ref q.1).length ≤ sizeLine := by rw [List.length_map, sizeLine_eq]; omega
    have J : Inv X pins σ (upd H1 p (.lst (L'.map fun q => V.ref q.1))) { s1 with heap := s'.heap, gens := s'.gens, drawn := s'.drawn, toks := s'.toks } :=
      I1.call (ch := []) (Un.laid kk hz hfr) (I1.hok.laid kk hz ⟨hlen, _, c, vals_of_refs L', hpl⟩) (by rw [g1]; exact I1.bare) (fun _ z => nomatch z)
    have e : s' = { s1 with heap := s'.heap, gens := s'.gens, drawn := s'.drawn, toks := s'.toks } := by
      cases s'
      cases s1
      cases o1
      rfl
    rw [e]
    refine ⟨.ref p, _, J, rfl, q1 L' p (fun q hq => List.mem_of_mem_take (g.sub q ((same q).mp hq))) (fun q hq => ?_) pw hfr⟩
    obtain ⟨r, hr, er⟩ := List.mem_map.mp (g.all q (by rw [List.take_length]; exact hq))
    exact List.mem_map.mpr ⟨r, (same r).mpr hr, er⟩
  rcases hq with hq | hq
  · obtain ⟨its, r, pt, hz⟩ := I1.list hq
    refine call_set_tups ks (I1.ok.hd hc) pt.isList (by simpa using refs_of_vals r) words few (by omega) fun h' tk L es ep t R g kp => ?_
    exact PyProof.Rows.args_nil (fin h' tk L es ep t R g kp)
  · obtain ⟨its, r, pt, hz⟩ := I1.tuple hq
    refine set_of_tuple ks (I1.ok.hd hc) pt (by simpa using refs_of_vals r) words few (by omega) fun h' tk L es ep t R g kp => ?_
    exact PyProof.Rows.args_nil (fin h' tk L es ep t R g kp)
end
/-! ### over plain data -/
section
variable {X : Cx}
open PySem.W (Frag)
def dSortedSetW (f : DE) : DE := fun ds m Q => f ds m fun x m1 => ∃ ws : List (List Int), (x = .tup (wD ws) ∨ ∃ a, x = .ref a ∧ m1 a = some (.lst (wD ws))) ∧ ws.length < 64 ∧ ∀ us : List (List Int), (∀ w, w ∈ us ↔ w ∈ ws) → us.Pairwise (· < ·) → aNew (.lst (wD us)) m1 Q
theorem rds_words {K : Frag} {H : Hp} : ∀ {ws : List (List Int)} {xs : List V}, RDs K H (wD ws) xs → ∃ ks : List (Addr × List Int), xs = ks.map (fun p => V.ref p.1) ∧ ks.map (·.2) = ws ∧ ∀ p ∈ ks, SqT K H p.1 (p.2.map V.int) ∧ RD K H (tInts p.2) (.ref p.1)
  | [], _, .nil => ⟨[], rfl, rfl, fun _ h => nomatch h⟩
  | w :: ws, _, .cons r t => by
    obtain ⟨ks, h1, h2, h3⟩ := rds_words t
    have r0 := r
    cases r with
    | @tup _ a xs s r =>
      have e := rds_ints r
      subst e
      refine ⟨(a, w) :: ks, by rw [List.map_cons, h1], by rw [List.map_cons, h2], fun p hp => ?_⟩
      rcases List.mem_cons.mp hp with z | z
      · rw [z]; exact ⟨sqt s, r0⟩
      · exact h3 p z
theorem rds_keys {K : Frag} {H : Hp} : ∀ {L : List (Addr × List Int)}, (∀ p ∈ L, RD K H (tInts p.2) (.ref p.1)) → RDs K H (wD (L.map (·.2))) (L.map fun p => V.ref p.1)
  | [], _ => .nil
  | p :: L, h => .cons (h p List.mem_cons_self) (rds_keys fun q hq => h q (List.mem_cons_of_mem _ hq))
theorem je_sortedSetW {k : Nat} {a : Expr} {f : DE} {p p2 q pos : Pos} (hc : X.calm = true) (hr : Room k X.A) (hm : X.mg "sorted" = none) (hm2 : X.mg "set" = none) (ha : JE X a f) (hg : Gl X "sorted" := by rfl) (hg2 : Gl X "set" := by rfl)
    (na : starEach [a] X.env = (false, eval a X.env) :: starEach [] X.env := by rfl) : JE X (.Call (.Name "sorted" p) [.Call (.Name "set" p2) [a] [] q] [] pos) (dSortedSetW f) := by
  refine ⟨(pe_sortedSetW hc hr hg hm hg2 hm2 ha.pe na).imp fun σ H Q' h => ?_⟩
  obtain ⟨ds, m, Q, rs, rm, q, k⟩ := h
  refine ⟨ds, m, _, rs, rm, q, fun d m1 v H1 e1 rm1 rv q1 => ?_⟩
  obtain ⟨ws, hx, hl, q1⟩ := q1
  have go : ∀ (l : Addr) (xs : List V), v = .ref l → (SqL X.K H1 l xs ∨ SqT X.K H1 l xs) → RDs X.K H1 (wD ws) xs → ∃ (l : Addr) (ks : List (Addr × List Int)), v = .ref l ∧ (SqL X.K H1 l (ks.map fun p => V.ref p.1) ∨ SqT X.K H1 l (ks.map fun p => V.ref p.1)) ∧ (∀ p ∈ ks, SqT X.K H1 p.1 (p.2.map V.int)) ∧ ks.length < 64 ∧
      ∀ (L : List (Addr × List Int)) (p : Addr), (∀ q ∈ L, q ∈ ks) → (∀ q ∈ ks, q.2 ∈ L.map (·.2)) → (L.map (·.2)).Pairwise (· < ·) → H1 p = none → Q' (.ref p) (upd H1 p (.lst (L.map fun q => V.ref q.1))) := fun l xs ev hs r => by
    obtain ⟨ks, rfl, h2, h3⟩ := rds_words r
    refine ⟨l, ks, ev, hs, fun p hp => (h3 p hp).1, by rw [← List.length_map (f := (·.2)), h2]; exact hl, fun L p g1 g2 g3 hp => ?_⟩
    have rL := rds_keys (L := L) fun q hq => (h3 q (g1 q hq)).2
    refine k _ _ _ _ (e1.trans (Ext.fresh hp)) (rm1.upd (o := .lst (wD (L.map (·.2)))) (Ext.fresh hp) ⟨_, upd_same, rL.ext (Ext.fresh hp)⟩) (.ref p) (q1 (L.map (·.2)) (fun w => ⟨fun hw => ?_, fun hw => ?_⟩) g3 p (rm1.none hp))
    · obtain ⟨q, hq, rfl⟩ := List.mem_map.mp hw
      rw [← h2]
      exact List.mem_map.mpr ⟨q, g1 q hq, rfl⟩
    · rw [← h2] at hw
      obtain ⟨q, hq, rfl⟩ := List.mem_map.mp hw
      exact g2 q hq
  rcases hx with rfl | ⟨b, rfl, hb⟩
  · cases rv with
    | tup s r => exact go _ _ rfl (.inr (sqt s)) r
  · cases rv
    obtain ⟨xs, hs, r⟩ := rm1 b _ hb
    exact go _ _ rfl (.inl (SqL.of hs)) r
end
/-! ### is, of bools -/
section
variable {X : Cx}
def aIsB : DOp := fun x y m Q => ∃ a b, x = .bl a ∧ y = .bl b ∧ Q (.bl (decide (a = b))) m
def aIsNotB : DOp := fun x y m Q => ∃ a b, x = .bl a ∧ y = .bl b ∧ Q (.bl (!decide (a = b))) m
theorem oj_isB : OpJ X (compareOp .Is) aIsB := by
  refine opj op_isBl ?_
  intro H m x y xv yv Q Q' rm rx ry h k
  obtain ⟨a, b, rfl, rfl, q⟩ := h
  cases rx
  cases ry
  exact ⟨a, b, rfl, rfl, k _ _ _ _ (Ext.refl H) rm (.bl _) q⟩
theorem oj_isnotB : OpJ X (compareOp .IsNot) aIsNotB := by
  refine opj op_notBl ?_
  intro H m x y xv yv Q Q' rm rx ry h k
  obtain ⟨a, b, rfl, rfl, q⟩ := h
  cases rx
  cases ry
  exact ⟨a, b, rfl, rfl, k _ _ _ _ (Ext.refl H) rm (.bl _) q⟩
end
end DL
/-! sorted(set(x)) over trees, x a list or a tuple of words. -/
namespace DL
open PySem PySem.Spec PyProof.Rows L2
theorem rvs_tW_eq {f : MH} : ∀ {ws : List (List Int)} {ds : List D}, RVs f (ws.map tI) ds → ds = wD ws
  | [], _, .nil => rfl
  | w :: ws, _, .cons r t => by
    cases r with
    | tup r => rw [rvs_ints r, rvs_tW_eq t]; rfl
def vSortedSetW (f : WE) : WE := fun env Q => f env fun x env1 => ∃ ws : List (List Int), (x.v = .tup (ws.map tI) ∨ x.v = .lst (ws.map tI)) ∧ ws.length < 64 ∧ ∀ us : List (List Int), (∀ w, w ∈ us ↔ w ∈ ws) → us.Pairwise (· < ·) → Q (.ow (.lst (us.map tI))) env1
theorem vj_sortedSetW {f : WE} {t : DE} (h : VJ f t) : VJ (vSortedSetW f) (dSortedSetW t) := by
  intro c env ds Q R W q k
  refine h c env ds _ _ W q fun x env1 c1 dx W1 s1 rx q1 => ?_
  have rx := rx.read W1
  generalize x.v = v at q1 rx
  obtain ⟨ws, hx, hl, q1⟩ := q1
  have go : ∀ us : List (List Int), (∀ w, w ∈ us ↔ w ∈ ws) → us.Pairwise (· < ·) → aNew (.lst (wD us)) c1.m R := fun us h1 h2 p hp => by
    obtain ⟨W4, s4, rr⟩ := new_rr (v := .lst (us.map tI)) (o := .lst (wD us)) W1 s1 (rvs_tW us) hp
    exact k _ env1 _ _ W4 s4 rr (q1 us h1 h2)
  rcases hx with rfl | rfl
  · cases rx with
    | tup r =>
      rw [rvs_tW_eq r]
      exact ⟨ws, .inl rfl, hl, go⟩
  · obtain ⟨a, xs, rfl, h4, r⟩ := rx
    rw [rvs_tW_eq r] at h4
    exact ⟨ws, .inr ⟨a, rfl, h4⟩, hl, go⟩
/-! ### a, b, .. = x, y, .. where new lists stay one's own -/
inductive FrL (c0 c : C3) : List Rs → List DL.D → List Addr → Prop
  | nil : FrL c0 c [] [] []
  | va {v : PV} {d : DL.D} {l : List Rs} {ds : List DL.D} {as : List Addr} : RV c.f v d → FrL c0 c l ds as → FrL c0 c (.va v :: l) (d :: ds) as
  | ow {v : PV} {a : Addr} {o : MO} {l : List Rs} {ds : List DL.D} {as : List Addr} : c.m a = some o → RC c.f v o → Priv c a → Fr c0 a → a ∉ as → FrL c0 c l ds as → FrL c0 c (.ow v :: l) (.ref a :: ds) (a :: as)
theorem FrL.fr {c0 c : C3} : ∀ {l : List Rs} {ds : List DL.D} {as : List Addr}, FrL c0 c l ds as → ∀ a ∈ as, Fr c0 a
  | _, _, _, .nil, _, h => nomatch h
  | _, _, _, .va _ t, a, h => FrL.fr t a h
  | _, _, _, .ow _ _ _ f _ t, b, h => by
    rcases List.mem_cons.mp h with z | z
    · rw [z]; exact f
    · exact FrL.fr t b z
theorem FrL.back {c0 c1 c : C3} (s : Step c0 c1) : ∀ {l : List Rs} {ds : List DL.D} {as : List Addr}, FrL c1 c l ds as → FrL c0 c l ds as
  | _, _, _, .nil => .nil
  | _, _, _, .va r t => .va r (FrL.back s t)
  | _, _, _, .ow h1 h2 h3 h4 h5 t => .ow h1 h2 h3 (h4.back s) h5 (FrL.back s t)
theorem FrL.len {c0 c : C3} : ∀ {l : List Rs} {ds : List DL.D} {as : List Addr}, FrL c0 c l ds as → l.length = ds.length
  | _, _, _, .nil => rfl
  | _, _, _, .va _ t => congrArg (· + 1) (FrL.len t)
  | _, _, _, .ow _ _ _ _ _ t => congrArg (· + 1) (FrL.len t)
def vRs : List WE → Ev → (List Rs → Ev → Prop) → Prop
  | [], env, Q => Q [] env
  | f :: r, env, Q => f env fun x env1 => notBr x ∧ vRs r env1 fun l env2 => Q (x :: l) env2
inductive RsJ : List WE → DA → Prop
  | nil : RsJ [] dNil
  | cons {f : WE} {t : DE} {r : List WE} {a : DA} : VJ f t → RsJ r a → RsJ (f :: r) (dCons t a)
theorem rs_all : ∀ {fs : List WE} {a : DA}, RsJ fs a → ∀ c env ds (Q : List Rs → Ev → Prop) (R : List DL.D → MH → Prop), VS c env ds → vRs fs env Q → (∀ l env1 c1 dl as, VS c1 env1 ds → Step c c1 → FrL c c1 l dl as → Q l env1 → R dl c1.m) → a ds c.m R
  | _, _, .nil, c, env, ds, Q, R, W, q, k => k [] env c [] [] W (Step.refl c) .nil q
  | _, _, .cons h t, c, env, ds, Q, R, W, q, k => by
    refine h c env ds _ _ W q fun x env1 c1 d W1 s1 rx q1 => ?_
    obtain ⟨nx, q1⟩ := q1
    refine rs_all t c1 env1 ds _ _ W1 q1 fun l env2 c2 dl as W2 s2 fl q2 => ?_
    cases x with
    | br v => exact nx.elim
    | va v => exact k (.va v :: l) env2 c2 (d :: dl) as W2 (s1.trans s2) (.va (RV.grow s2.mono rx) (fl.back s1)) q2
    | ow v =>
      obtain ⟨a, o, rfl, h1, h2, h3, h4⟩ := rx
      obtain ⟨p, g⟩ := h3.step s2 h1
      refine k (.ow v :: l) env2 c2 (.ref a :: dl) (a :: as) W2 (s1.trans s2) (.ow g (h2.grow s2.mono) p h4 (fun hm => ?_) (fl.back s1)) q2
      rcases fl.fr a hm with z | ⟨n, z⟩
      · rw [h1] at z; cases z
      · exact h3.o n z
def gsN : List Nat → DGs
  | [] => gsNil
  | i :: r => gsCons (gN i) (gsN r)
def setRs : Ev → List Nat → List Rs → Ev
  | env, i :: is, r :: l => setRs (env.set i (toSl r)) is l
  | env, _, _ => env
theorem set_all {D : Sd → MH → Prop} {c0 : C3} : ∀ {is : List Nat} {l : List Rs} {ds' : List DL.D} {as : List Addr} {c : C3} {env : Ev} {ds : Sd} {P : Ev → Prop}, VS c env ds → Step c0 c → FrL c0 c l ds' as → l.length = is.length → P (setRs env is l) →
    (∀ env' ds2 c', VS c' env' ds2 → Step c0 c' → P env' → D ds2 c'.m) → gsN is ds' ds c.m D
  | [], [], _, _, c, env, ds, P, W, s, fl, _, q, k => by
    cases fl
    exact ⟨rfl, k env ds c W s q⟩
  | i :: is, x :: l, _, asl, c, env, ds, P, W, s, fl, hl, q, k => by
    cases fl with
    | @va v d _ ds' _ r t =>
      refine ⟨d, ds', rfl, ?_⟩
      have W1 := W.set_va (i := i) r
      have s1 : Step c0 _ := Step.set_va (i := i) s
      have t1 : FrL c0 { c with O := fun j a => if j = i then False else c.O j a } l ds' asl := by
        clear q k hl W1
        induction t with
        | nil => exact .nil
        | va r _ ih => exact .va r ih
        | ow h1 h2 h3 h4 h5 _ ih =>
          refine .ow h1 h2 ⟨h3.f, fun n hn => ?_⟩ h4 h5 ih
          have hn : if n = i then False else c.O n _ := hn
          by_cases e : n = i
          · rw [if_pos e] at hn; exact hn
          · rw [if_neg e] at hn; exact h3.o n hn
      exact set_all (c := { c with O := fun j a => if j = i then False else c.O j a }) (P := P) W1 s1 t1 (by simpa using hl) q k
    | @ow v a o _ ds' as h1 h2 h3 h4 h5 t =>
      refine ⟨.ref a, ds', rfl, ?_⟩
      have W1 := W.set_ow (i := i) h1 h2 h3
      have s1 : Step c0 { c with O := fun j b => if j = i then b = a else c.O j b } := s.set (A := fun b => b = a) fun b hb => hb ▸ h4
      have t1 : FrL c0 { c with O := fun j b => if j = i then b = a else c.O j b } l ds' as := by
        clear q k hl W1 h1 h2 s1
        induction t with
        | nil => exact .nil
        | va r _ ih => exact .va r (ih h5)
        | @ow v' b o' l' ds'' as' g1 g2 g3 g4 g5 _ ih =>
          refine .ow g1 g2 ⟨g3.f, fun n hn => ?_⟩ g4 g5 (ih fun z => h5 (List.mem_cons_of_mem _ z))
          have hn : if n = i then b = a else c.O n b := hn
          by_cases e : n = i
          · rw [if_pos e] at hn
            exact h5 (by rw [hn]; exact List.mem_cons_self)
          · rw [if_neg e] at hn; exact g3.o n hn
      exact set_all (c := { c with O := fun j b => if j = i then b = a else c.O j b }) (P := P) W1 s1 t1 (by simpa using hl) q k
def vAsgM (is : List Nat) (fs : List WE) : WS := fun E env => vRs fs env fun l env1 => l.length ≤ sizeLine ∧ l.length = is.length ∧ E.nx (setRs env1 is l)
theorem sj_asgM {fs : List WE} {a : DA} {n : Nat} (is : List Nat) (h : RsJ fs a) (hn : is.length = n := by rfl) : SJ (vAsgM is fs) (dAsg (dTup a) (gT n (gsN is))) := by
  intro c env ds E D W q k
  refine rs_all h c env ds _ _ W q fun l env1 c1 dl as W1 s1 fl q1 => ?_
  obtain ⟨q0, q1, q2⟩ := q1
  refine ⟨by rw [← fl.len]; exact q0, dl, rfl, by rw [← fl.len, q1, hn], ?_⟩
  exact set_all (P := E.nx) W1 s1 fl q1 q2 fun env' ds2 c' W' s' q' => k.nx env' ds2 c' W' s' q'
/-! ### is, of bools -/
def xIsB : WOp
  | .bl a, .bl b, Q => Q (.va (.bl (decide (a = b))))
  | _, _, _ => False
def xIsNotB : WOp
  | .bl a, .bl b, Q => Q (.va (.bl (!decide (a = b))))
  | _, _, _ => False
theorem xIsB_bl {a b : Bool} {Q : Rs → Prop} : xIsB (.bl a) (.bl b) Q = Q (.va (.bl (decide (a = b)))) := rfl
theorem xIsNotB_bl {a b : Bool} {Q : Rs → Prop} : xIsNotB (.bl a) (.bl b) Q = Q (.va (.bl (!decide (a = b)))) := rfl
theorem ov_isB : OpV aIsB xIsB := by
  intro c env ds x y dx dy Q R W rx ry q k
  cases x <;> try exact q.elim
  cases y <;> try exact q.elim
  cases rx
  cases ry
  exact ⟨_, _, rfl, rfl, k (.va _) c _ W (Step.refl c) (.bl _) q⟩
theorem ov_isnotB : OpV aIsNotB xIsNotB := by
  intro c env ds x y dx dy Q R W rx ry q k
  cases x <;> try exact q.elim
  cases y <;> try exact q.elim
  cases rx
  cases ry
  exact ⟨_, _, rfl, rfl, k (.va _) c _ W (Step.refl c) (.bl _) q⟩
end DL
/-! tuples known to the object: tuple(list) that leaves one, t.index(word). -/
namespace DL
open PySem PySem.Spec PyProof.Rows L2
/-- at a: a tuple that is known to the object, without a dict -/
def XtAt (H : Hp) (a : Addr) (xs : List V) : Prop := ∃ o, H a = some (.frz o (.tup xs)) ∧ o.cls = .type "tuple" ∧ o.dict = none
theorem XtAt.sq {K : Frag} {H : Hp} {a : Addr} {xs : List V} (h : XtAt H a xs) : SqT K H a xs := let ⟨o, e, _⟩ := h; .inl (.inr ⟨o, e⟩)
theorem XtAt.ext {H H' : Hp} {a : Addr} {xs : List V} (e : Ext H H') (h : XtAt H a xs) : XtAt H' a xs := let ⟨o, h1, h2⟩ := h; ⟨o, e.frz _ _ _ h1, h2⟩
section
variable {X : Cx}
theorem call_tupleX : CallR X (.type "tuple") (fun xs H Q => ∃ p ys, xs = [.ref p] ∧ SqL X.K H p ys ∧ ∀ l o, H l = none → o.cls = .type "tuple" → o.dict = none → Q (.ref l) (upd H l (.frz o (.tup ys)))) := by
  intro pins s σ H xs us Q I r h
  obtain ⟨p, ys, rfl, hq, q⟩ := h
  obtain ⟨u, rfl, rx⟩ := vals1 r
  cases rx
  obtain ⟨its, r', pl, hz⟩ := I.list hq
  have hlen := r'.length
  refine call_tuple_list pl.isList (fun h' kp => ?_) (by simp only [List.size_toArray] <;> omega)
  have I1 : Inv X pins σ H { s with heap := h' } := I.kept (t' := s.toks) kp
  have I2 : Inv X pins σ (upd H h'.objs.size (.frz { cls := .type "tuple", data := .seq its.toArray } (.tup ys))) { s with heap := h'.push { cls := .type "tuple", data := .seq its.toArray } } :=
    I1.laid (t' := s.toks) (fun b o e => Heap.get?_push_of_some _ e) (Nat.le_refl _) (show ObjOk X.prog X.w _ _ _ (.frz _ (.tup ys)) from ⟨Heap.get?_push_size _ rfl, hz, its, r', IsTup.new _ _⟩)
  exact ⟨.ref h'.objs.size, _, I2, rfl, q _ _ (I1.hok.fresh (Nat.le_refl _)) rfl rfl⟩
/-- a display of a tuple, known to the object -/
def tTupK (t : TA) : TE := fun σ H Q => t σ H fun xs H1 => xs.length ≤ sizeLine ∧ ∀ p o, H1 p = none → o.cls = .type "tuple" → o.dict = none → Q (.ref p) (upd H1 p (.frz o (.tup xs)))
theorem pe_tupK {es : List Expr} {t : TA} {pos : Pos} {x1} (h : PA X es t) : PE X (.Tuple es x1 pos) (tTupK t) := by
  refine ⟨fun pins s σ H Q I hq => ?_⟩
  refine wpAny_Tuple_spliced (thn (h.run pos pins s σ H _ I hq) fun us s1 ⟨xs, H1, I1, r, z, q⟩ => ⟨by rw [← r.length]; exact z, ?_⟩)
  have hf : H1 s1.heap.objs.size = none := I1.hok.fresh (Nat.le_refl _)
  refine ⟨.ref s1.heap.objs.size, upd H1 s1.heap.objs.size (.frz { cls := .type "tuple", data := .seq us.toArray } (.tup xs)), I1.laid (t' := s1.toks) (fun b u e => Heap.get?_push_of_some _ e) (Nat.le_refl _) ?_, rfl, q _ _ hf rfl rfl⟩
  exact ⟨Heap.get?_push_size _ rfl, z, us, r, IsTup.new _ _⟩
/-! ### t.index(word) -/
def nkW (k : List Int) : NestedKey := .tup (k.map .num)
theorem nested_ints {h : Heap} : ∀ {vs : List Value} {ns : List Int}, IntsAre vs ns → NestedAll h (ns.map .num) vs
  | _, _, .nil => .nil
  | _, _, .cons n t r => .cons (.int n t) (nested_ints r)
theorem nested_word {P : Program} {w : World} {h : Heap} {k : List Int} {b : Addr} (x : L2.IsT P w h k b) : NestedIs h (nkW k) (.ref b) := by
  obtain ⟨o, items, n, ho, hc, hd, hi⟩ := x
  exact .tup ho hc hd (nested_ints (ints_of_items hi))
theorem nested_words {P : Program} {w : World} {h : Heap} : ∀ {ws : List (Addr × List Int)}, (∀ p ∈ ws, L2.IsT P w h p.2 p.1) → NestedAll h (ws.map fun p => nkW p.2) (ws.map fun p => Value.ref p.1)
  | [], _ => .nil
  | p :: ws, h => .cons (nested_word (h p (by simp))) (nested_words fun q hq => h q (by simp [hq]))
theorem nkW_inj {a b : List Int} (h : nkW a = nkW b) : a = b := by
  unfold nkW at h
  injection h with h
  have : ∀ {a b : List Int}, a.map NestedKey.num = b.map NestedKey.num → a = b := by
    intro a
    induction a with
    | nil => intro b h; cases b with | nil => rfl | cons _ _ => cases h
    | cons x a ih =>
      intro b h
      cases b with
      | nil => cases h
      | cons y b =>
        rw [List.map_cons, List.map_cons] at h
        injection h with h1 h2
        injection h1 with h1
        rw [h1, ih h2]
  exact this h
theorem idx_nk (k : List Int) : ∀ l : List (List Int), (l.map nkW).idxOf (nkW k) = l.idxOf k
  | [] => rfl
  | x :: l => by
    rw [List.map_cons, List.idxOf_cons, List.idxOf_cons, idx_nk k l]
    by_cases h : x = k
    · subst h; simp
    · have h2 : nkW x ≠ nkW k := fun z => h (nkW_inj z)
      have e1 : (nkW x == nkW k) = false := by simpa using h2
      have e2 : (x == k) = false := by simpa using h
      rw [e1, e2]
theorem nkW_depth (k : List Int) : (nkW k).depth ≤ 1 := by
  have : ∀ k : List Int, NestedKey.depthAll (k.map NestedKey.num) = 0 := by
    intro k
    induction k with
    | nil => rfl
    | cons x k ih => rw [List.map_cons, NestedKey.depthAll, ih]; rfl
  unfold nkW
  rw [NestedKey.depth, this]
  omega
def tXidx (K : Frag) (to : TE) (ta : TA) : TE := fun σ H Q => to σ H fun x H1 => ∃ a xs, x = .ref a ∧ XtAt H1 a xs ∧ ta σ H1 fun vs H2 => ∃ (b : Addr) (k : List Int) (ws : List (Addr × List Int)), vs = [.ref b] ∧ SqT K H2 b (k.map V.int) ∧ SqT K H2 a (ws.map fun p => V.ref p.1) ∧ (∀ p ∈ ws, SqT K H2 p.1 (p.2.map V.int)) ∧
  k ∈ ws.map (·.2) ∧ Q (.int (((ws.map (·.2)).idxOf k : Nat) : Int)) H2
theorem pe_xidx {k : Nat} {o e : Expr} {to : TE} {ta : TA} {apos cpos : Pos} (hr : Room k X.A) (ho : PE X o to) (ha : PA X [e] ta)
    (hbase : attributeBase o "index" X.env (eval o X.env) = eval o X.env := by rfl)
    (hfew : ((backTo cpos (starEach [e] X.env)).all (fun x => !x.1) && (backToKw cpos (keywordEach [] X.env)).all (fun x => x.1.isSome)
      && decide ([e].length + ([] : List Keyword).length + (if ([] : List Keyword).isEmpty then 0 else 1) < 30)) = true := by rfl)
    (hline : (apos.endLine == cpos.line) = true := by rfl) (hs : starEach [e] X.env = (false, eval e X.env) :: starEach [] X.env := by rfl) (hplain : (backTo cpos (starEach [] X.env)).any (·.1) = false := by rfl) :
    PE X (.Call (.Attribute o "index" apos) [e] [] cpos) (tXidx X.K to ta) := by
  refine ⟨fun pins s σ H Q I h => ?_⟩
  have hu := hr.units
  refine wpAny_Call_method_late hbase hfew hline rfl (thn (ho.run pins s σ H _ I h) fun v s1 ⟨x, H1, I1, r1, a, xs, ex, hx, q1⟩ => ?_)
  subst ex
  cases r1
  obtain ⟨ob, hH, hc, hd⟩ := hx
  have hob : s1.heap.get? a = some ob := (show ObjOk X.prog X.w H1 s1.heap a (.frz ob (.tup xs)) from I1.hok a _ hH).1
  refine ⟨"tuple", "tuple.index", PySem.F.plainAttrs_tuple, PySem.F.slot_tuple_index, PySem.F.type_tuple_index, ⟨ob, hob, hc⟩, fun b e => (by cases e; exact ⟨ob, hob, hd⟩), ?_⟩
  have hA := ha.run cpos pins s1 σ H1 _ I1 q1
  rw [hs] at hA ⊢
  refine Calls.callWith_builtin (by show (false || (backTo cpos (starEach [] X.env)).any (·.1)) = false; rw [hplain] <;> rfl) (Calls.evalArgs_plain ?_)
  refine thn hA fun us s2 ⟨vs, H2, I2, r2, b, k, ws, ev, g1, g2, g3, g4, q2⟩ => ?_
  subst ev
  obtain ⟨u, rfl, ru⟩ := vals1 r2
  cases ru
  obtain ⟨its, rv, p2, _⟩ := I2.tuple g2
  have eits : its = ws.map fun p => Value.ref p.1 := by simpa using refs_of_vals rv
  subst eits
  have hn := nested_words (P := X.prog) (w := X.w) (h := s2.heap) (ws := ws) fun p hp => I2.isT (g3 p hp)
  have hb := nested_word (I2.isT g1)
  have hd := nkW_depth k
  have e2 : (ws.map fun p => nkW p.2) = (ws.map (·.2)).map nkW := by rw [List.map_map]; rfl
  rw [e2] at hn
  refine PySem.SeqAt.call_tuple_index p2 (PySem.SeqAt.ItemsEq.nested hn hb (by rw [Around.in1_units]; omega)) (List.mem_map.mpr ⟨k, g4, rfl⟩) ?_
  rw [idx_nk]
  exact ⟨.int _, H2, I2.tok _, ⟨_, rfl⟩, q2⟩
/-! ### over plain data -/
open PySem.W (Frag)
def bTupleX : DCl := fun l m Q => ∃ (a : Addr) (ds : List D), l = [.ref a] ∧ m a = some (.lst ds) ∧ aNew (.xtp ds) m Q
theorem cj_tupleX : CallJ X (.type "tuple") bTupleX := by
  refine ⟨_, call_tupleX, ?_⟩
  intro H m l vs Q Q' rm rl h k
  obtain ⟨a, ds, rfl, h1, q⟩ := h
  obtain ⟨xs, e, r⟩ := rm _ _ h1
  cases rl with
  | cons r1 rr =>
    cases rr
    cases r1
    exact ⟨a, xs, rfl, SqL.of e, fun p o hp hc hd => k _ _ _ _ (Ext.fresh hp) (rm.upd (o := .xtp ds) (Ext.fresh hp) ⟨o, xs, upd_same, ⟨hc, hd⟩, r.ext (Ext.fresh hp)⟩) (.ref p) (q p (rm.none hp))⟩
def dTupK (f : DA) : DE := fun ds m Q => f ds m fun l m1 => l.length ≤ sizeLine ∧ aNew (.xtp l) m1 Q
theorem je_tupK {es : List Expr} {f : DA} {x1 pos} (h : JA X es f) : JE X (.Tuple es x1 pos) (dTupK f) := by
  refine ⟨(pe_tupK h.pa).imp fun σ H Q' h => ?_⟩
  obtain ⟨ds, m, Q, r, rm, q, k⟩ := h
  refine ⟨ds, m, _, r, rm, q, fun l m1 vs H1 e1 rm1 rvs q1 => ?_⟩
  refine ⟨by rw [← rvs.length]; exact q1.1, fun p o hp hc hd => ?_⟩
  exact k (.ref p) _ (.ref p) _ (e1.trans (Ext.fresh hp)) (rm1.upd (o := .xtp l) (Ext.fresh hp) ⟨o, vs, upd_same, ⟨hc, hd⟩, rvs.ext (Ext.fresh hp)⟩) (.ref p) (q1.2 p (rm1.none hp))
/-- a name that holds such a tuple, read as a tuple -/
def dWk (f : DE) : DE := fun ds m Q => f ds m fun x m1 => ∃ (a : Addr) (l : List D), x = .ref a ∧ m1 a = some (.xtp l) ∧ (∃ d ∈ l, ∃ es, d = D.tup es) ∧ Q (.tup l) m1
theorem je_wk {e : Expr} {f : DE} (h : JE X e f) : JE X e (dWk f) := by
  refine ⟨h.pe.imp fun σ H Q' h => ?_⟩
  obtain ⟨ds, m, Q, rs, rm, q, k⟩ := h
  refine ⟨ds, m, _, rs, rm, q, fun d m1 v H1 e1 rm1 rv q1 => ?_⟩
  obtain ⟨a, l, rfl, hm, hd, q1⟩ := q1
  obtain ⟨o, xs, h1, _, h3⟩ := rm1 _ _ hm
  cases rv
  exact k _ _ _ _ e1 rm1 (.tup (.inr ⟨hd, .inl (.inr ⟨o, h1⟩)⟩) h3) q1
/-- t.index(w), t such a tuple of words -/
def dXidx (f : DE) (t : DA) : DE := fun ds m Q => f ds m fun x m1 => ∃ (a : Addr) (ws : List (List Int)), x = .ref a ∧ m1 a = some (.xtp (wD ws)) ∧ t ds m1 fun l m2 => ∃ w : List Int, l = [tInts w] ∧ m2 a = some (.xtp (wD ws)) ∧ w ∈ ws ∧ Q (.int ((ws.idxOf w : Nat) : Int)) m2
theorem je_xidx {k : Nat} {o e : Expr} {f : DE} {t : DA} {apos cpos : Pos} (hr : Room k X.A) (ho : JE X o f) (ha : JA X [e] t)
    (hbase : attributeBase o "index" X.env (eval o X.env) = eval o X.env := by rfl)
    (hfew : ((backTo cpos (starEach [e] X.env)).all (fun x => !x.1) && (backToKw cpos (keywordEach [] X.env)).all (fun x => x.1.isSome)
      && decide ([e].length + ([] : List Keyword).length + (if ([] : List Keyword).isEmpty then 0 else 1) < 30)) = true := by rfl)
    (hline : (apos.endLine == cpos.line) = true := by rfl) (hs : starEach [e] X.env = (false, eval e X.env) :: starEach [] X.env := by rfl) (hplain : (backTo cpos (starEach [] X.env)).any (·.1) = false := by rfl) :
    JE X (.Call (.Attribute o "index" apos) [e] [] cpos) (dXidx f t) := by
  refine ⟨(pe_xidx hr ho.pe ha.pa hbase hfew hline hs hplain).imp fun σ H Q' h => ?_⟩
  obtain ⟨ds, m, Q, rs, rm, q, kk⟩ := h
  refine ⟨ds, m, _, rs, rm, q, fun d m1 v H1 e1 rm1 rv q1 => ?_⟩
  obtain ⟨a, ws, rfl, hm, q1⟩ := q1
  obtain ⟨ob, xs, h1, ⟨hc, hd⟩, h3⟩ := rm1 _ _ hm
  cases rv
  refine ⟨a, xs, rfl, ⟨ob, h1, hc, hd⟩, ds, m1, _, rs.ext e1, rm1, q1, fun l m2 vs H2 e2 rm2 rvs q2 => ?_⟩
  obtain ⟨w, rfl, hm2, hw, q2⟩ := q2
  obtain ⟨ob2, xs2, g1, _, g3⟩ := rm2 _ _ hm2
  obtain ⟨ks, rfl, z2, z3⟩ := rds_words g3
  cases rvs with
  | cons rw rr =>
    cases rr
    cases rw with
    | tup s r =>
      have ex := rds_ints r
      subst ex
      refine ⟨_, w, ks, rfl, sqt s, .inl (.inr ⟨ob2, g1⟩), fun p hp => (z3 p hp).1, by rw [z2]; exact hw, ?_⟩
      rw [z2]
      exact kk _ _ _ _ (e1.trans e2) rm2 (.int _) q2
end
end DL
/-! tuples known to the object, over trees. -/
namespace DL
open PySem PySem.Spec PyProof.Rows L2
def xTupleX : WB
  | .lst l, Q => Q (.ow (.xtp l))
  | _, _ => False
theorem bv_tupleX : B1V bTupleX xTupleX := by
  intro c env ds x dx Q R W rx q k
  cases x <;> try exact q.elim
  obtain ⟨a, xs, rfl, h1, r⟩ := rx
  refine ⟨a, xs, rfl, h1, fun p hp => ?_⟩
  obtain ⟨W4, s4, rr⟩ := new_rr (v := .xtp _) (o := .xtp _) W (Step.refl c) r hp
  exact k _ _ _ W4 s4 rr q
theorem xTupleX_lst {l : List PV} {Q : Rs → Prop} : xTupleX (.lst l) Q = Q (.ow (.xtp l)) := rfl
def vTupK (a : WA) : WE := fun env Q => a env fun l env1 => l.length ≤ sizeLine ∧ Q (.ow (.xtp l)) env1
theorem vjk_tup {a : WA} {t : DA} (h : AJ a t) : VJ (vTupK a) (dTupK t) := by
  intro c env ds Q R W q k
  refine h c env ds _ _ W q fun l env1 c1 dl W1 s1 rl q1 => ?_
  refine ⟨by rw [← rl.len]; exact q1.1, fun p hp => ?_⟩
  obtain ⟨W4, s4, rr⟩ := new_rr (v := .xtp _) (o := .xtp _) W1 s1 rl hp
  exact k _ _ _ _ W4 s4 rr q1.2
/-- some item is a tuple -/
def hasT : List PV → Prop
  | [] => False
  | .tup _ :: _ => True
  | _ :: l => hasT l
theorem hasT.to {f : MH} : ∀ {l : List PV} {ds : List D}, RVs f l ds → hasT l → ∃ d ∈ ds, ∃ es, d = D.tup es
  | _, _, .nil, h => h.elim
  | v :: l, _, .cons (d := d0) (ds := ds0) r t, h => by
    have step : hasT l → ∃ d ∈ d0 :: ds0, ∃ es, d = D.tup es := fun h => by
      obtain ⟨d, hd, es, e⟩ := hasT.to t h
      exact ⟨d, List.mem_cons_of_mem _ hd, es, e⟩
    cases v with
    | tup l' => cases r with
      | tup r => exact ⟨_, List.mem_cons_self, _, rfl⟩
    | _ => exact step h
theorem hasT_map : ∀ {l : List (List Int)}, 0 < l.length → hasT (l.map tI)
  | [], h => by simp at h
  | _ :: _, _ => trivial
/-- a name that holds such a tuple, read as a tuple -/
def vWk (f : WE) : WE := fun env Q => f env fun x env1 => match x with
  | .va (.xtp l) => hasT l ∧ Q (.va (.tup l)) env1
  | _ => False
theorem vj_wk {f : WE} {t : DE} (h : VJ f t) : VJ (vWk f) (dWk t) := by
  intro c env ds Q R W q k
  refine h c env ds _ _ W q fun x env1 c1 dx W1 s1 rx q1 => ?_
  cases x with
  | va v =>
    cases v <;> try exact q1.elim
    obtain ⟨q0, q1⟩ := q1
    cases (show RV c1.f _ _ from rx) with
    | xtp e r => exact ⟨_, _, rfl, W1.sub _ _ e, hasT.to r q0, k (.va _) env1 c1 _ W1 s1 (show RV c1.f _ _ from .tup r) q1⟩
  | _ => exact q1.elim
theorem rvs_words {f : MH} : ∀ {ws : List (List Int)} {ds : List D}, RVs f (ws.map tI) ds → ds = wD ws
  | [], _, .nil => rfl
  | w :: ws, _, .cons (.tup r) t => by rw [rvs_words t, rvs_ints r]; rfl
def vXidx (f : WE) (a : WA) : WE := fun env Q => f env fun x env1 => ∃ ws : List (List Int), x = .va (.xtp (ws.map tI)) ∧ a env1 fun l env2 => ∃ w : List Int, l = [tI w] ∧ w ∈ ws ∧ Q (.va (.int ((ws.idxOf w : Nat) : Int))) env2
theorem vj_xidx {f : WE} {t : DE} {a : WA} {ta : DA} (h : VJ f t) (ha : AJ a ta) : VJ (vXidx f a) (dXidx t ta) := by
  intro c env ds Q R W q k
  refine h c env ds _ _ W q fun x env1 c1 dx W1 s1 rx q1 => ?_
  obtain ⟨ws, rfl, q1⟩ := q1
  cases (show RV c1.f _ _ from rx) with
  | xtp e r =>
    rw [rvs_words r] at e
    refine ⟨_, ws, rfl, W1.sub _ _ e, ha c1 env1 ds _ _ W1 q1 fun l env2 c2 dl W2 s2 rl q2 => ?_⟩
    obtain ⟨w, rfl, hw, q2⟩ := q2
    cases rl with
    | cons rw rr =>
      cases rr
      cases rw with
      | tup rw =>
        rw [rvs_ints rw]
        exact ⟨w, rfl, W2.sub _ _ (s2.mono _ _ e), hw, k (.va _) env2 c2 _ W2 (s1.trans s2) (show RV c2.f _ _ from .int _) q2⟩
end DL
/-! Rows of keys, plain: joined words, read back. -/
namespace DL
open PySem PySem.Spec PyProof.Rows L2
theorem app_cons_inj {c c' : List Int} {x y u : Int} {a b t : List Int} (h1 : c ++ x :: a <+: c ++ y :: b) : x = y := by
  obtain ⟨t, e⟩ := h1
  rw [List.append_assoc] at e
  have e := List.append_cancel_left e
  rw [List.cons_append] at e
  exact (List.cons.inj e).1
theorem apartJ_np {a b : List Int} (h : Apart a b) : ¬ a <+: b ∧ ¬ b <+: a := by
  obtain ⟨c, x, y, a', b', rfl, rfl, hxy⟩ := h
  constructor
  · intro z
    have := app_cons_inj (c' := c) (u := x) (t := c) z
    omega
  · intro z
    have := app_cons_inj (c' := c) (u := x) (t := c) z
    omega
theorem apartJ_ne {a b : List Int} (h : Apart a b) : a ≠ b := fun z => (apartJ_np h).1 (z ▸ List.prefix_refl _)
theorem apartJ_lt {a b : List Int} (h : Apart a b) : a < b := by
  obtain ⟨c, x, y, a', b', rfl, rfl, hxy⟩ := h
  induction c with
  | nil => exact List.Lex.rel hxy
  | cons z c ih => exact List.Lex.cons ih
theorem ltJ_cancel {c a b : List Int} : c ++ a < c ++ b ↔ a < b := by
  induction c with
  | nil => exact Iff.rfl
  | cons z c ih =>
    rw [List.cons_append, List.cons_append, List.cons_lt_cons_self]
    exact ih
section
variable {ws : List (List Int)}
theorem getDJ_eq {k : Nat} (hk : k < ws.length) : ws.getD k [] = ws[k] := by rw [List.getD_eq_getElem?_getD, List.getElem?_eq_getElem hk]; rfl
theorem ap_getD (h : ws.Pairwise Apart) {i j : Nat} (hij : i < j) (hj : j < ws.length) : Apart (ws.getD i []) (ws.getD j []) := by
  rw [getDJ_eq hj, getDJ_eq (by omega)]
  exact List.pairwise_iff_getElem.mp h i j (by omega) hj hij
theorem ap_eq (h : ws.Pairwise Apart) {i j : Nat} (hi : i < ws.length) (hj : j < ws.length) (e : ws.getD i [] <+: ws.getD j []) : i = j := by
  rcases Nat.lt_trichotomy i j with z | z | z
  · exact absurd e (apartJ_np (ap_getD h z hj)).1
  · exact z
  · exact absurd e (apartJ_np (ap_getD h z hi)).2
theorem idx_ap : ∀ {ws : List (List Int)}, ws.Pairwise Apart → ∀ {k : Nat}, k < ws.length → ws.idxOf (ws.getD k []) = k
  | [], _, k, hk => by simp at hk
  | w :: ws, h, 0, _ => by
    rw [List.getD_cons_zero, List.idxOf_cons_self]
  | w :: ws, h, k + 1, hk => by
    have hk : k < ws.length := by simpa using hk
    obtain ⟨h1, h2⟩ := List.pairwise_cons.mp h
    have hne : w ≠ ws.getD k [] := by
      rw [getDJ_eq hk]
      exact apartJ_ne (h1 _ (List.getElem_mem hk))
    rw [List.getD_cons_succ, List.idxOf_cons]
    have e1 : (w == ws.getD k []) = false := by simpa using hne
    rw [e1, cond_false, idx_ap h2 hk]
end
/-! ### joined words -/
def joinL (ws : List (List Int)) (ks : List Nat) : List Int := (ks.map fun k => ws.getD k []).flatten
theorem joinL_nil (ws : List (List Int)) : joinL ws [] = [] := rfl
theorem joinL_cons (ws : List (List Int)) (k : Nat) (ks : List Nat) : joinL ws (k :: ks) = ws.getD k [] ++ joinL ws ks := by
  unfold joinL
  rw [List.map_cons, List.flatten_cons]
theorem joinL_app (ws : List (List Int)) (ks r : List Nat) : joinL ws (ks ++ r) = joinL ws ks ++ joinL ws r := by
  unfold joinL
  rw [List.map_append, List.flatten_append]
theorem joinL_len {ws : List (List Int)} {d : Nat} (h : ∀ w ∈ ws, w.length ≤ d) : ∀ ks : List Nat, (joinL ws ks).length ≤ ks.length * d
  | [] => Nat.zero_le _
  | k :: ks => by
    rw [joinL_cons, List.length_append, List.length_cons, Nat.succ_mul]
    have := joinL_len h ks
    have h2 : (ws.getD k []).length ≤ d := by
      rw [List.getD_eq_getElem?_getD]
      cases e : ws[k]? with
      | none => exact Nat.zero_le _
      | some w => exact h w (List.mem_of_getElem? e)
    omega
theorem joinL_sg {ws : List (List Int)} {s : Int} (h : ∀ w ∈ ws, ∀ i ∈ w, 0 ≤ i ∧ i < s) : ∀ (ks : List Nat), ∀ i ∈ joinL ws ks, 0 ≤ i ∧ i < s
  | [], i, hi => nomatch hi
  | k :: ks, i, hi => by
    rw [joinL_cons] at hi
    rcases List.mem_append.mp hi with hi | hi
    · rw [List.getD_eq_getElem?_getD] at hi
      cases e : ws[k]? with
      | none => rw [e] at hi; exact nomatch hi
      | some w => rw [e] at hi; exact h w (List.mem_of_getElem? e) i hi
    · exact joinL_sg h ks i hi
/-! ### read -/
def readL (ws : List (List Int)) : List Int → Nat → List Nat → List Int → Except Nat (List Nat)
  | part, place, acc, [] => if part = [] then .ok acc else .error place
  | part, place, acc, x :: r =>
    if (ws.any fun w => isPre (part ++ [x]) w) = true then
      (if part ++ [x] ∈ ws then readL ws [] (place + 1) (acc ++ [ws.idxOf (part ++ [x])]) r else readL ws (part ++ [x]) (place + 1) acc r)
    else .error place
section
variable {ws : List (List Int)}
theorem readL_word (hap : ws.Pairwise Apart) {k : Nat} (hk : k < ws.length) : ∀ (post pre : List Int) (place : Nat) (acc : List Nat) (r : List Int), ws.getD k [] = pre ++ post → post ≠ [] →
    readL ws pre place acc (post ++ r) = readL ws [] (place + post.length) (acc ++ [k]) r
  | [], _, _, _, _, _, h => absurd rfl h
  | x :: post, pre, place, acc, r, e, _ => by
    have e2 : ws.getD k [] = (pre ++ [x]) ++ post := by rw [e]; simp
    have hm : ws.getD k [] ∈ ws := by rw [getDJ_eq hk]; exact List.getElem_mem hk
    rw [List.cons_append, readL, if_pos (List.any_eq_true.mpr ⟨_, hm, isPre_iff.mpr ⟨post, e2.symm⟩⟩)]
    cases post with
    | nil =>
      rw [List.append_nil] at e2
      rw [if_pos (e2 ▸ hm), ← e2, idx_ap hap hk]
      rfl
    | cons y post =>
      have hn : ¬ pre ++ [x] ∈ ws := fun z => by
        obtain ⟨j, hj, ej⟩ := List.getElem_of_mem z
        rw [← getDJ_eq hj] at ej
        have := ap_eq hap hj hk ⟨y :: post, by rw [ej, e2]⟩
        subst this
        rw [ej] at e2
        have := congrArg List.length e2
        simp at this
      rw [if_neg hn, readL_word hap hk (y :: post) (pre ++ [x]) (place + 1) acc r e2 (by simp)]
      congr 1
      simp
      omega
theorem readL_join (hap : ws.Pairwise Apart) : ∀ (ks : List Nat) (place : Nat) (acc : List Nat), (∀ k ∈ ks, k < ws.length) → (ks ≠ [] → ∀ w ∈ ws, w ≠ []) → readL ws [] place acc (joinL ws ks) = .ok (acc ++ ks)
  | [], place, acc, _, _ => by
    rw [joinL_nil, readL, if_pos rfl, List.append_nil]
  | k :: ks, place, acc, h, hn => by
    have hk := h k (by simp)
    rw [joinL_cons, readL_word hap hk (ws.getD k []) [] place acc (joinL ws ks) rfl (hn (by simp) _ (by rw [getDJ_eq hk]; exact List.getElem_mem hk)), readL_join hap ks _ _ (fun j hj => h j (by simp [hj])) fun _ => hn (by simp), List.append_assoc]
    rfl
theorem neJ_words {s : Int} {deep : Nat} (c : Code s deep ws) (h : ws ≠ [[]]) : ∀ w ∈ ws, w ≠ [] := by
  rintro w hw rfl
  obtain ⟨j, hj, ej⟩ := List.getElem_of_mem hw
  rw [← getDJ_eq hj] at ej
  have all : ∀ i, i < ws.length → i = j := fun i hi => (ap_eq c.ap hj hi (by rw [ej]; exact List.nil_prefix)).symm
  have hl : ws.length = 1 := by
    have h0 := all 0 (by omega)
    by_cases z : 1 < ws.length
    · have h1 := all 1 z
      omega
    · omega
  have h0 := all 0 (by omega)
  subst h0
  match ws, hl with
  | [w], _ =>
    rw [List.getD_cons_zero] at ej
    exact h (by rw [ej])
/-! ### order -/
theorem join_lt (hap : ws.Pairwise Apart) (hne : ∀ w ∈ ws, w ≠ []) : ∀ {a b : List Nat}, (∀ k ∈ a, k < ws.length) → (∀ k ∈ b, k < ws.length) → a < b → joinL ws a < joinL ws b
  | [], [], _, _, h => by cases h
  | [], k :: b, _, hb, _ => by
    rw [joinL_cons, joinL_nil]
    have hk := hb k (by simp)
    have := hne _ (show ws.getD k [] ∈ ws by rw [getDJ_eq hk]; exact List.getElem_mem hk)
    cases e : ws.getD k [] with
    | nil => exact absurd e this
    | cons x t => exact List.Lex.nil
  | _ :: _, [], _, _, h => by cases h
  | i :: a, j :: b, ha, hb, h => by
    rw [joinL_cons, joinL_cons]
    have hi := ha i (by simp)
    have hj := hb j (by simp)
    rcases List.cons_lt_cons_iff.mp h with z | ⟨rfl, z⟩
    · exact apartJ_lt (((ap_getD hap z hj).left _).right _)
    · exact ltJ_cancel.mpr (join_lt hap hne (fun k hk => ha k (by simp [hk])) (fun k hk => hb k (by simp [hk])) z)
/-- no joined word begins that of another row of as many keys -/
theorem join_pre (hap : ws.Pairwise Apart) : ∀ {a b : List Nat}, (∀ k ∈ a, k < ws.length) → (∀ k ∈ b, k < ws.length) → a.length = b.length → joinL ws a <+: joinL ws b → a = b
  | [], [], _, _, _, _ => rfl
  | [], _ :: _, _, _, h, _ => by simp at h
  | _ :: _, [], _, _, h, _ => by simp at h
  | i :: a, j :: b, ha, hb, hl, h => by
    rw [joinL_cons, joinL_cons] at h
    have hi := ha i (by simp)
    have hj := hb j (by simp)
    have hij : i = j := by
      have p1 : ws.getD i [] <+: ws.getD j [] ++ joinL ws b := (List.prefix_append _ _).trans h
      have p2 : ws.getD j [] <+: ws.getD j [] ++ joinL ws b := List.prefix_append _ _
      rcases Nat.le_total (ws.getD i []).length (ws.getD j []).length with z | z
      · exact ap_eq hap hi hj (List.prefix_of_prefix_length_le p1 p2 z)
      · exact (ap_eq hap hj hi (List.prefix_of_prefix_length_le p2 p1 z)).symm
    subst hij
    rw [List.prefix_append_right_inj] at h
    rw [join_pre hap (fun k hk => ha k (by simp [hk])) (fun k hk => hb k (by simp [hk])) (by simpa using hl) h]
end
end DL
/-! codes that t.index is asked of. -/
namespace DL
open PySem PySem.Spec PyProof.Rows L2
local macro_rules
  | `(tactic| simp_arith) => `(tactic| simp only [↓vSeq, ↓vSkip, ↓vAsgN, ↓vAsg, ↓vPar, ↓vIf, ↓vRet, ↓vExpr, ↓vFor, ↓vSetI, ↓vBreak, ↓vCont, ↓vF, ↓vVar, ↓vMov, ↓vC, ↓vNil, ↓vCons, ↓vTup, ↓vLst, ↓vDisp, ↓vPairs, ↓vNewD, ↓vOp, ↓vChain, ↓vB, ↓vNotT, ↓vAndT, ↓vOrT, ↓vYes, ↓vAnd, ↓vOr, ↓vNot, ↓vIfE, ↓vNeg, ↓vNo, ↓vPart, ↓vSl, ↓vRev_x, ↓vB1, ↓vIsi, ↓vAnyI_x, ↓vR1, ↓vR2, ↓vR3, ↓vEnum_x, ↓vZip2_x, ↓vG, ↓vGnil, ↓vGcons, ↓vGT, ↓vGL, ↓vLc, ↓vCall, ↓vCallD, ↓vApp, ↓vPop0, ↓vPop1, ↓vExt, ↓vDeck, ↓xIs, ↓xIsNot, Rs.v, SameR, Same, same_self, same_cons, reduceCtorEq, or_true, true_or, or_false, false_or, and_false, false_and, toSl, notBr, wipeP, List.set_cons_zero, List.set_cons_succ, List.getElem?_cons_zero, List.getElem?_cons_succ, Option.some.injEq, Sl.ow.injEq, Sl.va.injEq, Sl.dk.injEq, PV.int.injEq, PV.bl.injEq, PV.tup.injEq, PV.lst.injEq, PV.dct.injEq, Rs.va.injEq, List.cons.injEq, List.length_cons, List.length_nil, exists_eq_left', exists_eq_left, exists_eq', exists_const, true_and, and_true, and_self, if_true, if_false, Bool.false_eq_true, reduceIte, and_assoc, exists_and_left, exists_and_right, Bool.not_true, Bool.not_false, at_zero, at_one, at_two, ↓xAdd_int, ↓xAdd_str, ↓xAdd_tup, ↓xAdd_lst, ↓xSub_int, ↓xMul_tup, ↓xMul_lst, ↓xPow_int, ↓xLt_int, ↓xLe_int, ↓xGt_int, ↓xGe_int, ↓xIx_tup, ↓xIx_lst, ↓xIx_str, ↓xIx_dct, ↓xLen_tup, ↓xLen_lst, ↓xLen_str, ↓xAbs_int, ↓xList_tup, ↓xList_lst, ↓xTuple_tup, ↓xTuple_lst, ↓xSl_tup, ↓xSl_lst, ↓xRev_tup, ↓xRev_lst, ↓xMin2_int, ↓xMax2_int, ↓xItems_tup, ↓xItems_lst, ↓xItems_str, ↓xEnum_tup, ↓xEnum_lst, ↓xZip_tup, ↓xZip_lst, ↓xZip_WW, ↓xZip_IW, ↓xZip_WI, ↓xZip_II, ↓xZip_tI, ↓xZip_It, keyP'_int, keyP'_str, isNo_non, isNo_bl, isNo_int, isNo_str, isNo_tup, isNo_lst, isNo_dct, isInt_non, isInt_bl, isInt_int, isInt_str, isInt_tup, isInt_lst, isInt_dct, isInt_tI, isInt_tW, isBool_non, isBool_bl, isBool_int, isBool_str, isBool_tup, isBool_lst, isBool_dct, isBool_tI, isBool_tW, isStrV_non, isStrV_bl, isStrV_int, isStrV_str, isStrV_tup, isStrV_lst, isStrV_dct, isStrV_tI, isStrV_tW, isTupP_non, isTupP_bl, isTupP_int, isTupP_str, isTupP_tup, isTupP_lst, isTupP_dct, isLstP_non, isLstP_bl, isLstP_int, isLstP_str, isLstP_tup, isLstP_lst, isLstP_dct, isLstP_tI, isLstP_tW, ↓xLen_tI, ↓xLen_tW, ↓xIx_tI, ↓xIx_tW, ↓xIx_lI, ↓xIx_lW, ↓xAdd_tI, ↓xAdd_tI1, ↓xAdd_1tI, ↓xAdd_tW, ↓xAdd_tW1, ↓xAdd_1tW, ↓xSl_tI, ↓xSl_tW, ↓xList_tI, ↓xList_tW, ↓xTuple_lI, ↓xTuple_lW, ↓xTuple_tI, ↓xTuple_tW, ↓xLt_tI, ↓xLe_tI, ↓xGt_tI, ↓xGe_tI, ↓xLt_tW, ↓xLe_tW, ↓xEq_tI, ↓xNe_tI, ↓xEq_tI0, ↓xNe_tI0, ↓xEq_tW, ↓xNe_tW, ↓xEq_tW0, ↓xNe_tW0, ↓xEq_int, ↓xNe_int, ↓xEq_bl, ↓xNe_bl, ↓xEq_lI, ↓xNe_lI, ↓xEq_lI0, ↓xNe_lI0, ↓xEq_lW, ↓xNe_lW, ↓xEq_lW0, ↓xNe_lW0, isTup_tI, isTup_tW, isNo_tI, isNo_tW, ↓xRev_tI, ↓xRev_tW, ↓xItems_tI, ↓xItems_tW, ↓xEnum_tI, ↓xEnum_tW, tI_inj, tW_inj, Int.reduceToNat, Int.zero_add, ↓xSum_lI, ↓xAll_l, ↓xAny_l, cut_tl, ↓xSumA_lI, ↓xSumA_tI, ↓xMaxA_tI, ↓xMaxA_lI, ↓xMinA_tI, ↓xMinA_lI, Int.natCast_inj, atI_map, ex_map, Nat.zero_le])
local macro_rules
  | `(tactic| simp_arith [$args,*]) => `(tactic| simp only [↓vSeq, ↓vSkip, ↓vAsgN, ↓vAsg, ↓vPar, ↓vIf, ↓vRet, ↓vExpr, ↓vFor, ↓vSetI, ↓vBreak, ↓vCont, ↓vF, ↓vVar, ↓vMov, ↓vC, ↓vNil, ↓vCons, ↓vTup, ↓vLst, ↓vDisp, ↓vPairs, ↓vNewD, ↓vOp, ↓vChain, ↓vB, ↓vNotT, ↓vAndT, ↓vOrT, ↓vYes, ↓vAnd, ↓vOr, ↓vNot, ↓vIfE, ↓vNeg, ↓vNo, ↓vPart, ↓vSl, ↓vRev_x, ↓vB1, ↓vIsi, ↓vAnyI_x, ↓vR1, ↓vR2, ↓vR3, ↓vEnum_x, ↓vZip2_x, ↓vG, ↓vGnil, ↓vGcons, ↓vGT, ↓vGL, ↓vLc, ↓vCall, ↓vCallD, ↓vApp, ↓vPop0, ↓vPop1, ↓vExt, ↓vDeck, ↓xIs, ↓xIsNot, Rs.v, SameR, Same, same_self, same_cons, reduceCtorEq, or_true, true_or, or_false, false_or, and_false, false_and, toSl, notBr, wipeP, List.set_cons_zero, List.set_cons_succ, List.getElem?_cons_zero, List.getElem?_cons_succ, Option.some.injEq, Sl.ow.injEq, Sl.va.injEq, Sl.dk.injEq, PV.int.injEq, PV.bl.injEq, PV.tup.injEq, PV.lst.injEq, PV.dct.injEq, Rs.va.injEq, List.cons.injEq, List.length_cons, List.length_nil, exists_eq_left', exists_eq_left, exists_eq', exists_const, true_and, and_true, and_self, if_true, if_false, Bool.false_eq_true, reduceIte, and_assoc, exists_and_left, exists_and_right, Bool.not_true, Bool.not_false, at_zero, at_one, at_two, ↓xAdd_int, ↓xAdd_str, ↓xAdd_tup, ↓xAdd_lst, ↓xSub_int, ↓xMul_tup, ↓xMul_lst, ↓xPow_int, ↓xLt_int, ↓xLe_int, ↓xGt_int, ↓xGe_int, ↓xIx_tup, ↓xIx_lst, ↓xIx_str, ↓xIx_dct, ↓xLen_tup, ↓xLen_lst, ↓xLen_str, ↓xAbs_int, ↓xList_tup, ↓xList_lst, ↓xTuple_tup, ↓xTuple_lst, ↓xSl_tup, ↓xSl_lst, ↓xRev_tup, ↓xRev_lst, ↓xMin2_int, ↓xMax2_int, ↓xItems_tup, ↓xItems_lst, ↓xItems_str, ↓xEnum_tup, ↓xEnum_lst, ↓xZip_tup, ↓xZip_lst, ↓xZip_WW, ↓xZip_IW, ↓xZip_WI, ↓xZip_II, ↓xZip_tI, ↓xZip_It, keyP'_int, keyP'_str, isNo_non, isNo_bl, isNo_int, isNo_str, isNo_tup, isNo_lst, isNo_dct, isInt_non, isInt_bl, isInt_int, isInt_str, isInt_tup, isInt_lst, isInt_dct, isInt_tI, isInt_tW, isBool_non, isBool_bl, isBool_int, isBool_str, isBool_tup, isBool_lst, isBool_dct, isBool_tI, isBool_tW, isStrV_non, isStrV_bl, isStrV_int, isStrV_str, isStrV_tup, isStrV_lst, isStrV_dct, isStrV_tI, isStrV_tW, isTupP_non, isTupP_bl, isTupP_int, isTupP_str, isTupP_tup, isTupP_lst, isTupP_dct, isLstP_non, isLstP_bl, isLstP_int, isLstP_str, isLstP_tup, isLstP_lst, isLstP_dct, isLstP_tI, isLstP_tW, ↓xLen_tI, ↓xLen_tW, ↓xIx_tI, ↓xIx_tW, ↓xIx_lI, ↓xIx_lW, ↓xAdd_tI, ↓xAdd_tI1, ↓xAdd_1tI, ↓xAdd_tW, ↓xAdd_tW1, ↓xAdd_1tW, ↓xSl_tI, ↓xSl_tW, ↓xList_tI, ↓xList_tW, ↓xTuple_lI, ↓xTuple_lW, ↓xTuple_tI, ↓xTuple_tW, ↓xLt_tI, ↓xLe_tI, ↓xGt_tI, ↓xGe_tI, ↓xLt_tW, ↓xLe_tW, ↓xEq_tI, ↓xNe_tI, ↓xEq_tI0, ↓xNe_tI0, ↓xEq_tW, ↓xNe_tW, ↓xEq_tW0, ↓xNe_tW0, ↓xEq_int, ↓xNe_int, ↓xEq_bl, ↓xNe_bl, ↓xEq_lI, ↓xNe_lI, ↓xEq_lI0, ↓xNe_lI0, ↓xEq_lW, ↓xNe_lW, ↓xEq_lW0, ↓xNe_lW0, isTup_tI, isTup_tW, isNo_tI, isNo_tW, ↓xRev_tI, ↓xRev_tW, ↓xItems_tI, ↓xItems_tW, ↓xEnum_tI, ↓xEnum_tW, tI_inj, tW_inj, Int.reduceToNat, Int.zero_add, ↓xSum_lI, ↓xAll_l, ↓xAny_l, cut_tl, ↓xSumA_lI, ↓xSumA_tI, ↓xMaxA_tI, ↓xMaxA_lI, ↓xMinA_tI, ↓xMinA_lI, Int.natCast_inj, atI_map, ex_map, Nat.zero_le, $args,*])
def b__law_codeX_2 : DS := (dRet (dB1 bTupleX (dCons (dVar 4) dNil)))
def b__law_codeX_2L_2 : DS := (dAsg (dVar 5) (gN 4))
def b__law_codeX_2L_1 : DS := (dSeq (dIf (dB (dOp aIs (dVar 5) (dC .non))) (dRet (dB1 bTupleX (dCons (dVar 4) dNil))) dSkip) b__law_codeX_2L_2)
def b__law_codeX_2L : DS := (dSeq (dAsg (dCall sp__law_split (dCons (dVar 0) (dCons (dVar 1) (dCons (dVar 4) (dCons (dVar 2) (dCons (dVar 3) dNil)))))) (gN 5)) b__law_codeX_2L_1)
def b__law_codeX_1 : DS := (dSeq (dWhile (dB (dOp aLt (dB1 bLen (dCons (dVar 4) dNil)) (dVar 2))) b__law_codeX_2L) b__law_codeX_2)
def b__law_codeX : DS := (dSeq (dAsg (dLst (dCons (dTup dNil) dNil)) (gN 4)) b__law_codeX_1)
/-- slots: 0 deck, 1 signs, 2 many, 3 deep, 4 words, 5 later -/
def n__law_codeX : Nat := 6
def sp__law_codeX : DSp := fun ds m Q => ∃ (p : Addr × Addr) (n many deep : Nat) (s : Int), ds = [.ref p.1, .int s, .int many, .int deep] ∧ Deck m p n ∧ n ≤ 2 ^ 38 ∧ 2 ≤ s ∧ s ≤ 20 ∧ 1 ≤ many ∧ many ≤ 100 ∧ deep ≤ 100 ∧
  ∀ m' ws, Keep p.1 m m' → Deck m' p (n + 1000000) → Code s deep ws → ws.length ≤ many → (ws.length < many → ∀ w ∈ ws, deep ≤ w.length) → ∀ a, m a = none → m' a = some (.xtp (wD ws)) → Q (.ref a) m'
theorem hp__law_codeX : ∀ ds m Q, sp__law_codeX ds m Q → b__law_codeX { nx := fun _ m' => Q .non m', rt := Q } (dstart 6 ds) m := by
  rintro ds m Q ⟨p, n, many, deep, s, rfl, hD, hn, hs0, hs1, hm0, hm1, hdp, q⟩
  show b__law_codeX _ [some (.ref p.1), some (.int s), some (.int many), some (.int deep), none, none] m
  unfold b__law_codeX
  simp only [dSeq, dAsg, dIf, dRet, dExpr, dB, dB1, dOp, dCall, dCons, dNil, dVar, dC, dTup, dLst, dNeg, dIfE, dNot, dAnd, dOr, dAndT, dOrT, dNotT, dSl, dNo, dPart, dRev, dM, dM0, dListR1, dPar, dSkip, dYes, gN, gT, gS, gsCons, gsNil, dFor, iR1, iR2, iR3, iAny, DL.iEnum, iZip2, dLc, dwipe, List.set_cons_zero, List.set_cons_succ, List.getElem?_cons_zero, List.getElem?_cons_succ, Option.some.injEq, exists_eq_left', D.int.injEq, D.bl.injEq, D.tup.injEq, aAdd, aSub, aLt, aLe, aGt, aGe, bLen, bList, bTuple, aSl]
  refine ⟨by show 0 ≤ sizeLine; decide, by show 1 ≤ sizeLine; decide, aNew_of fun q0 m0 g0 e0 _ _ => ?_⟩
  unfold b__law_codeX_1
  simp only [dSeq]
  refine while_by (fun j ds' m' => ∃ (q1 : Addr) (ws : List (List Int)) (i : Nat) (v5 : Option D), j + (ws.map List.length).sum = many * deep ∧ i + j = many * deep ∧ ds' = [some (.ref p.1), some (.int s), some (.int many), some (.int deep), some (.ref q1), v5] ∧
    m' q1 = some (.lst (wD ws)) ∧ Keep p.1 m m' ∧ Deck m' p (n + 30 * i) ∧ Code s deep ws ∧ ws.length ≤ many) (many * deep) ⟨q0, [[]], 0, _, by simp, by omega, rfl, e0, g0.keep, hD.at g0, Code.one s deep, hm0⟩ ?_
  rintro j ds' m' N hN ⟨q1, ws, i, v5, hj, hi, rfl, hq1, hk, hD', hc, hl⟩
  have hmd : many * deep ≤ 100 * 100 := Nat.mul_le_mul hm1 hdp
  have fin : ∀ m2, Grow m' m2 → (ws.length < many → ∀ w ∈ ws, deep ≤ w.length) → aNew (.xtp (wD ws)) m2 Q := fun m2 g2 hfew a ha => by
    have g3 : Grow m2 (mup m2 a (.xtp (wD ws))) := Grow.new ha
    have hk2 : Keep p.1 m m2 := hk.trans g2.keep
    refine q _ ws (hk2.trans g3.keep) (((hD'.at g2).at g3).mono (by omega)) hc hl hfew a ?_ mup_same
    cases e : m a with
    | none => rfl
    | some o =>
      by_cases hz : a = p.1
      · subst hz
        obtain ⟨cells, t, gg, h1, _⟩ := hD'.at g2
        rw [h1] at ha
        cases ha
      · rw [hk2 a o hz e] at ha
        cases ha
  simp only [dSeq, dAsg, dIf, dRet, dExpr, dB, dB1, dOp, dCall, dCons, dNil, dVar, dC, dTup, dLst, dNeg, dIfE, dNot, dAnd, dOr, dAndT, dOrT, dNotT, dSl, dNo, dPart, dRev, dM, dM0, dListR1, dPar, dSkip, dYes, gN, gT, gS, gsCons, gsNil, dFor, iR1, iR2, iR3, iAny, DL.iEnum, iZip2, dLc, dwipe, List.set_cons_zero, List.set_cons_succ, List.getElem?_cons_zero, List.getElem?_cons_succ, Option.some.injEq, exists_eq_left', D.int.injEq, D.bl.injEq, D.tup.injEq, aAdd, aSub, aLt, aLe, aGt, aGe, bLen, bList, bTuple, aSl]
  refine ⟨_, hq1, ?_⟩
  rw [List.length_map]
  by_cases hlt : ws.length < many
  · rw [if_pos (decide_eq_true (by omega))]
    unfold b__law_codeX_2L
    simp only [dSeq, dAsg, dIf, dRet, dExpr, dB, dB1, dOp, dCall, dCons, dNil, dVar, dC, dTup, dLst, dNeg, dIfE, dNot, dAnd, dOr, dAndT, dOrT, dNotT, dSl, dNo, dPart, dRev, dM, dM0, dListR1, dPar, dSkip, dYes, gN, gT, gS, gsCons, gsNil, dFor, iR1, iR2, iR3, iAny, DL.iEnum, iZip2, dLc, dwipe, List.set_cons_zero, List.set_cons_succ, List.getElem?_cons_zero, List.getElem?_cons_succ, Option.some.injEq, exists_eq_left', D.int.injEq, D.bl.injEq, D.tup.injEq, aAdd, aSub, aLt, aLe, aGt, aGe, bLen, bList, bTuple, aSl]
    refine ⟨p, n + 30 * i, many, deep, q1, s, ws, rfl, hD', by omega, hs0, hs1, hq1, hlt, hm1, by omega, fun m2 g2 hfew => ?_, fun m2 q2 ws' hk2 hD2 hsp e2 => ?_⟩
    · unfold b__law_codeX_2L_1
      simp only [dSeq, dAsg, dIf, dRet, dExpr, dB, dB1, dOp, dCall, dCons, dNil, dVar, dC, dTup, dLst, dNeg, dIfE, dNot, dAnd, dOr, dAndT, dOrT, dNotT, dSl, dNo, dPart, dRev, dM, dM0, dListR1, dPar, dSkip, dYes, gN, gT, gS, gsCons, gsNil, dFor, iR1, iR2, iR3, iAny, DL.iEnum, iZip2, dLc, dwipe, List.set_cons_zero, List.set_cons_succ, List.getElem?_cons_zero, List.getElem?_cons_succ, Option.some.injEq, exists_eq_left', D.int.injEq, D.bl.injEq, D.tup.injEq, aAdd, aSub, aLt, aLe, aGt, aGe, bLen, bList, bTuple, aSl]
      refine ⟨rfl, _, rfl, ?_⟩
      refine ite_yes rfl ?_
      exact ⟨_, _, rfl, g2 _ _ hq1, fin m2 g2 fun _ => hfew⟩
    · obtain ⟨hc', hl', hsum⟩ := hsp.code hc
      have hs' := hc'.sum
      have : ws'.length * deep ≤ many * deep := Nat.mul_le_mul_right _ hl'
      unfold b__law_codeX_2L_1
      simp only [dSeq, dAsg, dIf, dRet, dExpr, dB, dB1, dOp, dCall, dCons, dNil, dVar, dC, dTup, dLst, dNeg, dIfE, dNot, dAnd, dOr, dAndT, dOrT, dNotT, dSl, dNo, dPart, dRev, dM, dM0, dListR1, dPar, dSkip, dYes, gN, gT, gS, gsCons, gsNil, dFor, iR1, iR2, iR3, iAny, DL.iEnum, iZip2, dLc, dwipe, List.set_cons_zero, List.set_cons_succ, List.getElem?_cons_zero, List.getElem?_cons_succ, Option.some.injEq, exists_eq_left', D.int.injEq, D.bl.injEq, D.tup.injEq, aAdd, aSub, aLt, aLe, aGt, aGe, bLen, bList, bTuple, aSl]
      refine ⟨rfl, _, rfl, ?_⟩
      refine ite_no rfl ?_
      unfold b__law_codeX_2L_2
      simp only [dSeq, dAsg, dIf, dRet, dExpr, dB, dB1, dOp, dCall, dCons, dNil, dVar, dC, dTup, dLst, dNeg, dIfE, dNot, dAnd, dOr, dAndT, dOrT, dNotT, dSl, dNo, dPart, dRev, dM, dM0, dListR1, dPar, dSkip, dYes, gN, gT, gS, gsCons, gsNil, dFor, iR1, iR2, iR3, iAny, DL.iEnum, iZip2, dLc, dwipe, List.set_cons_zero, List.set_cons_succ, List.getElem?_cons_zero, List.getElem?_cons_succ, Option.some.injEq, exists_eq_left', D.int.injEq, D.bl.injEq, D.tup.injEq, aAdd, aSub, aLt, aLe, aGt, aGe, bLen, bList, bTuple, aSl]
      refine hN _ _ (many * deep - (ws'.map List.length).sum) (by omega) ⟨q2, ws', (ws'.map List.length).sum, _, by omega, by omega, rfl, e2, hk.trans hk2, hD2.mono ?_, hc', hl'⟩
      have : i + 1 ≤ (ws'.map List.length).sum := by omega
      omega
  · rw [if_neg (by simpa using hlt)]
    unfold b__law_codeX_2
    simp only [dSeq, dAsg, dIf, dRet, dExpr, dB, dB1, dOp, dCall, dCons, dNil, dVar, dC, dTup, dLst, dNeg, dIfE, dNot, dAnd, dOr, dAndT, dOrT, dNotT, dSl, dNo, dPart, dRev, dM, dM0, dListR1, dPar, dSkip, dYes, gN, gT, gS, gsCons, gsNil, dFor, iR1, iR2, iR3, iAny, DL.iEnum, iZip2, dLc, dwipe, List.set_cons_zero, List.set_cons_succ, List.getElem?_cons_zero, List.getElem?_cons_succ, Option.some.injEq, exists_eq_left', D.int.injEq, D.bl.injEq, D.tup.injEq, aAdd, aSub, aLt, aLe, aGt, aGe, bLen, bList, bTuple, aSl]
    exact ⟨_, _, rfl, hq1, fin m' (Grow.refl _) fun z => absurd z hlt⟩
def w__law_codeX : WSpD := fun n l Q => ∃ (many deep : Nat) (s : Int), l = [.int s, .int many, .int deep] ∧ n ≤ 2 ^ 38 ∧ 2 ≤ s ∧ s ≤ 20 ∧ 1 ≤ many ∧ many ≤ 100 ∧ deep ≤ 100 ∧
  ∀ ws, Code s deep ws → ws.length ≤ many → (ws.length < many → ∀ w ∈ ws, deep ≤ w.length) → Q (.xtp (ws.map tI)) (n + 1000000)
theorem cv__law_codeX : CallVD sp__law_codeX w__law_codeX := by
  intro c env ds i p n l dl Q R W h rl q k
  obtain ⟨many, deep, s, rfl, h1, h2, h3, h4, h5, h6, q⟩ := q
  obtain ⟨e1, d1, o1, o2⟩ := W.dk h
  cases rl with
  | cons r1 rr =>
    cases rr with
    | cons r2 rr =>
      cases rr with
      | cons r3 rr =>
        cases r1; cases r2; cases r3; cases rr
        refine ⟨p, n, many, deep, s, rfl, d1, h1, h2, h3, h4, h5, h6, fun m' ws hk hd hc hl hf a ha ha2 => ?_⟩
        obtain ⟨W2, s2⟩ := W.deckK h hd hk
        have P1 := Priv.new W ha
        have P2 : Priv (⟨c.f, c.O, m'⟩ : C3) a := ⟨P1.f, P1.o⟩
        exact k (.xtp (ws.map tI)) (n + 1000000) { (⟨c.f, c.O, m'⟩ : C3) with f := mup c.f a (.xtp (wD ws)) } _ (W2.freeze P2 ha2) (s2.freeze P2 (.inl ha)) (.xtp mup_same (rvs_tW ws)) (q ws hc hl hf)
/-! ### rows of keys -/
theorem sgnP_tI {s : Int} {v : List Int} (h : ∀ i ∈ v, 0 ≤ i ∧ i < s) : sgnP s (tI v) = true := by
  show (v.map PV.int).all (intP 0 (s - 1)) = true
  rw [List.all_map, List.all_eq_true]
  intro i hi
  have := h i hi
  show (decide (0 ≤ i) && decide (i ≤ s - 1)) = true
  rw [decide_eq_true (by omega), decide_eq_true (by omega)]
  rfl
theorem xIn_tW {w : List Int} {ws : List (List Int)} {Q : Rs → Prop} (q : Q (.va (.bl (decide (w ∈ ws))))) : xIn (tI w) (tW ws) Q :=
  ⟨_, ⟨noD_tI w, noDs_tIs ws, by rw [ppv_tI]; exact shaped_tints w, by rw [ppvs_tIs]; exact shaped_tw ws, rfl⟩, by rw [ppvs_tIs, ppv_tI, any_words]; exact q⟩
def w_joined : WSp := fun l Q => ∃ (ws : List (List Int)) (ks : List Nat), l = [tW ws, tI (ks.map fun k : Nat => (k : Int))] ∧ ks.length ≤ 1000 ∧ (∀ w ∈ ws, w.length ≤ 100) ∧ (∀ k ∈ ks, k < ws.length) ∧ Q (tI (joinL ws ks))
/-- slots: 0 code, 1 keys, 2 found, 3 key -/
abbrev sp_joined : DSp := lV w_joined
theorem cv_joined : CallV sp_joined w_joined := cv_lV _
def b_joined : DS := (dSeq (dAsg (dLst dNil) (gN 2))
  (dSeq (dFor (iAny (dVar 1)) (gN 3) (dExpr (dM mExtend (dVar 2) (dCons (dOp aIxA (dVar 0) (dVar 3)) dNil))))
  (dRet (dB1 bTuple (dCons (dVar 2) dNil)))))
def v_joined_2L : WS := (vExpr (vExt 2 (vF (vOp xIx (vVar 0) (vVar 3)))))
def v_joined_2 : WS := (vRet (vF (vB1 xTuple (vVar 2))))
def v_joined_1 : WS := vSeq (vFor (vAnyI (vF (vMov 1))) (vG 3) v_joined_2L) v_joined_2
def v_joined : WS := vSeq (vAsgN 2 (vLst vNil)) v_joined_1
theorem sj_joined : SJ v_joined b_joined := (sj_seq (sj_asgN 2 (vj_lst aj_nil)) (sj_seq (sj_for (vs := [3]) (wj_any (fj (vj_mov 1))) (gj_n 3 (by decide)) (sj_expr (vj_ext (i := 2) (fj (vj_op ov_ix (vj_var 0) (vj_var 3)))))) (sj_ret (fj (vj_b1 bv_tuple (vj_var 2))))))
abbrev n_joined : Nat := 4
theorem hw_joined : ∀ l Q0 E, Ends0 E Q0 → w_joined l Q0 → v_joined E (vstart 4 l) := by
  rintro l Q0 E hE ⟨ws, ks, rfl, hk, hw, hlt, q⟩
  show v_joined _ [.va (tW ws), .va (tI (ks.map fun k : Nat => (k : Int))), .no, .no]
  unfold v_joined v_joined_1
  simp_arith
  repeat ((with_reducible refine And.intro ?_ ?_); focus (first | exact True.intro | omega | exact ls (by omega) | (simp only [List.length_append, List.length_cons, List.length_nil, List.length_map, List.length_replicate, List.length_reverse, List.length_tail, List.length_take, List.length_drop, List.length_singleton, List.length_range, itemsP, rangeP]; first | omega | exact ls (by omega) | exact lsl (by omega)) | decide | simp [itemsP]))
  rw [List.map_map]
  refine vloop_list (fun done env => ∃ s3, env = [.va (tW ws), .va (tI (ks.map fun k : Nat => (k : Int))), .ow (.lst ((joinL ws done).map .int)), s3]) ⟨_, rfl⟩ ?_ ?_
  · rintro env ⟨s3, rfl⟩
    unfold v_joined_2
    simp_arith
    exact hE.rt _ _ q
  · rintro done k r env E' e hT ⟨s3, rfl⟩
    unfold v_joined_2L
    simp_arith
    have hk2 : k < ws.length := hlt k (by rw [e]; simp)
    have e1 : atI (ws.map tI) (k : Int) = some (tI (ws.getD k [])) := by
      rw [atI_map, atI_nat (List.getElem?_eq_getElem hk2), getDJ_eq hk2]
      rfl
    have hl := joinL_len hw ks
    have hl2 := joinL_len hw (done ++ [k])
    have hl3 : (done ++ [k]).length ≤ ks.length := by rw [e]; simp
    have hl4 : (done ++ [k]).length * 100 ≤ 1000 * 100 := Nat.mul_le_mul_right _ (by omega)
    refine ⟨_, e1, ?_⟩
    simp_arith
    rw [joinL_app, joinL_cons, joinL_nil, List.append_nil, List.length_append] at hl2
    refine ⟨(ws.getD k []).map .int, .inl rfl, by simp only [List.length_map]; exact ls (by omega), hT.nx _ ⟨.va (.int k), ?_⟩⟩
    rw [joinL_app, joinL_cons, joinL_nil, List.append_nil, List.map_append]
    rfl
theorem hp_joined : ∀ ds m Q, sp_joined ds m Q → b_joined { nx := fun _ m' => Q .non m', rt := Q } (dstart 4 ds) m := body_f 4 sj_joined hw_joined
def w_read : WSp := fun l Q => ∃ (s : Int) (ws : List (List Int)) (v : List Int) (ks : List Nat), l = [.int s, .xtp (ws.map tI), tI v] ∧ v.length ≤ 20000 ∧ 0 < ws.length ∧ (∀ i ∈ v, 0 ≤ i ∧ i < s) ∧ ws.length ≤ 100 ∧ (∀ w ∈ ws, w.length ≤ 100) ∧ readL ws [] 0 [] v = .ok ks ∧ Q (tI (ks.map fun k : Nat => (k : Int)))
/-- slots: 0 signs, 1 code, 2 value, 3 found, 4 part, 5 place, 6 sign, 7 word -/
abbrev sp_read : DSp := lV w_read
theorem cv_read : CallV sp_read w_read := cv_lV _
def b_read : DS := (dSeq (dIf (dNotT (dB (dCall sp_are_signs (dCons (dVar 0) (dCons (dVar 2) dNil))))) dNever dSkip)
  (dSeq (dAsg (dTup (dCons (dLst dNil) (dCons (dTup dNil) dNil))) (gT 2 (gsCons (gN 3) (gsCons (gN 4) gsNil))))
  (dSeq (dFor (DL.iEnum (dCons (dVar 2) dNil)) (gT 2 (gsCons (gN 5) (gsCons (gN 6) gsNil))) (dSeq (dAsg (dOp aAdd (dVar 4) (dTup (dCons (dVar 6) dNil))) (gN 4))
  (dSeq (dIf (dNotT (dB (dB1 bAny (dCons (dLc (iAny (dWk (dVar 1))) (gN 7) dYes (dCall sp_is_start (dCons (dVar 4) (dCons (dVar 7) dNil))) [7]) dNil)))) dNever dSkip)
  (dIf (dB (dOp aIn (dVar 4) (dWk (dVar 1)))) (dSeq (dExpr (dM mAppend (dVar 3) (dCons (dXidx (dVar 1) (dCons (dVar 4) dNil)) dNil)))
  (dAsg (dTup dNil) (gN 4))) dSkip))))
  (dSeq (dIf (dB (dOp aNe (dVar 4) (dTup dNil))) dNever dSkip)
  (dRet (dB1 bTuple (dCons (dVar 3) dNil)))))))
def v_read_3L_3A_1 : WS := (vAsgN 4 (vTup vNil))
def v_read_3L_3A : WS := vSeq (vExpr (vApp 3 (vF (vXidx (vVar 1) (vCons (vF (vMov 4)) vNil))))) v_read_3L_3A_1
def v_read_3L_2 : WS := (vIf (vB (vOp xIn (vVar 4) (vWk (vVar 1)))) v_read_3L_3A vSkip)
def v_read_3L_1 : WS := vSeq (vIf (vNotT (vB (vB1 xAny (vLc (vAnyI (vF (vWk (vVar 1)))) (vG 7) vYes (vF (vCall w_is_start (vCons (vF (vMov 4)) (vCons (vF (vMov 7)) vNil)))) [7])))) vNever vSkip) v_read_3L_2
def v_read_3L : WS := vSeq (vAsgN 4 (vOp xAdd (vVar 4) (vTup (vCons (vF (vMov 6)) vNil)))) v_read_3L_1
def v_read_4 : WS := (vRet (vF (vB1 xTuple (vVar 3))))
def v_read_3 : WS := vSeq (vIf (vB (vOp xNe (vVar 4) (vTup vNil))) vNever vSkip) v_read_4
def v_read_2 : WS := vSeq (vFor (vEnum (vCons (vF (vMov 2)) vNil)) (vGT 2 (vGcons (vG 5) (vGcons (vG 6) vGnil))) v_read_3L) v_read_3
def v_read_1 : WS := vSeq (vAsgM [3, 4] [(vLst vNil), (vTup vNil)]) v_read_2
def v_read : WS := vSeq (vIf (vNotT (vB (vCall w_are_signs (vCons (vF (vMov 0)) (vCons (vF (vMov 2)) vNil))))) vNever vSkip) v_read_1
theorem sj_read : SJ v_read b_read := (sj_seq (sj_if (tj_not (tj_b (vj_call cv_are_signs (aj_cons (fj (vj_mov 0)) (aj_cons (fj (vj_mov 2)) aj_nil))))) sj_never sj_skip) (sj_seq (sj_asgM [3, 4] (RsJ.cons (vj_lst aj_nil) (RsJ.cons (vj_tup aj_nil) RsJ.nil))) (sj_seq (sj_for (vs := [5, 6]) (wj_enum (aj_cons (fj (vj_mov 2)) aj_nil)) (gj_t (gjs_cons (gj_n 5 (by decide)) (gjs_cons (gj_n 6 (by decide)) gjs_nil))) (sj_seq (sj_asgN 4 (vj_op ov_add (vj_var 4) (vj_tup (aj_cons (fj (vj_mov 6)) aj_nil)))) (sj_seq (sj_if (tj_not (tj_b (vj_b1 bv_any (vj_lc (wj_any (fj (vj_wk (vj_var 1)))) (gj_n 7 (by decide)) tj_yes (fj (vj_call cv_is_start (aj_cons (fj (vj_mov 4)) (aj_cons (fj (vj_mov 7)) aj_nil)))))))) sj_never sj_skip) (sj_if (tj_b (vj_op ov_in (vj_var 4) (vj_wk (vj_var 1)))) (sj_seq (sj_expr (vj_app (i := 3) (fj (vj_xidx (vj_var 1) (aj_cons (fj (vj_mov 4)) aj_nil))))) (sj_asgN 4 (vj_tup aj_nil))) sj_skip)))) (sj_seq (sj_if (tj_b (vj_op ov_ne (vj_var 4) (vj_tup aj_nil))) sj_never sj_skip) (sj_ret (fj (vj_b1 bv_tuple (vj_var 3))))))))
abbrev n_read : Nat := 8
theorem hw_read : ∀ l Q0 E, Ends0 E Q0 → w_read l Q0 → v_read E (vstart 8 l) := by
  rintro l Q0 E hE ⟨s, ws, v, ks, rfl, hv, hw0, hsg, hwl, hww, hr, q⟩
  show v_read _ [.va (.int s), .va (.xtp (ws.map tI)), .va (tI v), .no, .no, .no, .no, .no]
  unfold v_read v_read_1
  simp_arith [w_are_signs, ↓vAsgM, ↓vRs, ↓setRs]
  refine ⟨fun m e => (by cases e; rw [List.length_map]; omega), ?_⟩
  rw [sgnP_tI hsg, if_neg (by decide)]
  refine ⟨by decide, ?_⟩
  unfold v_read_2
  simp_arith
  refine vloop_by (fun rest env => ∃ (part : List Int) (place : Nat) (acc : List Nat) (r : List Int) (x5 x6 : Sl), rest = enumP place (r.map .int) ∧ readL ws part place acc r = .ok ks ∧ part.length + r.length ≤ 20000 ∧ acc.length + part.length + r.length ≤ 20000 ∧
    env = [.va (.int s), .va (.xtp (ws.map tI)), .va (tI v), .ow (.lst ((acc.map fun k : Nat => (k : Int)).map .int)), .va (tI part), x5, x6, .no]) ?_ ?_ _ _ ⟨[], 0, [], v, .no, .no, rfl, hr, by simpa using hv, by simpa using hv, rfl⟩
  · rintro env ⟨part, place, acc, r, x5, x6, he, hrd, hl1, hl2, rfl⟩
    cases r with
    | cons x r => cases he
    | nil =>
      rw [readL] at hrd
      by_cases hp : part = []
      · subst hp
        rw [if_pos rfl] at hrd
        have hrd : acc = ks := by injection hrd
        subst hrd
        unfold v_read_3
        simp_arith
        rw [show (!decide True) = false from rfl, if_neg (by decide)]
        unfold v_read_4
        simp_arith
        exact hE.rt _ _ q
      · rw [if_neg hp] at hrd
        cases hrd
  · rintro x rest env E' hT ⟨part, place, acc, r, x5, x6, he, hrd, hl1, hl2, rfl⟩
    cases r with
    | nil => cases he
    | cons y r =>
      rw [List.map_cons, enumP] at he
      obtain ⟨rfl, rfl⟩ := List.cons.inj he
      rw [readL] at hrd
      by_cases h1 : (ws.any fun w => isPre (part ++ [y]) w) = true
      · rw [if_pos h1] at hrd
        have hl1 : part.length + r.length + 1 ≤ 20000 := by simpa [Nat.add_assoc] using hl1
        have hl2 : acc.length + part.length + r.length + 1 ≤ 20000 := by simpa [Nat.add_assoc] using hl2
        unfold v_read_3L
        simp_arith
        refine ⟨by decide, ls (by omega), ?_⟩
        unfold v_read_3L_1
        simp_arith [↓vWk]
        refine ⟨hasT_map hw0, ?_⟩
        refine vlc_map (fun w => .bl (isPre (part ++ [y]) w)) (ls (by omega)) (fun w hw N hN => ?_) ?_
        · simp_arith [w_is_start, w__law_starts]
          exact hN _ rfl
        · rw [map_blP]
          simp_arith
          rw [any_id, h1, if_neg (by decide)]
          unfold v_read_3L_2
          simp_arith [↓vWk]
          refine ⟨hasT_map hw0, xIn_tW ?_⟩
          by_cases hm : part ++ [y] ∈ ws
          · rw [if_pos hm] at hrd
            rw [decide_eq_true hm]
            refine ⟨_, rfl, ?_⟩
            rw [if_pos rfl]
            unfold v_read_3L_3A
            simp_arith [↓vXidx]
            refine ⟨ws, rfl, hm, by simp only [List.length_map]; unfold sizeLine; omega, ?_⟩
            unfold v_read_3L_3A_1
            simp_arith
            refine hT.nx _ ⟨[], place + 1, acc ++ [ws.idxOf (part ++ [y])], r, .va (.int place), .va (.int y), rfl, hrd, by simp; omega, by simp; omega, ?_⟩
            rw [List.map_append, List.map_append]
            rfl
          · rw [if_neg hm] at hrd
            rw [decide_eq_false hm]
            refine ⟨_, rfl, ?_⟩
            rw [if_neg (by decide)]
            exact hT.nx _ ⟨part ++ [y], place + 1, acc, r, _, _, rfl, hrd, by simp; omega, by simp; omega, rfl⟩
      · rw [if_neg h1] at hrd
        cases hrd
theorem hp_read : ∀ ds m Q, sp_read ds m Q → b_read { nx := fun _ m' => Q .non m', rt := Q } (dstart 8 ds) m := body_f 8 sj_read hw_read
end DL
/-! Odd values written; values of a row's kind. -/
namespace DL
open PySem PySem.Spec PyProof.Rows L2
/-! ### odd values can be written -/
def shortB : PV → Bool
  | .tup l => decide (l.length ≤ 100)
  | .xtp _ => false
  | _ => true
theorem odd_all : oddL.all (fun v => lfD v && (ppv v).showable && (ppv v).leavesShort 60 && decide ((ppv v).depth ≤ 3) && decide ((ppv v).weight ≤ 150) && shortB v) = true := by decide +kernel
theorem odd_wr {v : PV} (h : v ∈ oddL) : Wr v 3 150 := by
  have := List.all_eq_true.mp odd_all v h
  simp only [Bool.and_eq_true, decide_eq_true_eq] at this
  obtain ⟨⟨⟨⟨⟨h1, h2⟩, h3⟩, h4⟩, h5⟩, _⟩ := this
  exact ⟨h1, h2, h3, h4, h5⟩
theorem odd_short {v : PV} (h : v ∈ oddL) : ShortT v := by
  have := List.all_eq_true.mp odd_all v h
  simp only [Bool.and_eq_true, decide_eq_true_eq] at this
  have h2 := this.2
  intro l e
  cases v with
  | tup l' =>
    cases e
    have h2 : l.length ≤ 100 := of_decide_eq_true h2
    omega
  | xtp l' => cases h2
  | _ => cases e
theorem Wr.text {v : PV} {d w : Nat} (h : Wr v d w) : Wr (.str (ppv v).shown) 0 (62 * w + 60) := ⟨by rw [lfD], by rw [ppv]; exact h.rp.text⟩
theorem rng_ge (f : Nat) : ∀ n, (List.range n).filter (fun i => decide (f ≤ i)) = (List.range (n - f)).map (f + ·)
  | 0 => by simp
  | n + 1 => by
    rw [List.range_succ, List.filter_append, rng_ge f n]
    by_cases h : f ≤ n
    · rw [show n + 1 - f = (n - f) + 1 by omega, List.range_succ, List.map_append, List.filter_cons_of_pos (by simpa using h)]
      simp
      omega
    · rw [show n + 1 - f = 0 by omega, show n - f = 0 by omega, List.filter_cons_of_neg (by simpa using h)]
      rfl
theorem placed_le (s M : Nat) : ∀ (row : List Nat) (b : Nat), (placedM s M b row).length ≤ row.length
  | [], b => by rw [placedM]; exact Nat.le_refl _
  | L :: r, b => by
    rw [placedM]
    cases nextW s M b L with
    | none => exact Nat.zero_le _
    | some w => exact Nat.succ_le_succ (placed_le s M r _)
theorem errP_wr (s : Nat) (v : PV) : Wr (errP s v) 0 50 := by
  unfold errP
  by_cases h : rowP v = true
  · rw [if_pos h]
    split
    · exact Wr.non.mono (Nat.le_refl _) (by decide)
    · obtain ⟨h1, h2, h3, h4⟩ := rowP_tN h
      have h5 := placed_le s 16 (rowOf v) 0
      have h6 : fitN s (rowOf v) ≤ 16 := Nat.le_trans h5 h3
      exact (Wr.int (k := 10) (Int.natAbs_natCast _ ▸ Nat.lt_of_le_of_lt h6 (by decide)) (by decide)).mono (Nat.le_refl _) (by decide)
  · rw [if_neg h]
    exact ⟨by rw [lfD], by rw [ppv]; exact ⟨by decide +kernel, by decide +kernel, by decide +kernel, by decide +kernel⟩⟩
theorem rowP_ok {row : List Nat} (h1 : row ≠ []) (h2 : row.length ≤ 16) (h3 : ∀ L ∈ row, L ≤ 16) : rowP (tN row) = true := by
  have hp := List.length_pos_iff.mpr h1
  show (decide (1 ≤ ((rI row).map PV.int).length) && decide (((rI row).map PV.int).length ≤ 16) && ((rI row).map PV.int).all (intP 0 16)) = true
  rw [List.length_map, rI_len, decide_eq_true (show 1 ≤ row.length from hp), decide_eq_true h2]
  refine List.all_eq_true.mpr fun y hy => ?_
  obtain ⟨L, hL, rfl⟩ := List.mem_map.mp hy
  obtain ⟨L2, hL2, rfl⟩ := List.mem_map.mp hL
  have := h3 L2 hL2
  show decide _ = true
  exact decide_eq_true (by omega)
def OkV (x : PV) : Prop := ShortT x ∧ Wr x 5 3000
theorem OkV.odd {x : PV} (h : x ∈ oddL) : OkV x := ⟨odd_short h, (odd_wr h).mono (by decide) (by decide)⟩
theorem short_tup {l : List PV} (h : l.length ≤ 100) : ShortT (.tup l) := fun m e => by
  injection e with e
  subst e
  omega
theorem OkV.tup {l : List PV} (h : ∀ y ∈ l, Wr y 3 150) (hl : l.length ≤ 16) : OkV (.tup l) := ⟨short_tup (by omega), (WrL.all h hl).tup.mono (by decide) (by decide)⟩
theorem OkV.tI {w : List Int} (h : ∀ i ∈ w, i.natAbs < 2 ^ 5) (hl : w.length ≤ 40) : OkV (tI w) := ⟨short_tup (by rw [List.length_map]; omega), (Wr.tI (by decide) h hl).mono (by decide) (by decide)⟩
theorem OkV.lI {w : List Int} (h : ∀ i ∈ w, i.natAbs < 2 ^ 5) (hl : w.length ≤ 40) : OkV (.lst (w.map .int)) := ⟨fun m e => (by cases e), (WrL.ints (by decide) h hl).lst.mono (by decide) (by decide)⟩
theorem rep_flat (k : Nat) (x : PV) : (List.replicate k [x]).flatten = List.replicate k x := by
  induction k with
  | zero => rfl
  | succ k ih => rw [List.replicate_succ, List.replicate_succ, List.flatten_cons, ih]; rfl
theorem OkV.rep {k : Nat} {i : Int} (hi : i.natAbs < 2 ^ 5) (hk : k ≤ 40) : OkV (.tup (List.replicate k [PV.int i]).flatten) := by
  rw [rep_flat]
  have := OkV.tI (w := List.replicate k i) (fun j hj => by rw [List.eq_of_mem_replicate hj]; exact hi) (by rw [List.length_replicate]; exact hk)
  unfold DL.tI at this
  rw [List.map_replicate] at this
  exact this
end DL
/-! Weights, totals, what weights show. -/
namespace DL
open PySem PySem.Spec PyProof.Rows L2
local macro_rules
  | `(tactic| simp_arith) => `(tactic| simp only [↓vSeq, ↓vSkip, ↓vAsgN, ↓vAsg, ↓vPar, ↓vIf, ↓vRet, ↓vExpr, ↓vFor, ↓vSetI, ↓vBreak, ↓vCont, ↓vF, ↓vVar, ↓vMov, ↓vC, ↓vNil, ↓vCons, ↓vTup, ↓vLst, ↓vDisp, ↓vPairs, ↓vNewD, ↓vOp, ↓vChain, ↓vB, ↓vNotT, ↓vAndT, ↓vOrT, ↓vYes, ↓vAnd, ↓vOr, ↓vNot, ↓vIfE, ↓vNeg, ↓vNo, ↓vPart, ↓vSl, ↓vRev_x, ↓vB1, ↓vIsi, ↓vAnyI_x, ↓vR1, ↓vR2, ↓vR3, ↓vEnum_x, ↓vZip2_x, ↓vG, ↓vGnil, ↓vGcons, ↓vGT, ↓vGL, ↓vLc, ↓vCall, ↓vCallD, ↓vApp, ↓vPop0, ↓vPop1, ↓vExt, ↓vDeck, ↓xIs, ↓xIsNot, Rs.v, SameR, Same, same_self, same_cons, reduceCtorEq, or_true, true_or, or_false, false_or, and_false, false_and, toSl, notBr, wipeP, List.set_cons_zero, List.set_cons_succ, List.getElem?_cons_zero, List.getElem?_cons_succ, Option.some.injEq, Sl.ow.injEq, Sl.va.injEq, Sl.dk.injEq, PV.int.injEq, PV.bl.injEq, PV.tup.injEq, PV.lst.injEq, PV.dct.injEq, Rs.va.injEq, List.cons.injEq, List.length_cons, List.length_nil, exists_eq_left', exists_eq_left, exists_eq', exists_const, true_and, and_true, and_self, if_true, if_false, Bool.false_eq_true, reduceIte, and_assoc, exists_and_left, exists_and_right, Bool.not_true, Bool.not_false, at_zero, at_one, at_two, ↓xAdd_int, ↓xAdd_str, ↓xAdd_tup, ↓xAdd_lst, ↓xSub_int, ↓xMul_tup, ↓xMul_lst, ↓xPow_int, ↓xLt_int, ↓xLe_int, ↓xGt_int, ↓xGe_int, ↓xIx_tup, ↓xIx_lst, ↓xIx_str, ↓xIx_dct, ↓xLen_tup, ↓xLen_lst, ↓xLen_str, ↓xAbs_int, ↓xList_tup, ↓xList_lst, ↓xTuple_tup, ↓xTuple_lst, ↓xSl_tup, ↓xSl_lst, ↓xRev_tup, ↓xRev_lst, ↓xMin2_int, ↓xMax2_int, ↓xItems_tup, ↓xItems_lst, ↓xItems_str, ↓xEnum_tup, ↓xEnum_lst, ↓xZip_tup, ↓xZip_lst, ↓xZip_WW, ↓xZip_IW, ↓xZip_WI, ↓xZip_II, ↓xZip_tI, ↓xZip_It, keyP'_int, keyP'_str, isNo_non, isNo_bl, isNo_int, isNo_str, isNo_tup, isNo_lst, isNo_dct, isInt_non, isInt_bl, isInt_int, isInt_str, isInt_tup, isInt_lst, isInt_dct, isInt_tI, isInt_tW, isBool_non, isBool_bl, isBool_int, isBool_str, isBool_tup, isBool_lst, isBool_dct, isBool_tI, isBool_tW, isStrV_non, isStrV_bl, isStrV_int, isStrV_str, isStrV_tup, isStrV_lst, isStrV_dct, isStrV_tI, isStrV_tW, isTupP_non, isTupP_bl, isTupP_int, isTupP_str, isTupP_tup, isTupP_lst, isTupP_dct, isLstP_non, isLstP_bl, isLstP_int, isLstP_str, isLstP_tup, isLstP_lst, isLstP_dct, isLstP_tI, isLstP_tW, ↓xLen_tI, ↓xLen_tW, ↓xIx_tI, ↓xIx_tW, ↓xIx_lI, ↓xIx_lW, ↓xAdd_tI, ↓xAdd_tI1, ↓xAdd_1tI, ↓xAdd_tW, ↓xAdd_tW1, ↓xAdd_1tW, ↓xSl_tI, ↓xSl_tW, ↓xList_tI, ↓xList_tW, ↓xTuple_lI, ↓xTuple_lW, ↓xTuple_tI, ↓xTuple_tW, ↓xLt_tI, ↓xLe_tI, ↓xGt_tI, ↓xGe_tI, ↓xLt_tW, ↓xLe_tW, ↓xEq_tI, ↓xNe_tI, ↓xEq_tI0, ↓xNe_tI0, ↓xEq_tW, ↓xNe_tW, ↓xEq_tW0, ↓xNe_tW0, ↓xEq_int, ↓xNe_int, ↓xEq_bl, ↓xNe_bl, ↓xEq_lI, ↓xNe_lI, ↓xEq_lI0, ↓xNe_lI0, ↓xEq_lW, ↓xNe_lW, ↓xEq_lW0, ↓xNe_lW0, isTup_tI, isTup_tW, isNo_tI, isNo_tW, ↓xRev_tI, ↓xRev_tW, ↓xItems_tI, ↓xItems_tW, ↓xEnum_tI, ↓xEnum_tW, tI_inj, tW_inj, Int.reduceToNat, Int.zero_add, ↓xSum_lI, ↓xAll_l, ↓xAny_l, cut_tl, ↓xSumA_lI, ↓xSumA_tI, ↓xMaxA_tI, ↓xMaxA_lI, ↓xMinA_tI, ↓xMinA_lI, Int.natCast_inj, atI_map, ex_map, Nat.zero_le])
local macro_rules
  | `(tactic| simp_arith [$args,*]) => `(tactic| simp only [↓vSeq, ↓vSkip, ↓vAsgN, ↓vAsg, ↓vPar, ↓vIf, ↓vRet, ↓vExpr, ↓vFor, ↓vSetI, ↓vBreak, ↓vCont, ↓vF, ↓vVar, ↓vMov, ↓vC, ↓vNil, ↓vCons, ↓vTup, ↓vLst, ↓vDisp, ↓vPairs, ↓vNewD, ↓vOp, ↓vChain, ↓vB, ↓vNotT, ↓vAndT, ↓vOrT, ↓vYes, ↓vAnd, ↓vOr, ↓vNot, ↓vIfE, ↓vNeg, ↓vNo, ↓vPart, ↓vSl, ↓vRev_x, ↓vB1, ↓vIsi, ↓vAnyI_x, ↓vR1, ↓vR2, ↓vR3, ↓vEnum_x, ↓vZip2_x, ↓vG, ↓vGnil, ↓vGcons, ↓vGT, ↓vGL, ↓vLc, ↓vCall, ↓vCallD, ↓vApp, ↓vPop0, ↓vPop1, ↓vExt, ↓vDeck, ↓xIs, ↓xIsNot, Rs.v, SameR, Same, same_self, same_cons, reduceCtorEq, or_true, true_or, or_false, false_or, and_false, false_and, toSl, notBr, wipeP, List.set_cons_zero, List.set_cons_succ, List.getElem?_cons_zero, List.getElem?_cons_succ, Option.some.injEq, Sl.ow.injEq, Sl.va.injEq, Sl.dk.injEq, PV.int.injEq, PV.bl.injEq, PV.tup.injEq, PV.lst.injEq, PV.dct.injEq, Rs.va.injEq, List.cons.injEq, List.length_cons, List.length_nil, exists_eq_left', exists_eq_left, exists_eq', exists_const, true_and, and_true, and_self, if_true, if_false, Bool.false_eq_true, reduceIte, and_assoc, exists_and_left, exists_and_right, Bool.not_true, Bool.not_false, at_zero, at_one, at_two, ↓xAdd_int, ↓xAdd_str, ↓xAdd_tup, ↓xAdd_lst, ↓xSub_int, ↓xMul_tup, ↓xMul_lst, ↓xPow_int, ↓xLt_int, ↓xLe_int, ↓xGt_int, ↓xGe_int, ↓xIx_tup, ↓xIx_lst, ↓xIx_str, ↓xIx_dct, ↓xLen_tup, ↓xLen_lst, ↓xLen_str, ↓xAbs_int, ↓xList_tup, ↓xList_lst, ↓xTuple_tup, ↓xTuple_lst, ↓xSl_tup, ↓xSl_lst, ↓xRev_tup, ↓xRev_lst, ↓xMin2_int, ↓xMax2_int, ↓xItems_tup, ↓xItems_lst, ↓xItems_str, ↓xEnum_tup, ↓xEnum_lst, ↓xZip_tup, ↓xZip_lst, ↓xZip_WW, ↓xZip_IW, ↓xZip_WI, ↓xZip_II, ↓xZip_tI, ↓xZip_It, keyP'_int, keyP'_str, isNo_non, isNo_bl, isNo_int, isNo_str, isNo_tup, isNo_lst, isNo_dct, isInt_non, isInt_bl, isInt_int, isInt_str, isInt_tup, isInt_lst, isInt_dct, isInt_tI, isInt_tW, isBool_non, isBool_bl, isBool_int, isBool_str, isBool_tup, isBool_lst, isBool_dct, isBool_tI, isBool_tW, isStrV_non, isStrV_bl, isStrV_int, isStrV_str, isStrV_tup, isStrV_lst, isStrV_dct, isStrV_tI, isStrV_tW, isTupP_non, isTupP_bl, isTupP_int, isTupP_str, isTupP_tup, isTupP_lst, isTupP_dct, isLstP_non, isLstP_bl, isLstP_int, isLstP_str, isLstP_tup, isLstP_lst, isLstP_dct, isLstP_tI, isLstP_tW, ↓xLen_tI, ↓xLen_tW, ↓xIx_tI, ↓xIx_tW, ↓xIx_lI, ↓xIx_lW, ↓xAdd_tI, ↓xAdd_tI1, ↓xAdd_1tI, ↓xAdd_tW, ↓xAdd_tW1, ↓xAdd_1tW, ↓xSl_tI, ↓xSl_tW, ↓xList_tI, ↓xList_tW, ↓xTuple_lI, ↓xTuple_lW, ↓xTuple_tI, ↓xTuple_tW, ↓xLt_tI, ↓xLe_tI, ↓xGt_tI, ↓xGe_tI, ↓xLt_tW, ↓xLe_tW, ↓xEq_tI, ↓xNe_tI, ↓xEq_tI0, ↓xNe_tI0, ↓xEq_tW, ↓xNe_tW, ↓xEq_tW0, ↓xNe_tW0, ↓xEq_int, ↓xNe_int, ↓xEq_bl, ↓xNe_bl, ↓xEq_lI, ↓xNe_lI, ↓xEq_lI0, ↓xNe_lI0, ↓xEq_lW, ↓xNe_lW, ↓xEq_lW0, ↓xNe_lW0, isTup_tI, isTup_tW, isNo_tI, isNo_tW, ↓xRev_tI, ↓xRev_tW, ↓xItems_tI, ↓xItems_tW, ↓xEnum_tI, ↓xEnum_tW, tI_inj, tW_inj, Int.reduceToNat, Int.zero_add, ↓xSum_lI, ↓xAll_l, ↓xAny_l, cut_tl, ↓xSumA_lI, ↓xSumA_tI, ↓xMaxA_tI, ↓xMaxA_lI, ↓xMinA_tI, ↓xMinA_lI, Int.natCast_inj, atI_map, ex_map, Nat.zero_le, $args,*])
/-! ### draws, some for each item -/
theorem vlc_drawN {g : WG} {te : WF} {vs : List Nat} {Q : List PV → Ev → Prop} {u : Fix Q} {env : Ev} {l : List PV} (d : Nat) (j : Nat) (p : Addr × Addr) (n : Nat) (P : PV → PV → Prop) (hz : l.length ≤ sizeLine) (he : (wipeP env vs).set j (.dk p n) = wipeP env vs)
    (hel : ∀ x ∈ l, ∀ k (N : PV → Ev → Prop), k ≤ n + l.length * d → (∀ v env4, P x v → wipeP env4 vs = (wipeP env vs).set j (.dk p (k + d)) → N v env4) → g x ((wipeP env vs).set j (.dk p k)) fun env2 => te env2 N)
    (hq : ∀ acc, acc.length = l.length → (∀ y ∈ l.zip acc, P y.1 y.2) → Q acc ((wipeP env vs).set j (.dk p (n + l.length * d)))) : vLcL g vYes te vs Q u l [] env := by
  refine vlc_by (fun r acc e => ∃ done, l = done ++ r ∧ acc.length = done.length ∧ (∀ y ∈ done.zip acc, P y.1 y.2) ∧ wipeP e vs = (wipeP env vs).set j (.dk p (n + done.length * d))) (fun acc e ⟨done, hl, h1, h2, h3⟩ => ?_) (fun x r acc e N1 N2 ⟨done, hl, h1, h2, h3⟩ g1 g2 => ?_) _ _ _ ⟨[], rfl, rfl, (by intro v hv; cases hv), by rw [List.length_nil, Nat.zero_mul]; exact he.symm⟩
  · rw [List.append_nil] at hl
    subst hl
    rw [h3]
    exact hq acc h1 h2
  · rw [h3]
    have hll : done.length + 1 ≤ l.length := by rw [hl, List.length_append, List.length_cons]; omega
    have := hel x (by rw [hl]; simp) (n + done.length * d) N1 (Nat.add_le_add_left (Nat.mul_le_mul_right _ (by omega)) _) fun v env4 hv h4 => g1 v env4 ⟨done ++ [x], by rw [hl, List.append_assoc]; rfl, by simp [h1], fun y hy => by
      rw [List.zip_append h1.symm] at hy
      rcases List.mem_append.mp hy with z | z
      · exact h2 y z
      · rw [List.mem_singleton.mp z]; exact hv, by rw [wipe_wipeP, h4, List.length_append, List.length_singleton, Nat.add_mul, Nat.one_mul]; simp [Nat.add_assoc]⟩ (by omega)
    simp only [vYes]
    exact this
/-! ### weights -/
def maxW : Int := 1000000000000
abbrev c_MAX_WEIGHT : D := .int 1000000000000
def weightsP (many : Int) : PV → Bool
  | .tup l => decide ((l.length : Int) = many) && l.all (intP 0 maxW)
  | _ => false
def w_are_weights : WSp := fun l Q => ∃ many v, l = [.int many, v] ∧ ShortT v ∧ Q (.bl (weightsP many v))
/-- slots: 0 many, 1 value, 2 item -/
abbrev sp_are_weights : DSp := lV w_are_weights
theorem cv_are_weights : CallV sp_are_weights w_are_weights := cv_lV _
def b_are_weights : DS := (dSeq (dIf (dOrT (dNotT (dB (dIsi "tuple" (dVar 1)))) (dB (dOp aNe (dB1 bLen (dCons (dVar 1) dNil)) (dVar 0)))) (dRet (dC (.bl false))) dSkip)
  (dRet (dB1 bAll (dCons (dLc (iAny (dVar 1)) (gN 2) dYes (dCall sp_is_integer (dCons (dVar 2) (dCons (dC (.int 0)) (dCons (dC c_MAX_WEIGHT) dNil)))) [2]) dNil))))
def v_are_weights_1 : WS := (vRet (vF (vB1 xAll (vLc (vAnyI (vF (vMov 1))) (vG 2) vYes (vF (vCall w_is_integer (vCons (vF (vMov 2)) (vCons (vF (vC (.int 0))) (vCons (vF (vC (.int 1000000000000))) vNil))))) [2]))))
def v_are_weights : WS := vSeq (vIf (vOrT (vNotT (vB (vIsi isTupP (vVar 1)))) (vB (vOp xNe (vB1 xLen (vVar 1)) (vVar 0)))) (vRet (vF (vC (.bl false)))) vSkip) v_are_weights_1
theorem sj_are_weights : SJ v_are_weights b_are_weights := (sj_seq (sj_if (tj_or (tj_not (tj_b (vj_isi isT_tuple (vj_var 1)))) (tj_b (vj_op ov_ne (vj_b1 bv_len (vj_var 1)) (vj_var 0)))) (sj_ret (fj (vj_c (v := (.bl false)) fun _ => .bl _))) sj_skip) (sj_ret (fj (vj_b1 bv_all (vj_lc (wj_any (fj (vj_mov 1))) (gj_n 2 (by decide)) tj_yes (fj (vj_call cv_is_integer (aj_cons (fj (vj_mov 2)) (aj_cons (fj (vj_c (v := (.int 0)) fun _ => .int _)) (aj_cons (fj (vj_c (v := (.int 1000000000000)) fun _ => .int _)) aj_nil))))))))))
abbrev n_are_weights : Nat := 3
theorem hw_are_weights : ∀ l Q0 E, Ends0 E Q0 → w_are_weights l Q0 → v_are_weights E (vstart 3 l) := by
  rintro l Q0 E hE ⟨many, v, rfl, hv, q⟩
  show v_are_weights _ [.va (.int many), .va v, .no]
  unfold v_are_weights
  cases v with
  | tup l =>
    have hl := hv l rfl
    have e : weightsP many (.tup l) = (decide ((l.length : Int) = many) && l.all (intP 0 maxW)) := rfl
    simp_arith
    by_cases h1 : (l.length : Int) = many
    · rw [decide_eq_true h1, Bool.true_and] at e
      rw [decide_eq_true h1]
      simp_arith
      unfold v_are_weights_1
      simp_arith
      refine vlc_mapI (fun x => .bl (intP 0 maxW x)) (lsl hl) (fun x hx N hN => ?_) ?_
      · simp_arith [w_is_integer]
        exact hN _ rfl
      · rw [map_blP]
        simp_arith
        rw [all_id, ← e]
        exact hE.rt _ _ q
    · rw [decide_eq_false h1, Bool.false_and] at e
      rw [decide_eq_false h1]
      rw [e] at q
      simp_arith
      exact hE.rt _ _ q
  | xtp l => exact hv.nx.elim
  | _ =>
    simp_arith
    exact hE.rt _ _ q
theorem hp_are_weights : ∀ ds m Q, sp_are_weights ds m Q → b_are_weights { nx := fun _ m' => Q .non m', rt := Q } (dstart 3 ds) m := body_f 3 sj_are_weights hw_are_weights
/-! ### totals -/
def totI (ws row : List Int) : Int := ((ws.zip row).map fun x => x.1 * x.2).sum
def w_total : WSp := fun l Q => ∃ ws row, l = [tI ws, tI row] ∧ ws.length ≤ 100000 ∧ (∀ i ∈ ws, 0 ≤ i ∧ i ≤ maxW) ∧ Q (.int (totI ws row))
/-- slots: 0 weights, 1 row, 2 weight, 3 length -/
abbrev sp_total : DSp := lV w_total
theorem cv_total : CallV sp_total w_total := cv_lV _
def b_total : DS := (dRet (dB1 bSumA (dCons (dLc (iZip2 (dCons (dVar 0) (dCons (dVar 1) dNil))) (gT 2 (gsCons (gN 2) (gsCons (gN 3) gsNil))) dYes (dOp aMul (dVar 2) (dVar 3)) [2, 3]) dNil)))
def v_total : WS := (vRet (vF (vB1 xSumA (vLc (vZip2 (vCons (vF (vMov 0)) (vCons (vF (vMov 1)) vNil))) (vGT 2 (vGcons (vG 2) (vGcons (vG 3) vGnil))) vYes (vF (vOp xMul (vVar 2) (vVar 3))) [2, 3]))))
theorem sj_total : SJ v_total b_total := (sj_ret (fj (vj_b1 bv_sumA (vj_lc (wj_zip2 (aj_cons (fj (vj_mov 0)) (aj_cons (fj (vj_mov 1)) aj_nil))) (gj_t (gjs_cons (gj_n 2 (by decide)) (gjs_cons (gj_n 3 (by decide)) gjs_nil))) tj_yes (fj (vj_op ov_mul (vj_var 2) (vj_var 3)))))))
abbrev n_total : Nat := 4
theorem hw_total : ∀ l Q0 E, Ends0 E Q0 → w_total l Q0 → v_total E (vstart 4 l) := by
  rintro l Q0 E hE ⟨ws, row, rfl, hl, hw, q⟩
  show v_total _ [.va (tI ws), .va (tI row), .no, .no]
  unfold v_total
  simp_arith
  rw [zipP_zip]
  refine vlc_map (fun x => .int (x.1 * x.2)) (by rw [List.length_zip]; exact ls (by omega)) (fun x hx N hN => ?_) ?_
  · obtain ⟨a, b⟩ := x
    have ha := hw a (List.of_mem_zip hx).1
    unfold maxW at ha
    simp_arith [xMul_sm ha.1 (show a < 2 ^ 64 by omega)]
    exact hN _ rfl
  · have e : ∀ l : List (Int × Int), l.map (fun x => PV.int (x.1 * x.2)) = (l.map fun x => x.1 * x.2).map .int := fun l => by rw [List.map_map]; rfl
    rw [e]
    simp_arith
    exact hE.rt _ _ q
theorem hp_total : ∀ ds m Q, sp_total ds m Q → b_total { nx := fun _ m' => Q .non m', rt := Q } (dstart 4 ds) m := body_f 4 sj_total hw_total
def w__law_total : WSp := w_total
/-- slots: 0 weights, 1 row, 2 weight, 3 length -/
abbrev sp__law_total : DSp := lV w__law_total
theorem cv__law_total : CallV sp__law_total w__law_total := cv_lV _
def b__law_total : DS := (dRet (dB1 bSumA (dCons (dLc (iZip2 (dCons (dVar 0) (dCons (dVar 1) dNil))) (gT 2 (gsCons (gN 2) (gsCons (gN 3) gsNil))) dYes (dOp aMul (dVar 2) (dVar 3)) [2, 3]) dNil)))
def v__law_total : WS := (vRet (vF (vB1 xSumA (vLc (vZip2 (vCons (vF (vMov 0)) (vCons (vF (vMov 1)) vNil))) (vGT 2 (vGcons (vG 2) (vGcons (vG 3) vGnil))) vYes (vF (vOp xMul (vVar 2) (vVar 3))) [2, 3]))))
theorem sj__law_total : SJ v__law_total b__law_total := (sj_ret (fj (vj_b1 bv_sumA (vj_lc (wj_zip2 (aj_cons (fj (vj_mov 0)) (aj_cons (fj (vj_mov 1)) aj_nil))) (gj_t (gjs_cons (gj_n 2 (by decide)) (gjs_cons (gj_n 3 (by decide)) gjs_nil))) tj_yes (fj (vj_op ov_mul (vj_var 2) (vj_var 3)))))))
abbrev n__law_total : Nat := 4
theorem hw__law_total : ∀ l Q0 E, Ends0 E Q0 → w__law_total l Q0 → v__law_total E (vstart 4 l) := hw_total
theorem hp__law_total : ∀ ds m Q, sp__law_total ds m Q → b__law_total { nx := fun _ m' => Q .non m', rt := Q } (dstart 4 ds) m := body_f 4 sj__law_total hw__law_total
/-! ### drawn weights -/
theorem acc_ints {lo hi : Int} : ∀ {acc : List PV}, (∀ v ∈ acc, ∃ i : Int, v = .int i ∧ lo ≤ i ∧ i ≤ hi) → ∃ w : List Int, acc = w.map .int ∧ ∀ i ∈ w, lo ≤ i ∧ i ≤ hi
  | [], _ => ⟨[], rfl, (by intro o h; cases h)⟩
  | v :: acc, h => by
    obtain ⟨o, rfl, ho⟩ := h v (by simp)
    obtain ⟨hs, rfl, hh⟩ := acc_ints (acc := acc) fun v hv => h v (by simp [hv])
    exact ⟨o :: hs, rfl, fun y hy => by
      rcases List.mem_cons.mp hy with z | z
      · rw [z]; exact ho
      · exact hh y z⟩
def w__law_weights : WSpD := fun n l Q => ∃ many : Nat, l = [.int many] ∧ n ≤ 2 ^ 39 ∧ many ≤ 1000 ∧ ∀ w : List Int, w.length = many → (∀ i ∈ w, 0 ≤ i ∧ i ≤ maxW) → Q (tI w) (n + 1 + many)
/-- slots: 0 deck, 1 many, 2 wide, 3 key -/
abbrev sp__law_weights : DSp := lVD w__law_weights
theorem cv__law_weights : CallVD sp__law_weights w__law_weights := cv_lVD _
def b__law_weights : DS := (dSeq (dAsg (dCall sp__law_one (dCons (dVar 0) (dCons (dLst (dCons (dC (.int 2)) (dCons (dC (.int 5)) (dCons (dC (.int 30)) (dCons (dOp aPow (dC (.int 10)) (dC (.int 6))) (dCons (dOp aAdd (dOp aPow (dC (.int 10)) (dC (.int 12))) (dC (.int 1))) dNil)))))) dNil))) (gN 2))
  (dRet (dB1 bTuple (dCons (dLc (iR1 (dCons (dVar 1) dNil)) (gN 3) dYes (dCall sp__law_take (dCons (dVar 0) (dCons (dVar 2) dNil))) [3]) dNil))))
def v__law_weights_1 : WS := (vRet (vF (vB1 xTuple (vLc (vR1 (vCons (vF (vMov 1)) vNil)) (vG 3) vYes (vF (vCallD w__law_take 0 (vCons (vF (vMov 2)) vNil))) [3]))))
def v__law_weights : WS := vSeq (vAsgN 2 (vCallD w__law_one 0 (vCons (vF (vLst (vCons (vF (vC (.int 2))) (vCons (vF (vC (.int 5))) (vCons (vF (vC (.int 30))) (vCons (vF (vOp xPow (vC (.int 10)) (vC (.int 6)))) (vCons (vF (vOp xAdd (vOp xPow (vC (.int 10)) (vC (.int 12))) (vC (.int 1)))) vNil))))))) vNil))) v__law_weights_1
theorem sj__law_weights : SJ v__law_weights b__law_weights := (sj_seq (sj_asgN 2 (vj_callD (i := 0) cv__law_one (aj_cons (fj (vj_lst (aj_cons (fj (vj_c (v := (.int 2)) fun _ => .int _)) (aj_cons (fj (vj_c (v := (.int 5)) fun _ => .int _)) (aj_cons (fj (vj_c (v := (.int 30)) fun _ => .int _)) (aj_cons (fj (vj_op ov_pow (vj_c (v := (.int 10)) fun _ => .int _) (vj_c (v := (.int 6)) fun _ => .int _))) (aj_cons (fj (vj_op ov_add (vj_op ov_pow (vj_c (v := (.int 10)) fun _ => .int _) (vj_c (v := (.int 12)) fun _ => .int _)) (vj_c (v := (.int 1)) fun _ => .int _))) aj_nil))))))) aj_nil))) (sj_ret (fj (vj_b1 bv_tuple (vj_lc (wj_r1 (aj_cons (fj (vj_mov 1)) aj_nil)) (gj_n 3 (by decide)) tj_yes (fj (vj_callD (i := 0) cv__law_take (aj_cons (fj (vj_mov 2)) aj_nil))))))))
abbrev n__law_weights : Nat := 4
theorem hw__law_weights : ∀ p k l Q0 E, EndsD E p Q0 → w__law_weights k l Q0 → v__law_weights E (vstartD 4 p k l) := by
  rintro p n l Q0 E hE ⟨many, rfl, hn, hm, q⟩
  show v__law_weights _ [.dk p n, .va (.int many), .no, .no]
  unfold v__law_weights v__law_weights_1
  simp_arith [w__law_one]
  refine ⟨⟨by decide, by decide, by decide⟩, ⟨by decide, by decide, by decide⟩, by decide, by omega, by simp [itemsP], by simp [itemsP], fun x hx => ?_⟩
  obtain ⟨wide, rfl, hw0, hw1⟩ : ∃ k : Int, x = .int k ∧ 0 < k ∧ k ≤ maxW + 1 := by
    simp only [itemsP, List.mem_cons, List.not_mem_nil, or_false] at hx
    rcases hx with rfl | rfl | rfl | rfl | rfl
    all_goals exact ⟨_, rfl, by decide, by decide⟩
  unfold maxW at hw1
  refine ⟨by omega, by omega, vlc_drawN 1 0 p (n + 1) (fun _ v => ∃ i : Int, v = .int i ∧ 0 ≤ i ∧ i ≤ maxW) (by simp [rangeP, sizeLine]; omega) rfl (fun x hx k2 N hk2 hN => ?_) fun acc hal hav => ?_⟩
  · have hrl2 : (rangeP 0 (many : Int).toNat).length = many := by simp [rangeP]
    simp_arith [w__law_take]
    refine ⟨by omega, by omega, by omega, fun c c0 c1 => ?_⟩
    exact hN _ _ ⟨c, rfl, c0, by unfold maxW; omega⟩ rfl
  · have hrl2 : (rangeP 0 (many : Int).toNat).length = many := by simp [rangeP]
    obtain ⟨w, rfl, hw⟩ := acc_ints (lo := 0) (hi := maxW) (acc := acc) fun v hv => by
      obtain ⟨i, hi, e⟩ := List.mem_iff_getElem.mp hv
      have hz : ((rangeP 0 (many : Int).toNat)[i]'(by omega), v) ∈ (rangeP 0 (many : Int).toNat).zip acc := List.mem_iff_getElem.mpr ⟨i, by rw [List.length_zip]; omega, by rw [List.getElem_zip, e]⟩
      exact hav _ hz
    rw [hrl2] at hal ⊢
    rw [List.length_map] at hal
    rw [Nat.mul_one]
    exact hE.rt _ _ _ rfl (q w hal hw)
theorem hp__law_weights : ∀ ds m Q, sp__law_weights ds m Q → b__law_weights { nx := fun _ m' => Q .non m', rt := Q } (dstart 4 ds) m := body_d 4 (by decide) sj__law_weights hw__law_weights
end DL
/-! k06. -/
namespace DL
open PySem PySem.Spec PyProof.Rows L2
local macro_rules
  | `(tactic| simp_arith) => `(tactic| simp only [↓vSeq, ↓vSkip, ↓vAsgN, ↓vAsg, ↓vPar, ↓vIf, ↓vRet, ↓vExpr, ↓vFor, ↓vSetI, ↓vBreak, ↓vCont, ↓vF, ↓vVar, ↓vMov, ↓vC, ↓vNil, ↓vCons, ↓vTup, ↓vLst, ↓vDisp, ↓vPairs, ↓vNewD, ↓vOp, ↓vChain, ↓vB, ↓vNotT, ↓vAndT, ↓vOrT, ↓vYes, ↓vAnd, ↓vOr, ↓vNot, ↓vIfE, ↓vNeg, ↓vNo, ↓vPart, ↓vSl, ↓vRev_x, ↓vB1, ↓vIsi, ↓vAnyI_x, ↓vR1, ↓vR2, ↓vR3, ↓vEnum_x, ↓vZip2_x, ↓vG, ↓vGnil, ↓vGcons, ↓vGT, ↓vGL, ↓vLc, ↓vCall, ↓vCallD, ↓vApp, ↓vPop0, ↓vPop1, ↓vExt, ↓vDeck, ↓xIs, ↓xIsNot, Rs.v, SameR, Same, same_self, same_cons, reduceCtorEq, or_true, true_or, or_false, false_or, and_false, false_and, toSl, notBr, wipeP, List.set_cons_zero, List.set_cons_succ, List.getElem?_cons_zero, List.getElem?_cons_succ, Option.some.injEq, Sl.ow.injEq, Sl.va.injEq, Sl.dk.injEq, PV.int.injEq, PV.bl.injEq, PV.tup.injEq, PV.lst.injEq, PV.dct.injEq, Rs.va.injEq, List.cons.injEq, List.length_cons, List.length_nil, exists_eq_left', exists_eq_left, exists_eq', exists_const, true_and, and_true, and_self, if_true, if_false, Bool.false_eq_true, reduceIte, and_assoc, exists_and_left, exists_and_right, Bool.not_true, Bool.not_false, at_zero, at_one, at_two, ↓xAdd_int, ↓xAdd_str, ↓xAdd_tup, ↓xAdd_lst, ↓xSub_int, ↓xMul_tup, ↓xMul_lst, ↓xPow_int, ↓xLt_int, ↓xLe_int, ↓xGt_int, ↓xGe_int, ↓xIx_tup, ↓xIx_lst, ↓xIx_str, ↓xIx_dct, ↓xLen_tup, ↓xLen_lst, ↓xLen_str, ↓xAbs_int, ↓xList_tup, ↓xList_lst, ↓xTuple_tup, ↓xTuple_lst, ↓xSl_tup, ↓xSl_lst, ↓xRev_tup, ↓xRev_lst, ↓xMin2_int, ↓xMax2_int, ↓xItems_tup, ↓xItems_lst, ↓xItems_str, ↓xEnum_tup, ↓xEnum_lst, ↓xZip_tup, ↓xZip_lst, ↓xZip_WW, ↓xZip_IW, ↓xZip_WI, ↓xZip_II, ↓xZip_tI, ↓xZip_It, keyP'_int, keyP'_str, isNo_non, isNo_bl, isNo_int, isNo_str, isNo_tup, isNo_lst, isNo_dct, isInt_non, isInt_bl, isInt_int, isInt_str, isInt_tup, isInt_lst, isInt_dct, isInt_tI, isInt_tW, isBool_non, isBool_bl, isBool_int, isBool_str, isBool_tup, isBool_lst, isBool_dct, isBool_tI, isBool_tW, isStrV_non, isStrV_bl, isStrV_int, isStrV_str, isStrV_tup, isStrV_lst, isStrV_dct, isStrV_tI, isStrV_tW, isTupP_non, isTupP_bl, isTupP_int, isTupP_str, isTupP_tup, isTupP_lst, isTupP_dct, isLstP_non, isLstP_bl, isLstP_int, isLstP_str, isLstP_tup, isLstP_lst, isLstP_dct, isLstP_tI, isLstP_tW, ↓xLen_tI, ↓xLen_tW, ↓xIx_tI, ↓xIx_tW, ↓xIx_lI, ↓xIx_lW, ↓xAdd_tI, ↓xAdd_tI1, ↓xAdd_1tI, ↓xAdd_tW, ↓xAdd_tW1, ↓xAdd_1tW, ↓xSl_tI, ↓xSl_tW, ↓xList_tI, ↓xList_tW, ↓xTuple_lI, ↓xTuple_lW, ↓xTuple_tI, ↓xTuple_tW, ↓xLt_tI, ↓xLe_tI, ↓xGt_tI, ↓xGe_tI, ↓xLt_tW, ↓xLe_tW, ↓xEq_tI, ↓xNe_tI, ↓xEq_tI0, ↓xNe_tI0, ↓xEq_tW, ↓xNe_tW, ↓xEq_tW0, ↓xNe_tW0, ↓xEq_int, ↓xNe_int, ↓xEq_bl, ↓xNe_bl, ↓xEq_lI, ↓xNe_lI, ↓xEq_lI0, ↓xNe_lI0, ↓xEq_lW, ↓xNe_lW, ↓xEq_lW0, ↓xNe_lW0, isTup_tI, isTup_tW, isNo_tI, isNo_tW, ↓xRev_tI, ↓xRev_tW, ↓xItems_tI, ↓xItems_tW, ↓xEnum_tI, ↓xEnum_tW, tI_inj, tW_inj, Int.reduceToNat, Int.zero_add, ↓xSum_lI, ↓xAll_l, ↓xAny_l, cut_tl, ↓xSumA_lI, ↓xSumA_tI, ↓xMaxA_tI, ↓xMaxA_lI, ↓xMinA_tI, ↓xMinA_lI, Int.natCast_inj, atI_map, ex_map, Nat.zero_le])
local macro_rules
  | `(tactic| simp_arith [$args,*]) => `(tactic| simp only [↓vSeq, ↓vSkip, ↓vAsgN, ↓vAsg, ↓vPar, ↓vIf, ↓vRet, ↓vExpr, ↓vFor, ↓vSetI, ↓vBreak, ↓vCont, ↓vF, ↓vVar, ↓vMov, ↓vC, ↓vNil, ↓vCons, ↓vTup, ↓vLst, ↓vDisp, ↓vPairs, ↓vNewD, ↓vOp, ↓vChain, ↓vB, ↓vNotT, ↓vAndT, ↓vOrT, ↓vYes, ↓vAnd, ↓vOr, ↓vNot, ↓vIfE, ↓vNeg, ↓vNo, ↓vPart, ↓vSl, ↓vRev_x, ↓vB1, ↓vIsi, ↓vAnyI_x, ↓vR1, ↓vR2, ↓vR3, ↓vEnum_x, ↓vZip2_x, ↓vG, ↓vGnil, ↓vGcons, ↓vGT, ↓vGL, ↓vLc, ↓vCall, ↓vCallD, ↓vApp, ↓vPop0, ↓vPop1, ↓vExt, ↓vDeck, ↓xIs, ↓xIsNot, Rs.v, SameR, Same, same_self, same_cons, reduceCtorEq, or_true, true_or, or_false, false_or, and_false, false_and, toSl, notBr, wipeP, List.set_cons_zero, List.set_cons_succ, List.getElem?_cons_zero, List.getElem?_cons_succ, Option.some.injEq, Sl.ow.injEq, Sl.va.injEq, Sl.dk.injEq, PV.int.injEq, PV.bl.injEq, PV.tup.injEq, PV.lst.injEq, PV.dct.injEq, Rs.va.injEq, List.cons.injEq, List.length_cons, List.length_nil, exists_eq_left', exists_eq_left, exists_eq', exists_const, true_and, and_true, and_self, if_true, if_false, Bool.false_eq_true, reduceIte, and_assoc, exists_and_left, exists_and_right, Bool.not_true, Bool.not_false, at_zero, at_one, at_two, ↓xAdd_int, ↓xAdd_str, ↓xAdd_tup, ↓xAdd_lst, ↓xSub_int, ↓xMul_tup, ↓xMul_lst, ↓xPow_int, ↓xLt_int, ↓xLe_int, ↓xGt_int, ↓xGe_int, ↓xIx_tup, ↓xIx_lst, ↓xIx_str, ↓xIx_dct, ↓xLen_tup, ↓xLen_lst, ↓xLen_str, ↓xAbs_int, ↓xList_tup, ↓xList_lst, ↓xTuple_tup, ↓xTuple_lst, ↓xSl_tup, ↓xSl_lst, ↓xRev_tup, ↓xRev_lst, ↓xMin2_int, ↓xMax2_int, ↓xItems_tup, ↓xItems_lst, ↓xItems_str, ↓xEnum_tup, ↓xEnum_lst, ↓xZip_tup, ↓xZip_lst, ↓xZip_WW, ↓xZip_IW, ↓xZip_WI, ↓xZip_II, ↓xZip_tI, ↓xZip_It, keyP'_int, keyP'_str, isNo_non, isNo_bl, isNo_int, isNo_str, isNo_tup, isNo_lst, isNo_dct, isInt_non, isInt_bl, isInt_int, isInt_str, isInt_tup, isInt_lst, isInt_dct, isInt_tI, isInt_tW, isBool_non, isBool_bl, isBool_int, isBool_str, isBool_tup, isBool_lst, isBool_dct, isBool_tI, isBool_tW, isStrV_non, isStrV_bl, isStrV_int, isStrV_str, isStrV_tup, isStrV_lst, isStrV_dct, isStrV_tI, isStrV_tW, isTupP_non, isTupP_bl, isTupP_int, isTupP_str, isTupP_tup, isTupP_lst, isTupP_dct, isLstP_non, isLstP_bl, isLstP_int, isLstP_str, isLstP_tup, isLstP_lst, isLstP_dct, isLstP_tI, isLstP_tW, ↓xLen_tI, ↓xLen_tW, ↓xIx_tI, ↓xIx_tW, ↓xIx_lI, ↓xIx_lW, ↓xAdd_tI, ↓xAdd_tI1, ↓xAdd_1tI, ↓xAdd_tW, ↓xAdd_tW1, ↓xAdd_1tW, ↓xSl_tI, ↓xSl_tW, ↓xList_tI, ↓xList_tW, ↓xTuple_lI, ↓xTuple_lW, ↓xTuple_tI, ↓xTuple_tW, ↓xLt_tI, ↓xLe_tI, ↓xGt_tI, ↓xGe_tI, ↓xLt_tW, ↓xLe_tW, ↓xEq_tI, ↓xNe_tI, ↓xEq_tI0, ↓xNe_tI0, ↓xEq_tW, ↓xNe_tW, ↓xEq_tW0, ↓xNe_tW0, ↓xEq_int, ↓xNe_int, ↓xEq_bl, ↓xNe_bl, ↓xEq_lI, ↓xNe_lI, ↓xEq_lI0, ↓xNe_lI0, ↓xEq_lW, ↓xNe_lW, ↓xEq_lW0, ↓xNe_lW0, isTup_tI, isTup_tW, isNo_tI, isNo_tW, ↓xRev_tI, ↓xRev_tW, ↓xItems_tI, ↓xItems_tW, ↓xEnum_tI, ↓xEnum_tW, tI_inj, tW_inj, Int.reduceToNat, Int.zero_add, ↓xSum_lI, ↓xAll_l, ↓xAny_l, cut_tl, ↓xSumA_lI, ↓xSumA_tI, ↓xMaxA_tI, ↓xMaxA_lI, ↓xMinA_tI, ↓xMinA_lI, Int.natCast_inj, atI_map, ex_map, Nat.zero_le, $args,*])
abbrev kI (ks : List Nat) : PV := tI (ks.map fun k : Nat => (k : Int))
theorem acc_natsJ {hi : Nat} : ∀ {acc : List PV}, (∀ v ∈ acc, ∃ i : Int, v = .int i ∧ 0 ≤ i ∧ i ≤ hi) → ∃ row : List Nat, PV.tup acc = tN row ∧ row.length = acc.length ∧ ∀ L ∈ row, L ≤ hi := by
  intro acc h
  obtain ⟨w, rfl, hw⟩ := acc_ints (lo := 0) (hi := (hi : Int)) h
  refine ⟨w.map Int.toNat, ?_, by rw [List.length_map, List.length_map], fun L hL => ?_⟩
  · unfold tN tI rI
    rw [List.map_map, List.map_map]
    refine congrArg PV.tup (List.map_congr_left fun i hi => ?_)
    have := (hw i hi).1
    show PV.int i = PV.int ((i.toNat : Nat) : Int)
    rw [Int.toNat_of_nonneg this]
  · obtain ⟨i, hi, rfl⟩ := List.mem_map.mp hL
    have := hw i hi
    omega
def w_lengths : WSp := fun l Q => ∃ ws : List (List Int), l = [tW ws] ∧ ws.length ≤ 1000 ∧ (∀ w ∈ ws, w.length ≤ 1000) ∧ Q (tN (ws.map List.length))
/-- slots: 0 code, 1 word -/
abbrev sp_lengths : DSp := lV w_lengths
theorem cv_lengths : CallV sp_lengths w_lengths := cv_lV _
def b_lengths : DS := (dRet (dB1 bTuple (dCons (dLc (iAny (dVar 0)) (gN 1) dYes (dB1 bLen (dCons (dVar 1) dNil)) [1]) dNil)))
def v_lengths : WS := (vRet (vF (vB1 xTuple (vLc (vAnyI (vF (vMov 0))) (vG 1) vYes (vF (vB1 xLen (vVar 1))) [1]))))
theorem sj_lengths : SJ v_lengths b_lengths := (sj_ret (fj (vj_b1 bv_tuple (vj_lc (wj_any (fj (vj_mov 0))) (gj_n 1 (by decide)) tj_yes (fj (vj_b1 bv_len (vj_var 1)))))))
abbrev n_lengths : Nat := 2
theorem hw_lengths : ∀ l Q0 E, Ends0 E Q0 → w_lengths l Q0 → v_lengths E (vstart 2 l) := by
  rintro l Q0 E hE ⟨ws, rfl, hl, hw, q⟩
  show v_lengths _ [.va (tW ws), .no]
  unfold v_lengths
  simp_arith
  refine vlc_map (h := tI) (fun w => .int (w.length : Nat)) (lsl (by omega)) (fun w hw2 N hN => ?_) ?_
  · simp_arith
    exact hN _ rfl
  · have e : PV.tup (ws.map fun w => PV.int (w.length : Nat)) = tN (ws.map List.length) := by
      unfold tN tI rI
      rw [List.map_map, List.map_map]
      rfl
    simp_arith
    rw [e]
    exact hE.rt _ _ q
theorem hp_lengths : ∀ ds m Q, sp_lengths ds m Q → b_lengths { nx := fun _ m' => Q .non m', rt := Q } (dstart 2 ds) m := body_f 2 sj_lengths hw_lengths

theorem lt_rI : ∀ {a b : List Nat}, ((a.map fun k : Nat => (k : Int)) < (b.map fun k : Nat => (k : Int))) ↔ a < b
  | [], [] => ⟨fun h => (by cases h), fun h => (by cases h)⟩
  | [], _ :: _ => ⟨fun _ => List.Lex.nil, fun _ => List.Lex.nil⟩
  | _ :: _, [] => ⟨fun h => (by cases h), fun h => (by cases h)⟩
  | x :: a, y :: b => by
    rw [List.map_cons, List.map_cons, List.cons_lt_cons_iff, List.cons_lt_cons_iff, lt_rI]
    constructor
    · rintro (h | ⟨h1, h2⟩)
      · exact .inl (by omega)
      · exact .inr ⟨by omega, h2⟩
    · rintro (h | ⟨h1, h2⟩)
      · exact .inl (by omega)
      · exact .inr ⟨by omega, h2⟩
theorem rI_injJ {a b : List Nat} (h : (a.map fun k : Nat => (k : Int)) = b.map fun k : Nat => (k : Int)) : a = b :=
  List.le_antisymm (fun z => by have := lt_rI.mpr z; rw [h] at this; exact List.lt_irrefl _ this) (fun z => by have := lt_rI.mpr z; rw [h] at this; exact List.lt_irrefl _ this)
section
variable {ws : List (List Int)} (hap : ws.Pairwise Apart) (hne : ∀ w ∈ ws, w ≠ []) {a b : List Nat} (ha : ∀ k ∈ a, k < ws.length) (hb : ∀ k ∈ b, k < ws.length)
include hap hne ha hb
theorem join_inj (h : joinL ws a = joinL ws b) : a = b := by
  refine List.le_antisymm (fun z => ?_) (fun z => ?_)
  · have := join_lt hap hne hb ha z
    rw [h] at this
    exact List.lt_irrefl _ this
  · have := join_lt hap hne ha hb z
    rw [h] at this
    exact List.lt_irrefl _ this
theorem join_lt_iff : joinL ws a < joinL ws b ↔ a < b := by
  constructor
  · intro h
    by_cases z : a < b
    · exact z
    · by_cases y : b < a
      · have := join_lt hap hne hb ha y
        exact absurd (List.lt_trans h this) (List.lt_irrefl _)
      · have : a = b := List.le_antisymm y z
        rw [this] at h
        exact absurd h (List.lt_irrefl _)
  · exact join_lt hap hne ha hb
end
def lenAt (ws : List (List Int)) (k : Nat) : Int := ((ws.map List.length).map fun L : Nat => (L : Int)).getD k 0
theorem join_sum (ws : List (List Int)) : ∀ ks : List Nat, (∀ k ∈ ks, k < ws.length) → (ks.map (lenAt ws)).sum = ((joinL ws ks).length : Int)
  | [], _ => rfl
  | k :: ks, h => by
    rw [List.map_cons, List.sum_cons, join_sum ws ks fun j hj => h j (by simp [hj]), joinL_cons, List.length_append]
    have hk := h k (by simp)
    rw [lenAt, getDJ_eq hk, List.getD_eq_getElem?_getD, List.getElem?_map, List.getElem?_map, List.getElem?_eq_getElem hk]
    show ((ws[k].length : Nat) : Int) + _ = _
    omega
/-- slots: 0 script, 1 deck, 2 turn, 3 signs, 4 code, 5 same, 6 rows, 7 again, 8 one, 9 other, 10 first, 11 second, 12 place, 13 key -/
def b_law : DS := (dSeq (dAsg (dCall sp__law_deck (dCons (dVar 0) dNil)) (gN 1))
  (dSeq (dFor (iR1 (dCons (dC (.int 10)) dNil)) (gN 2) (dSeq (dAsg (dOp aAdd (dC (.int 2)) (dCall sp__law_take (dCons (dVar 1) (dCons (dC (.int 5)) dNil)))) (gN 3))
  (dSeq (dAsg (dCall sp__law_codeX (dCons (dVar 1) (dCons (dVar 3) (dCons (dOp aAdd (dC (.int 2)) (dCall sp__law_take (dCons (dVar 1) (dCons (dC (.int 15)) dNil)))) (dCons (dCall sp__law_one (dCons (dVar 1) (dCons (dLst (dCons (dC (.int 4)) (dCons (dC (.int 16)) dNil))) dNil))) dNil))))) (gN 4))
  (dIf (dB (dOp aGt (dB1 bLen (dCons (dWk (dVar 4)) dNil)) (dC (.int 1)))) (dSeq (dAsg (dB1 bTuple (dCons (dLc (iR1 (dCons (dCall sp__law_take (dCons (dVar 1) (dCons (dC (.int 6)) dNil))) dNil)) (gN 12) dYes (dCall sp__law_take (dCons (dVar 1) (dCons (dB1 bLen (dCons (dWk (dVar 4)) dNil)) dNil))) [12]) dNil)) (gN 5))
  (dSeq (dAsg (dLst (dCons (dVar 5) (dCons (dOp aAdd (dVar 5) (dTup (dCons (dCall sp__law_take (dCons (dVar 1) (dCons (dB1 bLen (dCons (dWk (dVar 4)) dNil)) dNil))) dNil))) dNil))) (gN 6))
  (dSeq (dFor (iR1 (dCons (dC (.int 4)) dNil)) (gN 7) (dExpr (dM mAppend (dVar 6) (dCons (dOp aAdd (dVar 5) (dB1 bTuple (dCons (dLc (iR1 (dCons (dCall sp__law_take (dCons (dVar 1) (dCons (dC (.int 4)) dNil))) dNil)) (gN 12) dYes (dCall sp__law_take (dCons (dVar 1) (dCons (dB1 bLen (dCons (dWk (dVar 4)) dNil)) dNil))) [12]) dNil))) dNil))))
  (dFor (iAny (dVar 6)) (gN 8) (dSeq (dFor (iAny (dVar 6)) (gN 9) (dSeq (dPar 10 11 (dCons (dCall sp_joined (dCons (dWk (dVar 4)) (dCons (dVar 8) dNil))) (dCons (dCall sp_joined (dCons (dWk (dVar 4)) (dCons (dVar 9) dNil))) dNil)))
  (dSeq (dIf (dOrT (dB (dOp aNe (dOp aLt (dVar 8) (dVar 9)) (dOp aLt (dVar 10) (dVar 11)))) (dB (dOp aNe (dOp aEq (dVar 8) (dVar 9)) (dOp aEq (dVar 10) (dVar 11))))) (dRet (dC (.bl false))) dSkip)
  (dIf (dAndT (dB (dOp aEq (dB1 bLen (dCons (dVar 8) dNil)) (dB1 bLen (dCons (dVar 9) dNil)))) (dAndT (dB (dOp aNe (dVar 8) (dVar 9))) (dB (dCall sp__law_starts (dCons (dVar 10) (dCons (dVar 11) dNil)))))) (dRet (dC (.bl false))) dSkip))))
  (dSeq (dIf (dB (dOp aNe (dCall sp_read (dCons (dVar 3) (dCons (dVar 4) (dCons (dCall sp_joined (dCons (dWk (dVar 4)) (dCons (dVar 8) dNil))) dNil)))) (dVar 8))) (dRet (dC (.bl false))) dSkip)
  (dIf (dB (dOp aNe (dB1 bLen (dCons (dCall sp_joined (dCons (dWk (dVar 4)) (dCons (dVar 8) dNil))) dNil)) (dB1 bSumA (dCons (dLc (iAny (dVar 8)) (gN 13) dYes (dOp aIxA (dCall sp_lengths (dCons (dWk (dVar 4)) dNil)) (dVar 13)) [13]) dNil)))) (dRet (dC (.bl false))) dSkip))))))) dSkip))))
  (dRet (dC (.bl true)))))
def v_law_2L_3A_3L : WS := (vExpr (vApp 6 (vF (vOp xAdd (vVar 5) (vB1 xTuple (vLc (vR1 (vCons (vF (vCallD w__law_take 1 (vCons (vF (vC (.int 4))) vNil))) vNil)) (vG 12) vYes (vF (vCallD w__law_take 1 (vCons (vF (vB1 xLen (vWk (vVar 4)))) vNil))) [12]))))))
def v_law_2L_3A_4L_1L_2 : WS := (vIf (vAndT (vB (vOp xEq (vB1 xLen (vVar 8)) (vB1 xLen (vVar 9)))) (vAndT (vB (vOp xNe (vVar 8) (vVar 9))) (vB (vCall w__law_starts (vCons (vF (vMov 10)) (vCons (vF (vMov 11)) vNil)))))) (vRet (vF (vC (.bl false)))) vSkip)
def v_law_2L_3A_4L_1L_1 : WS := vSeq (vIf (vOrT (vB (vOp xNe (vOp xLt (vVar 8) (vVar 9)) (vOp xLt (vVar 10) (vVar 11)))) (vB (vOp xNe (vOp xEq (vVar 8) (vVar 9)) (vOp xEq (vVar 10) (vVar 11))))) (vRet (vF (vC (.bl false)))) vSkip) v_law_2L_3A_4L_1L_2
def v_law_2L_3A_4L_1L : WS := vSeq (vPar 10 11 (vCall w_joined (vCons (vF (vWk (vVar 4))) (vCons (vF (vMov 8)) vNil))) (vCall w_joined (vCons (vF (vWk (vVar 4))) (vCons (vF (vMov 9)) vNil)))) v_law_2L_3A_4L_1L_1
def v_law_2L_3A_4L_2 : WS := (vIf (vB (vOp xNe (vB1 xLen (vCall w_joined (vCons (vF (vWk (vVar 4))) (vCons (vF (vMov 8)) vNil)))) (vB1 xSumA (vLc (vAnyI (vF (vMov 8))) (vG 13) vYes (vF (vOp xIx (vCall w_lengths (vCons (vF (vWk (vVar 4))) vNil)) (vVar 13))) [13])))) (vRet (vF (vC (.bl false)))) vSkip)
def v_law_2L_3A_4L_1 : WS := vSeq (vIf (vB (vOp xNe (vCall w_read (vCons (vF (vMov 3)) (vCons (vF (vMov 4)) (vCons (vF (vCall w_joined (vCons (vF (vWk (vVar 4))) (vCons (vF (vMov 8)) vNil)))) vNil)))) (vVar 8))) (vRet (vF (vC (.bl false)))) vSkip) v_law_2L_3A_4L_2
def v_law_2L_3A_4L : WS := vSeq (vFor (vAnyI (vF (vMov 6))) (vG 9) v_law_2L_3A_4L_1L) v_law_2L_3A_4L_1
def v_law_2L_3A_3 : WS := (vFor (vAnyI (vF (vMov 6))) (vG 8) v_law_2L_3A_4L)
def v_law_2L_3A_2 : WS := vSeq (vFor (vR1 (vCons (vF (vC (.int 4))) vNil)) (vG 7) v_law_2L_3A_3L) v_law_2L_3A_3
def v_law_2L_3A_1 : WS := vSeq (vAsgN 6 (vLst (vCons (vF (vMov 5)) (vCons (vF (vOp xAdd (vVar 5) (vTup (vCons (vF (vCallD w__law_take 1 (vCons (vF (vB1 xLen (vWk (vVar 4)))) vNil))) vNil)))) vNil)))) v_law_2L_3A_2
def v_law_2L_3A : WS := vSeq (vAsgN 5 (vB1 xTuple (vLc (vR1 (vCons (vF (vCallD w__law_take 1 (vCons (vF (vC (.int 6))) vNil))) vNil)) (vG 12) vYes (vF (vCallD w__law_take 1 (vCons (vF (vB1 xLen (vWk (vVar 4)))) vNil))) [12]))) v_law_2L_3A_1
def v_law_2L_2 : WS := (vIf (vB (vOp xGt (vB1 xLen (vWk (vVar 4))) (vC (.int 1)))) v_law_2L_3A vSkip)
def v_law_2L_1 : WS := vSeq (vAsgN 4 (vCallD w__law_codeX 1 (vCons (vF (vMov 3)) (vCons (vF (vOp xAdd (vC (.int 2)) (vCallD w__law_take 1 (vCons (vF (vC (.int 15))) vNil)))) (vCons (vF (vCallD w__law_one 1 (vCons (vF (vLst (vCons (vF (vC (.int 4))) (vCons (vF (vC (.int 16))) vNil)))) vNil))) vNil))))) v_law_2L_2
def v_law_2L : WS := vSeq (vAsgN 3 (vOp xAdd (vC (.int 2)) (vCallD w__law_take 1 (vCons (vF (vC (.int 5))) vNil)))) v_law_2L_1
def v_law_2 : WS := (vRet (vF (vC (.bl true))))
def v_law_1 : WS := vSeq (vFor (vR1 (vCons (vF (vC (.int 10))) vNil)) (vG 2) v_law_2L) v_law_2
def v_law : WS := vSeq (vDeck 0 1) v_law_1
theorem sj_law : SJ v_law b_law := (sj_seq (sj_deck 0 1) (sj_seq (sj_for (vs := [2]) (wj_r1 (aj_cons (fj (vj_c (v := (.int 10)) fun _ => .int _)) aj_nil)) (gj_n 2 (by decide)) (sj_seq (sj_asgN 3 (vj_op ov_add (vj_c (v := (.int 2)) fun _ => .int _) (vj_callD (i := 1) cv__law_take (aj_cons (fj (vj_c (v := (.int 5)) fun _ => .int _)) aj_nil)))) (sj_seq (sj_asgN 4 (vj_callD (i := 1) cv__law_codeX (aj_cons (fj (vj_mov 3)) (aj_cons (fj (vj_op ov_add (vj_c (v := (.int 2)) fun _ => .int _) (vj_callD (i := 1) cv__law_take (aj_cons (fj (vj_c (v := (.int 15)) fun _ => .int _)) aj_nil)))) (aj_cons (fj (vj_callD (i := 1) cv__law_one (aj_cons (fj (vj_lst (aj_cons (fj (vj_c (v := (.int 4)) fun _ => .int _)) (aj_cons (fj (vj_c (v := (.int 16)) fun _ => .int _)) aj_nil)))) aj_nil))) aj_nil))))) (sj_if (tj_b (vj_op ov_gt (vj_b1 bv_len (vj_wk (vj_var 4))) (vj_c (v := (.int 1)) fun _ => .int _))) (sj_seq (sj_asgN 5 (vj_b1 bv_tuple (vj_lc (wj_r1 (aj_cons (fj (vj_callD (i := 1) cv__law_take (aj_cons (fj (vj_c (v := (.int 6)) fun _ => .int _)) aj_nil))) aj_nil)) (gj_n 12 (by decide)) tj_yes (fj (vj_callD (i := 1) cv__law_take (aj_cons (fj (vj_b1 bv_len (vj_wk (vj_var 4)))) aj_nil)))))) (sj_seq (sj_asgN 6 (vj_lst (aj_cons (fj (vj_mov 5)) (aj_cons (fj (vj_op ov_add (vj_var 5) (vj_tup (aj_cons (fj (vj_callD (i := 1) cv__law_take (aj_cons (fj (vj_b1 bv_len (vj_wk (vj_var 4)))) aj_nil))) aj_nil)))) aj_nil)))) (sj_seq (sj_for (vs := [7]) (wj_r1 (aj_cons (fj (vj_c (v := (.int 4)) fun _ => .int _)) aj_nil)) (gj_n 7 (by decide)) (sj_expr (vj_app (i := 6) (fj (vj_op ov_add (vj_var 5) (vj_b1 bv_tuple (vj_lc (wj_r1 (aj_cons (fj (vj_callD (i := 1) cv__law_take (aj_cons (fj (vj_c (v := (.int 4)) fun _ => .int _)) aj_nil))) aj_nil)) (gj_n 12 (by decide)) tj_yes (fj (vj_callD (i := 1) cv__law_take (aj_cons (fj (vj_b1 bv_len (vj_wk (vj_var 4)))) aj_nil)))))))))) (sj_for (vs := [8]) (wj_any (fj (vj_mov 6))) (gj_n 8 (by decide)) (sj_seq (sj_for (vs := [9]) (wj_any (fj (vj_mov 6))) (gj_n 9 (by decide)) (sj_seq (sj_par 10 11 (vj_call cv_joined (aj_cons (fj (vj_wk (vj_var 4))) (aj_cons (fj (vj_mov 8)) aj_nil))) (vj_call cv_joined (aj_cons (fj (vj_wk (vj_var 4))) (aj_cons (fj (vj_mov 9)) aj_nil)))) (sj_seq (sj_if (tj_or (tj_b (vj_op ov_ne (vj_op ov_lt (vj_var 8) (vj_var 9)) (vj_op ov_lt (vj_var 10) (vj_var 11)))) (tj_b (vj_op ov_ne (vj_op ov_eq (vj_var 8) (vj_var 9)) (vj_op ov_eq (vj_var 10) (vj_var 11))))) (sj_ret (fj (vj_c (v := (.bl false)) fun _ => .bl _))) sj_skip) (sj_if (tj_and (tj_b (vj_op ov_eq (vj_b1 bv_len (vj_var 8)) (vj_b1 bv_len (vj_var 9)))) (tj_and (tj_b (vj_op ov_ne (vj_var 8) (vj_var 9))) (tj_b (vj_call cv__law_starts (aj_cons (fj (vj_mov 10)) (aj_cons (fj (vj_mov 11)) aj_nil)))))) (sj_ret (fj (vj_c (v := (.bl false)) fun _ => .bl _))) sj_skip)))) (sj_seq (sj_if (tj_b (vj_op ov_ne (vj_call cv_read (aj_cons (fj (vj_mov 3)) (aj_cons (fj (vj_mov 4)) (aj_cons (fj (vj_call cv_joined (aj_cons (fj (vj_wk (vj_var 4))) (aj_cons (fj (vj_mov 8)) aj_nil)))) aj_nil)))) (vj_var 8))) (sj_ret (fj (vj_c (v := (.bl false)) fun _ => .bl _))) sj_skip) (sj_if (tj_b (vj_op ov_ne (vj_b1 bv_len (vj_call cv_joined (aj_cons (fj (vj_wk (vj_var 4))) (aj_cons (fj (vj_mov 8)) aj_nil)))) (vj_b1 bv_sumA (vj_lc (wj_any (fj (vj_mov 8))) (gj_n 13 (by decide)) tj_yes (fj (vj_op ov_ix (vj_call cv_lengths (aj_cons (fj (vj_wk (vj_var 4))) aj_nil)) (vj_var 13))))))) (sj_ret (fj (vj_c (v := (.bl false)) fun _ => .bl _))) sj_skip))))))) sj_skip)))) (sj_ret (fj (vj_c (v := (.bl true)) fun _ => .bl _)))))
abbrev n_law : Nat := 14
/-- a row of keys of the code -/
def RowK (ws : List (List Int)) (x : PV) : Prop := ∃ ks : List Nat, x = kI ks ∧ ks.length ≤ 20 ∧ ∀ k ∈ ks, k < ws.length
theorem hw_law : ∀ ns E, (∀ env, E.rt (.bl true) env) → v_law E (.scr ns :: List.replicate 13 .no) := by
  intro ns E hE
  show v_law _ [.scr ns, .no, .no, .no, .no, .no, .no, .no, .no, .no, .no, .no, .no, .no]
  unfold v_law v_law_1
  simp_arith
  refine ⟨⟨_, rfl⟩, fun p => ⟨by omega, by omega, ?_⟩⟩
  refine vloop_idx (fun i env => ∃ n s2 s3 s4 s5 s6 s7 s8 s9 s10 s11, env = [.scr ns, .dk p n, s2, s3, s4, s5, s6, s7, s8, s9, s10, s11, .no, .no] ∧ n ≤ i * 10000000) ⟨0, _, _, _, _, _, _, _, _, _, _, rfl, by omega⟩ ?_ ?_
  · rintro env ⟨n, s2, s3, s4, s5, s6, s7, s8, s9, s10, s11, rfl, hn⟩
    unfold v_law_2
    simp_arith
    exact hE _
  · rintro i env E' hi hT ⟨n, s2, s3, s4, s5, s6, s7, s8, s9, s10, s11, rfl, hn⟩
    unfold v_law_2L v_law_2L_1
    simp_arith [w__law_take, w__law_one, w__law_codeX]
    refine ⟨by omega, by decide, by decide, fun a a0 a1 => ⟨by omega, by decide, by decide, fun b b0 b1 => ⟨by decide, by omega, by decide, by decide, fun x hx => ?_⟩⟩⟩
    obtain ⟨dp, rfl, hd⟩ : ∃ dp : Nat, x = .int dp ∧ dp ≤ 16 := by
      rcases List.mem_cons.mp hx with z | z
      · exact ⟨4, z, by decide⟩
      · exact ⟨16, List.mem_singleton.mp z, by decide⟩
    refine ⟨(2 + b).toNat, by omega, dp, rfl, by omega, by omega, by omega, by omega, by omega, by omega, fun ws hc hl hf => ?_⟩
    have hl16 : ws.length ≤ 16 := by omega
    have hw0 : 0 < ws.length := List.length_pos_iff.mpr hc.ne
    unfold v_law_2L_2
    simp_arith [↓vWk]
    refine ⟨hasT_map hw0, ?_⟩
    rw [List.length_map]
    by_cases h1 : 1 < ws.length
    · rw [if_pos (decide_eq_true (by omega))]
      unfold v_law_2L_3A
      simp_arith [w__law_take, ↓vWk]
      refine ⟨by omega, by decide, by decide, fun c c0 c1 => ?_⟩
      refine ⟨by omega, by omega, ?_⟩
      have hrl : (rangeP 0 c.toNat).length = c.toNat := by simp [rangeP]
      refine vlc_draw 1 p _ (fun v => ∃ i : Int, v = .int i ∧ 0 ≤ i ∧ i ≤ ((ws.length - 1 : Nat) : Int)) (by rw [hrl]; exact ls (by omega)) rfl (fun x hx k N hk hN => ?_) fun acc hal hav => ?_
      · simp_arith [w__law_take, ↓vWk]
        rw [List.length_map]
        exact ⟨hasT_map hw0, by omega, by omega, by omega, fun c c0 c1 => hN _ _ ⟨c, rfl, c0, by omega⟩ rfl⟩
      obtain ⟨ks, e2, hkl, hks⟩ := acc_natsJ hav
      rw [e2, hrl]
      have hkl : ks.length ≤ 6 := by omega
      have hks : ∀ k ∈ ks, k < ws.length := fun k hk => by have := hks k hk; omega
      show v_law_2L_3A_1 E' [.scr ns, .dk p (n + 1 + 1 + 1 + 1000000 + 1 + c.toNat), .va (.int i), .va (.int (2 + a)), .va (.xtp (ws.map tI)), .va (kI ks), s6, s7, s8, s9, s10, s11, .no, .no]
      unfold v_law_2L_3A_1
      simp_arith [w__law_take, ↓vWk]
      rw [List.length_map]
      refine ⟨hasT_map hw0, by omega, by omega, by omega, fun d d0 d1 => ⟨by decide, by rw [List.length_map]; exact ls (by omega), by decide, ?_⟩⟩
      unfold v_law_2L_3A_2
      simp_arith
      have hr0 : ∀ x ∈ [kI ks, tI ((ks.map fun k : Nat => (k : Int)) ++ [d])], RowK ws x := fun x hx => by
        rcases List.mem_cons.mp hx with z | z
        · exact ⟨ks, z, by omega, hks⟩
        · rw [List.mem_singleton.mp z]
          refine ⟨ks ++ [d.toNat], ?_, by simp; omega, fun k hk => ?_⟩
          · show tI _ = tI _
            rw [List.map_append, List.map_singleton, Int.toNat_of_nonneg d0]
          · rcases List.mem_append.mp hk with hk | hk
            · exact hks k hk
            · rw [List.mem_singleton.mp hk]; omega
      refine ⟨by decide, by decide, ?_⟩
      unfold rangeP
      refine vloop_idx (fun j env => ∃ n' rows s7, env = [.scr ns, .dk p n', .va (.int i), .va (.int (2 + a)), .va (.xtp (ws.map tI)), .va (kI ks), .ow (.lst rows), s7, s8, s9, s10, s11, .no, .no] ∧ n' ≤ n + 2000000 + j * 100 ∧ (∀ x ∈ rows, RowK ws x) ∧ rows.length ≤ 2 + j) ⟨_, _, _, rfl, ?_, hr0, Nat.le_refl _⟩ ?_ ?_
      · omega
      · rintro env ⟨n', rows, s7, rfl, hn', hr, hrl⟩
        unfold v_law_2L_3A_3
        simp_arith
        have hnw : ∀ w ∈ ws, w ≠ [] := neJ_words hc fun z => by rw [z] at h1; exact absurd h1 (by decide)
        have hww : ∀ w ∈ ws, w.length ≤ 100 := fun w hw => Nat.le_trans (hc.dp w hw) (by omega)
        have hjl : ∀ q : List Nat, q.length ≤ 20 → (joinL ws q).length ≤ 320 := fun q hq => Nat.le_trans (joinL_len hc.dp q) (Nat.le_trans (Nat.mul_le_mul hq hd) (by decide))
        have hin : ∀ done x r, rows = done ++ x :: r → RowK ws x := fun done x r e => hr x (by rw [e]; simp)
        refine vloop_listI (fun _ env => ∃ s8 s9 s10 s11, env = [.scr ns, .dk p n', .va (.int i), .va (.int (2 + a)), .va (.xtp (ws.map tI)), .va (kI ks), .va (.lst rows), s7, s8, s9, s10, s11, .no, .no]) ⟨_, _, _, _, rfl⟩ ?_ ?_
        · rintro env ⟨s8, s9, s10, s11, rfl⟩
          exact hT.nx _ ⟨_, _, _, _, _, _, _, _, _, _, _, rfl, by omega⟩
        · rintro done x r env E2 e hT2 ⟨s8, s9, s10, s11, rfl⟩
          obtain ⟨q1, rfl, hq1, hk1⟩ := hin done x r e
          unfold v_law_2L_3A_4L
          simp_arith
          refine vloop_listI (fun _ env => ∃ s9 s10 s11, env = [.scr ns, .dk p n', .va (.int i), .va (.int (2 + a)), .va (.xtp (ws.map tI)), .va (kI ks), .va (.lst rows), s7, .va (kI q1), s9, s10, s11, .no, .no]) ⟨_, _, _, rfl⟩ ?_ ?_
          · rintro env ⟨s9, s10, s11, rfl⟩
            unfold v_law_2L_3A_4L_1
            simp_arith [w_read, w_joined, ↓vWk]
            have hrd : readL ws [] 0 [] (joinL ws q1) = .ok q1 := readL_join hc.ap q1 0 [] hk1 fun _ => hnw
            have hj := hjl q1 hq1
            refine ⟨hasT_map hw0, ws, rfl, q1, rfl, by omega, hww, hk1, ws, rfl, by omega, hw0, joinL_sg hc.sg q1, by omega, hww, q1, hrd, ?_⟩
            rw [decide_eq_true rfl, if_neg (by decide)]
            unfold v_law_2L_3A_4L_2
            simp_arith [w_joined, w_lengths, ↓vWk]
            refine ⟨hasT_map hw0, ws, rfl, q1, rfl, by omega, hww, hk1, ?_⟩
            rw [List.map_map]
            refine vlc_map (fun k => .int (lenAt ws k)) (ls (by omega)) (fun k hk N hN => ?_) ?_
            · simp_arith [w_lengths, ↓vWk]
              have hk5 := hk1 k hk
              have e5 : atI ((rI (ws.map List.length)).map PV.int) (k : Int) = some (.int (lenAt ws k)) := by
                have e6 : (rI (ws.map List.length))[k]? = some (lenAt ws k) := by
                  unfold rI lenAt
                  rw [List.getD_eq_getElem?_getD, List.getElem?_map, List.getElem?_map, List.getElem?_eq_getElem hk5]
                  rfl
                rw [atI_map, atI_nat e6]
                rfl
              exact ⟨hasT_map hw0, ws, rfl, by omega, fun w hw => Nat.le_trans (hww w hw) (by decide), .int (lenAt ws k), e5, hN _ rfl⟩
            · have e3 : (q1.map fun k => PV.int (lenAt ws k)) = (q1.map (lenAt ws)).map .int := by
                rw [List.map_map]
                rfl
              rw [e3]
              simp_arith
              rw [join_sum ws q1 hk1, decide_eq_true rfl, if_neg (by decide)]
              exact hT2.nx _ ⟨_, _, _, _, rfl⟩
          · rintro done2 y r2 env E3 e2 hT3 ⟨s9, s10, s11, rfl⟩
            obtain ⟨q2, rfl, hq2, hk2⟩ := hin done2 y r2 e2
            unfold v_law_2L_3A_4L_1L
            simp_arith [w_joined, ↓vWk]
            refine ⟨hasT_map hw0, ws, rfl, q1, rfl, by omega, hww, hk1, hasT_map hw0, ws, rfl, q2, rfl, by omega, hww, hk2, ?_⟩
            unfold v_law_2L_3A_4L_1L_1
            simp_arith
            have e1 : decide ((q1.map fun k : Nat => (k : Int)) < q2.map fun k : Nat => (k : Int)) = decide (joinL ws q1 < joinL ws q2) := decide_eq_decide.mpr (lt_rI.trans (join_lt_iff hc.ap hnw hk1 hk2).symm)
            have e4 : decide ((q1.map fun k : Nat => (k : Int)) = q2.map fun k : Nat => (k : Int)) = decide (joinL ws q1 = joinL ws q2) := decide_eq_decide.mpr ⟨fun h => by rw [rI_injJ h], fun h => by rw [join_inj hc.ap hnw hk1 hk2 h]⟩
            rw [e1, e4, beq_self_eq_true, beq_self_eq_true, if_neg (by decide), if_neg (by decide)]
            unfold v_law_2L_3A_4L_1L_2
            simp_arith [w__law_starts]
            have fin := hT3.nx _ (show ∃ s9 s10 s11, [Sl.scr ns, .dk p n', .va (.int i), .va (.int (2 + a)), .va (.xtp (ws.map tI)), .va (kI ks), .va (.lst rows), s7, .va (kI q1), .va (kI q2), .va (tI (joinL ws q1)), .va (tI (joinL ws q2)), .no, .no] = [.scr ns, .dk p n', .va (.int i), .va (.int (2 + a)), .va (.xtp (ws.map tI)), .va (kI ks), .va (.lst rows), s7, .va (kI q1), s9, s10, s11, .no, .no] from ⟨_, _, _, rfl⟩)
            rw [List.length_map, List.length_map]
            by_cases h5 : q1.length = q2.length
            · rw [if_pos (decide_eq_true (by omega))]
              by_cases h6 : q1 = q2
              · rw [h6, decide_eq_true rfl, if_neg (by decide)]
                rw [h6] at fin
                exact fin
              · rw [decide_eq_false (fun z => h6 (rI_injJ z)), if_pos (by decide), if_neg (fun z => h6 (join_pre hc.ap hk1 hk2 h5 (isPre_iff.mp z)))]
                exact fin
            · rw [if_neg (fun z => h5 (by have := of_decide_eq_true z; omega))]
              exact fin
      · rintro j env E2 hj hT2 ⟨n', rows, s7, rfl, hn', hr, hrl⟩
        unfold v_law_2L_3A_3L
        simp_arith [w__law_take, ↓vWk]
        refine ⟨by omega, by decide, by decide, fun c2 c20 c21 => ⟨by omega, by omega, ?_⟩⟩
        have hrl2 : (rangeP 0 c2.toNat).length = c2.toNat := by simp [rangeP]
        refine vlc_draw 1 p _ (fun v => ∃ i : Int, v = .int i ∧ 0 ≤ i ∧ i ≤ ((ws.length - 1 : Nat) : Int)) (by rw [hrl2]; exact ls (by omega)) rfl (fun x hx k N hk hN => ?_) fun acc hal hav => ?_
        · simp_arith [w__law_take, ↓vWk]
          rw [List.length_map]
          exact ⟨hasT_map hw0, by omega, by omega, by omega, fun c c0 c1 => hN _ _ ⟨c, rfl, c0, by omega⟩ rfl⟩
        obtain ⟨k3, e3, hkl3, hks3⟩ := acc_natsJ hav
        rw [e3, hrl2]
        have hkl3 : k3.length ≤ 4 := by omega
        have hks3 : ∀ k ∈ k3, k < ws.length := fun k hk => by have := hks3 k hk; omega
        show True ∧ xAdd (tI (ks.map fun k : Nat => (k : Int))) (tI (k3.map fun k : Nat => (k : Int))) _
        refine ⟨trivial, ?_⟩
        simp_arith
        refine ⟨by simp only [List.length_map]; exact ls (by omega), ?_⟩
        refine ⟨by unfold sizeLine; omega, hT2.nx _ ⟨_, _, _, rfl, by omega, fun x hx => ?_, by simp; omega⟩⟩
        rcases List.mem_append.mp hx with z | z
        · exact hr x z
        · rw [List.mem_singleton.mp z]
          refine ⟨ks ++ k3, ?_, by simp; omega, fun k hk => ?_⟩
          · show tI _ = tI _
            rw [List.map_append]
          · rcases List.mem_append.mp hk with hk | hk
            · exact hks k hk
            · exact hks3 k hk
    · rw [if_neg (fun z => h1 (by have := of_decide_eq_true z; omega))]
      exact hT.nx _ ⟨_, _, _, _, _, _, _, _, _, _, _, rfl, by omega⟩
theorem hp_law : ∀ ns : List Int, ns.length ≤ 63 → b_law { nx := fun _ m' => D.non = .bl true, rt := fun d _ => d = .bl true } (dstart 14 [.rol (ns.map .int)]) fun _ => none := body_l 14 sj_law hw_law
end DL
namespace K06
open PySem PySem.Spec PyProof.Rows L2 DL
def top (i : Nat) : Stmt := PySem.Challenge.pw_ordercodes_k06_whole_rows_of_keys_in_ord.main.body.getD i (.Pass ⟨0, 0, 0, 0⟩)
abbrev st__law_deck : Stmt := top 12
abbrev N__law_deck : List Str := ["script", "great", "cell"]
theorem sc__law_deck : FnScope N__law_deck ["script"] (defScope st__law_deck) := ⟨rfl, rfl, rfl, by decide +kernel, rfl, by decide +kernel, by decide +kernel⟩
abbrev st__law_take : Stmt := top 13
abbrev N__law_take : List Str := ["deck", "many", "digit", "turn", "cells", "mixed"]
theorem sc__law_take : FnScope N__law_take ["deck", "many"] (defScope st__law_take) := ⟨rfl, rfl, rfl, by decide +kernel, rfl, by decide +kernel, by decide +kernel⟩
abbrev st__law_one : Stmt := top 14
abbrev N__law_one : List Str := ["deck", "items"]
theorem sc__law_one : FnScope N__law_one ["deck", "items"] (defScope st__law_one) := ⟨rfl, rfl, rfl, by decide +kernel, rfl, by decide +kernel, by decide +kernel⟩
abbrev st__law_split : Stmt := top 16
abbrev N__law_split : List Str := ["deck", "signs", "words", "many", "deep", "spot", "spots", "left", "most", "own", "sign"]
theorem sc__law_split : FnScope N__law_split ["deck", "signs", "words", "many", "deep"] (defScope st__law_split) := ⟨rfl, rfl, rfl, by decide +kernel, rfl, by decide +kernel, by decide +kernel⟩
abbrev st__law_code : Stmt := top 17
abbrev N__law_code : List Str := ["deck", "signs", "many", "deep", "words", "later"]
theorem sc__law_code : FnScope N__law_code ["deck", "signs", "many", "deep"] (defScope st__law_code) := ⟨rfl, rfl, rfl, by decide +kernel, rfl, by decide +kernel, by decide +kernel⟩
abbrev st_joined : Stmt := top 9
abbrev N_joined : List Str := ["code", "keys", "found", "key"]
theorem sc_joined : FnScope N_joined ["code", "keys"] (defScope st_joined) := ⟨rfl, rfl, rfl, by decide +kernel, rfl, by decide +kernel, by decide +kernel⟩
abbrev st__law_starts : Stmt := top 15
abbrev N__law_starts : List Str := ["one", "other"]
theorem sc__law_starts : FnScope N__law_starts ["one", "other"] (defScope st__law_starts) := ⟨rfl, rfl, rfl, by decide +kernel, rfl, by decide +kernel, by decide +kernel⟩
abbrev st_is_integer : Stmt := top 4
abbrev N_is_integer : List Str := ["value", "low", "high"]
theorem sc_is_integer : FnScope N_is_integer ["value", "low", "high"] (defScope st_is_integer) := ⟨rfl, rfl, rfl, by decide +kernel, rfl, by decide +kernel, by decide +kernel⟩
abbrev st_are_signs : Stmt := top 5
abbrev N_are_signs : List Str := ["signs", "value", "item"]
theorem sc_are_signs : FnScope N_are_signs ["signs", "value"] (defScope st_are_signs) := ⟨rfl, rfl, rfl, by decide +kernel, rfl, by decide +kernel, by decide +kernel⟩
abbrev st_is_start : Stmt := top 7
abbrev N_is_start : List Str := ["one", "other"]
theorem sc_is_start : FnScope N_is_start ["one", "other"] (defScope st_is_start) := ⟨rfl, rfl, rfl, by decide +kernel, rfl, by decide +kernel, by decide +kernel⟩
abbrev st_read : Stmt := top 10
abbrev N_read : List Str := ["signs", "code", "value", "found", "part", "place", "sign", "word"]
theorem sc_read : FnScope N_read ["signs", "code", "value"] (defScope st_read) := ⟨rfl, rfl, rfl, by decide +kernel, rfl, by decide +kernel, by decide +kernel⟩
abbrev st_lengths : Stmt := top 8
abbrev N_lengths : List Str := ["code", "word"]
theorem sc_lengths : FnScope N_lengths ["code"] (defScope st_lengths) := ⟨rfl, rfl, rfl, by decide +kernel, rfl, by decide +kernel, by decide +kernel⟩
abbrev st_law : Stmt := top 18
abbrev N_law : List Str := ["script", "deck", "turn", "signs", "code", "same", "rows", "again", "one", "other", "first", "second", "place", "key"]
theorem sc_law : FnScope N_law ["script"] (defScope st_law) := ⟨rfl, rfl, rfl, by decide +kernel, rfl, by decide +kernel, by decide +kernel⟩
structure TopOk (K : PySem.W.Frag) (mg : Str → Option Value) : Prop where
  n_abs : mg "abs" = none
  n_all : mg "all" = none
  n_any : mg "any" = none
  n_bool : mg "bool" = none
  n_enumerate : mg "enumerate" = none
  n_int : mg "int" = none
  n_isinstance : mg "isinstance" = none
  n_len : mg "len" = none
  n_list : mg "list" = none
  n_min : mg "min" = none
  n_range : mg "range" = none
  n_sum : mg "sum" = none
  n_tuple : mg "tuple" = none
  f__law_deck : ∃ f fd, Fun K "_law_deck" "_law_deck" st__law_deck f fd ∧ mg "_law_deck" = some (.ref f) ∧ Binds K fd ["script"] []
  f__law_take : ∃ f fd, Fun K "_law_take" "_law_take" st__law_take f fd ∧ mg "_law_take" = some (.ref f) ∧ Binds K fd ["deck", "many"] []
  f__law_one : ∃ f fd, Fun K "_law_one" "_law_one" st__law_one f fd ∧ mg "_law_one" = some (.ref f) ∧ Binds K fd ["deck", "items"] []
  f__law_split : ∃ f fd, Fun K "_law_split" "_law_split" st__law_split f fd ∧ mg "_law_split" = some (.ref f) ∧ Binds K fd ["deck", "signs", "words", "many", "deep"] []
  f__law_code : ∃ f fd, Fun K "_law_code" "_law_code" st__law_code f fd ∧ mg "_law_code" = some (.ref f) ∧ Binds K fd ["deck", "signs", "many", "deep"] []
  f_joined : ∃ f fd, Fun K "joined" "joined" st_joined f fd ∧ mg "joined" = some (.ref f) ∧ Binds K fd ["code", "keys"] []
  f__law_starts : ∃ f fd, Fun K "_law_starts" "_law_starts" st__law_starts f fd ∧ mg "_law_starts" = some (.ref f) ∧ Binds K fd ["one", "other"] []
  f_is_integer : ∃ f fd, Fun K "is_integer" "is_integer" st_is_integer f fd ∧ mg "is_integer" = some (.ref f) ∧ Binds K fd ["value", "low", "high"] []
  f_are_signs : ∃ f fd, Fun K "are_signs" "are_signs" st_are_signs f fd ∧ mg "are_signs" = some (.ref f) ∧ Binds K fd ["signs", "value"] []
  f_is_start : ∃ f fd, Fun K "is_start" "is_start" st_is_start f fd ∧ mg "is_start" = some (.ref f) ∧ Binds K fd ["one", "other"] []
  f_read : ∃ f fd, Fun K "read" "read" st_read f fd ∧ mg "read" = some (.ref f) ∧ Binds K fd ["signs", "code", "value"] []
  f_lengths : ∃ f fd, Fun K "lengths" "lengths" st_lengths f fd ∧ mg "lengths" = some (.ref f) ∧ Binds K fd ["code"] []
  f_law : ∃ f fd, Fun K "law" "law" st_law f fd ∧ mg "law" = some (.ref f) ∧ (∀ (s : Shared) (u : Value), BindsTo s fd ⟨[u], []⟩ [("script", u)])
section
variable {P : Program} {w : World} {K : PySem.W.Frag} {mg : Str → Option Value} {base : Heap}
theorem ok__law_deck (T : TopOk K mg) (B : TabsB K mg base) : DefOk P w K mg base 1 "_law_deck" ["script"] sp__law_deck := by
  obtain ⟨f, fd, F, hm, hb⟩ := T.f__law_deck
  refine def_ok F sc__law_deck hm hb (fun ds m Q h => by repeat (first | exact (congrArg List.length h.1).trans rfl | obtain ⟨_, h⟩ := h)) (fun cdv A outer s H E hr => ?_) hp__law_deck
  exact (jss_cons (js_set (i := 1) sc__law_deck.nd rfl (.inl rfl) je_int)
    (jss_cons (js_for (vs := [2]) PassesOwn.never rfl (ji_any (je_sl (je_var 0) jo_none (jo_some je_int))) (jg_name (i := 2) sc__law_deck.nd rfl (.inl rfl)) (jss_one (js_if (jt_cmp (oj_ge hr) (je_blt cj_abs T.n_abs (ja_cons (je_var 2) ja_nil)) (je_op oj_pow je_int je_int)) (jss_one (js_set (i := 1) sc__law_deck.nd rfl (.inl rfl) (je_op oj_add (je_op oj_mul (je_var 1) je_int) (je_blt cj_abs T.n_abs (ja_cons (je_var 2) ja_nil))))) jss_nil)))
    (jss_one (js_ret (je_disp (jps_cons (je_op oj_add (je_bty cj_list T.n_list (ja_cons (je_sl (je_var 0) jo_none (jo_some je_int)) ja_nil)) (je_lst (ja_cons (je_op oj_add (je_blt cj_len T.n_len (ja_cons (je_var 0) ja_nil)) je_int) ja_nil))) (jps_cons je_int (jps_cons (je_var 1) jps_nil))))))))
theorem ok__law_take (T : TopOk K mg) (B : TabsB K mg base) : DefOk P w K mg base 1 "_law_take" ["deck", "many"] sp__law_take := by
  obtain ⟨f, fd, F, hm, hb⟩ := T.f__law_take
  refine def_ok F sc__law_take hm hb (fun ds m Q h => by repeat (first | exact (congrArg List.length h.1).trans rfl | obtain ⟨_, h⟩ := h)) (fun cdv A outer s H E hr => ?_) hp__law_take
  exact (jss_cons (js_asg (vs := []) (je_op oj_add (je_ix (ij_any hr) (je_var 0) je_str) je_int) (jg_sub (je_var 0) je_str (sj_set hr)))
    (jss_cons (js_if (jt_cmp (oj_gt hr) (je_ix (ij_any hr) (je_var 0) je_str) je_int) (jss_cons (js_set (i := 2) sc__law_take.nd rfl (.inl rfl) (je_op oj_mod (je_ix (ij_any hr) (je_var 0) je_str) (je_var 1)))
    (jss_cons (js_asg (vs := []) (je_op oj_div (je_ix (ij_any hr) (je_var 0) je_str) (je_var 1)) (jg_sub (je_var 0) je_str (sj_set hr)))
    (jss_one (js_ret (je_var 2))))) jss_nil)
    (jss_cons (js_par (i := 3) (j := 4) rfl sc__law_take.nd rfl rfl (by decide) rfl rfl (ja_cons (je_ix (ij_any hr) (je_var 0) je_str) (ja_cons (je_ix (ij_any hr) (je_var 0) je_str) ja_nil)))
    (jss_cons (js_set (i := 5) sc__law_take.nd rfl (.inl rfl) (je_op oj_mod (je_op oj_pow (je_op oj_add (je_op oj_add (je_op oj_mod (je_ix (ij_any hr) (je_var 4) (je_op oj_mod (je_var 3) (je_blt cj_len T.n_len (ja_cons (je_var 4) ja_nil)))) je_int) (je_op oj_mul je_int (je_var 3))) je_int) je_int) je_int))
    (jss_one (js_ret (je_op oj_mod (je_op oj_div (je_op oj_mod (je_op oj_add (je_op oj_mul (je_var 5) je_int) (je_op oj_mul (je_op oj_mul je_int (je_var 3)) (je_var 3))) je_int) je_int) (je_var 1))))))))
theorem ok__law_one (T : TopOk K mg) (B : TabsB K mg base) : DefOk P w K mg base 2 "_law_one" ["deck", "items"] sp__law_one := by
  obtain ⟨f, fd, F, hm, hb⟩ := T.f__law_one
  have G__law_take := ok__law_take (P := P) (w := w) (base := base) T B
  refine def_ok F sc__law_one hm hb (fun ds m Q h => by repeat (first | exact (congrArg List.length h.1).trans rfl | obtain ⟨_, h⟩ := h)) (fun cdv A outer s H E hr => ?_) hp__law_one
  exact (jss_one (js_ret (je_ix (ij_any hr) (je_var 1) (je_call G__law_take hr (ja_cons (je_var 0) (ja_cons (je_blt cj_len T.n_len (ja_cons (je_var 1) ja_nil)) ja_nil))))))
theorem ok__law_split (T : TopOk K mg) (B : TabsB K mg base) : DefOk P w K mg base 3 "_law_split" ["deck", "signs", "words", "many", "deep"] sp__law_split := by
  obtain ⟨f, fd, F, hm, hb⟩ := T.f__law_split
  have G__law_one := ok__law_one (P := P) (w := w) (base := base) T B
  have G__law_take := ok__law_take (P := P) (w := w) (base := base) T B
  refine def_ok F sc__law_split hm hb (fun ds m Q h => by repeat (first | exact (congrArg List.length h.1).trans rfl | obtain ⟨_, h⟩ := h)) (fun cdv A outer s H E hr => ?_) hp__law_split
  exact (jss_cons (js_setLc (i := 6) rfl sc__law_split.nd rfl rfl (sw_true rfl rfl rfl (by decide +kernel)) (ji_r1 T.n_range (ja_cons (je_blt cj_len T.n_len (ja_cons (je_var 2) ja_nil)) ja_nil)) (blkOk_by (own := [("spot", 5)]) (N := N__law_split) (sc := (defScope st__law_split)) (by decide +kernel)) (fun _ _ _ _ _ => (jg_name (i := 5) sc__law_split.nd rfl (.inl rfl))) (fun _ _ _ _ _ => (jts_one (jt_cmp (oj_lt hr) (je_blt cj_len T.n_len (ja_cons (je_ix (ij_any hr) (je_var 2) (je_var 5)) ja_nil)) (je_var 4)))) (fun _ _ _ _ _ => (je_var 5)))
    (jss_cons (js_if (jt_cmp (oj_eq hr) (je_var 6) (je_lst ja_nil)) (jss_one (js_ret je_non)) jss_nil)
    (jss_cons (js_set (i := 5) sc__law_split.nd rfl (.inr rfl) (je_call G__law_one hr (ja_cons (je_var 0) (ja_cons (je_var 6) ja_nil))))
    (jss_cons (js_set (i := 7) sc__law_split.nd rfl (.inl rfl) (je_blt (cj_min rfl hr) T.n_min (ja_cons (je_var 1) (ja_cons (je_op oj_add (je_op oj_sub (je_var 3) (je_blt cj_len T.n_len (ja_cons (je_var 2) ja_nil))) je_int) ja_nil))))
    (jss_cons (js_set (i := 8) sc__law_split.nd rfl (.inl rfl) (je_if (jt_cmp (oj_eq hr) (je_call G__law_take hr (ja_cons (je_var 0) (ja_cons je_int ja_nil))) je_int) je_int (je_op oj_add je_int (je_call G__law_take hr (ja_cons (je_var 0) (ja_cons (je_op oj_sub (je_var 7) je_int) ja_nil))))))
    (jss_cons (js_set (i := 9) sc__law_split.nd rfl (.inl rfl) (je_listR1 T.n_list T.n_range (je_var 1)))
    (jss_cons (js_while PassesOwn.never (jt_cmp (oj_gt hr) (je_blt cj_len T.n_len (ja_cons (je_var 9) ja_nil)) (je_blt (cj_min rfl hr) T.n_min (ja_cons (je_var 8) (ja_cons (je_var 7) ja_nil)))) (jss_one (js_expr (je_pop1 (je_var 9) (ja_cons (je_call G__law_take hr (ja_cons (je_var 0) (ja_cons (je_blt cj_len T.n_len (ja_cons (je_var 9) ja_nil)) ja_nil))) ja_nil)))))
    (jss_one (js_ret (je_op oj_add (je_op oj_add (je_sl (je_var 2) jo_none (jo_some (je_var 5))) (je_lc rfl sc__law_split.nd (ji_any (je_var 9)) (blkOk_by (own := [("sign", 10)]) (N := N__law_split) (sc := (defScope st__law_split)) (by decide +kernel)) (fun _ _ _ _ _ => (jg_name (i := 10) sc__law_split.nd rfl (.inl rfl))) (fun _ _ _ _ _ => jts_nil) (fun _ _ _ _ _ => (je_op oj_add (je_ix (ij_any hr) (je_var 2) (je_var 5)) (je_tup (ja_cons (je_var 10) ja_nil)))))) (je_sl (je_var 2) (jo_some (je_op oj_add (je_var 5) je_int)) jo_none)))))))))))
theorem ok__law_code (T : TopOk K mg) (B : TabsB K mg base) : DefOk P w K mg base 4 "_law_code" ["deck", "signs", "many", "deep"] sp__law_codeX := by
  obtain ⟨f, fd, F, hm, hb⟩ := T.f__law_code
  have G__law_split := ok__law_split (P := P) (w := w) (base := base) T B
  refine def_ok F sc__law_code hm hb (fun ds m Q h => by repeat (first | exact (congrArg List.length h.1).trans rfl | obtain ⟨_, h⟩ := h)) (fun cdv A outer s H E hr => ?_) hp__law_codeX
  exact (jss_cons (js_set (i := 4) sc__law_code.nd rfl (.inl rfl) (je_lst (ja_cons (je_tup ja_nil) ja_nil)))
    (jss_cons (js_while PassesOwn.never (jt_cmp (oj_lt hr) (je_blt cj_len T.n_len (ja_cons (je_var 4) ja_nil)) (je_var 2)) (jss_cons (js_set (i := 5) sc__law_code.nd rfl (.inl rfl) (je_call G__law_split hr (ja_cons (je_var 0) (ja_cons (je_var 1) (ja_cons (je_var 4) (ja_cons (je_var 2) (ja_cons (je_var 3) ja_nil)))))))
    (jss_cons (js_if (jt_cmp oj_is (je_var 5) je_non) (jss_one (js_ret (je_bty cj_tupleX T.n_tuple (ja_cons (je_var 4) ja_nil)))) jss_nil)
    (jss_one (js_set (i := 4) sc__law_code.nd rfl (.inl rfl) (je_var 5))))))
    (jss_one (js_ret (je_bty cj_tupleX T.n_tuple (ja_cons (je_var 4) ja_nil))))))
theorem ok_joined (T : TopOk K mg) (B : TabsB K mg base) : DefOk P w K mg base 1 "joined" ["code", "keys"] sp_joined := by
  obtain ⟨f, fd, F, hm, hb⟩ := T.f_joined
  refine def_ok F sc_joined hm hb (fun ds m Q h => len_lV (fun l Q h => by repeat (first | exact (congrArg List.length h.1).trans rfl | obtain ⟨_, h⟩ := h)) h) (fun cdv A outer s H E hr => ?_) hp_joined
  exact (jss_cons (js_set (i := 2) sc_joined.nd rfl (.inl rfl) (je_lst ja_nil))
    (jss_cons (js_for (vs := [3]) PassesOwn.never rfl (ji_any (je_var 1)) (jg_name (i := 3) sc_joined.nd rfl (.inl rfl)) (jss_one (js_expr (je_extend (je_var 2) (ja_cons (je_ix (ij_any hr) (je_var 0) (je_var 3)) ja_nil)))))
    (jss_one (js_ret (je_bty cj_tuple T.n_tuple (ja_cons (je_var 2) ja_nil))))))
theorem ok__law_starts (T : TopOk K mg) (B : TabsB K mg base) : DefOk P w K mg base 1 "_law_starts" ["one", "other"] sp__law_starts := by
  obtain ⟨f, fd, F, hm, hb⟩ := T.f__law_starts
  refine def_ok F sc__law_starts hm hb (fun ds m Q h => by repeat (first | exact (congrArg List.length h.1).trans rfl | obtain ⟨_, h⟩ := h)) (fun cdv A outer s H E hr => ?_) hp__law_starts
  exact (jss_one (js_ret (je_and (je_cmp (oj_le hr) (je_blt cj_len T.n_len (ja_cons (je_var 0) ja_nil)) (je_blt cj_len T.n_len (ja_cons (je_var 1) ja_nil))) (je_one (je_cmp (oj_eq hr) (je_bty cj_list T.n_list (ja_cons (je_var 0) ja_nil)) (je_bty cj_list T.n_list (ja_cons (je_sl (je_var 1) jo_none (jo_some (je_blt cj_len T.n_len (ja_cons (je_var 0) ja_nil)))) ja_nil)))))))
theorem ok_is_integer (T : TopOk K mg) (B : TabsB K mg base) : DefOk P w K mg base 1 "is_integer" ["value", "low", "high"] sp_is_integer := by
  obtain ⟨f, fd, F, hm, hb⟩ := T.f_is_integer
  refine def_ok F sc_is_integer hm hb (fun ds m Q h => by repeat (first | exact (congrArg List.length h.1).trans rfl | obtain ⟨_, h⟩ := h)) (fun cdv A outer s H E hr => ?_) hp_is_integer
  exact (jss_one (js_ret (je_and (je_isi "int" "int" T.n_isinstance T.n_int (je_var 0)) (je_and (je_not (je_isi "bool" "bool" T.n_isinstance T.n_bool (je_var 0))) (je_one (je_chain (oj_le hr) (oj_le hr) (je_var 1) (je_var 0) (je_var 2)))))))
theorem ok_are_signs (T : TopOk K mg) (B : TabsB K mg base) : DefOk P w K mg base 2 "are_signs" ["signs", "value"] sp_are_signs := by
  obtain ⟨f, fd, F, hm, hb⟩ := T.f_are_signs
  have G_is_integer := ok_is_integer (P := P) (w := w) (base := base) T B
  refine def_ok F sc_are_signs hm hb (fun ds m Q h => by repeat (first | exact (congrArg List.length h.1).trans rfl | obtain ⟨_, h⟩ := h)) (fun cdv A outer s H E hr => ?_) hp_are_signs
  exact (jss_one (js_ret (je_and (je_isi "tuple" "tuple" T.n_isinstance T.n_tuple (je_var 1)) (je_one (je_blt (cj_all rfl) T.n_all (ja_cons (je_lc rfl sc_are_signs.nd (ji_any (je_var 1)) (blkOk_by (own := [("item", 2)]) (N := N_are_signs) (sc := (defScope st_are_signs)) (by decide +kernel)) (fun _ _ _ _ _ => (jg_name (i := 2) sc_are_signs.nd rfl (.inl rfl))) (fun _ _ _ _ _ => jts_nil) (fun _ _ _ _ _ => (je_call G_is_integer hr (ja_cons (je_var 2) (ja_cons je_int (ja_cons (je_op oj_sub (je_var 0) je_int) ja_nil)))))) ja_nil))))))
theorem ok_is_start (T : TopOk K mg) (B : TabsB K mg base) : DefOk P w K mg base 1 "is_start" ["one", "other"] sp_is_start := by
  obtain ⟨f, fd, F, hm, hb⟩ := T.f_is_start
  refine def_ok F sc_is_start hm hb (fun ds m Q h => by repeat (first | exact (congrArg List.length h.1).trans rfl | obtain ⟨_, h⟩ := h)) (fun cdv A outer s H E hr => ?_) hp_is_start
  exact (jss_one (js_ret (je_cmp (oj_eq hr) (je_sl (je_var 1) jo_none (jo_some (je_blt cj_len T.n_len (ja_cons (je_var 0) ja_nil)))) (je_var 0))))
theorem ok_read (T : TopOk K mg) (B : TabsB K mg base) : DefOk P w K mg base 3 "read" ["signs", "code", "value"] sp_read := by
  obtain ⟨f, fd, F, hm, hb⟩ := T.f_read
  have G_are_signs := ok_are_signs (P := P) (w := w) (base := base) T B
  have G_is_start := ok_is_start (P := P) (w := w) (base := base) T B
  refine def_ok F sc_read hm hb (fun ds m Q h => len_lV (fun l Q h => by repeat (first | exact (congrArg List.length h.1).trans rfl | obtain ⟨_, h⟩ := h)) h) (fun cdv A outer s H E hr => ?_) hp_read
  exact (jss_cons (js_if (jt_not (jt_val (je_call G_are_signs hr (ja_cons (je_var 0) (ja_cons (je_var 2) ja_nil))))) (jss_one js_never) jss_nil)
    (jss_cons (js_asg (vs := [3, 4]) (je_tup (ja_cons (je_lst ja_nil) (ja_cons (je_tup ja_nil) ja_nil))) (jg_tup rfl (jgs_cons (jg_name (i := 3) sc_read.nd rfl (.inl rfl)) (jgs_cons (jg_name (i := 4) sc_read.nd rfl (.inr rfl)) jgs_nil))))
    (jss_cons (js_for (vs := [5, 6]) PassesOwn.never rfl (ji_enum T.n_enumerate (ja_cons (je_var 2) ja_nil)) (jg_tup rfl (jgs_cons (jg_name (i := 5) sc_read.nd rfl (.inl rfl)) (jgs_cons (jg_name (i := 6) sc_read.nd rfl (.inl rfl)) jgs_nil))) (jss_cons (js_set (i := 4) sc_read.nd rfl (.inr rfl) (je_op oj_add (je_var 4) (je_tup (ja_cons (je_var 6) ja_nil))))
    (jss_cons (js_if (jt_not (jt_val (je_blt (cj_any rfl) T.n_any (ja_cons (je_lc rfl sc_read.nd (ji_any (je_wk (je_var 1))) (blkOk_by (own := [("word", 7)]) (N := N_read) (sc := (defScope st_read)) (by decide +kernel)) (fun _ _ _ _ _ => (jg_name (i := 7) sc_read.nd rfl (.inl rfl))) (fun _ _ _ _ _ => jts_nil) (fun _ _ _ _ _ => (je_call G_is_start hr (ja_cons (je_var 4) (ja_cons (je_var 7) ja_nil))))) ja_nil)))) (jss_one js_never) jss_nil)
    (jss_one (js_if (jt_cmp (oj_in hr) (je_var 4) (je_wk (je_var 1))) (jss_cons (js_expr (je_append (je_var 3) (ja_cons (je_xidx hr (je_var 1) (ja_cons (je_var 4) ja_nil)) ja_nil)))
    (jss_one (js_set (i := 4) sc_read.nd rfl (.inr rfl) (je_tup ja_nil)))) jss_nil)))))
    (jss_cons (js_if (jt_cmp (oj_ne hr) (je_var 4) (je_tup ja_nil)) (jss_one js_never) jss_nil)
    (jss_one (js_ret (je_bty cj_tuple T.n_tuple (ja_cons (je_var 3) ja_nil))))))))
theorem ok_lengths (T : TopOk K mg) (B : TabsB K mg base) : DefOk P w K mg base 1 "lengths" ["code"] sp_lengths := by
  obtain ⟨f, fd, F, hm, hb⟩ := T.f_lengths
  refine def_ok F sc_lengths hm hb (fun ds m Q h => len_lV (fun l Q h => by repeat (first | exact (congrArg List.length h.1).trans rfl | obtain ⟨_, h⟩ := h)) h) (fun cdv A outer s H E hr => ?_) hp_lengths
  exact (jss_one (js_ret (je_bty cj_tuple T.n_tuple (ja_cons (je_lc rfl sc_lengths.nd (ji_any (je_var 0)) (blkOk_by (own := [("word", 1)]) (N := N_lengths) (sc := (defScope st_lengths)) (by decide +kernel)) (fun _ _ _ _ _ => (jg_name (i := 1) sc_lengths.nd rfl (.inl rfl))) (fun _ _ _ _ _ => jts_nil) (fun _ _ _ _ _ => (je_blt cj_len T.n_len (ja_cons (je_var 1) ja_nil)))) ja_nil))))
theorem ok_law (T : TopOk K mg) (B : TabsB K mg base) {f : Addr} (cdv : Value) (s : Shared) (H : Hp) (E : XK) (hr : Room 229 (callerA.deeper (envOfC "law" (defScope st_law) s.heap.objs.size f cdv))) :
    JSs (cxOf CX0 P w K mg base N_law "law" (defScope st_law) f cdv callerA [] s H E).nox (defBody st_law) b_law := by
  have G__law_deck := ok__law_deck (P := P) (w := w) (base := base) T B
  have G__law_take := ok__law_take (P := P) (w := w) (base := base) T B
  have G__law_code := ok__law_code (P := P) (w := w) (base := base) T B
  have G__law_one := ok__law_one (P := P) (w := w) (base := base) T B
  have G_joined := ok_joined (P := P) (w := w) (base := base) T B
  have G__law_starts := ok__law_starts (P := P) (w := w) (base := base) T B
  have G_read := ok_read (P := P) (w := w) (base := base) T B
  have G_lengths := ok_lengths (P := P) (w := w) (base := base) T B
  exact (jss_cons (js_set (i := 1) sc_law.nd rfl (.inr rfl) (je_call G__law_deck hr (ja_cons (je_var 0) ja_nil)))
    (jss_cons (js_for (vs := [2]) PassesOwn.never rfl (ji_r1 T.n_range (ja_cons je_int ja_nil)) (jg_name (i := 2) sc_law.nd rfl (.inl rfl)) (jss_cons (js_set (i := 3) sc_law.nd rfl (.inl rfl) (je_op oj_add je_int (je_call G__law_take hr (ja_cons (je_var 1) (ja_cons je_int ja_nil)))))
    (jss_cons (js_set (i := 4) sc_law.nd rfl (.inr rfl) (je_call G__law_code hr (ja_cons (je_var 1) (ja_cons (je_var 3) (ja_cons (je_op oj_add je_int (je_call G__law_take hr (ja_cons (je_var 1) (ja_cons je_int ja_nil)))) (ja_cons (je_call G__law_one hr (ja_cons (je_var 1) (ja_cons (je_lst (ja_cons je_int (ja_cons je_int ja_nil))) ja_nil))) ja_nil))))))
    (jss_one (js_if (jt_cmp (oj_gt hr) (je_blt cj_len T.n_len (ja_cons (je_wk (je_var 4)) ja_nil)) je_int) (jss_cons (js_set (i := 5) sc_law.nd rfl (.inl rfl) (je_bty cj_tuple T.n_tuple (ja_cons (je_lc rfl sc_law.nd (ji_r1 T.n_range (ja_cons (je_call G__law_take hr (ja_cons (je_var 1) (ja_cons je_int ja_nil))) ja_nil)) (blkOk_by (own := [("place", 12)]) (N := N_law) (sc := (defScope st_law)) (by decide +kernel)) (fun _ _ _ _ _ => (jg_name (i := 12) sc_law.nd rfl (.inl rfl))) (fun _ _ _ _ _ => jts_nil) (fun _ _ _ _ _ => (je_call G__law_take hr (ja_cons (je_var 1) (ja_cons (je_blt cj_len T.n_len (ja_cons (je_wk (je_var 4)) ja_nil)) ja_nil))))) ja_nil)))
    (jss_cons (js_set (i := 6) sc_law.nd rfl (.inl rfl) (je_lst (ja_cons (je_var 5) (ja_cons (je_op oj_add (je_var 5) (je_tup (ja_cons (je_call G__law_take hr (ja_cons (je_var 1) (ja_cons (je_blt cj_len T.n_len (ja_cons (je_wk (je_var 4)) ja_nil)) ja_nil))) ja_nil))) ja_nil))))
    (jss_cons (js_for (vs := [7]) PassesOwn.never rfl (ji_r1 T.n_range (ja_cons je_int ja_nil)) (jg_name (i := 7) sc_law.nd rfl (.inl rfl)) (jss_one (js_expr (je_append (je_var 6) (ja_cons (je_op oj_add (je_var 5) (je_bty cj_tuple T.n_tuple (ja_cons (je_lc rfl sc_law.nd (ji_r1 T.n_range (ja_cons (je_call G__law_take hr (ja_cons (je_var 1) (ja_cons je_int ja_nil))) ja_nil)) (blkOk_by (own := [("place", 12)]) (N := N_law) (sc := (defScope st_law)) (by decide +kernel)) (fun _ _ _ _ _ => (jg_name (i := 12) sc_law.nd rfl (.inl rfl))) (fun _ _ _ _ _ => jts_nil) (fun _ _ _ _ _ => (je_call G__law_take hr (ja_cons (je_var 1) (ja_cons (je_blt cj_len T.n_len (ja_cons (je_wk (je_var 4)) ja_nil)) ja_nil))))) ja_nil))) ja_nil)))))
    (jss_one (js_for (vs := [8]) PassesOwn.never rfl (ji_any (je_var 6)) (jg_name (i := 8) sc_law.nd rfl (.inl rfl)) (jss_cons (js_for (vs := [9]) PassesOwn.never rfl (ji_any (je_var 6)) (jg_name (i := 9) sc_law.nd rfl (.inl rfl)) (jss_cons (js_par (i := 10) (j := 11) rfl sc_law.nd rfl rfl (by decide) rfl rfl (ja_cons (je_call G_joined hr (ja_cons (je_wk (je_var 4)) (ja_cons (je_var 8) ja_nil))) (ja_cons (je_call G_joined hr (ja_cons (je_wk (je_var 4)) (ja_cons (je_var 9) ja_nil))) ja_nil)))
    (jss_cons (js_if (jt_w (jw_or (jt_cmp (oj_ne hr) (je_cmp (oj_lt hr) (je_var 8) (je_var 9)) (je_cmp (oj_lt hr) (je_var 10) (je_var 11))) (jw_or1 (jt_cmp (oj_ne hr) (je_cmp (oj_eq hr) (je_var 8) (je_var 9)) (je_cmp (oj_eq hr) (je_var 10) (je_var 11)))))) (jss_one (js_ret je_bl)) jss_nil)
    (jss_one (js_if (jt_w (jw_and (jt_cmp (oj_eq hr) (je_blt cj_len T.n_len (ja_cons (je_var 8) ja_nil)) (je_blt cj_len T.n_len (ja_cons (je_var 9) ja_nil))) (jw_and (jt_cmp (oj_ne hr) (je_var 8) (je_var 9)) (jw_and1 (jt_val (je_call G__law_starts hr (ja_cons (je_var 10) (ja_cons (je_var 11) ja_nil)))))))) (jss_one (js_ret je_bl)) jss_nil)))))
    (jss_cons (js_if (jt_cmp (oj_ne hr) (je_call G_read hr (ja_cons (je_var 3) (ja_cons (je_var 4) (ja_cons (je_call G_joined hr (ja_cons (je_wk (je_var 4)) (ja_cons (je_var 8) ja_nil))) ja_nil)))) (je_var 8)) (jss_one (js_ret je_bl)) jss_nil)
    (jss_one (js_if (jt_cmp (oj_ne hr) (je_blt cj_len T.n_len (ja_cons (je_call G_joined hr (ja_cons (je_wk (je_var 4)) (ja_cons (je_var 8) ja_nil))) ja_nil)) (je_blt (cj_sumA rfl) T.n_sum (ja_cons (je_lc rfl sc_law.nd (ji_any (je_var 8)) (blkOk_by (own := [("key", 13)]) (N := N_law) (sc := (defScope st_law)) (by decide +kernel)) (fun _ _ _ _ _ => (jg_name (i := 13) sc_law.nd rfl (.inl rfl))) (fun _ _ _ _ _ => jts_nil) (fun _ _ _ _ _ => (je_ix (ij_any hr) (je_call G_lengths hr (ja_cons (je_wk (je_var 4)) ja_nil)) (je_var 13)))) ja_nil))) (jss_one (js_ret je_bl)) jss_nil))))))))) jss_nil)))))
    (jss_one (js_ret je_bl))))
theorem fin (T : TopOk K mg) {fa : Addr} (hmg : mg "law" = some (.ref fa)) : ∃ (x : Str) (fd : FuncData), Fun K x "law" st_law fa fd ∧ (∀ (s : Shared) (u : Value), BindsTo s fd ⟨[u], []⟩ [("script", u)]) ∧
    ∀ (base : Heap), TabsB K mg base → ∀ (cdv : Value) (s : Shared) (H : Hp) (E : XK), Room 229 (callerA.deeper (envOfC "law" (defScope st_law) s.heap.objs.size fa cdv)) →
      JSs (cxOf CX0 P w K mg base N_law "law" (defScope st_law) fa cdv callerA [] s H E).nox (defBody st_law) b_law := by
  obtain ⟨f, fd, F, hm, hb⟩ := T.f_law
  have e := hm.symm.trans hmg
  cases e
  exact ⟨"law", fd, F, hb, fun base B cdv s H E hr => ok_law (base := base) T B cdv s H E hr⟩
end
theorem top_mk {K : PySem.W.Frag} {h : Heap} {mg : Str → Option Value} (X : K.In h) (G : h.Ns mainGlobals mg)
    (z_abs : PySem.W.nsIn K mainGlobals "abs" = some none)
    (z_all : PySem.W.nsIn K mainGlobals "all" = some none)
    (z_any : PySem.W.nsIn K mainGlobals "any" = some none)
    (z_bool : PySem.W.nsIn K mainGlobals "bool" = some none)
    (z_enumerate : PySem.W.nsIn K mainGlobals "enumerate" = some none)
    (z_int : PySem.W.nsIn K mainGlobals "int" = some none)
    (z_isinstance : PySem.W.nsIn K mainGlobals "isinstance" = some none)
    (z_len : PySem.W.nsIn K mainGlobals "len" = some none)
    (z_list : PySem.W.nsIn K mainGlobals "list" = some none)
    (z_min : PySem.W.nsIn K mainGlobals "min" = some none)
    (z_range : PySem.W.nsIn K mainGlobals "range" = some none)
    (z_sum : PySem.W.nsIn K mainGlobals "sum" = some none)
    (z_tuple : PySem.W.nsIn K mainGlobals "tuple" = some none)
    {f0 : Addr} {od0 an0 : Option Addr} {sl0 : Array (Option Value)} {oc0 kV0 dc0 pm0 cd0 ct0 : Value}
    (a0 : PySem.W.nsIn K mainGlobals "_law_deck" = some (some (.ref f0))) (l0 : K.lookup f0 = some ⟨oc0, od0, .func (PySem.W.fnOf "_law_deck" "_law_deck" (defArgs st__law_deck) (defBody st__law_deck) (defScope st__law_deck) .none kV0 dc0 pm0 an0 cd0 ct0), sl0⟩) (c0 : PySem.W.codeIn K cd0 "_law_deck" = true) (k0 : PySem.W.keepIn K (.ref f0) = true)
    {f1 : Addr} {od1 an1 : Option Addr} {sl1 : Array (Option Value)} {oc1 kV1 dc1 pm1 cd1 ct1 : Value}
    (a1 : PySem.W.nsIn K mainGlobals "_law_take" = some (some (.ref f1))) (l1 : K.lookup f1 = some ⟨oc1, od1, .func (PySem.W.fnOf "_law_take" "_law_take" (defArgs st__law_take) (defBody st__law_take) (defScope st__law_take) .none kV1 dc1 pm1 an1 cd1 ct1), sl1⟩) (c1 : PySem.W.codeIn K cd1 "_law_take" = true) (k1 : PySem.W.keepIn K (.ref f1) = true)
    {f2 : Addr} {od2 an2 : Option Addr} {sl2 : Array (Option Value)} {oc2 kV2 dc2 pm2 cd2 ct2 : Value}
    (a2 : PySem.W.nsIn K mainGlobals "_law_one" = some (some (.ref f2))) (l2 : K.lookup f2 = some ⟨oc2, od2, .func (PySem.W.fnOf "_law_one" "_law_one" (defArgs st__law_one) (defBody st__law_one) (defScope st__law_one) .none kV2 dc2 pm2 an2 cd2 ct2), sl2⟩) (c2 : PySem.W.codeIn K cd2 "_law_one" = true) (k2 : PySem.W.keepIn K (.ref f2) = true)
    {f3 : Addr} {od3 an3 : Option Addr} {sl3 : Array (Option Value)} {oc3 kV3 dc3 pm3 cd3 ct3 : Value}
    (a3 : PySem.W.nsIn K mainGlobals "_law_split" = some (some (.ref f3))) (l3 : K.lookup f3 = some ⟨oc3, od3, .func (PySem.W.fnOf "_law_split" "_law_split" (defArgs st__law_split) (defBody st__law_split) (defScope st__law_split) .none kV3 dc3 pm3 an3 cd3 ct3), sl3⟩) (c3 : PySem.W.codeIn K cd3 "_law_split" = true) (k3 : PySem.W.keepIn K (.ref f3) = true)
    {f4 : Addr} {od4 an4 : Option Addr} {sl4 : Array (Option Value)} {oc4 kV4 dc4 pm4 cd4 ct4 : Value}
    (a4 : PySem.W.nsIn K mainGlobals "_law_code" = some (some (.ref f4))) (l4 : K.lookup f4 = some ⟨oc4, od4, .func (PySem.W.fnOf "_law_code" "_law_code" (defArgs st__law_code) (defBody st__law_code) (defScope st__law_code) .none kV4 dc4 pm4 an4 cd4 ct4), sl4⟩) (c4 : PySem.W.codeIn K cd4 "_law_code" = true) (k4 : PySem.W.keepIn K (.ref f4) = true)
    {f5 : Addr} {od5 an5 : Option Addr} {sl5 : Array (Option Value)} {oc5 kV5 dc5 pm5 cd5 ct5 : Value}
    (a5 : PySem.W.nsIn K mainGlobals "joined" = some (some (.ref f5))) (l5 : K.lookup f5 = some ⟨oc5, od5, .func (PySem.W.fnOf "joined" "joined" (defArgs st_joined) (defBody st_joined) (defScope st_joined) .none kV5 dc5 pm5 an5 cd5 ct5), sl5⟩) (c5 : PySem.W.codeIn K cd5 "joined" = true) (k5 : PySem.W.keepIn K (.ref f5) = true)
    {f6 : Addr} {od6 an6 : Option Addr} {sl6 : Array (Option Value)} {oc6 kV6 dc6 pm6 cd6 ct6 : Value}
    (a6 : PySem.W.nsIn K mainGlobals "_law_starts" = some (some (.ref f6))) (l6 : K.lookup f6 = some ⟨oc6, od6, .func (PySem.W.fnOf "_law_starts" "_law_starts" (defArgs st__law_starts) (defBody st__law_starts) (defScope st__law_starts) .none kV6 dc6 pm6 an6 cd6 ct6), sl6⟩) (c6 : PySem.W.codeIn K cd6 "_law_starts" = true) (k6 : PySem.W.keepIn K (.ref f6) = true)
    {f7 : Addr} {od7 an7 : Option Addr} {sl7 : Array (Option Value)} {oc7 kV7 dc7 pm7 cd7 ct7 : Value}
    (a7 : PySem.W.nsIn K mainGlobals "is_integer" = some (some (.ref f7))) (l7 : K.lookup f7 = some ⟨oc7, od7, .func (PySem.W.fnOf "is_integer" "is_integer" (defArgs st_is_integer) (defBody st_is_integer) (defScope st_is_integer) .none kV7 dc7 pm7 an7 cd7 ct7), sl7⟩) (c7 : PySem.W.codeIn K cd7 "is_integer" = true) (k7 : PySem.W.keepIn K (.ref f7) = true)
    {f8 : Addr} {od8 an8 : Option Addr} {sl8 : Array (Option Value)} {oc8 kV8 dc8 pm8 cd8 ct8 : Value}
    (a8 : PySem.W.nsIn K mainGlobals "are_signs" = some (some (.ref f8))) (l8 : K.lookup f8 = some ⟨oc8, od8, .func (PySem.W.fnOf "are_signs" "are_signs" (defArgs st_are_signs) (defBody st_are_signs) (defScope st_are_signs) .none kV8 dc8 pm8 an8 cd8 ct8), sl8⟩) (c8 : PySem.W.codeIn K cd8 "are_signs" = true) (k8 : PySem.W.keepIn K (.ref f8) = true)
    {f9 : Addr} {od9 an9 : Option Addr} {sl9 : Array (Option Value)} {oc9 kV9 dc9 pm9 cd9 ct9 : Value}
    (a9 : PySem.W.nsIn K mainGlobals "is_start" = some (some (.ref f9))) (l9 : K.lookup f9 = some ⟨oc9, od9, .func (PySem.W.fnOf "is_start" "is_start" (defArgs st_is_start) (defBody st_is_start) (defScope st_is_start) .none kV9 dc9 pm9 an9 cd9 ct9), sl9⟩) (c9 : PySem.W.codeIn K cd9 "is_start" = true) (k9 : PySem.W.keepIn K (.ref f9) = true)
    {f10 : Addr} {od10 an10 : Option Addr} {sl10 : Array (Option Value)} {oc10 kV10 dc10 pm10 cd10 ct10 : Value}
    (a10 : PySem.W.nsIn K mainGlobals "read" = some (some (.ref f10))) (l10 : K.lookup f10 = some ⟨oc10, od10, .func (PySem.W.fnOf "read" "read" (defArgs st_read) (defBody st_read) (defScope st_read) .none kV10 dc10 pm10 an10 cd10 ct10), sl10⟩) (c10 : PySem.W.codeIn K cd10 "read" = true) (k10 : PySem.W.keepIn K (.ref f10) = true)
    {f11 : Addr} {od11 an11 : Option Addr} {sl11 : Array (Option Value)} {oc11 kV11 dc11 pm11 cd11 ct11 : Value}
    (a11 : PySem.W.nsIn K mainGlobals "lengths" = some (some (.ref f11))) (l11 : K.lookup f11 = some ⟨oc11, od11, .func (PySem.W.fnOf "lengths" "lengths" (defArgs st_lengths) (defBody st_lengths) (defScope st_lengths) .none kV11 dc11 pm11 an11 cd11 ct11), sl11⟩) (c11 : PySem.W.codeIn K cd11 "lengths" = true) (k11 : PySem.W.keepIn K (.ref f11) = true)
    {f12 : Addr} {od12 an12 : Option Addr} {sl12 : Array (Option Value)} {oc12 kV12 dc12 pm12 cd12 ct12 : Value}
    (a12 : PySem.W.nsIn K mainGlobals "law" = some (some (.ref f12))) (l12 : K.lookup f12 = some ⟨oc12, od12, .func (PySem.W.fnOf "law" "law" (defArgs st_law) (defBody st_law) (defScope st_law) .none kV12 dc12 pm12 an12 cd12 ct12), sl12⟩) (c12 : PySem.W.codeIn K cd12 "law" = true) (k12 : PySem.W.keepIn K (.ref f12) = true)
    (zn_best_pair : PySem.W.nsIn K mainGlobals "best_pair" = some none)
    (zn_worst_pair : PySem.W.nsIn K mainGlobals "worst_pair" = some none)
    (zn_mended : PySem.W.nsIn K mainGlobals "mended" = some none)
    (zn_best_kept : PySem.W.nsIn K mainGlobals "best_kept" = some none)
    (zn_ledger : PySem.W.nsIn K mainGlobals "ledger" = some none)
    : TopOk K mg := by
  have tn_best_pair := tabIn_none zn_best_pair
  have tn_worst_pair := tabIn_none zn_worst_pair
  have tn_mended := tabIn_none zn_mended
  have tn_best_kept := tabIn_none zn_best_kept
  have tn_ledger := tabIn_none zn_ledger
  have tt := tabs_eq tn_best_pair tn_worst_pair tn_mended tn_best_kept tn_ledger
  have F0 := fun_mk (st := st__law_deck) l0 c0 k0
  have b0 := F0.binds (ps := ["script"]) fun _ _ _ _ _ _ us hl => match us, hl with | [_], _ => rfl
  have F1 := fun_mk (st := st__law_take) l1 c1 k1
  have b1 := F1.binds (ps := ["deck", "many"]) fun _ _ _ _ _ _ us hl => match us, hl with | [_, _], _ => rfl
  have F2 := fun_mk (st := st__law_one) l2 c2 k2
  have b2 := F2.binds (ps := ["deck", "items"]) fun _ _ _ _ _ _ us hl => match us, hl with | [_, _], _ => rfl
  have F3 := fun_mk (st := st__law_split) l3 c3 k3
  have b3 := F3.binds (ps := ["deck", "signs", "words", "many", "deep"]) fun _ _ _ _ _ _ us hl => match us, hl with | [_, _, _, _, _], _ => rfl
  have F4 := fun_mk (st := st__law_code) l4 c4 k4
  have b4 := F4.binds (ps := ["deck", "signs", "many", "deep"]) fun _ _ _ _ _ _ us hl => match us, hl with | [_, _, _, _], _ => rfl
  have F5 := fun_mk (st := st_joined) l5 c5 k5
  have b5 := F5.binds (ps := ["code", "keys"]) fun _ _ _ _ _ _ us hl => match us, hl with | [_, _], _ => rfl
  have F6 := fun_mk (st := st__law_starts) l6 c6 k6
  have b6 := F6.binds (ps := ["one", "other"]) fun _ _ _ _ _ _ us hl => match us, hl with | [_, _], _ => rfl
  have F7 := fun_mk (st := st_is_integer) l7 c7 k7
  have b7 := F7.binds (ps := ["value", "low", "high"]) fun _ _ _ _ _ _ us hl => match us, hl with | [_, _, _], _ => rfl
  have F8 := fun_mk (st := st_are_signs) l8 c8 k8
  have b8 := F8.binds (ps := ["signs", "value"]) fun _ _ _ _ _ _ us hl => match us, hl with | [_, _], _ => rfl
  have F9 := fun_mk (st := st_is_start) l9 c9 k9
  have b9 := F9.binds (ps := ["one", "other"]) fun _ _ _ _ _ _ us hl => match us, hl with | [_, _], _ => rfl
  have F10 := fun_mk (st := st_read) l10 c10 k10
  have b10 := F10.binds (ps := ["signs", "code", "value"]) fun _ _ _ _ _ _ us hl => match us, hl with | [_, _, _], _ => rfl
  have F11 := fun_mk (st := st_lengths) l11 c11 k11
  have b11 := F11.binds (ps := ["code"]) fun _ _ _ _ _ _ us hl => match us, hl with | [_], _ => rfl
  have F12 := fun_mk (st := st_law) l12 c12 k12
  exact ⟨PySem.W.mg_none_of X G z_abs, PySem.W.mg_none_of X G z_all, PySem.W.mg_none_of X G z_any, PySem.W.mg_none_of X G z_bool, PySem.W.mg_none_of X G z_enumerate, PySem.W.mg_none_of X G z_int, PySem.W.mg_none_of X G z_isinstance, PySem.W.mg_none_of X G z_len, PySem.W.mg_none_of X G z_list, PySem.W.mg_none_of X G z_min, PySem.W.mg_none_of X G z_range, PySem.W.mg_none_of X G z_sum, PySem.W.mg_none_of X G z_tuple, ⟨_, _, F0, PySem.W.mg_of X G a0, b0⟩, ⟨_, _, F1, PySem.W.mg_of X G a1, b1⟩, ⟨_, _, F2, PySem.W.mg_of X G a2, b2⟩, ⟨_, _, F3, PySem.W.mg_of X G a3, b3⟩, ⟨_, _, F4, PySem.W.mg_of X G a4, b4⟩, ⟨_, _, F5, PySem.W.mg_of X G a5, b5⟩, ⟨_, _, F6, PySem.W.mg_of X G a6, b6⟩, ⟨_, _, F7, PySem.W.mg_of X G a7, b7⟩, ⟨_, _, F8, PySem.W.mg_of X G a8, b8⟩, ⟨_, _, F9, PySem.W.mg_of X G a9, b9⟩, ⟨_, _, F10, PySem.W.mg_of X G a10, b10⟩, ⟨_, _, F11, PySem.W.mg_of X G a11, b11⟩, ⟨_, _, F12, PySem.W.mg_of X G a12, fun s v => .of_eq rfl⟩⟩
theorem tab_no {K : PySem.W.Frag} (zn_best_pair : PySem.W.nsIn K mainGlobals "best_pair" = some none) (zn_worst_pair : PySem.W.nsIn K mainGlobals "worst_pair" = some none) (zn_mended : PySem.W.nsIn K mainGlobals "mended" = some none) (zn_best_kept : PySem.W.nsIn K mainGlobals "best_kept" = some none) (zn_ledger : PySem.W.nsIn K mainGlobals "ledger" = some none) {t : Addr × Str} (ht : t ∈ tabsOf K) : False := by
  have tn_best_pair := tabIn_none zn_best_pair
  have tn_worst_pair := tabIn_none zn_worst_pair
  have tn_mended := tabIn_none zn_mended
  have tn_best_kept := tabIn_none zn_best_kept
  have tn_ledger := tabIn_none zn_ledger
  rw [tabs_eq tn_best_pair tn_worst_pair tn_mended tn_best_kept tn_ledger] at ht
  simp at ht
end K06
open PySem PySem.W PyProof.Rows
set_option maxRecDepth 100000 in
set_option maxHeartbeats 0 in
theorem PySem.Challenge.cw_ordercodes_k06_whole_rows_of_keys_in_ord_holds : PySem.Challenge.rw_ordercodes_k06_whole_rows_of_keys_in_ord.Holds := by
  w_on; o_law; k_head; (case hw => w_witness2)
  k_fill
  refine DL.law_attach (l := PySem.Challenge.rw_ordercodes_k06_whole_rows_of_keys_in_ord) (p := "script") (qual := "law") (st := K06.st_law) (N := K06.N_law) (g := DL.b_law) rfl rfl (fun w h Y => PySem.W.kIn_of Y) ?hT ?nT K06.sc_law ?F DL.hp_law
  case hT =>
    intro w h Y t ht
    refine' (K06.tab_no ?zn_best_pair ?zn_worst_pair ?zn_mended ?zn_best_kept ?zn_ledger ht).elim
    (case zn_best_pair => k_is)
    (case zn_worst_pair => k_is)
    (case zn_mended => k_is)
    (case zn_best_kept => k_is)
    (case zn_ledger => k_is)
  case nT =>
    intro w t ht
    refine' (K06.tab_no ?zn_best_pair ?zn_worst_pair ?zn_mended ?zn_best_kept ?zn_ledger ht).elim
    (case zn_best_pair => k_is)
    (case zn_worst_pair => k_is)
    (case zn_mended => k_is)
    (case zn_best_kept => k_is)
    (case zn_ledger => k_is)
  case F =>
    intro w mg fa h KX G hmg
    refine' K06.fin (P := PySem.Challenge.rw_ordercodes_k06_whole_rows_of_keys_in_ord.prog) (K06.top_mk KX G ?z_abs ?z_all ?z_any ?z_bool ?z_enumerate ?z_int ?z_isinstance ?z_len ?z_list ?z_min ?z_range ?z_sum ?z_tuple ?a0 ?l0 ?c0 ?k0 ?a1 ?l1 ?c1 ?k1 ?a2 ?l2 ?c2 ?k2 ?a3 ?l3 ?c3 ?k3 ?a4 ?l4 ?c4 ?k4 ?a5 ?l5 ?c5 ?k5 ?a6 ?l6 ?c6 ?k6 ?a7 ?l7 ?c7 ?k7 ?a8 ?l8 ?c8 ?k8 ?a9 ?l9 ?c9 ?k9 ?a10 ?l10 ?c10 ?k10 ?a11 ?l11 ?c11 ?k11 ?a12 ?l12 ?c12 ?k12 ?zn_best_pair ?zn_worst_pair ?zn_mended ?zn_best_kept ?zn_ledger) hmg
    (case z_abs => k_is)
    (case z_all => k_is)
    (case z_any => k_is)
    (case z_bool => k_is)
    (case z_enumerate => k_is)
    (case z_int => k_is)
    (case z_isinstance => k_is)
    (case z_len => k_is)
    (case z_list => k_is)
    (case z_min => k_is)
    (case z_range => k_is)
    (case z_sum => k_is)
    (case z_tuple => k_is)
    (case a0 => k_is)
    (case l0 => k_is)
    (case c0 => k_is)
    (case k0 => k_is)
    (case a1 => k_is)
    (case l1 => k_is)
    (case c1 => k_is)
    (case k1 => k_is)
    (case a2 => k_is)
    (case l2 => k_is)
    (case c2 => k_is)
    (case k2 => k_is)
    (case a3 => k_is)
    (case l3 => k_is)
    (case c3 => k_is)
    (case k3 => k_is)
    (case a4 => k_is)
    (case l4 => k_is)
    (case c4 => k_is)
    (case k4 => k_is)
    (case a5 => k_is)
    (case l5 => k_is)
    (case c5 => k_is)
    (case k5 => k_is)
    (case a6 => k_is)
    (case l6 => k_is)
    (case c6 => k_is)
    (case k6 => k_is)
    (case a7 => k_is)
    (case l7 => k_is)
    (case c7 => k_is)
    (case k7 => k_is)
    (case a8 => k_is)
    (case l8 => k_is)
    (case c8 => k_is)
    (case k8 => k_is)
    (case a9 => k_is)
    (case l9 => k_is)
    (case c9 => k_is)
    (case k9 => k_is)
    (case a10 => k_is)
    (case l10 => k_is)
    (case c10 => k_is)
    (case k10 => k_is)
    (case a11 => k_is)
    (case l11 => k_is)
    (case c11 => k_is)
    (case k11 => k_is)
    (case a12 => k_is)
    (case l12 => k_is)
    (case c12 => k_is)
    (case k12 => k_is)
    (case zn_best_pair => k_is)
    (case zn_worst_pair => k_is)
    (case zn_mended => k_is)
    (case zn_best_kept => k_is)
    (case zn_ledger => k_is)
#print axioms PySem.Challenge.cw_ordercodes_k06_whole_rows_of_keys_in_ord_holds
