import PyProof.Rows.All
import Wide.All
import OpenK.AllK
import Wide.FinOn
import HandS.ForMost
import HandS.TupAny
import HandS.Walk
import HandS.TupMul
import HandS.IsInst
import HandS.Deep
import HandS.TupLe
import HandS.Zip
import HandS.Dict
import HandS.Wide
import HandS.Iter
import HandS.Text
import HandS.Conv
import PyProof.ReprRoads
import PyProof.RowDictHeap
import HandS.RaiseMore
import HandS.Ends
import PyProof.ReprLen
import PySem.Challenge.RW_ordercodes_k01_words_and_starts
set_option Elab.async false
set_option linter.all false
set_option maxRecDepth 100000
set_option maxHeartbeats 4000000
/-! DL: programs over plain data. A tuple is the list of its items, a list, a dict, an object is known by its address in a plain heap. -/
namespace DL
open PySem PySem.Spec PyProof.Rows L2

inductive D where
  | non | bl (b : Bool) | int (i : Int) | str (x : Str) | tup (l : List D) | ref (a : Addr) | rol (l : List D)

abbrev Frag := PySem.W.Frag
/-- a list that stays as it is for good: known to the object, or one of the module's -/
def SqF (K : Frag) (H : Hp) (a : Addr) (xs : List V) : Prop := (∃ o, H a = some (.frz o (.lst xs))) ∨
    ∃ (o : Obj) (its : Array Value) (n : Nat), K.lookup a = some o ∧ o.cls = .type "list" ∧ o.dict = none ∧ o.data = .seq its n ∧ its.size ≤ sizeLine ∧ Vals xs its.toList
theorem SqF.l {K : Frag} {H : Hp} {a : Addr} {xs : List V} (h : SqF K H a xs) : SqL K H a xs := by
  rcases h with h | h
  · exact .inl (.inr h)
  · exact .inr h

mutual
inductive RD (K : Frag) (H : Hp) : D → V → Prop
  | non : RD K H .non .non
  | bl (b : Bool) : RD K H (.bl b) (.bl b)
  | int (i : Int) : RD K H (.int i) (.int i)
  | str (x : Str) : RD K H (.str x) (.str x)
  | tup {l : List D} {a : Addr} {xs : List V} : H a = some (.tup xs) → RDs K H l xs → RD K H (.tup l) (.ref a)
  | ref (a : Addr) : RD K H (.ref a) (.ref a)
  | rol {l : List D} {a : Addr} {xs : List V} : SqF K H a xs → RDs K H l xs → RD K H (.rol l) (.ref a)
inductive RDs (K : Frag) (H : Hp) : List D → List V → Prop
  | nil : RDs K H [] []
  | cons {d : D} {v : V} {l : List D} {xs : List V} : RD K H d v → RDs K H l xs → RDs K H (d :: l) (v :: xs)
end

/-- what is told of immutable things goes on -/
structure Ext (H H' : Hp) : Prop where
  tup : ∀ a xs, H a = some (.tup xs) → H' a = some (.tup xs)
  frz : ∀ a o u, H a = some (.frz o u) → H' a = some (.frz o u)
theorem Ext.refl (H : Hp) : Ext H H := ⟨fun _ _ h => h, fun _ _ _ h => h⟩
theorem Ext.trans {H H1 H2 : Hp} (a : Ext H H1) (b : Ext H1 H2) : Ext H H2 := ⟨fun c xs h => b.tup c xs (a.tup c xs h), fun c o u h => b.frz c o u (a.frz c o u h)⟩
theorem Ext.fresh {H : Hp} {p : Addr} {o : HO} (h : H p = none) : Ext H (upd H p o) :=
  ⟨fun a xs e => by rw [upd_ne (ne_of_none e h)]; exact e, fun a ob u e => by rw [upd_ne (ne_of_none e h)]; exact e⟩
theorem Ext.lst {H : Hp} {p : Addr} {xs : List V} {o : HO} (h : H p = some (.lst xs)) : Ext H (upd H p o) :=
  ⟨fun a ys e => by rw [upd_ne (ne_of e h (fun z => nomatch z))]; exact e, fun a ob u e => by rw [upd_ne (ne_of e h (fun z => nomatch z))]; exact e⟩
theorem Ext.dK {H : Hp} {p : Addr} {xs : List (Key × V)} {o : HO} (h : H p = some (.dK xs)) : Ext H (upd H p o) :=
  ⟨fun a ys e => by rw [upd_ne (ne_of e h (fun z => nomatch z))]; exact e, fun a ob u e => by rw [upd_ne (ne_of e h (fun z => nomatch z))]; exact e⟩
theorem Ext.dT {H : Hp} {p : Addr} {xs : List (List Key × V)} {o : HO} (h : H p = some (.dT xs)) : Ext H (upd H p o) :=
  ⟨fun a ys e => by rw [upd_ne (ne_of e h (fun z => nomatch z))]; exact e, fun a ob u e => by rw [upd_ne (ne_of e h (fun z => nomatch z))]; exact e⟩
theorem Ext.ins {H : Hp} {p C dx : Addr} {fs : List (Str × V)} {o : HO} (h : H p = some (.ins C dx fs)) : Ext H (upd H p o) :=
  ⟨fun a ys e => by rw [upd_ne (ne_of e h (fun z => nomatch z))]; exact e, fun a ob u e => by rw [upd_ne (ne_of e h (fun z => nomatch z))]; exact e⟩
section
variable {K : Frag} {H H' : Hp}
theorem SqT.ext {a : Addr} {xs : List V} (e : Ext H H') (h : SqT K H a xs) : SqT K H' a xs := by
  rcases h with (h | ⟨o, h⟩) | h
  · exact .inl (.inl (e.tup _ _ h))
  · exact .inl (.inr ⟨o, e.frz _ _ _ h⟩)
  · exact .inr h
theorem SqF.ext {a : Addr} {xs : List V} (e : Ext H H') (h : SqF K H a xs) : SqF K H' a xs := by
  rcases h with ⟨o, h⟩ | h
  · exact .inl ⟨o, e.frz _ _ _ h⟩
  · exact .inr h
mutual
theorem RD.ext (e : Ext H H') : ∀ {d : D} {v : V}, RD K H d v → RD K H' d v
  | _, _, .non => .non
  | _, _, .bl b => .bl b
  | _, _, .int i => .int i
  | _, _, .str x => .str x
  | _, _, .tup h r => .tup (e.tup _ _ h) (RDs.ext e r)
  | _, _, .ref a => .ref a
  | _, _, .rol h r => .rol (SqF.ext e h) (RDs.ext e r)
theorem RDs.ext (e : Ext H H') : ∀ {d : List D} {v : List V}, RDs K H d v → RDs K H' d v
  | _, _, .nil => .nil
  | _, _, .cons a b => .cons (RD.ext e a) (RDs.ext e b)
end
theorem RDs.length : ∀ {l : List D} {xs : List V}, RDs K H l xs → l.length = xs.length
  | _, _, .nil => rfl
  | _, _, .cons _ r => congrArg (· + 1) (RDs.length r)
theorem RDs.app : ∀ {l l' : List D} {xs xs' : List V}, RDs K H l xs → RDs K H l' xs' → RDs K H (l ++ l') (xs ++ xs')
  | _, _, _, _, .nil, s => s
  | _, _, _, _, .cons r t, s => .cons r (RDs.app t s)
theorem RDs.take : ∀ {l : List D} {xs : List V} (n : Nat), RDs K H l xs → RDs K H (l.take n) (xs.take n)
  | _, _, 0, _ => .nil
  | _, _, _ + 1, .nil => .nil
  | _, _, n + 1, .cons r t => .cons r (RDs.take n t)
theorem RDs.drop : ∀ {l : List D} {xs : List V} (n : Nat), RDs K H l xs → RDs K H (l.drop n) (xs.drop n)
  | _, _, 0, r => r
  | _, _, _ + 1, .nil => .nil
  | _, _, n + 1, .cons _ t => RDs.drop n t
theorem RDs.get : ∀ {l : List D} {xs : List V} {i : Nat} {d : D}, RDs K H l xs → l[i]? = some d → ∃ v, xs[i]? = some v ∧ RD K H d v
  | _, _, _, _, .nil, e => by simp at e
  | _, _, 0, _, .cons r _, e => by simp at e; subst e; exact ⟨_, rfl, r⟩
  | _, _, i + 1, _, .cons _ t, e => by
    obtain ⟨u, h1, h2⟩ := RDs.get (i := i) t (by simpa using e)
    exact ⟨u, by simpa using h1, h2⟩
theorem RDs.set {d : D} {v : V} (r : RD K H d v) : ∀ {l : List D} {xs : List V} (i : Nat), RDs K H l xs → RDs K H (l.set i d) (xs.set i v)
  | _, _, _, .nil => .nil
  | _, _, 0, .cons _ t => .cons r t
  | _, _, i + 1, .cons q t => .cons q (RDs.set r i t)
theorem RDs.reverse : ∀ {l : List D} {xs : List V}, RDs K H l xs → RDs K H l.reverse xs.reverse
  | _, _, .nil => .nil
  | _, _, .cons r t => by
    rw [List.reverse_cons, List.reverse_cons]
    exact RDs.app (RDs.reverse t) (.cons r .nil)
theorem RDs.rep {l : List D} {xs : List V} (h : RDs K H l xs) : ∀ k : Nat, RDs K H (List.replicate k l).flatten (List.replicate k xs).flatten
  | 0 => .nil
  | k + 1 => by
    rw [List.replicate_succ, List.replicate_succ, List.flatten_cons, List.flatten_cons]
    exact RDs.app h (RDs.rep h k)
theorem RDs.dropLast {l : List D} {xs : List V} (h : RDs K H l xs) : RDs K H l.dropLast xs.dropLast := by
  rw [List.dropLast_eq_take, List.dropLast_eq_take, ← h.length]
  exact h.take _
theorem RDs.eraseIdx : ∀ {l : List D} {xs : List V} (i : Nat), RDs K H l xs → RDs K H (l.eraseIdx i) (xs.eraseIdx i)
  | _, _, _, .nil => .nil
  | _, _, 0, .cons _ t => t
  | _, _, i + 1, .cons q t => .cons q (RDs.eraseIdx i t)
end

/-! ### the plain heap -/
inductive MO where
  | lst (l : List D)
  | dct (kvs : List (Key × D))
  | dtp (kvs : List (List Key × D))
  | ins (C : Addr) (fs : List (Str × D))
abbrev MH := Addr → Option MO
def mup (m : MH) (a : Addr) (o : MO) : MH := fun b => if b = a then some o else m b
theorem mup_same {m : MH} {a : Addr} {o : MO} : mup m a o a = some o := if_pos rfl
theorem mup_ne {m : MH} {a b : Addr} {o : MO} (h : b ≠ a) : mup m a o b = m b := if_neg h
theorem mup_mup {m : MH} {a : Addr} {o u : MO} : mup (mup m a o) a u = mup m a u := by
  funext b; unfold mup; split <;> rfl
theorem mne_of {m : MH} {a b : Addr} {o u : MO} (h : m a = some o) (h' : m b = some u) (d : o ≠ u) : a ≠ b := by
  intro e; subst e; rw [h] at h'; exact d (Option.some.inj h')
theorem mne_of_none {m : MH} {a b : Addr} {o : MO} (h : m a = some o) (h' : m b = none) : a ≠ b := by
  intro e; subst e; rw [h] at h'; cases h'

inductive RKs {κ : Type} (K : Frag) (H : Hp) : List (κ × D) → List (κ × V) → Prop
  | nil : RKs K H [] []
  | cons {k : κ} {d : D} {v : V} {l : List (κ × D)} {xs : List (κ × V)} : RD K H d v → RKs K H l xs → RKs K H ((k, d) :: l) ((k, v) :: xs)
section
variable {κ : Type} {K : Frag} {H H' : Hp}
theorem RKs.ext (e : Ext H H') : ∀ {l : List (κ × D)} {xs : List (κ × V)}, RKs K H l xs → RKs K H' l xs
  | _, _, .nil => .nil
  | _, _, .cons r t => .cons (r.ext e) (RKs.ext e t)
theorem RKs.length : ∀ {l : List (κ × D)} {xs : List (κ × V)}, RKs K H l xs → l.length = xs.length
  | _, _, .nil => rfl
  | _, _, .cons _ r => congrArg (· + 1) (RKs.length r)
end
/-- what the heap tells of a plain thing -/
def RO (K : Frag) (H : Hp) (a : Addr) : MO → Prop
  | .lst l => ∃ xs, H a = some (.lst xs) ∧ RDs K H l xs
  | .dct l => ∃ xs, H a = some (.dK xs) ∧ RKs K H l xs
  | .dtp l => ∃ xs, H a = some (.dT xs) ∧ RKs K H l xs
  | .ins C l => ∃ dx xs, H a = some (.ins C dx xs) ∧ RKs K H l xs
def RM (K : Frag) (m : MH) (H : Hp) : Prop := ∀ a o, m a = some o → RO K H a o
section
variable {K : Frag} {m : MH} {H H' : Hp} {a p : Addr} {o : MO}
theorem RO.ext (e : Ext H H') (ha : H' a = H a) (h : RO K H a o) : RO K H' a o := by
  cases o with
  | lst l => obtain ⟨xs, h1, h2⟩ := h; exact ⟨xs, ha.trans h1, h2.ext e⟩
  | dct l => obtain ⟨xs, h1, h2⟩ := h; exact ⟨xs, ha.trans h1, h2.ext e⟩
  | dtp l => obtain ⟨xs, h1, h2⟩ := h; exact ⟨xs, ha.trans h1, h2.ext e⟩
  | ins C l => obtain ⟨dx, xs, h1, h2⟩ := h; exact ⟨dx, xs, ha.trans h1, h2.ext e⟩
theorem RM.none (r : RM K m H) (h : H p = none) : m p = none := by
  cases q : m p with
  | none => rfl
  | some o =>
    have z := r p o q
    cases o with
    | lst l => obtain ⟨xs, h1, _⟩ := z; rw [h] at h1; cases h1
    | dct l => obtain ⟨xs, h1, _⟩ := z; rw [h] at h1; cases h1
    | dtp l => obtain ⟨xs, h1, _⟩ := z; rw [h] at h1; cases h1
    | ins C l => obtain ⟨dx, xs, h1, _⟩ := z; rw [h] at h1; cases h1
/-- an object is laid or written -/
theorem RM.upd {o' : HO} (r : RM K m H) (e : Ext H (upd H p o')) (n : RO K (L2.upd H p o') p o) : RM K (mup m p o) (L2.upd H p o') := fun a u q => by
  by_cases h : a = p
  · subst h
    rw [mup_same] at q
    cases q
    exact n
  · rw [mup_ne h] at q
    exact (r a u q).ext e (upd_ne h)
/-- an object that is not told is laid -/
theorem RM.more {o' : HO} (r : RM K m H) (h : H p = Option.none) : RM K m (L2.upd H p o') := fun a u q => by
  refine (r a u q).ext (Ext.fresh h) (upd_ne fun z => ?_)
  subst z
  rw [r.none h] at q
  cases q
end

/-! ### slots -/
abbrev Sd := List (Option D)
inductive RSt (K : Frag) (H : Hp) : Sd → L2.St → Prop
  | nil : RSt K H [] []
  | no {v : Option V} {l : Sd} {xs : L2.St} : RSt K H l xs → RSt K H (none :: l) (v :: xs)
  | so {d : D} {v : V} {l : Sd} {xs : L2.St} : RD K H d v → RSt K H l xs → RSt K H (some d :: l) (some v :: xs)
section
variable {K : Frag} {H H' : Hp}
theorem RSt.ext (e : Ext H H') : ∀ {l : Sd} {xs : L2.St}, RSt K H l xs → RSt K H' l xs
  | _, _, .nil => .nil
  | _, _, .no t => .no (RSt.ext e t)
  | _, _, .so r t => .so (r.ext e) (RSt.ext e t)
theorem RSt.get : ∀ {l : Sd} {xs : L2.St} {i : Nat} {d : D}, RSt K H l xs → l[i]? = some (some d) → ∃ v, xs[i]? = some (some v) ∧ RD K H d v
  | _, _, _, _, .nil, e => by simp at e
  | _, _, 0, _, .no _, e => by simp at e
  | _, _, 0, _, .so r _, e => by simp at e; subst e; exact ⟨_, rfl, r⟩
  | _, _, i + 1, _, .no t, e => by
    obtain ⟨u, h1, h2⟩ := RSt.get (i := i) t (by simpa using e)
    exact ⟨u, by simpa using h1, h2⟩
  | _, _, i + 1, _, .so _ t, e => by
    obtain ⟨u, h1, h2⟩ := RSt.get (i := i) t (by simpa using e)
    exact ⟨u, by simpa using h1, h2⟩
theorem RSt.set {d : D} {v : V} (r : RD K H d v) : ∀ {l : Sd} {xs : L2.St} (i : Nat), RSt K H l xs → RSt K H (l.set i (some d)) (xs.set i (some v))
  | _, _, _, .nil => .nil
  | _, _, 0, .no t => .so r t
  | _, _, 0, .so _ t => .so r t
  | _, _, i + 1, .no t => .no (RSt.set r i t)
  | _, _, i + 1, .so q t => .so q (RSt.set r i t)
theorem RSt.clr {v : Option V} : ∀ {l : Sd} {xs : L2.St} (i : Nat), RSt K H l xs → RSt K H (l.set i none) (xs.set i v)
  | _, _, _, .nil => .nil
  | _, _, 0, .no t => .no t
  | _, _, 0, .so _ t => .no t
  | _, _, i + 1, .no t => .no (RSt.clr i t)
  | _, _, i + 1, .so q t => .so q (RSt.clr i t)
theorem RSt.nones : ∀ n : Nat, RSt K H (List.replicate n none) (List.replicate n none)
  | 0 => .nil
  | n + 1 => .no (RSt.nones n)
theorem RSt.app : ∀ {l l' : Sd} {xs xs' : L2.St}, RSt K H l xs → RSt K H l' xs' → RSt K H (l ++ l') (xs ++ xs')
  | _, _, _, _, .nil, s => s
  | _, _, _, _, .no t, s => .no (RSt.app t s)
  | _, _, _, _, .so r t, s => .so r (RSt.app t s)
theorem RSt.somes : ∀ {l : List D} {xs : List V}, RDs K H l xs → RSt K H (l.map some) (xs.map some)
  | _, _, .nil => .nil
  | _, _, .cons r t => .so r (RSt.somes t)
theorem RSt.length : ∀ {l : Sd} {xs : L2.St}, RSt K H l xs → l.length = xs.length
  | _, _, .nil => rfl
  | _, _, .no r => congrArg (· + 1) (RSt.length r)
  | _, _, .so _ r => congrArg (· + 1) (RSt.length r)
def dwipe (σ : Sd) : List Nat → Sd
  | [] => σ
  | v :: vs => (dwipe σ vs).set v none
theorem RSt.wipe {l : Sd} {xs : L2.St} (r : RSt K H l xs) : ∀ vs : List Nat, RSt K H (dwipe l vs) (L2.wipe xs vs)
  | [] => r
  | v :: vs => (RSt.wipe r vs).clr v
end
/-- slots at a def's start -/
def dstart (n : Nat) (ds : List D) : Sd := ds.map some ++ List.replicate (n - ds.length) none
theorem RSt.start {K : Frag} {H : Hp} {N : List Str} {ds : List D} {vs : List V} (r : RDs K H ds vs) : RSt K H (dstart N.length ds) (L2.start N vs) := by
  unfold dstart L2.start
  rw [r.length]
  exact (RSt.somes r).app (RSt.nones _)

/-! ### the judgements -/
abbrev DK := D → MH → Prop
abbrev DE := Sd → MH → DK → Prop
abbrev DT := Sd → MH → (Bool → MH → Prop) → Prop
abbrev DA := Sd → MH → (List D → MH → Prop) → Prop
structure DEnds where
  nx : Sd → MH → Prop
  rt : DK
  bk : Sd → MH → Prop := fun _ _ => False
  ct : Sd → MH → Prop := fun _ _ => False
abbrev DS := DEnds → Sd → MH → Prop
def KE (K : Frag) (H : Hp) (Q : DK) (Q' : VK) : Prop := ∀ d m v H', Ext H H' → RM K m H' → RD K H' d v → Q d m → Q' v H'
def KT (K : Frag) (H : Hp) (Q : Bool → MH → Prop) (Q' : Bool → Hp → Prop) : Prop := ∀ b m H', Ext H H' → RM K m H' → Q b m → Q' b H'
def KA (K : Frag) (H : Hp) (Q : List D → MH → Prop) (Q' : List V → Hp → Prop) : Prop := ∀ ds m vs H', Ext H H' → RM K m H' → RDs K H' ds vs → Q ds m → Q' vs H'
def KN (K : Frag) (H : Hp) (Q : Sd → MH → Prop) (Q' : L2.St → Hp → Prop) : Prop := ∀ ds m σ H', Ext H H' → RSt K H' ds σ → RM K m H' → Q ds m → Q' σ H'
structure KD (K : Frag) (H : Hp) (Q : DEnds) (Q' : Ends) : Prop where
  nx : KN K H Q.nx Q'.nx
  rt : KE K H Q.rt Q'.rt
  bk : KN K H Q.bk Q'.bk
  ct : KN K H Q.ct Q'.ct
section
variable {K : Frag} {H H' : Hp}
theorem KE.ext {Q : DK} {Q' : VK} (k : KE K H Q Q') (e : Ext H H') : KE K H' Q Q' := fun d m v H2 e2 r1 r2 q => k d m v H2 (e.trans e2) r1 r2 q
theorem KT.ext {Q : Bool → MH → Prop} {Q' : Bool → Hp → Prop} (k : KT K H Q Q') (e : Ext H H') : KT K H' Q Q' := fun d m H2 e2 r1 q => k d m H2 (e.trans e2) r1 q
theorem KA.ext {Q : List D → MH → Prop} {Q' : List V → Hp → Prop} (k : KA K H Q Q') (e : Ext H H') : KA K H' Q Q' := fun d m v H2 e2 r1 r2 q => k d m v H2 (e.trans e2) r1 r2 q
theorem KN.ext {Q : Sd → MH → Prop} {Q' : L2.St → Hp → Prop} (k : KN K H Q Q') (e : Ext H H') : KN K H' Q Q' := fun d m v H2 e2 r1 r2 q => k d m v H2 (e.trans e2) r1 r2 q
theorem KD.ext {Q : DEnds} {Q' : Ends} (k : KD K H Q Q') (e : Ext H H') : KD K H' Q Q' := ⟨k.nx.ext e, k.rt.ext e, k.bk.ext e, k.ct.ext e⟩
end
def lE (K : Frag) (f : DE) : TE := fun σ H Q' => ∃ ds m Q, RSt K H ds σ ∧ RM K m H ∧ f ds m Q ∧ KE K H Q Q'
def lT (K : Frag) (f : DT) : TT := fun σ H Q' => ∃ ds m Q, RSt K H ds σ ∧ RM K m H ∧ f ds m Q ∧ KT K H Q Q'
def lA (K : Frag) (f : DA) : TA := fun σ H Q' => ∃ ds m Q, RSt K H ds σ ∧ RM K m H ∧ f ds m Q ∧ KA K H Q Q'
def lS (K : Frag) (f : DS) : TS := fun D' σ H => ∃ ds m D, RSt K H ds σ ∧ RM K m H ∧ f D ds m ∧ KD K H D D'
structure JE (X : Cx) (e : Expr) (f : DE) : Prop where
  pe : PE X e (lE X.K f)
structure JT (X : Cx) (e : Expr) (f : DT) : Prop where
  pt : PT X e (lT X.K f)
structure JW (X : Cx) (e : Expr) (f : DT) : Prop where
  pw : PW X e (lT X.K f)
structure JA (X : Cx) (es : List Expr) (f : DA) : Prop where
  pa : PA X es (lA X.K f)
structure JS (X : Cx) (st : Stmt) (f : DS) : Prop where
  ps : PS X st (lS X.K f)
structure JSs (X : Cx) (sts : List Stmt) (f : DS) : Prop where
  pss : PSs X sts (lS X.K f)
theorem _root_.L2.PE.imp {X : Cx} {e : Expr} {t t' : TE} (h : PE X e t) (i : ∀ σ H Q, t' σ H Q → t σ H Q) : PE X e t' := ⟨fun pins s σ H Q I w => h.run pins s σ H Q I (i σ H Q w)⟩
theorem _root_.L2.PT.imp {X : Cx} {e : Expr} {t t' : TT} (h : PT X e t) (i : ∀ σ H Q, t' σ H Q → t σ H Q) : PT X e t' := ⟨fun pins s σ H Q I w => h.run pins s σ H Q I (i σ H Q w)⟩
theorem _root_.L2.PW.imp {X : Cx} {e : Expr} {t t' : TT} (h : PW X e t) (i : ∀ σ H Q, t' σ H Q → t σ H Q) : PW X e t' := ⟨fun wh pins s σ H Q I w => h.run wh pins s σ H Q I (i σ H Q w)⟩
theorem _root_.L2.PA.imp {X : Cx} {e : List Expr} {t t' : TA} (h : PA X e t) (i : ∀ σ H Q, t' σ H Q → t σ H Q) : PA X e t' := ⟨fun pos pins s σ H Q I w => h.run pos pins s σ H Q I (i σ H Q w)⟩
theorem _root_.L2.PS.imp {X : Cx} {e : Stmt} {t t' : TS} (h : PS X e t) (i : ∀ D σ H, t' D σ H → t D σ H) : PS X e t' := ⟨fun pins s σ H D I w => h.run pins s σ H D I (i D σ H w)⟩
theorem _root_.L2.PSs.imp {X : Cx} {e : List Stmt} {t t' : TS} (h : PSs X e t) (i : ∀ D σ H, t' D σ H → t D σ H) : PSs X e t' := ⟨fun pins s σ H D I w => h.run pins s σ H D I (i D σ H w)⟩

/-! ### names, constants, displays -/
section
variable {X : Cx}
def dVar (i : Nat) : DE := fun ds m Q => ∃ d, ds[i]? = some (some d) ∧ Q d m
def dC (d : D) : DE := fun _ m Q => Q d m
theorem je_var (i : Nat) {x : Str} {pos : Pos} (hN : X.N[i]? = some x := by rfl) (hv : Vis X.env.scope x := by first | exact Or.inl rfl | exact Or.inr (Or.inl rfl) | exact Or.inr (Or.inr rfl)) (hd : (x == ("__debug__" : Str)) = false := by decide)
    (hcd : (x == ("__classdict__" : Str)) = false := by decide) : JE X (.Name x pos) (dVar i) := by
  refine ⟨(pe_var hN hv hd hcd).imp fun σ H Q' h => ?_⟩
  obtain ⟨ds, m, Q, r, rm, ⟨d, e, q⟩, k⟩ := h
  obtain ⟨v, ev, rv⟩ := r.get e
  exact ⟨v, ev, k d m v H (Ext.refl H) rm rv q⟩
theorem je_c {e : Expr} {v : V} {d : D} (h : PE X e (tC v)) (r : ∀ H, RD X.K H d v) : JE X e (dC d) := by
  refine ⟨h.imp fun σ H Q' h => ?_⟩
  obtain ⟨ds, m, Q, _, rm, q, k⟩ := h
  exact k d m v H (Ext.refl H) rm (r H) q
theorem je_int {i j pos} : JE X (.Constant (.int i) j pos) (dC (.int i)) := je_c pe_int fun _ => .int i
theorem je_bl {b j pos} : JE X (.Constant (.bool b) j pos) (dC (.bl b)) := je_c pe_bl fun _ => .bl b
theorem je_non {j pos} : JE X (.Constant .none j pos) (dC .non) := je_c pe_non fun _ => .non
theorem je_str {x j pos} : JE X (.Constant (.str x) j pos) (dC (.str x)) := je_c pe_str fun _ => .str x
def dNil : DA := fun _ m Q => Q [] m
def dCons (f : DE) (g : DA) : DA := fun ds m Q => f ds m fun d m1 => g ds m1 fun l m2 => Q (d :: l) m2
theorem ja_nil : JA X [] dNil := by
  refine ⟨pa_nil.imp fun σ H Q' h => ?_⟩
  obtain ⟨ds, m, Q, _, rm, q, k⟩ := h
  exact k [] m [] H (Ext.refl H) rm .nil q
theorem ja_cons {e : Expr} {es : List Expr} {f : DE} {g : DA} (ha : JE X e f) (hr : JA X es g) (hs : starEach (e :: es) X.env = (false, eval e X.env) :: starEach es X.env := by rfl) : JA X (e :: es) (dCons f g) := by
  refine ⟨(pa_cons ha.pe hr.pa hs).imp fun σ H Q' h => ?_⟩
  obtain ⟨ds, m, Q, r, rm, q, k⟩ := h
  refine ⟨ds, m, _, r, rm, q, fun d m1 v H1 e1 rm1 rv q1 => ?_⟩
  refine ⟨ds, m1, _, r.ext e1, rm1, q1, fun l m2 vs H2 e2 rm2 rvs q2 => ?_⟩
  exact k (d :: l) m2 (v :: vs) H2 (e1.trans e2) rm2 (.cons (rv.ext e2) rvs) q2
def dTup (f : DA) : DE := fun ds m Q => f ds m fun l m1 => l.length ≤ sizeLine ∧ Q (.tup l) m1
/-- a new thing is laid -/
def aNew (o : MO) (m : MH) (Q : DK) : Prop := ∀ p, m p = none → Q (.ref p) (mup m p o)
def dLst (f : DA) : DE := fun ds m Q => f ds m fun l m1 => l.length ≤ sizeLine ∧ aNew (.lst l) m1 Q
theorem je_tup {es : List Expr} {f : DA} {x1 pos} (h : JA X es f) : JE X (.Tuple es x1 pos) (dTup f) := by
  refine ⟨(pe_tup h.pa).imp fun σ H Q' h => ?_⟩
  obtain ⟨ds, m, Q, r, rm, q, k⟩ := h
  refine ⟨ds, m, _, r, rm, q, fun l m1 vs H1 e1 rm1 rvs q1 => ?_⟩
  refine ⟨by rw [← rvs.length]; exact q1.1, fun p hp => ?_⟩
  exact k (.tup l) m1 (.ref p) _ (e1.trans (Ext.fresh hp)) (rm1.more hp) (.tup upd_same (rvs.ext (Ext.fresh hp))) q1.2
theorem je_lst {es : List Expr} {f : DA} {pos} (h : JA X es f) : JE X (.List es pos) (dLst f) := by
  refine ⟨(pe_lst h.pa).imp fun σ H Q' h => ?_⟩
  obtain ⟨ds, m, Q, r, rm, q, k⟩ := h
  refine ⟨ds, m, _, r, rm, q, fun l m1 vs H1 e1 rm1 rvs q1 => ?_⟩
  refine ⟨by rw [← rvs.length]; exact q1.1, fun p hp => ?_⟩
  exact k (.ref p) _ (.ref p) _ (e1.trans (Ext.fresh hp)) (rm1.upd (o := .lst l) (Ext.fresh hp) ⟨vs, upd_same, rvs.ext (Ext.fresh hp)⟩) (.ref p) (q1.2 p (rm1.none hp))
end

/-! ### operators by value -/
abbrev DOp := D → D → MH → DK → Prop
/-- a rule of two values, told over plain data -/
def OpJ (X : Cx) (f : Value → Value → Sem Value) (r : DOp) : Prop :=
  ∃ rv : R2, OpR X f rv ∧ ∀ H m x y xv yv Q Q', RM X.K m H → RD X.K H x xv → RD X.K H y yv → r x y m Q → KE X.K H Q Q' → rv xv yv H Q'
def dOp (r : DOp) (f g : DE) : DE := fun ds m Q => f ds m fun x m1 => g ds m1 fun y m2 => r x y m2 Q
section
variable {X : Cx} {a b : Expr} {f g : DE} {pos : Pos}
theorem tOp_of {fv : Value → Value → Sem Value} {r : DOp} {rv : R2} (hr : ∀ H m x y xv yv Q Q', RM X.K m H → RD X.K H x xv → RD X.K H y yv → r x y m Q → KE X.K H Q Q' → rv xv yv H Q') (σ : L2.St) (H : Hp) (Q' : VK) (h : lE X.K (dOp r f g) σ H Q') :
    tOp rv (lE X.K f) (lE X.K g) σ H Q' := by
  obtain ⟨ds, m, Q, rs, rm, q, k⟩ := h
  refine ⟨ds, m, _, rs, rm, q, fun x m1 xv H1 e1 rm1 rx q1 => ?_⟩
  refine ⟨ds, m1, _, rs.ext e1, rm1, q1, fun y m2 yv H2 e2 rm2 ry q2 => ?_⟩
  exact hr H2 m2 x y xv yv Q Q' rm2 (rx.ext e2) ry q2 (k.ext (e1.trans e2))
theorem je_op {op : Operator} {r : DOp} (ho : OpJ X (binaryOp op) r) (ha : JE X a f) (hb : JE X b g) : JE X (.BinOp a op b pos) (dOp r f g) := by
  obtain ⟨rv, h1, h2⟩ := ho
  exact ⟨(pe_op h1 ha.pe hb.pe).imp fun σ H Q' h => tOp_of (fv := binaryOp op) h2 σ H Q' h⟩
theorem je_cmp {op : CmpOp} {r : DOp} (ho : OpJ X (compareOp op) r) (ha : JE X a f) (hb : JE X b g) (hm : behindInMarks op b = false := by first | exact nomark _ | rfl) : JE X (.Compare a [op] [b] pos) (dOp r f g) := by
  obtain ⟨rv, h1, h2⟩ := ho
  exact ⟨(pe_cmpR h1 ha.pe hb.pe hm).imp fun σ H Q' h => tOp_of (fv := compareOp op) h2 σ H Q' h⟩
def dB (f : DE) : DT := fun ds m Q => f ds m fun x m1 => ∃ k, x = .bl k ∧ Q k m1
theorem jt_cmp {op : CmpOp} {r : DOp} (ho : OpJ X (compareOp op) r) (ha : JE X a f) (hb : JE X b g) (hm : behindInMarks op b = false := by first | exact nomark _ | rfl) : JT X (.Compare a [op] [b] pos) (dB (dOp r f g)) := by
  obtain ⟨rv, h1, h2⟩ := ho
  refine ⟨(pt_cmpR h1 ha.pe hb.pe hm).imp fun σ H Q' h => ?_⟩
  obtain ⟨ds, m, Q, rs, rm, q, k⟩ := h
  refine tOp_of (X := X) (fv := compareOp op) h2 σ H _ ⟨ds, m, _, rs, rm, q, fun x m1 xv H1 e1 rm1 rx q1 => ?_⟩
  obtain ⟨kk, rfl, q1⟩ := q1
  cases rx
  exact ⟨kk, rfl, k kk m1 H1 e1 rm1 q1⟩
/-- an expression that gives a bool, as a test -/
theorem jt_val {e : Expr} (h : JE X e f) (he : ∀ whole, isTrue e X.env whole = (do let v ← whole; standAt e.pos; holding [v] (truthy v)) := by intro _; rfl) : JT X e (dB f) := by
  refine ⟨(pt_val h.pe he).imp fun σ H Q' h => ?_⟩
  obtain ⟨ds, m, Q, rs, rm, q, k⟩ := h
  refine ⟨ds, m, _, rs, rm, q, fun x m1 xv H1 e1 rm1 rx q1 => ?_⟩
  obtain ⟨kk, rfl, q1⟩ := q1
  cases rx
  exact ⟨kk, rfl, k kk m1 H1 e1 rm1 q1⟩
end

/-! ### and, or, not, if -/
section
variable {X : Cx} {a b c : Expr} {rest : List Expr} {t u : DT} {f g : DE} {pos : Pos}
def dAndT (t u : DT) : DT := fun ds m Q => t ds m fun c m1 => if c = true then u ds m1 Q else Q false m1
def dOrT (t u : DT) : DT := fun ds m Q => t ds m fun c m1 => if c = true then Q true m1 else u ds m1 Q
def dNotT (t : DT) : DT := fun ds m Q => t ds m fun c m1 => Q (!c) m1
theorem jw_and1 (ha : JT X a t) : JW X (.BoolOp .And [a] pos) t := ⟨pw_and1 ha.pt⟩
theorem jw_or1 (ha : JT X a t) : JW X (.BoolOp .Or [a] pos) t := ⟨pw_or1 ha.pt⟩
theorem jw_and (ha : JT X a t) (hb : JW X (.BoolOp .And (b :: rest) pos) u) : JW X (.BoolOp .And (a :: b :: rest) pos) (dAndT t u) := by
  refine ⟨(pw_and ha.pt hb.pw).imp fun σ H Q' h => ?_⟩
  obtain ⟨ds, m, Q, rs, rm, q, k⟩ := h
  refine ⟨ds, m, _, rs, rm, q, fun c m1 H1 e1 rm1 q1 => ?_⟩
  cases c with
  | true => exact ⟨ds, m1, Q, rs.ext e1, rm1, q1, k.ext e1⟩
  | false => exact k _ _ _ e1 rm1 q1
theorem jw_or (ha : JT X a t) (hb : JW X (.BoolOp .Or (b :: rest) pos) u) : JW X (.BoolOp .Or (a :: b :: rest) pos) (dOrT t u) := by
  refine ⟨(pw_or ha.pt hb.pw).imp fun σ H Q' h => ?_⟩
  obtain ⟨ds, m, Q, rs, rm, q, k⟩ := h
  refine ⟨ds, m, _, rs, rm, q, fun c m1 H1 e1 rm1 q1 => ?_⟩
  cases c with
  | true => exact k _ _ _ e1 rm1 q1
  | false => exact ⟨ds, m1, Q, rs.ext e1, rm1, q1, k.ext e1⟩
theorem jt_w {e : Expr} (h : JW X e t) : JT X e t := ⟨h.pw.pt⟩
theorem jt_not (ha : JT X a t) : JT X (.UnaryOp .Not a pos) (dNotT t) := by
  refine ⟨(pt_not ha.pt).imp fun σ H Q' h => ?_⟩
  obtain ⟨ds, m, Q, rs, rm, q, k⟩ := h
  exact ⟨ds, m, _, rs, rm, q, fun c m1 H1 e1 rm1 q1 => k _ _ _ e1 rm1 q1⟩
/-- as values -/
def dAnd (f g : DE) : DE := fun ds m Q => f ds m fun x m1 => ∃ c, x = .bl c ∧ if c = true then g ds m1 Q else Q (.bl false) m1
def dOr (f g : DE) : DE := fun ds m Q => f ds m fun x m1 => ∃ c, x = .bl c ∧ if c = true then Q (.bl true) m1 else g ds m1 Q
def dNot (f : DE) : DE := fun ds m Q => f ds m fun x m1 => ∃ c, x = .bl c ∧ Q (.bl (!c)) m1
theorem je_one {op} (h : JE X a f) : JE X (.BoolOp op [a] pos) f := ⟨pe_one h.pe⟩
theorem je_and (ha : JE X a f) (hb : JE X (.BoolOp .And (b :: rest) pos) g) : JE X (.BoolOp .And (a :: b :: rest) pos) (dAnd f g) := by
  refine ⟨(pe_and ha.pe hb.pe).imp fun σ H Q' h => ?_⟩
  obtain ⟨ds, m, Q, rs, rm, q, k⟩ := h
  refine ⟨ds, m, _, rs, rm, q, fun x m1 xv H1 e1 rm1 rx q1 => ?_⟩
  obtain ⟨c, rfl, q1⟩ := q1
  cases rx
  refine ⟨c, rfl, ?_⟩
  cases c with
  | true => exact ⟨ds, m1, Q, rs.ext e1, rm1, q1, k.ext e1⟩
  | false => exact k _ _ _ _ e1 rm1 (.bl _) q1
theorem je_or (ha : JE X a f) (hb : JE X (.BoolOp .Or (b :: rest) pos) g) : JE X (.BoolOp .Or (a :: b :: rest) pos) (dOr f g) := by
  refine ⟨(pe_or ha.pe hb.pe).imp fun σ H Q' h => ?_⟩
  obtain ⟨ds, m, Q, rs, rm, q, k⟩ := h
  refine ⟨ds, m, _, rs, rm, q, fun x m1 xv H1 e1 rm1 rx q1 => ?_⟩
  obtain ⟨c, rfl, q1⟩ := q1
  cases rx
  refine ⟨c, rfl, ?_⟩
  cases c with
  | true => exact k _ _ _ _ e1 rm1 (.bl _) q1
  | false => exact ⟨ds, m1, Q, rs.ext e1, rm1, q1, k.ext e1⟩
theorem je_not (ha : JE X a f) : JE X (.UnaryOp .Not a pos) (dNot f) := by
  refine ⟨(pe_not ha.pe).imp fun σ H Q' h => ?_⟩
  obtain ⟨ds, m, Q, rs, rm, q, k⟩ := h
  refine ⟨ds, m, _, rs, rm, q, fun x m1 xv H1 e1 rm1 rx q1 => ?_⟩
  obtain ⟨c, rfl, q1⟩ := q1
  cases rx
  exact ⟨c, rfl, k _ _ _ _ e1 rm1 (.bl _) q1⟩
def dIfE (t : DT) (f g : DE) : DE := fun ds m Q => t ds m fun c m1 => if c = true then f ds m1 Q else g ds m1 Q
theorem je_if (hc : JT X c t) (ha : JE X a f) (hb : JE X b g) : JE X (.IfExp c a b pos) (dIfE t f g) := by
  refine ⟨(pe_ifExp hc.pt ha.pe hb.pe).imp fun σ H Q' h => ?_⟩
  obtain ⟨ds, m, Q, rs, rm, q, k⟩ := h
  refine ⟨ds, m, _, rs, rm, q, fun c m1 H1 e1 rm1 q1 => ?_⟩
  cases c with
  | true => exact ⟨ds, m1, Q, rs.ext e1, rm1, q1, k.ext e1⟩
  | false => exact ⟨ds, m1, Q, rs.ext e1, rm1, q1, k.ext e1⟩
end

/-! ### statements -/
section
variable {X : Cx} {st : Stmt} {rest : List Stmt} {f g : DS} {e : Expr} {t : DE} {pos : Pos}
def dSkip : DS := fun D ds m => D.nx ds m
def dSeq (f g : DS) : DS := fun D ds m => f { D with nx := g D } ds m
theorem jss_nil : JSs X [] dSkip := by
  refine ⟨pss_nil.imp fun D' σ H h => ?_⟩
  obtain ⟨ds, m, D, rs, rm, q, k⟩ := h
  exact k.nx ds m σ H (Ext.refl H) rs rm q
theorem jss_one (h : JS X st f) : JSs X [st] f := ⟨pss_one h.ps⟩
theorem jss_cons (h1 : JS X st f) (h2 : JSs X rest g) : JSs X (st :: rest) (dSeq f g) := by
  refine ⟨(pss_cons h1.ps h2.pss).imp fun D' σ H h => ?_⟩
  obtain ⟨ds, m, D, rs, rm, q, k⟩ := h
  refine ⟨ds, m, _, rs, rm, q, ⟨fun ds2 m2 σ2 H2 e2 rs2 rm2 q2 => ?_, k.rt, k.bk, k.ct⟩⟩
  exact ⟨ds2, m2, D, rs2, rm2, q2, k.ext e2⟩
def dBreak : DS := fun D ds m => D.bk ds m
def dCont : DS := fun D ds m => D.ct ds m
theorem js_pass : JS X (.Pass pos) dSkip := by
  refine ⟨ps_pass.imp fun D' σ H h => ?_⟩
  obtain ⟨ds, m, D, rs, rm, q, k⟩ := h
  exact k.nx ds m σ H (Ext.refl H) rs rm q
theorem js_break : JS X (.Break pos) dBreak := by
  refine ⟨ps_break.imp fun D' σ H h => ?_⟩
  obtain ⟨ds, m, D, rs, rm, q, k⟩ := h
  exact k.bk ds m σ H (Ext.refl H) rs rm q
theorem js_continue : JS X (.Continue pos) dCont := by
  refine ⟨ps_continue.imp fun D' σ H h => ?_⟩
  obtain ⟨ds, m, D, rs, rm, q, k⟩ := h
  exact k.ct ds m σ H (Ext.refl H) rs rm q
def dExpr (t : DE) : DS := fun D ds m => t ds m fun _ m1 => D.nx ds m1
theorem js_expr (he : JE X e t) (hs : swapsWith e none pos.line X.env = pure false := by rfl) : JS X (.Expr e pos) (dExpr t) := by
  refine ⟨(ps_expr he.pe hs).imp fun D' σ H h => ?_⟩
  obtain ⟨ds, m, D, rs, rm, q, k⟩ := h
  exact ⟨ds, m, _, rs, rm, q, fun d m1 v H1 e1 rm1 rv q1 => k.nx ds m1 σ H1 e1 (rs.ext e1) rm1 q1⟩
def dRet (t : DE) : DS := fun D ds m => t ds m D.rt
theorem js_ret (he : JE X e t) : JS X (.Return (some e) pos) (dRet t) := by
  refine ⟨(ps_ret he.pe).imp fun D' σ H h => ?_⟩
  obtain ⟨ds, m, D, rs, rm, q, k⟩ := h
  exact ⟨ds, m, _, rs, rm, q, k.rt⟩
def dIf (t : DT) (f g : DS) : DS := fun D ds m => t ds m fun b m1 => if b = true then f D ds m1 else g D ds m1
theorem js_if {c : Expr} {a b : List Stmt} {t : DT} (hc : JT X c t) (ha : JSs X a f) (hb : JSs X b g) : JS X (.If c a b pos) (dIf t f g) := by
  refine ⟨(ps_if hc.pt ha.pss hb.pss).imp fun D' σ H h => ?_⟩
  obtain ⟨ds, m, D, rs, rm, q, k⟩ := h
  refine ⟨ds, m, _, rs, rm, q, fun c m1 H1 e1 rm1 q1 => ?_⟩
  cases c with
  | true => exact ⟨ds, m1, D, rs.ext e1, rm1, q1, k.ext e1⟩
  | false => exact ⟨ds, m1, D, rs.ext e1, rm1, q1, k.ext e1⟩
end

/-! ### targets: vs, the slots that may change -/
abbrev DG := D → Sd → MH → (Sd → MH → Prop) → Prop
abbrev DGs := List D → Sd → MH → (Sd → MH → Prop) → Prop
def KW (K : Frag) (vs : List Nat) (σ : L2.St) (H : Hp) (Q : Sd → MH → Prop) (Q' : L2.St → Hp → Prop) : Prop := ∀ ds m σ' H', Ext H H' → RSt K H' ds σ' → RM K m H' → wipe σ' vs = wipe σ vs → Q ds m → Q' σ' H'
theorem KN.w {K : Frag} {vs : List Nat} {σ : L2.St} {H : Hp} {Q : Sd → MH → Prop} {Q' : L2.St → Hp → Prop} (k : KN K H Q Q') : KW K vs σ H Q Q' := fun ds m σ' H' e rs rm _ q => k ds m σ' H' e rs rm q
def lG (K : Frag) (vs : List Nat) (g : DG) : TG := fun v σ H Q' => ∃ d ds m Q, RD K H d v ∧ RSt K H ds σ ∧ RM K m H ∧ g d ds m Q ∧ KW K vs σ H Q Q'
def lGs (K : Frag) (vs : List Nat) (g : DGs) : TGs := fun v σ H Q' => ∃ d ds m Q, RDs K H d v ∧ RSt K H ds σ ∧ RM K m H ∧ g d ds m Q ∧ KW K vs σ H Q Q'
structure JG (X : Cx) (vs : List Nat) (tg : Expr) (g : DG) : Prop where
  pg : PG X tg (lG X.K vs g)
structure JGs (X : Cx) (vs : List Nat) (tg : List Expr) (g : DGs) : Prop where
  pgs : PGs X tg (lGs X.K vs g)
theorem _root_.L2.PG.imp {X : Cx} {e : Expr} {t t' : TG} (h : PG X e t) (i : ∀ v σ H Q, t' v σ H Q → t v σ H Q) : PG X e t' := ⟨fun pins s σ H v u Q I r w => h.run pins s σ H v u Q I r (i v σ H Q w)⟩
theorem _root_.L2.PGs.imp {X : Cx} {e : List Expr} {t t' : TGs} (h : PGs X e t) (i : ∀ v σ H Q, t' v σ H Q → t v σ H Q) : PGs X e t' := ⟨fun pins s σ H v u Q I r w => h.run pins s σ H v u Q I r (i v σ H Q w)⟩
theorem wipe_set_out {σ : L2.St} {i : Nat} {x : Option V} : ∀ {vs : List Nat}, i ∉ vs → wipe (σ.set i x) vs = (wipe σ vs).set i x
  | [], _ => rfl
  | v :: vs, h => by
    have h1 : i ≠ v := fun e => h (by simp [e])
    have h2 : i ∉ vs := fun e => h (by simp [e])
    unfold wipe
    rw [wipe_set_out h2, List.set_comm _ _ h1]
theorem wipe_set_in {σ : L2.St} {i : Nat} {x : Option V} : ∀ {vs : List Nat}, i ∈ vs → wipe (σ.set i x) vs = wipe σ vs
  | v :: vs, h => by
    unfold wipe
    by_cases e : i ∈ vs
    · rw [wipe_set_in e]
    · have e1 : i = v := by
        rcases List.mem_cons.mp h with z | z
        · exact z
        · exact absurd z e
      rw [wipe_set_out e, e1, List.set_set]
section
variable {X : Cx} {pos : Pos} {vs : List Nat}
def gN (i : Nat) : DG := fun d ds m Q => Q (ds.set i (some d)) m
theorem jg_name {i : Nat} {x : Str} (hN : X.N.Nodup) (hi : X.N[i]? = some x) (hx : Loc X.env.scope x) (hv : i ∈ vs := by decide) (hf : X.fn x = true ∨ X.env.scope.names.lookup x = some .local := by first | exact .inl rfl | exact .inr rfl | assumption) : JG X vs (.Name x pos) (gN i) := by
  refine ⟨PG.imp (pg_name hN hi hx hf) fun v σ H Q' h => ?_⟩
  obtain ⟨d, ds, m, Q, rv, rs, rm, q, k⟩ := h
  exact k _ m _ H (Ext.refl H) (rs.set rv i) rm (wipe_set_in hv) q
def gsNil : DGs := fun l ds m Q => l = [] ∧ Q ds m
def gsCons (g : DG) (gs : DGs) : DGs := fun l ds m Q => ∃ d r, l = d :: r ∧ g d ds m fun ds1 m1 => gs r ds1 m1 Q
theorem jgs_nil : JGs X vs [] gsNil := by
  refine ⟨PGs.imp pgs_nil fun v σ H Q' h => ?_⟩
  obtain ⟨d, ds, m, Q, rv, rs, rm, ⟨rfl, q⟩, k⟩ := h
  cases rv
  exact ⟨rfl, k ds m σ H (Ext.refl H) rs rm rfl q⟩
theorem jgs_cons {e : Expr} {es : List Expr} {g : DG} {gs : DGs} (h1 : JG X vs e g) (h2 : JGs X vs es gs)
    (hs : (assignEach (e :: es) X.env).map (·.2) = assign e X.env :: (assignEach es X.env).map (·.2) := by rfl) : JGs X vs (e :: es) (gsCons g gs) := by
  refine ⟨PGs.imp (pgs_cons h1.pg h2.pgs hs) fun v σ H Q' h => ?_⟩
  obtain ⟨d, ds, m, Q, rv, rs, rm, ⟨x, r, rfl, q⟩, k⟩ := h
  cases rv with
  | cons rx rr =>
    refine ⟨_, _, rfl, x, ds, m, _, rx, rs, rm, q, fun ds1 m1 σ1 H1 e1 rs1 rm1 w1 q1 => ?_⟩
    exact ⟨r, ds1, m1, Q, rr.ext e1, rs1, rm1, q1, fun ds2 m2 σ2 H2 e2 rs2 rm2 w2 q2 => k ds2 m2 σ2 H2 (e1.trans e2) rs2 rm2 (w2.trans w1) q2⟩
def gT (n : Nat) (gs : DGs) : DG := fun d ds m Q => ∃ l, d = .tup l ∧ l.length = n ∧ gs l ds m Q
theorem jg_tup {es : List Expr} {k : Nat} {gs : DGs} {n : Nat} (hc : X.calm = true) (h : JGs X vs es gs)
    (hn : (assignEach es X.env).length = n := by rfl) (hst : (assignEach es X.env).findIdx? (·.1) = none := by rfl) : JG X vs (.Tuple es k pos) (gT n gs) := by
  refine ⟨PG.imp (pg_tup hc h.pgs hn hst) fun v σ H Q' h => ?_⟩
  obtain ⟨d, ds, m, Q, rv, rs, rm, ⟨l, rfl, hl, q⟩, k⟩ := h
  cases rv with
  | tup hs rd => exact ⟨_, _, rfl, SqT.of hs, by rw [← rd.length]; exact hl, l, ds, m, Q, rd, rs, rm, q, k⟩
def dAsg (t : DE) (g : DG) : DS := fun D ds m => t ds m fun d m1 => g d ds m1 D.nx
theorem asg_of {t : DE} {g : DG} (D' : Ends) (σ : L2.St) (H : Hp) (h : lS X.K (dAsg t g) D' σ H) : tAsg (lE X.K t) (lG X.K vs g) D' σ H := by
  obtain ⟨ds, m, D, rs, rm, q, k⟩ := h
  exact ⟨ds, m, _, rs, rm, q, fun d m1 v H1 e1 rm1 rv q1 => ⟨d, ds, m1, _, rv, rs.ext e1, rm1, q1, (k.nx.ext e1).w⟩⟩
theorem js_asg {tg e : Expr} {t : DE} {g : DG} (he : JE X e t) (hg : JG X vs tg g) (hs : swapsWithSole [tg] e pos.line X.env = pure false := by rfl) (hw : swappedStores [tg] e X.env = pure none := by rfl)
    (h1 : (assignEach [tg] X.env).map (·.2) = [assign tg X.env] := by rfl) : JS X (.Assign [tg] e pos) (dAsg t g) :=
  ⟨(ps_asg he.pe hg.pg hs hw h1).imp asg_of⟩
theorem js_set {i : Nat} {x : Str} {e : Expr} {t : DE} {pos' : Pos} (hN : X.N.Nodup) (hi : X.N[i]? = some x) (hx : Loc X.env.scope x) (he : JE X e t) (hs : swapsWith e (some (.Name x pos')) pos.line X.env = pure false := by rfl) (hf : X.fn x = true ∨ X.env.scope.names.lookup x = some .local := by first | exact .inl rfl | exact .inr rfl | assumption) :
    JS X (.Assign [.Name x pos'] e pos) (dAsg t (gN i)) := by
  refine ⟨(ps_set hN hi hx he.pe hs hf).imp fun D' σ H h => ?_⟩
  obtain ⟨ds, m, D, rs, rm, q, k⟩ := h
  exact ⟨ds, m, _, rs, rm, q, fun d m1 v H1 e1 rm1 rv q1 => k.nx _ m1 _ H1 e1 ((rs.ext e1).set rv i) rm1 q1⟩
def dPar (i j : Nat) (t : DA) : DS := fun D ds m => t ds m fun l m1 => ∃ x y, l = [x, y] ∧ D.nx ((ds.set i (some x)).set j (some y)) m1
theorem js_par {i j : Nat} {x y : Str} {a b : Expr} {t : DA} {px py pt : Pos} {kt k2 pt2} (hc : X.calm = true) (hN : X.N.Nodup) (hi : X.N[i]? = some x) (hj : X.N[j]? = some y) (hij : i ≠ j)
    (hx : X.env.scope.names.lookup x = some .local) (hy : X.env.scope.names.lookup y = some .local) (ha : JA X [a, b] t)
    (hw : swappedStores [.Tuple [.Name x px, .Name y py] kt pt] (.Tuple [a, b] k2 pt2) X.env = pure (some [x, y]) := by rfl)
    (hs : swapsWithSole [.Tuple [.Name x px, .Name y py] kt pt] (.Tuple [a, b] k2 pt2) pos.line X.env = pure false := by rfl) :
    JS X (.Assign [.Tuple [.Name x px, .Name y py] kt pt] (.Tuple [a, b] k2 pt2) pos) (dPar i j t) := by
  refine ⟨(ps_par hc hN hi hj hij hx hy ha.pa hw hs).imp fun D' σ H h => ?_⟩
  obtain ⟨ds, m, D, rs, rm, q, k⟩ := h
  refine ⟨ds, m, _, rs, rm, q, fun l m1 vs H1 e1 rm1 rv q1 => ?_⟩
  obtain ⟨x, y, rfl, q1⟩ := q1
  cases rv with
  | cons r1 rr =>
    cases rr with
    | cons r2 rr =>
      cases rr
      exact ⟨_, _, rfl, k.nx _ m1 _ H1 e1 (((rs.ext e1).set r1 i).set r2 j) rm1 q1⟩
/-- o[i] = v, by values -/
abbrev DSet := D → D → D → MH → (MH → Prop) → Prop
def SetJ (X : Cx) (r : DSet) : Prop := ∃ rv : TSet, PSet X rv ∧ ∀ H m o i v ov iv vv Q Q', RM X.K m H → RD X.K H o ov → RD X.K H i iv → RD X.K H v vv → r o i v m Q → (∀ m' H', Ext H H' → RM X.K m' H' → Q m' → Q' H') → rv ov iv vv H Q'
def gS (o i : DE) (r : DSet) : DG := fun d ds m Q => o ds m fun x m1 => i ds m1 fun y m2 => r x y d m2 fun m3 => Q ds m3
theorem jg_sub {o i : Expr} {fo fi : DE} {r : DSet} (ho : JE X o fo) (hi : JE X i fi) (hs : SetJ X r)
    (ha : ∀ v, assign (.Subscript o i pos) X.env v = (do
      let ov ← holding [v] (eval o X.env)
      let iv ← holding [v, ov] (eval i X.env)
      standAt pos
      holding [v, ov, iv] (setItem ov iv v)
      release [v, ov, iv] []) := by intro _; rfl) : JG X vs (.Subscript o i pos) (gS fo fi r) := by
  obtain ⟨rv, h1, h2⟩ := hs
  refine ⟨PG.imp (pg_sub ho.pe hi.pe h1 ha) fun v σ H Q' h => ?_⟩
  obtain ⟨d, ds, m, Q, rd, rs, rm, q, k⟩ := h
  refine ⟨ds, m, _, rs, rm, q, fun x m1 xv H1 e1 rm1 rx q1 => ?_⟩
  refine ⟨ds, m1, _, rs.ext e1, rm1, q1, fun y m2 yv H2 e2 rm2 ry q2 => ?_⟩
  refine h2 H2 m2 x y d xv yv v _ _ rm2 (rx.ext e2) ry (rd.ext (e1.trans e2)) q2 fun m3 H3 e3 rm3 q3 => ?_
  exact k ds m3 σ H3 ((e1.trans e2).trans e3) (rs.ext ((e1.trans e2).trans e3)) rm3 rfl q3
end
end DL
/-! DL: loops, comprehensions, calls, what a def promises. -/
namespace DL
open PySem PySem.Spec PyProof.Rows L2

/-! ### what is walked -/
abbrev DI := Sd → MH → ((MH → Prop) → List D → MH → Prop) → Prop
/-- while chk holds the walk J gives just the items -/
def RIt (K : Frag) (J : It) (H0 : Hp) (chk : MH → Prop) (items : List D) : Prop := ∀ m H, Ext H0 H → RM K m H → chk m →
  (∀ i, i < items.length → J.go i H ∧ ∀ x H', J.yld i H x H' → Ext H H' ∧ RM K m H' ∧ ∃ d, items[i]? = some d ∧ RD K H' d x) ∧ J.stop items.length H
def lI (K : Frag) (f : DI) : TI := fun σ H R' => ∃ ds m Q, RSt K H ds σ ∧ RM K m H ∧ f ds m Q ∧ ∀ chk items m' J H', Ext H H' → RM K m' H' → RIt K J H' chk items → Q chk items m' → R' J H'
structure JI (X : Cx) (tg e : Expr) (f : DI) : Prop where
  pi : PI X tg e (lI X.K f)
theorem _root_.L2.PI.imp {X : Cx} {tg e : Expr} {t t' : TI} (h : PI X tg e t) (i : ∀ σ H Q, t' σ H Q → t σ H Q) : PI X tg e t' := ⟨fun pins s σ H R I w => h.run pins s σ H R I (i σ H R w)⟩

/-! ### for, while -/
def dLoop (chk : MH → Prop) (g : DG) (body : DS) : List D → DS
  | [] => fun D ds m => chk m ∧ D.nx ds m
  | x :: r => fun D ds m => chk m ∧ g x ds m fun ds2 m2 => body { D with nx := dLoop chk g body r D, ct := dLoop chk g body r D, bk := D.nx } ds2 m2
def dFor (it : DI) (g : DG) (body : DS) : DS := fun D ds m => it ds m fun chk items m1 => dLoop chk g body items D ds m1
def dWhileN (c : DT) (body : DS) : Nat → DS
  | 0 => fun _ _ _ => False
  | n + 1 => fun D ds m => c ds m fun b m1 => if b = true then body { D with nx := dWhileN c body n D, ct := dWhileN c body n D, bk := D.nx } ds m1 else D.nx ds m1
def dWhile (c : DT) (body : DS) : DS := fun D ds m => ∃ n, dWhileN c body n D ds m
theorem dLoop_chk {chk : MH → Prop} {g : DG} {body : DS} {l : List D} {D : DEnds} {ds : Sd} {m : MH} (h : dLoop chk g body l D ds m) : chk m := by
  cases l with
  | nil => exact h.1
  | cons x r => exact h.1
theorem drop_cons {α : Type} {l : List α} {i : Nat} (h : i < l.length) : l.drop i = l[i] :: l.drop (i + 1) := List.drop_eq_getElem_cons h
section
variable {X : Cx} {tg iter : Expr} {body : List Stmt} {it : DI} {g : DG} {b : DS} {pos : Pos} {vs : List Nat}
theorem js_for (hp : PassesOwn (model X.prog X.w) X.A X.env X.xe) (hc : X.calm = true) (hi : JI X tg iter it) (hg : JG X vs tg g) (hb : JSs X body b)
    (hs : ∀ x, foldedSetIterable iter X.env x = pure x := by intro _; rfl) : JS X (.For tg iter body [] pos) (dFor it g b) := by
  refine ⟨(ps_for hp hc hi.pi hg.pg hb.pss hs).imp fun D' σ H h => ?_⟩
  obtain ⟨ds, m, D, rs, rm, q, k⟩ := h
  refine ⟨ds, m, _, rs, rm, q, fun chk items m1 J H1 e1 rm1 rit q1 => ?_⟩
  refine ⟨fun i n σ' H' => n = items.length - i ∧ i ≤ items.length ∧ ∃ ds' m', Ext H1 H' ∧ RSt X.K H' ds' σ' ∧ RM X.K m' H' ∧ dLoop chk g b (items.drop i) D ds' m',
    ⟨items.length, by simp, Nat.zero_le _, ds, m1, Ext.refl _, rs.ext e1, rm1, q1⟩, ?_⟩
  rintro i n σ' H' ⟨rfl, hi, ds', m', e', rs', rm', q'⟩
  obtain ⟨r1, r2⟩ := rit m' H' e' rm' (dLoop_chk q')
  by_cases hlt : i < items.length
  · rw [drop_cons hlt] at q'
    obtain ⟨go, yl⟩ := r1 i hlt
    refine .inr ⟨go, fun σ3 H3 => ∃ ds3 m3, Ext H1 H3 ∧ RSt X.K H3 ds3 σ3 ∧ RM X.K m3 H3 ∧ dLoop chk g b (items.drop (i + 1)) D ds3 m3, fun σ3 H3 h3 => ⟨_, by omega, rfl, hlt, h3⟩, fun x H2 y => ?_⟩
    obtain ⟨e2, rm2, d, hd, rd⟩ := yl x H2 y
    have ed : items[i] = d := by
      rw [List.getElem?_eq_getElem hlt] at hd
      exact Option.some.inj hd
    rw [ed] at q'
    refine ⟨d, ds', m', _, rd, rs'.ext e2, rm2, q'.2, fun ds4 m4 σ4 H4 e4 rs4 rm4 _ q4 => ?_⟩
    have e14 : Ext H1 H4 := (e'.trans e2).trans e4
    have kk := k.ext (e1.trans e14)
    exact ⟨ds4, m4, _, rs4, rm4, q4, ⟨fun ds5 m5 σ5 H5 e5 rs5 rm5 q5 => ⟨ds5, m5, e14.trans e5, rs5, rm5, q5⟩, kk.rt, kk.nx, fun ds5 m5 σ5 H5 e5 rs5 rm5 q5 => ⟨ds5, m5, e14.trans e5, rs5, rm5, q5⟩⟩⟩
  · have e : i = items.length := by omega
    subst e
    rw [List.drop_length] at q'
    exact .inl ⟨r2, k.nx ds' m' σ' H' (e1.trans e') rs' rm' q'.2⟩
theorem js_while {c : Expr} {t : DT} (hp : PassesOwn (model X.prog X.w) X.A X.env X.xe) (hc : JT X c t) (hb : JSs X body b) : JS X (.While c body [] pos) (dWhile t b) := by
  refine ⟨(ps_while hp hc.pt hb.pss).imp fun D' σ H h => ?_⟩
  obtain ⟨ds, m, D, rs, rm, ⟨n, q⟩, k⟩ := h
  refine ⟨fun n σ' H' => ∃ ds' m', Ext H H' ∧ RSt X.K H' ds' σ' ∧ RM X.K m' H' ∧ dWhileN t b n D ds' m', ⟨n, ds, m, Ext.refl _, rs, rm, q⟩, ?_⟩
  rintro n σ' H' ⟨ds', m', e', rs', rm', q'⟩
  cases n with
  | zero => exact q'.elim
  | succ n =>
    refine ⟨ds', m', _, rs', rm', q', fun c m1 H1 e1 rm1 q1 => ?_⟩
    cases c with
    | true =>
      refine ⟨_, fun σ3 H3 h3 => ⟨n, Nat.lt_succ_self n, h3⟩, ?_⟩
      have kk := k.ext (e'.trans e1)
      exact ⟨ds', m1, _, rs'.ext e1, rm1, q1, ⟨fun ds5 m5 σ5 H5 e5 rs5 rm5 q5 => ⟨ds5, m5, (e'.trans e1).trans e5, rs5, rm5, q5⟩, kk.rt, kk.nx, fun ds5 m5 σ5 H5 e5 rs5 rm5 q5 => ⟨ds5, m5, (e'.trans e1).trans e5, rs5, rm5, q5⟩⟩⟩
    | false => exact k.nx ds' m1 σ' H1 (e'.trans e1) (rs'.ext e1) rm1 q1
end

/-! ### comprehensions -/
def dLcL (chk : MH → Prop) (g : DG) (tt : DT) (te : DE) (vs : List Nat) (p : Addr) (Q : DK) (ds : Sd) : List D → MH → Prop
  | [] => fun m => chk m ∧ Q (.ref p) m
  | x :: r => fun m => chk m ∧ g x (dwipe ds vs) m fun ds2 m2 => tt ds2 m2 fun b m3 => if b = true then te ds2 m3 fun y m4 => ∃ acc, m4 p = some (.lst acc) ∧ acc.length < sizeLine ∧ dLcL chk g tt te vs p Q ds r (mup m4 p (.lst (acc ++ [y]))) else dLcL chk g tt te vs p Q ds r m3
def dLc (it : DI) (g : DG) (tt : DT) (te : DE) (vs : List Nat) : DE := fun ds m Q => it ds m fun chk items m1 => ∀ p, m1 p = none → dLcL chk g tt te vs p Q ds items (mup m1 p (.lst []))
theorem dLcL_chk {chk : MH → Prop} {g : DG} {tt : DT} {te : DE} {vs : List Nat} {p : Addr} {Q : DK} {ds : Sd} {l : List D} {m : MH} (h : dLcL chk g tt te vs p Q ds l m) : chk m := by
  cases l with
  | nil => exact h.1
  | cons x r => exact h.1
def dYes : DT := fun _ m Q => Q true m
structure JTs (X : Cx) (ifs : List Expr) (t : DT) : Prop where
  pts : PTs X ifs (lT X.K t)
theorem _root_.L2.PTs.imp {X : Cx} {e : List Expr} {t t' : TT} (h : PTs X e t) (i : ∀ σ H Q, t' σ H Q → t σ H Q) : PTs X e t' := ⟨fun pins s σ H Q I w => h.run pins s σ H Q I (i σ H Q w)⟩
theorem jts_nil {X : Cx} : JTs X [] dYes := by
  refine ⟨pts_nil.imp fun σ H Q' h => ?_⟩
  obtain ⟨ds, m, Q, rs, rm, q, k⟩ := h
  exact k true m H (Ext.refl H) rm q
theorem jts_one {X : Cx} {c : Expr} {t : DT} (h : JT X c t) : JTs X [c] t := ⟨pts_one h.pt⟩
section
variable {X : Cx} {tg iter elt : Expr} {ifs : List Expr} {scope : Scope} {own : List (Str × Nat)} {it : DI} {g : DG} {tt : DT} {te : DE} {pos : Pos}
theorem wipe_id : ∀ (us : List Nat) (τ : L2.St), (∀ i ∈ us, ∀ v, τ[i]? = some v → v = none) → wipe τ us = τ
  | [], _, _ => rfl
  | u :: us, τ, hτ => by
    unfold wipe
    rw [wipe_id us τ fun i hi => hτ i (List.mem_cons_of_mem _ hi)]
    by_cases hu : u < τ.length
    · have h1 := hτ u List.mem_cons_self τ[u] (List.getElem?_eq_getElem hu)
      rw [← h1]
      exact List.set_getElem_self hu
    · exact List.set_eq_of_length_le (by omega)
theorem wipe_wipe (σ : L2.St) (vs : List Nat) : wipe (wipe σ vs) vs = wipe σ vs := wipe_id vs _ fun i hi v hv => by
  cases v with
  | none => rfl
  | some x => exact absurd hi (wipe_some hv).2
theorem lc_of {K : Frag} (σ : L2.St) (H : Hp) (Q' : VK) (vs : List Nat) (h : lE K (dLc it g tt te vs) σ H Q') : tLc (lI K it) (lG K vs g) (lT K tt) (lE K te) vs σ H Q' := by
  obtain ⟨ds, m, Q, rs, rm, q, k⟩ := h
  refine ⟨ds, m, _, rs, rm, q, fun chk items m1 J H1 e1 rm1 rit q1 p hp => ?_⟩
  have q2 := q1 p (rm1.none hp)
  have ep : Ext H1 (upd H1 p (.lst [])) := Ext.fresh hp
  refine ⟨fun i n H' => n = items.length - i ∧ i ≤ items.length ∧ ∃ m', Ext H1 H' ∧ RM K m' H' ∧ dLcL chk g tt te vs p Q ds (items.drop i) m',
    ⟨items.length, by simp, Nat.zero_le _, _, ep, rm1.upd (o := .lst []) ep ⟨[], upd_same, .nil⟩, q2⟩, ?_⟩
  rintro i n H' ⟨rfl, hi, m', e', rm', q'⟩
  obtain ⟨r1, r2⟩ := rit m' H' e' rm' (dLcL_chk q')
  by_cases hlt : i < items.length
  · rw [drop_cons hlt] at q'
    obtain ⟨go, yl⟩ := r1 i hlt
    refine .inr ⟨go, fun H3 => ∃ m3, Ext H1 H3 ∧ RM K m3 H3 ∧ dLcL chk g tt te vs p Q ds (items.drop (i + 1)) m3, fun H3 h3 => ⟨_, by omega, rfl, hlt, h3⟩, fun x H2 y => ?_⟩
    obtain ⟨e2, rm2, d, hd, rd⟩ := yl x H2 y
    have ed : items[i] = d := by
      rw [List.getElem?_eq_getElem hlt] at hd
      exact Option.some.inj hd
    rw [ed] at q'
    have e12 := e'.trans e2
    refine ⟨d, dwipe ds vs, m', _, rd, (rs.ext (e1.trans e12)).wipe vs, rm2, q'.2, fun ds4 m4 σ4 H4 e4 rs4 rm4 w4 q4 => ?_⟩
    refine ⟨w4.trans (wipe_wipe σ vs) |> fun z => z, ?_⟩
    refine ⟨ds4, m4, _, rs4, rm4, q4, fun b m5 H5 e5 rm5 q5 => ?_⟩
    cases b with
    | true =>
      refine ⟨ds4, m5, _, rs4.ext e5, rm5, q5, fun y m6 yv H6 e6 rm6 ry q6 => ?_⟩
      obtain ⟨acc, h6, hl6, q6⟩ := q6
      obtain ⟨xs, hx, rx⟩ := rm6 p _ h6
      refine ⟨xs, hx, by rw [← rx.length]; exact hl6, ?_⟩
      have e7 : Ext H6 (upd H6 p (.lst (xs ++ [yv]))) := Ext.lst hx
      exact ⟨_, (((e12.trans e4).trans e5).trans e6).trans e7, rm6.upd (o := .lst (acc ++ [y])) e7 ⟨_, upd_same, (rx.app (.cons ry .nil)).ext e7⟩, q6⟩
    | false => exact ⟨m5, (e12.trans e4).trans e5, rm5, q5⟩
  · have e : i = items.length := by omega
    subst e
    rw [List.drop_length] at q'
    exact .inl ⟨r2, k (.ref p) m' (.ref p) H' (e1.trans e') rm' (.ref p) q'.2⟩
theorem je_lc (hc : X.calm = true) (hN : X.N.Nodup) (hi : JI X tg iter it) (ok : BlkOk X.N X.env.scope scope own)
    (hg : ∀ (s : Shared) (H : Hp) (C : Addr) (cl : List (Str × Addr)) (fp : List Addr), JG (X.blk s H scope (compEnvC scope cl C X.env) fp) vs tg g) (ht : ∀ (s : Shared) (H : Hp) (C : Addr) (cl : List (Str × Addr)) (fp : List Addr), JTs (X.blk s H scope (compEnvC scope cl C X.env) fp) ifs tt)
    (he : ∀ (s : Shared) (H : Hp) (C : Addr) (cl : List (Str × Addr)) (fp : List Addr), JE (X.blk s H scope (compEnvC scope cl C X.env) fp) elt te) (hs : ∀ x, foldedSetIterable iter X.env x = pure x := by intro _; rfl) (hvs : vs = own.map (·.2) := by rfl) :
    JE X (.ListComp elt [⟨tg, iter, ifs, 0⟩] scope pos) (dLc it g tt te vs) := by
  subst hvs
  exact ⟨(pe_lc (wi := lI X.K it) (g := lG X.K (own.map (·.2)) g) (tt := lT X.K tt) (te := lE X.K te) hc hN hi.pi ok (fun s H C cl fp => (hg s H C cl fp).pg) (fun s H C cl fp => (ht s H C cl fp).pts) (fun s H C cl fp => (he s H C cl fp).pe) hs).imp fun σ H Q' h => lc_of σ H Q' _ h⟩
theorem js_setLc {i : Nat} {y : Str} {py : Pos} {spos : Pos} (hc : X.calm = true) (hN : X.N.Nodup) (hy : X.N[i]? = some y) (hyl : X.env.scope.names.lookup y = some .local)
    (hsw : swapsWith (.ListComp elt [⟨tg, iter, ifs, 0⟩] scope pos) (some (.Name y py)) spos.line X.env = pure true) (hi : JI X tg iter it) (ok : BlkOk X.N X.env.scope scope own)
    (hg : ∀ (s : Shared) (H : Hp) (C : Addr) (cl : List (Str × Addr)) (fp : List Addr), JG (X.blk s H scope (compEnvC scope cl C X.env) fp) vs tg g) (ht : ∀ (s : Shared) (H : Hp) (C : Addr) (cl : List (Str × Addr)) (fp : List Addr), JTs (X.blk s H scope (compEnvC scope cl C X.env) fp) ifs tt)
    (he : ∀ (s : Shared) (H : Hp) (C : Addr) (cl : List (Str × Addr)) (fp : List Addr), JE (X.blk s H scope (compEnvC scope cl C X.env) fp) elt te) (hs : ∀ x, foldedSetIterable iter X.env x = pure x := by intro _; rfl) (hvs : vs = own.map (·.2) := by rfl) :
    JS X (.Assign [.Name y py] (.ListComp elt [⟨tg, iter, ifs, 0⟩] scope pos) spos) (dAsg (dLc it g tt te vs) (gN i)) := by
  subst hvs
  refine ⟨(ps_setLc (wi := lI X.K it) (g := lG X.K (own.map (·.2)) g) (tt := lT X.K tt) (te := lE X.K te) hc hN hy hyl hsw hi.pi ok (fun s H C cl fp => (hg s H C cl fp).pg) (fun s H C cl fp => (ht s H C cl fp).pts) (fun s H C cl fp => (he s H C cl fp).pe) hs).imp fun D' σ H h => ?_⟩
  obtain ⟨ds, m, D, rs, rm, q, k⟩ := h
  refine lc_of σ H _ _ ⟨ds, m, _, rs, rm, q, fun d m1 v H1 e1 rm1 rv q1 => ?_⟩
  exact k.nx _ m1 _ H1 e1 ((rs.ext e1).set rv i) rm1 q1
end

/-! ### what a def promises; its call -/
abbrev DSp := List D → MH → DK → Prop
def lSp (K : Frag) (sp : DSp) : Sp := fun vs H Q' _ => ∃ ds m Q, RDs K H ds vs ∧ RM K m H ∧ sp ds m Q ∧ KE K H Q Q'
structure DefOk (P : Program) (w : World) (K : Frag) (mg : Str → Option Value) (base : Heap) (k : Nat) (x : Str) (ps : List Str) (sp : DSp) : Prop where
  ex : ∃ f fd, mg x = some (.ref f) ∧ PySem.W.keepIn K (.ref f) = true ∧ Binds K fd ps [] ∧ FnOk P w K mg base CX0 k f fd ps (lSp K sp)
def dCall (sp : DSp) (t : DA) : DE := fun ds m Q => t ds m fun l m1 => sp l m1 Q
section
variable {X : Cx} {e : Expr} {es : List Expr} {t : DA} {pos p : Pos}
theorem je_call {k j : Nat} {x : Str} {ps : List Str} {sp : DSp} (G : DefOk X.prog X.w X.K X.mg X.base k x ps sp) (hr : Room j X.A) (ha : JA X (e :: es) t) (hk : k ≤ j := by decide) (hg : Gl X x := by rfl)
    (hs : starEach (e :: es) X.env = (false, eval e X.env) :: starEach es X.env := by rfl) (hpl : (backTo pos (starEach es X.env)).any (·.1) = false := by rfl) (hd : (x == ("__debug__" : Str)) = false := by decide) :
    JE X (.Call (.Name x p) (e :: es) [] pos) (dCall sp t) := by
  obtain ⟨f, fd, hm, hkp, hb, F⟩ := G.ex
  refine ⟨(pe_call F (hr.mono hk) hg hm hkp hb .nil pass0 ha.pa hd hs hpl).imp fun σ H Q' h => ?_⟩
  obtain ⟨ds, m, Q, rs, rm, q, k⟩ := h
  refine ⟨ds, m, _, rs, rm, q, fun l m1 vs H1 e1 rm1 rv q1 => ?_⟩
  exact ⟨l, m1, Q, by simpa using rv, rm1, q1, k.ext e1⟩
end
section
variable {P : Program} {w : World} {K : Frag} {mg : Str → Option Value} {base : Heap}
theorem def_ok {x qual : Str} {st : Stmt} {f : Addr} {fd : FuncData} {N ps : List Str} {k : Nat} {sp : DSp} {g : DS} (F : Fun K x qual st f fd) (S : FnScope N ps (defScope st)) (hm : mg x = some (.ref f)) (hb : Binds K fd ps [])
    (len : ∀ ds m Q, sp ds m Q → ds.length = ps.length)
    (hbody : ∀ (cdv : Value) (A : Around) (outer : List Env) (s : Shared) (H : Hp) (E : XK), Room k (A.deeper (envOfC qual (defScope st) s.heap.objs.size f cdv)) →
      JSs (cxOf CX0 P w K mg base N qual (defScope st) f cdv A outer s H E).nox (defBody st) g)
    (hp : ∀ ds m Q, sp ds m Q → g { nx := fun _ m' => Q .non m', rt := Q } (dstart N.length ds) m) : DefOk P w K mg base (k + 1) x ps sp := by
  refine ⟨f, fd, hm, F.kp, hb, F.ok S (fun vs H Q E h => ?_) fun cdv A outer s H vs Q' E hr h => ?_⟩
  · obtain ⟨ds, m, Q, rd, _, q, _⟩ := h
    rw [← rd.length]
    exact len ds m Q q
  · obtain ⟨ds, m, Q, rd, rm, q, k⟩ := h
    refine ⟨_, (hbody cdv A outer s H E hr).pss, ?_⟩
    exact ⟨_, m, _, RSt.start rd, rm, hp ds m Q q, ⟨fun ds2 m2 σ2 H2 e2 rs2 rm2 q2 => k .non m2 .non H2 e2 rm2 .non q2, k, fun _ _ _ _ _ _ _ z => z.elim, fun _ _ _ _ _ _ _ z => z.elim⟩⟩
theorem DefOk.mono {j k : Nat} {x : Str} {ps : List Str} {sp : DSp} (h : DefOk P w K mg base j x ps sp) (hj : j ≤ k) : DefOk P w K mg base k x ps sp := by
  obtain ⟨f, fd, h1, h2, h3, h4⟩ := h.ex
  exact ⟨f, fd, h1, h2, h3, h4.mono hj⟩
theorem DefOk.imp {k : Nat} {x : Str} {ps : List Str} {sp sp' : DSp} (h : DefOk P w K mg base k x ps sp) (i : ∀ ds m Q, sp' ds m Q → sp ds m Q) : DefOk P w K mg base k x ps sp' := by
  obtain ⟨f, fd, h1, h2, h3, h4⟩ := h.ex
  exact ⟨f, fd, h1, h2, h3, h4.imp fun vs H Q E ⟨ds, m, q, a, b, c, d⟩ => ⟨ds, m, q, a, b, i _ _ _ c, d⟩⟩
end
end DL
/-! DL: the operators, subscripts, slices, built-ins over plain data. -/
namespace DL
open PySem PySem.Spec PyProof.Rows L2

/-! ### data -/
mutual
inductive PD (m : MH) : D → PyData → Prop
  | non : PD m .non .none
  | bl (b : Bool) : PD m (.bl b) (.bool b)
  | int (i : Int) : PD m (.int i) (.int i)
  | str (x : Str) : PD m (.str x) (.str x)
  | tup {l : List D} {ps : List PyData} : PDs m l ps → PD m (.tup l) (.tuple ps)
  | rol {l : List D} {ps : List PyData} : PDs m l ps → PD m (.rol l) (.list ps)
  | lst {a : Addr} {l : List D} {ps : List PyData} : m a = some (.lst l) → PDs m l ps → PD m (.ref a) (.list ps)
inductive PDs (m : MH) : List D → List PyData → Prop
  | nil : PDs m [] []
  | cons {d : D} {p : PyData} {l : List D} {ps : List PyData} : PD m d p → PDs m l ps → PDs m (d :: l) (p :: ps)
end
section
variable {K : Frag} {m : MH} {H : Hp}
mutual
theorem PD.dp (rm : RM K m H) : ∀ {d : D} {p : PyData} {v : V}, PD m d p → RD K H d v → Dp K H v p
  | _, _, _, .non, .non => .non
  | _, _, _, .bl b, .bl _ => .bl b
  | _, _, _, .int i, .int _ => .int i
  | _, _, _, .str x, .str _ => .str x
  | _, _, _, .tup h, .tup s r => .tup (SqT.of s) (PDs.dp rm h r)
  | _, _, _, .rol h, .rol s r => .lst s.l (PDs.dp rm h r)
  | _, _, _, .lst e h, .ref _ => by
    obtain ⟨xs, hx, rx⟩ := rm _ _ e
    exact .lst (SqL.of hx) (PDs.dp rm h rx)
theorem PDs.dp (rm : RM K m H) : ∀ {d : List D} {p : List PyData} {v : List V}, PDs m d p → RDs K H d v → DpAll K H v p
  | _, _, _, .nil, .nil => .nil
  | _, _, _, .cons a b, .cons r s => .cons (PD.dp rm a r) (PDs.dp rm b s)
end
end
mutual
/-- what has no address in it -/
def pure : D → Bool
  | .ref _ => false
  | .tup l => pures l
  | .rol l => pures l
  | .non => true
  | .bl _ => true
  | .int _ => true
  | .str _ => true
def pures : List D → Bool
  | [] => true
  | d :: l => pure d && pures l
end
mutual
def pp : D → PyData
  | .ref _ => .none
  | .tup l => .tuple (pps l)
  | .rol l => .list (pps l)
  | .non => .none
  | .bl b => .bool b
  | .int i => .int i
  | .str x => .str x
def pps : List D → List PyData
  | [] => []
  | d :: l => pp d :: pps l
end
mutual
theorem PD.of (m : MH) : ∀ (d : D), pure d = true → PD m d (pp d)
  | .non, _ => by rw [pp]; exact .non
  | .bl b, _ => by rw [pp]; exact .bl b
  | .int i, _ => by rw [pp]; exact .int i
  | .str x, _ => by rw [pp]; exact .str x
  | .tup l, h => by
    rw [pp]
    exact .tup (PDs.of m l (by rw [pure] at h; exact h))
  | .rol l, h => by
    rw [pp]
    exact .rol (PDs.of m l (by rw [pure] at h; exact h))
  | .ref a, h => by rw [pure] at h; cases h
theorem PDs.of (m : MH) : ∀ (l : List D), pures l = true → PDs m l (pps l)
  | [], _ => by rw [pps]; exact .nil
  | d :: l, h => by
    rw [pures, Bool.and_eq_true] at h
    rw [pps]
    exact .cons (PD.of m d h.1) (PDs.of m l h.2)
end
/-- a tuple of whole numbers -/
def tInts (l : List Int) : D := .tup (l.map .int)

/-! ### operators -/
section
variable {X : Cx}
/-- by one rule -/
theorem opj {f : Value → Value → Sem Value} {rv : R2} {r : DOp} (h : OpR X f rv) (i : ∀ H m x y xv yv Q Q', RM X.K m H → RD X.K H x xv → RD X.K H y yv → r x y m Q → KE X.K H Q Q' → rv xv yv H Q') : OpJ X f r := ⟨rv, h, i⟩
def aAdd : DOp
  | .int i, .int j, m, Q => Q (.int (i + j)) m
  | .str a, .str b, m, Q => a.length + b.length ≤ sizeLine ∧ Q (.str (a ++ b)) m
  | .tup a, .tup b, m, Q => a.length + b.length ≤ sizeLine ∧ Q (.tup (a ++ b)) m
  | .ref p, .ref q, m, Q => ∃ a b, m p = some (.lst a) ∧ m q = some (.lst b) ∧ a.length + b.length ≤ sizeLine ∧ aNew (.lst (a ++ b)) m Q
  | _, _, _, _ => False
theorem oj_add : OpJ X (binaryOp .Add) aAdd := by
  refine opj (OpR.or op_add (OpR.or op_add_str (OpR.or op_catA op_cat))) ?_
  intro H m x y xv yv Q Q' rm rx ry h k
  cases rx <;> cases ry <;> try exact h.elim
  · exact .inl ⟨_, _, rfl, rfl, k _ _ _ _ (Ext.refl H) rm (.int _) h⟩
  · exact .inr (.inl ⟨_, _, rfl, rfl, h.1, k _ _ _ _ (Ext.refl H) rm (.str _) h.2⟩)
  · rename_i l a xs s1 r1 l2 a2 xs2 s2 r2
    have e : xs.length + xs2.length ≤ sizeLine := by rw [← r1.length, ← r2.length]; exact h.1
    refine .inr (.inr (.inl ⟨a, a2, xs, xs2, rfl, rfl, SqT.of s1, SqT.of s2, e, fun z => ?_, fun _ z => ?_, fun _ _ p hp => ?_⟩))
    · subst z
      cases r1
      exact k _ _ _ _ (Ext.refl H) rm (.tup s2 r2) h.2
    · subst z
      cases r2
      have h2 := h.2
      rw [List.append_nil] at h2
      exact k _ _ _ _ (Ext.refl H) rm (.tup s1 r1) h2
    · exact k _ _ _ _ (Ext.fresh hp) (rm.more hp) (.tup upd_same ((r1.app r2).ext (Ext.fresh hp))) h.2
  · obtain ⟨a, b, h1, h2, hz, q⟩ := h
    obtain ⟨xs, e1, r1⟩ := rm _ _ h1
    obtain ⟨ys, e2, r2⟩ := rm _ _ h2
    refine .inr (.inr (.inr ⟨_, _, xs, ys, rfl, rfl, e1, e2, by rw [← r1.length, ← r2.length]; exact hz, fun p hp => ?_⟩))
    exact k _ _ _ _ (Ext.fresh hp) (rm.upd (o := .lst (a ++ b)) (Ext.fresh hp) ⟨_, upd_same, (r1.app r2).ext (Ext.fresh hp)⟩) (.ref p) (q p (rm.none hp))
def aSub : DOp
  | .int i, .int j, m, Q => Q (.int (i - j)) m
  | _, _, _, _ => False
theorem oj_sub : OpJ X (binaryOp .Sub) aSub := by
  refine opj op_sub ?_
  intro H m x y xv yv Q Q' rm rx ry h k
  cases rx <;> cases ry <;> try exact h.elim
  exact ⟨_, _, rfl, rfl, k _ _ _ _ (Ext.refl H) rm (.int _) h⟩
def aMul : DOp
  | .int i, .int j, m, Q => CMul i j ∧ Q (.int (i * j)) m
  | .tup l, .int k, m, Q => l ≠ [] ∧ 2 ≤ k ∧ k ≤ 1000 ∧ l.length ≤ 1000 ∧ Q (.tup (List.replicate k.toNat l).flatten) m
  | .ref p, .int k, m, Q => ∃ l, m p = some (.lst l) ∧ -(2 ^ 63) ≤ k ∧ k < 2 ^ 63 ∧ l.length * k.toNat ≤ sizeLine ∧ aNew (.lst (List.replicate k.toNat l).flatten) m Q
  | _, _, _, _ => False
theorem oj_mul : OpJ X (binaryOp .Mult) aMul := by
  refine opj (OpR.or op_mul (OpR.or op_repT op_rep)) ?_
  intro H m x y xv yv Q Q' rm rx ry h k
  cases rx <;> cases ry <;> try exact h.elim
  · exact .inl ⟨_, _, rfl, rfl, h.1, k _ _ _ _ (Ext.refl H) rm (.int _) h.2⟩
  · rename_i l a xs s1 r1 i
    obtain ⟨h0, h1, h2, h3, q⟩ := h
    refine .inr (.inl ⟨a, i, xs, rfl, rfl, SqT.of s1, fun z => ?_, h1, h2, by rw [← r1.length]; exact h3, fun p hp => ?_⟩)
    · subst z
      cases r1
      exact h0 rfl
    · exact k _ _ _ _ (Ext.fresh hp) (rm.more hp) (.tup upd_same ((r1.rep _).ext (Ext.fresh hp))) q
  · obtain ⟨l, h1, h2, h3, h4, q⟩ := h
    obtain ⟨xs, e1, r1⟩ := rm _ _ h1
    refine .inr (.inr ⟨_, _, xs, rfl, rfl, e1, h2, h3, by rw [← r1.length]; exact h4, fun p hp => ?_⟩)
    exact k _ _ _ _ (Ext.fresh hp) (rm.upd (o := .lst _) (Ext.fresh hp) ⟨_, upd_same, (r1.rep _).ext (Ext.fresh hp)⟩) (.ref p) (q p (rm.none hp))
def aDiv : DOp
  | .int i, .int j, m, Q => CDivN i j ∧ Q (.int (i.fdiv j)) m
  | _, _, _, _ => False
theorem oj_div : OpJ X (binaryOp .FloorDiv) aDiv := by
  refine opj op_fdivN ?_
  intro H m x y xv yv Q Q' rm rx ry h k
  cases rx <;> cases ry <;> try exact h.elim
  exact ⟨_, _, rfl, rfl, h.1, k _ _ _ _ (Ext.refl H) rm (.int _) h.2⟩
def aMod : DOp
  | .int i, .int j, m, Q => j ≠ 0 ∧ Q (.int (i.fmod j)) m
  | _, _, _, _ => False
theorem oj_mod : OpJ X (binaryOp .Mod) aMod := by
  refine opj op_modN ?_
  intro H m x y xv yv Q Q' rm rx ry h k
  cases rx <;> cases ry <;> try exact h.elim
  exact ⟨_, _, rfl, rfl, h.1, k _ _ _ _ (Ext.refl H) rm (.int _) h.2⟩
def aPow : DOp
  | .int i, .int j, m, Q => CPow i j ∧ Q (.int (i ^ j.toNat)) m
  | _, _, _, _ => False
theorem oj_pow : OpJ X (binaryOp .Pow) aPow := by
  refine opj op_pow ?_
  intro H m x y xv yv Q Q' rm rx ry h k
  cases rx <;> cases ry <;> try exact h.elim
  exact ⟨_, _, rfl, rfl, h.1, k _ _ _ _ (Ext.refl H) rm (.int _) h.2⟩

/-! ### comparisons -/
/-- == : texts; any data -/
def aEq : DOp := fun x y m Q => (∃ a b, x = .str a ∧ y = .str b ∧ Q (.bl (decide (a = b))) m) ∨ ∃ p q, PD m x p ∧ PD m y q ∧ SeqAt.shaped p = true ∧ SeqAt.shaped q = true ∧ Q (.bl (PyData.eqv p q)) m
def aNe : DOp := fun x y m Q => (∃ a b, x = .str a ∧ y = .str b ∧ Q (.bl (!decide (a = b))) m) ∨ ∃ p q, PD m x p ∧ PD m y q ∧ SeqAt.shaped p = true ∧ SeqAt.shaped q = true ∧ Q (.bl (!PyData.eqv p q)) m
theorem dec_strV (a b : Str) : decide (V.str a = V.str b) = decide (a = b) := by
  by_cases h : a = b
  · subst h; simp
  · rw [decide_eq_false h, decide_eq_false (fun e => h (V.str.inj e))]
theorem oj_eq {k : Nat} (hr : Room k X.A) : OpJ X (compareOp .Eq) aEq := by
  refine opj (OpR.or op_eq (op_eqD hr.units)) ?_
  intro H m x y xv yv Q Q' rm rx ry h k
  rcases h with ⟨a, b, rfl, rfl, h⟩ | ⟨p, q, h1, h2, h3, h4, h5⟩
  · cases rx
    cases ry
    exact .inl ⟨rfl, by rw [dec_strV]; exact k _ _ _ _ (Ext.refl H) rm (.bl _) h⟩
  · exact .inr ⟨p, q, h1.dp rm rx, h2.dp rm ry, h3, h4, k _ _ _ _ (Ext.refl H) rm (.bl _) h5⟩
theorem oj_ne {k : Nat} (hr : Room k X.A) : OpJ X (compareOp .NotEq) aNe := by
  refine opj (OpR.or op_ne (op_neD hr.units)) ?_
  intro H m x y xv yv Q Q' rm rx ry h k
  rcases h with ⟨a, b, rfl, rfl, h⟩ | ⟨p, q, h1, h2, h3, h4, h5⟩
  · cases rx
    cases ry
    exact .inl ⟨rfl, by rw [dec_strV]; exact k _ _ _ _ (Ext.refl H) rm (.bl _) h⟩
  · exact .inr ⟨p, q, h1.dp rm rx, h2.dp rm ry, h3, h4, k _ _ _ _ (Ext.refl H) rm (.bl _) h5⟩
theorem rds_ints {K : Frag} {H : Hp} : ∀ {ns : List Int} {xs : List V}, RDs K H (ns.map .int) xs → xs = ns.map V.int
  | [], _, .nil => rfl
  | n :: ns, _, .cons (.int _) t => by rw [List.map_cons, rds_ints t]
theorem rds_of_ints {K : Frag} {H : Hp} : ∀ (ns : List Int), RDs K H (ns.map .int) (ns.map V.int)
  | [] => .nil
  | n :: ns => .cons (.int n) (rds_of_ints ns)
/-- < : whole numbers, tuples of these -/
def aLt : DOp
  | .int i, .int j, m, Q => Q (.bl (decide (i < j))) m
  | .tup a, .tup b, m, Q => ∃ ns ms : List Int, a = ns.map .int ∧ b = ms.map .int ∧ Q (.bl (HT.lexLt ns ms)) m
  | _, _, _, _ => False
theorem oj_lt {k : Nat} (hr : Room k X.A) : OpJ X (compareOp .Lt) aLt := by
  refine opj (OpR.or op_lt (op_ltT hr.units0)) ?_
  intro H m x y xv yv Q Q' rm rx ry h k
  cases rx <;> cases ry <;> try exact h.elim
  · exact .inl ⟨_, _, rfl, rfl, k _ _ _ _ (Ext.refl H) rm (.bl _) h⟩
  · rename_i l a xs s1 r1 l2 a2 xs2 s2 r2
    obtain ⟨ns, ms, rfl, rfl, q⟩ := h
    rw [rds_ints r1] at s1
    rw [rds_ints r2] at s2
    exact .inr ⟨a, a2, ns, ms, rfl, rfl, SqT.of s1, SqT.of s2, k _ _ _ _ (Ext.refl H) rm (.bl _) q⟩
def aGt : DOp
  | .int i, .int j, m, Q => Q (.bl (decide (j < i))) m
  | _, _, _, _ => False
theorem oj_gt : OpJ X (compareOp .Gt) aGt := by
  refine opj op_gt ?_
  intro H m x y xv yv Q Q' rm rx ry h k
  cases rx <;> cases ry <;> try exact h.elim
  exact ⟨_, _, rfl, rfl, k _ _ _ _ (Ext.refl H) rm (.bl _) h⟩
def aLe : DOp
  | .int i, .int j, m, Q => Q (.bl (decide (i ≤ j))) m
  | _, _, _, _ => False
theorem oj_le : OpJ X (compareOp .LtE) aLe := by
  refine opj op_le ?_
  intro H m x y xv yv Q Q' rm rx ry h k
  cases rx <;> cases ry <;> try exact h.elim
  exact ⟨_, _, rfl, rfl, k _ _ _ _ (Ext.refl H) rm (.bl _) h⟩
def aGe : DOp
  | .int i, .int j, m, Q => Q (.bl (decide (j ≤ i))) m
  | _, _, _, _ => False
theorem oj_ge : OpJ X (compareOp .GtE) aGe := by
  refine opj op_ge ?_
  intro H m x y xv yv Q Q' rm rx ry h k
  cases rx <;> cases ry <;> try exact h.elim
  exact ⟨_, _, rfl, rfl, k _ _ _ _ (Ext.refl H) rm (.bl _) h⟩
def isNon : D → Bool
  | .non => true
  | _ => false
theorem isNon_of {K : Frag} {H : Hp} {d : D} {v : V} (r : RD K H d v) : decide (v = .non) = isNon d := by
  cases r <;> simp [isNon]
def aIs : DOp := fun x y m Q => y = .non ∧ Q (.bl (isNon x)) m
theorem oj_is : OpJ X (compareOp .Is) aIs := by
  refine opj op_isN ?_
  intro H m x y xv yv Q Q' rm rx ry h k
  obtain ⟨rfl, q⟩ := h
  cases ry
  exact ⟨rfl, k _ _ _ _ (Ext.refl H) rm (by rw [isNon_of rx]; exact .bl _) q⟩
def aIsNot : DOp := fun x y m Q => y = .non ∧ Q (.bl (!isNon x)) m
theorem oj_isnot : OpJ X (compareOp .IsNot) aIsNot := by
  refine opj op_notN ?_
  intro H m x y xv yv Q Q' rm rx ry h k
  obtain ⟨rfl, q⟩ := h
  cases ry
  exact ⟨rfl, k _ _ _ _ (Ext.refl H) rm (by rw [isNon_of rx]; exact .bl _) q⟩
/-- a < b < c -/
def dChain (r r' : DOp) (f g h : DE) : DE := fun ds m Q => f ds m fun x m1 => g ds m1 fun y m2 => r x y m2 fun z m3 => ∃ k, z = .bl k ∧ if k = true then h ds m3 fun c m4 => r' y c m4 Q else Q (.bl false) m3
end

/-! ### subscripts -/
section
variable {X : Cx}
/-- o[i], by values -/
def IxJ (X : Cx) (r : DOp) : Prop := ∃ rv : R2, IxR X rv ∧ ∀ H m x y xv yv Q Q', RM X.K m H → RD X.K H x xv → RD X.K H y yv → r x y m Q → KE X.K H Q Q' → rv xv yv H Q'
theorem je_ix {a b : Expr} {f g : DE} {pos : Pos} {r : DOp} (hr : IxJ X r) (ha : JE X a f) (hb : JE X b g) (hs : PlainIx b := by exact fun _ _ => rfl) : JE X (.Subscript a b pos) (dOp r f g) := by
  obtain ⟨rv, h1, h2⟩ := hr
  refine ⟨(pe_ix h1 ha.pe hb.pe hs).imp fun σ H Q' h => ?_⟩
  exact tOp_of (X := X) (fv := fun _ _ => Pure.pure .none) h2 σ H Q' h
theorem RDs.atI {K : Frag} {H : Hp} {l : List D} {xs : List V} {i : Int} {d : D} (r : RDs K H l xs) (h : L2.atI l i = some d) : ∃ v, L2.atI xs i = some v ∧ RD K H d v := by
  unfold L2.atI at h ⊢
  rw [← r.length]
  cases e : ixN l.length i with
  | none => rw [e] at h; cases h
  | some j =>
    rw [e] at h
    exact r.get h
def aIx : DOp
  | .tup l, .int i, m, Q => ∃ d, atI l i = some d ∧ Q d m
  | .rol l, .int i, m, Q => ∃ d, atI l i = some d ∧ Q d m
  | .ref p, .int i, m, Q => ∃ l d, m p = some (.lst l) ∧ atI l i = some d ∧ Q d m
  | .str z, .int i, m, Q => z.length ≤ sizeLine ∧ ∃ c, atI z.cps.toList i = some c ∧ Q (.str ⟨#[c]⟩) m
  | _, _, _, _ => False
theorem ij_seq : IxJ X aIx := by
  refine ⟨_, ix_seq, ?_⟩
  intro H m x y xv yv Q Q' rm rx ry h k
  cases rx <;> cases ry <;> try exact h.elim
  · obtain ⟨h1, c, h2, q⟩ := h
    exact .inr (.inr ⟨_, _, c, rfl, rfl, h1, h2, k _ _ _ _ (Ext.refl H) rm (.str _) q⟩)
  · rename_i l a xs s1 r1 i
    obtain ⟨d, h1, q⟩ := h
    obtain ⟨v, h2, rv⟩ := r1.atI h1
    exact .inr (.inl ⟨a, xs, i, v, rfl, rfl, SqT.of s1, h2, k _ _ _ _ (Ext.refl H) rm rv q⟩)
  · obtain ⟨l, d, h0, h1, q⟩ := h
    obtain ⟨xs, e1, r1⟩ := rm _ _ h0
    obtain ⟨v, h2, rv⟩ := r1.atI h1
    exact .inl ⟨_, xs, _, v, rfl, rfl, SqL.of e1, h2, k _ _ _ _ (Ext.refl H) rm rv q⟩
  · rename_i l a xs s1 r1 i
    obtain ⟨d, h1, q⟩ := h
    obtain ⟨v, h2, rv⟩ := r1.atI h1
    exact .inl ⟨a, xs, i, v, rfl, rfl, s1.l, h2, k _ _ _ _ (Ext.refl H) rm rv q⟩
/-! slices -/
abbrev DO := Sd → MH → (Option Int → MH → Prop) → Prop
def lO (K : Frag) (f : DO) : TO := fun σ H Q' => ∃ ds m Q, RSt K H ds σ ∧ RM K m H ∧ f ds m Q ∧ ∀ o m' H', Ext H H' → RM K m' H' → Q o m' → Q' o H'
structure JO (X : Cx) (e : Option Expr) (f : DO) : Prop where
  po : PO X e (lO X.K f)
def dNo : DO := fun _ m Q => Q none m
def dPart (f : DE) : DO := fun ds m Q => f ds m fun x m1 => ∃ i, x = .int i ∧ Q (some i) m1
theorem jo_none : JO X none dNo := by
  refine ⟨⟨fun pins s σ H Q' I h => ?_⟩⟩
  obtain ⟨ds, m, Q, rs, rm, q, k⟩ := h
  exact po_none.run pins s σ H Q' I (k none m H (Ext.refl H) rm q)
theorem jo_some {e : Expr} {f : DE} (h : JE X e f) : JO X (some e) (dPart f) := by
  refine ⟨⟨fun pins s σ H Q' I h' => ?_⟩⟩
  obtain ⟨ds, m, Q, rs, rm, q, k⟩ := h'
  refine (po_some h.pe).run pins s σ H Q' I ⟨ds, m, _, rs, rm, q, fun x m1 xv H1 e1 rm1 rx q1 => ?_⟩
  obtain ⟨i, rfl, q1⟩ := q1
  cases rx
  exact ⟨i, rfl, k _ _ _ e1 rm1 q1⟩
def cutD {α : Type} (xs : List α) (lo hi : Option Int) : List α := (xs.drop (HT.sIx xs.length 0 lo)).take (HT.sIx xs.length xs.length hi - HT.sIx xs.length 0 lo)
theorem RDs.cut {K : Frag} {H : Hp} {l : List D} {xs : List V} (r : RDs K H l xs) (lo hi : Option Int) : RDs K H (cutD l lo hi) (cutV xs lo hi) := by
  unfold cutD cutV
  rw [← r.length]
  exact (r.drop _).take _
theorem cutD_whole {l : List D} {lo hi : Option Int} (h : HT.sIx l.length 0 lo = 0 ∧ HT.sIx l.length l.length hi = l.length) : cutD l lo hi = l := by
  unfold cutD
  rw [h.1, h.2]
  simp
abbrev DSl := D → Option Int → Option Int → MH → DK → Prop
def aSl : DSl
  | .tup l, lo, hi, m, Q => Q (.tup (cutD l lo hi)) m
  | .rol l, lo, hi, m, Q => aNew (.lst (cutD l lo hi)) m Q
  | .ref p, lo, hi, m, Q => ∃ l, m p = some (.lst l) ∧ aNew (.lst (cutD l lo hi)) m Q
  | _, _, _, _, _ => False
def dSl (f : DE) (g h : DO) : DE := fun ds m Q => f ds m fun x m1 => g ds m1 fun lo m2 => h ds m2 fun hi m3 => aSl x lo hi m3 Q
theorem je_sl {e : Expr} {lo hi : Option Expr} {f : DE} {g h : DO} {pos p2 : Pos} (he : JE X e f) (hl : JO X lo g) (hh : JO X hi h) : JE X (.Subscript e (.Slice lo hi none p2) pos) (dSl f g h) := by
  refine ⟨(pe_slice (SlR.or sl_tupA sl_list) he.pe hl.po hh.po).imp fun σ H Q' h => ?_⟩
  obtain ⟨ds, m, Q, rs, rm, q, k⟩ := h
  refine ⟨ds, m, _, rs, rm, q, fun x m1 xv H1 e1 rm1 rx q1 => ?_⟩
  refine ⟨ds, m1, _, rs.ext e1, rm1, q1, fun l m2 H2 e2 rm2 q2 => ?_⟩
  refine ⟨ds, m2, _, rs.ext (e1.trans e2), rm2, q2, fun u m3 H3 e3 rm3 q3 => ?_⟩
  have kk := k.ext ((e1.trans e2).trans e3)
  have rx3 := rx.ext (e2.trans e3)
  clear rx q q1 q2
  cases rx3 <;> try exact q3.elim
  · rename_i l2 a xs s1 r1
    have el := r1.length
    refine .inl ⟨a, xs, rfl, SqT.of s1, fun z => ?_, fun z p hp => ?_⟩
    · rw [← el] at z
      have q3' : Q (.tup (cutD l2 l u)) m3 := q3
      rw [cutD_whole z] at q3'
      exact kk _ _ _ _ (Ext.refl H3) rm3 (.tup s1 r1) q3'
    · exact kk _ _ _ _ (Ext.fresh hp) (rm3.more hp) (.tup upd_same ((r1.cut l u).ext (Ext.fresh hp))) q3
  · obtain ⟨l2, h1, q⟩ := q3
    obtain ⟨xs, ex, r1⟩ := rm3 _ _ h1
    refine .inr ⟨_, xs, rfl, SqL.of ex, fun p hp => ?_⟩
    exact kk _ _ _ _ (Ext.fresh hp) (rm3.upd (o := .lst _) (Ext.fresh hp) ⟨_, upd_same, (r1.cut l u).ext (Ext.fresh hp)⟩) (.ref p) (q p (rm3.none hp))
  · rename_i l2 a xs s1 r1
    refine .inr ⟨a, xs, rfl, s1.l, fun p hp => ?_⟩
    exact kk _ _ _ _ (Ext.fresh hp) (rm3.upd (o := .lst _) (Ext.fresh hp) ⟨_, upd_same, (r1.cut l u).ext (Ext.fresh hp)⟩) (.ref p) (q3 p (rm3.none hp))
end

/-! ### built-ins -/
abbrev DCl := List D → MH → DK → Prop
def CallJ (X : Cx) (f : Value) (r : DCl) : Prop := ∃ rv, CallR X f rv ∧ ∀ H m l vs Q Q', RM X.K m H → RDs X.K H l vs → r l m Q → KE X.K H Q Q' → rv vs H Q'
def dB1 (r : DCl) (t : DA) : DE := fun ds m Q => t ds m fun l m1 => r l m1 Q
section
variable {X : Cx} {x : Str} {id T : String} {e : Expr} {es : List Expr} {t : DA} {r : DCl} {p pos : Pos}
theorem je_blt (hc : CallJ X (.builtin id) r) (hm : X.mg x = none) (ha : JA X (e :: es) t) (hg : Gl X x := by rfl) (hv : bootBuiltins x = some (.builtin id) := by decide +kernel) (hn : x ≠ "__name__" := by decide) (hdb : (x == ("__debug__" : Str)) = false := by decide)
    (hs : starEach (e :: es) X.env = (false, eval e X.env) :: starEach es X.env := by rfl) (hpl : (backTo pos (starEach es X.env)).any (·.1) = false := by rfl) : JE X (.Call (.Name x p) (e :: es) [] pos) (dB1 r t) := by
  obtain ⟨rv, h1, h2⟩ := hc
  refine ⟨(pe_callB h1 hg hm hv ha.pa hn hdb hs hpl).imp fun σ H Q' h => ?_⟩
  obtain ⟨ds, m, Q, rs, rm, q, k⟩ := h
  exact ⟨ds, m, _, rs, rm, q, fun l m1 vs H1 e1 rm1 rv q1 => h2 H1 m1 l vs Q Q' rm1 rv q1 (k.ext e1)⟩
theorem je_bty (hc : CallJ X (.type T) r) (hm : X.mg x = none) (ha : JA X (e :: es) t) (hg : Gl X x := by rfl) (hv : bootBuiltins x = some (.type T) := by decide +kernel) (hn : x ≠ "__name__" := by decide) (hdb : (x == ("__debug__" : Str)) = false := by decide)
    (hs : starEach (e :: es) X.env = (false, eval e X.env) :: starEach es X.env := by rfl) (hpl : (backTo pos (starEach es X.env)).any (·.1) = false := by rfl) : JE X (.Call (.Name x p) (e :: es) [] pos) (dB1 r t) := by
  obtain ⟨rv, h1, h2⟩ := hc
  refine ⟨(pe_callTy h1 hg hm hv ha.pa hn hdb hs hpl).imp fun σ H Q' h => ?_⟩
  obtain ⟨ds, m, Q, rs, rm, q, k⟩ := h
  exact ⟨ds, m, _, rs, rm, q, fun l m1 vs H1 e1 rm1 rv q1 => h2 H1 m1 l vs Q Q' rm1 rv q1 (k.ext e1)⟩
end
section
variable {X : Cx}
def bLen : DCl
  | [.tup l], m, Q => Q (.int l.length) m
  | [.rol l], m, Q => Q (.int l.length) m
  | [.ref a], m, Q => ∃ l, m a = some (.lst l) ∧ Q (.int l.length) m
  | [.str z], m, Q => z.length ≤ sizeLine ∧ Q (.int z.length) m
  | _, _, _ => False
theorem cj_len : CallJ X (.builtin "len") bLen := by
  refine ⟨_, CallR.or call_len_seq call_len_str, ?_⟩
  intro H m l vs Q Q' rm rl h k
  cases rl with
  | nil => exact h.elim
  | cons rx rr =>
    cases rr with
    | cons _ _ => cases rx <;> exact h.elim
    | nil =>
      cases rx <;> try exact h.elim
      · exact .inr ⟨_, rfl, h.1, k _ _ _ _ (Ext.refl H) rm (.int _) h.2⟩
      · rename_i l a xs s1 r1
        refine .inl ⟨a, xs, rfl, .inr (SqT.of s1), ?_⟩
        rw [← r1.length]
        exact k _ _ _ _ (Ext.refl H) rm (.int _) h
      · obtain ⟨l, h1, q⟩ := h
        obtain ⟨xs, ex, r1⟩ := rm _ _ h1
        refine .inl ⟨_, xs, rfl, .inl (SqL.of ex), ?_⟩
        rw [← r1.length]
        exact k _ _ _ _ (Ext.refl H) rm (.int _) q
      · rename_i l a xs s1 r1
        refine .inl ⟨a, xs, rfl, .inl s1.l, ?_⟩
        rw [← r1.length]
        exact k _ _ _ _ (Ext.refl H) rm (.int _) h
def bAbs : DCl
  | [.int i], m, Q => Q (.int (if i < 0 then -i else i)) m
  | _, _, _ => False
theorem cj_abs : CallJ X (.builtin "abs") bAbs := by
  refine ⟨_, call_abs, ?_⟩
  intro H m l vs Q Q' rm rl h k
  cases rl with
  | nil => exact h.elim
  | cons rx rr =>
    cases rr with
    | cons _ _ => cases rx <;> exact h.elim
    | nil =>
      cases rx <;> try exact h.elim
      exact ⟨_, rfl, k _ _ _ _ (Ext.refl H) rm (.int _) h⟩
def bList : DCl
  | [.tup l], m, Q => aNew (.lst l) m Q
  | [.rol l], m, Q => aNew (.lst l) m Q
  | [.ref a], m, Q => ∃ l, m a = some (.lst l) ∧ aNew (.lst l) m Q
  | _, _, _ => False
theorem cj_list : CallJ X (.type "list") bList := by
  refine ⟨_, call_list_of, ?_⟩
  intro H m l vs Q Q' rm rl h k
  cases rl with
  | nil => exact h.elim
  | cons rx rr =>
    cases rr with
    | cons _ _ => cases rx <;> exact h.elim
    | nil =>
      cases rx <;> try exact h.elim
      · rename_i l a xs s1 r1
        exact ⟨a, xs, rfl, .inr (SqT.of s1), fun p hp => k _ _ _ _ (Ext.fresh hp) (rm.upd (o := .lst l) (Ext.fresh hp) ⟨_, upd_same, r1.ext (Ext.fresh hp)⟩) (.ref p) (h p (rm.none hp))⟩
      · obtain ⟨l, h1, q⟩ := h
        obtain ⟨xs, ex, r1⟩ := rm _ _ h1
        exact ⟨_, xs, rfl, .inl (SqL.of ex), fun p hp => k _ _ _ _ (Ext.fresh hp) (rm.upd (o := .lst l) (Ext.fresh hp) ⟨_, upd_same, r1.ext (Ext.fresh hp)⟩) (.ref p) (q p (rm.none hp))⟩
      · rename_i l a xs s1 r1
        exact ⟨a, xs, rfl, .inl s1.l, fun p hp => k _ _ _ _ (Ext.fresh hp) (rm.upd (o := .lst l) (Ext.fresh hp) ⟨_, upd_same, r1.ext (Ext.fresh hp)⟩) (.ref p) (h p (rm.none hp))⟩
def bTuple : DCl
  | [.tup l], m, Q => Q (.tup l) m
  | [.rol l], m, Q => Q (.tup l) m
  | [.ref a], m, Q => ∃ l, m a = some (.lst l) ∧ Q (.tup l) m
  | _, _, _ => False
theorem cj_tuple : CallJ X (.type "tuple") bTuple := by
  refine ⟨_, call_tuple_of, ?_⟩
  intro H m l vs Q Q' rm rl h k
  cases rl with
  | nil => exact h.elim
  | cons rx rr =>
    cases rr with
    | cons _ _ => cases rx <;> exact h.elim
    | nil =>
      cases rx <;> try exact h.elim
      · rename_i l a xs s1 r1
        exact ⟨a, xs, rfl, .inr ⟨SqT.of s1, k _ _ _ _ (Ext.refl H) rm (.tup s1 r1) h⟩⟩
      · obtain ⟨l, h1, q⟩ := h
        obtain ⟨xs, ex, r1⟩ := rm _ _ h1
        exact ⟨_, xs, rfl, .inl ⟨SqL.of ex, fun p hp => k _ _ _ _ (Ext.fresh hp) (rm.more hp) (.tup upd_same (r1.ext (Ext.fresh hp))) q⟩⟩
      · rename_i l a xs s1 r1
        exact ⟨a, xs, rfl, .inl ⟨s1.l, fun p hp => k _ _ _ _ (Ext.fresh hp) (rm.more hp) (.tup upd_same (r1.ext (Ext.fresh hp))) h⟩⟩
end
end DL
/-! DL: dicts, membership, stores, what is walked, methods of lists. -/
namespace DL
open PySem PySem.Spec PyProof.Rows L2

/-! ### keys of dicts -/
def kD : Key → D
  | .inl i => .int i
  | .inr x => .str x
def look {κ α : Type} [DecidableEq κ] (l : List (κ × α)) (k : κ) : Option α := (l.find? fun kv => decide (kv.1 = k)).map (·.2)
def stored {κ α : Type} [DecidableEq κ] (l : List (κ × α)) (k : κ) (v : α) : List (κ × α) :=
  if (l.any fun kv => decide (kv.1 = k)) = true then l.map (fun kv => if kv.1 = k then (kv.1, v) else kv) else l ++ [(k, v)]
section
variable {κ : Type} [DecidableEq κ] {K : Frag} {H : Hp}
theorem RKs.look : ∀ {l : List (κ × D)} {xs : List (κ × V)} (k : κ), RKs K H l xs → (DL.look l k = none ∧ valV xs k = none) ∨ ∃ d v, DL.look l k = some d ∧ valV xs k = some v ∧ RD K H d v
  | _, _, k, .nil => .inl ⟨rfl, rfl⟩
  | _, _, k, .cons (k := j) (d := d) (v := v) r t => by
    by_cases e : j = k
    · exact .inr ⟨d, v, by simp [DL.look, e], by simp [valV, e], r⟩
    · rcases RKs.look k t with ⟨h1, h2⟩ | ⟨d', v', h1, h2, h3⟩
      · exact .inl ⟨by simpa [DL.look, e] using h1, by simpa [valV, e] using h2⟩
      · exact .inr ⟨d', v', by simpa [DL.look, e] using h1, by simpa [valV, e] using h2, h3⟩
theorem RKs.any (k : κ) : ∀ {l : List (κ × D)} {xs : List (κ × V)}, RKs K H l xs → (l.any fun kv => decide (kv.1 = k)) = (xs.any fun kv => decide (kv.1 = k))
  | _, _, .nil => rfl
  | _, _, .cons r t => by rw [List.any_cons, List.any_cons, RKs.any k t]
theorem RKs.map_put {d : D} {v : V} (r : RD K H d v) (k : κ) : ∀ {l : List (κ × D)} {xs : List (κ × V)}, RKs K H l xs → RKs K H (l.map fun kv => if kv.1 = k then (kv.1, d) else kv) (xs.map fun kv => if kv.1 = k then (kv.1, v) else kv)
  | _, _, .nil => .nil
  | _, _, .cons (k := j) q t => by
    rw [List.map_cons, List.map_cons]
    by_cases e : j = k
    · simp only [e, if_true]
      exact .cons r (RKs.map_put r k t)
    · simp only [e, if_false]
      exact .cons q (RKs.map_put r k t)
theorem RKs.app : ∀ {l l' : List (κ × D)} {xs xs' : List (κ × V)}, RKs K H l xs → RKs K H l' xs' → RKs K H (l ++ l') (xs ++ xs')
  | _, _, _, _, .nil, s => s
  | _, _, _, _, .cons r t, s => .cons r (RKs.app t s)
theorem RKs.put {l : List (κ × D)} {xs : List (κ × V)} {d : D} {v : V} (h : RKs K H l xs) (k : κ) (r : RD K H d v) : RKs K H (stored l k d) (putK xs k v) := by
  unfold stored putK
  rw [h.any k]
  split
  · exact h.map_put r k
  · exact h.app (.cons r .nil)
end
/-- what a value is as a key -/
def keyOf : D → Option Key
  | .int i => some (.inl i)
  | .str x => some (.inr x)
  | _ => none
def keysOf : List D → Option (List Key)
  | [] => some []
  | d :: l => (keyOf d).bind fun k => (keysOf l).map fun r => k :: r
theorem keyOf_kV {K : Frag} {H : Hp} {d : D} {v : V} {k : Key} (r : RD K H d v) (e : keyOf d = some k) : v = kV k := by
  cases r <;> simp [keyOf] at e <;> subst e <;> rfl
theorem keysOf_kV {K : Frag} {H : Hp} : ∀ {l : List D} {xs : List V} {ks : List Key}, RDs K H l xs → keysOf l = some ks → xs = ks.map kV
  | _, _, _, .nil, e => by simp [keysOf] at e; subst e; rfl
  | _, _, ks, .cons (d := d) (l := l) r t, e => by
    unfold keysOf at e
    cases h1 : keyOf d with
    | none => rw [h1] at e; cases e
    | some k =>
      cases h2 : keysOf l with
      | none => rw [h1, h2] at e; cases e
      | some r' =>
        rw [h1, h2] at e
        have e' : k :: r' = ks := Option.some.inj e
        subst e'
        rw [keyOf_kV r h1, keysOf_kV t h2]
        rfl
/-- what the dict at a holds at a value -/
def dGet (m : MH) (a : Addr) (y : D) (o : Option D) : Prop :=
  (∃ kvs k, m a = some (.dct kvs) ∧ keyOf y = some k ∧ o = look kvs k) ∨ ∃ kvs l ks, m a = some (.dtp kvs) ∧ y = .tup l ∧ keysOf l = some ks ∧ o = look kvs ks
theorem dGet.v {K : Frag} {m : MH} {H : Hp} {a : Addr} {y : D} {o : Option D} {yv : V} (g : dGet m a y o) (rm : RM K m H) (ry : RD K H y yv) :
    (o = none ∧ DGet H a yv none) ∨ ∃ d v, o = some d ∧ DGet H a yv (some v) ∧ RD K H d v := by
  rcases g with ⟨kvs, k, h1, h2, rfl⟩ | ⟨kvs, l, ks, h1, rfl, h2, rfl⟩
  · obtain ⟨xs, e1, r1⟩ := rm _ _ h1
    have ey := keyOf_kV ry h2
    subst ey
    rcases r1.look k with ⟨q1, q2⟩ | ⟨d, v, q1, q2, q3⟩
    · exact .inl ⟨q1, by rw [← q2]; exact DGet.k e1⟩
    · exact .inr ⟨d, v, q1, by rw [← q2]; exact DGet.k e1, q3⟩
  · obtain ⟨xs, e1, r1⟩ := rm _ _ h1
    cases ry with
    | @tup _ b ys s r =>
      have ez := keysOf_kV r h2
      subst ez
      rcases r1.look ks with ⟨q1, q2⟩ | ⟨d, v, q1, q2, q3⟩
      · exact .inl ⟨q1, by rw [← q2]; exact DGet.t e1 s⟩
      · exact .inr ⟨d, v, q1, by rw [← q2]; exact DGet.t e1 s, q3⟩

/-! ### o[i] -/
section
variable {X : Cx}
theorem ix_dict (hu : X.A.units + 1 < cLine) : IxR X (fun x y H Q => ∃ a v, x = .ref a ∧ DGet H a y (some v) ∧ Q v H) := by
  intro value slice pins s σ H x y v u Q I rx ry h hs
  obtain ⟨a, z, rfl, g, q⟩ := h
  obtain rfl : v = Value.ref a := rx
  exact tail_any (ops := [.ref a, u]) (dict_typeIs I g) PySem.F.slot_dict_getitem.lookup (d_getItem hu I g ry fun w' s3 I3 rw' => ⟨z, H, I3, rw', q⟩) hs
def aIxA : DOp
  | .tup l, .int i, m, Q => ∃ d, atI l i = some d ∧ Q d m
  | .rol l, .int i, m, Q => ∃ d, atI l i = some d ∧ Q d m
  | .str z, .int i, m, Q => z.length ≤ sizeLine ∧ ∃ c, atI z.cps.toList i = some c ∧ Q (.str ⟨#[c]⟩) m
  | .ref p, y, m, Q => (∃ i l d, y = .int i ∧ m p = some (.lst l) ∧ atI l i = some d ∧ Q d m) ∨ ∃ d, dGet m p y (some d) ∧ Q d m
  | _, _, _, _ => False
theorem ij_any {k : Nat} (hr : Room k X.A) : IxJ X aIxA := by
  obtain ⟨rs, h1, h2⟩ := ij_seq (X := X)
  refine ⟨_, h1.or (ix_dict (hu_of hr)), ?_⟩
  intro H m x y xv yv Q Q' rm rx ry h k
  cases rx with
  | ref p =>
    rcases h with ⟨i, l, d, rfl, q1, q2, q3⟩ | ⟨d, g, q⟩
    · exact .inl (h2 H m (.ref p) _ _ _ Q Q' rm (.ref p) ry ⟨l, d, q1, q2, q3⟩ k)
    · rcases g.v rm ry with ⟨e, _⟩ | ⟨d', v, e, g', rd⟩
      · cases e
      · cases e
        exact .inr ⟨p, v, rfl, g', k _ _ _ _ (Ext.refl H) rm rd q⟩
  | non => exact h.elim
  | bl b => exact h.elim
  | int i => exact h.elim
  | str z => cases ry <;> first | exact h.elim | exact .inl (h2 H m (.str z) (.int _) _ _ Q Q' rm (.str z) (.int _) h k)
  | tup s1 r1 => cases ry <;> first | exact h.elim | exact .inl (h2 H m (.tup _) (.int _) _ _ Q Q' rm (.tup s1 r1) (.int _) h k)
  | rol s1 r1 => cases ry <;> first | exact h.elim | exact .inl (h2 H m (.rol _) (.int _) _ _ Q Q' rm (.rol s1 r1) (.int _) h k)
/-! ### x in o -/
theorem op_inDict (hu : X.A.units + 1 < cLine) : OpR X (compareOp .In) (fun y x H Q => ∃ a o, x = .ref a ∧ DGet H a y o ∧ Q (.bl o.isSome) H) := by
  intro pins s σ H y x u v Q I ry rx h
  obtain ⟨a, o, rfl, g, q⟩ := h
  obtain rfl : v = Value.ref a := rx
  exact d_in hu I g ry fun s3 I3 => ⟨.bl o.isSome, H, I3, rfl, q⟩
theorem op_notInDict (hu : X.A.units + 1 < cLine) : OpR X (compareOp .NotIn) (fun y x H Q => ∃ a o, x = .ref a ∧ DGet H a y o ∧ Q (.bl (!o.isSome)) H) := by
  intro pins s σ H y x u v Q I ry rx h
  obtain ⟨a, o, rfl, g, q⟩ := h
  obtain rfl : v = Value.ref a := rx
  exact d_notIn hu I g ry fun s3 I3 => ⟨.bl (!o.isSome), H, I3, rfl, q⟩
theorem op_inTup (hu : X.A.units + 65 < cLine) : OpR X (compareOp .In) (fun x y H Q => ∃ d ds, Dp X.K H x d ∧ Dp X.K H y (.tuple ds) ∧ SeqAt.shaped d = true ∧ SeqAt.shaped (.tuple ds) = true ∧ Q (.bl (ds.any fun z => PyData.eqv z d)) H) := by
  intro pins s σ H x y v u Q I rx ry h
  obtain ⟨d, ds, hd, he, sd, se, q⟩ := h
  obtain ⟨as, r1⟩ := Dp.reads I d x v hd rx
  obtain ⟨bs, r2⟩ := Dp.reads I (.tuple ds) y u he ry
  exact SeqAt.in_tuple_reads r2 r1 (SeqAt.canLay_of_shaped se) (SeqAt.canLay_of_shaped sd) (room_in_shaped sd hu) ⟨.bl _, H, I, rfl, q⟩
theorem op_notInTup (hu : X.A.units + 65 < cLine) : OpR X (compareOp .NotIn) (fun x y H Q => ∃ d ds, Dp X.K H x d ∧ Dp X.K H y (.tuple ds) ∧ SeqAt.shaped d = true ∧ SeqAt.shaped (.tuple ds) = true ∧ Q (.bl (!ds.any fun z => PyData.eqv z d)) H) := by
  intro pins s σ H x y v u Q I rx ry h
  obtain ⟨d, ds, hd, he, sd, se, q⟩ := h
  obtain ⟨as, r1⟩ := Dp.reads I d x v hd rx
  obtain ⟨bs, r2⟩ := Dp.reads I (.tuple ds) y u he ry
  exact SeqAt.notIn_tuple_reads r2 r1 (SeqAt.canLay_of_shaped se) (SeqAt.canLay_of_shaped sd) (room_in_shaped sd hu) ⟨.bl _, H, I, rfl, q⟩
theorem room66 {k : Nat} {A : Around} (hr : Room k A) : A.units + 65 < cLine := by have := hr.un; omega
/-- in: a dict; the items of a list, a tuple (data); a sign of a text -/
def memD (x y : D) (m : MH) (b : Bool) : Prop :=
  (∃ a o, y = .ref a ∧ dGet m a x o ∧ b = o.isSome) ∨ (∃ p ps, PD m x p ∧ PD m y (.list ps) ∧ SeqAt.shaped p = true ∧ SeqAt.shaped (.list ps) = true ∧ b = ps.any fun z => PyData.eqv z p) ∨
  (∃ p ps, PD m x p ∧ PD m y (.tuple ps) ∧ SeqAt.shaped p = true ∧ SeqAt.shaped (.tuple ps) = true ∧ b = ps.any fun z => PyData.eqv z p) ∨ ∃ (c : Nat) (z : Str), x = .str ⟨#[c]⟩ ∧ y = .str z ∧ b = decide (c ∈ z.cps.toList)
def aIn : DOp := fun x y m Q => ∃ b, memD x y m b ∧ Q (.bl b) m
def aNotIn : DOp := fun x y m Q => ∃ b, memD x y m b ∧ Q (.bl (!b)) m
theorem oj_in {k : Nat} (hr : Room k X.A) : OpJ X (compareOp .In) aIn := by
  refine opj (OpR.or (op_inDict (hu_of hr)) (OpR.or (op_inD (room66 hr)) (OpR.or (op_inTup (room66 hr)) op_in_sign))) ?_
  intro H m x y xv yv Q Q' rm rx ry h k
  obtain ⟨b, h, q⟩ := h
  have fin := k _ _ (.bl b) H (Ext.refl H) rm (.bl b) q
  rcases h with ⟨a, o, rfl, g, rfl⟩ | ⟨p, ps, h1, h2, h3, h4, rfl⟩ | ⟨p, ps, h1, h2, h3, h4, rfl⟩ | ⟨c, z, rfl, rfl, rfl⟩
  · cases ry
    rcases g.v rm rx with ⟨rfl, g'⟩ | ⟨d', v, rfl, g', rd⟩
    · exact .inl ⟨a, none, rfl, g', fin⟩
    · exact .inl ⟨a, some v, rfl, g', fin⟩
  · exact .inr (.inl ⟨p, ps, h1.dp rm rx, h2.dp rm ry, h3, h4, fin⟩)
  · exact .inr (.inr (.inl ⟨p, ps, h1.dp rm rx, h2.dp rm ry, h3, h4, fin⟩))
  · cases rx
    cases ry
    exact .inr (.inr (.inr ⟨c, z, rfl, rfl, fin⟩))
end
end DL
/-! DL: stores, displays of dicts, what is walked, methods of lists, the other built-ins. -/
namespace DL
open PySem PySem.Spec PyProof.Rows L2
section
variable {X : Cx}
/-! ### o[i] = v -/
theorem set_dict (hu : X.A.units + 1 < cLine) : PSet X (fun o i v H Q => ∃ a H', o = .ref a ∧ DPut H a i v H' ∧ Q H') := by
  intro pins s σ H o i v ov iv u Q I ro ri rv h
  obtain ⟨a, H', rfl, g, q⟩ := h
  obtain rfl : ov = Value.ref a := ro
  exact d_setItem hu I g ri rv fun s4 I4 => ⟨H', I4, q⟩
theorem PSet.or {r r' : TSet} (h : PSet X r) (h' : PSet X r') : PSet X (fun o i v H Q => r o i v H Q ∨ r' o i v H Q) := by
  intro pins s σ H o i v ov iv u Q I ro ri rv q
  rcases q with q | q
  · exact h pins s σ H o i v ov iv u Q I ro ri rv q
  · exact h' pins s σ H o i v ov iv u Q I ro ri rv q
def aSet : DSet := fun o i v m Q => ∃ p, o = .ref p ∧ ((∃ l k j, m p = some (.lst l) ∧ i = .int k ∧ ixN l.length k = some j ∧ Q (mup m p (.lst (l.set j v)))) ∨
  (∃ kvs k, m p = some (.dct kvs) ∧ keyOf i = some k ∧ kvs.length < sizeLine ∧ Q (mup m p (.dct (stored kvs k v)))) ∨
  ∃ kvs l ks, m p = some (.dtp kvs) ∧ i = .tup l ∧ keysOf l = some ks ∧ kvs.length < sizeLine ∧ Q (mup m p (.dtp (stored kvs ks v))))
theorem sj_set {k : Nat} (hr : Room k X.A) : SetJ X aSet := by
  refine ⟨_, PSet.or set_list (set_dict (hu_of hr)), ?_⟩
  intro H m o i v ov iv vv Q Q' rm ro ri rv h k
  obtain ⟨p, rfl, h⟩ := h
  cases ro
  rcases h with ⟨l, n, j, h1, rfl, h2, q⟩ | ⟨kvs, key, h1, h2, h3, q⟩ | ⟨kvs, l, ks, h1, rfl, h2, h3, q⟩
  · obtain ⟨xs, e, r⟩ := rm _ _ h1
    cases ri
    exact .inl ⟨p, xs, n, j, rfl, rfl, e, by rw [← r.length]; exact h2, k _ _ (Ext.lst e) (rm.upd (o := .lst _) (Ext.lst e) ⟨_, upd_same, (RDs.set rv j r).ext (Ext.lst e)⟩) q⟩
  · obtain ⟨xs, e, r⟩ := rm _ _ h1
    have ei := keyOf_kV ri h2
    subst ei
    refine .inr ⟨p, _, rfl, DPut.k e (by rw [← r.length]; exact h3), k _ _ (Ext.dK e) (rm.upd (o := .dct _) (Ext.dK e) ⟨_, upd_same, (r.put key rv).ext (Ext.dK e)⟩) q⟩
  · obtain ⟨xs, e, r⟩ := rm _ _ h1
    cases ri with
    | @tup _ b ys s rl =>
      have ez := keysOf_kV rl h2
      subst ez
      refine .inr ⟨p, _, rfl, DPut.t e s (by rw [← r.length]; exact h3), k _ _ (Ext.dT e) (rm.upd (o := .dtp _) (Ext.dT e) ⟨_, upd_same, (r.put ks rv).ext (Ext.dT e)⟩) q⟩

/-! ### dicts made -/
def dNewK : DE := fun _ m Q => aNew (.dct []) m Q
def dNewT : DE := fun _ m Q => aNew (.dtp []) m Q
theorem je_newK {pos : Pos} : JE X (.Dict [] [] pos) dNewK := by
  refine ⟨pe_dnewK.imp fun σ H Q' h => ?_⟩
  obtain ⟨ds, m, Q, rs, rm, q, k⟩ := h
  exact fun p hp => k _ _ _ _ (Ext.fresh hp) (rm.upd (o := .dct []) (Ext.fresh hp) ⟨[], upd_same, .nil⟩) (.ref p) (q p (rm.none hp))
theorem je_newT {pos : Pos} : JE X (.Dict [] [] pos) dNewT := by
  refine ⟨pe_dnewT.imp fun σ H Q' h => ?_⟩
  obtain ⟨ds, m, Q, rs, rm, q, k⟩ := h
  exact fun p hp => k _ _ _ _ (Ext.fresh hp) (rm.upd (o := .dtp []) (Ext.fresh hp) ⟨[], upd_same, .nil⟩) (.ref p) (q p (rm.none hp))
/-- {k: v, ..}: the keys written texts -/
def dPairs : List (Str × DE) → Sd → MH → (List (Key × D) → MH → Prop) → Prop
  | [], _, m, Q => Q [] m
  | (k, f) :: r, ds, m, Q => f ds m fun d m1 => dPairs r ds m1 fun l m2 => Q ((.inr k, d) :: l) m2
structure JPs (X : Cx) (pos : Pos) (keys : List (Option Expr)) (values : List Expr) (l : List (Str × DE)) : Prop where
  pps : PPs X pos keys values (l.map fun kf => (tC (.str kf.1), lE X.K kf.2))
theorem jps_nil {pos : Pos} : JPs X pos [] [] [] := ⟨pps_nil⟩
theorem jps_cons {pos p : Pos} {j} {k : Str} {v : Expr} {ks : List (Option Expr)} {vs : List Expr} {f : DE} {l : List (Str × DE)} (hv : JE X v f) (hr : JPs X pos ks vs l) : JPs X pos (some (.Constant (.str k) j p) :: ks) (v :: vs) ((k, f) :: l) := ⟨pps_cons pe_str hv.pe hr.pps⟩
def dDisp (l : List (Str × DE)) : DE := fun ds m Q => ∀ p, m p = none → dPairs l ds (mup m p (.dct [])) fun kvs m1 => m1 p = some (.dct []) ∧ kvs.length ≤ 15 ∧ (kvs.map (·.1)).Nodup ∧ Q (.ref p) (mup m1 p (.dct kvs))
theorem pairs_of {K : Frag} {σ : L2.St} {ds : Sd} : ∀ {l : List (Str × DE)} {m : MH} {H H0 : Hp} {Q : List (Key × D) → MH → Prop} {Q' : List (V × V) → Hp → Prop}, Ext H0 H → RSt K H ds σ → RM K m H → dPairs l ds m Q →
    (∀ kvs m' (xs : List (Key × V)) H', Ext H0 H' → RM K m' H' → RKs K H' kvs xs → Q kvs m' → Q' (xs.map fun kv => (kV kv.1, kv.2)) H') → tPairs (l.map fun kf => (tC (.str kf.1), lE K kf.2)) σ H Q'
  | [], m, H, H0, Q, Q', e, rs, rm, q, k => k [] m [] H e rm .nil q
  | (x, f) :: l, m, H, H0, Q, Q', e, rs, rm, q, k => by
    refine ⟨ds, m, _, rs, rm, q, fun d m1 v H1 e1 rm1 rv q1 => ?_⟩
    refine pairs_of (H0 := H1) (Ext.refl H1) (rs.ext e1) rm1 q1 fun kvs m2 xs H2 e2 rm2 r2 q2 => ?_
    exact k ((.inr x, d) :: kvs) m2 ((.inr x, v) :: xs) H2 ((e.trans e1).trans e2) rm2 (.cons (rv.ext e2) r2) q2
theorem merge_nodup : ∀ (more acc : List (Key × V)), ((acc ++ more).map (·.1)).Nodup → mergeK acc more = acc ++ more
  | [], acc, _ => by simp [mergeK]
  | p :: r, acc, h => by
    have hn : ¬ p.1 ∈ acc.map (·.1) := fun hm => by
      rw [List.map_append, List.nodup_append] at h
      exact h.2.2 _ hm _ (by simp) rfl
    have e : putK acc p.1 p.2 = acc ++ [p] := by
      unfold putK
      rw [if_neg]
      intro z
      rw [List.any_eq_true] at z
      obtain ⟨q, hq, e⟩ := z
      exact hn (List.mem_map.mpr ⟨q, hq, of_decide_eq_true e⟩)
    have h' : ((acc ++ [p] ++ r).map (·.1)).Nodup := by simpa using h
    show mergeK (putK acc p.1 p.2) r = acc ++ p :: r
    rw [e, merge_nodup r _ h']
    simp
theorem RKs.keys {κ : Type} {K : Frag} {H : Hp} : ∀ {l : List (κ × D)} {xs : List (κ × V)}, RKs K H l xs → l.map (·.1) = xs.map (·.1)
  | _, _, .nil => rfl
  | _, _, .cons r t => by rw [List.map_cons, List.map_cons, RKs.keys t]
theorem je_disp {pos : Pos} {keys : List (Option Expr)} {values : List Expr} {l : List (Str × DE)} (h : JPs X pos keys values l) (hall : keys.all (·.isSome) = true := by rfl) (hl : keys.length = values.length := by rfl) (h0 : keys ≠ [] := by exact fun z => nomatch z)
    (h15 : keys.length ≤ 15 := by decide) : JE X (.Dict keys values pos) (dDisp l) := by
  refine ⟨(pe_disp h.pps hall hl h0 h15).imp fun σ H Q' h => ?_⟩
  obtain ⟨ds, m, Q, rs, rm, q, k⟩ := h
  intro p hp
  have ep : Ext H (upd H p (.dK [])) := Ext.fresh hp
  refine pairs_of (H0 := H) ep (rs.ext ep) (rm.upd (o := .dct []) ep ⟨[], upd_same, .nil⟩) (q p (rm.none hp)) fun kvs m1 xs H1 e1 rm1 r1 q1 => ?_
  obtain ⟨h1, h2, h3, q1⟩ := q1
  obtain ⟨ys, hy, ry⟩ := rm1 p _ h1
  cases ry
  refine ⟨hy, xs, rfl, by rw [← r1.length]; exact h2, ?_⟩
  have em : mergeK [] xs = xs := merge_nodup xs [] (by rw [List.nil_append, ← r1.keys]; exact h3)
  rw [em]
  exact k _ _ _ _ (e1.trans (Ext.dK hy)) (rm1.upd (o := .dct kvs) (Ext.dK hy) ⟨xs, upd_same, r1.ext (Ext.dK hy)⟩) (.ref p) q1
end

/-! ### what is walked -/
section
variable {X : Cx} {tg e : Expr}
theorem pi_any {te : TE} (he : PE X e te) : PI X tg e (fun σ H R => te σ H fun x H1 => (∃ a, x = .ref a ∧ (∃ xs, SqL X.K H1 a xs) ∧ R (Itl X.K a) H1) ∨ (∃ a, x = .ref a ∧ (∃ xs, SqT X.K H1 a xs) ∧ R (Itt X.K a) H1) ∨ ∃ z, x = .str z ∧ R (Its z) H1) := by
  refine ⟨fun pins s σ H R I h => thn (he.run pins s σ H _ I h) fun v s1 ⟨x, H1, I1, r1, q1⟩ => ?_⟩
  have hc : PE X e (fun σ' H' Q => σ' = σ → H' = H1 → Q x H1) → True := fun _ => trivial
  rcases q1 with ⟨a, rfl, ⟨xs, hq⟩, q⟩ | ⟨a, rfl, ⟨xs, hq⟩, q⟩ | ⟨z, rfl, q⟩
  · obtain rfl : v = Value.ref a := r1
    obtain ⟨its, rv, p, hz⟩ := I1.list hq
    exact wpAny_pyIter_list p.isList (pi_one (tk := s1.toks) I1 _ (turn_list a _) ⟨_, Heap.get?_push_size _ rfl, rfl, rfl⟩ q)
  · obtain rfl : v = Value.ref a := r1
    obtain ⟨its, rv, p, hz⟩ := I1.tuple hq
    exact wpAny_pyIter_tuple (show s1.heap.IsTuple a its.toArray from p) (pi_one (tk := s1.toks) I1 _ (turn_tuple a _) ⟨_, Heap.get?_push_size _ rfl, rfl, rfl⟩ q)
  · obtain ⟨t, rfl⟩ := r1
    cases ha : z.cps.all (· < 128)
    · exact wpAny_pyIter_wide ha (pi_one (tk := s1.toks) I1 _ (turn_str _ z t "str_iterator" (.inr rfl)) ⟨_, Heap.get?_push_size _ rfl, rfl, rfl⟩ q)
    · exact wpAny_pyIter_ascii ha (pi_one (tk := s1.toks) I1 _ (turn_str _ z t "str_ascii_iterator" (.inl rfl)) ⟨_, Heap.get?_push_size _ rfl, rfl, rfl⟩ q)
def signs (z : Str) : List D := z.cps.toList.map fun c => .str ⟨#[c]⟩
/-- for x in e: a tuple, a list (that stays), a text -/
def iAny (t : DE) : DI := fun ds m Q => t ds m fun d m1 => match d with
  | .tup l => Q (fun _ => True) l m1
  | .rol l => Q (fun _ => True) l m1
  | .str z => Q (fun _ => True) (signs z) m1
  | .ref a => ∃ l, m1 a = some (.lst l) ∧ Q (fun m => m a = some (.lst l)) l m1
  | _ => False
theorem rit_list {K : Frag} {a : Addr} {H0 : Hp} {chk : MH → Prop} {l : List D} (h : ∀ m H, Ext H0 H → RM K m H → chk m → ∃ xs, SqL K H a xs ∧ RDs K H l xs) : RIt K (Itl K a) H0 chk l := by
  intro m H e rm c
  obtain ⟨xs, hs, r⟩ := h m H e rm c
  refine ⟨fun i hi => ⟨?_, fun x H' y => ?_⟩, ⟨xs, hs, by rw [r.length]; exact Nat.le_refl _⟩⟩
  · have hi' : i < xs.length := by rw [← r.length]; exact hi
    exact ⟨xs, xs[i], hs, List.getElem?_eq_getElem hi'⟩
  · obtain ⟨rfl, y⟩ := y
    obtain ⟨v, hv, rd⟩ := r.get (List.getElem?_eq_getElem hi)
    rw [y xs hs] at hv
    cases hv
    exact ⟨Ext.refl _, rm, l[i], List.getElem?_eq_getElem hi, rd⟩
theorem rit_tup {K : Frag} {a : Addr} {H0 : Hp} {xs : List V} {l : List D} (h : H0 a = some (.tup xs)) (r : RDs K H0 l xs) : RIt K (Itt K a) H0 (fun _ => True) l := by
  intro m H e rm _
  have hs : SqT K H a xs := SqT.of (e.tup _ _ h)
  have r := r.ext e
  refine ⟨fun i hi => ⟨?_, fun x H' y => ?_⟩, ⟨xs, hs, by rw [r.length]; exact Nat.le_refl _⟩⟩
  · have hi' : i < xs.length := by rw [← r.length]; exact hi
    exact ⟨xs, xs[i], hs, List.getElem?_eq_getElem hi'⟩
  · obtain ⟨rfl, y⟩ := y
    obtain ⟨v, hv, rd⟩ := r.get (List.getElem?_eq_getElem hi)
    rw [y xs hs] at hv
    cases hv
    exact ⟨Ext.refl _, rm, l[i], List.getElem?_eq_getElem hi, rd⟩
theorem rit_str {K : Frag} {z : Str} {H0 : Hp} : RIt K (Its z) H0 (fun _ => True) (signs z) := by
  intro m H e rm _
  have hl : (signs z).length = z.cps.size := by simp [signs]
  refine ⟨fun i hi => ⟨by rw [hl] at hi; exact hi, fun x H' y => ?_⟩, by rw [hl]; exact Nat.le_refl _⟩
  obtain ⟨rfl, c, hc, rfl⟩ := y
  refine ⟨Ext.refl _, rm, .str ⟨#[c]⟩, ?_, .str _⟩
  simp [signs, hc]
theorem ji_any {t : DE} (he : JE X e t) : JI X tg e (iAny t) := by
  refine ⟨(pi_any he.pe).imp fun σ H R' h => ?_⟩
  obtain ⟨ds, m, Q, rs, rm, q, k⟩ := h
  refine ⟨ds, m, _, rs, rm, q, fun d m1 v H1 e1 rm1 rv q1 => ?_⟩
  cases rv with
  | tup s r => exact .inr (.inl ⟨_, rfl, ⟨_, SqT.of s⟩, k _ _ _ _ _ e1 rm1 (rit_tup s r) q1⟩)
  | rol s r => exact .inl ⟨_, rfl, ⟨_, s.l⟩, k _ _ _ _ _ e1 rm1 (rit_list fun m H e _ _ => ⟨_, (s.ext e).l, r.ext e⟩) q1⟩
  | str z => exact .inr (.inr ⟨z, rfl, k _ _ _ _ _ e1 rm1 rit_str q1⟩)
  | ref a =>
    obtain ⟨l, h1, q1⟩ := q1
    obtain ⟨xs, ex, _⟩ := rm1 _ _ h1
    refine .inl ⟨a, rfl, ⟨xs, SqL.of ex⟩, k _ _ _ _ _ e1 rm1 (rit_list fun m H e rm2 c => ?_) q1⟩
    obtain ⟨ys, ey, ry⟩ := rm2 _ _ c
    exact ⟨ys, SqL.of ey, ry⟩
  | non => exact q1.elim
  | bl b => exact q1.elim
  | int i => exact q1.elim
def rangeD (lo : Int) (n : Nat) : List D := (List.range n).map fun i => .int (lo + (i : Nat))
theorem rit_rng {K : Frag} {lo : Int} {n : Nat} {H0 : Hp} : RIt K (Itr lo n) H0 (fun _ => True) (rangeD lo n) := by
  intro m H e rm _
  have hl : (rangeD lo n).length = n := by simp [rangeD]
  refine ⟨fun i hi => ⟨by rw [hl] at hi; exact hi, fun x H' y => ?_⟩, by rw [hl]; exact Nat.le_refl _⟩
  obtain ⟨rfl, rfl⟩ := y
  rw [hl] at hi
  refine ⟨Ext.refl _, rm, .int (lo + (i : Nat)), ?_, .int _⟩
  simp [rangeD, hi]
def iR1 (t : DA) : DI := fun ds m Q => t ds m fun l m1 => ∃ j : Int, l = [.int j] ∧ -(2 ^ 62) ≤ j ∧ j < 2 ^ 62 ∧ Q (fun _ => True) (rangeD 0 j.toNat) m1
def iR2 (t : DA) : DI := fun ds m Q => t ds m fun l m1 => ∃ i j : Int, l = [.int i, .int j] ∧ (-(2 ^ 62) ≤ i ∧ i < 2 ^ 62 ∧ -(2 ^ 62) ≤ j ∧ j < 2 ^ 62) ∧ Q (fun _ => True) (rangeD i (j - i).toNat) m1
theorem ji_r1 {a : Expr} {t : DA} {p pos : Pos} (hm : X.mg "range" = none) (ha : JA X [a] t) (hg : Gl X "range" := by rfl) (hs : starEach [a] X.env = [(false, eval a X.env)] := by rfl) : JI X tg (.Call (.Name "range" p) [a] [] pos) (iR1 t) := by
  refine ⟨(pi_range1 hg hm ha.pa hs).imp fun σ H R' h => ?_⟩
  obtain ⟨ds, m, Q, rs, rm, q, k⟩ := h
  refine ⟨ds, m, _, rs, rm, q, fun l m1 vs H1 e1 rm1 rv q1 => ?_⟩
  obtain ⟨j, rfl, h1, h2, q1⟩ := q1
  cases rv with
  | cons r rr =>
    cases rr
    cases r
    exact ⟨j, rfl, h1, h2, k _ _ _ _ _ e1 rm1 rit_rng q1⟩
theorem ji_r2 {a b : Expr} {t : DA} {p pos : Pos} (hm : X.mg "range" = none) (ha : JA X [a, b] t) (hg : Gl X "range" := by rfl) (hs : starEach [a, b] X.env = [(false, eval a X.env), (false, eval b X.env)] := by rfl) (hs2 : starEach [b] X.env = [(false, eval b X.env)] := by rfl) :
    JI X tg (.Call (.Name "range" p) [a, b] [] pos) (iR2 t) := by
  refine ⟨(pi_range2 hg hm ha.pa hs hs2).imp fun σ H R' h => ?_⟩
  obtain ⟨ds, m, Q, rs, rm, q, k⟩ := h
  refine ⟨ds, m, _, rs, rm, q, fun l m1 vs H1 e1 rm1 rv q1 => ?_⟩
  obtain ⟨i, j, rfl, h1, q1⟩ := q1
  cases rv with
  | cons r rr =>
    cases rr with
    | cons r2 rr =>
      cases rr
      cases r
      cases r2
      exact ⟨i, j, rfl, h1, k _ _ _ _ _ e1 rm1 rit_rng q1⟩
end

/-! ### methods of lists -/
abbrev DMt := D → List D → MH → DK → Prop
section
variable {X : Cx} {o e : Expr} {es : List Expr} {f : DE} {t : DA} {apos cpos : Pos} {id : String} {name : Str}
/-- a method of a list, by values -/
def MtJ (X : Cx) (id : String) (r : DMt) : Prop := ∃ rv, MtR X id rv ∧ ∀ H m x l xv vs Q Q', RM X.K m H → RD X.K H x xv → RDs X.K H l vs → r x l m Q → KE X.K H Q Q' → rv xv vs H Q'
def isL (m : MH) (x : D) : Prop := (∃ a l, x = .ref a ∧ m a = some (.lst l)) ∨ ∃ l, x = .rol l
theorem isL.ty {K : Frag} {m : MH} {H : Hp} {x : D} {xv : V} (h : isL m x) (rm : RM K m H) (r : RD K H x xv) : tyV K "list" xv H := by
  rcases h with ⟨a, l, rfl, h⟩ | ⟨l, rfl⟩
  · obtain ⟨xs, e, _⟩ := rm _ _ h
    cases r
    exact .inl ⟨rfl, xs, SqL.of e⟩
  · cases r with
    | rol s _ => exact .inl ⟨rfl, _, s.l⟩
def dM0 (r : DMt) (f : DE) : DE := fun ds m Q => f ds m fun x m1 => isL m1 x ∧ r x [] m1 Q
def dM (r : DMt) (f : DE) (t : DA) : DE := fun ds m Q => f ds m fun x m1 => isL m1 x ∧ t ds m1 fun l m2 => r x l m2 Q
theorem je_lm0 {r : DMt} (slot : Slot "list" name id) (hty : typeOf (.builtin id) = Pure.pure (.type "method_descriptor")) (hm : MtJ X id r) (ho : JE X o f)
    (hb : attributeBase o name X.env (eval o X.env) = eval o X.env := by rfl) (hl : (apos.endLine == cpos.line) = true := by rfl) : JE X (.Call (.Attribute o name apos) [] [] cpos) (dM0 r f) := by
  obtain ⟨rv, h1, h2⟩ := hm
  refine ⟨(pe_bm0 PySem.F.plainAttrs_list slot hty h1 ho.pe hb hl).imp fun σ H Q' h => ?_⟩
  obtain ⟨ds, m, Q, rs, rm, q, k⟩ := h
  refine ⟨ds, m, _, rs, rm, q, fun x m1 xv H1 e1 rm1 rx q1 => ⟨q1.1.ty rm1 rx, ?_⟩⟩
  exact h2 H1 m1 x [] xv [] Q Q' rm1 rx .nil q1.2 (k.ext e1)
theorem je_lm {r : DMt} (slot : Slot "list" name id) (hty : typeOf (.builtin id) = Pure.pure (.type "method_descriptor")) (hm : MtJ X id r) (ho : JE X o f) (ha : JA X (e :: es) t)
    (hb : attributeBase o name X.env (eval o X.env) = eval o X.env := by rfl)
    (hf : ((backTo cpos (starEach (e :: es) X.env)).all (fun x => !x.1) && (backToKw cpos (keywordEach [] X.env)).all (fun x => x.1.isSome) && decide ((e :: es).length + ([] : List Keyword).length + (if ([] : List Keyword).isEmpty then 0 else 1) < 30)) = true := by rfl)
    (hl : (apos.endLine == cpos.line) = true := by rfl) (hs : starEach (e :: es) X.env = (false, eval e X.env) :: starEach es X.env := by rfl) (hp : (backTo cpos (starEach es X.env)).any (·.1) = false := by rfl) :
    JE X (.Call (.Attribute o name apos) (e :: es) [] cpos) (dM r f t) := by
  obtain ⟨rv, h1, h2⟩ := hm
  refine ⟨(pe_bm PySem.F.plainAttrs_list slot hty h1 ho.pe ha.pa hb hf hl hs hp).imp fun σ H Q' h => ?_⟩
  obtain ⟨ds, m, Q, rs, rm, q, k⟩ := h
  refine ⟨ds, m, _, rs, rm, q, fun x m1 xv H1 e1 rm1 rx q1 => ⟨q1.1.ty rm1 rx, ?_⟩⟩
  refine ⟨ds, m1, _, rs.ext e1, rm1, q1.2, fun l m2 vs H2 e2 rm2 rv q2 => ?_⟩
  exact h2 H2 m2 x l xv vs Q Q' rm2 (rx.ext e2) rv q2 (k.ext (e1.trans e2))
def mAppend : DMt := fun x l m Q => ∃ a xs d, x = .ref a ∧ l = [d] ∧ m a = some (.lst xs) ∧ xs.length < sizeLine ∧ Q .non (mup m a (.lst (xs ++ [d])))
theorem mj_append : MtJ X "list.append" mAppend := by
  refine ⟨_, mt_append, ?_⟩
  intro H m x l xv vs Q Q' rm rx rl h k
  obtain ⟨a, xs, d, rfl, rfl, h1, h2, q⟩ := h
  obtain ⟨ys, e, r⟩ := rm _ _ h1
  cases rx
  cases rl with
  | cons rd rr =>
    cases rr
    exact ⟨a, ys, _, rfl, rfl, e, by rw [← r.length]; exact h2, k _ _ _ _ (Ext.lst e) (rm.upd (o := .lst _) (Ext.lst e) ⟨_, upd_same, (r.app (.cons rd .nil)).ext (Ext.lst e)⟩) .non q⟩
theorem je_append (ho : JE X o f) (ha : JA X (e :: es) t) (hb : attributeBase o "append" X.env (eval o X.env) = eval o X.env := by rfl)
    (hf : ((backTo cpos (starEach (e :: es) X.env)).all (fun x => !x.1) && (backToKw cpos (keywordEach [] X.env)).all (fun x => x.1.isSome) && decide ((e :: es).length + ([] : List Keyword).length + (if ([] : List Keyword).isEmpty then 0 else 1) < 30)) = true := by rfl)
    (hl : (apos.endLine == cpos.line) = true := by rfl) (hs : starEach (e :: es) X.env = (false, eval e X.env) :: starEach es X.env := by rfl) (hp : (backTo cpos (starEach es X.env)).any (·.1) = false := by rfl) :
    JE X (.Call (.Attribute o "append" apos) (e :: es) [] cpos) (dM mAppend f t) := je_lm PySem.F.slot_list_append PySem.F.type_list_append mj_append ho ha hb hf hl hs hp
def mPop : DMt := fun x l m Q => ∃ a xs d, x = .ref a ∧ l = [] ∧ m a = some (.lst xs) ∧ xs[xs.length - 1]? = some d ∧ Q d (mup m a (.lst xs.dropLast))
theorem mj_pop : MtJ X "list.pop" mPop := by
  refine ⟨_, mt_pop, ?_⟩
  intro H m x l xv vs Q Q' rm rx rl h k
  obtain ⟨a, xs, d, rfl, rfl, h1, h2, q⟩ := h
  obtain ⟨ys, e, r⟩ := rm _ _ h1
  cases rx
  cases rl
  obtain ⟨v, hv, rd⟩ := r.get h2
  exact ⟨a, ys, v, rfl, rfl, e, by rw [← r.length]; exact hv, k _ _ _ _ (Ext.lst e) (rm.upd (o := .lst _) (Ext.lst e) ⟨_, upd_same, r.dropLast.ext (Ext.lst e)⟩) (rd.ext (Ext.lst e)) q⟩
theorem je_pop0 (ho : JE X o f) (hb : attributeBase o "pop" X.env (eval o X.env) = eval o X.env := by rfl) (hl : (apos.endLine == cpos.line) = true := by rfl) : JE X (.Call (.Attribute o "pop" apos) [] [] cpos) (dM0 mPop f) := je_lm0 PySem.F.slot_list_pop PySem.F.type_list_pop mj_pop ho hb hl
def mPopAt : DMt := fun x l m Q => ∃ a xs i j d, x = .ref a ∧ l = [.int i] ∧ m a = some (.lst xs) ∧ -(2 ^ 63) ≤ i ∧ i < 2 ^ 63 ∧ seqIndex? i xs.length = some j ∧ xs[j]? = some d ∧ Q d (mup m a (.lst (xs.eraseIdx j)))
theorem mj_popAt : MtJ X "list.pop" mPopAt := by
  refine ⟨_, mt_popAt, ?_⟩
  intro H m x l xv vs Q Q' rm rx rl h k
  obtain ⟨a, xs, i, j, d, rfl, rfl, h1, h2, h3, h4, h5, q⟩ := h
  obtain ⟨ys, e, r⟩ := rm _ _ h1
  cases rx
  cases rl with
  | cons ri rr =>
    cases rr
    cases ri
    obtain ⟨v, hv, rd⟩ := r.get h5
    exact ⟨a, ys, i, j, v, rfl, rfl, e, h2, h3, by rw [← r.length]; exact h4, hv, k _ _ _ _ (Ext.lst e) (rm.upd (o := .lst _) (Ext.lst e) ⟨_, upd_same, (r.eraseIdx j).ext (Ext.lst e)⟩) (rd.ext (Ext.lst e)) q⟩
theorem je_pop1 (ho : JE X o f) (ha : JA X (e :: es) t) (hb : attributeBase o "pop" X.env (eval o X.env) = eval o X.env := by rfl)
    (hf : ((backTo cpos (starEach (e :: es) X.env)).all (fun x => !x.1) && (backToKw cpos (keywordEach [] X.env)).all (fun x => x.1.isSome) && decide ((e :: es).length + ([] : List Keyword).length + (if ([] : List Keyword).isEmpty then 0 else 1) < 30)) = true := by rfl)
    (hl : (apos.endLine == cpos.line) = true := by rfl) (hs : starEach (e :: es) X.env = (false, eval e X.env) :: starEach es X.env := by rfl) (hp : (backTo cpos (starEach es X.env)).any (·.1) = false := by rfl) :
    JE X (.Call (.Attribute o "pop" apos) (e :: es) [] cpos) (dM mPopAt f t) := je_lm PySem.F.slot_list_pop PySem.F.type_list_pop mj_popAt ho ha hb hf hl hs hp
end
end DL
/-! DL: the rest of the expressions: signs, chains, constants, sums, repr, isinstance; the law's own call. -/
namespace DL
open PySem PySem.Spec PyProof.Rows L2
section
variable {X : Cx} {a b c : Expr} {f g h : DE} {pos : Pos}
theorem oj_notin {k : Nat} (hr : Room k X.A) : OpJ X (compareOp .NotIn) aNotIn := by
  refine opj (OpR.or (op_notInDict (hu_of hr)) (OpR.or (op_notInD (room66 hr)) (OpR.or (op_notInTup (room66 hr)) op_notIn_sign))) ?_
  intro H m x y xv yv Q Q' rm rx ry h k
  obtain ⟨b, h, q⟩ := h
  have fin := k _ _ (.bl (!b)) H (Ext.refl H) rm (.bl (!b)) q
  rcases h with ⟨a, o, rfl, g, rfl⟩ | ⟨p, ps, h1, h2, h3, h4, rfl⟩ | ⟨p, ps, h1, h2, h3, h4, rfl⟩ | ⟨c, z, rfl, rfl, rfl⟩
  · cases ry
    rcases g.v rm rx with ⟨rfl, g'⟩ | ⟨d', v, rfl, g', rd⟩
    · exact .inl ⟨a, none, rfl, g', fin⟩
    · exact .inl ⟨a, some v, rfl, g', fin⟩
  · exact .inr (.inl ⟨p, ps, h1.dp rm rx, h2.dp rm ry, h3, h4, fin⟩)
  · exact .inr (.inr (.inl ⟨p, ps, h1.dp rm rx, h2.dp rm ry, h3, h4, fin⟩))
  · cases rx
    cases ry
    exact .inr (.inr (.inr ⟨c, z, rfl, rfl, fin⟩))
/-! ### signs, constants -/
def dNeg (f : DE) : DE := fun ds m Q => f ds m fun x m1 => ∃ i, x = .int i ∧ Q (.int (-i)) m1
theorem je_neg (ha : JE X a f) : JE X (.UnaryOp .USub a pos) (dNeg f) := by
  refine ⟨(pe_un un_neg ha.pe).imp fun σ H Q' h => ?_⟩
  obtain ⟨ds, m, Q, rs, rm, q, k⟩ := h
  refine ⟨ds, m, _, rs, rm, q, fun x m1 v H1 e1 rm1 rv q1 => ?_⟩
  obtain ⟨i, rfl, q1⟩ := q1
  cases rv
  exact ⟨i, rfl, k _ _ _ _ e1 rm1 (.int _) q1⟩
/-- a constant of the module, a whole number -/
theorem je_k {x : Str} {i : Int} {p : Pos} (hm : ∃ t, X.mg x = some (.int i t)) (hg : Gl X x := by rfl) (hd : (x == ("__debug__" : Str)) = false := by decide) : JE X (.Name x p) (dC (.int i)) := by
  obtain ⟨t, hm⟩ := hm
  exact je_c (pe_glob (v := .int i) hg hm ⟨t, rfl⟩ hd) fun _ => .int i
theorem je_ks {x y : Str} {p : Pos} (hm : ∃ t, X.mg x = some (.str y t)) (hg : Gl X x := by rfl) (hd : (x == ("__debug__" : Str)) = false := by decide) : JE X (.Name x p) (dC (.str y)) := by
  obtain ⟨t, hm⟩ := hm
  exact je_c (pe_glob (v := .str y) hg hm ⟨t, rfl⟩ hd) fun _ => .str y
/-! ### chains -/
theorem chain_of {fv gv : Value → Value → Sem Value} {r r' : DOp} {rv rv' : R2} (h1 : ∀ H m x y xv yv Q Q', RM X.K m H → RD X.K H x xv → RD X.K H y yv → r x y m Q → KE X.K H Q Q' → rv xv yv H Q')
    (h2 : ∀ H m x y xv yv Q Q', RM X.K m H → RD X.K H x xv → RD X.K H y yv → r' x y m Q → KE X.K H Q Q' → rv' xv yv H Q') (σ : L2.St) (H : Hp) (Q' : VK) (hh : lE X.K (dChain r r' f g h) σ H Q') :
    tChain rv rv' (lE X.K f) (lE X.K g) (lE X.K h) σ H Q' := by
  obtain ⟨ds, m, Q, rs, rm, q, k⟩ := hh
  refine ⟨ds, m, _, rs, rm, q, fun x m1 xv H1 e1 rm1 rx q1 => ?_⟩
  refine ⟨ds, m1, _, rs.ext e1, rm1, q1, fun y m2 yv H2 e2 rm2 ry q2 => ?_⟩
  refine h1 H2 m2 x y xv yv _ _ rm2 (rx.ext e2) ry q2 fun z m3 zv H3 e3 rm3 rz q3 => ?_
  obtain ⟨kk, rfl, q3⟩ := q3
  cases rz
  refine ⟨kk, rfl, ?_⟩
  cases kk with
  | false => exact k _ _ _ _ ((e1.trans e2).trans e3) rm3 (.bl _) q3
  | true =>
    refine ⟨ds, m3, _, rs.ext ((e1.trans e2).trans e3), rm3, q3, fun c m4 cv H4 e4 rm4 rc q4 => ?_⟩
    exact h2 H4 m4 y c yv cv Q Q' rm4 (ry.ext (e3.trans e4)) rc q4 (k.ext (((e1.trans e2).trans e3).trans e4))
theorem je_chain {op op' : CmpOp} {r r' : DOp} (ho : OpJ X (compareOp op) r) (ho' : OpJ X (compareOp op') r') (ha : JE X a f) (hb : JE X b g) (hc : JE X c h)
    (hm : lastMarks [op, op'] [b, c] = false := by with_unfolding_all rfl) : JE X (.Compare a [op, op'] [b, c] pos) (dChain r r' f g h) := by
  obtain ⟨rv, a1, a2⟩ := ho
  obtain ⟨rv', b1, b2⟩ := ho'
  exact ⟨(pe_chain a1 b1 ha.pe hb.pe hc.pe hm).imp fun σ H Q' hh => chain_of (X := X) (fv := compareOp op) (gv := compareOp op') a2 b2 σ H Q' hh⟩
theorem jt_chain {op op' : CmpOp} {r r' : DOp} (ho : OpJ X (compareOp op) r) (ho' : OpJ X (compareOp op') r') (ha : JE X a f) (hb : JE X b g) (hc : JE X c h)
    (hm : lastMarks [op, op'] [b, c] = false := by with_unfolding_all rfl) : JT X (.Compare a [op, op'] [b, c] pos) (dB (dChain r r' f g h)) := by
  obtain ⟨rv, a1, a2⟩ := ho
  obtain ⟨rv', b1, b2⟩ := ho'
  refine ⟨(pt_chain a1 b1 ha.pe hb.pe hc.pe hm).imp fun σ H Q' hh => ?_⟩
  obtain ⟨ds, m, Q, rs, rm, q, k⟩ := hh
  refine chain_of (X := X) (fv := compareOp op) (gv := compareOp op') a2 b2 σ H _ ⟨ds, m, _, rs, rm, q, fun z m1 v H1 e1 rm1 rz q1 => ?_⟩
  obtain ⟨kk, rfl, q1⟩ := q1
  cases rz
  exact ⟨kk, rfl, k _ _ _ e1 rm1 q1⟩
/-- what is never reached -/
def dNever : DS := fun _ _ _ => False
theorem js_never {st : Stmt} : JS X st dNever := ⟨ps_never.imp fun _ _ _ ⟨_, _, _, _, _, q, _⟩ => q.elim⟩
/-! ### sums, all, any -/
theorem one_ref {K : Frag} {m : MH} {H : Hp} {p : Addr} {l : List D} (rm : RM K m H) (h : m p = some (.lst l)) : ∃ xs, SqL K H p xs ∧ RDs K H l xs := by
  obtain ⟨xs, e, r⟩ := rm _ _ h
  exact ⟨xs, SqL.of e, r⟩
def bSum : DCl := fun l m Q => ∃ (p : Addr) (ns : List Int), l = [.ref p] ∧ m p = some (.lst (ns.map .int)) ∧ Q (.int ns.sum) m
theorem cj_sum (hc : X.calm = true) : CallJ X (.builtin "sum") bSum := by
  refine ⟨_, cr_sum hc, ?_⟩
  intro H m l vs Q Q' rm rl h k
  obtain ⟨p, ns, rfl, h1, q⟩ := h
  obtain ⟨xs, e, r⟩ := one_ref rm h1
  cases rl with
  | cons r1 rr =>
    cases rr
    cases r1
    rw [rds_ints r] at e
    exact ⟨p, ns, rfl, e, k _ _ _ _ (Ext.refl H) rm (.int _) q⟩
theorem rds_bls {K : Frag} {H : Hp} : ∀ {bs : List Bool} {xs : List V}, RDs K H (bs.map .bl) xs → xs = bs.map V.bl
  | [], _, .nil => rfl
  | n :: ns, _, .cons (.bl _) t => by rw [List.map_cons, rds_bls t]
def bAll : DCl := fun l m Q => ∃ (p : Addr) (bs : List Bool), l = [.ref p] ∧ m p = some (.lst (bs.map .bl)) ∧ Q (.bl (bs.all id)) m
theorem cj_all (hc : X.calm = true) : CallJ X (.builtin "all") bAll := by
  refine ⟨_, cr_all hc, ?_⟩
  intro H m l vs Q Q' rm rl h k
  obtain ⟨p, ns, rfl, h1, q⟩ := h
  obtain ⟨xs, e, r⟩ := one_ref rm h1
  cases rl with
  | cons r1 rr =>
    cases rr
    cases r1
    rw [rds_bls r] at e
    exact ⟨p, ns, rfl, e, k _ _ _ _ (Ext.refl H) rm (.bl _) q⟩
def bAny : DCl := fun l m Q => ∃ (p : Addr) (bs : List Bool), l = [.ref p] ∧ m p = some (.lst (bs.map .bl)) ∧ Q (.bl (bs.any id)) m
theorem cj_any (hc : X.calm = true) : CallJ X (.builtin "any") bAny := by
  refine ⟨_, cr_any hc, ?_⟩
  intro H m l vs Q Q' rm rl h k
  obtain ⟨p, ns, rfl, h1, q⟩ := h
  obtain ⟨xs, e, r⟩ := one_ref rm h1
  cases rl with
  | cons r1 rr =>
    cases rr
    cases r1
    rw [rds_bls r] at e
    exact ⟨p, ns, rfl, e, k _ _ _ _ (Ext.refl H) rm (.bl _) q⟩
def bMin : DCl
  | [.int i, .int j], m, Q => Q (.int (if j < i then j else i)) m
  | [.ref p], m, Q => ∃ ns : List Int, m p = some (.lst (ns.map .int)) ∧ 0 < ns.length ∧ ∀ k, k ∈ ns → (∀ y, y ∈ ns → k ≤ y) → Q (.int k) m
  | _, _, _ => False
theorem cj_min {k : Nat} (hc : X.calm = true) (hr : Room k X.A) : CallJ X (.builtin "min") bMin := by
  refine ⟨_, CallR.or (call_min2 hc) (cr_min hc), ?_⟩
  intro H m l vs Q Q' rm rl h k
  cases rl with
  | nil => exact h.elim
  | cons r1 rr =>
    cases rr with
    | nil =>
      cases r1 <;> try exact h.elim
      obtain ⟨ns, h1, h2, q⟩ := h
      obtain ⟨xs, e, r⟩ := one_ref rm h1
      rw [rds_ints r] at e
      exact .inr ⟨_, ns, rfl, e, h2, fun y hy hl => k _ _ _ _ (Ext.refl H) rm (.int _) (q y hy hl)⟩
    | cons r2 rr =>
      cases rr with
      | nil =>
        cases r1 <;> try exact h.elim
        cases r2 <;> try exact h.elim
        exact .inl ⟨_, _, rfl, k _ _ _ _ (Ext.refl H) rm (.int _) h⟩
      | cons _ _ => cases r1 <;> first | exact h.elim | (cases r2 <;> exact h.elim)
def bMax : DCl
  | [.int i, .int j], m, Q => Q (.int (if j > i then j else i)) m
  | [.ref p], m, Q => ∃ ns : List Int, m p = some (.lst (ns.map .int)) ∧ 0 < ns.length ∧ ∀ k, k ∈ ns → (∀ y, y ∈ ns → y ≤ k) → Q (.int k) m
  | _, _, _ => False
theorem cj_max {k : Nat} (hc : X.calm = true) (hr : Room k X.A) : CallJ X (.builtin "max") bMax := by
  refine ⟨_, CallR.or (call_max2 hc) (cr_max hc), ?_⟩
  intro H m l vs Q Q' rm rl h k
  cases rl with
  | nil => exact h.elim
  | cons r1 rr =>
    cases rr with
    | nil =>
      cases r1 <;> try exact h.elim
      obtain ⟨ns, h1, h2, q⟩ := h
      obtain ⟨xs, e, r⟩ := one_ref rm h1
      rw [rds_ints r] at e
      exact .inr ⟨_, ns, rfl, e, h2, fun y hy hl => k _ _ _ _ (Ext.refl H) rm (.int _) (q y hy hl)⟩
    | cons r2 rr =>
      cases rr with
      | nil =>
        cases r1 <;> try exact h.elim
        cases r2 <;> try exact h.elim
        exact .inl ⟨_, _, rfl, k _ _ _ _ (Ext.refl H) rm (.int _) h⟩
      | cons _ _ => cases r1 <;> first | exact h.elim | (cases r2 <;> exact h.elim)
/-- list(range(n)) -/
def dListR1 (f : DE) : DE := fun ds m Q => f ds m fun x m1 => ∃ j, x = .int j ∧ RgOk 0 j ∧ aNew (.lst (rangeD 0 j.toNat)) m1 Q
theorem rds_range {K : Frag} {H : Hp} (lo : Int) : ∀ l : List Nat, RDs K H (l.map fun i => .int (lo + (i : Nat))) (l.map fun i => V.int (lo + (i : Nat)))
  | [] => .nil
  | n :: ns => .cons (.int _) (rds_range lo ns)
theorem je_listR1 {e : Expr} {p p2 pos2 : Pos} (hm : X.mg "list" = none) (hm2 : X.mg "range" = none) (he : JE X e f) (hc : X.calm = true := by rfl) (hg : Gl X "list" := by rfl) (hg2 : Gl X "range" := by rfl) (na2 : starEach [e] X.env = (false, eval e X.env) :: starEach [] X.env := by rfl)
    (na : starEach [.Call (.Name "range" p2) [e] [] pos2] X.env = (false, eval (.Call (.Name "range" p2) [e] [] pos2) X.env) :: starEach [] X.env := by rfl) : JE X (.Call (.Name "list" p) [.Call (.Name "range" p2) [e] [] pos2] [] pos) (dListR1 f) := by
  refine ⟨(pe_listRg hc hg hm (prg_1 hg2 hm2 he.pe na2) na).imp fun σ H Q' h => ?_⟩
  obtain ⟨ds, m, Q, rs, rm, q, k⟩ := h
  refine ⟨ds, m, _, rs, rm, q, fun x m1 v H1 e1 rm1 rv q1 => ?_⟩
  obtain ⟨j, rfl, h1, q1⟩ := q1
  cases rv
  refine ⟨j, rfl, h1, fun p hp => k _ _ _ _ (e1.trans (Ext.fresh hp)) (rm1.upd (o := .lst _) (Ext.fresh hp) ⟨_, upd_same, ?_⟩) (.ref p) (q1 p (rm1.none hp))⟩
  have e0 : (j - 0).toNat = j.toNat := by omega
  unfold rangeD rgV
  rw [e0]
  exact rds_range 0 _
end

/-! ### repr -/
def keyP : Key → PyData
  | .inl i => .int i
  | .inr x => .str x
/-- a leaf -/
inductive PL : D → PyData → Prop
  | non : PL .non .none
  | bl (b : Bool) : PL (.bl b) (.bool b)
  | int (i : Int) : PL (.int i) (.int i)
  | str (x : Str) : PL (.str x) (.str x)
inductive PLs : List D → List PyData → Prop
  | nil : PLs [] []
  | cons {d : D} {p : PyData} {l : List D} {ps : List PyData} : PL d p → PLs l ps → PLs (d :: l) (p :: ps)
mutual
/-- data with dicts (of leaves), without lists -/
inductive PX (m : MH) : D → PyData → Prop
  | leaf {d : D} {p : PyData} : PL d p → PX m d p
  | tup {l : List D} {ps : List PyData} : PXs m l ps → PX m (.tup l) (.tuple ps)
  | dct {a : Addr} {kvs : List (Key × D)} {ps : List PyData} : m a = some (.dct kvs) → PLs (kvs.map (·.2)) ps → PX m (.ref a) (.dict ((kvs.map fun kv => keyP kv.1).zip ps))
inductive PXs (m : MH) : List D → List PyData → Prop
  | nil : PXs m [] []
  | cons {d : D} {p : PyData} {l : List D} {ps : List PyData} : PX m d p → PXs m l ps → PXs m (d :: l) (p :: ps)
end
theorem PLs.len : ∀ {l : List D} {ps : List PyData}, PLs l ps → l.length = ps.length
  | _, _, .nil => rfl
  | _, _, .cons _ t => congrArg (· + 1) (PLs.len t)
theorem PL.reads {K : Frag} {H : Hp} {hp : Heap} {d : D} {p : PyData} {v : V} {u : Value} (h : PL d p) (rd : RD K H d v) (ru : L2.RelV v u) : Reads hp u p [] := by
  cases h with
  | non => cases rd; cases ru; exact .none
  | bl b => cases rd; cases ru; exact .bool b
  | int i => cases rd; obtain ⟨t, rfl⟩ := ru; exact .int i t
  | str x => cases rd; obtain ⟨t, rfl⟩ := ru; exact .str x t
theorem reads_key {h : Heap} {k : Key} {u : Value} (e : keyIs k u = true) : Reads h u (keyP k) [] := by
  rcases keyIs_shape e with ⟨i, t, rfl, rfl⟩ | ⟨x, t, rfl, rfl⟩
  · exact .int i t
  · exact .str x t
theorem PLs.readsK {P : Program} {w : World} {K : Frag} {H : Hp} {hp : Heap} : ∀ {kvs : List (Key × D)} {ps : List PyData} {xs : List (Key × V)} {vs : List (Key × Value)} {es : List DictEntry}, PLs (kvs.map (·.2)) ps → RKs K H kvs xs → KV xs vs → Pairs (mixKind P w) es vs →
    ReadsAll hp (es.map (·.key)) (kvs.map fun kv => keyP kv.1) [] ∧ ReadsAll hp (es.map (·.val)) ps []
  | [], _, _, _, _, .nil, .nil, .nil, .nil => ⟨.nil, .nil⟩
  | _ :: _, _, _, _, _, .cons h t, .cons r rs, .cons q vs, .cons hk hv hp => by
    obtain ⟨k1, v⟩ := q
    obtain ⟨b0, b1⟩ := PLs.readsK t rs vs hp
    refine ⟨.cons (as := []) (bs := []) (reads_key ((congrArg (fun z => keyIs z _) k1).trans hk)) b0, ?_⟩
    rw [List.map_cons, hv]
    exact .cons (as := []) (bs := []) (h.reads r v) b1
section
variable {X : Cx} {pins : List (Addr × Obj)} {σ : L2.St} {H : Hp} {s : Shared} {m : MH}
mutual
theorem PX.reads (I : L2.Inv X pins σ H s) (rm : RM X.K m H) : ∀ {d : D} {p : PyData} {v : V} {u : Value}, PX m d p → RD X.K H d v → L2.RelV v u → ∃ as, Reads s.heap u p as ∧ ∀ b ∈ as, (b == sysModules) = false
  | d, p, v, u, .leaf h1, rd, ru => ⟨[], h1.reads rd ru, fun _ z => nomatch z⟩
  | _, _, _, u, .tup h, .tup (a := a) hs r, ru => by
    obtain rfl : u = Value.ref a := ru
    obtain ⟨its, rv, ⟨o, ho, hc, n, hd⟩, hz⟩ := I.tuple (SqT.of hs)
    obtain ⟨as, h1, h2⟩ := PXs.reads I rm h r rv
    exact ⟨as, .tuple ho hc hd (by simpa using h1), h2⟩
  | _, _, _, u, .dct (a := a) (kvs := kvs) (ps := ps) e h, .ref _, ru => by
    obtain rfl : u = Value.ref a := ru
    obtain ⟨xs, hx, rx⟩ := rm _ _ e
    obtain ⟨z, hsm, vs, kv, o, es, ep, ho, hx2, hdat, hk, hp, hn⟩ := I.hok a _ hx
    obtain ⟨r1, r2⟩ := PLs.readsK (hp := s.heap) h rx kv hp
    have el : (kvs.map fun kv => keyP kv.1).length = ps.length := by
      have := PLs.len h
      rw [List.length_map] at this ⊢
      exact this
    refine ⟨a :: [] ++ [], .dict ho hx2.1 hdat ?_ ?_, fun b hb' => ?_⟩
    · rw [List.map_fst_zip (by rw [el]; exact Nat.le_refl _)]
      exact r1
    · rw [List.map_snd_zip (by rw [el]; exact Nat.le_refl _)]
      exact r2
    · have e : b = a := by simpa using hb'
      rw [e]
      exact hsm
theorem PXs.reads (I : L2.Inv X pins σ H s) (rm : RM X.K m H) : ∀ {l : List D} {ps : List PyData} {vs : List V} {us : List Value}, PXs m l ps → RDs X.K H l vs → Vals vs us → ∃ as, ReadsAll s.heap us ps as ∧ ∀ b ∈ as, (b == sysModules) = false
  | _, _, _, _, .nil, .nil, .nil => ⟨[], .nil, fun _ z => nomatch z⟩
  | _, _, _, _, .cons h t, .cons r rs, .cons v vs => by
    obtain ⟨as, a1, a2⟩ := PX.reads I rm h r v
    obtain ⟨bs, b1, b2⟩ := PXs.reads I rm t rs vs
    refine ⟨as ++ bs, .cons a1 b1, fun b hb => ?_⟩
    rcases List.mem_append.mp hb with z | z
    · exact a2 b z
    · exact b2 b z
end
end
theorem PD.flat {m : MH} : ∀ {d : D} {p : PyData}, PD m d p → p.hasDict = false
  | _, _, .non => by rw [PyData.hasDict]
  | _, _, .bl b => by rw [PyData.hasDict]
  | _, _, .int i => by rw [PyData.hasDict]
  | _, _, .str x => by rw [PyData.hasDict]
  | _, _, .tup h => by rw [PyData.hasDict]; exact PDs.flat h
  | _, _, .rol h => by rw [PyData.hasDict]; exact PDs.flat h
  | _, _, .lst _ h => by rw [PyData.hasDict]; exact PDs.flat h
where PDs.flat {m : MH} : ∀ {l : List D} {ps : List PyData}, PDs m l ps → PyData.hasDictAll ps = false
  | _, _, .nil => by rw [PyData.hasDictAll]
  | _, _, .cons h t => by rw [PyData.hasDictAll, PD.flat h, PDs.flat t, Bool.or_false]
section
variable {X : Cx}
/-- how a value is written -/
def bRepr : DCl := fun l m Q => ∃ d p, l = [d] ∧ (PD m d p ∨ PX m d p) ∧ p.showable = true ∧ p.depth ≤ 40 ∧ p.shown.length ≤ sizeLine ∧ Q (.str p.shown) m
theorem call_reprD {k : Nat} (gd : X.A.guards = some []) (hr : Room k X.A) : CallR X (.builtin "repr") (fun vs H Q => ∃ v p, vs = [v] ∧ (∀ pins σ s u, L2.Inv X pins σ H s → L2.RelV v u → ∃ as, Reads s.heap u p as ∧ (p.hasDict = true → sysModules ∉ as)) ∧
    p.showable = true ∧ p.depth ≤ 40 ∧ p.shown.length ≤ sizeLine ∧ Q (.str p.shown) H) := by
  intro pins s σ H vs us Q I r h
  obtain ⟨v, p, rfl, hR, hs, hd, hz, q⟩ := h
  obtain ⟨u, rfl, ru⟩ := vals1 r
  obtain ⟨as, hreads, hsm⟩ := hR pins σ s u I ru
  have hu := hr.un
  have fin : ∀ t, EP X pins σ Q (.str p.shown t) s := fun t => ⟨.str p.shown, H, I, ⟨t, rfl⟩, q⟩
  have fin2 : ∀ t n, EP X pins σ Q (.str p.shown t) { s with toks := n } := fun t n => ⟨.str p.shown, H, I.tok n, ⟨t, rfl⟩, q⟩
  have big : ∀ {a : Addr} {as : List Addr}, Reads s.heap (.ref a) p as → (p.hasDict = true → sysModules ∉ as) → wpAny (model X.prog X.w) X.A (call (.builtin "repr") [.ref a]) (EP X pins σ Q) X.xe s := fun hq hw =>
    repr_of_reads' hq hs hw gd (by omega) (fun _ _ e => e) (fun h' t tk hk => ⟨.str p.shown, H, I.kept (t' := tk) hk, ⟨t, rfl⟩, q⟩) hz
  cases hreads with
  | none =>
    refine P.repr_of_none ?_
    have e : PyData.none.shown = "None" := by rw [PyData.shown]
    rw [← e]
    exact fin2 _ _
  | bool b =>
    refine P.repr_of_bool ?_
    have e : (PyData.bool b).shown = (if b = true then ("True" : Str) else ("False" : Str)) := by rw [PyData.shown]
    rw [← e]
    exact fin2 _ _
  | int i t =>
    have e : (PyData.int i).shown = toString i := by rw [PyData.shown]
    refine P.repr_of_int (by rw [PyData.showable] at hs; exact of_decide_eq_true hs) ?_
    rw [← e]
    exact fin2 _ _
  | str x t =>
    have e : (PyData.str x).shown = reprText x := by rw [PyData.shown]
    refine P.repr_of_str ?_ (by rw [← e]; exact hz)
    rw [← e]
    exact fin2 _ _
  | list a1 a2 a3 a4 => exact big (.list a1 a2 a3 a4) hsm
  | tuple a1 a2 a3 a4 => exact big (.tuple a1 a2 a3 a4) hsm
  | dict a1 a2 a3 a4 a5 => exact big (.dict a1 a2 a3 a4 a5) hsm
theorem cj_repr {k : Nat} (gd : X.A.guards = some []) (hr : Room k X.A) : CallJ X (.builtin "repr") bRepr := by
  refine ⟨_, call_reprD gd hr, ?_⟩
  intro H m l vs Q Q' rm rl h k
  obtain ⟨d, p, rfl, hd, h1, h2, h3, q⟩ := h
  cases rl with
  | cons r1 rr =>
    cases rr
    refine ⟨_, p, rfl, fun pins σ s u I ru => ?_, h1, h2, h3, k _ _ _ _ (Ext.refl H) rm (.str _) q⟩
    rcases hd with hd | hd
    · obtain ⟨as, z⟩ := Dp.reads I p _ u (hd.dp rm r1) ru
      exact ⟨as, z, PyData.noDict_hsm hd.flat⟩
    · obtain ⟨as, z, w⟩ := hd.reads I rm r1 ru
      exact ⟨as, z, fun _ hm => absurd (w _ hm) (by simp)⟩
/-! ### isinstance -/
/-- the name of a value's built-in class -/
def tyD (m : MH) : D → Option String
  | .non => some "NoneType"
  | .bl _ => some "bool"
  | .int _ => some "int"
  | .str _ => some "str"
  | .tup _ => some "tuple"
  | .rol _ => some "list"
  | .ref a => match m a with
    | some (.lst _) => some "list"
    | some (.dct _) => some "dict"
    | some (.dtp _) => some "dict"
    | _ => none
def dIsi (T : String) (f : DE) : DE := fun ds m Q => f ds m fun x m1 => ∃ t b, tyD m1 x = some t ∧ kitB t T = some b ∧ Q (.bl b) m1
theorem tyD_of {K : Frag} {m : MH} {H : Hp} {x : D} {v : V} {t : String} (rm : RM K m H) (r : RD K H x v) (e : tyD m x = some t) : TyX K H v (.type t) := by
  cases r with
  | non => cases e; exact .base .non
  | bl b => cases e; exact .base (.bl b)
  | int i => cases e; exact .base (.int i)
  | str z => cases e; exact .base (.str z)
  | tup h _ => cases e; exact .base (.tup h)
  | rol h _ =>
    cases e
    rcases h with ⟨o, h⟩ | ⟨o, its, n, h, hc, _⟩
    · exact .base (.frz h)
    · exact .kList h hc
  | ref a =>
    unfold tyD at e
    cases q : m a with
    | none => simp [q] at e
    | some o =>
      have ro := rm a o q
      cases o with
      | lst l => simp [q] at e; subst e; obtain ⟨xs, h, _⟩ := ro; exact .base (.lst h)
      | dct l => simp [q] at e; subst e; obtain ⟨xs, h, _⟩ := ro; exact .base (.dK h)
      | dtp l => simp [q] at e; subst e; obtain ⟨xs, h, _⟩ := ro; exact .base (.dT h)
      | ins C l => simp [q] at e
theorem je_isi {e : Expr} {f : DE} {pos p p2 : Pos} (x : Str) (T : String) (hm : X.mg "isinstance" = none) (hm2 : X.mg x = none) (he : JE X e f) (hv2 : bootBuiltins x = some (.type T) := by decide +kernel) (hg : Gl X "isinstance" := by rfl) (hg2 : Gl X x := by rfl) (hn : x ≠ "__name__" := by decide) (hdb : (x == ("__debug__" : Str)) = false := by decide)
    (hs : starEach [e, .Name x p2] X.env = (false, eval e X.env) :: starEach [.Name x p2] X.env := by rfl) (hs2 : starEach [.Name x p2] X.env = (false, eval (.Name x p2) X.env) :: starEach [] X.env := by rfl) (hpl : (backTo pos (starEach [.Name x p2] X.env)).any (·.1) = false := by rfl) :
    JE X (.Call (.Name "isinstance" p) [e, .Name x p2] [] pos) (dIsi T f) := by
  refine ⟨(pe_callB call_isi hg hm (by decide +kernel) (pa_cons he.pe (pa_cons (pe_bltn (v := .ty T) hg2 hm2 hv2 rfl hn hdb) pa_nil hs2) hs) (by decide) (by decide) hs hpl).imp fun σ H Q' h => ?_⟩
  obtain ⟨ds, m, Q, rs, rm, q, k⟩ := h
  refine ⟨ds, m, _, rs, rm, q, fun d m1 v H1 e1 rm1 rv q1 => ?_⟩
  obtain ⟨t, b, h1, h2, q1⟩ := q1
  exact ⟨v, .ty T, .type t, .type T, b, rfl, .ty T, tyD_of rm1 rv h1, kit_ty h2, k _ _ _ _ e1 rm1 (.bl _) q1⟩
end

end DL
/-! DL: the law's own call, from its body over plain data. -/
namespace DL
open PySem PySem.Spec PyProof.Rows L2
/-- how the caller stands -/
theorem room_caller : Room 230 callerA := ⟨rfl, by decide, by decide⟩
section
variable {P : Program} {w : World} {K : Frag} {mg mb : Str → Option Value}
/-- a def's body at the law's entry: the frame is laid, the body runs, the frame is left -/
theorem law_run {base : Heap} {x qual : Str} {st : Stmt} {f : Addr} {fd : FuncData} {N : List Str} {p : Str} {sp : DSp} {g : DS} (F : Fun K x qual st f fd) (S : FnScope N [p] (defScope st))
    (len : ∀ ds m Q, sp ds m Q → ds.length = 1)
    (hbody : ∀ (cdv : Value) (s : Shared) (H : Hp) (E : XK), Room 229 (callerA.deeper (envOfC qual (defScope st) s.heap.objs.size f cdv)) →
      JSs (cxOf CX0 P w K mg base N qual (defScope st) f cdv callerA [] s H E).nox (defBody st) g)
    (hp : ∀ ds m Q, sp ds m Q → g { nx := fun _ m' => Q .non m', rt := Q } (dstart N.length ds) m)
    {s : Shared} {H : Hp} {a : Addr} {Q' : VK} (e0 : Env0 P w K mg base callerA [] s H) (hb : BindsTo s fd ⟨[.ref a], []⟩ [(p, .ref a)]) (hsp : lSp K sp [.ref a] H Q' fun _ _ _ => False) :
    codeAny (model P w) callerA (.call (.ref f) ⟨[.ref a], []⟩) (fun r s' => ∃ u v H', r = .ok (.ret u) ∧ s'.os = s.os ∧ AllBare s'.gens ∧ Un [] [] H H' s.heap s'.heap ∧ HOk P w H' s'.heap ∧ L2.RelV v u ∧ Q' v H') s := by
  obtain ⟨oc, od, kV, doc, pm, an, cdv, ct, osl, rfl, lk, hcd⟩ := F.ex
  obtain ⟨ds, m, Q, rd, rm, q, k⟩ := hsp
  have KX : K.In s.heap := e0.mod.kin.keeps fun b o e => (e0.bs b o e).1
  have lim : s.heap.NoLimit := e0.mod.nolimit.keeps fun b o e => (e0.bs b o e).1
  have hd : callerA.handled = none := rfl
  have par : ∀ y ∈ ([p] : List Str).zip [Value.ref a], (defScope st).names.lookup y.1 = some .local ∨ ((defScope st).names.lookup y.1 = some .cell ∧ ((cellsFrom (s.heap.objs.size + 1) (defScope st).names []).lookup y.1).isSome = true) := by
    intro y hy
    have ey : y.1 = p := by
      have : y = (p, .ref a) := by simpa using hy
      rw [this]
    rcases S.par y.1 (by rw [ey]; simp) with z | z
    · exact .inl z
    · exact .inr ⟨z, PySem.W.cellsFrom_some _ _ _ (.inl z)⟩
  refine codeAny_call_function room_caller.depth (KX _ _ lk) rfl S.co S.gen rfl (PySem.W.codeRec_of KX hcd) (hb _ _ _ _ ?_)
  refine wpAny_newFunctionEnv_cells S.kind par fun env he s1 hin => ?_
  subst he
  refine ⟨lim.keeps hin.toInCall.keep, codeAny_func ?_⟩
  have hr : Room 229 (callerA.deeper (envOfC qual (defScope st) s.heap.objs.size f cdv)) := Room.deeper (k := 229) room_caller _
  have J := inv_start (CX := CX0) (E := fun _ _ _ => False) S hd e0 (show [V.ref a].length = [p].length from rfl) (.cons rfl .nil) hin
  have body := (hbody cdv s H (fun _ _ _ => False) hr).pss.nox
  have start : lS K g { nx := fun _ H' => Q' .non H', rt := Q' } (L2.start N [.ref a]) H :=
    ⟨_, m, _, RSt.start rd, rm, hp ds m Q q, ⟨fun ds2 m2 σ2 H2 e2 rs2 rm2 q2 => k .non m2 .non H2 e2 rm2 .non q2, k, fun _ _ _ _ _ _ _ z => z.elim, fun _ _ _ _ _ _ _ z => z.elim⟩⟩
  refine wpAny_mono (body.run [] s1 _ H _ J start) (fun fl s' h => ?_) fun e s' h => ?_
  · cases fl with
    | ret u =>
      obtain ⟨v, σ', H', J', rv, q'⟩ := h
      exact ⟨u, v, H', rfl, J'.os, J'.bare, J'.base, J'.hok, rv, q'⟩
    | next =>
      obtain ⟨σ', H', J', q'⟩ := h
      exact ⟨.none, .non, H', rfl, J'.os, J'.bare, J'.base, J'.hok, rfl, q'⟩
    | brk => exact h.elim fun _ z => z.elim fun _ z => z.2.elim
    | cont => exact h.elim fun _ z => z.elim fun _ z => z.2.elim
  · refine wpAny_mono h (fun _ _ z => ?_) fun _ _ z => ?_ <;> exact False.elim z
/-- what a law over a list of whole numbers promises -/
def spLaw : DSp := fun ds m Q => ∃ ns : List Int, ns.length ≤ 63 ∧ ds = [.rol (ns.map .int)] ∧ m = (fun _ => none) ∧ Q = fun d _ => d = .bl true
theorem law_attach {l : PySem.W.OpenLaw} {q : Program} {loose : List Str} {XP : (Str → Option Value) → Heap → Prop} {YP : World → Heap → Prop} {d : DefRec} {KK : Params → Frag} {p qual : Str} {st : Stmt} {N : List Str} {g : DS}
    (hn : l.most = some 63) (hdf : d.params.defaults = []) (hY : ∀ (w : World) (h : Heap), YP w h → (KK w.params).In h) (S : FnScope N [p] (defScope st))
    (F : ∀ (w : World) (mg : Str → Option Value) (fa : Addr) (h : Heap), (KK w.params).In h → h.Ns mainGlobals mg → mg d.name = some (.ref fa) →
      ∃ (x : Str) (fd : FuncData), Fun (KK w.params) x qual st fa fd ∧ (∀ (s : Shared) (u : Value), BindsTo s fd ⟨[u], []⟩ [(p, u)]) ∧
        ∀ (base : Heap) (cdv : Value) (s : Shared) (H : Hp) (E : XK), Room 229 (callerA.deeper (envOfC qual (defScope st) s.heap.objs.size fa cdv)) →
          JSs (cxOf CX0 l.prog w (KK w.params) mg base N qual (defScope st) fa cdv callerA [] s H E).nox (defBody st) g)
    (hp : ∀ ns : List Int, ns.length ≤ 63 → g { nx := fun _ _ => D.non = .bl true, rt := fun d _ => d = .bl true } (dstart N.length [.rol (ns.map .int)]) fun _ => none) :
    PySem.W.WalkO q loose XP YP l.row.toRowW d [] (fun f vs => PySem.call f vs) := by
  refine Att.attach_call hn hdf fun w s₀ s₁ mg mb fa o pm cd doc a vs ns G Y ho hd hcd hmg hobj hints hlen hg => ?_
  have KX := hY w _ Y
  obtain ⟨x, fd, hF, hb, hbody⟩ := F w mg fa _ KX G.T.g hmg
  have rv := vals_ints hints
  have lz : ns.length ≤ sizeLine := by
    rw [sizeLine_eq]
    exact Nat.le_trans hlen (by decide)
  have lv := hints.length
  -- the heap's plain side: nothing but the script, known to the object
  have main : ∀ H : Hp, (∀ b, H b = none ∨ (b = a ∧ (KK w.params).lookup a = none ∧ H b = some (.frz { cls := .type "list", data := .seq vs.toArray } (.lst (ns.map V.int))))) → SqF (KK w.params) H a (ns.map V.int) →
      codeAny (model l.prog w) callerA (.call (.ref fa) ⟨[.ref a], []⟩) (fun r s' => r = .ok (.ret (.bool true)) ∧ OldK s₁.heap s'.heap ∧ s'.os = s₁.os ∧ AllBare s'.gens) s₁ := by
    intro H hH hS
    have hok : HOk l.prog w H s₁.heap := fun b u e => by
      rcases hH b with z | ⟨rfl, _, z⟩
      · rw [e] at z
        cases z
      · rw [e] at z
        cases z
        exact ⟨hobj, by rw [List.length_map]; exact lz, vs, _, rv, hobj⟩
    have dict0 : ∀ {b : Addr} {m : Str → Option Value}, s₁.heap.Ns b m → (hidT s₁.heap H).Ns b m := by
      intro b m hm
      obtain ⟨ob, es, ep, h1, h2, h3⟩ := hm
      refine ⟨ob, es, ep, hidT_get h1 ?_, h2, h3⟩
      rcases hH b with z | ⟨rfl, _, _⟩
      · exact z
      · rw [hobj] at h1
        cases h1
        cases h2
    have kin : (KK w.params).In (hidT s₁.heap H) := fun b ob e => hidT_get (KX b ob e) (by
      rcases hH b with z | ⟨rfl, z, _⟩
      · exact z
      · rw [z] at e
        cases e)
    have md : Mod (KK w.params) mg (hidT s₁.heap H) := by
      refine ⟨kin, dict0 G.T.g, ⟨mb, dict0 G.T.b, G.T.builtins⟩, ?_⟩
      obtain ⟨mc, h1, h2⟩ := G.T.nolimit
      exact ⟨mc, dict0 h1, h2⟩
    have e0 : Env0 l.prog w (KK w.params) mg (hidT s₁.heap H) callerA [] s₁ H :=
      ⟨rfl, md, fun b ob e => of_hidT e, Nat.le_of_eq (hidT_size _ _), trivial, fun b hb' => absurd hb' (by simp [frs]), hok, .of_eq hg⟩
    refine codeAny_mono (law_run (sp := spLaw) (Q' := fun v _ => v = .bl true) hF S (fun ds m Q h => ?_) (hbody _) (fun ds m Q h => ?_) e0 (hb s₁ (.ref a)) ?_) fun r s' h => ?_
    · obtain ⟨_, _, rfl, _⟩ := h
      rfl
    · obtain ⟨ns', hl, rfl, rfl, rfl⟩ := h
      exact hp ns' hl
    · refine ⟨[.rol (ns.map .int)], fun _ => none, fun d _ => d = .bl true, .cons (.rol hS (rds_of_ints ns)) .nil, fun b ob e => by (have e' : (none : Option MO) = some ob := e; cases e'), ⟨ns, hlen, rfl, rfl, rfl⟩, fun d m' v H' _ _ r e => ?_⟩
      have e' : d = .bl true := e
      subst e'
      cases r
      rfl
    · obtain ⟨u, v, H', rfl, os, bare, un, hok', ru, e⟩ := h
      have e' : v = .bl true := e
      subst e'
      obtain rfl : u = Value.bool true := ru
      refine ⟨rfl, OldK.of_keep fun b ob hb' => ?_, os, bare⟩
      rcases hH b with z | ⟨rfl, _, z⟩
      · exact un.keep b ob hb' z (by simp) (by simp)
      · have z2 := un.frzs b _ _ z
        have h1 := (hok b _ z).1
        have h2 := (hok' b _ z2).1
        rw [hb'] at h1
        cases h1
        exact h2
  cases hk : (KK w.params).lookup a with
  | some ob =>
    have e := KX a ob hk
    rw [hobj] at e
    cases e
    exact main (fun _ => none) (fun _ => .inl rfl) (.inr ⟨_, vs.toArray, _, hk, rfl, rfl, rfl, by rw [List.size_toArray, lv]; exact lz, by simpa using rv⟩)
  | none =>
    refine main (fun b => if b = a then some (.frz { cls := .type "list", data := .seq vs.toArray } (.lst (ns.map V.int))) else none) (fun b => ?_) (.inl ⟨{ cls := .type "list", data := .seq vs.toArray }, if_pos rfl⟩)
    by_cases hb' : b = a
    · exact .inr ⟨hb', hk, if_pos hb'⟩
    · exact .inl (if_neg hb')
end
end DL
namespace DL
open PySem PySem.Spec PyProof.Rows L2
/-! ### steps -/
theorem ix_dct {m : MH} {p : Addr} {y d : D} {kvs : List (Key × D)} {k : Key} {Q : DK} (h : m p = some (.dct kvs)) (hk : keyOf y = some k) (hl : look kvs k = some d) (q : Q d m) : aIxA (.ref p) y m Q := .inr ⟨d, .inl ⟨kvs, k, h, hk, hl.symm⟩, q⟩
theorem ix_lst {m : MH} {p : Addr} {i : Int} {l : List D} {d : D} {Q : DK} (h : m p = some (.lst l)) (hl : atI l i = some d) (q : Q d m) : aIxA (.ref p) (.int i) m Q := .inl ⟨i, l, d, rfl, h, hl, q⟩
theorem set_dct {m : MH} {p : Addr} {y d : D} {kvs : List (Key × D)} {k : Key} {Q : MH → Prop} (h : m p = some (.dct kvs)) (hk : keyOf y = some k) (hl : kvs.length < 1000) (q : Q (mup m p (.dct (stored kvs k d)))) : aSet (.ref p) y d m Q :=
  ⟨p, rfl, .inr (.inl ⟨kvs, k, h, hk, small1000 (Nat.le_of_lt hl), q⟩)⟩
/-! ### the deck -/
def deckL (c : Addr) (t g : Int) : List (Key × D) := [(.inr "cells", .ref c), (.inr "turn", .int t), (.inr "great", .int g)]
theorem str_ne1 : ¬ (("cells" : Str) = "turn") := by decide +kernel
theorem str_ne2 : ¬ (("cells" : Str) = "great") := by decide +kernel
theorem str_ne3 : ¬ (("turn" : Str) = "great") := by decide +kernel
theorem key_ne {a b : Str} (h : ¬ a = b) : ¬ ((.inr a : Key) = .inr b) := fun e => h (Sum.inr.inj e)
theorem deck_cells (c : Addr) (t g : Int) : look (deckL c t g) (.inr "cells") = some (.ref c) := by simp [look, deckL]
theorem deck_turn (c : Addr) (t g : Int) : look (deckL c t g) (.inr "turn") = some (.int t) := by simp [look, deckL, key_ne str_ne1]
theorem deck_great (c : Addr) (t g : Int) : look (deckL c t g) (.inr "great") = some (.int g) := by simp [look, deckL, key_ne str_ne2, key_ne str_ne3]
theorem deck_setT (c : Addr) (t g u : Int) : stored (deckL c t g) (.inr "turn") (.int u) = deckL c u g := by
  simp [stored, deckL, key_ne str_ne1, key_ne (fun e => str_ne3 e.symm)]
theorem deck_setG (c : Addr) (t g u : Int) : stored (deckL c t g) (.inr "great") (.int u) = deckL c t u := by
  simp [stored, deckL, key_ne str_ne2, key_ne str_ne3]
/-- the deck stands at p; at most n draws so far -/
def Deck (m : MH) (p : Addr × Addr) (n : Nat) : Prop := ∃ (cells : List Int) (t g : Int), m p.1 = some (.dct (deckL p.2 t g)) ∧ m p.2 = some (.lst (cells.map .int)) ∧ cells ≠ [] ∧ cells.length ≤ 100 ∧ 0 ≤ t ∧ t ≤ n ∧ 0 ≤ g
theorem Deck.mono {m : MH} {p : Addr × Addr} {n k : Nat} (h : Deck m p n) (e : n ≤ k) : Deck m p k := by
  obtain ⟨cells, t, g, h1, h2, h3, h4, h5, h6, h7⟩ := h
  exact ⟨cells, t, g, h1, h2, h3, h4, h5, by omega, h7⟩
theorem Deck.at {m m' : MH} {p : Addr × Addr} {n : Nat} (h : Deck m p n) (k : ∀ b o, m b = some o → m' b = some o) : Deck m' p n := by
  obtain ⟨cells, t, g, h1, h2, h3⟩ := h
  exact ⟨cells, t, g, k _ _ h1, k _ _ h2, h3⟩
/-- another object is written -/
theorem Deck.upd {m : MH} {p : Addr × Addr} {n : Nat} {q : Addr} {o : MO} (h : Deck m p n) (h1 : q ≠ p.1) (h2 : q ≠ p.2) : Deck (mup m q o) p n := by
  obtain ⟨cells, t, g, a1, a2, h3⟩ := h
  exact ⟨cells, t, g, by rw [mup_ne h1.symm]; exact a1, by rw [mup_ne h2.symm]; exact a2, h3⟩
theorem Deck.fresh {m : MH} {p : Addr × Addr} {n : Nat} {q : Addr} (h : Deck m p n) (e : m q = none) : q ≠ p.1 ∧ q ≠ p.2 := by
  obtain ⟨cells, t, g, a1, a2, h3⟩ := h
  exact ⟨fun z => (by rw [z, a1] at e; cases e), fun z => (by rw [z, a2] at e; cases e)⟩
theorem sub_small {i : Int} (h0 : 0 ≤ i) (h1 : i < 2 ^ 64) : -(2 ^ 64) < i ∧ i < 2 ^ 64 := ⟨by omega, h1⟩
theorem fmod_pos {i j : Int} (h : 0 < j) : i.fmod j = i % j := Int.fmod_eq_emod_of_nonneg _ (Int.le_of_lt h)
theorem fdiv_pos {i j : Int} (h : 0 < j) : i.fdiv j = i / j := Int.fdiv_eq_ediv_of_nonneg _ (Int.le_of_lt h)
theorem atI_ints {cells : List Int} {i : Int} (h0 : 0 ≤ i) (h1 : i < cells.length) : ∃ z, atI (cells.map D.int) i = some (.int z) := by
  obtain ⟨j, rfl⟩ := Int.eq_ofNat_of_zero_le h0
  have hj : j < cells.length := by omega
  exact ⟨cells[j], atI_nat (by simp [hj])⟩
/-! ### what stays -/
def Keep (p : Addr) (m m' : MH) : Prop := ∀ b o, b ≠ p → m b = some o → m' b = some o
def Grow (m m' : MH) : Prop := ∀ b o, m b = some o → m' b = some o
theorem Grow.refl (m : MH) : Grow m m := fun _ _ h => h
theorem Grow.trans {m m1 m2 : MH} (a : Grow m m1) (b : Grow m1 m2) : Grow m m2 := fun c o h => b c o (a c o h)
theorem aNew_of {o : MO} {m : MH} {Q : DK} (k : ∀ r m', Grow m m' → m' r = some o → m r = none → (∀ b, b ≠ r → m' b = m b) → Q (.ref r) m') : aNew o m Q := fun p hp =>
  k p _ (fun b u e => by rw [mup_ne (mne_of_none e hp)]; exact e) mup_same hp fun b hb => mup_ne hb
theorem Grow.new {m : MH} {r : Addr} {o : MO} (h : m r = none) : Grow m (mup m r o) := fun b u e => by rw [mup_ne (mne_of_none e h)]; exact e
theorem Keep.refl (p : Addr) (m : MH) : Keep p m m := fun _ _ _ h => h
theorem Keep.trans {p : Addr} {m m1 m2 : MH} (a : Keep p m m1) (b : Keep p m1 m2) : Keep p m m2 := fun c o n h => b c o n (a c o n h)
theorem Grow.keep {p : Addr} {m m' : MH} (a : Grow m m') : Keep p m m' := fun b o _ h => a b o h
theorem Deck.ne {m : MH} {p : Addr × Addr} {n : Nat} (h : Deck m p n) {q : Addr} {l : List D} (e : m q = some (.lst l)) : q ≠ p.1 := by
  obtain ⟨cells, t, g, h1, _⟩ := h
  exact mne_of e h1 (fun z => nomatch z)
/-! ### loops -/
theorem loop_by {chk : MH → Prop} {g : DG} {body : DS} {D : DEnds} (Iv : List DL.D → Sd → MH → Prop) (h0 : ∀ ds m, Iv [] ds m → chk m ∧ D.nx ds m)
    (hs : ∀ x r ds m (N : Sd → MH → Prop), (∀ ds' m', Iv r ds' m' → N ds' m') → Iv (x :: r) ds m → chk m ∧ g x ds m fun ds2 m2 => body { D with nx := N, ct := N, bk := D.nx } ds2 m2) : ∀ l ds m, Iv l ds m → dLoop chk g body l D ds m
  | [], ds, m, h => h0 ds m h
  | x :: r, ds, m, h => hs x r ds m (dLoop chk g body r D) (loop_by Iv h0 hs r) h
theorem lc_by {chk : MH → Prop} {g : DG} {tt : DT} {te : DE} {vs : List Nat} {p : Addr} {Q : DK} {ds : Sd} (Iv : List DL.D → MH → Prop) (h0 : ∀ m, Iv [] m → chk m ∧ Q (.ref p) m)
    (hs : ∀ x r m (N : MH → Prop), (∀ m', Iv r m' → N m') → Iv (x :: r) m → chk m ∧ g x (dwipe ds vs) m fun ds2 m2 => tt ds2 m2 fun b m3 => if b = true then te ds2 m3 fun y m4 => ∃ acc, m4 p = some (.lst acc) ∧ acc.length < sizeLine ∧ N (mup m4 p (.lst (acc ++ [y]))) else N m3) :
    ∀ l m, Iv l m → dLcL chk g tt te vs p Q ds l m
  | [], m, h => h0 m h
  | x :: r, m, h => hs x r m (dLcL chk g tt te vs p Q ds r) (lc_by Iv h0 hs r) h
theorem while_m {c : DT} {body : DS} {D : DEnds} (Iv : Nat → Sd → MH → Prop)
    (hs : ∀ n ds m (N : Sd → MH → Prop), (∀ ds' m' j, j < n → Iv j ds' m' → N ds' m') → Iv n ds m → c ds m fun b m1 => if b = true then body { D with nx := N, ct := N, bk := D.nx } ds m1 else D.nx ds m1)
    (mono : ∀ (n : Nat) ds m, dWhileN c body n D ds m → ∀ k, n ≤ k → dWhileN c body k D ds m) : ∀ n ds m, Iv n ds m → dWhile c body D ds m := by
  intro n
  have all : ∀ n ds m, Iv n ds m → dWhileN c body (n + 1) D ds m := by
    intro n
    induction n using Nat.strongRecOn with
    | ind n ih =>
      intro ds m h
      refine hs n ds m (dWhileN c body n D) (fun ds' m' j hj h' => ?_) h
      exact mono _ _ _ (ih j hj ds' m' h') n hj
  exact fun ds m h => ⟨n + 1, all n ds m h⟩
def b__law_take : DS := (dSeq (dAsg (dOp aAdd (dOp aIxA (dVar 0) (dC (.str "turn"))) (dC (.int 1))) (gS (dVar 0) (dC (.str "turn")) aSet))
  (dSeq (dIf (dB (dOp aGt (dOp aIxA (dVar 0) (dC (.str "great"))) (dC (.int 0)))) (dSeq (dAsg (dOp aMod (dOp aIxA (dVar 0) (dC (.str "great"))) (dVar 1)) (gN 2))
  (dSeq (dAsg (dOp aDiv (dOp aIxA (dVar 0) (dC (.str "great"))) (dVar 1)) (gS (dVar 0) (dC (.str "great")) aSet))
  (dRet (dVar 2)))) dSkip)
  (dSeq (dPar 3 4 (dCons (dOp aIxA (dVar 0) (dC (.str "turn"))) (dCons (dOp aIxA (dVar 0) (dC (.str "cells"))) dNil)))
  (dSeq (dAsg (dOp aMod (dOp aPow (dOp aAdd (dOp aAdd (dOp aMod (dOp aIxA (dVar 4) (dOp aMod (dVar 3) (dB1 bLen (dCons (dVar 4) dNil)))) (dC (.int 2147483399))) (dOp aMul (dC (.int 70001)) (dVar 3))) (dC (.int 47))) (dC (.int 3))) (dC (.int 2147483489))) (gN 5))
  (dRet (dOp aMod (dOp aDiv (dOp aMod (dOp aAdd (dOp aMul (dVar 5) (dC (.int 53129))) (dOp aMul (dOp aMul (dC (.int 6397)) (dVar 3)) (dVar 3))) (dC (.int 2147483423))) (dC (.int 13))) (dVar 1)))))))
def sp__law_take : DSp := fun ds m Q => ∃ (p : Addr × Addr) (n : Nat) (k : Int), ds = [.ref p.1, .int k] ∧ Deck m p n ∧ n ≤ 2 ^ 40 ∧ 0 < k ∧ k < 2 ^ 30 ∧ ∀ (r : Int) m', 0 ≤ r → r < k → Deck m' p (n + 1) → Keep p.1 m m' → Q (.int r) m'
theorem hp__law_take : ∀ ds m Q, sp__law_take ds m Q → b__law_take { nx := fun _ m' => Q .non m', rt := Q } (dstart 6 ds) m := by
  rintro ds m Q ⟨⟨p, c⟩, n, k, rfl, ⟨cells, t, g, h1, h2, h3, h4, h5, h6, h7⟩, hn, hk0, hk1, q⟩
  have hcp : c ≠ p := mne_of h2 h1 (fun z => nomatch z)
  show b__law_take _ [some (.ref p), some (.int k), none, none, none, none] m
  simp only [b__law_take, dSeq, dAsg, dOp, dVar, dC, gS, gN, dIf, dB, dRet, dPar, dCons, dNil, dB1, dSkip, List.getElem?_cons_zero, List.getElem?_cons_succ, List.set_cons_zero, List.set_cons_succ, Option.some.injEq, exists_eq_left', List.cons.injEq, and_true, exists_eq_right', exists_and_left]
  -- turn
  refine ix_dct h1 rfl (deck_turn c t g) ?_
  simp only [aAdd]
  refine set_dct h1 rfl (by simp [deckL]) ?_
  rw [deck_setT]
  have e1 : mup m p (.dct (deckL c (t + 1) g)) p = some (.dct (deckL c (t + 1) g)) := mup_same
  refine ix_dct e1 rfl (deck_great _ _ _) ?_
  simp only [aGt]
  refine ⟨_, rfl, ?_⟩
  by_cases hg : 0 < g
  · rw [if_pos (decide_eq_true hg)]
    refine ix_dct e1 rfl (deck_great _ _ _) ?_
    simp only [aMod]
    refine ⟨by omega, ?_⟩
    refine ix_dct e1 rfl (deck_great _ _ _) ?_
    simp only [aDiv]
    refine ⟨⟨by omega, by omega⟩, ?_⟩
    refine set_dct e1 rfl (by simp [deckL]) ?_
    rw [deck_setG, mup_mup, fmod_pos hk0, fdiv_pos hk0]
    refine q _ _ (Int.emod_nonneg _ (by omega)) (Int.emod_lt_of_pos _ hk0) ⟨cells, t + 1, g / k, mup_same, by rw [mup_ne hcp]; exact h2, h3, h4, by omega, by omega, Int.ediv_nonneg h7 (Int.le_of_lt hk0)⟩ fun b o hb e => (mup_ne hb).trans e
  · rw [if_neg (by simpa using hg)]
    refine ix_dct e1 rfl (deck_turn _ _ _) ?_
    refine ix_dct e1 rfl (deck_cells _ _ _) ?_
    refine ⟨_, _, ⟨rfl, rfl⟩, ?_⟩
    have e2 : mup m p (.dct (deckL c (t + 1) g)) c = some (.lst (cells.map .int)) := by rw [mup_ne hcp]; exact h2
    simp only [bLen]
    refine ⟨_, e2, ?_⟩
    have hc : 0 < ((cells.map D.int).length : Int) := by
      rw [List.length_map]
      have := List.length_pos_iff.mpr h3
      omega
    simp only [aMod]
    refine ⟨by omega, ?_⟩
    rw [fmod_pos hc]
    obtain ⟨z, hz⟩ := atI_ints (cells := cells) (i := (t + 1) % ((cells.map D.int).length : Int)) (Int.emod_nonneg _ (by omega)) (by
      have := Int.emod_lt_of_pos (t + 1) hc
      rw [List.length_map] at this ⊢
      exact this)
    refine ix_lst e2 hz ?_
    simp only [aMod, aMul, aAdd, aPow, aDiv]
    refine ⟨by decide, ?_⟩
    rw [fmod_pos (by decide)]
    have a1 := Int.emod_nonneg z (show (2147483399 : Int) ≠ 0 by decide)
    have a2 := Int.emod_lt_of_pos z (show (0 : Int) < 2147483399 by decide)
    generalize z % 2147483399 = y at a1 a2
    refine ⟨.inl (by decide), ⟨by decide, by decide, by omega⟩, by decide, ?_⟩
    rw [fmod_pos (by decide)]
    generalize hu : (y + 70001 * (t + 1) + 47) ^ (3 : Int).toNat % 2147483489 = u
    have b1 : 0 ≤ u := by rw [← hu]; exact Int.emod_nonneg _ (by decide)
    have b2 : u < 2147483489 := by rw [← hu]; exact Int.emod_lt_of_pos _ (by decide)
    refine ⟨.inr (by decide), .inl (by decide), .inl (by omega), by decide, ⟨by decide, by decide⟩, by omega, ?_⟩
    rw [fmod_pos hk0]
    refine q _ _ (Int.emod_nonneg _ (by omega)) (Int.emod_lt_of_pos _ hk0) ⟨cells, t + 1, g, mup_same, e2, h3, h4, by omega, by omega, h7⟩ fun b o hb e => (mup_ne hb).trans e
def b__law_one : DS := (dRet (dOp aIxA (dVar 1) (dCall sp__law_take (dCons (dVar 0) (dCons (dB1 bLen (dCons (dVar 1) dNil)) dNil)))))
/-- one of the items of a list or a tuple -/
def sp__law_one : DSp := fun ds m Q => ∃ (p : Addr × Addr) (n : Nat) (it : D) (l : List D), ds = [.ref p.1, it] ∧ Deck m p n ∧ n ≤ 2 ^ 40 ∧ (it = .tup l ∨ ∃ q, it = .ref q ∧ m q = some (.lst l)) ∧ l ≠ [] ∧ l.length < 2 ^ 30 ∧ ∀ d m', d ∈ l → Deck m' p (n + 1) → Keep p.1 m m' → Q d m'
theorem atI_mem {l : List D} {i : Int} (h0 : 0 ≤ i) (h1 : i < l.length) : ∃ d, atI l i = some d ∧ d ∈ l := by
  obtain ⟨j, rfl⟩ := Int.eq_ofNat_of_zero_le h0
  have hj : j < l.length := by omega
  exact ⟨l[j], atI_nat (List.getElem?_eq_getElem hj), List.getElem_mem hj⟩
theorem hp__law_one : ∀ ds m Q, sp__law_one ds m Q → b__law_one { nx := fun _ m' => Q .non m', rt := Q } (dstart 2 ds) m := by
  rintro ds m Q ⟨p, n, it, l, rfl, hD, hn, hit, hl, hz, q⟩
  have hpos : 0 < (l.length : Int) := by
    have := List.length_pos_iff.mpr hl
    omega
  show b__law_one _ [some (.ref p.1), some it] m
  simp only [b__law_one, dRet, dOp, dVar, dCall, dCons, dNil, dB1, List.getElem?_cons_zero, List.getElem?_cons_succ, Option.some.injEq, exists_eq_left']
  rcases hit with rfl | ⟨a, rfl, ha⟩
  · simp only [bLen]
    refine ⟨p, n, _, rfl, hD, hn, hpos, by omega, fun r m' h0 h1 hD' hk => ?_⟩
    obtain ⟨d, hd, hm⟩ := atI_mem h0 h1
    exact ⟨d, hd, q d m' hm hD' hk⟩
  · simp only [bLen]
    refine ⟨l, ha, p, n, _, rfl, hD, hn, hpos, by omega, fun r m' h0 h1 hD' hk => ?_⟩
    obtain ⟨d, hd, hm⟩ := atI_mem h0 h1
    exact ix_lst (hk a _ (hD.ne ha) ha) hd (q d m' hm hD' hk)
def b__law_deck : DS := (dSeq (dAsg (dC (.int 0)) (gN 1))
  (dSeq (dFor (iAny (dSl (dVar 0) dNo (dPart (dC (.int 57))))) (gN 2) (dIf (dB (dOp aGe (dB1 bAbs (dCons (dVar 2) dNil)) (dOp aPow (dC (.int 10)) (dC (.int 18))))) (dAsg (dOp aAdd (dOp aMul (dVar 1) (dC (.int 83))) (dB1 bAbs (dCons (dVar 2) dNil))) (gN 1)) dSkip))
  (dRet (dDisp (("cells", (dOp aAdd (dB1 bList (dCons (dSl (dVar 0) dNo (dPart (dC (.int 57)))) dNil)) (dLst (dCons (dOp aAdd (dB1 bLen (dCons (dVar 0) dNil)) (dC (.int 23))) dNil)))) :: ("turn", (dC (.int 0))) :: ("great", (dVar 1)) :: [])))))
def sp__law_deck : DSp := fun ds m Q => ∃ ns : List Int, ds = [.rol (ns.map .int)] ∧ ns.length ≤ 63 ∧ ∀ m' (p : Addr × Addr), Grow m m' → Deck m' p 0 → m p.2 = none → Q (.ref p.1) m'
theorem cut_to {α : Type} (l : List α) (k : Nat) : cutD l none (some (k : Int)) = l.take k := by
  unfold cutD
  rw [HT.sIx_none, HT.sIx_nat, List.drop_zero, Nat.sub_zero]
  exact (List.take_eq_take_min).symm
theorem hp__law_deck : ∀ ds m Q, sp__law_deck ds m Q → b__law_deck { nx := fun _ m' => Q .non m', rt := Q } (dstart 3 ds) m := by
  rintro ds m Q ⟨ns, rfl, hl, q⟩
  show b__law_deck _ [some (.rol (ns.map .int)), none, none] m
  simp only [b__law_deck, dSeq, dAsg, dC, gN, dFor, iAny, dSl, dVar, dNo, dPart, List.getElem?_cons_zero, List.getElem?_cons_succ, List.set_cons_zero, List.set_cons_succ, Option.some.injEq, exists_eq_left', D.int.injEq, aSl]
  intro r hr
  have e57 : cutD (ns.map D.int) none (some 57) = (ns.take 57).map D.int := by rw [show (57 : Int) = ((57 : Nat) : Int) from rfl, cut_to, List.map_take]
  rw [e57]
  refine ⟨_, mup_same, ?_⟩
  refine loop_by (fun l ds m' => ∃ g v, 0 ≤ g ∧ (∃ ks : List Int, l = ks.map .int) ∧ ds = [some (.rol (ns.map .int)), some (.int g), v] ∧ m' = mup m r (.lst ((ns.take 57).map .int))) ?_ ?_ _ _ _ ⟨0, none, Int.le_refl _, ⟨_, rfl⟩, rfl, rfl⟩
  · rintro ds m' ⟨g, v, hg, -, rfl, rfl⟩
    refine ⟨mup_same, ?_⟩
    simp only [dRet, dDisp, dPairs, dOp, dB1, dCons, dNil, dSl, dVar, dNo, dPart, dC, dLst, List.getElem?_cons_zero, List.getElem?_cons_succ, Option.some.injEq, exists_eq_left', D.int.injEq, aSl]
    intro p hp s hs
    rw [e57]
    simp only [bList]
    refine ⟨_, mup_same, fun u hu => ?_⟩
    simp only [bLen, aAdd]
    refine ⟨by show 1 ≤ sizeLine; decide, fun v2 hv => ?_⟩
    refine ⟨_, _, by rw [mup_ne (mne_of_none mup_same hv)]; exact mup_same, mup_same, ?_, fun w hw => ?_⟩
    · simp only [List.length_map, List.length_take, List.length_cons, List.length_nil]
      rw [sizeLine_eq]
      omega
    have hp2 : ∀ {x : MH} {y : Addr} {o : MO}, x y = none → x p = some (.dct []) → mup x y o p = some (.dct []) := fun hy hx => by rw [mup_ne (mne_of_none hx hy)]; exact hx
    have k1 := hp2 (o := .lst ((ns.take 57).map .int)) hs mup_same
    have k2 := hp2 (o := .lst ((ns.take 57).map .int)) hu k1
    have k3 := hp2 (o := .lst [.int (((ns.map D.int).length : Int) + 23)]) hv k2
    have k4 := hp2 (o := .lst ((ns.take 57).map .int ++ [.int (((ns.map D.int).length : Int) + 23)])) hw k3
    refine ⟨k4, by show 3 ≤ 15; decide, by simp [key_ne str_ne1, key_ne str_ne2, key_ne str_ne3], ?_⟩
    refine q _ (p, w) ?_ ⟨ns.take 57 ++ [((ns.map D.int).length : Int) + 23], 0, g, mup_same, ?_, by simp, ?_, Int.le_refl _, Int.le_refl _, hg⟩ ?_
    · intro b o e
      have a1 := Grow.new (o := .lst ((ns.take 57).map .int)) hr b o e
      have a2 := Grow.new (o := .dct []) hp b o a1
      have a3 := Grow.new (o := .lst ((ns.take 57).map .int)) hs b o a2
      have a4 := Grow.new (o := .lst ((ns.take 57).map .int)) hu b o a3
      have a5 := Grow.new (o := .lst [.int (((ns.map D.int).length : Int) + 23)]) hv b o a4
      have a6 := Grow.new (o := .lst ((ns.take 57).map .int ++ [.int (((ns.map D.int).length : Int) + 23)])) hw b o a5
      rw [mup_ne (mne_of_none a1 hp)]
      exact a6
    · have hwp : w ≠ p := fun e => by rw [e, k3] at hw; cases hw
      show mup _ p _ w = _
      rw [mup_ne hwp, mup_same, List.map_append]
      rfl
    · rw [List.length_append, List.length_take, List.length_singleton]
      omega
    · cases e : m w with
      | none => rfl
      | some o =>
        have a1 := Grow.new (o := .lst ((ns.take 57).map .int)) hr w o e
        have a2 := Grow.new (o := .dct []) hp w o a1
        have a3 := Grow.new (o := .lst ((ns.take 57).map .int)) hs w o a2
        have a4 := Grow.new (o := .lst ((ns.take 57).map .int)) hu w o a3
        have a5 := Grow.new (o := .lst [.int (((ns.map D.int).length : Int) + 23)]) hv w o a4
        rw [hw] at a5
        cases a5
  · rintro x rest ds m' N hN ⟨g, v, hg, ⟨ks, hks⟩, rfl, rfl⟩
    obtain ⟨z, ks', rfl, rfl, rfl⟩ : ∃ z ks', ks = z :: ks' ∧ x = .int z ∧ rest = ks'.map .int := by
      cases ks with
      | nil => cases hks
      | cons z ks' =>
        rw [List.map_cons] at hks
        injection hks with a b
        exact ⟨z, ks', rfl, a, b⟩
    refine ⟨mup_same, ?_⟩
    simp only [gN, dIf, dB, dOp, dB1, dCons, dNil, dVar, dC, dAsg, dSkip, bAbs, aPow, aGe, aMul, aAdd, List.getElem?_cons_zero, List.getElem?_cons_succ, List.set_cons_zero, List.set_cons_succ, Option.some.injEq, exists_eq_left']
    refine ⟨⟨by decide, by decide, by decide⟩, _, rfl, ?_⟩
    generalize hy : (if z < 0 then -z else z) = y
    have hy0 : 0 ≤ y := by
      rw [← hy]
      split <;> omega
    split
    · exact ⟨.inr (by decide), hN _ _ ⟨_, _, by omega, ⟨ks', rfl⟩, rfl, rfl⟩⟩
    · exact hN _ _ ⟨g, _, hg, ⟨ks', rfl⟩, rfl, rfl⟩
end DL
/-! How long what is written is; equal data; comprehensions of pure elements. -/
namespace DL
open PySem PySem.Spec PyProof.Rows L2
/-! ### signs below 16 ^ 8 -/
def Asc (x : Str) : Prop := ∀ c ∈ x.cps.toList, c < 16 ^ 8
theorem asc_of (s : String) : Asc (Str.ofString s) := by
  intro c hc
  rw [Str.ofString_eq_toList] at hc
  obtain ⟨ch, _, rfl⟩ := List.mem_map.mp (by simpa using hc)
  have h := ch.valid
  have e : ch.toNat = ch.val.toNat := rfl
  simp only [UInt32.isValidChar, Nat.isValidChar] at h
  omega
theorem asc_app {x y : Str} (hx : Asc x) (hy : Asc y) : Asc (x ++ y) := by
  intro c hc
  have e : (x ++ y).cps.toList = x.cps.toList ++ y.cps.toList := by
    show (x.cps ++ y.cps).toList = _
    simp
  rw [e] at hc
  rcases List.mem_append.mp hc with z | z
  · exact hx c z
  · exact hy c z
theorem asc_char {q c : Nat} (hq : c < 16 ^ 8) : ∀ d ∈ Builtin.Str.reprChar q c, d < 16 ^ 8 := by
  have hx : ∀ w : Nat, ∀ d ∈ (let e := (Nat.toDigits 16 c).map Char.toNat; List.replicate (w - e.length) 48 ++ e), d < 16 ^ 8 := by
    intro w d hd
    rcases List.mem_append.mp hd with z | z
    · rw [(List.mem_replicate.mp z).2]; decide
    · obtain ⟨ch, _, rfl⟩ := List.mem_map.mp z
      have h := ch.valid
      have e : ch.toNat = ch.val.toNat := rfl
      simp only [UInt32.isValidChar, Nat.isValidChar] at h
      omega
  intro d hd
  unfold Builtin.Str.reprChar at hd
  simp only at hd
  split at hd
  · rcases List.mem_cons.mp hd with z | z
    · rw [z]; decide
    · rw [List.mem_singleton.mp z]; exact hq
  split at hd
  · rcases List.mem_cons.mp hd with z | z
    · rw [z]; decide
    · rw [List.mem_singleton.mp z]; decide
  split at hd
  · rcases List.mem_cons.mp hd with z | z
    · rw [z]; decide
    · rw [List.mem_singleton.mp z]; decide
  split at hd
  · rcases List.mem_cons.mp hd with z | z
    · rw [z]; decide
    · rw [List.mem_singleton.mp z]; decide
  split at hd
  · rw [List.mem_singleton.mp hd]; exact hq
  split at hd
  · rcases List.mem_append.mp hd with z | z
    · rcases List.mem_cons.mp z with z | z
      · rw [z]; decide
      · rw [List.mem_singleton.mp z]; decide
    · exact hx 2 d z
  split at hd
  · rcases List.mem_append.mp hd with z | z
    · rcases List.mem_cons.mp z with z | z
      · rw [z]; decide
      · rw [List.mem_singleton.mp z]; decide
    · exact hx 4 d z
  · rcases List.mem_append.mp hd with z | z
    · rcases List.mem_cons.mp z with z | z
      · rw [z]; decide
      · rw [List.mem_singleton.mp z]; decide
    · exact hx 8 d z
theorem asc_fold {q : Nat} : ∀ (l : List Nat) (acc : Array Nat), (∀ c ∈ l, c < 16 ^ 8) → (∀ c ∈ acc.toList, c < 16 ^ 8) → ∀ d ∈ (l.foldl (fun out c => out ++ (Builtin.Str.reprChar q c).toArray) acc).toList, d < 16 ^ 8
  | [], acc, _, ha => ha
  | c :: l, acc, hl, ha => by
    refine asc_fold l _ (fun d hd => hl d (List.mem_cons_of_mem _ hd)) fun d hd => ?_
    have hd' : d ∈ acc.toList ++ Builtin.Str.reprChar q c := by simpa using hd
    rcases List.mem_append.mp hd' with z | z
    · exact ha d z
    · exact asc_char (hl c List.mem_cons_self) d z
theorem asc_repr {x : Str} (hx : Asc x) : Asc (reprText x) := by
  intro d hd
  have hq : reprQuote x < 16 ^ 8 := by unfold reprQuote; split <;> decide
  unfold reprText at hd
  rw [← Array.foldl_toList, Array.toList_push] at hd
  rcases List.mem_append.mp hd with z | z
  · exact asc_fold _ _ hx (fun c hc => by simp at hc; rw [hc]; exact hq) d z
  · rw [List.mem_singleton.mp z]; exact hq
theorem asc_join {sep : Str} (hs : Asc sep) : ∀ l : List Str, (∀ x ∈ l, Asc x) → Asc (Str.join sep l)
  | [], _ => fun c hc => by simp [Str.join, Str.empty] at hc
  | [x], h => by
    have e : Str.join sep [x] = x := by simp [Str.join]
    rw [e]
    exact h x (by simp)
  | x :: y :: r, h => by
    have e : Str.join sep (x :: y :: r) = x ++ sep ++ Str.join sep (y :: r) := by simp [Str.join]
    rw [e]
    exact asc_app (asc_app (h x (by simp)) hs) (asc_join hs (y :: r) fun z hz => h z (List.mem_cons_of_mem _ hz))
open PyData in
mutual
theorem asc_shown (B : Nat) : ∀ d : PyData, d.leavesShort B = true → Asc d.shown
  | .none, _ => by rw [PyData.shown]; exact asc_of _
  | .bool b, _ => by rw [PyData.shown]; split <;> exact asc_of _
  | .int i, _ => by rw [PyData.shown]; exact asc_of _
  | .str x, h => by
    rw [PyData.shown]
    refine asc_repr fun c hc => ?_
    rw [leavesShort, List.all_eq_true] at h
    exact of_decide_eq_true (h c hc)
  | .list xs, h => by
    rw [shown_list]
    exact asc_app (asc_app (asc_of _) (asc_join (asc_of _) _ (asc_shownAll B xs (by rw [leavesShort] at h; exact h)))) (asc_of _)
  | .tuple xs, h => by
    rw [shown_tuple]
    refine asc_app (asc_app (asc_of _) (asc_join (asc_of _) _ (asc_shownAll B xs (by rw [leavesShort] at h; exact h)))) (asc_of _)
  | .dict kvs, h => by
    rw [shown_dict]
    exact asc_app (asc_app (asc_of _) (asc_join (asc_of _) _ (asc_shownKv B kvs (by rw [leavesShort] at h; exact h)))) (asc_of _)
theorem asc_shownAll (B : Nat) : ∀ xs : List PyData, leavesShortAll B xs = true → ∀ x ∈ shownAll xs, Asc x
  | [], _ => by rw [shownAll]; exact fun _ z => nomatch z
  | d :: xs, h => by
    rw [leavesShortAll, Bool.and_eq_true] at h
    rw [shownAll]
    intro x hx
    rcases List.mem_cons.mp hx with z | z
    · rw [z]; exact asc_shown B d h.1
    · exact asc_shownAll B xs h.2 x z
theorem asc_shownKv (B : Nat) : ∀ kvs : List (PyData × PyData), leavesShortKv B kvs = true → ∀ x ∈ shownKv kvs, Asc x
  | [], _ => by rw [shownKv]; exact fun _ z => nomatch z
  | (k, v) :: r, h => by
    rw [leavesShortKv, Bool.and_eq_true, Bool.and_eq_true] at h
    rw [shownKv]
    intro x hx
    rcases List.mem_cons.mp hx with z | z
    · rw [z]; exact asc_app (asc_app (asc_shown B k h.1.1) (asc_of _)) (asc_shown B v h.1.2)
    · exact asc_shownKv B r h.2 x z
end
/-- data that can be written: its leaves short, its depth, its weight -/
structure Rp (p : PyData) (d w : Nat) : Prop where
  sh : p.showable = true
  sl : p.leavesShort 60 = true
  dp : p.depth ≤ d
  wt : p.weight ≤ w
theorem Rp.fits {p : PyData} {d w : Nat} (h : Rp p d w) (hw : w ≤ 200000) : p.shown.length ≤ sizeLine := by
  have h1 := PyData.shown_le 60 (by decide) p h.sl
  have h2 := h.wt
  rw [sizeLine_eq]
  have : (60 + 2) * p.weight ≤ 62 * 200000 := Nat.mul_le_mul_left 62 (Nat.le_trans h2 hw)
  omega
theorem Rp.mono {p : PyData} {d w d' w' : Nat} (h : Rp p d w) (hd : d ≤ d') (hw : w ≤ w') : Rp p d' w' := ⟨h.sh, h.sl, Nat.le_trans h.dp hd, Nat.le_trans h.wt hw⟩
/-- what was written, written again -/
theorem Rp.text {p : PyData} {d w : Nat} (h : Rp p d w) : Rp (.str p.shown) 0 (62 * w + 60) := by
  refine ⟨by rw [PyData.showable], ?_, by rw [PyData.depth]; exact Nat.le_refl _, ?_⟩
  · rw [PyData.leavesShort, List.all_eq_true]
    exact fun c hc => decide_eq_true (asc_shown 60 p h.sl c hc)
  · rw [PyData.weight]
    have h1 := PyData.shown_le 60 (by decide) p h.sl
    have h2 : (60 + 2) * p.weight ≤ 62 * w := Nat.mul_le_mul_left 62 h.wt
    exact Nat.le_trans h1 (by omega)
structure Rps (ps : List PyData) (d w : Nat) : Prop where
  sh : PyData.showableAll ps = true
  sl : PyData.leavesShortAll 60 ps = true
  dp : PyData.depthAll ps ≤ d
  wt : PyData.weightAll ps ≤ w
theorem Rps.nil {d w : Nat} : Rps [] d w := ⟨by rw [PyData.showableAll], by rw [PyData.leavesShortAll], by rw [PyData.depthAll]; exact Nat.zero_le _, by rw [PyData.weightAll]; exact Nat.zero_le _⟩
theorem Rps.cons {p : PyData} {ps : List PyData} {d w w1 w2 : Nat} (h : Rp p d w1) (t : Rps ps d w2) (hw : w1 + 1 + w2 ≤ w) : Rps (p :: ps) d w := by
  refine ⟨by rw [PyData.showableAll, h.sh, t.sh]; rfl, by rw [PyData.leavesShortAll, h.sl, t.sl]; rfl, ?_, ?_⟩
  · rw [PyData.depthAll]
    exact Nat.max_le.mpr ⟨h.dp, t.dp⟩
  · rw [PyData.weightAll]
    have := h.wt
    have := t.wt
    omega
theorem Rps.list {ps : List PyData} {d w : Nat} (h : Rps ps d w) : Rp (.list ps) (d + 1) w := by
  refine ⟨by rw [PyData.showable]; exact h.sh, by rw [PyData.leavesShort]; exact h.sl, ?_, by rw [PyData.weight]; exact h.wt⟩
  rw [PyData.depth]
  have := h.dp
  omega
theorem Rps.tuple {ps : List PyData} {d w : Nat} (h : Rps ps d w) : Rp (.tuple ps) (d + 1) w := by
  refine ⟨by rw [PyData.showable]; exact h.sh, by rw [PyData.leavesShort]; exact h.sl, ?_, by rw [PyData.weight]; exact h.wt⟩
  rw [PyData.depth]
  have := h.dp
  omega
theorem Rp.bool (b : Bool) : Rp (.bool b) 0 0 := ⟨by rw [PyData.showable], by rw [PyData.leavesShort], by rw [PyData.depth]; exact Nat.le_refl _, by rw [PyData.weight]; exact Nat.le_refl _⟩
theorem Rp.none : Rp .none 0 0 := ⟨by rw [PyData.showable], by rw [PyData.leavesShort], by rw [PyData.depth]; exact Nat.le_refl _, by rw [PyData.weight]; exact Nat.le_refl _⟩

theorem int_wt {i : Int} {k : Nat} (h : i.natAbs < 2 ^ k) : (PyData.int i).weight ≤ k := by
  rw [PyData.weight]
  by_cases h0 : i = 0
  · subst h0
    simp
  · have hb : (i == 0) = false := by simpa using h0
    rw [hb]
    have hn : i.natAbs ≠ 0 := by omega
    have := (Nat.log2_lt hn).mpr h
    simp only [Bool.false_eq_true, if_false]
    omega
theorem Rp.int {i : Int} {k : Nat} (h : i.natAbs < 2 ^ k) (hk : k ≤ 150) : Rp (.int i) 0 k := by
  have h1 : i.natAbs < 10 ^ 46 := Nat.lt_of_lt_of_le h (Nat.le_trans (Nat.pow_le_pow_right (by decide) hk) (by decide))
  have sl : (PyData.int i).leavesShort 60 = true := by
    rw [PyData.leavesShort]
    refine decide_eq_true ?_
    rw [PyData.shown]
    have e : (Str.ofString (toString i)).length = (toString i).length := by
      rw [Str.ofString_eq_toList]
      show ((toString i).toList.map Char.toNat).toArray.size = _
      simp [String.length]
    rw [e]
    exact Nat.le_trans (int_text_length_le10 (k := 46) (by decide) h1) (by decide)
  refine ⟨?_, sl, by rw [PyData.depth]; exact Nat.le_refl _, int_wt h⟩
  rw [PyData.showable]
  refine decide_eq_true ?_
  by_cases h0 : i.natAbs = 0
  · rw [h0]; decide
  · exact (Nat.log2_lt h0).mpr (Nat.lt_of_lt_of_le h (Nat.pow_le_pow_right (by decide) (by omega)))
theorem Rps.ints {k : Nat} (hk : k ≤ 150) : ∀ {ns : List Int}, (∀ i ∈ ns, i.natAbs < 2 ^ k) → Rps (ns.map .int) 0 ((k + 1) * ns.length)
  | [], _ => .nil
  | i :: ns, h => by
    rw [List.map_cons]
    refine .cons (Rp.int (h i List.mem_cons_self) hk) (Rps.ints hk fun j hj => h j (List.mem_cons_of_mem _ hj)) ?_
    rw [List.length_cons, Nat.mul_succ]
    omega
/-! ### equal whole numbers -/
theorem eqv_ints : ∀ (ns ms : List Int), PyData.eqvAll (ns.map .int) (ms.map .int) = decide (ns = ms)
  | [], [] => by simp [PyData.eqvAll]
  | [], m :: ms => by simp [PyData.eqvAll]
  | n :: ns, [] => by simp [PyData.eqvAll]
  | n :: ns, m :: ms => by
    rw [List.map_cons, List.map_cons, PyData.eqvAll, eqv_ints ns ms, PyData.eqv]
    by_cases h1 : n = m
    · subst h1
      by_cases h2 : ns = ms
      · simp [h2]
      · simp [h2]
    · have : (n == m) = false := beq_eq_false_iff_ne.mpr h1
      simp [this, h1]
theorem lay_ints : ∀ ns : List Int, PyData.canLayAll0 (ns.map .int) = true
  | [] => by simp [PyData.canLayAll0]
  | n :: ns => by rw [List.map_cons, PyData.canLayAll0, lay_ints ns, PyData.canLay0]; rfl
theorem depth_ints : ∀ ns : List Int, PyData.depthAll (ns.map .int) = 0
  | [] => by rw [List.map_nil, PyData.depthAll]
  | n :: ns => by rw [List.map_cons, PyData.depthAll, depth_ints ns, PyData.depth]; rfl
theorem shaped_of {p : PyData} (h : p.canLay0 = true) (hd : p.depth ≤ 64) : SeqAt.shaped p = true := by
  show (p.canLay0 && decide (p.depth ≤ 64)) = true
  rw [h, decide_eq_true hd]
  rfl
theorem shaped_tints (ns : List Int) : SeqAt.shaped (.tuple (ns.map .int)) = true := shaped_of (by rw [PyData.canLay0]; exact lay_ints ns) (by rw [PyData.depth, depth_ints]; decide)
theorem shaped_lints (ns : List Int) : SeqAt.shaped (.list (ns.map .int)) = true := shaped_of (by rw [PyData.canLay0]; exact lay_ints ns) (by rw [PyData.depth, depth_ints]; decide)
theorem shaped_int (n : Int) : SeqAt.shaped (.int n) = true := shaped_of (by rw [PyData.canLay0]) (by rw [PyData.depth]; decide)
theorem pds_ints {m : MH} : ∀ ns : List Int, PDs m (ns.map .int) (ns.map .int)
  | [] => .nil
  | n :: ns => .cons (.int n) (pds_ints ns)
theorem pd_ints {m : MH} (ns : List Int) : PD m (tInts ns) (.tuple (ns.map .int)) := .tup (pds_ints ns)
theorem eq_tints {ns ms : List Int} {m : MH} {Q : DK} (q : Q (.bl (decide (ns = ms))) m) : aEq (tInts ns) (tInts ms) m Q := by
  refine .inr ⟨_, _, pd_ints ns, pd_ints ms, shaped_tints ns, shaped_tints ms, ?_⟩
  rw [PyData.eqv, eqv_ints]
  exact q
theorem ne_tints {ns ms : List Int} {m : MH} {Q : DK} (q : Q (.bl (!decide (ns = ms))) m) : aNe (tInts ns) (tInts ms) m Q := by
  refine .inr ⟨_, _, pd_ints ns, pd_ints ms, shaped_tints ns, shaped_tints ms, ?_⟩
  rw [PyData.eqv, eqv_ints]
  exact q
theorem eq_int {i j : Int} {m : MH} {Q : DK} (q : Q (.bl (decide (i = j))) m) : aEq (.int i) (.int j) m Q := by
  refine .inr ⟨_, _, .int i, .int j, shaped_int i, shaped_int j, ?_⟩
  rw [PyData.eqv, show (i == j) = decide (i = j) from rfl]
  exact q
theorem ne_int {i j : Int} {m : MH} {Q : DK} (q : Q (.bl (!decide (i = j))) m) : aNe (.int i) (.int j) m Q := by
  refine .inr ⟨_, _, .int i, .int j, shaped_int i, shaped_int j, ?_⟩
  rw [PyData.eqv, show (i == j) = decide (i = j) from rfl]
  exact q
/-- two texts that were written of the same -/
theorem ne_same {x y : Str} {m : MH} {Q : DK} (h : x = y) (q : Q (.bl false) m) : aNe (.str x) (.str y) m Q := .inl ⟨x, y, rfl, rfl, by rw [decide_eq_true h]; exact q⟩
theorem repr_d {d : D} {p : PyData} {dd w : Nat} {m : MH} {Q : DK} (h : PD m d p ∨ PX m d p) (r : Rp p dd w) (hd : dd ≤ 40) (hw : w ≤ 200000) (q : Q (.str p.shown) m) : bRepr [d] m Q := ⟨d, p, rfl, h, r.sh, Nat.le_trans r.dp hd, r.fits hw, q⟩
/-! ### comprehensions of elements that change nothing that stood -/
theorem lc_filter {chk : MH → Prop} {g : DG} {tt : DT} {te : DE} {vs : List Nat} {p : Addr} {Q : DK} {ds : Sd} {m0 : MH} (c : D → Bool) (f : D → D) (items : List D) (hp : m0 p = none) (hz : items.length < sizeLine) (hchk : ∀ m', Grow m0 m' → chk m')
    (hel : ∀ x ∈ items, ∀ (m' : MH) (N1 : DK) (N2 : MH → Prop), Grow m0 m' → (c x = true → ∀ m'', Grow m' m'' → N1 (f x) m'') → (c x = false → ∀ m'', Grow m' m'' → N2 m'') →
      g x (dwipe ds vs) m' fun ds2 m2 => tt ds2 m2 fun b m3 => if b = true then te ds2 m3 N1 else N2 m3)
    (hq : ∀ m', Grow m0 m' → m' p = some (.lst ((items.filter c).map f)) → Q (.ref p) m') : dLcL chk g tt te vs p Q ds items (mup m0 p (.lst [])) := by
  refine lc_by (fun l m' => ∃ done, items = done ++ l ∧ Grow m0 m' ∧ m' p = some (.lst ((done.filter c).map f))) (fun m' h => ?_) (fun x r m' N hN h => ?_) items _ ⟨[], rfl, Grow.new hp, mup_same⟩
  · obtain ⟨done, e, hg, ha⟩ := h
    rw [List.append_nil] at e
    subst e
    exact ⟨hchk m' hg, hq m' hg ha⟩
  · obtain ⟨done, e, hg, ha⟩ := h
    have hx : x ∈ items := by rw [e]; simp
    refine ⟨hchk m' hg, hel x hx m' _ _ hg (fun hc m'' g2 => ?_) fun hc m'' g2 => ?_⟩
    · have h2 := g2 _ _ ha
      have hl : ((done.filter c).map f).length < sizeLine := by
        rw [List.length_map]
        have h3 := List.length_filter_le c done
        have h4 : items.length = done.length + (x :: r).length := by rw [e, List.length_append]
        omega
      refine ⟨_, h2, hl, hN _ ⟨done ++ [x], by rw [e]; simp, fun b o eb => ?_, ?_⟩⟩
      · rw [mup_ne (mne_of_none eb hp)]
        exact g2 _ _ (hg _ _ eb)
      · rw [mup_same, List.filter_append, List.filter_cons_of_pos hc, List.map_append]
        rfl
    · refine hN _ ⟨done ++ [x], by rw [e]; simp, hg.trans g2, ?_⟩
      rw [g2 _ _ ha, List.filter_append, List.filter_cons_of_neg (by simp [hc])]
      simp
theorem lc_map {chk : MH → Prop} {g : DG} {te : DE} {vs : List Nat} {p : Addr} {Q : DK} {ds : Sd} {m0 : MH} (f : D → D) (items : List D) (hp : m0 p = none) (hz : items.length < sizeLine) (hchk : ∀ m', Grow m0 m' → chk m')
    (hel : ∀ x ∈ items, ∀ (m' : MH) (N : DK), Grow m0 m' → (∀ m'', Grow m' m'' → N (f x) m'') → g x (dwipe ds vs) m' fun ds2 m2 => te ds2 m2 N)
    (hq : ∀ m', Grow m0 m' → m' p = some (.lst (items.map f)) → Q (.ref p) m') : dLcL chk g dYes te vs p Q ds items (mup m0 p (.lst [])) := by
  refine lc_by (fun l m' => ∃ done, items = done ++ l ∧ Grow m0 m' ∧ m' p = some (.lst (done.map f))) (fun m' h => ?_) (fun x r m' N hN h => ?_) items _ ⟨[], rfl, Grow.new hp, mup_same⟩
  · obtain ⟨done, e, hg, ha⟩ := h
    rw [List.append_nil] at e
    subst e
    exact ⟨hchk m' hg, hq m' hg ha⟩
  · obtain ⟨done, e, hg, ha⟩ := h
    have hx : x ∈ items := by rw [e]; simp
    refine ⟨hchk m' hg, hel x hx m' _ hg fun m'' g2 => ?_⟩
    have h2 := g2 _ _ ha
    have hl : (done.map f).length < sizeLine := by
      rw [List.length_map]
      have h4 : items.length = done.length + (x :: r).length := by rw [e, List.length_append]
      rw [List.length_cons] at h4
      omega
    refine ⟨_, h2, hl, hN _ ⟨done ++ [x], by rw [e]; simp, fun b o eb => ?_, ?_⟩⟩
    · rw [mup_ne (mne_of_none eb hp)]
      exact g2 _ _ (hg _ _ eb)
    · rw [mup_same, List.map_append]
      rfl
/-- draws -/
theorem lc_draws {g : DG} {te : DE} {vs : List Nat} {p : Addr} {dk : Addr × Addr} {Q : DK} {ds : Sd} {m0 : MH} {n : Nat} (k : Int) (items : List D) (hp : m0 p = none) (hz : items.length < sizeLine) (hD : Deck m0 dk n) (hn : n + items.length ≤ 2 ^ 40)
    (hel : ∀ x ∈ items, ∀ (m' : MH) (j : Nat) (N : DK), Deck m' dk j → j ≤ 2 ^ 40 → (∀ (r : Int) m'', 0 ≤ r → r < k → Deck m'' dk (j + 1) → Keep dk.1 m' m'' → N (.int r) m'') → g x (dwipe ds vs) m' fun ds2 m2 => te ds2 m2 N)
    (hq : ∀ m' (rs : List Int), rs.length = items.length → (∀ r ∈ rs, 0 ≤ r ∧ r < k) → Keep dk.1 m0 m' → Deck m' dk (n + items.length) → m' p = some (.lst (rs.map .int)) → Q (.ref p) m') : dLcL (fun _ => True) g dYes te vs p Q ds items (mup m0 p (.lst [])) := by
  obtain ⟨hdp, hcp⟩ := hD.fresh hp
  refine lc_by (fun l m' => ∃ (done : List D) (rs : List Int), items = done ++ l ∧ rs.length = done.length ∧ (∀ r ∈ rs, 0 ≤ r ∧ r < k) ∧ Keep dk.1 m0 m' ∧ Deck m' dk (n + done.length) ∧ m' p = some (.lst (rs.map .int))) (fun m' h => ?_) (fun x r m' N hN h => ?_) items _
    ⟨[], [], rfl, rfl, (fun r hr => by simp at hr), (Grow.new hp).keep, hD.at (Grow.new hp), mup_same⟩
  · obtain ⟨done, rs, e, hl, hr, hk, hd, ha⟩ := h
    rw [List.append_nil] at e
    subst e
    exact ⟨trivial, hq m' rs hl hr hk hd ha⟩
  · obtain ⟨done, rs, e, hl, hr, hk, hd, ha⟩ := h
    have hx : x ∈ items := by rw [e]; simp
    have h4 : items.length = done.length + (r.length + 1) := by rw [e, List.length_append]; rfl
    refine ⟨trivial, hel x hx m' _ _ hd (by omega) fun z m'' z0 z1 hd2 hk2 => ?_⟩
    have h2 := hk2 _ _ hdp ha
    refine ⟨_, h2, by rw [List.length_map]; omega, hN _ ⟨done ++ [x], rs ++ [z], by rw [e]; simp, by simp [hl], fun y hy => ?_, fun b o nb eb => ?_, ?_, ?_⟩⟩
    · rcases List.mem_append.mp hy with q | q
      · exact hr y q
      · rw [List.mem_singleton.mp q]; exact ⟨z0, z1⟩
    · rw [mup_ne (mne_of_none eb hp)]
      exact hk2 _ _ nb (hk _ _ nb eb)
    · have := hd2.upd (o := .lst (rs.map .int ++ [.int z])) hdp hcp
      rw [List.length_append, List.length_singleton]
      exact this
    · rw [mup_same, List.map_append]
      rfl
end DL
/-! What values are: the program's and the law's own looks. -/
namespace DL
open PySem PySem.Spec PyProof.Rows L2
/-! ### kinds -/
def kinds : List String := ["NoneType", "bool", "int", "str", "tuple", "list", "dict"]
theorem tyD_kind {m : MH} {x : D} {t : String} (h : tyD m x = some t) : t ∈ kinds := by
  cases x with
  | ref a =>
    unfold tyD at h
    cases q : m a with
    | none => simp [q] at h
    | some o => cases o <;> simp [q] at h <;> subst h <;> decide
  | non => cases h; decide
  | bl b => cases h; decide
  | int i => cases h; decide
  | str z => cases h; decide
  | tup l => cases h; decide
  | rol l => cases h; decide
theorem kit_int : ∀ t ∈ kinds, kitB t "int" = some (t == "int" || t == "bool") := by decide +kernel
theorem kit_bool : ∀ t ∈ kinds, kitB t "bool" = some (t == "bool") := by decide +kernel
theorem kit_tuple : ∀ t ∈ kinds, kitB t "tuple" = some (t == "tuple") := by decide +kernel
theorem kit_str : ∀ t ∈ kinds, kitB t "str" = some (t == "str") := by decide +kernel
theorem kit_list : ∀ t ∈ kinds, kitB t "list" = some (t == "list") := by decide +kernel
def Ty (m : MH) (x : D) : Prop := ∃ t, tyD m x = some t
theorem tyD_grow {m m' : MH} {x : D} {t : String} (g : ∀ a o, x = .ref a → m a = some o → m' a = some o) (h : tyD m x = some t) : tyD m' x = some t := by
  cases x with
  | ref a =>
    unfold tyD at h ⊢
    cases q : m a with
    | none => simp [q] at h
    | some o =>
      have q' := g a o rfl q
      simpa [q', q] using h
  | _ => exact h
theorem Ty.grow {m m' : MH} {x : D} (h : Ty m x) (g : Grow m m') : Ty m' x := by
  obtain ⟨t, h⟩ := h
  exact ⟨t, tyD_grow (fun a o _ e => g a o e) h⟩
/-- a whole number within bounds -/
def intIn (lo hi : Int) : D → Bool
  | .int i => decide (lo ≤ i) && decide (i ≤ hi)
  | _ => false
def isTup : D → Bool
  | .tup _ => true
  | _ => false
theorem ty_tup {m : MH} {x : D} {t : String} (h : tyD m x = some t) : (t == "tuple") = isTup x := by
  cases x with
  | ref a =>
    unfold tyD at h
    cases q : m a with
    | none => simp [q] at h
    | some o => cases o <;> simp [q] at h <;> subst h <;> simp [isTup]
  | non => cases h; simp [isTup]
  | bl b => cases h; simp [isTup]
  | int i => cases h; simp [isTup]
  | str z => cases h; simp [isTup]
  | tup l => cases h; simp [isTup]
  | rol l => cases h; simp [isTup]
/-- isinstance(x, tuple) -/
theorem isi_tup {f : DE} {ds : Sd} {m : MH} {Q : DK} {x : D} (h : ∀ Q', Q' x m → f ds m Q') (ht : Ty m x) (q : Q (.bl (isTup x)) m) : dIsi "tuple" f ds m Q := by
  obtain ⟨t, ht⟩ := ht
  exact h _ ⟨t, _, ht, kit_tuple t (tyD_kind ht), by rw [ty_tup ht]; exact q⟩
def b_is_integer : DS := (dRet (dAnd (dIsi "int" (dVar 0)) (dAnd (dNot (dIsi "bool" (dVar 0))) (dChain aLe aLe (dVar 1) (dVar 0) (dVar 2)))))
/-- slots: 0 value, 1 low, 2 high -/
def n_is_integer : Nat := 3
def sp_is_integer : DSp := fun ds m Q => ∃ v lo hi, ds = [v, .int lo, .int hi] ∧ Ty m v ∧ Q (.bl (intIn lo hi v)) m
theorem int_body {v : D} {lo hi : Int} {m : MH} {Q : DK} (ht : Ty m v) (q : Q (.bl (intIn lo hi v)) m) : (dRet (dAnd (dIsi "int" (dVar 0)) (dAnd (dNot (dIsi "bool" (dVar 0))) (dChain aLe aLe (dVar 1) (dVar 0) (dVar 2)))))
    { nx := fun _ m' => Q .non m', rt := Q } [some v, some (.int lo), some (.int hi)] m := by
  obtain ⟨t, ht⟩ := ht
  have hk := tyD_kind ht
  simp only [dRet, dAnd, dIsi, dVar, dNot, dChain, List.getElem?_cons_zero, List.getElem?_cons_succ, Option.some.injEq, exists_eq_left']
  refine ⟨t, _, ht, kit_int t hk, _, rfl, ?_⟩
  cases v with
  | int i =>
    cases ht
    rw [if_pos (by decide)]
    refine ⟨_, _, rfl, kit_bool _ hk, _, rfl, _, rfl, ?_⟩
    rw [if_pos (by decide)]
    simp only [aLe]
    refine ⟨_, rfl, ?_⟩
    by_cases h : lo ≤ i
    · rw [if_pos (decide_eq_true h)]
      have e : intIn lo hi (.int i) = decide (i ≤ hi) := by simp [intIn, h]
      rw [← e]
      exact q
    · rw [if_neg (by simpa using h)]
      have e : intIn lo hi (.int i) = false := by simp [intIn, h]
      rw [← e]
      exact q
  | bl b =>
    cases ht
    rw [if_pos (by decide)]
    refine ⟨_, _, rfl, kit_bool _ hk, _, rfl, _, rfl, ?_⟩
    rw [if_neg (by decide)]
    exact q
  | non => cases ht; rw [if_neg (by decide)]; exact q
  | str z => cases ht; rw [if_neg (by decide)]; exact q
  | tup l => cases ht; rw [if_neg (by decide)]; exact q
  | rol l => cases ht; rw [if_neg (by decide)]; exact q
  | ref a =>
    have e : (t == "int" || t == "bool") = false := by
      unfold tyD at ht
      cases q : m a with
      | none => simp [q] at ht
      | some o => cases o <;> simp [q] at ht <;> subst ht <;> decide
    rw [e, if_neg (by decide)]
    exact q
theorem hp_is_integer : ∀ ds m Q, sp_is_integer ds m Q → b_is_integer { nx := fun _ m' => Q .non m', rt := Q } (dstart 3 ds) m := by
  rintro ds m Q ⟨v, lo, hi, rfl, ht, q⟩
  exact int_body ht q
def b__law_is_whole : DS := (dRet (dAnd (dIsi "int" (dVar 0)) (dAnd (dNot (dIsi "bool" (dVar 0))) (dChain aLe aLe (dVar 1) (dVar 0) (dVar 2)))))
/-- slots: 0 value, 1 low, 2 high -/
def n__law_is_whole : Nat := 3
def sp__law_is_whole : DSp := sp_is_integer
theorem hp__law_is_whole : ∀ ds m Q, sp__law_is_whole ds m Q → b__law_is_whole { nx := fun _ m' => Q .non m', rt := Q } (dstart 3 ds) m := by
  rintro ds m Q ⟨v, lo, hi, rfl, ht, q⟩
  exact int_body ht q
/-! ### signs, words -/
def areSigns (s : Int) : D → Bool
  | .tup l => l.all (intIn 0 (s - 1))
  | _ => false
def isWord (s : Int) : D → Bool
  | .tup l => l.all (intIn 0 (s - 1)) && decide (l.length ≤ 16)
  | _ => false
theorem map_bl {α : Type} (c : α → Bool) (l : List α) : l.map (fun x => D.bl (c x)) = (l.map c).map .bl := by rw [List.map_map]; rfl
theorem all_map {α : Type} (c : α → Bool) (l : List α) : (l.map c).all id = l.all c := by rw [List.all_map]; rfl
theorem small_len {n : Nat} (h : n ≤ 100000) : n < sizeLine := Nat.lt_of_le_of_lt h (by decide)
/-- all([f(x) for x in l]) of the items of a tuple -/
theorem all_lc {l : List D} {c : D → Bool} {g : DG} {te : DE} {vs : List Nat} {ds : Sd} {m : MH} {Q : DK} {t : DE} (ht : ∀ Q', Q' (.tup l) m → t ds m Q') (hz : l.length ≤ 100000)
    (hel : ∀ x ∈ l, ∀ (m' : MH) (N : DK), Grow m m' → N (.bl (c x)) m' → g x (dwipe ds vs) m' fun ds2 m2 => te ds2 m2 N) (q : ∀ m', Grow m m' → Q (.bl (l.all c)) m') :
    dB1 bAll (dCons (dLc (iAny t) g dYes te vs) dNil) ds m Q := by
  simp only [dB1, dCons, dNil, dLc, iAny]
  refine ht _ fun p hp => ?_
  refine lc_map (fun x => .bl (c x)) l hp (small_len hz) (fun _ _ => trivial) (fun x hx m' N hg hN => hel x hx m' N hg (hN m' (Grow.refl _))) fun m' hg hm => ?_
  refine ⟨p, l.map c, rfl, by rw [hm, map_bl], ?_⟩
  rw [all_map]
  exact q m' hg
def b_are_signs : DS := (dRet (dAnd (dIsi "tuple" (dVar 1)) (dB1 bAll (dCons (dLc (iAny (dVar 1)) (gN 2) dYes (dCall sp_is_integer (dCons (dVar 2) (dCons (dC (.int 0)) (dCons (dOp aSub (dVar 0) (dC (.int 1))) dNil)))) [2]) dNil))))
/-- slots: 0 signs, 1 value, 2 item -/
def n_are_signs : Nat := 3
def TyI (m : MH) (v : D) : Prop := Ty m v ∧ ∀ l, v = .tup l → l.length ≤ 100000 ∧ ∀ x ∈ l, Ty m x
def sp_are_signs : DSp := fun ds m Q => ∃ s v, ds = [.int s, v] ∧ TyI m v ∧ ∀ m', Grow m m' → Q (.bl (areSigns s v)) m'
theorem hp_are_signs : ∀ ds m Q, sp_are_signs ds m Q → b_are_signs { nx := fun _ m' => Q .non m', rt := Q } (dstart 3 ds) m := by
  rintro ds m Q ⟨s, v, rfl, ⟨ht, hi⟩, q⟩
  show b_are_signs _ [some (.int s), some v, none] m
  simp only [b_are_signs, dRet, dAnd]
  refine isi_tup (x := v) (fun Q' h => ⟨v, rfl, h⟩) ht ⟨_, rfl, ?_⟩
  cases v with
  | tup l =>
    rw [if_pos (show isTup (.tup l) = true from rfl)]
    obtain ⟨hz, hi⟩ := hi l rfl
    refine all_lc (l := l) (c := intIn 0 (s - 1)) (fun Q' h => ⟨_, rfl, h⟩) hz (fun x hx m' N hg hN => ?_) q
    simp only [gN, dwipe, dCall, dCons, dNil, dVar, dC, dOp, List.set_cons_zero, List.set_cons_succ, List.getElem?_cons_zero, List.getElem?_cons_succ, Option.some.injEq, exists_eq_left', aSub]
    exact ⟨x, 0, s - 1, rfl, (hi x hx).grow hg, hN⟩
  | _ => exact q m (Grow.refl m)
abbrev c_MAX_LONG : D := .int 16
def b_is_word : DS := (dRet (dAnd (dCall sp_are_signs (dCons (dVar 0) (dCons (dVar 1) dNil))) (dOp aLe (dB1 bLen (dCons (dVar 1) dNil)) (dC c_MAX_LONG))))
/-- slots: 0 signs, 1 value -/
def n_is_word : Nat := 2
def sp_is_word : DSp := fun ds m Q => ∃ s v, ds = [.int s, v] ∧ TyI m v ∧ ∀ m', Grow m m' → Q (.bl (isWord s v)) m'
theorem hp_is_word : ∀ ds m Q, sp_is_word ds m Q → b_is_word { nx := fun _ m' => Q .non m', rt := Q } (dstart 2 ds) m := by
  rintro ds m Q ⟨s, v, rfl, ht, q⟩
  show b_is_word _ [some (.int s), some v] m
  simp only [b_is_word, dRet, dAnd, dCall, dCons, dNil, dVar, dC, dOp, dB1, List.getElem?_cons_zero, List.getElem?_cons_succ, Option.some.injEq, exists_eq_left', c_MAX_LONG]
  refine ⟨s, v, rfl, ht, fun m' hg => ⟨_, rfl, ?_⟩⟩
  cases v with
  | tup l =>
    have e : isWord s (.tup l) = (areSigns s (.tup l) && decide (l.length ≤ 16)) := rfl
    cases h : areSigns s (.tup l) with
    | true =>
      rw [if_pos rfl]
      simp only [bLen, aLe]
      have e2 : decide ((l.length : Int) ≤ 16) = isWord s (.tup l) := by
        rw [e, h, Bool.true_and]
        by_cases hl : l.length ≤ 16
        · rw [decide_eq_true hl, decide_eq_true (by omega)]
        · rw [decide_eq_false hl, decide_eq_false (by omega)]
      rw [e2]
      exact q m' hg
    | false =>
      rw [if_neg (by decide)]
      have e2 : isWord s (.tup l) = false := by rw [e, h]; rfl
      rw [← e2]
      exact q m' hg
  | _ => exact q m' hg
def b__law_is_word : DS := (dSeq (dIf (dOrT (dNotT (dB (dIsi "tuple" (dVar 1)))) (dB (dOp aGt (dB1 bLen (dCons (dVar 1) dNil)) (dC (.int 16))))) (dRet (dC (.bl false))) dSkip)
  (dRet (dB1 bAll (dCons (dLc (iAny (dVar 1)) (gN 2) dYes (dCall sp__law_is_whole (dCons (dVar 2) (dCons (dC (.int 0)) (dCons (dOp aSub (dVar 0) (dC (.int 1))) dNil)))) [2]) dNil))))
/-- slots: 0 signs, 1 value, 2 sign -/
def n__law_is_word : Nat := 3
def sp__law_is_word : DSp := sp_is_word
theorem hp__law_is_word : ∀ ds m Q, sp__law_is_word ds m Q → b__law_is_word { nx := fun _ m' => Q .non m', rt := Q } (dstart 3 ds) m := by
  rintro ds m Q ⟨s, v, rfl, ⟨ht, hi⟩, q⟩
  show b__law_is_word _ [some (.int s), some v, none] m
  simp only [b__law_is_word, dSeq, dIf, dOrT, dNotT, dB]
  refine isi_tup (x := v) (fun Q' h => ⟨v, rfl, h⟩) ht ⟨_, rfl, ?_⟩
  cases v with
  | tup l =>
    rw [if_neg (show ¬ (!isTup (.tup l)) = true from Bool.false_ne_true)]
    obtain ⟨hz, hi⟩ := hi l rfl
    simp only [dOp, dB1, dCons, dNil, dVar, dC, List.getElem?_cons_zero, List.getElem?_cons_succ, Option.some.injEq, exists_eq_left', bLen, aGt]
    refine ⟨_, rfl, ?_⟩
    by_cases h : 16 < (l.length : Int)
    · rw [if_pos (decide_eq_true h)]
      have e : isWord s (.tup l) = false := by
        have : ¬ l.length ≤ 16 := by omega
        simp [isWord, this]
      have := q m (Grow.refl m)
      rw [e] at this
      exact this
    · rw [if_neg (by simpa using h)]
      have e : isWord s (.tup l) = l.all (intIn 0 (s - 1)) := by
        have : l.length ≤ 16 := by omega
        simp [isWord, this]
      rw [e] at q
      simp only [dSkip, dRet]
      refine all_lc (l := l) (c := intIn 0 (s - 1)) (fun Q' h => ⟨_, rfl, h⟩) hz (fun x hx m' N hg hN => ?_) q
      simp only [gN, dwipe, dCall, dCons, dNil, dVar, dC, dOp, List.set_cons_zero, List.set_cons_succ, List.getElem?_cons_zero, List.getElem?_cons_succ, Option.some.injEq, exists_eq_left', aSub]
      exact ⟨x, 0, s - 1, rfl, (hi x hx).grow hg, hN⟩
  | _ => exact q m (Grow.refl m)
/-! ### one word begins another -/
def isPre (a b : List Int) : Bool := decide (b.take a.length = a)
theorem cut_ints (b : List Int) (k : Nat) : cutD (b.map D.int) none (some (k : Int)) = (b.take k).map .int := by rw [cut_to, List.map_take]
def b_is_start : DS := (dRet (dOp aEq (dSl (dVar 1) dNo (dPart (dB1 bLen (dCons (dVar 0) dNil)))) (dVar 0)))
/-- slots: 0 one, 1 other -/
def n_is_start : Nat := 2
def sp_is_start : DSp := fun ds m Q => ∃ a b, ds = [tInts a, tInts b] ∧ Q (.bl (isPre a b)) m
theorem hp_is_start : ∀ ds m Q, sp_is_start ds m Q → b_is_start { nx := fun _ m' => Q .non m', rt := Q } (dstart 2 ds) m := by
  rintro ds m Q ⟨a, b, rfl, q⟩
  show b_is_start _ [some (tInts a), some (tInts b)] m
  simp only [b_is_start, dRet, dOp, dSl, dVar, dNo, dPart, dB1, dCons, dNil, List.getElem?_cons_zero, List.getElem?_cons_succ, Option.some.injEq, exists_eq_left']
  refine ⟨_, rfl, ?_⟩
  show aEq (.tup (cutD (b.map D.int) none (some ((a.map D.int).length : Int)))) (tInts a) m Q
  rw [List.length_map, cut_ints]
  exact eq_tints q
def b__law_starts : DS := (dRet (dAnd (dOp aLe (dB1 bLen (dCons (dVar 0) dNil)) (dB1 bLen (dCons (dVar 1) dNil))) (dOp aEq (dB1 bList (dCons (dVar 0) dNil)) (dB1 bList (dCons (dSl (dVar 1) dNo (dPart (dB1 bLen (dCons (dVar 0) dNil)))) dNil)))))
/-- slots: 0 one, 1 other -/
def n__law_starts : Nat := 2
def sp__law_starts : DSp := fun ds m Q => ∃ a b, ds = [tInts a, tInts b] ∧ ∀ m', Grow m m' → Q (.bl (isPre a b)) m'
theorem eq_lints {ns ms : List Int} {m : MH} {Q : DK} {p r : Addr} (h1 : m p = some (.lst (ns.map .int))) (h2 : m r = some (.lst (ms.map .int))) (q : Q (.bl (decide (ns = ms))) m) : aEq (.ref p) (.ref r) m Q := by
  refine .inr ⟨_, _, .lst h1 (pds_ints ns), .lst h2 (pds_ints ms), shaped_lints ns, shaped_lints ms, ?_⟩
  rw [PyData.eqv, eqv_ints]
  exact q
theorem hp__law_starts : ∀ ds m Q, sp__law_starts ds m Q → b__law_starts { nx := fun _ m' => Q .non m', rt := Q } (dstart 2 ds) m := by
  rintro ds m Q ⟨a, b, rfl, q⟩
  show b__law_starts _ [some (tInts a), some (tInts b)] m
  simp only [b__law_starts, dRet, dAnd, dOp, dSl, dVar, dNo, dPart, dB1, dCons, dNil, List.getElem?_cons_zero, List.getElem?_cons_succ, Option.some.injEq, exists_eq_left']
  simp only [tInts, bLen, aLe, List.length_map]
  refine ⟨_, rfl, ?_⟩
  by_cases h : (a.length : Int) ≤ b.length
  · rw [if_pos (decide_eq_true h)]
    simp only [bList, aSl, D.int.injEq, exists_eq_left', cut_ints]
    intro r hr u hu
    refine eq_lints (ns := a) (ms := b.take a.length) ?_ mup_same ?_
    · rw [mup_ne (mne_of_none mup_same hu)]
      exact mup_same
    · have e : decide (a = b.take a.length) = isPre a b := by
        unfold isPre
        by_cases h : b.take a.length = a
        · rw [decide_eq_true h, decide_eq_true h.symm]
        · rw [decide_eq_false h, decide_eq_false (fun e => h e.symm)]
      rw [e]
      exact q _ ((Grow.new hr).trans (Grow.new hu))
  · rw [if_neg (by simpa using h)]
    have e : isPre a b = false := by
      unfold isPre
      refine decide_eq_false fun z => ?_
      have := congrArg List.length z
      rw [List.length_take] at this
      omega
    have := q m (Grow.refl m)
    rw [e] at this
    exact this
end DL
/-! A value of some kind. -/
namespace DL
open PySem PySem.Spec PyProof.Rows L2
theorem le_line {n : Nat} (h : n ≤ 1000) : (n ≤ sizeLine) = True := eq_true (Nat.le_of_lt (small1000 h))
theorem lt_line {n : Nat} (h : n ≤ 1000) : (n < sizeLine) = True := eq_true (small1000 h)
/-! ### what stays of data -/
section
variable {m m' : MH}
mutual
theorem PD.at (h : ∀ a l, m a = some (.lst l) → m' a = some (.lst l)) : ∀ {d : D} {p : PyData}, PD m d p → PD m' d p
  | _, _, .non => .non
  | _, _, .bl b => .bl b
  | _, _, .int i => .int i
  | _, _, .str x => .str x
  | _, _, .tup t => .tup (PDs.at h t)
  | _, _, .rol t => .rol (PDs.at h t)
  | _, _, .lst e t => .lst (h _ _ e) (PDs.at h t)
theorem PDs.at (h : ∀ a l, m a = some (.lst l) → m' a = some (.lst l)) : ∀ {d : List D} {p : List PyData}, PDs m d p → PDs m' d p
  | _, _, .nil => .nil
  | _, _, .cons a b => .cons (PD.at h a) (PDs.at h b)
end
mutual
theorem PX.at (h : ∀ (a : Addr) (kvs : List (Key × D)) ps, PLs (kvs.map (·.2)) ps → m a = some (.dct kvs) → m' a = some (.dct kvs)) : ∀ {d : D} {p : PyData}, PX m d p → PX m' d p
  | _, _, .leaf l => .leaf l
  | _, _, .tup t => .tup (PXs.at h t)
  | _, _, .dct e t => .dct (h _ _ _ t e) t
theorem PXs.at (h : ∀ (a : Addr) (kvs : List (Key × D)) ps, PLs (kvs.map (·.2)) ps → m a = some (.dct kvs) → m' a = some (.dct kvs)) : ∀ {d : List D} {p : List PyData}, PXs m d p → PXs m' d p
  | _, _, .nil => .nil
  | _, _, .cons a b => .cons (PX.at h a) (PXs.at h b)
end
theorem PD.grow {d : D} {p : PyData} (g : Grow m m') (h : PD m d p) : PD m' d p := h.at fun a l e => g a _ e
theorem PX.grow {d : D} {p : PyData} (g : Grow m m') (h : PX m d p) : PX m' d p := h.at fun a l _ _ e => g a _ e
theorem PD.keep {d : D} {p : PyData} {dk : Addr × Addr} {n : Nat} (hD : Deck m dk n) (g : Keep dk.1 m m') (h : PD m d p) : PD m' d p := h.at fun a l e => g a _ (hD.ne e) e
theorem PX.keep {d : D} {p : PyData} {dk : Addr × Addr} {n : Nat} (hD : Deck m dk n) (g : Keep dk.1 m m') (h : PX m d p) : PX m' d p := h.at fun a kvs ps hl e => g a _ (fun z => by
  obtain ⟨cells, t, gg, h1, _⟩ := hD
  rw [z, h1] at e
  have e' := MO.dct.inj (Option.some.inj e)
  subst e'
  cases hl with
  | cons hd _ => cases hd) e
theorem TyI.grow {v : D} (g : Grow m m') (h : TyI m v) : TyI m' v := ⟨h.1.grow g, fun l e => ⟨(h.2 l e).1, fun x hx => ((h.2 l e).2 x hx).grow g⟩⟩
theorem Ty.keep {x : D} {dk : Addr × Addr} {n : Nat} (hD : Deck m dk n) (g : Keep dk.1 m m') (hx : x ≠ .ref dk.1) (h : Ty m x) : Ty m' x := by
  obtain ⟨t, h⟩ := h
  exact ⟨t, tyD_grow (fun a o e q => g a o (fun z => hx (by rw [e, z])) q) h⟩
end
/-- a value that can be looked at, and written: its depth, its weight -/
def OkW (m : MH) (dd w : Nat) (d : D) : Prop := ∃ p, (PD m d p ∨ PX m d p) ∧ Rp p dd w ∧ ∀ l, d = .tup l → l.length ≤ 1000
abbrev OkV (m : MH) (d : D) : Prop := OkW m 5 500 d
section
variable {m : MH}
theorem PD.ty {d : D} {p : PyData} (h : PD m d p) : Ty m d := by
  cases h with
  | lst e _ => exact ⟨"list", by unfold tyD; simp [e]⟩
  | _ => exact ⟨_, rfl⟩
theorem PX.ty {d : D} {p : PyData} (h : PX m d p) : Ty m d := by
  cases h with
  | leaf l => cases l <;> exact ⟨_, rfl⟩
  | tup _ => exact ⟨_, rfl⟩
  | dct e _ => exact ⟨"dict", by unfold tyD; simp [e]⟩
theorem PDs.ty : ∀ {l : List D} {ps : List PyData}, PDs m l ps → ∀ x ∈ l, Ty m x
  | _, _, .nil, _, hx => nomatch hx
  | _, _, .cons a b, x, hx => by
    rcases List.mem_cons.mp hx with z | z
    · rw [z]; exact a.ty
    · exact PDs.ty b x z
theorem PXs.ty : ∀ {l : List D} {ps : List PyData}, PXs m l ps → ∀ x ∈ l, Ty m x
  | _, _, .nil, _, hx => nomatch hx
  | _, _, .cons a b, x, hx => by
    rcases List.mem_cons.mp hx with z | z
    · rw [z]; exact a.ty
    · exact PXs.ty b x z
theorem OkW.ty {dd w : Nat} {d : D} (h : OkW m dd w d) : TyI m d := by
  obtain ⟨p, h, _, hl⟩ := h
  refine ⟨h.elim PD.ty PX.ty, fun l e => ⟨Nat.le_trans (hl l e) (by decide), ?_⟩⟩
  subst e
  rcases h with h | h
  · cases h with
    | tup t => exact t.ty
  · cases h with
    | leaf t => cases t
    | tup t => exact t.ty
theorem OkW.grow {dd w : Nat} {m' : MH} {d : D} (g : Grow m m') (h : OkW m dd w d) : OkW m' dd w d := by
  obtain ⟨p, h, r, hl⟩ := h
  exact ⟨p, h.imp (PD.grow g) (PX.grow g), r, hl⟩
theorem OkW.keep {dd w : Nat} {m' : MH} {d : D} {dk : Addr × Addr} {n : Nat} (hD : Deck m dk n) (g : Keep dk.1 m m') (h : OkW m dd w d) : OkW m' dd w d := by
  obtain ⟨p, h, r, hl⟩ := h
  exact ⟨p, h.imp (PD.keep hD g) (PX.keep hD g), r, hl⟩
/-- what can be seen of a written value -/
def seen (d : D) : Bool := pure d && (pp d).showable && (pp d).leavesShort 60 && decide ((pp d).depth ≤ 5) && decide ((pp d).weight ≤ 500) && match d with
  | .tup l => decide (l.length ≤ 1000)
  | _ => true
theorem OkW.seen {d : D} (h : DL.seen d = true) : OkV m d := by
  unfold DL.seen at h
  simp only [Bool.and_eq_true, decide_eq_true_eq] at h
  obtain ⟨⟨⟨⟨⟨h1, h2⟩, h3⟩, h4⟩, h5⟩, h6⟩ := h
  refine ⟨pp d, .inl (PD.of m d h1), ⟨h2, h3, h4, h5⟩, fun l e => ?_⟩
  subst e
  simpa using h6
theorem rp_seen {p : PyData} (h : (p.showable && p.leavesShort 60 && decide (p.depth ≤ 5) && decide (p.weight ≤ 500)) = true) : Rp p 5 500 := by
  simp only [Bool.and_eq_true, decide_eq_true_eq] at h
  obtain ⟨⟨⟨h2, h3⟩, h4⟩, h5⟩ := h
  exact ⟨h2, h3, h4, h5⟩
theorem OkW.mono {dd w dd' w' : Nat} {d : D} (h : OkW m dd w d) (h1 : dd ≤ dd') (h2 : w ≤ w') : OkW m dd' w' d := by
  obtain ⟨p, h, r, hl⟩ := h
  exact ⟨p, h, r.mono h1 h2, hl⟩
theorem OkW.repr {dd w : Nat} {d : D} {Q : DK} (h : OkW m dd w d) (h1 : dd ≤ 40) (h2 : w ≤ 200000) : ∃ x, (∀ Q : DK, Q (.str x) m → bRepr [d] m Q) ∧ Rp (.str x) 0 (62 * w + 60) := by
  obtain ⟨p, h, r, hl⟩ := h
  exact ⟨p.shown, fun Q q => repr_d h r h1 h2 q, r.text⟩
theorem PDs.app : ∀ {l l' : List D} {ps ps' : List PyData}, PDs m l ps → PDs m l' ps' → PDs m (l ++ l') (ps ++ ps')
  | _, _, _, _, .nil, s => s
  | _, _, _, _, .cons r t, s => .cons r (PDs.app t s)
theorem PXs.app : ∀ {l l' : List D} {ps ps' : List PyData}, PXs m l ps → PXs m l' ps' → PXs m (l ++ l') (ps ++ ps')
  | _, _, _, _, .nil, s => s
  | _, _, _, _, .cons r t, s => .cons r (PXs.app t s)
theorem pxs_ints : ∀ ns : List Int, PXs m (ns.map .int) (ns.map .int)
  | [] => .nil
  | n :: ns => .cons (.leaf (.int n)) (pxs_ints ns)
theorem Rps.app {d w1 w2 : Nat} : ∀ {ps ps' : List PyData}, Rps ps d w1 → Rps ps' d w2 → Rps (ps ++ ps') d (w1 + w2)
  | [], ps', h, h' => by
    rw [List.nil_append]
    exact ⟨h'.sh, h'.sl, h'.dp, Nat.le_trans h'.wt (Nat.le_add_left _ _)⟩
  | p :: ps, ps', h, h' => by
    have a1 := h.sh
    have a2 := h.sl
    have a3 := h.dp
    have a4 := h.wt
    rw [PyData.showableAll, Bool.and_eq_true] at a1
    rw [PyData.leavesShortAll, Bool.and_eq_true] at a2
    rw [PyData.depthAll, Nat.max_le] at a3
    rw [PyData.weightAll] at a4
    have t : Rps ps d (PyData.weightAll ps) := ⟨a1.2, a2.2, a3.2, Nat.le_refl _⟩
    exact .cons (w1 := p.weight) (w2 := PyData.weightAll ps + w2) ⟨a1.1, a2.1, a3.1, Nat.le_refl _⟩ (t.app h') (by omega)
theorem Rps.mono {ps : List PyData} {d w d' w' : Nat} (h : Rps ps d w) (h1 : d ≤ d') (h2 : w ≤ w') : Rps ps d' w' := ⟨h.sh, h.sl, Nat.le_trans h.dp h1, Nat.le_trans h.wt h2⟩
/-- signs, a value, signs -/
theorem OkW.mid {dd w : Nat} {x : D} {a b : List Int} (h : OkW m dd w x) (ha : ∀ i ∈ a, i.natAbs < 2 ^ 3) (hb : ∀ i ∈ b, i.natAbs < 2 ^ 3) (hl : a.length + b.length ≤ 20) : OkW m (dd + 1) (w + 81) (.tup (a.map .int ++ [x] ++ b.map .int)) := by
  obtain ⟨p, h, r, hz⟩ := h
  have ra := (Rps.ints (k := 3) (by decide) ha).mono (Nat.zero_le dd) (Nat.le_refl _)
  have rb := (Rps.ints (k := 3) (by decide) hb).mono (Nat.zero_le dd) (Nat.le_refl _)
  refine ⟨.tuple (a.map .int ++ [p] ++ b.map .int), h.imp (fun h => .tup (((pds_ints a).app (.cons h .nil)).app (pds_ints b))) (fun h => .tup (((pxs_ints a).app (.cons h .nil)).app (pxs_ints b))), ?_, fun l e => ?_⟩
  · have rx : Rps [p] dd (w + 1) := .cons (w2 := 0) r .nil (Nat.le_refl _)
    exact (((ra.app rx).app rb).mono (Nat.le_refl _) (by omega)).tuple
  · cases e
    simp only [List.length_append, List.length_map, List.length_cons, List.length_nil]
    omega
theorem OkW.tints {a : List Int} (ha : ∀ i ∈ a, i.natAbs < 2 ^ 3) (hl : a.length ≤ 20) : OkW m 1 80 (tInts a) := by
  have ra := Rps.ints (k := 3) (by decide) ha
  exact ⟨.tuple (a.map .int), .inl (pd_ints a), (ra.mono (Nat.le_refl _) (by omega)).tuple, fun l e => by cases e; rw [List.length_map]; omega⟩
theorem seen_all {l : List D} (h : l.all DL.seen = true) : ∀ d ∈ l, OkV m d := fun d hd => .seen (List.all_eq_true.mp h d hd)
end
def b__law_odd : DS := (dSeq (dAsg (dLst (dCons (dC .non) (dCons (dC (.bl true)) (dCons (dC (.bl false)) (dCons (dNeg (dC (.int 1))) (dCons (dC (.int 0)) (dCons (dC (.int 1)) (dCons (dC (.int 2)) (dCons (dC (.int 16)) (dCons (dC (.int 17)) (dCons (dOp aPow (dC (.int 10)) (dC (.int 39))) (dCons (dNeg (dOp aPow (dC (.int 10)) (dC (.int 39)))) (dCons (dC (.str "")) (dCons (dC (.str "0")) (dCons (dC (.str "01")) (dCons (dC (.str "-")) (dCons (dTup dNil) (dCons (dTup (dCons (dC (.int 0)) dNil)) (dCons (dTup (dCons (dC (.int 1)) (dCons (dC (.int 0)) dNil))) (dCons (dTup (dCons (dC (.int 0)) (dCons (dC (.int 0)) (dCons (dC (.int 1)) dNil)))) dNil)))))))))))))))))))) (gN 1))
  (dSeq (dAsg (dOp aAdd (dVar 1) (dLst (dCons (dTup (dCons (dC (.bl true)) dNil)) (dCons (dTup (dCons (dC (.int 0)) (dCons (dC .non) dNil))) (dCons (dLst dNil) (dCons (dLst (dCons (dC (.int 0)) dNil)) (dCons dNewK (dCons (dDisp (("a", (dC (.int 1))) :: [])) (dCons (dTup (dCons (dTup (dCons (dC (.int 0)) dNil)) (dCons (dTup (dCons (dC (.int 1)) dNil)) dNil))) (dCons (dTup (dCons (dTup dNil) (dCons (dTup dNil) dNil))) (dCons (dTup (dCons (dTup (dCons (dC (.int 0)) dNil)) (dCons (dLst (dCons (dC (.int 1)) dNil)) dNil))) (dCons (dTup (dCons (dTup (dCons (dC (.int 0)) dNil)) (dCons (dTup (dCons (dC (.int 0)) (dCons (dC (.int 1)) dNil))) dNil))) (dCons (dLst (dCons (dTup (dCons (dC (.int 0)) dNil)) dNil)) dNil))))))))))))) (gN 1))
  (dRet (dCall sp__law_one (dCons (dVar 0) (dCons (dOp aAdd (dVar 1) (dLst (dCons (dOp aMul (dTup (dCons (dC (.int 0)) dNil)) (dC (.int 17))) (dCons (dTup (dCons (dNeg (dC (.int 1))) dNil)) (dCons (dTup (dCons (dC (.int 9)) dNil)) (dCons (dTup (dCons (dC (.str "0")) dNil)) (dCons (dTup (dCons (dTup (dCons (dC (.int 1)) dNil)) (dCons (dTup (dCons (dC (.int 0)) dNil)) dNil))) (dCons (dTup (dCons (dOp aPow (dC (.int 10)) (dC (.int 39))) dNil)) (dCons (dTup (dCons (dC (.int 1)) (dCons (dC (.int 1)) (dCons (dC (.int 1)) dNil)))) (dCons (dTup (dCons (dTup (dCons (dC (.int 1)) (dCons (dC (.int 2)) dNil))) (dCons (dTup (dCons (dC (.int 3)) dNil)) dNil))) dNil)))))))))) dNil))))))
/-- slots: 0 deck, 1 some -/
def n__law_odd : Nat := 2
def sp__law_odd : DSp := fun ds m Q => ∃ (p : Addr × Addr) (n : Nat), ds = [.ref p.1] ∧ Deck m p n ∧ n ≤ 2 ^ 40 ∧ ∀ d m', OkV m' d → Deck m' p (n + 1) → Keep p.1 m m' → Q d m'
theorem hp__law_odd : ∀ ds m Q, sp__law_odd ds m Q → b__law_odd { nx := fun _ m' => Q .non m', rt := Q } (dstart 2 ds) m := by
  rintro ds m Q ⟨p, n, rfl, hD, hn, q⟩
  show b__law_odd _ [some (.ref p.1), none] m
  simp only [b__law_odd, dRet, dSeq, dAsg, gN, dLst, dTup, dCall, dCons, dNil, dVar, dC, dOp, dNeg, dDisp, dPairs, dNewK, List.set_cons_zero, List.set_cons_succ, List.getElem?_cons_zero, List.getElem?_cons_succ, Option.some.injEq, exists_eq_left', aPow, aMul, D.int.injEq,
    List.length_cons, List.length_nil, le_line, Nat.reduceAdd, Nat.reduceLeDiff, true_and]
  refine ⟨⟨by decide, by decide, by decide⟩, ⟨by decide, by decide, by decide⟩, ?_⟩
  refine aNew_of fun p1 m1 g1 e1 h1 _ => ?_
  refine aNew_of fun p2 m2 g2 e2 h2 _ => ?_
  refine aNew_of fun p3 m3 g3 e3 h3 _ => ?_
  refine aNew_of fun p4 m4 g4 e4 h4 _ => ?_
  intro p5 h5
  rw [mup_mup]
  have g5 := Grow.new (o := .dct [(.inr "a", .int 1)]) h5
  have e5 : mup m4 p5 (.dct [(.inr "a", .int 1)]) p5 = _ := mup_same
  generalize mup m4 p5 (.dct [(.inr "a", .int 1)]) = m5 at g5 e5 ⊢
  refine ⟨mup_same, by simp, ?_⟩
  refine aNew_of fun p6 m6 g6 e6 h6 _ => ?_
  refine aNew_of fun p7 m7 g7 e7 h7 _ => ?_
  refine aNew_of fun p8 m8 g8 e8 h8 _ => ?_
  refine ⟨_, _, g8 _ _ (g7 _ _ (g6 _ _ (g5 _ _ (g4 _ _ (g3 _ _ (g2 _ _ e1)))))), e8, by simp only [List.length_cons, List.length_nil]; decide, aNew_of fun p9 m9 g9 e9 h9 _ => ?_⟩
  refine ⟨by simp, by decide, by decide, ⟨by decide, by decide, by decide⟩, aNew_of fun p10 m10 g10 e10 h10 _ => ⟨_, _, g10 _ _ e9, e10, by simp only [List.length_cons, List.length_nil, List.length_append]; decide, aNew_of fun p11 m11 g11 e11 h11 _ => ?_⟩⟩
  have gg7 : Grow m7 m11 := g8.trans (g9.trans (g10.trans g11))
  have gg6 : Grow m6 m11 := g7.trans gg7
  have gg5 : Grow m5 m11 := g6.trans gg6
  have gg4 : Grow m4 m11 := g5.trans gg5
  have gg3 : Grow m3 m11 := g4.trans gg4
  have gg2 : Grow m2 m11 := g3.trans gg3
  have gall : Grow m m11 := g1.trans (g2.trans gg2)
  refine ⟨p, n, .ref p11, _, rfl, hD.at gall, hn, .inr ⟨p11, rfl, e11⟩, by simp, by simp only [List.length_cons, List.length_nil, List.length_append]; decide, fun d m' hd hD' hk => q d m' ?_ hD' (gall.keep.trans hk)⟩
  refine OkW.keep (hD.at gall) hk ?_
  rcases List.mem_append.mp hd with hd | hd
  · rcases List.mem_append.mp hd with hd | hd
    · exact seen_all (by decide +kernel) d hd
    · simp only [List.mem_cons, List.not_mem_nil, or_false] at hd
      rcases hd with rfl | rfl | rfl | rfl | rfl | rfl | rfl | rfl | rfl | rfl | rfl
      · exact .seen (by decide +kernel)
      · exact .seen (by decide +kernel)
      · exact ⟨.list [], .inl (.lst (gg2 _ _ e2) .nil), rp_seen (by decide +kernel), fun l e => nomatch e⟩
      · exact ⟨.list [.int 0], .inl (.lst (gg3 _ _ e3) (.cons (.int 0) .nil)), rp_seen (by decide +kernel), fun l e => nomatch e⟩
      · exact ⟨_, .inr (.dct (gg4 _ _ e4) .nil), rp_seen (by decide +kernel), fun l e => nomatch e⟩
      · exact ⟨_, .inr (.dct (gg5 _ _ e5) (.cons (.int 1) .nil)), rp_seen (by decide +kernel), fun l e => nomatch e⟩
      · exact .seen (by decide +kernel)
      · exact .seen (by decide +kernel)
      · exact ⟨.tuple [.tuple [.int 0], .list [.int 1]], .inl (.tup (.cons (.tup (.cons (.int 0) .nil)) (.cons (.lst (gg6 _ _ e6) (.cons (.int 1) .nil)) .nil))), rp_seen (by decide +kernel), fun l e => by cases e; show 2 ≤ 1000; decide⟩
      · exact .seen (by decide +kernel)
      · exact ⟨.list [.tuple [.int 0]], .inl (.lst (gg7 _ _ e7) (.cons (.tup (.cons (.int 0) .nil)) .nil)), rp_seen (by decide +kernel), fun l e => nomatch e⟩
  · exact seen_all (by decide +kernel) d hd
end DL
namespace DL
open PySem PySem.Spec PyProof.Rows L2
theorem cut_from (l : List D) (k : Nat) : cutD l (some (k : Int)) none = l.drop k := by
  unfold cutD
  rw [HT.sIx_none, HT.sIx_nat]
  rw [List.take_of_length_le (by rw [List.length_drop]; omega)]
  by_cases h : k ≤ l.length
  · rw [Nat.min_eq_left h]
  · rw [Nat.min_eq_right (by omega), List.drop_length, List.drop_eq_nil_of_le (by omega)]
theorem rangeD_len (lo : Int) (n : Nat) : (rangeD lo n).length = n := by simp [rangeD]
/-- two written lists of truths *)-/
theorem small3 {i s : Int} (h0 : 0 ≤ i) (h1 : i < s) (hs : s ≤ 8) : i.natAbs < 2 ^ 3 := by omega
end DL
namespace K01
open PySem PySem.Spec PyProof.Rows L2 DL
def b_law : DS := (dSeq (dAsg (dCall sp__law_deck (dCons (dVar 0) dNil)) (gN 1))
  (dSeq (dFor (iR1 (dCons (dC (.int 16)) dNil)) (gN 2) (dSeq (dAsg (dOp aAdd (dC (.int 2)) (dCall sp__law_take (dCons (dVar 1) (dCons (dC (.int 5)) dNil)))) (gN 3))
  (dSeq (dAsg (dB1 bTuple (dCons (dLc (iR1 (dCons (dCall sp__law_one (dCons (dVar 1) (dCons (dLst (dCons (dC (.int 0)) (dCons (dC (.int 1)) (dCons (dC (.int 3)) (dCons (dC (.int 15)) (dCons (dC (.int 16)) (dCons (dC (.int 17)) dNil))))))) dNil))) dNil)) (gN 15) dYes (dCall sp__law_take (dCons (dVar 1) (dCons (dVar 3) dNil))) [15]) dNil)) (gN 4))
  (dSeq (dPar 5 6 (dCons (dCall sp__law_take (dCons (dVar 1) (dCons (dOp aAdd (dB1 bLen (dCons (dVar 4) dNil)) (dC (.int 1))) dNil))) (dCons (dCall sp__law_odd (dCons (dVar 1) dNil)) dNil)))
  (dSeq (dAsg (dOp aAdd (dOp aAdd (dSl (dVar 4) dNo (dPart (dVar 5))) (dTup (dCons (dCall sp__law_one (dCons (dVar 1) (dCons (dLst (dCons (dVar 6) (dCons (dC (.bl true)) (dCons (dC (.bl false)) (dCons (dVar 3) (dCons (dNeg (dC (.int 1))) (dCons (dC .non) (dCons (dC (.str "0")) (dCons (dOp aSub (dVar 3) (dC (.int 1))) (dCons (dOp aPow (dC (.int 10)) (dC (.int 39))) dNil)))))))))) dNil))) dNil))) (dSl (dVar 4) (dPart (dOp aAdd (dVar 5) (dC (.int 1)))) dNo)) (gN 7))
  (dSeq (dFor (iAny (dLst (dCons (dVar 4) (dCons (dVar 7) (dCons (dVar 6) (dCons (dB1 bList (dCons (dVar 4) dNil)) (dCons (dTup (dCons (dVar 4) dNil)) dNil))))))) (gN 8) (dSeq (dPar 9 10 (dCons (dB1 bRepr (dCons (dVar 8) dNil)) (dCons (dCall sp__law_is_word (dCons (dVar 3) (dCons (dVar 8) dNil))) dNil)))
  (dIf (dB (dOp aNe (dB1 bRepr (dCons (dLst (dCons (dCall sp_is_word (dCons (dVar 3) (dCons (dVar 8) dNil))) (dCons (dCall sp_is_word (dCons (dVar 3) (dCons (dVar 8) dNil))) (dCons (dB1 bRepr (dCons (dVar 8) dNil)) dNil)))) dNil)) (dB1 bRepr (dCons (dLst (dCons (dVar 10) (dCons (dVar 10) (dCons (dVar 9) dNil)))) dNil)))) (dRet (dC (.bl false))) dSkip)))
  (dSeq (dAsg (dSl (dVar 4) dNo (dPart (dC (.int 16)))) (gN 11))
  (dSeq (dAsg (dB1 bTuple (dCons (dLc (iR1 (dCons (dCall sp__law_take (dCons (dVar 1) (dCons (dC (.int 17)) dNil))) dNil)) (gN 15) dYes (dCall sp__law_take (dCons (dVar 1) (dCons (dVar 3) dNil))) [15]) dNil)) (gN 12))
  (dFor (iAny (dLst (dCons (dTup (dCons (dVar 11) (dCons (dVar 11) dNil))) (dCons (dTup (dCons (dSl (dVar 11) dNo (dPart (dVar 5))) (dCons (dVar 11) dNil))) (dCons (dTup (dCons (dVar 11) (dCons (dSl (dVar 11) dNo (dPart (dVar 5))) dNil))) (dCons (dTup (dCons (dVar 12) (dCons (dVar 11) dNil))) (dCons (dTup (dCons (dSl (dVar 12) dNo (dPart (dC (.int 1)))) (dCons (dVar 11) dNil))) (dCons (dTup (dCons (dTup dNil) (dCons (dVar 11) dNil))) (dCons (dTup (dCons (dVar 11) (dCons (dTup dNil) dNil))) dNil))))))))) (gT 2 (gsCons (gN 13) (gsCons (gN 14) gsNil))) (dIf (dB (dOp aNe (dB1 bRepr (dCons (dCall sp_is_start (dCons (dVar 13) (dCons (dVar 14) dNil))) dNil)) (dB1 bRepr (dCons (dCall sp__law_starts (dCons (dVar 13) (dCons (dVar 14) dNil))) dNil)))) (dRet (dC (.bl false))) dSkip))))))))))
  (dRet (dC (.bl true)))))
/-- slots: 0 script, 1 deck, 2 turn, 3 signs, 4 word, 5 spot, 6 odd, 7 bent, 8 value, 9 shown, 10 due, 11 own, 12 other, 13 one, 14 two, 15 place -/
def n_law : Nat := 16

/-- [draw(signs) for place in range(..)], as a tuple -/
theorem draws {ds : Sd} {m : MH} {p : Addr × Addr} {n : Nat} {s : Int} {it : DI} {Q : DK} (hds : ds[1]? = some (some (.ref p.1)) ∧ ds[3]? = some (some (.int s)) ∧ ds.length = 16) (hs : 0 < s ∧ s < 2 ^ 30) (hn : n ≤ 2 ^ 30) 
    (hit : ∀ R : (MH → Prop) → List D → MH → Prop, (∀ m1 (k : Nat), k ≤ 17 → Keep p.1 m m1 → Deck m1 p (n + 1) → R (fun _ => True) (rangeD 0 k) m1) → it ds m R) (q : ∀ m' (rs : List Int), rs.length ≤ 17 → (∀ r ∈ rs, 0 ≤ r ∧ r < s) → Keep p.1 m m' → Deck m' p (n + 18) → Q (.tup (rs.map .int)) m') :
    dB1 bTuple (dCons (dLc it (gN 15) dYes (dCall sp__law_take (dCons (dVar 1) (dCons (dVar 3) dNil))) [15]) dNil) ds m Q := by
  simp only [dB1, dCons, dNil, dLc]
  refine hit _ fun m1 k hk k1 hD1 r hr => ?_
  refine lc_draws (p := r) (dk := p) s (rangeD 0 k) hr (by rw [rangeD_len, lt_line (by omega)]; trivial) hD1 (by rw [rangeD_len]; omega) (fun x hx m' j N hD' hj hN => ?_) fun m' rs hl hr' hk' hD' ha => ?_
  · have e1 : ((dwipe ds [15]).set 15 (some x))[1]? = some (some (.ref p.1)) := by
      simp only [dwipe]
      rw [List.getElem?_set_ne (by decide), List.getElem?_set_ne (by decide)]
      exact hds.1
    have e3 : ((dwipe ds [15]).set 15 (some x))[3]? = some (some (.int s)) := by
      simp only [dwipe]
      rw [List.getElem?_set_ne (by decide), List.getElem?_set_ne (by decide)]
      exact hds.2.1
    exact ⟨_, e1, _, e3, p, j, s, rfl, hD', hj, hs.1, hs.2, hN⟩
  · rw [rangeD_len] at hl hD'
    exact ⟨_, ha, q m' rs (by omega) hr' (k1.trans hk') (hD'.mono (by omega))⟩
theorem okv_int {m : MH} {i : Int} (h : i.natAbs < 2 ^ 3) : OkV m (.int i) := ⟨.int i, .inl (.int i), (Rp.int h (by decide)).mono (by decide) (by decide), fun l e => nomatch e⟩
theorem bl_ok (b : Bool) {m : MH} {Q : DK} (q : Q (.str (PyData.bool b).shown) m) : bRepr [.bl b] m Q := repr_d (.inl (.bl b)) (Rp.bool b) (by decide) (by decide) q
/-- a look at one value -/
theorem look_val {m : MH} {s : Int} {v : D} {ds : Sd} {N : Sd → MH → Prop} {D0 : DEnds} (h1 : ds[3]? = some (some (.int s))) (h8 : ds.length = 16) (hv : OkW m 7 800 v) (hN : ∀ ds' m', (∃ a b, ds' = ((ds.set 8 (some v)).set 9 (some a)).set 10 (some b)) → Grow m m' → N ds' m') :
    gN 8 v ds m fun ds2 m2 => (dSeq (dPar 9 10 (dCons (dB1 bRepr (dCons (dVar 8) dNil)) (dCons (dCall sp__law_is_word (dCons (dVar 3) (dCons (dVar 8) dNil))) dNil)))
  (dIf (dB (dOp aNe (dB1 bRepr (dCons (dLst (dCons (dCall sp_is_word (dCons (dVar 3) (dCons (dVar 8) dNil))) (dCons (dCall sp_is_word (dCons (dVar 3) (dCons (dVar 8) dNil))) (dCons (dB1 bRepr (dCons (dVar 8) dNil)) dNil)))) dNil)) (dB1 bRepr (dCons (dLst (dCons (dVar 10) (dCons (dVar 10) (dCons (dVar 9) dNil)))) dNil)))) (dRet (dC (.bl false))) dSkip)) { D0 with nx := N, ct := N, bk := D0.nx } ds2 m2 := by
  have a3 : (ds.set 8 (some v))[3]? = some (some (.int s)) := by rw [List.getElem?_set_ne (by decide)]; exact h1
  have a8 : (ds.set 8 (some v))[8]? = some (some v) := List.getElem?_set_self (by omega)
  have ty := hv.ty
  obtain ⟨p, hp, rp, _⟩ := hv
  have rx : Rp (.str p.shown) 0 (62 * 800 + 60) := rp.text
  simp only [gN, dSeq, dPar, dCons, dNil, dB1, dVar, dCall]
  refine ⟨v, a8, repr_d hp rp (by decide) (by decide) ⟨_, a3, v, a8, s, v, rfl, ty, fun m1 g1 => ⟨_, _, rfl, ?_⟩⟩⟩
  generalize hx : p.shown = x at rx
  generalize hd : ((ds.set 8 (some v)).set 9 (some (.str x))).set 10 (some (.bl (isWord s v))) = ds2
  have b3 : ds2[3]? = some (some (.int s)) := by rw [← hd, List.getElem?_set_ne (by decide), List.getElem?_set_ne (by decide)]; exact a3
  have b8 : ds2[8]? = some (some v) := by rw [← hd, List.getElem?_set_ne (by decide), List.getElem?_set_ne (by decide)]; exact a8
  have b9 : ds2[9]? = some (some (.str x)) := by rw [← hd, List.getElem?_set_ne (by decide)]; exact List.getElem?_set_self (by simp; omega)
  have b10 : ds2[10]? = some (some (.bl (isWord s v))) := by rw [← hd]; exact List.getElem?_set_self (by simp; omega)
  simp only [dIf, dB, dOp, dLst, dCons, dNil, dB1, dVar, dCall]
  refine ⟨_, b3, v, b8, s, v, rfl, ty.grow g1, fun m2 g2 => ⟨_, b3, v, b8, s, v, rfl, ty.grow (g1.trans g2), fun m3 g3 => ⟨v, b8, ?_⟩⟩⟩
  have g03 := g1.trans (g2.trans g3)
  refine repr_d (hp.imp (PD.grow g03) (PX.grow g03)) rp (by decide) (by decide) ?_
  rw [hx]
  refine ⟨by show 3 ≤ sizeLine; decide, aNew_of fun r1 m4 g4 e4 _ _ => ?_⟩
  have rl : Rp (.list [.bool (isWord s v), .bool (isWord s v), .str x]) 1 100000 :=
    (Rps.cons (w1 := 0) (w2 := 99000) (Rp.bool (isWord s v)) (.cons (w1 := 0) (w2 := 98000) (Rp.bool (isWord s v)) (.cons (w2 := 0) rx .nil (by omega)) (by omega)) (by omega) : Rps [.bool (isWord s v), .bool (isWord s v), .str x] 0 100000).list
  refine repr_d (.inl (.lst e4 (.cons (.bl _) (.cons (.bl _) (.cons (.str _) .nil))))) rl (by decide) (by decide) ?_
  refine ⟨_, b10, _, b10, _, b9, by show 3 ≤ sizeLine; decide, aNew_of fun r2 m5 g5 e5 _ _ => ?_⟩
  refine repr_d (.inl (.lst e5 (.cons (.bl _) (.cons (.bl _) (.cons (.str _) .nil))))) rl (by decide) (by decide) ?_
  refine ne_same rfl ⟨_, rfl, ?_⟩
  rw [if_neg (by decide)]
  exact hN _ _ ⟨_, _, hd.symm⟩ (g03.trans (g4.trans g5))
theorem hp_law (ns : List Int) (hl : ns.length ≤ 63) : b_law { nx := fun _ _ => D.non = .bl true, rt := fun d _ => d = .bl true } (dstart 16 [.rol (ns.map .int)]) fun _ => none := by
  show b_law _ [some (.rol (ns.map .int)), none, none, none, none, none, none, none, none, none, none, none, none, none, none, none] _
  simp only [b_law, dSeq, dAsg, dCall, dCons, dNil, dVar, gN, dFor, iR1, dC, List.set_cons_zero, List.set_cons_succ, List.getElem?_cons_zero, List.getElem?_cons_succ, Option.some.injEq, exists_eq_left']
  refine ⟨ns, rfl, hl, fun m p _ hD hc => ⟨16, rfl, by decide, by decide, ?_⟩⟩
  refine loop_by (fun l ds m => ∃ j, l.length + j = 16 ∧ Deck m p (100 * j) ∧ ∃ v2 v3 v4 v5 v6 v7 v8 v9 v10 v11 v12 v13 v14 v15, ds = [some (.rol (ns.map .int)), some (.ref p.1), v2, v3, v4, v5, v6, v7, v8, v9, v10, v11, v12, v13, v14, v15]) ?_ ?_ _ _ _ ⟨0, by rw [rangeD_len]; rfl, hD, _, _, _, _, _, _, _, _, _, _, _, _, _, _, rfl⟩
  · rintro ds m ⟨j, hj, hD, v2, v3, v4, v5, v6, v7, v8, v9, v10, v11, v12, v13, v14, v15, rfl⟩
    exact ⟨trivial, rfl⟩
  · rintro x r ds m N hN ⟨j, hj, hD, v2, v3, v4, v5, v6, v7, v8, v9, v10, v11, v12, v13, v14, v15, rfl⟩
    rw [List.length_cons] at hj
    refine ⟨trivial, ?_⟩
    -- signs
    simp only [gN, dSeq, dAsg, dOp, dC, dCall, dCons, dNil, dVar, List.set_cons_zero, List.set_cons_succ, List.getElem?_cons_zero, List.getElem?_cons_succ, Option.some.injEq, exists_eq_left']
    refine ⟨p, _, 5, rfl, hD, by omega, by decide, by decide, fun s0 m1 hs0 hs1 hD1 hk1 => ?_⟩
    simp only [aAdd]
    generalize hs : 2 + s0 = s
    -- word
    refine draws (p := p) (n := 100 * j + 1) (s := s) ⟨rfl, rfl, rfl⟩ ⟨by omega, by omega⟩ (by omega) (fun R hR => ?_) fun m2 word hwl hw hk2 hD2 => ?_
    · simp only [iR1, dC, dCall, dCons, dNil, dLst, dVar, List.set_cons_zero, List.set_cons_succ, List.getElem?_cons_zero, List.getElem?_cons_succ, Option.some.injEq, exists_eq_left']
      refine ⟨by show 6 ≤ sizeLine; decide, aNew_of fun q m2 g2 e2 _ _ => ?_⟩
      refine ⟨p, _, .ref q, _, rfl, hD1.at g2, by omega, .inr ⟨q, rfl, e2⟩, by simp, by show 6 < 2 ^ 30; decide, fun d m3 hd hD3 hk3 => ?_⟩
      have : ∃ k : Nat, d = .int k ∧ k ≤ 17 := by
        simp only [List.mem_cons, List.not_mem_nil, or_false] at hd
        rcases hd with rfl | rfl | rfl | rfl | rfl | rfl
        · exact ⟨0, rfl, by decide⟩
        · exact ⟨1, rfl, by decide⟩
        · exact ⟨3, rfl, by decide⟩
        · exact ⟨15, rfl, by decide⟩
        · exact ⟨16, rfl, by decide⟩
        · exact ⟨17, rfl, by decide⟩
      obtain ⟨k, rfl, hk⟩ := this
      refine ⟨k, rfl, by omega, by omega, ?_⟩
      rw [show ((k : Int)).toNat = k by omega]
      exact hR m3 k hk (g2.keep.trans hk3) hD3
    have hw3 : ∀ i ∈ word, i.natAbs < 2 ^ 3 := fun i hi => small3 (hw i hi).1 (hw i hi).2 (by omega)
    -- spot, odd
    simp only [dSeq, dPar, dCall, dCons, dNil, dB1, dVar, dOp, dC, List.set_cons_zero, List.set_cons_succ, List.getElem?_cons_zero, List.getElem?_cons_succ, Option.some.injEq, exists_eq_left', bLen, aAdd]
    rw [List.length_map]
    refine ⟨p, 100 * j + 1 + 18, _, rfl, hD2, by omega, by omega, by omega, fun spot m3 hp0 hp1 hD3 hk3 => ?_⟩
    refine ⟨p, _, rfl, hD3, by omega, fun odd m4 ho4 hD4 hk4 => ?_⟩
    refine ⟨_, _, rfl, ?_⟩
    obtain ⟨sp, rfl⟩ := Int.eq_ofNat_of_zero_le hp0
    -- bent
    simp only [dSeq, dAsg, dOp, dSl, dNo, dPart, dTup, dCall, dCons, dNil, dLst, dVar, dC, dNeg, gN, List.set_cons_zero, List.set_cons_succ, List.getElem?_cons_zero, List.getElem?_cons_succ, Option.some.injEq, exists_eq_left', aSub, aPow, aSl, aAdd, D.int.injEq, cut_ints]
    refine ⟨⟨by decide, by decide, by decide⟩, by show 9 ≤ sizeLine; decide, aNew_of fun q5 m5 g5 e5 _ _ => ?_⟩
    refine ⟨p, 100 * j + 21, .ref q5, _, rfl, (hD4.at g5).mono (by omega), by omega, .inr ⟨q5, rfl, e5⟩, by simp, by show 9 < 2 ^ 30; decide, fun odd1 m6 hd1 hD6 hk6 => ?_⟩
    have ho5 := ho4.grow g5
    have ho6 : OkV m6 odd := ho5.keep (hD4.at g5) hk6
    have hb6 : OkV m6 odd1 := by
      simp only [List.mem_cons, List.not_mem_nil, or_false] at hd1
      rcases hd1 with rfl | rfl | rfl | rfl | rfl | rfl | rfl | rfl | rfl
      · exact ho6
      · exact .seen (by decide +kernel)
      · exact .seen (by decide +kernel)
      · exact okv_int (by omega)
      · exact .seen (by decide +kernel)
      · exact .seen (by decide +kernel)
      · exact .seen (by decide +kernel)
      · exact okv_int (by omega)
      · exact .seen (by decide +kernel)
    refine ⟨by show 1 ≤ sizeLine; decide, ?_, ?_⟩
    · simp only [List.length_map, List.length_take, List.length_cons, List.length_nil]
      exact Nat.le_of_lt (small1000 (by omega))
    rw [show ((sp : Int) + 1) = ((sp + 1 : Nat) : Int) by omega, cut_from, ← List.map_drop]
    refine ⟨?_, ?_⟩
    · simp only [List.length_map, List.length_take, List.length_cons, List.length_nil, List.length_drop, List.length_append]
      exact Nat.le_of_lt (small1000 (by omega))
    have hbent : OkW m6 6 581 (.tup ((word.take sp).map .int ++ [odd1] ++ (word.drop (sp + 1)).map .int)) := hb6.mid (fun i hi => hw3 i (List.mem_of_mem_take hi)) (fun i hi => hw3 i (List.mem_of_mem_drop hi)) (by rw [List.length_take, List.length_drop]; omega)
    generalize D.tup ((word.take sp).map .int ++ [odd1] ++ (word.drop (sp + 1)).map .int) = bent at hbent ⊢
    -- the five values
    simp only [dSeq, dAsg, dFor, iAny, dTup, dCons, dNil, dLst, dVar, dB1, bList, gN, List.set_cons_zero, List.set_cons_succ, List.getElem?_cons_zero, List.getElem?_cons_succ, Option.some.injEq, exists_eq_left']
    refine aNew_of fun q7 m7 g7 e7 _ _ => ⟨by show 1 ≤ sizeLine; decide, by show 5 ≤ sizeLine; decide, aNew_of fun q8 m8 g8 e8 _ _ => ⟨_, e8, ?_⟩⟩
    have g68 := g7.trans g8
    have w6 : OkW m8 1 80 (tInts word) := OkW.tints hw3 (by omega)
    have hall : ∀ v ∈ [tInts word, bent, odd, .ref q7, .tup [tInts word]], OkW m8 7 800 v := by
      intro v hv
      simp only [List.mem_cons, List.not_mem_nil, or_false] at hv
      rcases hv with rfl | rfl | rfl | rfl | rfl
      · exact w6.mono (by decide) (by decide)
      · exact (hbent.grow g68).mono (by decide) (by decide)
      · exact (ho6.grow g68).mono (by decide) (by decide)
      · exact ⟨_, .inl (.lst (g8 _ _ e7) (pds_ints word)), ((Rps.ints (k := 3) (by decide) hw3).mono (Nat.le_refl _) (by omega : (3 + 1) * word.length ≤ 800)).list.mono (by decide) (Nat.le_refl _), fun l e => nomatch e⟩
      · obtain ⟨p, h, r, _⟩ := w6
        exact ⟨.tuple [p], h.imp (fun h => .tup (.cons h .nil)) (fun h => .tup (.cons h .nil)), ((Rps.cons (w := 81) (w2 := 0) r .nil (by decide)).tuple).mono (by decide) (by decide), fun l e => by cases e; show 1 ≤ 1000; decide⟩
    refine loop_by (fun l ds m => (∀ v ∈ l, OkW m 7 800 v) ∧ Grow m8 m ∧ ∃ w8 w9 w10, ds = [some (.rol (ns.map .int)), some (.ref p.1), some x, some (.int s), some (tInts word), some (.int sp), some odd, some bent, w8, w9, w10, v11, v12, v13, v14, v15]) ?_ ?_ _ _ _ ⟨hall, Grow.refl _, _, _, _, rfl⟩
    rotate_left
    · rintro v r ds m N' hN' ⟨hv, g9, w8, w9, w10, rfl⟩
      refine ⟨g9 _ _ e8, look_val (s := s) rfl rfl (hv v (by simp)) fun ds' m' ⟨a, b, e⟩ g => hN' _ _ ⟨fun v' hv' => (hv v' (by simp [hv'])).grow g, g9.trans g, ?_⟩⟩
      rw [e]
      exact ⟨_, _, _, rfl⟩
    rintro ds m9 ⟨_, g9, w8, w9, w10, rfl⟩
    refine ⟨g9 _ _ e8, ?_⟩
    simp only [dSeq, dAsg, dSl, dNo, dPart, dVar, dC, gN, List.set_cons_zero, List.set_cons_succ, List.getElem?_cons_zero, List.getElem?_cons_succ, Option.some.injEq, exists_eq_left', D.int.injEq, tInts, aSl]
    rw [show (16 : Int) = ((16 : Nat) : Int) from rfl, cut_ints]
    have hD9 : Deck m9 p (100 * j + 22) := (hD6.at g68).at g9
    refine draws (p := p) (n := 100 * j + 22) (s := s) ⟨rfl, rfl, rfl⟩ ⟨by omega, by omega⟩ (by omega) (fun R hR => ?_) fun m10 other hol ho hk10 hD10 => ?_
    · simp only [iR1, dC, dCall, dCons, dNil, dVar, List.set_cons_zero, List.set_cons_succ, List.getElem?_cons_zero, List.getElem?_cons_succ, Option.some.injEq, exists_eq_left']
      refine ⟨p, _, 17, rfl, hD9, by omega, by decide, by decide, fun r m' h0 h1 hD' hk' => ⟨r, rfl, by omega, by omega, ?_⟩⟩
      exact hR m' r.toNat (by omega) hk' hD'
    simp only [dSeq, dAsg, dFor, iAny, dTup, dCons, dNil, dLst, dVar, dB1, dC, dSl, dNo, dPart, gN, List.set_cons_zero, List.set_cons_succ, List.getElem?_cons_zero, List.getElem?_cons_succ, Option.some.injEq, exists_eq_left', D.int.injEq, aSl, cut_ints]
    rw [show (1 : Int) = ((1 : Nat) : Int) from rfl, cut_ints]
    simp only [List.length_cons, List.length_nil, le_line, Nat.reduceAdd, Nat.reduceLeDiff, true_and]
    refine aNew_of fun q11 m11 g11 e11 _ _ => ⟨_, e11, ?_⟩
    refine loop_by (fun l ds m => (∀ v ∈ l, ∃ a b, v = .tup [tInts a, tInts b]) ∧ Grow m11 m ∧ ∃ w8 w9 w10 w13 w14 w15, ds = [some (.rol (ns.map .int)), some (.ref p.1), some x, some (.int s), some (tInts word), some (.int sp), some odd, some bent, w8, w9, w10, some (tInts (word.take 16)), some (tInts other), w13, w14, w15]) ?_ ?_ _ _ _ ⟨?_, Grow.refl _, _, _, _, _, _, _, rfl⟩
    · rintro ds m ⟨_, g12, w8, w9, w10, w13, w14, w15, rfl⟩
      refine ⟨g12 _ _ e11, hN _ _ ⟨j + 1, by omega, ((hD10.at g11).at g12).mono (by omega), _, _, _, _, _, _, _, _, _, _, _, _, _, _, rfl⟩⟩
    · rintro v r ds m N' hN' ⟨hv, g12, w8, w9, w10, w13, w14, w15, rfl⟩
      refine ⟨g12 _ _ e11, ?_⟩
      obtain ⟨a, b, rfl⟩ := hv v (by simp)
      simp only [gT, gsCons, gsNil, gN, dIf, dB, dOp, dCall, dB1, dCons, dNil, dVar, List.set_cons_zero, List.set_cons_succ, List.getElem?_cons_zero, List.getElem?_cons_succ, Option.some.injEq, exists_eq_left', D.tup.injEq]
      refine ⟨by rfl, _, _, rfl, _, _, rfl, rfl, a, b, rfl, bl_ok _ ⟨a, b, rfl, fun m' g13 => bl_ok _ (ne_same rfl ⟨_, rfl, ?_⟩)⟩⟩
      rw [if_neg (by decide)]
      exact hN' _ _ ⟨fun v hv' => hv v (by simp [hv']), g12.trans g13, _, _, _, _, _, _, rfl⟩
    · intro v hv
      simp only [List.mem_cons, List.not_mem_nil, or_false] at hv
      rcases hv with rfl | rfl | rfl | rfl | rfl | rfl | rfl
      · exact ⟨_, _, rfl⟩
      · exact ⟨_, _, rfl⟩
      · exact ⟨_, _, rfl⟩
      · exact ⟨_, _, rfl⟩
      · exact ⟨_, _, rfl⟩
      · exact ⟨[], _, rfl⟩
      · exact ⟨_, [], rfl⟩
end K01
namespace K01
open PySem PySem.Spec PyProof.Rows L2 DL
def top (i : Nat) : Stmt := PySem.Challenge.pw_ordercodes_k01_words_and_starts.main.body.getD i (.Pass ⟨0, 0, 0, 0⟩)
abbrev st_is_integer : Stmt := top 2
abbrev N_is_integer : List Str := ["value", "low", "high"]
theorem sc_is_integer : FnScope N_is_integer ["value", "low", "high"] (defScope st_is_integer) := ⟨rfl, rfl, rfl, by decide +kernel, rfl, by decide +kernel, by decide +kernel⟩
abbrev st_are_signs : Stmt := top 3
abbrev N_are_signs : List Str := ["signs", "value", "item"]
theorem sc_are_signs : FnScope N_are_signs ["signs", "value"] (defScope st_are_signs) := ⟨rfl, rfl, rfl, by decide +kernel, rfl, by decide +kernel, by decide +kernel⟩
abbrev st_is_word : Stmt := top 5
abbrev N_is_word : List Str := ["signs", "value"]
theorem sc_is_word : FnScope N_is_word ["signs", "value"] (defScope st_is_word) := ⟨rfl, rfl, rfl, by decide +kernel, rfl, by decide +kernel, by decide +kernel⟩
abbrev st_is_start : Stmt := top 6
abbrev N_is_start : List Str := ["one", "other"]
theorem sc_is_start : FnScope N_is_start ["one", "other"] (defScope st_is_start) := ⟨rfl, rfl, rfl, by decide +kernel, rfl, by decide +kernel, by decide +kernel⟩
abbrev st__law_deck : Stmt := top 8
abbrev N__law_deck : List Str := ["script", "great", "cell"]
theorem sc__law_deck : FnScope N__law_deck ["script"] (defScope st__law_deck) := ⟨rfl, rfl, rfl, by decide +kernel, rfl, by decide +kernel, by decide +kernel⟩
abbrev st__law_take : Stmt := top 9
abbrev N__law_take : List Str := ["deck", "many", "digit", "turn", "cells", "mixed"]
theorem sc__law_take : FnScope N__law_take ["deck", "many"] (defScope st__law_take) := ⟨rfl, rfl, rfl, by decide +kernel, rfl, by decide +kernel, by decide +kernel⟩
abbrev st__law_one : Stmt := top 10
abbrev N__law_one : List Str := ["deck", "items"]
theorem sc__law_one : FnScope N__law_one ["deck", "items"] (defScope st__law_one) := ⟨rfl, rfl, rfl, by decide +kernel, rfl, by decide +kernel, by decide +kernel⟩
abbrev st__law_is_whole : Stmt := top 11
abbrev N__law_is_whole : List Str := ["value", "low", "high"]
theorem sc__law_is_whole : FnScope N__law_is_whole ["value", "low", "high"] (defScope st__law_is_whole) := ⟨rfl, rfl, rfl, by decide +kernel, rfl, by decide +kernel, by decide +kernel⟩
abbrev st__law_odd : Stmt := top 12
abbrev N__law_odd : List Str := ["deck", "some"]
theorem sc__law_odd : FnScope N__law_odd ["deck"] (defScope st__law_odd) := ⟨rfl, rfl, rfl, by decide +kernel, rfl, by decide +kernel, by decide +kernel⟩
abbrev st__law_is_word : Stmt := top 13
abbrev N__law_is_word : List Str := ["signs", "value", "sign"]
theorem sc__law_is_word : FnScope N__law_is_word ["signs", "value"] (defScope st__law_is_word) := ⟨rfl, rfl, rfl, by decide +kernel, rfl, by decide +kernel, by decide +kernel⟩
abbrev st__law_starts : Stmt := top 14
abbrev N__law_starts : List Str := ["one", "other"]
theorem sc__law_starts : FnScope N__law_starts ["one", "other"] (defScope st__law_starts) := ⟨rfl, rfl, rfl, by decide +kernel, rfl, by decide +kernel, by decide +kernel⟩
abbrev st_law : Stmt := top 15
abbrev N_law : List Str := ["script", "deck", "turn", "signs", "word", "spot", "odd", "bent", "value", "shown", "due", "own", "other", "one", "two", "place"]
theorem sc_law : FnScope N_law ["script"] (defScope st_law) := ⟨rfl, rfl, rfl, by decide +kernel, rfl, by decide +kernel, by decide +kernel⟩
structure TopOk (K : PySem.W.Frag) (mg : Str → Option Value) : Prop where
  n_abs : mg "abs" = none
  n_all : mg "all" = none
  n_bool : mg "bool" = none
  n_int : mg "int" = none
  n_isinstance : mg "isinstance" = none
  n_len : mg "len" = none
  n_list : mg "list" = none
  n_range : mg "range" = none
  n_repr : mg "repr" = none
  n_tuple : mg "tuple" = none
  c_MAX_LONG : ∃ t, mg "MAX_LONG" = some (.int 16 t)
  f_is_integer : ∃ f fd, Fun K "is_integer" "is_integer" st_is_integer f fd ∧ mg "is_integer" = some (.ref f) ∧ Binds K fd ["value", "low", "high"] []
  f_are_signs : ∃ f fd, Fun K "are_signs" "are_signs" st_are_signs f fd ∧ mg "are_signs" = some (.ref f) ∧ Binds K fd ["signs", "value"] []
  f_is_word : ∃ f fd, Fun K "is_word" "is_word" st_is_word f fd ∧ mg "is_word" = some (.ref f) ∧ Binds K fd ["signs", "value"] []
  f_is_start : ∃ f fd, Fun K "is_start" "is_start" st_is_start f fd ∧ mg "is_start" = some (.ref f) ∧ Binds K fd ["one", "other"] []
  f__law_deck : ∃ f fd, Fun K "_law_deck" "_law_deck" st__law_deck f fd ∧ mg "_law_deck" = some (.ref f) ∧ Binds K fd ["script"] []
  f__law_take : ∃ f fd, Fun K "_law_take" "_law_take" st__law_take f fd ∧ mg "_law_take" = some (.ref f) ∧ Binds K fd ["deck", "many"] []
  f__law_one : ∃ f fd, Fun K "_law_one" "_law_one" st__law_one f fd ∧ mg "_law_one" = some (.ref f) ∧ Binds K fd ["deck", "items"] []
  f__law_is_whole : ∃ f fd, Fun K "_law_is_whole" "_law_is_whole" st__law_is_whole f fd ∧ mg "_law_is_whole" = some (.ref f) ∧ Binds K fd ["value", "low", "high"] []
  f__law_odd : ∃ f fd, Fun K "_law_odd" "_law_odd" st__law_odd f fd ∧ mg "_law_odd" = some (.ref f) ∧ Binds K fd ["deck"] []
  f__law_is_word : ∃ f fd, Fun K "_law_is_word" "_law_is_word" st__law_is_word f fd ∧ mg "_law_is_word" = some (.ref f) ∧ Binds K fd ["signs", "value"] []
  f__law_starts : ∃ f fd, Fun K "_law_starts" "_law_starts" st__law_starts f fd ∧ mg "_law_starts" = some (.ref f) ∧ Binds K fd ["one", "other"] []
  f_law : ∃ f fd, Fun K "law" "law" st_law f fd ∧ mg "law" = some (.ref f) ∧ ∀ (s : Shared) (u : Value), BindsTo s fd ⟨[u], []⟩ [("script", u)]
section
variable {P : Program} {w : World} {K : PySem.W.Frag} {mg : Str → Option Value} {base : Heap}
theorem ok_is_integer (T : TopOk K mg) : DefOk P w K mg base 1 "is_integer" ["value", "low", "high"] sp_is_integer := by
  obtain ⟨f, fd, F, hm, hb⟩ := T.f_is_integer
  refine def_ok F sc_is_integer hm hb (fun ds m Q h => by repeat (first | exact (congrArg List.length h.1).trans rfl | obtain ⟨_, h⟩ := h)) (fun cdv A outer s H E hr => ?_) hp_is_integer
  exact (jss_one (js_ret (je_and (je_isi "int" "int" T.n_isinstance T.n_int (je_var 0)) (je_and (je_not (je_isi "bool" "bool" T.n_isinstance T.n_bool (je_var 0))) (je_one (je_chain oj_le oj_le (je_var 1) (je_var 0) (je_var 2)))))))
theorem ok_are_signs (T : TopOk K mg) : DefOk P w K mg base 2 "are_signs" ["signs", "value"] sp_are_signs := by
  obtain ⟨f, fd, F, hm, hb⟩ := T.f_are_signs
  have G_is_integer := ok_is_integer (P := P) (w := w) (base := base) T
  refine def_ok F sc_are_signs hm hb (fun ds m Q h => by repeat (first | exact (congrArg List.length h.1).trans rfl | obtain ⟨_, h⟩ := h)) (fun cdv A outer s H E hr => ?_) hp_are_signs
  exact (jss_one (js_ret (je_and (je_isi "tuple" "tuple" T.n_isinstance T.n_tuple (je_var 1)) (je_one (je_blt (cj_all rfl) T.n_all (ja_cons (je_lc rfl sc_are_signs.nd (ji_any (je_var 1)) (blkOk_by (own := [("item", 2)]) (N := N_are_signs) (sc := defScope st_are_signs) (by decide +kernel)) (fun _ _ _ _ _ => (jg_name (i := 2) sc_are_signs.nd rfl (.inl rfl))) (fun _ _ _ _ _ => jts_nil) (fun _ _ _ _ _ => (je_call G_is_integer hr (ja_cons (je_var 2) (ja_cons je_int (ja_cons (je_op oj_sub (je_var 0) je_int) ja_nil)))))) ja_nil))))))
theorem ok_is_word (T : TopOk K mg) : DefOk P w K mg base 3 "is_word" ["signs", "value"] sp_is_word := by
  obtain ⟨f, fd, F, hm, hb⟩ := T.f_is_word
  have G_are_signs := ok_are_signs (P := P) (w := w) (base := base) T
  refine def_ok F sc_is_word hm hb (fun ds m Q h => by repeat (first | exact (congrArg List.length h.1).trans rfl | obtain ⟨_, h⟩ := h)) (fun cdv A outer s H E hr => ?_) hp_is_word
  exact (jss_one (js_ret (je_and (je_call G_are_signs hr (ja_cons (je_var 0) (ja_cons (je_var 1) ja_nil))) (je_one (je_cmp oj_le (je_blt cj_len T.n_len (ja_cons (je_var 1) ja_nil)) (je_k T.c_MAX_LONG))))))
theorem ok_is_start (T : TopOk K mg) : DefOk P w K mg base 1 "is_start" ["one", "other"] sp_is_start := by
  obtain ⟨f, fd, F, hm, hb⟩ := T.f_is_start
  refine def_ok F sc_is_start hm hb (fun ds m Q h => by repeat (first | exact (congrArg List.length h.1).trans rfl | obtain ⟨_, h⟩ := h)) (fun cdv A outer s H E hr => ?_) hp_is_start
  exact (jss_one (js_ret (je_cmp (oj_eq hr) (je_sl (je_var 1) jo_none (jo_some (je_blt cj_len T.n_len (ja_cons (je_var 0) ja_nil)))) (je_var 0))))
theorem ok__law_deck (T : TopOk K mg) : DefOk P w K mg base 1 "_law_deck" ["script"] sp__law_deck := by
  obtain ⟨f, fd, F, hm, hb⟩ := T.f__law_deck
  refine def_ok F sc__law_deck hm hb (fun ds m Q h => by repeat (first | exact (congrArg List.length h.1).trans rfl | obtain ⟨_, h⟩ := h)) (fun cdv A outer s H E hr => ?_) hp__law_deck
  exact (jss_cons (js_set (i := 1) sc__law_deck.nd rfl (.inl rfl) je_int)
    (jss_cons (js_for (vs := [2]) PassesOwn.never rfl (ji_any (je_sl (je_var 0) jo_none (jo_some je_int))) (jg_name (i := 2) sc__law_deck.nd rfl (.inl rfl)) (jss_one (js_if (jt_cmp oj_ge (je_blt cj_abs T.n_abs (ja_cons (je_var 2) ja_nil)) (je_op oj_pow je_int je_int)) (jss_one (js_set (i := 1) sc__law_deck.nd rfl (.inl rfl) (je_op oj_add (je_op oj_mul (je_var 1) je_int) (je_blt cj_abs T.n_abs (ja_cons (je_var 2) ja_nil))))) jss_nil)))
    (jss_one (js_ret (je_disp (jps_cons (je_op oj_add (je_bty cj_list T.n_list (ja_cons (je_sl (je_var 0) jo_none (jo_some je_int)) ja_nil)) (je_lst (ja_cons (je_op oj_add (je_blt cj_len T.n_len (ja_cons (je_var 0) ja_nil)) je_int) ja_nil))) (jps_cons je_int (jps_cons (je_var 1) jps_nil))))))))
theorem ok__law_take (T : TopOk K mg) : DefOk P w K mg base 1 "_law_take" ["deck", "many"] sp__law_take := by
  obtain ⟨f, fd, F, hm, hb⟩ := T.f__law_take
  refine def_ok F sc__law_take hm hb (fun ds m Q h => by repeat (first | exact (congrArg List.length h.1).trans rfl | obtain ⟨_, h⟩ := h)) (fun cdv A outer s H E hr => ?_) hp__law_take
  exact (jss_cons (js_asg (vs := []) (je_op oj_add (je_ix (ij_any hr) (je_var 0) je_str) je_int) (jg_sub (je_var 0) je_str (sj_set hr)))
    (jss_cons (js_if (jt_cmp oj_gt (je_ix (ij_any hr) (je_var 0) je_str) je_int) (jss_cons (js_set (i := 2) sc__law_take.nd rfl (.inl rfl) (je_op oj_mod (je_ix (ij_any hr) (je_var 0) je_str) (je_var 1)))
    (jss_cons (js_asg (vs := []) (je_op oj_div (je_ix (ij_any hr) (je_var 0) je_str) (je_var 1)) (jg_sub (je_var 0) je_str (sj_set hr)))
    (jss_one (js_ret (je_var 2))))) jss_nil)
    (jss_cons (js_par (i := 3) (j := 4) rfl sc__law_take.nd rfl rfl (by decide) rfl rfl (ja_cons (je_ix (ij_any hr) (je_var 0) je_str) (ja_cons (je_ix (ij_any hr) (je_var 0) je_str) ja_nil)))
    (jss_cons (js_set (i := 5) sc__law_take.nd rfl (.inl rfl) (je_op oj_mod (je_op oj_pow (je_op oj_add (je_op oj_add (je_op oj_mod (je_ix (ij_any hr) (je_var 4) (je_op oj_mod (je_var 3) (je_blt cj_len T.n_len (ja_cons (je_var 4) ja_nil)))) je_int) (je_op oj_mul je_int (je_var 3))) je_int) je_int) je_int))
    (jss_one (js_ret (je_op oj_mod (je_op oj_div (je_op oj_mod (je_op oj_add (je_op oj_mul (je_var 5) je_int) (je_op oj_mul (je_op oj_mul je_int (je_var 3)) (je_var 3))) je_int) je_int) (je_var 1))))))))
theorem ok__law_one (T : TopOk K mg) : DefOk P w K mg base 2 "_law_one" ["deck", "items"] sp__law_one := by
  obtain ⟨f, fd, F, hm, hb⟩ := T.f__law_one
  have G__law_take := ok__law_take (P := P) (w := w) (base := base) T
  refine def_ok F sc__law_one hm hb (fun ds m Q h => by repeat (first | exact (congrArg List.length h.1).trans rfl | obtain ⟨_, h⟩ := h)) (fun cdv A outer s H E hr => ?_) hp__law_one
  exact (jss_one (js_ret (je_ix (ij_any hr) (je_var 1) (je_call G__law_take hr (ja_cons (je_var 0) (ja_cons (je_blt cj_len T.n_len (ja_cons (je_var 1) ja_nil)) ja_nil))))))
theorem ok__law_is_whole (T : TopOk K mg) : DefOk P w K mg base 1 "_law_is_whole" ["value", "low", "high"] sp__law_is_whole := by
  obtain ⟨f, fd, F, hm, hb⟩ := T.f__law_is_whole
  refine def_ok F sc__law_is_whole hm hb (fun ds m Q h => by repeat (first | exact (congrArg List.length h.1).trans rfl | obtain ⟨_, h⟩ := h)) (fun cdv A outer s H E hr => ?_) hp__law_is_whole
  exact (jss_one (js_ret (je_and (je_isi "int" "int" T.n_isinstance T.n_int (je_var 0)) (je_and (je_not (je_isi "bool" "bool" T.n_isinstance T.n_bool (je_var 0))) (je_one (je_chain oj_le oj_le (je_var 1) (je_var 0) (je_var 2)))))))
theorem ok__law_odd (T : TopOk K mg) : DefOk P w K mg base 3 "_law_odd" ["deck"] sp__law_odd := by
  obtain ⟨f, fd, F, hm, hb⟩ := T.f__law_odd
  have G__law_one := ok__law_one (P := P) (w := w) (base := base) T
  refine def_ok F sc__law_odd hm hb (fun ds m Q h => by repeat (first | exact (congrArg List.length h.1).trans rfl | obtain ⟨_, h⟩ := h)) (fun cdv A outer s H E hr => ?_) hp__law_odd
  exact (jss_cons (js_set (i := 1) sc__law_odd.nd rfl (.inl rfl) (je_lst (ja_cons je_non (ja_cons je_bl (ja_cons je_bl (ja_cons (je_neg je_int) (ja_cons je_int (ja_cons je_int (ja_cons je_int (ja_cons je_int (ja_cons je_int (ja_cons (je_op oj_pow je_int je_int) (ja_cons (je_neg (je_op oj_pow je_int je_int)) (ja_cons je_str (ja_cons je_str (ja_cons je_str (ja_cons je_str (ja_cons (je_tup ja_nil) (ja_cons (je_tup (ja_cons je_int ja_nil)) (ja_cons (je_tup (ja_cons je_int (ja_cons je_int ja_nil))) (ja_cons (je_tup (ja_cons je_int (ja_cons je_int (ja_cons je_int ja_nil)))) ja_nil)))))))))))))))))))))
    (jss_cons (js_set (i := 1) sc__law_odd.nd rfl (.inl rfl) (je_op oj_add (je_var 1) (je_lst (ja_cons (je_tup (ja_cons je_bl ja_nil)) (ja_cons (je_tup (ja_cons je_int (ja_cons je_non ja_nil))) (ja_cons (je_lst ja_nil) (ja_cons (je_lst (ja_cons je_int ja_nil)) (ja_cons je_newK (ja_cons (je_disp (jps_cons je_int jps_nil)) (ja_cons (je_tup (ja_cons (je_tup (ja_cons je_int ja_nil)) (ja_cons (je_tup (ja_cons je_int ja_nil)) ja_nil))) (ja_cons (je_tup (ja_cons (je_tup ja_nil) (ja_cons (je_tup ja_nil) ja_nil))) (ja_cons (je_tup (ja_cons (je_tup (ja_cons je_int ja_nil)) (ja_cons (je_lst (ja_cons je_int ja_nil)) ja_nil))) (ja_cons (je_tup (ja_cons (je_tup (ja_cons je_int ja_nil)) (ja_cons (je_tup (ja_cons je_int (ja_cons je_int ja_nil))) ja_nil))) (ja_cons (je_lst (ja_cons (je_tup (ja_cons je_int ja_nil)) ja_nil)) ja_nil))))))))))))))
    (jss_one (js_ret (je_call G__law_one hr (ja_cons (je_var 0) (ja_cons (je_op oj_add (je_var 1) (je_lst (ja_cons (je_op oj_mul (je_tup (ja_cons je_int ja_nil)) je_int) (ja_cons (je_tup (ja_cons (je_neg je_int) ja_nil)) (ja_cons (je_tup (ja_cons je_int ja_nil)) (ja_cons (je_tup (ja_cons je_str ja_nil)) (ja_cons (je_tup (ja_cons (je_tup (ja_cons je_int ja_nil)) (ja_cons (je_tup (ja_cons je_int ja_nil)) ja_nil))) (ja_cons (je_tup (ja_cons (je_op oj_pow je_int je_int) ja_nil)) (ja_cons (je_tup (ja_cons je_int (ja_cons je_int (ja_cons je_int ja_nil)))) (ja_cons (je_tup (ja_cons (je_tup (ja_cons je_int (ja_cons je_int ja_nil))) (ja_cons (je_tup (ja_cons je_int ja_nil)) ja_nil))) ja_nil)))))))))) ja_nil)))))))
theorem ok__law_is_word (T : TopOk K mg) : DefOk P w K mg base 2 "_law_is_word" ["signs", "value"] sp__law_is_word := by
  obtain ⟨f, fd, F, hm, hb⟩ := T.f__law_is_word
  have G__law_is_whole := ok__law_is_whole (P := P) (w := w) (base := base) T
  refine def_ok F sc__law_is_word hm hb (fun ds m Q h => by repeat (first | exact (congrArg List.length h.1).trans rfl | obtain ⟨_, h⟩ := h)) (fun cdv A outer s H E hr => ?_) hp__law_is_word
  exact (jss_cons (js_if (jt_w (jw_or (jt_not (jt_val (je_isi "tuple" "tuple" T.n_isinstance T.n_tuple (je_var 1)))) (jw_or1 (jt_cmp oj_gt (je_blt cj_len T.n_len (ja_cons (je_var 1) ja_nil)) je_int)))) (jss_one (js_ret je_bl)) jss_nil)
    (jss_one (js_ret (je_blt (cj_all rfl) T.n_all (ja_cons (je_lc rfl sc__law_is_word.nd (ji_any (je_var 1)) (blkOk_by (own := [("sign", 2)]) (N := N__law_is_word) (sc := defScope st__law_is_word) (by decide +kernel)) (fun _ _ _ _ _ => (jg_name (i := 2) sc__law_is_word.nd rfl (.inl rfl))) (fun _ _ _ _ _ => jts_nil) (fun _ _ _ _ _ => (je_call G__law_is_whole hr (ja_cons (je_var 2) (ja_cons je_int (ja_cons (je_op oj_sub (je_var 0) je_int) ja_nil)))))) ja_nil)))))
theorem ok__law_starts (T : TopOk K mg) : DefOk P w K mg base 1 "_law_starts" ["one", "other"] sp__law_starts := by
  obtain ⟨f, fd, F, hm, hb⟩ := T.f__law_starts
  refine def_ok F sc__law_starts hm hb (fun ds m Q h => by repeat (first | exact (congrArg List.length h.1).trans rfl | obtain ⟨_, h⟩ := h)) (fun cdv A outer s H E hr => ?_) hp__law_starts
  exact (jss_one (js_ret (je_and (je_cmp oj_le (je_blt cj_len T.n_len (ja_cons (je_var 0) ja_nil)) (je_blt cj_len T.n_len (ja_cons (je_var 1) ja_nil))) (je_one (je_cmp (oj_eq hr) (je_bty cj_list T.n_list (ja_cons (je_var 0) ja_nil)) (je_bty cj_list T.n_list (ja_cons (je_sl (je_var 1) jo_none (jo_some (je_blt cj_len T.n_len (ja_cons (je_var 0) ja_nil)))) ja_nil)))))))
theorem ok_law (T : TopOk K mg) {f : Addr} (cdv : Value) (s : Shared) (H : Hp) (E : XK) (hr : Room 229 (callerA.deeper (envOfC "law" (defScope st_law) s.heap.objs.size f cdv))) :
    JSs (cxOf CX0 P w K mg base N_law "law" (defScope st_law) f cdv callerA [] s H E).nox (defBody st_law) b_law := by
  have G__law_deck := ok__law_deck (P := P) (w := w) (base := base) T
  have G__law_take := ok__law_take (P := P) (w := w) (base := base) T
  have G__law_one := ok__law_one (P := P) (w := w) (base := base) T
  have G__law_odd := ok__law_odd (P := P) (w := w) (base := base) T
  have G__law_is_word := ok__law_is_word (P := P) (w := w) (base := base) T
  have G_is_word := ok_is_word (P := P) (w := w) (base := base) T
  have G_is_start := ok_is_start (P := P) (w := w) (base := base) T
  have G__law_starts := ok__law_starts (P := P) (w := w) (base := base) T
  exact (jss_cons (js_set (i := 1) sc_law.nd rfl (.inr rfl) (je_call G__law_deck hr (ja_cons (je_var 0) ja_nil)))
    (jss_cons (js_for (vs := [2]) PassesOwn.never rfl (ji_r1 T.n_range (ja_cons je_int ja_nil)) (jg_name (i := 2) sc_law.nd rfl (.inl rfl)) (jss_cons (js_set (i := 3) sc_law.nd rfl (.inr rfl) (je_op oj_add je_int (je_call G__law_take hr (ja_cons (je_var 1) (ja_cons je_int ja_nil)))))
    (jss_cons (js_set (i := 4) sc_law.nd rfl (.inl rfl) (je_bty cj_tuple T.n_tuple (ja_cons (je_lc rfl sc_law.nd (ji_r1 T.n_range (ja_cons (je_call G__law_one hr (ja_cons (je_var 1) (ja_cons (je_lst (ja_cons je_int (ja_cons je_int (ja_cons je_int (ja_cons je_int (ja_cons je_int (ja_cons je_int ja_nil))))))) ja_nil))) ja_nil)) (blkOk_by (own := [("place", 15)]) (N := N_law) (sc := defScope st_law) (by decide +kernel)) (fun _ _ _ _ _ => (jg_name (i := 15) sc_law.nd rfl (.inl rfl))) (fun _ _ _ _ _ => jts_nil) (fun _ _ _ _ _ => (je_call G__law_take hr (ja_cons (je_var 1) (ja_cons (je_var 3) ja_nil))))) ja_nil)))
    (jss_cons (js_par (i := 5) (j := 6) rfl sc_law.nd rfl rfl (by decide) rfl rfl (ja_cons (je_call G__law_take hr (ja_cons (je_var 1) (ja_cons (je_op oj_add (je_blt cj_len T.n_len (ja_cons (je_var 4) ja_nil)) je_int) ja_nil))) (ja_cons (je_call G__law_odd hr (ja_cons (je_var 1) ja_nil)) ja_nil)))
    (jss_cons (js_set (i := 7) sc_law.nd rfl (.inl rfl) (je_op oj_add (je_op oj_add (je_sl (je_var 4) jo_none (jo_some (je_var 5))) (je_tup (ja_cons (je_call G__law_one hr (ja_cons (je_var 1) (ja_cons (je_lst (ja_cons (je_var 6) (ja_cons je_bl (ja_cons je_bl (ja_cons (je_var 3) (ja_cons (je_neg je_int) (ja_cons je_non (ja_cons je_str (ja_cons (je_op oj_sub (je_var 3) je_int) (ja_cons (je_op oj_pow je_int je_int) ja_nil)))))))))) ja_nil))) ja_nil))) (je_sl (je_var 4) (jo_some (je_op oj_add (je_var 5) je_int)) jo_none)))
    (jss_cons (js_for (vs := [8]) PassesOwn.never rfl (ji_any (je_lst (ja_cons (je_var 4) (ja_cons (je_var 7) (ja_cons (je_var 6) (ja_cons (je_bty cj_list T.n_list (ja_cons (je_var 4) ja_nil)) (ja_cons (je_tup (ja_cons (je_var 4) ja_nil)) ja_nil))))))) (jg_name (i := 8) sc_law.nd rfl (.inl rfl)) (jss_cons (js_par (i := 9) (j := 10) rfl sc_law.nd rfl rfl (by decide) rfl rfl (ja_cons (je_blt (cj_repr rfl hr) T.n_repr (ja_cons (je_var 8) ja_nil)) (ja_cons (je_call G__law_is_word hr (ja_cons (je_var 3) (ja_cons (je_var 8) ja_nil))) ja_nil)))
    (jss_one (js_if (jt_cmp (oj_ne hr) (je_blt (cj_repr rfl hr) T.n_repr (ja_cons (je_lst (ja_cons (je_call G_is_word hr (ja_cons (je_var 3) (ja_cons (je_var 8) ja_nil))) (ja_cons (je_call G_is_word hr (ja_cons (je_var 3) (ja_cons (je_var 8) ja_nil))) (ja_cons (je_blt (cj_repr rfl hr) T.n_repr (ja_cons (je_var 8) ja_nil)) ja_nil)))) ja_nil)) (je_blt (cj_repr rfl hr) T.n_repr (ja_cons (je_lst (ja_cons (je_var 10) (ja_cons (je_var 10) (ja_cons (je_var 9) ja_nil)))) ja_nil))) (jss_one (js_ret je_bl)) jss_nil))))
    (jss_cons (js_set (i := 11) sc_law.nd rfl (.inl rfl) (je_sl (je_var 4) jo_none (jo_some je_int)))
    (jss_cons (js_set (i := 12) sc_law.nd rfl (.inl rfl) (je_bty cj_tuple T.n_tuple (ja_cons (je_lc rfl sc_law.nd (ji_r1 T.n_range (ja_cons (je_call G__law_take hr (ja_cons (je_var 1) (ja_cons je_int ja_nil))) ja_nil)) (blkOk_by (own := [("place", 15)]) (N := N_law) (sc := defScope st_law) (by decide +kernel)) (fun _ _ _ _ _ => (jg_name (i := 15) sc_law.nd rfl (.inl rfl))) (fun _ _ _ _ _ => jts_nil) (fun _ _ _ _ _ => (je_call G__law_take hr (ja_cons (je_var 1) (ja_cons (je_var 3) ja_nil))))) ja_nil)))
    (jss_one (js_for (vs := [13, 14]) PassesOwn.never rfl (ji_any (je_lst (ja_cons (je_tup (ja_cons (je_var 11) (ja_cons (je_var 11) ja_nil))) (ja_cons (je_tup (ja_cons (je_sl (je_var 11) jo_none (jo_some (je_var 5))) (ja_cons (je_var 11) ja_nil))) (ja_cons (je_tup (ja_cons (je_var 11) (ja_cons (je_sl (je_var 11) jo_none (jo_some (je_var 5))) ja_nil))) (ja_cons (je_tup (ja_cons (je_var 12) (ja_cons (je_var 11) ja_nil))) (ja_cons (je_tup (ja_cons (je_sl (je_var 12) jo_none (jo_some je_int)) (ja_cons (je_var 11) ja_nil))) (ja_cons (je_tup (ja_cons (je_tup ja_nil) (ja_cons (je_var 11) ja_nil))) (ja_cons (je_tup (ja_cons (je_var 11) (ja_cons (je_tup ja_nil) ja_nil))) ja_nil))))))))) (jg_tup rfl (jgs_cons (jg_name (i := 13) sc_law.nd rfl (.inl rfl)) (jgs_cons (jg_name (i := 14) sc_law.nd rfl (.inl rfl)) jgs_nil))) (jss_one (js_if (jt_cmp (oj_ne hr) (je_blt (cj_repr rfl hr) T.n_repr (ja_cons (je_call G_is_start hr (ja_cons (je_var 13) (ja_cons (je_var 14) ja_nil))) ja_nil)) (je_blt (cj_repr rfl hr) T.n_repr (ja_cons (je_call G__law_starts hr (ja_cons (je_var 13) (ja_cons (je_var 14) ja_nil))) ja_nil))) (jss_one (js_ret je_bl)) jss_nil))))))))))))
    (jss_one (js_ret je_bl))))
theorem fin (T : TopOk K mg) {fa : Addr} (hmg : mg "law" = some (.ref fa)) : ∃ (x : Str) (fd : FuncData), Fun K x "law" st_law fa fd ∧ (∀ (s : Shared) (u : Value), BindsTo s fd ⟨[u], []⟩ [("script", u)]) ∧
    ∀ (base : Heap) (cdv : Value) (s : Shared) (H : Hp) (E : XK), Room 229 (callerA.deeper (envOfC "law" (defScope st_law) s.heap.objs.size fa cdv)) →
      JSs (cxOf CX0 P w K mg base N_law "law" (defScope st_law) fa cdv callerA [] s H E).nox (defBody st_law) b_law := by
  obtain ⟨f, fd, F, hm, hb⟩ := T.f_law
  have e := hm.symm.trans hmg
  cases e
  exact ⟨"law", fd, F, hb, fun base cdv s H E hr => ok_law T cdv s H E hr⟩
end
theorem top_mk {K : PySem.W.Frag} {h : Heap} {mg : Str → Option Value} (X : K.In h) (G : h.Ns mainGlobals mg)
    (z_abs : PySem.W.nsIn K mainGlobals "abs" = some none)
    (z_all : PySem.W.nsIn K mainGlobals "all" = some none)
    (z_bool : PySem.W.nsIn K mainGlobals "bool" = some none)
    (z_int : PySem.W.nsIn K mainGlobals "int" = some none)
    (z_isinstance : PySem.W.nsIn K mainGlobals "isinstance" = some none)
    (z_len : PySem.W.nsIn K mainGlobals "len" = some none)
    (z_list : PySem.W.nsIn K mainGlobals "list" = some none)
    (z_range : PySem.W.nsIn K mainGlobals "range" = some none)
    (z_repr : PySem.W.nsIn K mainGlobals "repr" = some none)
    (z_tuple : PySem.W.nsIn K mainGlobals "tuple" = some none)
    {t_MAX_LONG} (z_MAX_LONG : PySem.W.nsIn K mainGlobals "MAX_LONG" = some (some (.int 16 t_MAX_LONG)))
    {f0 : Addr} {od0 an0 : Option Addr} {sl0 : Array (Option Value)} {oc0 kV0 dc0 pm0 cd0 ct0 : Value}
    (a0 : PySem.W.nsIn K mainGlobals "is_integer" = some (some (.ref f0))) (l0 : K.lookup f0 = some ⟨oc0, od0, .func (PySem.W.fnOf "is_integer" "is_integer" (defArgs st_is_integer) (defBody st_is_integer) (defScope st_is_integer) .none kV0 dc0 pm0 an0 cd0 ct0), sl0⟩) (c0 : PySem.W.codeIn K cd0 "is_integer" = true) (k0 : PySem.W.keepIn K (.ref f0) = true)
    {f1 : Addr} {od1 an1 : Option Addr} {sl1 : Array (Option Value)} {oc1 kV1 dc1 pm1 cd1 ct1 : Value}
    (a1 : PySem.W.nsIn K mainGlobals "are_signs" = some (some (.ref f1))) (l1 : K.lookup f1 = some ⟨oc1, od1, .func (PySem.W.fnOf "are_signs" "are_signs" (defArgs st_are_signs) (defBody st_are_signs) (defScope st_are_signs) .none kV1 dc1 pm1 an1 cd1 ct1), sl1⟩) (c1 : PySem.W.codeIn K cd1 "are_signs" = true) (k1 : PySem.W.keepIn K (.ref f1) = true)
    {f2 : Addr} {od2 an2 : Option Addr} {sl2 : Array (Option Value)} {oc2 kV2 dc2 pm2 cd2 ct2 : Value}
    (a2 : PySem.W.nsIn K mainGlobals "is_word" = some (some (.ref f2))) (l2 : K.lookup f2 = some ⟨oc2, od2, .func (PySem.W.fnOf "is_word" "is_word" (defArgs st_is_word) (defBody st_is_word) (defScope st_is_word) .none kV2 dc2 pm2 an2 cd2 ct2), sl2⟩) (c2 : PySem.W.codeIn K cd2 "is_word" = true) (k2 : PySem.W.keepIn K (.ref f2) = true)
    {f3 : Addr} {od3 an3 : Option Addr} {sl3 : Array (Option Value)} {oc3 kV3 dc3 pm3 cd3 ct3 : Value}
    (a3 : PySem.W.nsIn K mainGlobals "is_start" = some (some (.ref f3))) (l3 : K.lookup f3 = some ⟨oc3, od3, .func (PySem.W.fnOf "is_start" "is_start" (defArgs st_is_start) (defBody st_is_start) (defScope st_is_start) .none kV3 dc3 pm3 an3 cd3 ct3), sl3⟩) (c3 : PySem.W.codeIn K cd3 "is_start" = true) (k3 : PySem.W.keepIn K (.ref f3) = true)
    {f4 : Addr} {od4 an4 : Option Addr} {sl4 : Array (Option Value)} {oc4 kV4 dc4 pm4 cd4 ct4 : Value}
    (a4 : PySem.W.nsIn K mainGlobals "_law_deck" = some (some (.ref f4))) (l4 : K.lookup f4 = some ⟨oc4, od4, .func (PySem.W.fnOf "_law_deck" "_law_deck" (defArgs st__law_deck) (defBody st__law_deck) (defScope st__law_deck) .none kV4 dc4 pm4 an4 cd4 ct4), sl4⟩) (c4 : PySem.W.codeIn K cd4 "_law_deck" = true) (k4 : PySem.W.keepIn K (.ref f4) = true)
    {f5 : Addr} {od5 an5 : Option Addr} {sl5 : Array (Option Value)} {oc5 kV5 dc5 pm5 cd5 ct5 : Value}
    (a5 : PySem.W.nsIn K mainGlobals "_law_take" = some (some (.ref f5))) (l5 : K.lookup f5 = some ⟨oc5, od5, .func (PySem.W.fnOf "_law_take" "_law_take" (defArgs st__law_take) (defBody st__law_take) (defScope st__law_take) .none kV5 dc5 pm5 an5 cd5 ct5), sl5⟩) (c5 : PySem.W.codeIn K cd5 "_law_take" = true) (k5 : PySem.W.keepIn K (.ref f5) = true)
    {f6 : Addr} {od6 an6 : Option Addr} {sl6 : Array (Option Value)} {oc6 kV6 dc6 pm6 cd6 ct6 : Value}
    (a6 : PySem.W.nsIn K mainGlobals "_law_one" = some (some (.ref f6))) (l6 : K.lookup f6 = some ⟨oc6, od6, .func (PySem.W.fnOf "_law_one" "_law_one" (defArgs st__law_one) (defBody st__law_one) (defScope st__law_one) .none kV6 dc6 pm6 an6 cd6 ct6), sl6⟩) (c6 : PySem.W.codeIn K cd6 "_law_one" = true) (k6 : PySem.W.keepIn K (.ref f6) = true)
    {f7 : Addr} {od7 an7 : Option Addr} {sl7 : Array (Option Value)} {oc7 kV7 dc7 pm7 cd7 ct7 : Value}
    (a7 : PySem.W.nsIn K mainGlobals "_law_is_whole" = some (some (.ref f7))) (l7 : K.lookup f7 = some ⟨oc7, od7, .func (PySem.W.fnOf "_law_is_whole" "_law_is_whole" (defArgs st__law_is_whole) (defBody st__law_is_whole) (defScope st__law_is_whole) .none kV7 dc7 pm7 an7 cd7 ct7), sl7⟩) (c7 : PySem.W.codeIn K cd7 "_law_is_whole" = true) (k7 : PySem.W.keepIn K (.ref f7) = true)
    {f8 : Addr} {od8 an8 : Option Addr} {sl8 : Array (Option Value)} {oc8 kV8 dc8 pm8 cd8 ct8 : Value}
    (a8 : PySem.W.nsIn K mainGlobals "_law_odd" = some (some (.ref f8))) (l8 : K.lookup f8 = some ⟨oc8, od8, .func (PySem.W.fnOf "_law_odd" "_law_odd" (defArgs st__law_odd) (defBody st__law_odd) (defScope st__law_odd) .none kV8 dc8 pm8 an8 cd8 ct8), sl8⟩) (c8 : PySem.W.codeIn K cd8 "_law_odd" = true) (k8 : PySem.W.keepIn K (.ref f8) = true)
    {f9 : Addr} {od9 an9 : Option Addr} {sl9 : Array (Option Value)} {oc9 kV9 dc9 pm9 cd9 ct9 : Value}
    (a9 : PySem.W.nsIn K mainGlobals "_law_is_word" = some (some (.ref f9))) (l9 : K.lookup f9 = some ⟨oc9, od9, .func (PySem.W.fnOf "_law_is_word" "_law_is_word" (defArgs st__law_is_word) (defBody st__law_is_word) (defScope st__law_is_word) .none kV9 dc9 pm9 an9 cd9 ct9), sl9⟩) (c9 : PySem.W.codeIn K cd9 "_law_is_word" = true) (k9 : PySem.W.keepIn K (.ref f9) = true)
    {f10 : Addr} {od10 an10 : Option Addr} {sl10 : Array (Option Value)} {oc10 kV10 dc10 pm10 cd10 ct10 : Value}
    (a10 : PySem.W.nsIn K mainGlobals "_law_starts" = some (some (.ref f10))) (l10 : K.lookup f10 = some ⟨oc10, od10, .func (PySem.W.fnOf "_law_starts" "_law_starts" (defArgs st__law_starts) (defBody st__law_starts) (defScope st__law_starts) .none kV10 dc10 pm10 an10 cd10 ct10), sl10⟩) (c10 : PySem.W.codeIn K cd10 "_law_starts" = true) (k10 : PySem.W.keepIn K (.ref f10) = true)
    {f11 : Addr} {od11 an11 : Option Addr} {sl11 : Array (Option Value)} {oc11 kV11 dc11 pm11 cd11 ct11 : Value}
    (a11 : PySem.W.nsIn K mainGlobals "law" = some (some (.ref f11))) (l11 : K.lookup f11 = some ⟨oc11, od11, .func (PySem.W.fnOf "law" "law" (defArgs st_law) (defBody st_law) (defScope st_law) .none kV11 dc11 pm11 an11 cd11 ct11), sl11⟩) (c11 : PySem.W.codeIn K cd11 "law" = true) (k11 : PySem.W.keepIn K (.ref f11) = true)
    : TopOk K mg := by
  have F0 := fun_mk (st := st_is_integer) l0 c0 k0
  have b0 := F0.binds (ps := ["value", "low", "high"]) fun _ _ _ _ _ _ us hl => match us, hl with | [_, _, _], _ => rfl
  have F1 := fun_mk (st := st_are_signs) l1 c1 k1
  have b1 := F1.binds (ps := ["signs", "value"]) fun _ _ _ _ _ _ us hl => match us, hl with | [_, _], _ => rfl
  have F2 := fun_mk (st := st_is_word) l2 c2 k2
  have b2 := F2.binds (ps := ["signs", "value"]) fun _ _ _ _ _ _ us hl => match us, hl with | [_, _], _ => rfl
  have F3 := fun_mk (st := st_is_start) l3 c3 k3
  have b3 := F3.binds (ps := ["one", "other"]) fun _ _ _ _ _ _ us hl => match us, hl with | [_, _], _ => rfl
  have F4 := fun_mk (st := st__law_deck) l4 c4 k4
  have b4 := F4.binds (ps := ["script"]) fun _ _ _ _ _ _ us hl => match us, hl with | [_], _ => rfl
  have F5 := fun_mk (st := st__law_take) l5 c5 k5
  have b5 := F5.binds (ps := ["deck", "many"]) fun _ _ _ _ _ _ us hl => match us, hl with | [_, _], _ => rfl
  have F6 := fun_mk (st := st__law_one) l6 c6 k6
  have b6 := F6.binds (ps := ["deck", "items"]) fun _ _ _ _ _ _ us hl => match us, hl with | [_, _], _ => rfl
  have F7 := fun_mk (st := st__law_is_whole) l7 c7 k7
  have b7 := F7.binds (ps := ["value", "low", "high"]) fun _ _ _ _ _ _ us hl => match us, hl with | [_, _, _], _ => rfl
  have F8 := fun_mk (st := st__law_odd) l8 c8 k8
  have b8 := F8.binds (ps := ["deck"]) fun _ _ _ _ _ _ us hl => match us, hl with | [_], _ => rfl
  have F9 := fun_mk (st := st__law_is_word) l9 c9 k9
  have b9 := F9.binds (ps := ["signs", "value"]) fun _ _ _ _ _ _ us hl => match us, hl with | [_, _], _ => rfl
  have F10 := fun_mk (st := st__law_starts) l10 c10 k10
  have b10 := F10.binds (ps := ["one", "other"]) fun _ _ _ _ _ _ us hl => match us, hl with | [_, _], _ => rfl
  have F11 := fun_mk (st := st_law) l11 c11 k11
  exact ⟨PySem.W.mg_none_of X G z_abs, PySem.W.mg_none_of X G z_all, PySem.W.mg_none_of X G z_bool, PySem.W.mg_none_of X G z_int, PySem.W.mg_none_of X G z_isinstance, PySem.W.mg_none_of X G z_len, PySem.W.mg_none_of X G z_list, PySem.W.mg_none_of X G z_range, PySem.W.mg_none_of X G z_repr, PySem.W.mg_none_of X G z_tuple, ⟨_, PySem.W.mg_of X G z_MAX_LONG⟩, ⟨_, _, F0, PySem.W.mg_of X G a0, b0⟩, ⟨_, _, F1, PySem.W.mg_of X G a1, b1⟩, ⟨_, _, F2, PySem.W.mg_of X G a2, b2⟩, ⟨_, _, F3, PySem.W.mg_of X G a3, b3⟩, ⟨_, _, F4, PySem.W.mg_of X G a4, b4⟩, ⟨_, _, F5, PySem.W.mg_of X G a5, b5⟩, ⟨_, _, F6, PySem.W.mg_of X G a6, b6⟩, ⟨_, _, F7, PySem.W.mg_of X G a7, b7⟩, ⟨_, _, F8, PySem.W.mg_of X G a8, b8⟩, ⟨_, _, F9, PySem.W.mg_of X G a9, b9⟩, ⟨_, _, F10, PySem.W.mg_of X G a10, b10⟩, ⟨_, _, F11, PySem.W.mg_of X G a11, fun s v => .of_eq rfl⟩⟩
end K01
open PySem PySem.W PyProof.Rows
set_option maxRecDepth 100000 in
set_option maxHeartbeats 0 in
theorem PySem.Challenge.cw_ordercodes_k01_words_and_starts_holds : PySem.Challenge.rw_ordercodes_k01_words_and_starts.Holds := by
  w_on; o_law; k_head; (case hw => w_witness2)
  k_fill
  refine DL.law_attach (l := PySem.Challenge.rw_ordercodes_k01_words_and_starts) (p := "script") (qual := "law") (st := K01.st_law) (N := K01.N_law) (g := K01.b_law) rfl rfl (fun w h Y => PySem.W.kIn_of Y) K01.sc_law ?F K01.hp_law
  case F =>
    intro w mg fa h KX G hmg
    refine K01.fin (P := PySem.Challenge.rw_ordercodes_k01_words_and_starts.prog) ?T hmg
    refine' K01.top_mk KX G ?z_abs ?z_all ?z_bool ?z_int ?z_isinstance ?z_len ?z_list ?z_range ?z_repr ?z_tuple ?z_MAX_LONG ?a0 ?l0 ?c0 ?k0 ?a1 ?l1 ?c1 ?k1 ?a2 ?l2 ?c2 ?k2 ?a3 ?l3 ?c3 ?k3 ?a4 ?l4 ?c4 ?k4 ?a5 ?l5 ?c5 ?k5 ?a6 ?l6 ?c6 ?k6 ?a7 ?l7 ?c7 ?k7 ?a8 ?l8 ?c8 ?k8 ?a9 ?l9 ?c9 ?k9 ?a10 ?l10 ?c10 ?k10 ?a11 ?l11 ?c11 ?k11
    (case z_abs => k_is)
    (case z_all => k_is)
    (case z_bool => k_is)
    (case z_int => k_is)
    (case z_isinstance => k_is)
    (case z_len => k_is)
    (case z_list => k_is)
    (case z_range => k_is)
    (case z_repr => k_is)
    (case z_tuple => k_is)
    (case z_MAX_LONG => k_is)
    (case a0 => k_is)
    (case l0 => k_is)
    (case c0 => k_is)
    (case k0 => k_is)
    (case a1 => k_is)
    (case l1 => k_is)
    (case c1 => k_is)
    (case k1 => k_is)
    (case a2 => k_is)
    (case l2 => k_is)
    (case c2 => k_is)
    (case k2 => k_is)
    (case a3 => k_is)
    (case l3 => k_is)
    (case c3 => k_is)
    (case k3 => k_is)
    (case a4 => k_is)
    (case l4 => k_is)
    (case c4 => k_is)
    (case k4 => k_is)
    (case a5 => k_is)
    (case l5 => k_is)
    (case c5 => k_is)
    (case k5 => k_is)
    (case a6 => k_is)
    (case l6 => k_is)
    (case c6 => k_is)
    (case k6 => k_is)
    (case a7 => k_is)
    (case l7 => k_is)
    (case c7 => k_is)
    (case k7 => k_is)
    (case a8 => k_is)
    (case l8 => k_is)
    (case c8 => k_is)
    (case k8 => k_is)
    (case a9 => k_is)
    (case l9 => k_is)
    (case c9 => k_is)
    (case k9 => k_is)
    (case a10 => k_is)
    (case l10 => k_is)
    (case c10 => k_is)
    (case k10 => k_is)
    (case a11 => k_is)
    (case l11 => k_is)
    (case c11 => k_is)
    (case k11 => k_is)
#print axioms PySem.Challenge.cw_ordercodes_k01_words_and_starts_holds
