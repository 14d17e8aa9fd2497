import PyProof.Rows.All
import Wide.All
import OpenK.AllK
import Wide.FinOn
import HandS.NoneIn
import HandS.ForMost
import HandS.Wide
import HandS.SortInts
import HandS.WideBits
import HandS.IsInst
import HandS.Text
import HandS.TupAny
import HandS.Deep
import HandS.TupMul
import HandS.SortRule
import HandS.More
import HandS.Walk
import HandS.Rev
import HandS.Zip
import KE.GoesMore
import KE.GoesEnum
import PyProof.LongRange
import HandS.Style
import HandS.Defaults
import HandS.HeadHook2
import HandS.HeadEnd
import HandS.EndBits
import HandS.Head0
import HandS.Head1
import HandS.Head2
import HandS.HeadHook1
import PySem.Challenge.RW_backslope_k97_logarithms_near_nought
set_option Elab.async false
set_option linter.all false
set_option maxRecDepth 100000
/-! VL1: values as data, how they lie in the abstract heap. -/
namespace VL
open PySem PySem.Spec PyProof.Rows L2

/-- data: what a value is worth -/
inductive D where
  | non | bl (b : Bool) | int (i : Int) | str (s : Str) | tup (ds : List D) | lst (ds : List D) | fix (ds : List D)

/-- a list that may be read only -/
def FixAt (K : PySem.W.Frag) (H : Hp) (a : Addr) (xs : List V) : Prop :=
  (∃ o, H a = some (.frz o (.lst xs))) ∨
    ∃ (o : Obj) (its : Array Value) (n : Nat), K.lookup a = some o ∧ o.cls = .type "list" ∧ o.dict = none ∧ o.data = .seq its n ∧ its.size ≤ sizeLine ∧ Vals xs its.toList

mutual
def Rep (K : PySem.W.Frag) (H : Hp) (av : Addr → Prop) : D → V → Prop
  | .non, v => v = .non
  | .bl b, v => v = .bl b
  | .int i, v => v = .int i
  | .str s, v => v = .str s
  | .tup ds, v => ∃ a xs, v = .ref a ∧ SqT K H a xs ∧ Reps K H av ds xs
  | .lst ds, v => ∃ a xs, v = .ref a ∧ H a = some (.lst xs) ∧ ¬ av a ∧ Reps K H av ds xs
  | .fix ds, v => ∃ a xs, v = .ref a ∧ FixAt K H a xs ∧ Reps K H av ds xs
def Reps (K : PySem.W.Frag) (H : Hp) (av : Addr → Prop) : List D → List V → Prop
  | [], vs => vs = []
  | d :: ds, vs => ∃ v r, vs = v :: r ∧ Rep K H av d v ∧ Reps K H av ds r
end

/-- what may change: the lists at av -/
structure Ext (av : Addr → Prop) (H H' : Hp) : Prop where
  keep : ∀ a o, H a = some o → ¬ av a → H' a = some o
  other : ∀ a o, H a = some o → (∀ xs, o ≠ .lst xs) → H' a = some o
  there : ∀ a o, H a = some o → ∃ o', H' a = some o'

theorem Ext.refl (av : Addr → Prop) (H : Hp) : Ext av H H := ⟨fun _ _ h _ => h, fun _ _ h _ => h, fun _ o h => ⟨o, h⟩⟩
theorem Ext.trans {av : Addr → Prop} {H H1 H2 : Hp} (a : Ext av H H1) (b : Ext av H1 H2) : Ext av H H2 :=
  ⟨fun c o h n => b.keep c o (a.keep c o h n) n, fun c o h n => b.other c o (a.other c o h n) n, fun c o h => let ⟨o', h'⟩ := a.there c o h; b.there c o' h'⟩
theorem Ext.mono {av av' : Addr → Prop} {H H' : Hp} (a : Ext av H H') (h : ∀ b, av b → av' b) : Ext av' H H' :=
  ⟨fun c o e n => a.keep c o e fun z => n (h c z), a.other, a.there⟩
theorem Ext.new {av : Addr → Prop} {H : Hp} {p : Addr} {o : HO} (h : H p = none) : Ext av H (upd H p o) := by
  have k : ∀ a u, H a = some u → upd H p o a = some u := fun a u e => by rw [upd_ne (ne_of_none e h)]; exact e
  exact ⟨fun a u e _ => k a u e, fun a u e _ => k a u e, fun a u e => ⟨u, k a u e⟩⟩
theorem Ext.free {av : Addr → Prop} {H H' : Hp} (e : Ext av H H') {a : Addr} (h : H' a = none) : H a = none := by
  cases q : H a with
  | none => rfl
  | some o =>
    obtain ⟨o', h'⟩ := e.there a o q
    rw [h] at h'; cases h'
theorem Ext.same {H H' : Hp} (e : Ext (fun _ => False) H H') : Same H H' := fun a o h => e.keep a o h fun z => z
theorem Ext.of_same {av : Addr → Prop} {H H' : Hp} (e : Same H H') : Ext av H H' := ⟨fun a o h _ => e a o h, fun a o h _ => e a o h, fun a o h => ⟨o, e a o h⟩⟩

section
variable {K : PySem.W.Frag} {H H' : Hp} {av av' : Addr → Prop}
theorem Ext.tup (e : Ext av H H') {a : Addr} {xs : List V} (h : SqT K H a xs) : SqT K H' a xs := by
  rcases h with (h | ⟨o, h⟩) | h
  · exact .inl (.inl (e.other _ _ h fun _ z => nomatch z))
  · exact .inl (.inr ⟨o, e.other _ _ h fun _ z => nomatch z⟩)
  · exact .inr h
theorem FixAt.ext {a : Addr} {xs : List V} (h : FixAt K H a xs) (e : Ext av H H') : FixAt K H' a xs := by
  rcases h with ⟨o, h⟩ | h
  · exact .inl ⟨o, e.other _ _ h fun _ z => nomatch z⟩
  · exact .inr h
theorem FixAt.seq {a : Addr} {xs : List V} (h : FixAt K H a xs) : SqL K H a xs := by
  rcases h with ⟨o, h⟩ | h
  · exact .inl (.inr ⟨o, h⟩)
  · exact .inr h
mutual
theorem Rep.ext (e : Ext av H H') : ∀ {d : D} {v : V}, Rep K H av d v → Rep K H' av d v
  | .non, _, h => h
  | .bl _, _, h => h
  | .int _, _, h => h
  | .str _, _, h => h
  | .tup ds, v, h => by
    unfold Rep at h ⊢
    obtain ⟨a, xs, rfl, h1, h2⟩ := h
    exact ⟨a, xs, rfl, e.tup h1, Reps.ext e h2⟩
  | .lst ds, v, h => by
    unfold Rep at h ⊢
    obtain ⟨a, xs, rfl, h1, hn, h2⟩ := h
    exact ⟨a, xs, rfl, e.keep _ _ h1 hn, hn, Reps.ext e h2⟩
  | .fix ds, v, h => by
    unfold Rep at h ⊢
    obtain ⟨a, xs, rfl, h1, h2⟩ := h
    exact ⟨a, xs, rfl, h1.ext e, Reps.ext e h2⟩
theorem Reps.ext (e : Ext av H H') : ∀ {ds : List D} {vs : List V}, Reps K H av ds vs → Reps K H' av ds vs
  | [], _, h => h
  | d :: ds, vs, h => by
    unfold Reps at h ⊢
    obtain ⟨v, r, rfl, h1, h2⟩ := h
    exact ⟨v, r, rfl, Rep.ext e h1, Reps.ext e h2⟩
end
mutual
/-- other addresses avoided -/
theorem Rep.wk (f : ∀ b, H b ≠ none → av' b → av b) : ∀ {d : D} {v : V}, Rep K H av d v → Rep K H av' d v
  | .non, _, h => h
  | .bl _, _, h => h
  | .int _, _, h => h
  | .str _, _, h => h
  | .tup ds, v, h => by
    unfold Rep at h ⊢
    obtain ⟨a, xs, rfl, h1, h2⟩ := h
    exact ⟨a, xs, rfl, h1, Reps.wk f h2⟩
  | .lst ds, v, h => by
    unfold Rep at h ⊢
    obtain ⟨a, xs, rfl, h1, hn, h2⟩ := h
    exact ⟨a, xs, rfl, h1, fun z => hn (f a (by rw [h1]; exact fun z => nomatch z) z), Reps.wk f h2⟩
  | .fix ds, v, h => by
    unfold Rep at h ⊢
    obtain ⟨a, xs, rfl, h1, h2⟩ := h
    exact ⟨a, xs, rfl, h1, Reps.wk f h2⟩
theorem Reps.wk (f : ∀ b, H b ≠ none → av' b → av b) : ∀ {ds : List D} {vs : List V}, Reps K H av ds vs → Reps K H av' ds vs
  | [], _, h => h
  | d :: ds, vs, h => by
    unfold Reps at h ⊢
    obtain ⟨v, r, rfl, h1, h2⟩ := h
    exact ⟨v, r, rfl, Rep.wk f h1, Reps.wk f h2⟩
end
theorem Reps.length : ∀ {ds : List D} {vs : List V}, Reps K H av ds vs → vs.length = ds.length
  | [], _, h => by unfold Reps at h; rw [h]; rfl
  | d :: ds, vs, h => by
    unfold Reps at h
    obtain ⟨v, r, rfl, _, h2⟩ := h
    rw [List.length_cons, List.length_cons, Reps.length h2]
theorem Reps.nil : Reps K H av [] [] := rfl
theorem Reps.cons {d : D} {v : V} {ds : List D} {vs : List V} (h : Rep K H av d v) (r : Reps K H av ds vs) : Reps K H av (d :: ds) (v :: vs) := by
  unfold Reps; exact ⟨v, vs, rfl, h, r⟩
theorem Reps.append : ∀ {ds es : List D} {vs ws : List V}, Reps K H av ds vs → Reps K H av es ws → Reps K H av (ds ++ es) (vs ++ ws)
  | [], _, _, _, h, r => by unfold Reps at h; subst h; exact r
  | d :: ds, es, vs, ws, h, r => by
    unfold Reps at h
    obtain ⟨v, r', rfl, h1, h2⟩ := h
    exact Reps.cons h1 (Reps.append h2 r)
theorem Reps.get : ∀ {ds : List D} {vs : List V} {i : Nat} {d : D}, Reps K H av ds vs → ds[i]? = some d → ∃ v, vs[i]? = some v ∧ Rep K H av d v
  | [], _, _, _, _, e => by simp at e
  | d :: ds, vs, i, d', h, e => by
    unfold Reps at h
    obtain ⟨v, r, rfl, h1, h2⟩ := h
    cases i with
    | zero => simp at e; subst e; exact ⟨v, rfl, h1⟩
    | succ i => exact Reps.get (i := i) h2 (by simpa using e)
theorem Reps.get' : ∀ {ds : List D} {vs : List V} {i : Nat} {v : V}, Reps K H av ds vs → vs[i]? = some v → ∃ d, ds[i]? = some d ∧ Rep K H av d v
  | [], vs, _, _, h, e => by unfold Reps at h; subst h; simp at e
  | d :: ds, vs, i, v', h, e => by
    unfold Reps at h
    obtain ⟨v, r, rfl, h1, h2⟩ := h
    cases i with
    | zero => simp at e; subst e; exact ⟨d, rfl, h1⟩
    | succ i => exact Reps.get' (i := i) h2 (by simpa using e)
theorem Reps.set {d : D} {v : V} (r : Rep K H av d v) : ∀ {ds : List D} {vs : List V} (i : Nat), Reps K H av ds vs → Reps K H av (ds.set i d) (vs.set i v)
  | [], vs, _, h => by unfold Reps at h; subst h; exact Reps.nil
  | d' :: ds, vs, i, h => by
    unfold Reps at h
    obtain ⟨v', r', rfl, h1, h2⟩ := h
    cases i with
    | zero => exact Reps.cons r h2
    | succ i => exact Reps.cons h1 (Reps.set r i h2)
theorem Reps.take : ∀ {ds : List D} {vs : List V} (n : Nat), Reps K H av ds vs → Reps K H av (ds.take n) (vs.take n)
  | [], vs, n, h => by unfold Reps at h; subst h; simp; exact Reps.nil
  | d :: ds, vs, n, h => by
    unfold Reps at h
    obtain ⟨v, r, rfl, h1, h2⟩ := h
    cases n with
    | zero => exact Reps.nil
    | succ n => exact Reps.cons h1 (Reps.take n h2)
theorem Reps.drop : ∀ {ds : List D} {vs : List V} (n : Nat), Reps K H av ds vs → Reps K H av (ds.drop n) (vs.drop n)
  | [], vs, n, h => by unfold Reps at h; subst h; simp; exact Reps.nil
  | d :: ds, vs, n, h => by
    cases n with
    | zero => exact h
    | succ n =>
      unfold Reps at h
      obtain ⟨v, r, rfl, h1, h2⟩ := h
      exact Reps.drop n h2
theorem Reps.reverse : ∀ {ds : List D} {vs : List V}, Reps K H av ds vs → Reps K H av ds.reverse vs.reverse
  | [], vs, h => by unfold Reps at h; subst h; exact Reps.nil
  | d :: ds, vs, h => by
    unfold Reps at h
    obtain ⟨v, r, rfl, h1, h2⟩ := h
    rw [List.reverse_cons, List.reverse_cons]
    exact Reps.append (Reps.reverse h2) (Reps.cons h1 Reps.nil)
theorem Reps.rep {ds : List D} {vs : List V} (h : Reps K H av ds vs) : ∀ k : Nat, Reps K H av (List.replicate k ds).flatten (List.replicate k vs).flatten
  | 0 => Reps.nil
  | k + 1 => by
    rw [List.replicate_succ, List.replicate_succ, List.flatten_cons, List.flatten_cons]
    exact Reps.append h (Reps.rep h k)
theorem Reps.ints {ns : List Int} : Reps K H av (ns.map D.int) (ns.map V.int) := by
  induction ns with
  | nil => exact Reps.nil
  | cons n ns ih => exact Reps.cons (by unfold Rep; rfl) ih
theorem Reps.of_ints : ∀ {ns : List Int} {vs : List V}, Reps K H av (ns.map D.int) vs → vs = ns.map V.int
  | [], vs, h => h
  | n :: ns, vs, h => by
    rw [List.map_cons] at h
    unfold Reps at h
    obtain ⟨v, r, rfl, h1, h2⟩ := h
    unfold Rep at h1
    rw [h1, Reps.of_ints h2]; rfl
end

mutual
/-- no list within: stable whatever is written -/
def lf : D → Bool
  | .lst _ => false
  | .tup ds => lfs ds
  | .fix ds => lfs ds
  | _ => true
def lfs : List D → Bool
  | [] => true
  | d :: ds => lf d && lfs ds
end
mutual
theorem Rep.lf_av {K : PySem.W.Frag} {H : Hp} {av av' : Addr → Prop} : ∀ {d : D} {v : V}, lf d = true → Rep K H av d v → Rep K H av' d v
  | .non, _, _, h => h
  | .bl _, _, _, h => h
  | .int _, _, _, h => h
  | .str _, _, _, h => h
  | .tup ds, v, l, h => by
    unfold Rep at h ⊢
    obtain ⟨a, xs, rfl, h1, h2⟩ := h
    unfold lf at l
    exact ⟨a, xs, rfl, h1, Reps.lf_av l h2⟩
  | .lst ds, v, l, h => by unfold lf at l; cases l
  | .fix ds, v, l, h => by
    unfold Rep at h ⊢
    obtain ⟨a, xs, rfl, h1, h2⟩ := h
    unfold lf at l
    exact ⟨a, xs, rfl, h1, Reps.lf_av l h2⟩
theorem Reps.lf_av {K : PySem.W.Frag} {H : Hp} {av av' : Addr → Prop} : ∀ {ds : List D} {vs : List V}, lfs ds = true → Reps K H av ds vs → Reps K H av' ds vs
  | [], _, _, h => h
  | d :: ds, vs, l, h => by
    unfold Reps at h ⊢
    obtain ⟨v, r, rfl, h1, h2⟩ := h
    unfold lfs at l
    obtain ⟨l1, l2⟩ := Bool.and_eq_true_iff.mp l
    exact ⟨v, r, rfl, Rep.lf_av l1 h1, Reps.lf_av l2 h2⟩
end
end VL

/-! VL2: slots, results, the readings lifted to data. -/
namespace VL
open PySem PySem.Spec L2

/-- a slot: not known, a value, a list that this def may write, the list handed in that it may write -/
inductive Sl where
  | un | val (d : D) | own (ds : List D) | par (ds : List D)
abbrev En := List Sl
/-- a result: a value, the list of a slot, a new list -/
inductive R where
  | val (d : D) | slot (i : Nat) | fresh (ds : List D)
abbrev As := Nat → Option Addr
def ownA (as : As) (b : Addr) : Prop := ∃ i, as i = some b
/-- what stands fast in a def's run: the written part, the heap at the entry, the list handed in, the list given, what callers may write -/
structure Fr where
  K : PySem.W.Frag
  H0 : Hp
  m : Option Addr
  g : Option Addr
  ex : Addr → Prop
  kp : List (D × V)
/-- to be avoided by values -/
def Fr.av (F : Fr) (as : As) (b : Addr) : Prop := F.ex b ∨ ownA as b ∨ F.m = some b
/-- may change here -/
def Fr.mu (F : Fr) (as : As) (b : Addr) : Prop := ownA as b ∨ F.m = some b
/-- may have changed since the entry -/
def Fr.ch (F : Fr) (b : Addr) : Prop := F.m = some b ∨ F.g = some b
def Fr.with (F : Fr) (b : Addr) : Fr := { F with ex := fun c => F.ex c ∨ c = b }

def SlAt (F : Fr) (H : Hp) (as : As) (i : Nat) (x : Option (Option V)) : Sl → Prop
  | .un => as i = none
  | .val d => as i = none ∧ ∃ v, x = some (some v) ∧ Rep F.K H (F.av as) d v
  | .own ds => ∃ b xs, as i = some b ∧ (F.H0 b = none ∨ F.g = some b) ∧ x = some (some (.ref b)) ∧ H b = some (.lst xs) ∧ Reps F.K H (F.av as) ds xs
  | .par ds => ∃ b xs, as i = some b ∧ F.m = some b ∧ x = some (some (.ref b)) ∧ H b = some (.lst xs) ∧ Reps F.K H (F.av as) ds xs
structure ER (F : Fr) (as : As) (σ : L2.St) (H : Hp) (ρ : En) : Prop where
  len : ρ.length = σ.length
  inj : ∀ i j b, as i = some b → as j = some b → i = j
  nex : ∀ i b, as i = some b → ¬ F.ex b
  sl : ∀ i, SlAt F H as i σ[i]? (ρ[i]?.getD .un)
  old : Ext F.ch F.H0 H
  own : ∀ i b, as i = some b → F.H0 b = none ∨ F.g = some b ∨ F.m = some b
  exo : ∀ b, F.ex b ∨ F.m = some b → H b ≠ none
  mok : ∀ b, F.m = some b → F.H0 b ≠ none ∧ F.g ≠ some b
  kept : ∀ p ∈ F.kp, Rep F.K H (F.av as) p.1 p.2
/-- the own lists become fewer -/
def Le (as' as : As) : Prop := ∀ i b, as' i = some b → as i = some b
theorem Le.refl (as : As) : Le as as := fun _ _ h => h
theorem Le.trans {a b c : As} (h : Le a b) (h' : Le b c) : Le a c := fun i x e => h' i x (h i x e)

section
variable {F : Fr} {as as' as1 as2 : As} {σ : L2.St} {H H' H1 H2 : Hp} {ρ ρ' : En}
theorem Le.av (h : Le as' as) {b : Addr} (z : F.av as' b) : F.av as b := by
  rcases z with z | ⟨i, e⟩ | z
  · exact .inl z
  · exact .inr (.inl ⟨i, h i b e⟩)
  · exact .inr (.inr z)
theorem Le.mu (h : Le as' as) {b : Addr} (z : F.mu as' b) : F.mu as b := by
  rcases z with ⟨i, e⟩ | z
  · exact .inl ⟨i, h i b e⟩
  · exact .inr z
theorem mu_av {b : Addr} (z : F.mu as b) : F.av as b := z.elim (fun z => .inr (.inl z)) fun z => .inr (.inr z)

/-- a result, just come: H ahead of the expression, H' behind -/
def RP (F : Fr) (as : As) (σ : L2.St) (H H' : Hp) (ρ' : En) : R → V → Prop
  | .val d, v => Rep F.K H' (F.av as) d v
  | .slot i, v => ∃ b, as i = some b ∧ v = .ref b
  | .fresh ds, v => ∃ b xs, v = .ref b ∧ H b = none ∧ ¬ F.av as b ∧ H' b = some (.lst xs) ∧ Reps F.K H' ((F.with b).av as) ds xs ∧ ER (F.with b) as σ H' ρ'
/-- a result that waits -/
def RW (F : Fr) (as : As) (H : Hp) : R → V → Prop
  | .val d, v => Rep F.K H (F.av as) d v
  | .slot i, v => ∃ b, as i = some b ∧ v = .ref b
  | .fresh ds, v => Rep F.K H (F.av as) (.lst ds) v
theorem with_av {b c : Addr} (z : F.av as c) : (F.with b).av as c := by
  rcases z with z | z | z
  · exact .inl (.inl z)
  · exact .inr (.inl z)
  · exact .inr (.inr z)
theorem of_with {b c : Addr} (z : (F.with b).av as c) : F.av as c ∨ c = b := by
  rcases z with (z | z) | z | z
  · exact .inl (.inl z)
  · exact .inr z
  · exact .inl (.inr (.inl z))
  · exact .inl (.inr (.inr z))
theorem ER.unwith {b : Addr} (h : ER (F.with b) as σ H ρ) : ER F as σ H ρ := by
  refine ⟨h.len, h.inj, fun i c e z => h.nex i c e (.inl z), fun i => ?_, h.old, h.own, fun c z => h.exo c (z.elim (fun z => .inl (.inl z)) .inr), h.mok, fun p hp => Rep.wk (fun _ _ z => with_av z) (h.kept p hp)⟩
  have q := h.sl i
  cases e : ρ[i]?.getD .un with
  | un => rw [e] at q; exact q
  | val d =>
    rw [e] at q
    obtain ⟨q1, v, q2, q3⟩ := q
    exact ⟨q1, v, q2, Rep.wk (fun _ _ z => with_av z) q3⟩
  | own ds =>
    rw [e] at q
    obtain ⟨c, xs, q1, q2, q3, q4, q5⟩ := q
    exact ⟨c, xs, q1, q2, q3, q4, Reps.wk (fun _ _ z => with_av z) q5⟩
  | par ds =>
    rw [e] at q
    obtain ⟨c, xs, q1, q2, q3, q4, q5⟩ := q
    exact ⟨c, xs, q1, q2, q3, q4, Reps.wk (fun _ _ z => with_av z) q5⟩
theorem ER.fresh (h : ER F as σ H ρ) {a : Addr} (n : H a = none) : F.H0 a = none := h.old.free n
/-- an own list is there -/
theorem ER.list (h : ER F as σ H ρ) {i : Nat} {ds : List D} (e : ρ[i]?.getD .un = .own ds ∨ ρ[i]?.getD .un = .par ds) :
    ∃ b xs, as i = some b ∧ σ[i]? = some (some (.ref b)) ∧ H b = some (.lst xs) ∧ Reps F.K H (F.av as) ds xs := by
  have q := h.sl i
  rcases e with e | e <;> rw [e] at q
  · obtain ⟨b, xs, q1, _, q3, q4, q5⟩ := q
    exact ⟨b, xs, q1, q3, q4, q5⟩
  · obtain ⟨b, xs, q1, _, q3, q4, q5⟩ := q
    exact ⟨b, xs, q1, q3, q4, q5⟩

theorem RP.wait {r : R} {v : V} (h : RP F as σ H H' ρ' r v) : RW F as H' r v := by
  cases r with
  | val d => exact h
  | slot i => exact h
  | fresh ds =>
    obtain ⟨b, xs, rfl, _, h1, h2, h3, h4⟩ := h
    show Rep F.K H' (F.av as) (.lst ds) (.ref b)
    unfold Rep
    exact ⟨b, xs, rfl, h2, h1, Reps.wk (fun _ _ z => with_av z) h3⟩
theorem RW.step {r : R} {v : V} (h : RW F as1 H1 r v) (l : Le as2 as1) (e : Ext (F.mu as1) H1 H2) : (∃ i b, r = .slot i ∧ as1 i = some b ∧ v = .ref b) ∨ RW F as2 H2 r v := by
  have e' : Ext (F.av as1) H1 H2 := e.mono fun _ => mu_av
  cases r with
  | val d => exact .inr (Rep.wk (fun _ _ z => l.av z) (Rep.ext e' h))
  | slot i =>
    obtain ⟨b, h1, h2⟩ := h
    exact .inl ⟨i, b, rfl, h1, h2⟩
  | fresh ds => exact .inr (Rep.wk (fun _ _ z => l.av z) (Rep.ext e' (show Rep F.K H1 (F.av as1) (.lst ds) v from h)))
/-- a result read -/
def rd (r : R) (ρ : En) : Option D :=
  match r with
  | .val d => some d
  | .fresh ds => some (.lst ds)
  | .slot i => match ρ[i]?.getD .un with
    | .own ds => some (.lst ds)
    | .par ds => some (.lst ds)
    | _ => none
/-- what was read: a value that avoids what may be written, or a list of ours -/
def Got (F : Fr) (as : As) (H : Hp) (d : D) (v : V) : Prop :=
  Rep F.K H (F.av as) d v ∨ ∃ ds b xs, d = .lst ds ∧ v = .ref b ∧ H b = some (.lst xs) ∧ Reps F.K H (F.av as) ds xs ∧ ownA as b
theorem got_of {r : R} {v : V} {d : D} (E : ER F as2 σ H2 ρ) (l : Le as2 as1) (w : RW F as1 H1 r v) (e : Ext (F.mu as1) H1 H2) (q : rd r ρ = some d) : Got F as2 H2 d v := by
  have e' : Ext (F.av as1) H1 H2 := e.mono fun _ => mu_av
  cases r with
  | val d' =>
    cases q
    exact .inl (Rep.wk (fun _ _ z => l.av z) (Rep.ext e' w))
  | fresh ds =>
    cases q
    exact .inl (Rep.wk (fun _ _ z => l.av z) (Rep.ext e' (show Rep F.K H1 (F.av as1) (.lst ds) v from w)))
  | slot i =>
    obtain ⟨b, h1, rfl⟩ := w
    have go : ∀ ds, (ρ[i]?.getD .un = .own ds ∨ ρ[i]?.getD .un = .par ds) → Got F as2 H2 (.lst ds) (.ref b) := fun ds z => by
      obtain ⟨c, xs, a1, a2, a3, a4⟩ := E.list z
      have := l i c a1
      rw [h1] at this; cases this
      exact .inr ⟨ds, b, xs, rfl, rfl, a3, a4, i, a1⟩
    unfold rd at q
    cases z : ρ[i]?.getD .un with
    | un => simp only [z] at q; cases q
    | val _ => simp only [z] at q; cases q
    | own ds => simp only [z] at q; cases q; exact go ds (.inl z)
    | par ds => simp only [z] at q; cases q; exact go ds (.inr z)
theorem Got.rep {d : D} {v : V} (g : Got F as H d v) : Rep F.K H (fun _ => False) d v := by
  rcases g with g | ⟨ds, b, xs, rfl, rfl, h1, h2, _⟩
  · exact Rep.wk (fun _ _ z => z.elim) g
  · unfold Rep
    exact ⟨b, xs, rfl, h1, fun z => z, Reps.wk (fun _ _ z => z.elim) h2⟩
theorem Got.lst {ds : List D} {v : V} (g : Got F as H (.lst ds) v) : ∃ b xs, v = .ref b ∧ H b = some (.lst xs) ∧ Reps F.K H (F.av as) ds xs := by
  rcases g with g | ⟨ds', b, xs, h, rfl, h1, h2, _⟩
  · unfold Rep at g
    obtain ⟨b, xs, rfl, h1, _, h2⟩ := g
    exact ⟨b, xs, rfl, h1, h2⟩
  · cases h
    exact ⟨b, xs, rfl, h1, h2⟩
theorem Got.fix {ds : List D} {v : V} (g : Got F as H (.fix ds) v) : ∃ b xs, v = .ref b ∧ SqL F.K H b xs ∧ Reps F.K H (F.av as) ds xs := by
  rcases g with g | ⟨ds', b, xs, h, _⟩
  · unfold Rep at g
    obtain ⟨b, xs, rfl, h1, h2⟩ := g
    exact ⟨b, xs, rfl, h1.seq, h2⟩
  · cases h
theorem Got.tup {ds : List D} {v : V} (g : Got F as H (.tup ds) v) : ∃ b xs, v = .ref b ∧ SqT F.K H b xs ∧ Reps F.K H (F.av as) ds xs := by
  rcases g with g | ⟨ds', b, xs, h, _⟩
  · unfold Rep at g
    exact g
  · cases h
theorem Got.int {i : Int} {v : V} (g : Got F as H (.int i) v) : v = .int i := by
  rcases g with g | ⟨ds', b, xs, h, _⟩
  · unfold Rep at g; exact g
  · cases h
theorem Got.bl {i : Bool} {v : V} (g : Got F as H (.bl i) v) : v = .bl i := by
  rcases g with g | ⟨ds', b, xs, h, _⟩
  · unfold Rep at g; exact g
  · cases h
theorem Got.non {v : V} (g : Got F as H .non v) : v = .non := by
  rcases g with g | ⟨ds', b, xs, h, _⟩
  · unfold Rep at g; exact g
  · cases h
theorem Got.str {i : Str} {v : V} (g : Got F as H (.str i) v) : v = .str i := by
  rcases g with g | ⟨ds', b, xs, h, _⟩
  · unfold Rep at g; exact g
  · cases h

/-! ### the readings lifted -/
abbrev WE := En → (R → En → Prop) → Prop
abbrev WA := En → (List R → En → Prop) → Prop
abbrev WT := En → (Bool → En → Prop) → Prop
structure VEnds where
  nx : En → Prop
  rt : R → En → Prop
  bk : En → Prop := fun _ => False
  ct : En → Prop := fun _ => False
abbrev WS := En → VEnds → Prop

/-- all that is behind an expression: new own lists, new heap -/
structure Aft (F : Fr) (as as' : As) (σ : L2.St) (H H' : Hp) (ρ' : En) : Prop where
  le : Le as' as
  er : ER F as' σ H' ρ'
  ext : Ext (F.mu as) H H'
theorem Aft.refl (E : ER F as σ H ρ) : Aft F as as σ H H ρ := ⟨Le.refl as, E, Ext.refl _ _⟩
theorem Aft.trans {ρ1 ρ2 : En} (a : Aft F as as1 σ H H1 ρ1) (b : Aft F as1 as2 σ H1 H2 ρ2) : Aft F as as2 σ H H2 ρ2 :=
  ⟨b.le.trans a.le, b.er, a.ext.trans (b.ext.mono fun _ z => a.le.mu z)⟩
def lE (F : Fr) (w : WE) : TE := fun σ H Q => ∃ as ρ Q', ER F as σ H ρ ∧ w ρ Q' ∧ ∀ as' r ρ' v H', Aft F as as' σ H H' ρ' → RP F as' σ H H' ρ' r v → Q' r ρ' → Q v H'
def lT (F : Fr) (w : WT) : TT := fun σ H Q => ∃ as ρ Q', ER F as σ H ρ ∧ w ρ Q' ∧ ∀ as' b ρ' H', Aft F as as' σ H H' ρ' → Q' b ρ' → Q b H'
/-- waiting results, all of them as they stand at the end -/
def RWs (F : Fr) (as : As) (H : Hp) : List R → List V → Prop
  | [], vs => vs = []
  | r :: rs, vs => ∃ v vr, vs = v :: vr ∧ (∃ as0 H0, Le as as0 ∧ Ext (F.mu as0) H0 H ∧ RW F as0 H0 r v) ∧ RWs F as H rs vr
def lA (F : Fr) (w : WA) : TA := fun σ H Q => ∃ as ρ Q', ER F as σ H ρ ∧ w ρ Q' ∧ ∀ as' rs ρ' vs H', Aft F as as' σ H H' ρ' → RWs F as' H' rs vs → Q' rs ρ' → Q vs H'
/-- a result handed back -/
def RB (F : Fr) (as : As) (H : Hp) (ρ : En) : R → V → Prop
  | .val d, v => Rep F.K H (F.av as) d v
  | .slot _, _ => False
  | .fresh ds, v => ∃ b xs, v = .ref b ∧ (F.H0 b = none ∨ F.g = some b) ∧ H b = some (.lst xs) ∧ Reps F.K H (fun c => F.av as c ∨ c = b) ds xs ∧
    ∀ (i : Nat) (ds' : List D), ρ[i]?.getD .un = .par ds' → ∃ a ys, as i = some a ∧ H a = some (.lst ys) ∧ Reps F.K H (fun c => F.av as c ∨ c = b) ds' ys
def lS (F : Fr) (w : WS) : TS := fun D σ H => ∃ as ρ E, ER F as σ H ρ ∧ w ρ E ∧
  (∀ as' ρ' σ' H', ER F as' σ' H' ρ' → E.nx ρ' → D.nx σ' H') ∧ (∀ as' ρ' σ' H', ER F as' σ' H' ρ' → E.bk ρ' → D.bk σ' H') ∧ (∀ as' ρ' σ' H', ER F as' σ' H' ρ' → E.ct ρ' → D.ct σ' H') ∧
  ∀ as' ρ' σ' H' r v, ER F as' σ' H' ρ' → RB F as' H' ρ' r v → E.rt r ρ' → D.rt v H'
end
section
variable {X : Cx} {e : Expr} {t t' : TE}
theorem pe_mono (h : PE X e t) (m : ∀ σ H Q, t' σ H Q → t σ H Q) : PE X e t' := ⟨fun pins s σ H Q I q => h.run pins s σ H Q I (m σ H Q q)⟩
theorem pt_mono {t t' : TT} (h : PT X e t) (m : ∀ σ H Q, t' σ H Q → t σ H Q) : PT X e t' := ⟨fun pins s σ H Q I q => h.run pins s σ H Q I (m σ H Q q)⟩
theorem pa_mono {es : List Expr} {t t' : TA} (h : PA X es t) (m : ∀ σ H Q, t' σ H Q → t σ H Q) : PA X es t' := ⟨fun pos pins s σ H Q I q => h.run pos pins s σ H Q I (m σ H Q q)⟩
theorem ps_mono {st : Stmt} {t t' : TS} (h : PS X st t) (m : ∀ D σ H, t' D σ H → t D σ H) : PS X st t' := ⟨fun pins s σ H D I q => h.run pins s σ H D I (m D σ H q)⟩
theorem pss_mono {st : List Stmt} {t t' : TS} (h : PSs X st t) (m : ∀ D σ H, t' D σ H → t D σ H) : PSs X st t' := ⟨fun pins s σ H D I q => h.run pins s σ H D I (m D σ H q)⟩
end
/-- an expression, a test, arguments, statements keep their data reading -/
abbrev VE (X : Cx) (F : Fr) (e : Expr) (w : WE) : Prop := PE X e (lE F w)
abbrev VT (X : Cx) (F : Fr) (e : Expr) (w : WT) : Prop := PT X e (lT F w)
abbrev VA (X : Cx) (F : Fr) (es : List Expr) (w : WA) : Prop := PA X es (lA F w)
abbrev VS (X : Cx) (F : Fr) (s : Stmt) (w : WS) : Prop := PS X s (lS F w)
abbrev VSs (X : Cx) (F : Fr) (s : List Stmt) (w : WS) : Prop := PSs X s (lS F w)
end VL

/-! VL3: a small language and its weakest preconditions over data. -/
namespace VL
open PySem PySem.Spec L2

inductive Op where
  | add | sub | mul | fdiv | mod | pow | shl | shr
  deriving DecidableEq
inductive Cm where
  | eq | ne | lt | le | gt | ge | isN | notN | isin | notin
  deriving DecidableEq
inductive Bf where
  | len | abs | max2 | min2 | int | list | tuple | any | all | str | sum | bool | sorted | sortedP
  deriving DecidableEq
inductive Ty where
  | int | bool | tuple | list | str
  deriving DecidableEq
inductive Mt where
  | append | extend | pop | insert | reverse | popAt
  deriving DecidableEq
inductive Tg where
  | nm (i : Nat) | tp (is : List Nat) | tq (i : Nat) (is : List Nat)
mutual
inductive E where
  | var (i : Nat) | glo (d : D) | non | bl (b : Bool) | int (i : Int) | str (s : Str)
  | tup (es : Es) | lst (es : Es)
  | bin (o : Op) (a b : E) | neg (a : E)
  | cmp (c : Cm) (a b : E) | chain (c d : Cm) (a b e : E)
  | and (a b : E) | or (a b : E) | not (a : E) | ite (c : T) (a b : E)
  | call (f : Nat) (es : Es) | blt (f : Bf) (es : Es) | isi (a : E) (t : Ty) | bits (a : E)
  | mth (m : Mt) (i : Nat) (es : Es)
  | ix (a i : E) | sl (a : E) (lo hi : Po) | join (z : Str) (b : E) | slk (a : E) (lo st : Po)
  | lc (elt : E) (tg : Tg) (it : It) (own : List Nat) (cs : Tc)
inductive Es where
  | nil | cons (e : E) (es : Es)
inductive T where
  | cmp (c : Cm) (a b : E) | chain (c d : Cm) (a b e : E) | and (a b : T) | or (a b : T) | not (a : T) | tru (a : E)
inductive Tc where
  | no | yes (t : T)
inductive Po where
  | no | yes (e : E)
inductive It where
  | seq (e : E) | rng1 (a : E) | rng2 (a b : E) | rng2L (a b : E) | rng3 (a b c : E) | rev (e : E) | enum (e : E) | zip (a b : E) | own (j : Nat)
end
mutual
inductive S where
  | asg (i : Nat) (e : E) | asgT (is : List Nat) (e : E) | par (is : List Nat) (es : Es)
  | asgX (i : Nat) (x y e : E)
  | sub (i : Nat) (ix e : E) | aug (i : Nat) (o : Op) (e : E) | augS (i : Nat) (ix : E) (o : Op) (e : E)
  | ex (e : E) | ret (e : E) | ret0 | ite (c : T) (a b : Ss) | whl (c : T) (b : Ss) | for (tg : Tg) (it : It) (b : Ss)
  | pass | brk | cnt
inductive Ss where
  | nil | cons (s : S) (ss : Ss)
end

/-! ### data -/
mutual
def toP : D → PyData
  | .non => .none
  | .bl b => .bool b
  | .int i => .int i
  | .str s => .str s
  | .tup ds => .tuple (toPs ds)
  | .lst ds => .list (toPs ds)
  | .fix ds => .list (toPs ds)
def toPs : List D → List PyData
  | [] => []
  | d :: ds => toP d :: toPs ds
end
def deq (x y : D) : Bool := PyData.eqv (toP x) (toP y)
def dsh (x : D) : Bool := SeqAt.shaped (toP x)
/-- small lengths -/
def Sm (n : Nat) : Prop := n ≤ 16777216
def MulOk (i j : Int) : Prop := IntMulOk i j
/-- the branch of a test -/
def br (c : Bool) (A B : Prop) : Prop := (c = true → A) ∧ (c = false → B)

def op2 (o : Op) (x y : D) (k : R → Prop) : Prop :=
  match o, x, y with
  | .add, .int i, .int j => k (.val (.int (i + j)))
  | .sub, .int i, .int j => k (.val (.int (i - j)))
  | .mul, .int i, .int j => MulOk i j ∧ k (.val (.int (i * j)))
  | .fdiv, .int i, .int j => j ≠ 0 ∧ k (.val (.int (i.fdiv j)))
  | .mod, .int i, .int j => j ≠ 0 ∧ k (.val (.int (i.fmod j)))
  | .pow, .int i, .int j => CPow i j ∧ k (.val (.int (i ^ j.toNat)))
  | .shl, .int i, .int j => CShl i j ∧ k (.val (.int (i * 2 ^ j.toNat)))
  | .shr, .int i, .int j => 0 ≤ j ∧ k (.val (.int (i / 2 ^ j.toNat)))
  | .add, .str a, .str b => Sm (a.length + b.length) ∧ k (.val (.str (a ++ b)))
  | .add, .lst a, .lst b => Sm (a.length + b.length) ∧ k (.fresh (a ++ b))
  | .mul, .lst a, .int n => Sm (a.length * n.toNat) ∧ -(2 ^ 63) ≤ n ∧ n < 2 ^ 63 ∧ k (.fresh (List.replicate n.toNat a).flatten)
  | .add, .tup a, .tup b => Sm (a.length + b.length) ∧ k (.val (.tup (a ++ b)))
  | .mul, .tup a, .int n => a ≠ [] ∧ 1 ≤ n ∧ n ≤ 1000 ∧ a.length ≤ 1000 ∧ k (.val (.tup (List.replicate n.toNat a).flatten))
  | .mul, .str a, .int n => -(2 ^ 63) ≤ n ∧ n ≤ 1 ∧ k (.val (.str (if n < 1 then Str.empty else a)))
  | _, _, _ => False
def deqC (x y : D) (k : Bool → Prop) : Prop :=
  match x, y with
  | .int i, .int j => k (decide (i = j))
  | .bl i, .bl j => k (i == j)
  | .str i, .str j => k (decide (i = j))
  | .non, .non => k true
  | .non, .int _ => k false
  | .int _, .non => k false
  | .non, .str _ => k false
  | .str _, .non => k false
  | _, _ => dsh x = true ∧ dsh y = true ∧ k (deq x y)
/-- flat data, for in -/
def flatD : D → Bool
  | .int _ => true | .bl _ => true | .str _ => true | .non => true | _ => false
def inC (x : D) (ys : List D) (k : Bool → Prop) : Prop := dsh x = true ∧ dsh (.lst ys) = true ∧ k (ys.any fun y => deq y x)
def isNon : D → Bool
  | .non => true
  | _ => false
def cmp2 (c : Cm) (x y : D) (k : Bool → Prop) : Prop :=
  match c, x, y with
  | .lt, .int i, .int j => k (decide (i < j))
  | .le, .int i, .int j => k (decide (i ≤ j))
  | .gt, .int i, .int j => k (decide (j < i))
  | .ge, .int i, .int j => k (decide (j ≤ i))
  | .eq, x, y => deqC x y k
  | .ne, x, y => deqC x y fun b => k (!b)
  | .isN, x, .non => k (isNon x)
  | .notN, x, .non => k (!isNon x)
  | .isin, x, .lst ys => inC x ys k
  | .isin, x, .fix ys => inC x ys k
  | .notin, x, .lst ys => inC x ys fun b => k (!b)
  | .notin, x, .fix ys => inC x ys fun b => k (!b)
  | _, _, _ => False
/-- truth -/
def tru (d : D) (k : Bool → Prop) : Prop :=
  match d with
  | .bl b => k b
  | .int i => k (i != 0)
  | .non => k false
  | .tup ds => k (!ds.isEmpty)
  | .lst ds => k (!ds.isEmpty)
  | .fix ds => k (!ds.isEmpty)
  | .str s => Sm s.length ∧ k ((s.length : Int) != 0)
def isTy (d : D) (t : Ty) : Bool :=
  match t, d with
  | .int, .int _ => true | .int, .bl _ => true | .bool, .bl _ => true | .tuple, .tup _ => true | .list, .lst _ => true | .list, .fix _ => true | .str, .str _ => true
  | _, _ => false
def blt (f : Bf) (ds : List D) (k : R → Prop) : Prop :=
  match f, ds with
  | .len, [.tup xs] => k (.val (.int xs.length))
  | .len, [.lst xs] => k (.val (.int xs.length))
  | .len, [.fix xs] => k (.val (.int xs.length))
  | .len, [.str s] => Sm s.length ∧ k (.val (.int s.length))
  | .abs, [.int i] => k (.val (.int (i.natAbs : Int)))
  | .max2, [.int i, .int j] => k (.val (.int (max i j)))
  | .min2, [.int i, .int j] => k (.val (.int (min i j)))
  | .int, [.int i] => k (.val (.int i))
  | .int, [.bl b] => k (.val (.int (if b then 1 else 0)))
  | .list, [.tup xs] => k (.fresh xs)
  | .list, [.lst xs] => k (.fresh xs)
  | .list, [.fix xs] => k (.fresh xs)
  | .tuple, [.tup xs] => k (.val (.tup xs))
  | .tuple, [.lst xs] => k (.val (.tup xs))
  | .tuple, [.fix xs] => k (.val (.tup xs))
  | .any, [.lst xs] => ∃ bs : List Bool, xs = bs.map D.bl ∧ k (.val (.bl (bs.any id)))
  | .all, [.lst xs] => ∃ bs : List Bool, xs = bs.map D.bl ∧ k (.val (.bl (bs.all id)))
  | .sum, [.lst xs] => ∃ bs : List Int, xs = bs.map D.int ∧ k (.val (.int bs.sum))
  | .str, [.int i] => i.natAbs.log2 < 1920 ∧ k (.val (.str (toString i)))
  | .bool, [.int i] => k (.val (.bl (i != 0)))
  | .bool, [.bl i] => k (.val (.bl i))
  | .sorted, [.lst xs] => ∃ bs : List Int, xs = bs.map D.int ∧ ∀ ys : List Int, ys.Perm bs → ys.Pairwise (· ≤ ·) → k (.fresh (ys.map D.int))
  | .sortedP, [.lst xs] => ∃ ps : List (Int × D), xs = ps.map (fun p => .tup [.int p.1, p.2]) ∧ (ps.Pairwise fun p p' => p.1 ≠ p'.1) ∧ ∀ qs : List (Int × D), qs.Perm ps → (qs.Pairwise fun p p' => p.1 ≤ p'.1) → k (.fresh (qs.map fun p => .tup [.int p.1, p.2]))
  | _, _ => False

/-! ### results and slots -/
def gt (ρ : En) (i : Nat) : Sl := ρ[i]?.getD .un
def wRd (r : R) (ρ : En) (k : D → Prop) : Prop :=
  match r with
  | .val d => k d
  | .fresh ds => k (.lst ds)
  | .slot i => match gt ρ i with
    | .own ds => k (.lst ds)
    | .par ds => k (.lst ds)
    | _ => False
def rds : List R → En → (List D → Prop) → Prop
  | [], _, k => k []
  | r :: rs, ρ, k => wRd r ρ fun d => rds rs ρ fun ds => k (d :: ds)
/-- a result as a value: a list of a slot is written no more -/
def frz1 (r : R) (ρ : En) (k : D → En → Prop) : Prop :=
  match r with
  | .val d => k d ρ
  | .fresh ds => k (.lst ds) ρ
  | .slot i => match gt ρ i with
    | .own ds => k (.lst ds) (ρ.set i (.val (.lst ds)))
    | _ => False
def frz : List R → En → (List D → En → Prop) → Prop
  | [], ρ, k => k [] ρ
  | r :: rs, ρ, k => frz1 r ρ fun d ρ1 => frz rs ρ1 fun ds ρ2 => k (d :: ds) ρ2
def isOwn : Sl → Bool
  | .own _ => true
  | .par _ => true
  | _ => false
/-- a value comes to a slot -/
def toSlot (i : Nat) (r : R) (ρ1 : En) (k : En → Prop) : Prop := match r with
  | .val d => k (ρ1.set i (.val d))
  | .fresh ds => k (ρ1.set i (.own ds))
  | .slot j => frz1 (.slot j) ρ1 fun d ρ2 => k (ρ2.set i (.val d))
def isSlot : R → Bool
  | .slot _ => true
  | _ => false
def noSlots : List R → Bool
  | [] => true
  | r :: rs => !isSlot r && noSlots rs
def lfR : R → Bool
  | .val d => lf d
  | .fresh ds => lfs ds
  | .slot _ => false
inductive Kd where
  | read | wrt | give | take | wrtB
/-- what a def promises, by data: the arguments; the wish of the result and of what the list handed in holds then -/
structure VF where
  kind : Kd
  sp : List D → (R → Option (List D) → Prop) → Prop
def callR (f : VF) (rs : List R) (ρ : En) (Q : R → En → Prop) : Prop :=
  match f.kind with
  | .read => rds rs ρ fun ds => f.sp ds fun r _ => (noSlots rs = true ∨ lfR r = true) ∧ Q r ρ
  | .take => frz rs ρ fun ds ρ2 => f.sp ds fun r _ => Q r ρ2
  | .wrt => match rs with
    | .slot i :: rest => noSlots rest = true ∧ (match gt ρ i with
      | .own ds0 => rds rest ρ fun ds => f.sp (.lst ds0 :: ds) fun r o => ∃ ds', o = some ds' ∧ Q r (ρ.set i (.own ds'))
      | .par ds0 => rds rest ρ fun ds => f.sp (.lst ds0 :: ds) fun r o => ∃ ds', o = some ds' ∧ Q r (ρ.set i (.par ds'))
      | _ => False)
    | .fresh ds0 :: rest => noSlots rest = true ∧ rds rest ρ fun ds => f.sp (.lst ds0 :: ds) fun r o => Q r ρ
    | _ => False
  | .wrtB => match rs with
    | [r0, .slot i] => noSlots [r0] = true ∧ (match gt ρ i with
      | .own ds0 => rds [r0] ρ fun ds => f.sp (.lst ds0 :: ds) fun r o => ∃ ds', o = some ds' ∧ Q r (ρ.set i (.own ds'))
      | .par ds0 => rds [r0] ρ fun ds => f.sp (.lst ds0 :: ds) fun r o => ∃ ds', o = some ds' ∧ Q r (ρ.set i (.par ds'))
      | _ => False)
    | _ => False
  | .give => match rs with
    | .slot i :: rest => noSlots rest = true ∧ (match gt ρ i with
      | .own ds0 => rds rest ρ fun ds => f.sp (.lst ds0 :: ds) fun r o => Q r (ρ.set i .un)
      | _ => False)
    | _ => False

def setAll : List Nat → List D → En → En
  | i :: is, d :: ds, ρ => setAll is ds (ρ.set i (.val d))
  | _, _, ρ => ρ
def bind (t : Tg) (d : D) (ρ : En) (k : En → Prop) : Prop :=
  match t with
  | .nm i => k (ρ.set i (.val d))
  | .tp is => match d with
    | .tup ds => ds.length = is.length ∧ k (setAll is ds ρ)
    | _ => False
  | .tq i is => match d with
    | .tup [d0, .tup ds] => ds.length = is.length ∧ k (setAll is ds (ρ.set i (.val d0)))
    | _ => False
/-- a method of a list of ours -/
def mth (m : Mt) (ds as : List D) (k : D → List D → Prop) : Prop :=
  match m, as with
  | .append, [d] => ds.length < 16777216 ∧ k .non (ds ++ [d])
  | .extend, [.lst es] => Sm (ds.length + es.length) ∧ k .non (ds ++ es)
  | .pop, [] => ∃ d, ds.getLast? = some d ∧ k d ds.dropLast
  | .reverse, [] => k .non ds.reverse
  | .insert, [.int i, d] => (0 ≤ i ∧ i < 2 ^ 63) ∧ ds.length < 16777216 ∧ k .non (ds.take i.toNat ++ d :: ds.drop i.toNat)
  | .popAt, [.int i] => (-(2 ^ 63) ≤ i ∧ i < 2 ^ 63) ∧ ∃ j d, ixN ds.length i = some j ∧ ds[j]? = some d ∧ k d (ds.eraseIdx j)
  | _, _ => False
def mthS (m : Mt) (i : Nat) (as : List D) (ρ : En) (Q : R → En → Prop) : Prop :=
  match gt ρ i with
  | .own ds => mth m ds as fun d ds' => Q (.val d) (ρ.set i (.own ds'))
  | .par ds => mth m ds as fun d ds' => Q (.val d) (ρ.set i (.par ds'))
  | _ => False
def ixD (x y : D) (k : D → Prop) : Prop :=
  match x, y with
  | .tup xs, .int i => ∃ d, atI xs i = some d ∧ k d
  | .lst xs, .int i => ∃ d, atI xs i = some d ∧ k d
  | .fix xs, .int i => ∃ d, atI xs i = some d ∧ k d
  | _, _ => False
/-- slot i's list, an item put at a place -/
def putAt (i : Nat) (y d : D) (ρ : En) (k : En → Prop) : Prop := match y with
  | .int n => match gt ρ i with
    | .own ds => ∃ j, ixN ds.length n = some j ∧ k (ρ.set i (.own (ds.set j d)))
    | .par ds => ∃ j, ixN ds.length n = some j ∧ k (ρ.set i (.par (ds.set j d)))
    | _ => False
  | _ => False
def itAt (i : Nat) (y : D) (ρ : En) (k : D → Prop) : Prop := match y with
  | .int n => match gt ρ i with
    | .own ds => ∃ d, atI ds n = some d ∧ k d
    | .par ds => ∃ d, atI ds n = some d ∧ k d
    | _ => False
  | _ => False
/-- op= of numbers and texts -/
def augD (o : Op) (x y : D) (k : D → Prop) : Prop := match o, x, y with
  | .add, .int i, .int j => k (.int (i + j))
  | .sub, .int i, .int j => k (.int (i - j))
  | .add, .str a, .str b => Sm (a.length + b.length) ∧ k (.str (a ++ b))
  | _, _, _ => False
def cutD (xs : List D) (lo hi : Option Int) : List D := (xs.drop (HT.sIx xs.length 0 lo)).take (HT.sIx xs.length xs.length hi - HT.sIx xs.length 0 lo)
def slD (x : D) (l h : Option Int) (k : R → Prop) : Prop := match x with
  | .lst xs => k (.fresh (cutD xs l h))
  | .fix xs => k (.fresh (cutD xs l h))
  | .tup xs => k (.val (.tup (cutD xs l h)))
  | .str z => Sm z.length ∧ k (.val (.str (cutS z l h)))
  | _ => False
/-- every n-th from the k-th on -/
def nthL {α : Type} (n : Nat) : Nat → List α → List α
  | _, [] => []
  | 0, x :: xs => x :: nthL n (n - 1) xs
  | k + 1, _ :: xs => nthL n k xs
def slkD (x : D) (l h : Option Int) (k : D → Prop) : Prop := match x, l, h with
  | .tup xs, some i, some n => 0 ≤ i ∧ 1 < n ∧ k (.tup (nthL n.toNat i.toNat xs))
  | _, _, _ => False
/-- x.join(y) -/
def joinD (z : Str) (y : D) (k : D → Prop) : Prop := match y with
  | .lst xs => ∃ ys : List Str, xs = ys.map D.str ∧ (ys.map (·.length)).sum + ys.length * z.length ≤ 16777216 ∧ k (.str (Txt.join z ys))
  | _ => False
def rngs (lo : Int) (n : Nat) (c : Int) : List D := (List.range n).map fun (k : Nat) => D.int (lo + (k : Int) * c)
/-- the slots of a comprehension's own names forgotten; as they were ahead of it -/
def wipeV : List Nat → En → En
  | [], ρ => ρ
  | i :: is, ρ => (wipeV is ρ).set i .un
def keepVal : Sl → Sl
  | .val d => .val d
  | _ => .un
def unwipe : List Nat → En → En → En
  | [], _, ρ => ρ
  | i :: is, ρ1, ρ => (unwipe is ρ1 ρ).set i (keepVal (gt ρ1 i))
def esLen : Es → Nat
  | .nil => 0
  | .cons _ es => esLen es + 1
section
variable (Γ : Nat → VF)
mutual
def wE : E → WE
  | .var i, ρ, Q => match gt ρ i with
    | .val d => Q (.val d) ρ
    | .own _ => Q (.slot i) ρ
    | .par _ => Q (.slot i) ρ
    | .un => False
  | .glo d, ρ, Q => Q (.val d) ρ
  | .non, ρ, Q => Q (.val .non) ρ
  | .bl b, ρ, Q => Q (.val (.bl b)) ρ
  | .int i, ρ, Q => Q (.val (.int i)) ρ
  | .str s, ρ, Q => Q (.val (.str s)) ρ
  | .tup es, ρ, Q => wA es ρ fun rs ρ1 => rs.length = esLen es ∧ frz rs ρ1 fun ds ρ2 => Q (.val (.tup ds)) ρ2
  | .lst es, ρ, Q => wA es ρ fun rs ρ1 => rs.length = esLen es ∧ frz rs ρ1 fun ds ρ2 => Q (.fresh ds) ρ2
  | .bin o a b, ρ, Q => wE a ρ fun r1 ρ1 => wE b ρ1 fun r2 ρ2 => wRd r1 ρ2 fun x => wRd r2 ρ2 fun y => op2 o x y fun r => Q r ρ2
  | .neg a, ρ, Q => wE a ρ fun r1 ρ1 => wRd r1 ρ1 fun x => match x with | .int i => Q (.val (.int (-i))) ρ1 | _ => False
  | .cmp c a b, ρ, Q => wE a ρ fun r1 ρ1 => wE b ρ1 fun r2 ρ2 => wRd r1 ρ2 fun x => wRd r2 ρ2 fun y => cmp2 c x y fun z => Q (.val (.bl z)) ρ2
  | .chain c d a b e, ρ, Q => wE a ρ fun r1 ρ1 => wE b ρ1 fun r2 ρ2 => wRd r1 ρ2 fun x => wRd r2 ρ2 fun y => cmp2 c x y fun z =>
      br z (wE e ρ2 fun r3 ρ3 => wRd r2 ρ3 fun y => wRd r3 ρ3 fun v => cmp2 d y v fun z => Q (.val (.bl z)) ρ3) (Q (.val (.bl false)) ρ2)
  | .and a b, ρ, Q => wE a ρ fun r1 ρ1 => wRd r1 ρ1 fun x => match x with | .bl c => br c (wE b ρ1 Q) (Q (.val (.bl false)) ρ1) | _ => False
  | .or a b, ρ, Q => wE a ρ fun r1 ρ1 => wRd r1 ρ1 fun x => match x with | .bl c => br c (Q (.val (.bl true)) ρ1) (wE b ρ1 Q) | _ => False
  | .not a, ρ, Q => wE a ρ fun r1 ρ1 => wRd r1 ρ1 fun x => match x with | .bl c => Q (.val (.bl (!c))) ρ1 | _ => False
  | .ite c a b, ρ, Q => wT c ρ fun z ρ1 => br z (wE a ρ1 Q) (wE b ρ1 Q)
  | .call f es, ρ, Q => wA es ρ fun rs ρ1 => rs.length = esLen es ∧ callR (Γ f) rs ρ1 Q
  | .blt f es, ρ, Q => wA es ρ fun rs ρ1 => rds rs ρ1 fun ds => blt f ds fun r => Q r ρ1
  | .isi a t, ρ, Q => wE a ρ fun r1 ρ1 => wRd r1 ρ1 fun x => Q (.val (.bl (isTy x t))) ρ1
  | .bits a, ρ, Q => wE a ρ fun r1 ρ1 => wRd r1 ρ1 fun x => match x with | .int i => Q (.val (.int (Builtin.Int.intBits i : Nat))) ρ1 | _ => False
  | .mth m i es, ρ, Q => isOwn (gt ρ i) = true ∧ wA es ρ fun rs ρ1 => frz rs ρ1 fun ds ρ2 => mthS m i ds ρ2 Q
  | .ix a i, ρ, Q => wE a ρ fun r1 ρ1 => wE i ρ1 fun r2 ρ2 => wRd r1 ρ2 fun x => wRd r2 ρ2 fun y => ixD x y fun d => Q (.val d) ρ2
  | .sl a lo hi, ρ, Q => wE a ρ fun r1 ρ1 => wP lo ρ1 fun l ρ2 => wP hi ρ2 fun h ρ3 => wRd r1 ρ3 fun x => slD x l h fun r => Q r ρ3
  | .join z b, ρ, Q => wE b ρ fun r1 ρ1 => wRd r1 ρ1 fun y => joinD z y fun d => Q (.val d) ρ1
  | .slk a lo st, ρ, Q => wE a ρ fun r1 ρ1 => wP lo ρ1 fun l ρ2 => wP st ρ2 fun h ρ3 => wRd r1 ρ3 fun x => slkD x l h fun d => Q (.val d) ρ3
  | .lc elt tg (.own j) own cs, ρ, Q => match gt ρ j with
    | .own its => Sm its.length ∧ ∃ I : Nat → List D → En → Prop, I 0 [] (wipeV own ρ) ∧ (∀ k acc ρ, I k acc ρ → gt ρ j = .own its) ∧
      (∀ k d acc ρ, its[k]? = some d → I k acc ρ → bind tg d ρ fun ρ2 => wTc cs ρ2 fun c ρ3 => br c (wE elt ρ3 fun r ρ4 => frz1 r ρ4 fun y ρ5 => I (k + 1) (acc ++ [y]) (wipeV own ρ5)) (I (k + 1) acc (wipeV own ρ3))) ∧
      ∀ acc ρ', I its.length acc ρ' → Q (.fresh acc) (unwipe own ρ ρ')
    | _ => False
  | .lc elt tg it own cs, ρ, Q => wI it ρ fun its ρ1 => Sm its.length ∧ ∃ I : Nat → List D → En → Prop, I 0 [] (wipeV own ρ1) ∧
      (∀ k d acc ρ, its[k]? = some d → I k acc ρ → bind tg d ρ fun ρ2 => wTc cs ρ2 fun c ρ3 => br c (wE elt ρ3 fun r ρ4 => frz1 r ρ4 fun y ρ5 => I (k + 1) (acc ++ [y]) (wipeV own ρ5)) (I (k + 1) acc (wipeV own ρ3))) ∧
      ∀ acc ρ, I its.length acc ρ → Q (.fresh acc) (unwipe own ρ1 ρ)
def wT : T → WT
  | .cmp c a b, ρ, Q => wE a ρ fun r1 ρ1 => wE b ρ1 fun r2 ρ2 => wRd r1 ρ2 fun x => wRd r2 ρ2 fun y => cmp2 c x y fun z => Q z ρ2
  | .chain c d a b e, ρ, Q => wE a ρ fun r1 ρ1 => wE b ρ1 fun r2 ρ2 => wRd r1 ρ2 fun x => wRd r2 ρ2 fun y => cmp2 c x y fun z =>
      br z (wE e ρ2 fun r3 ρ3 => wRd r2 ρ3 fun y => wRd r3 ρ3 fun v => cmp2 d y v fun z => Q z ρ3) (Q false ρ2)
  | .and a b, ρ, Q => wT a ρ fun c ρ1 => br c (wT b ρ1 Q) (Q false ρ1)
  | .or a b, ρ, Q => wT a ρ fun c ρ1 => br c (Q true ρ1) (wT b ρ1 Q)
  | .not a, ρ, Q => wT a ρ fun c ρ1 => Q (!c) ρ1
  | .tru e, ρ, Q => wE e ρ fun r1 ρ1 => wRd r1 ρ1 fun x => tru x fun c => Q c ρ1
def wTc : Tc → WT
  | .no, ρ, Q => Q true ρ
  | .yes c, ρ, Q => wT c ρ Q
def wP : Po → En → (Option Int → En → Prop) → Prop
  | .no, ρ, Q => Q none ρ
  | .yes e, ρ, Q => wE e ρ fun r ρ1 => match r with
    | .val (.int i) => Q (some i) ρ1
    | _ => False
def wA : Es → WA
  | .nil, ρ, Q => Q [] ρ
  | .cons e es, ρ, Q => wE e ρ fun r ρ1 => wA es ρ1 fun rs ρ2 => Q (r :: rs) ρ2
/-- what is walked -/
def wI : It → En → (List D → En → Prop) → Prop
  | .seq e, ρ, Q => wE e ρ fun r ρ1 => frz1 r ρ1 fun d ρ2 => match d with
    | .tup ds => Q ds ρ2
    | .lst ds => Q ds ρ2
    | .fix ds => Q ds ρ2
    | _ => False
  | .rng1 a, ρ, Q => wE a ρ fun r ρ1 => wRd r ρ1 fun x => match x with | .int i => (-(2 ^ 62) ≤ i ∧ i < 2 ^ 62) ∧ Q (rngs 0 i.toNat 1) ρ1 | _ => False
  | .rng2 a b, ρ, Q => wE a ρ fun r1 ρ1 => wE b ρ1 fun r2 ρ2 => wRd r1 ρ2 fun x => wRd r2 ρ2 fun y => match x, y with
    | .int i, .int j => (-(2 ^ 62) ≤ i ∧ i < 2 ^ 62 ∧ -(2 ^ 62) ≤ j ∧ j < 2 ^ 62) ∧ Q (rngs i (j - i).toNat 1) ρ2
    | _, _ => False
  | .rng2L a b, ρ, Q => wE a ρ fun r1 ρ1 => wE b ρ1 fun r2 ρ2 => wRd r1 ρ2 fun x => wRd r2 ρ2 fun y => match x, y with
    | .int i, .int j => Q (rngs i (j - i).toNat 1) ρ2
    | _, _ => False
  | .rng3 a b c, ρ, Q => wE a ρ fun r1 ρ1 => wE b ρ1 fun r2 ρ2 => wE c ρ2 fun r3 ρ3 => wRd r1 ρ3 fun x => wRd r2 ρ3 fun y => wRd r3 ρ3 fun z => match x, y, z with
    | .int i, .int j, .int c => ∃ n, RgC i j c n ∧ Q (rngs i n c) ρ3
    | _, _, _ => False
  | .rev e, ρ, Q => wE e ρ fun r ρ1 => frz1 r ρ1 fun d ρ2 => match d with
    | .tup ds => Q ds.reverse ρ2
    | .lst ds => Q ds.reverse ρ2
    | .fix ds => Q ds.reverse ρ2
    | _ => False
  | .enum e, ρ, Q => wE e ρ fun r ρ1 => frz1 r ρ1 fun d ρ2 => match d with
    | .tup ds => Q (ds.mapIdx fun i d => D.tup [.int (i : Nat), d]) ρ2
    | .lst ds => Q (ds.mapIdx fun i d => D.tup [.int (i : Nat), d]) ρ2
    | .fix ds => Q (ds.mapIdx fun i d => D.tup [.int (i : Nat), d]) ρ2
    | _ => False
  | .own _, _, _ => False
  | .zip a b, ρ, Q => wE a ρ fun r1 ρ1 => wE b ρ1 fun r2 ρ2 => frz [r1, r2] ρ2 fun ds ρ3 => match ds with
    | [.lst xs, .lst ys] => Q (List.zipWith (fun x y => D.tup [x, y]) xs ys) ρ3
    | [.tup xs, .tup ys] => Q (List.zipWith (fun x y => D.tup [x, y]) xs ys) ρ3
    | [.tup xs, .lst ys] => Q (List.zipWith (fun x y => D.tup [x, y]) xs ys) ρ3
    | _ => False
end
mutual
def wS : S → WS
  | .asg i e, ρ, K => wE Γ e ρ fun r ρ1 => toSlot i r ρ1 K.nx
  | .asgT is e, ρ, K => wE Γ e ρ fun r ρ1 => frz1 r ρ1 fun d ρ2 => match d with
    | .tup ds => ds.length = is.length ∧ K.nx (setAll is ds ρ2)
    | .lst ds => ds.length = is.length ∧ K.nx (setAll is ds ρ2)
    | _ => False
  | .par is es, ρ, K => wA Γ es ρ fun rs ρ1 => frz rs ρ1 fun ds ρ2 => ds.length = is.length ∧ K.nx (setAll is ds ρ2)
  | .asgX i x y e, ρ, K => wE Γ e ρ fun r ρ1 => frz1 r ρ1 fun d ρ2 => match d with
    | .tup [d1, d2] => isOwn (gt ρ2 i) = true ∧ wE Γ x ρ2 fun r1 ρ3 => wRd r1 ρ3 fun y1 => putAt i y1 d1 ρ3 fun ρ4 => isOwn (gt ρ4 i) = true ∧ wE Γ y ρ4 fun r2 ρ5 => wRd r2 ρ5 fun y2 => putAt i y2 d2 ρ5 K.nx
    | _ => False
  | .sub i x e, ρ, K => wE Γ e ρ fun r ρ1 => isOwn (gt ρ1 i) = true ∧ wE Γ x ρ1 fun r2 ρ2 => frz1 r ρ2 fun d ρ3 => wRd r2 ρ3 fun y => putAt i y d ρ3 K.nx
  | .aug i o e, ρ, K => ∃ x, gt ρ i = .val x ∧ wE Γ e ρ fun r ρ1 => wRd r ρ1 fun y => augD o x y fun z => K.nx (ρ1.set i (.val z))
  | .augS i x o e, ρ, K => isOwn (gt ρ i) = true ∧ wE Γ x ρ fun r1 ρ1 => wRd r1 ρ1 fun y => itAt i y ρ1 fun d => wE Γ e ρ1 fun r2 ρ2 => wRd r2 ρ2 fun v => augD o d v fun z => putAt i y z ρ2 K.nx
  | .ex e, ρ, K => wE Γ e ρ fun _ ρ1 => K.nx ρ1
  | .ret e, ρ, K => wE Γ e ρ fun r ρ1 => match r with
    | .val d => K.rt (.val d) ρ1
    | .fresh ds => K.rt (.fresh ds) ρ1
    | .slot j => match gt ρ1 j with
      | .own ds => K.rt (.fresh ds) ρ1
      | _ => False
  | .ret0, ρ, K => K.rt (.val .non) ρ
  | .ite c a b, ρ, K => wT Γ c ρ fun z ρ1 => br z (wSs a ρ1 K) (wSs b ρ1 K)
  | .whl c b, ρ, K => ∃ I : Nat → En → Prop, (∃ m, I m ρ) ∧ ∀ m ρ, I m ρ → wT Γ c ρ fun z ρ1 =>
      br z (wSs b ρ1 { nx := fun ρ2 => ∃ m', m' < m ∧ I m' ρ2, ct := fun ρ2 => ∃ m', m' < m ∧ I m' ρ2, bk := K.nx, rt := K.rt }) (K.nx ρ1)
  | .for tg it b, ρ, K => wI Γ it ρ fun its ρ1 => ∃ I : Nat → En → Prop, I 0 ρ1 ∧
      (∀ k d ρ, its[k]? = some d → I k ρ → bind tg d ρ fun ρ2 => wSs b ρ2 { nx := I (k + 1), ct := I (k + 1), bk := K.nx, rt := K.rt }) ∧ ∀ ρ, I its.length ρ → K.nx ρ
  | .pass, ρ, K => K.nx ρ
  | .brk, ρ, K => K.bk ρ
  | .cnt, ρ, K => K.ct ρ
def wSs : Ss → WS
  | .nil, ρ, K => K.nx ρ
  | .cons s ss, ρ, K => wS s ρ { K with nx := fun ρ1 => wSs ss ρ1 K }
end
end
end VL

/-! VL4: steps of the slots' description; operators. -/
namespace VL
open PySem PySem.Spec L2
section
variable {F : Fr} {as as' as1 as2 : As} {σ : L2.St} {H H' H1 H2 : Hp} {ρ ρ' ρ1 ρ2 : En}

theorem SlAt.ext {i : Nat} {x : Option (Option V)} {s : Sl} (e : Ext (fun _ => False) H H') (h : SlAt F H as i x s) : SlAt F H' as i x s := by
  have e' : Ext (F.av as) H H' := e.mono fun _ z => z.elim
  cases s with
  | un => exact h
  | val d =>
    obtain ⟨h1, v, h2, h3⟩ := h
    exact ⟨h1, v, h2, Rep.ext e' h3⟩
  | own ds =>
    obtain ⟨b, xs, h1, h2, h3, h4, h5⟩ := h
    exact ⟨b, xs, h1, h2, h3, e.keep _ _ h4 (fun z => z), Reps.ext e' h5⟩
  | par ds =>
    obtain ⟨b, xs, h1, h2, h3, h4, h5⟩ := h
    exact ⟨b, xs, h1, h2, h3, e.keep _ _ h4 (fun z => z), Reps.ext e' h5⟩
/-- the heap grew -/
theorem ER.grow (E : ER F as σ H ρ) (e : Ext (fun _ => False) H H') : ER F as σ H' ρ :=
  ⟨E.len, E.inj, E.nex, fun i => (E.sl i).ext e, E.old.trans (e.mono fun _ z => z.elim), E.own, fun b z q => E.exo b z (e.free q), E.mok, fun p hp => Rep.ext (e.mono fun _ z => z.elim) (E.kept p hp)⟩
theorem Aft.grow (E : ER F as σ H ρ) (e : Ext (fun _ => False) H H') : Aft F as as σ H H' ρ := ⟨Le.refl _, E.grow e, e.mono fun _ z => z.elim⟩
theorem ER.notav (E : ER F as σ H ρ) {p : Addr} (n : H p = none) : ¬ F.av as p := by
  intro z
  rcases z with z | ⟨i, z⟩ | z
  · exact E.exo p (.inl z) n
  · have q := E.sl i
    cases e : ρ[i]?.getD .un with
    | un => rw [e] at q; have q' : as i = none := q; rw [q'] at z; cases z
    | val d => rw [e] at q; have q' := q.1; rw [q'] at z; cases z
    | own ds => rw [e] at q; obtain ⟨b, xs, h1, _, _, h4, _⟩ := q; rw [h1] at z; cases z; rw [n] at h4; cases h4
    | par ds => rw [e] at q; obtain ⟨b, xs, h1, _, _, h4, _⟩ := q; rw [h1] at z; cases z; rw [n] at h4; cases h4
  · exact E.exo p (.inr z) n
theorem av_with {b c : Addr} (z : (F.with b).av as c) : F.av as c ∨ c = b := of_with z
/-- the slots also avoid an address that is new -/
theorem ER.with_new (E : ER F as σ H ρ) {p : Addr} {o : HO} (n : H p = none) : ER (F.with p) as σ (upd H p o) ρ := by
  have e : Ext (fun _ => False) H (upd H p o) := Ext.new n
  have G := E.grow e
  have key : ∀ b, H b ≠ none → (F.with p).av as b → F.av as b := fun b hb z => by
    rcases av_with z with z | z
    · exact z
    · rw [z] at hb; exact absurd n hb
  have e' : Ext ((F.with p).av as) H (upd H p o) := e.mono fun _ z => z.elim
  refine ⟨E.len, E.inj, fun i b h z => ?_, fun i => ?_, G.old, E.own, fun b z => ?_, E.mok, fun p hp => Rep.ext e' (Rep.wk key (E.kept p hp))⟩
  · rcases z with z | z
    · exact E.nex i b h z
    · subst z
      exact E.notav n (.inr (.inl ⟨i, h⟩))
  · have q := E.sl i
    cases z : ρ[i]?.getD .un with
    | un => rw [z] at q; exact q
    | val d =>
      rw [z] at q
      obtain ⟨h1, v, h2, h3⟩ := q
      exact ⟨h1, v, h2, Rep.ext e' (Rep.wk key h3)⟩
    | own ds =>
      rw [z] at q
      obtain ⟨b, xs, h1, h2, h3, h4, h5⟩ := q
      exact ⟨b, xs, h1, h2, h3, e.keep _ _ h4 (fun z => z), Reps.ext e' (Reps.wk key h5)⟩
    | par ds =>
      rw [z] at q
      obtain ⟨b, xs, h1, h2, h3, h4, h5⟩ := q
      exact ⟨b, xs, h1, h2, h3, e.keep _ _ h4 (fun z => z), Reps.ext e' (Reps.wk key h5)⟩
  · rcases z with (z | z) | z
    · exact G.exo b (.inl z)
    · subst z; rw [upd_same]; exact fun z => nomatch z
    · exact G.exo b (.inr z)
theorem Reps.new (E : ER F as σ H ρ) {p : Addr} {o : HO} (n : H p = none) {ds : List D} {xs : List V} (r : Reps F.K H (F.av as) ds xs) : Reps F.K (upd H p o) ((F.with p).av as) ds xs := by
  have e' : Ext ((F.with p).av as) H (upd H p o) := Ext.new n
  refine Reps.ext e' (Reps.wk (fun b hb z => ?_) r)
  rcases av_with z with z | z
  · exact z
  · rw [z] at hb; exact absurd n hb

/-- what is to come behind an operation -/
def Fin (F : Fr) (as : As) (σ : L2.St) (H : Hp) (ρ : En) (Q : VK) (k : R → Prop) : Prop :=
  ∀ r v H', ER F as σ H' ρ → Ext (fun _ => False) H H' → RP F as σ H H' ρ r v → k r → Q v H'
theorem Fin.val {Q : VK} {k : R → Prop} (f : Fin F as σ H ρ Q k) (E : ER F as σ H ρ) {d : D} {v : V} (r : Rep F.K H (F.av as) d v) (q : k (.val d)) : Q v H :=
  f (.val d) v H E (Ext.refl _ _) r q
theorem Fin.fresh {Q : VK} {k : R → Prop} (f : Fin F as σ H ρ Q k) (E : ER F as σ H ρ) {p : Addr} (n : H p = none) {ds : List D} {xs : List V} (r : Reps F.K H (F.av as) ds xs) (q : k (.fresh ds)) : Q (.ref p) (upd H p (.lst xs)) :=
  f (.fresh ds) _ _ (E.grow (Ext.new n)) (Ext.new n) ⟨p, xs, rfl, n, E.notav n, upd_same, Reps.new E n r, E.with_new n⟩ q
theorem Fin.tup {Q : VK} {k : R → Prop} (f : Fin F as σ H ρ Q k) (E : ER F as σ H ρ) {p : Addr} (n : H p = none) {ds : List D} {xs : List V} (r : Reps F.K H (F.av as) ds xs) (q : k (.val (.tup ds))) : Q (.ref p) (upd H p (.tup xs)) :=
  f (.val (.tup ds)) _ _ (E.grow (Ext.new n)) (Ext.new n) (by
    show Rep _ _ _ (.tup ds) _
    unfold Rep
    exact ⟨p, xs, rfl, .inl (.inl upd_same), Reps.ext (Ext.new n) r⟩) q
theorem rep_int {K : PySem.W.Frag} {av : Addr → Prop} (i : Int) : Rep K H av (.int i) (.int i) := by unfold Rep; rfl
theorem rep_bl {K : PySem.W.Frag} {av : Addr → Prop} (i : Bool) : Rep K H av (.bl i) (.bl i) := by unfold Rep; rfl
theorem rep_non {K : PySem.W.Frag} {av : Addr → Prop} : Rep K H av .non .non := by unfold Rep; rfl
theorem rep_str {K : PySem.W.Frag} {av : Addr → Prop} (i : Str) : Rep K H av (.str i) (.str i) := by unfold Rep; rfl
theorem rep_tup {K : PySem.W.Frag} {av : Addr → Prop} {a : Addr} {xs : List V} {ds : List D} (h : SqT K H a xs) (r : Reps K H av ds xs) : Rep K H av (.tup ds) (.ref a) := by unfold Rep; exact ⟨a, xs, rfl, h, r⟩
end

/-- what holds of the place where a def runs -/
structure Ok (X : Cx) (F : Fr) : Prop where
  K : X.K = F.K
  calm : X.calm = true
  nd : X.N.Nodup
  room : Room 40 X.A
  seer : X.base.NoSeer
  tree : X.prog.given.tree = none
  head : ∃ env l, X.stack = env :: l ∧ env.scope.isGenerator = false ∧ env.scope.isCoroutine = false ∧ env.builtins = builtinsNs ∧ env.globals = mainGlobals
  pass : ∀ env, PassesOwn (model X.prog X.w) X.A env X.xe

section
variable {X : Cx} {F : Fr}
theorem Ok.units (O : Ok X F) : X.A.units + 65 < cLine := by have := O.room.un; omega
/-- // by any divisor but 0 -/
theorem op_fdivA (O : Ok X F) : OpR X (binaryOp .FloorDiv) (rI (fun _ j => j ≠ 0) fun i j => .int (i.fdiv j)) := by
  intro pins s σ H x y v u Q I rx ry h
  obtain ⟨i, j, rfl, rfl, hj, q⟩ := h
  obtain ⟨t, rfl⟩ := rx
  obtain ⟨t', rfl⟩ := ry
  obtain ⟨env, l, e1, e2, e3, e4, e5⟩ := O.head
  have hd := O.room.dp
  refine PyProof.Rows.floordiv_int hj ⟨.int (i.fdiv j), H, I.tok _, ⟨_, rfl⟩, q⟩ (.inr ?_)
  exact PylongRoom.of I.nolimit (by show X.A.depth + 100 < 1000; have : recursionLimit = 1000 := rfl; omega) (SeerAt.of (O.seer.keeps I.bk) O.tree (I.ok.frames.trans (congrArg some e1)) e2 e3 e4 e5)
theorem op_mulA : OpR X (binaryOp .Mult) (rI IntMulOk fun i j => .int (i * j)) := opI fun _ _ _ _ _ _ _ hc q => PyProof.Rows.mul_int q hc
end

def opP : Op → Operator
  | .add => .Add | .sub => .Sub | .mul => .Mult | .fdiv => .FloorDiv | .mod => .Mod | .pow => .Pow | .shl => .LShift | .shr => .RShift
def rStr : R2 := fun x y H Q => ∃ i j, x = .str i ∧ y = .str j ∧ i.length + j.length ≤ sizeLine ∧ Q (.str (i ++ j)) H
def rMulS : R2 := fun x y H Q => ∃ a n, x = .str a ∧ y = .int n ∧ -(2 ^ 63) ≤ n ∧ n ≤ 1 ∧ Q (.str (if n < 1 then Str.empty else a)) H
theorem op_mul_str {X : Cx} : OpR X (binaryOp .Mult) rMulS := by
  intro pins s σ H x y v u Q I rx ry h
  obtain ⟨a, n, rfl, rfl, h1, h2, q⟩ := h
  obtain ⟨t, rfl⟩ := rx
  obtain ⟨t', rfl⟩ := ry
  have no : ¬ n < 1 → ¬ (n == 1 || a.length == 0) = false := fun g => by
    have e : n = 1 := by omega
    subst e
    intro z
    rw [show ((1 : Int) == 1) = true from rfl, Bool.true_or] at z
    cases z
  refine P.mul_str (by rw [decide_eq_false (by omega), decide_eq_false (by omega)]; rfl) (fun g w => absurd w (no g)) (fun g w => absurd w (no g)) ?_
  by_cases hn : n < 1
  · rw [if_pos hn]
    rw [if_pos hn] at q
    exact ⟨by decide, .str Str.empty, H, I.tok _, ⟨_, rfl⟩, q⟩
  · rw [if_neg hn, if_pos (by cases hz : (n == 1 || a.length == 0) with | true => rfl | false => exact absurd hz (no hn))]
    rw [if_neg hn] at q
    exact ⟨.str a, H, I, ⟨_, rfl⟩, q⟩
theorem tuple_mul1 (l : Addr) (items : Array Value) (n : Nat) (dd : Option Addr) (sl : Array (Option Value)) (u : Tok) :
    Meets (Builtin.«tuple.__mul__» ⟨[.ref l, .int 1 u], []⟩) (fun _ R s => s.heap.get? l = some { cls := .type "tuple", dict := dd, data := .seq items n, slots := sl } ∧ R (.ok (.ret (Value.ref l))) s) :=
  .of_wp fun prog w A R s h => by
    obtain ⟨hp, g, d, tk, os⟩ := s
    obtain ⟨hl, h⟩ := h
    have f1 := AutoSeq1.idx_int
    wp_walk using wpAny_loadPart' hl
    repeat (first
      | (refine wpAny_ite_false (decide_eq_false (by decide)) ?_; wp_walk using wpAny_loadPart' hl)
      | (refine wpAny_ite_true (decide_eq_true (by rw [show ((1 : Int) == 1) = true from rfl, Bool.or_true])) ?_; wp_walk using wpAny_loadPart' hl))
    exact ⟨_, rfl, h⟩
def rRepT1 (K : PySem.W.Frag) : R2 := fun x y H Q => ∃ l xs, x = .ref l ∧ y = .int 1 ∧ SqT K H l xs ∧ Q (.ref l) H
theorem op_repT1 {X : Cx} : OpR X (binaryOp .Mult) (rRepT1 X.K) := by
  intro pins s σ H x y v u Q I rx ry h
  obtain ⟨l, xs, rfl, rfl, hT, q⟩ := h
  cases rx
  obtain ⟨t, rfl⟩ := ry
  obtain ⟨its, r, ⟨⟨cls, dd, data, sl⟩, ho, hc, n, hd⟩, hs⟩ := I.tuple hT
  simp only at hc hd
  subst hc hd
  refine wpAny_binaryOp_repeat_ref (T := "tuple") (U := "int") (by decide) ⟨_, ho, rfl⟩ (fun s' => typeIs_int s' 1 t) noFill_tuple_mul F.fills_int_mul F.slot_int_rmul repeat_tuple F.slot_int_index.lookup
    (call_meets F.slot_int_rmul (typeIs_int s 1 t) F.entry_int_rmul (F.args_int_rmul_2 _ _) (int_rmul_tuple 1 t l its.toArray n dd sl)
      ⟨ho, rfl, ⟨_, ho, rfl⟩, call_meets F.slot_tuple_mul ⟨_, ho, rfl⟩ F.entry_tuple_mul (F.args_tuple_mul_2 _ _) (tuple_mul1 l its.toArray n dd sl t) ⟨ho, ?_⟩⟩)
  exact ⟨.ref l, H, I, rfl, q⟩
def rOp (K : PySem.W.Frag) (o : Op) : R2 := match o with
  | .add => fun x y H Q => (rI0 (fun i j => .int (i + j))) x y H Q ∨ (rStr x y H Q ∨ (rCat x y H Q ∨ rCatA K x y H Q))
  | .sub => rI0 fun i j => .int (i - j)
  | .mul => fun x y H Q => (rI IntMulOk fun i j => .int (i * j)) x y H Q ∨ (rRep x y H Q ∨ (rMulS x y H Q ∨ (rRepT K x y H Q ∨ rRepT1 K x y H Q)))
  | .fdiv => rI (fun _ j => j ≠ 0) fun i j => .int (i.fdiv j)
  | .mod => rI (fun _ j => j ≠ 0) fun i j => .int (i.fmod j)
  | .pow => rI CPow fun i j => .int (i ^ j.toNat)
  | .shl => rI CShl fun i j => .int (i * 2 ^ j.toNat)
  | .shr => rI (fun _ j => 0 ≤ j) fun i j => .int (i / 2 ^ j.toNat)
theorem op_ok {X : Cx} {F : Fr} (O : Ok X F) (o : Op) : OpR X (binaryOp (opP o)) (rOp F.K o) := by
  have hA : OpR X (binaryOp .Add) (rCatA F.K) := O.K ▸ op_catA
  have hT : OpR X (binaryOp .Mult) (rRepT F.K) := O.K ▸ op_repT
  have hT1 : OpR X (binaryOp .Mult) (rRepT1 F.K) := O.K ▸ op_repT1
  cases o with
  | add => exact op_add.or (op_add_str.or (op_cat.or hA))
  | sub => exact op_sub
  | mul => exact op_mulA.or (op_rep.or (op_mul_str.or (hT.or hT1)))
  | fdiv => exact op_fdivA O
  | mod => exact op_modN
  | pow => exact op_pow
  | shl => exact op_shlW
  | shr => exact op_shr
section
variable {F : Fr} {as : As} {σ : L2.St} {H : Hp} {ρ : En} {x y : D} {v u : V} {Q : VK} {k : R → Prop}
theorem sm_line {n : Nat} (h : Sm n) : n ≤ sizeLine := by rw [sizeLine_eq]; exact h
theorem op2_sound (o : Op) (E : ER F as σ H ρ) (gx : Got F as H x v) (gy : Got F as H y u) (q : op2 o x y k) (f : Fin F as σ H ρ Q k) : rOp F.K o v u H Q := by
  unfold op2 at q
  split at q
  · rw [gx.int, gy.int]; exact .inl ⟨_, _, rfl, rfl, f.val E (rep_int _) q⟩
  · rw [gx.int, gy.int]; exact ⟨_, _, rfl, rfl, f.val E (rep_int _) q⟩
  · rw [gx.int, gy.int]; exact .inl ⟨_, _, rfl, rfl, q.1, f.val E (rep_int _) q.2⟩
  · rw [gx.int, gy.int]; exact ⟨_, _, rfl, rfl, q.1, f.val E (rep_int _) q.2⟩
  · rw [gx.int, gy.int]; exact ⟨_, _, rfl, rfl, q.1, f.val E (rep_int _) q.2⟩
  · rw [gx.int, gy.int]; exact ⟨_, _, rfl, rfl, q.1, f.val E (rep_int _) q.2⟩
  · rw [gx.int, gy.int]; exact ⟨_, _, rfl, rfl, q.1, f.val E (rep_int _) q.2⟩
  · rw [gx.int, gy.int]; exact ⟨_, _, rfl, rfl, q.1, f.val E (rep_int _) q.2⟩
  · rw [gx.str, gy.str]; exact .inr (.inl ⟨_, _, rfl, rfl, sm_line q.1, f.val E (rep_str _) q.2⟩)
  · obtain ⟨a, xs, rfl, ha, ra⟩ := gx.lst
    obtain ⟨b, ys, rfl, hb, rb⟩ := gy.lst
    refine .inr (.inr (.inl ⟨a, b, xs, ys, rfl, rfl, ha, hb, ?_, fun p n => f.fresh E n (ra.append rb) q.2⟩))
    rw [ra.length, rb.length]; exact sm_line q.1
  · obtain ⟨a, xs, rfl, ha, ra⟩ := gx.lst
    rw [gy.int]
    refine .inr (.inl ⟨a, _, xs, rfl, rfl, ha, q.2.1, q.2.2.1, ?_, fun p n => ?_⟩)
    · rw [ra.length]; exact sm_line q.1
    · exact f.fresh E n (ra.rep _) q.2.2.2
  · obtain ⟨a, xs, rfl, ha, ra⟩ := gx.tup
    obtain ⟨b, ys, rfl, hb, rb⟩ := gy.tup
    refine .inr (.inr (.inr ⟨a, b, xs, ys, rfl, rfl, ha, hb, ?_, fun e => ?_, fun _ e => ?_, fun _ _ p n => f.tup E n (ra.append rb) q.2⟩))
    · rw [ra.length, rb.length]; exact sm_line q.1
    · subst e
      refine f.val E (rep_tup hb (?_ : Reps _ _ _ _ ys)) q.2
      have := ra.append rb
      rwa [List.nil_append] at this
    · subst e
      refine f.val E (rep_tup ha (?_ : Reps _ _ _ _ xs)) q.2
      have := ra.append rb
      rwa [List.append_nil] at this
  · obtain ⟨a, xs, rfl, ha, ra⟩ := gx.tup
    rw [gy.int]
    obtain ⟨q0, q1, q2, q3, q⟩ := q
    rename_i ds n
    refine .inr (.inr (.inr ?_))
    by_cases h1 : n = 1
    · subst h1
      refine .inr ⟨a, xs, rfl, rfl, ha, f.val E (rep_tup ha (?_ : Reps _ _ _ _ xs)) q⟩
      rw [show (List.replicate (1 : Int).toNat ds).flatten = ds by simp]
      exact ra
    · refine .inl ⟨a, n, xs, rfl, rfl, ha, fun e => ?_, by omega, q2, by rw [ra.length]; exact q3, fun p hp => f.tup E hp (ra.rep _) q⟩
      have := ra.length
      rw [e] at this
      exact q0 (List.eq_nil_of_length_eq_zero this.symm)
  · rw [gx.str, gy.int]
    exact .inr (.inr (.inl ⟨_, _, rfl, rfl, q.1, q.2.1, f.val E (rep_str _) q.2.2⟩))
  · exact q.elim
end

/-! ### comparisons -/
mutual
theorem Rep.dp {K : PySem.W.Frag} {H : Hp} {av : Addr → Prop} : ∀ {d : D} {v : V}, Rep K H av d v → Dp K H v (toP d)
  | .non, v, h => by unfold Rep at h; subst h; exact Dp.non
  | .bl b, v, h => by unfold Rep at h; subst h; exact Dp.bl b
  | .int i, v, h => by unfold Rep at h; subst h; exact Dp.int i
  | .str i, v, h => by unfold Rep at h; subst h; exact Dp.str i
  | .tup ds, v, h => by
    unfold Rep at h
    obtain ⟨a, xs, rfl, h1, h2⟩ := h
    unfold toP
    exact Dp.tup h1 (Reps.dp h2)
  | .lst ds, v, h => by
    unfold Rep at h
    obtain ⟨a, xs, rfl, h1, _, h2⟩ := h
    unfold toP
    exact Dp.lst (.inl (.inl h1)) (Reps.dp h2)
  | .fix ds, v, h => by
    unfold Rep at h
    obtain ⟨a, xs, rfl, h1, h2⟩ := h
    unfold toP
    exact Dp.lst h1.seq (Reps.dp h2)
theorem Reps.dp {K : PySem.W.Frag} {H : Hp} {av : Addr → Prop} : ∀ {ds : List D} {vs : List V}, Reps K H av ds vs → DpAll K H vs (toPs ds)
  | [], vs, h => by unfold Reps at h; subst h; exact DpAll.nil
  | d :: ds, vs, h => by
    unfold Reps at h
    obtain ⟨v, r, rfl, h1, h2⟩ := h
    unfold toPs
    exact DpAll.cons (Rep.dp h1) (Reps.dp h2)
end
theorem Got.dp {F : Fr} {as : As} {H : Hp} {d : D} {v : V} (g : Got F as H d v) : Dp F.K H v (toP d) := Rep.dp g.rep
def cmP : Cm → CmpOp
  | .eq => .Eq | .ne => .NotEq | .lt => .Lt | .le => .LtE | .gt => .Gt | .ge => .GtE | .isN => .Is | .notN => .IsNot | .isin => .In | .notin => .NotIn
def rInT (K : PySem.W.Frag) : R2 := fun x y H Q => ∃ d ds, Dp K H x d ∧ Dp K H y (.tuple ds) ∧ SeqAt.shaped d = true ∧ SeqAt.shaped (.tuple ds) = true ∧ Q (.bl (ds.any fun z => PyData.eqv z d)) H
def rCm (K : PySem.W.Frag) (c : Cm) : R2 := match c with
  | .lt => rI0 fun i j => .bl (decide (i < j))
  | .le => rI0 fun i j => .bl (decide (i ≤ j))
  | .gt => rI0 fun i j => .bl (decide (j < i))
  | .ge => rI0 fun i j => .bl (decide (j ≤ i))
  | .eq => fun x y H Q => rEq x y H Q ∨ rEqD K x y H Q
  | .ne => fun x y H Q => rNe x y H Q ∨ rNeD K x y H Q
  | .isN => fun x y H Q => y = .non ∧ Q (.bl (decide (x = .non))) H
  | .notN => fun x y H Q => y = .non ∧ Q (.bl (!decide (x = .non))) H
  | .isin => rInD K
  | .notin => rNotInD K
theorem cm_ok {X : Cx} {F : Fr} (O : Ok X F) (c : Cm) : OpR X (compareOp (cmP c)) (rCm F.K c) := by
  have hu := O.units
  have h1 : OpR X (compareOp .Eq) (rEqD F.K) := O.K ▸ op_eqD (by omega)
  have h2 : OpR X (compareOp .NotEq) (rNeD F.K) := O.K ▸ op_neD (by omega)
  have h3 : OpR X (compareOp .In) (rInD F.K) := O.K ▸ op_inD (by omega)
  have h4 : OpR X (compareOp .NotIn) (rNotInD F.K) := O.K ▸ op_notInD (by omega)
  cases c with
  | eq => exact op_eq.or h1
  | ne => exact op_ne.or h2
  | lt => exact op_lt
  | le => exact op_le
  | gt => exact op_gt
  | ge => exact op_ge
  | isN => exact op_isN
  | notN => exact op_notN
  | isin => exact h3
  | notin => exact h4
end VL

/-! VL5: the rules of expressions over data. -/
namespace VL
open PySem PySem.Spec L2
section
variable {F : Fr} {as : As} {σ : L2.St} {H : Hp} {ρ : En} {x y : D} {v u : V} {Q : VK}
theorem toPs_any (ds : List D) (z : D) : (toPs ds).any (fun p => PyData.eqv p (toP z)) = ds.any fun y => deq y z := by
  induction ds with
  | nil => rfl
  | cons d ds ih => unfold toPs; rw [List.any_cons, List.any_cons, ih]; rfl
theorem eq_sound {k : Bool → Prop} {K : PySem.W.Frag} (hK : K = F.K) (gx : Got F as H x v) (gy : Got F as H y u) (q : deqC x y k) (f : ∀ b, k b → Q (.bl b) H) : rEq v u H Q ∨ rEqD K v u H Q := by
  unfold deqC at q
  split at q
  · rw [gx.int, gy.int]; exact .inl ⟨rfl, f _ (by rw [show decide (V.int _ = V.int _) = _ from dec_int, Bool.beq_eq_decide_eq]; exact q)⟩
  · rw [gx.bl, gy.bl]; exact .inl ⟨rfl, f _ (by rw [dec_bl]; exact q)⟩
  · rw [gx.str, gy.str]; exact .inl ⟨rfl, f _ (by rw [dec_str, Bool.beq_eq_decide_eq]; exact q)⟩
  · rw [gx.non, gy.non]; exact .inl ⟨rfl, f _ (by rw [decide_eq_true rfl]; exact q)⟩
  · rw [gx.non, gy.int]; exact .inl ⟨rfl, f _ (by rw [decide_eq_false (fun z => nomatch z)]; exact q)⟩
  · rw [gx.int, gy.non]; exact .inl ⟨rfl, f _ (by rw [decide_eq_false (fun z => nomatch z)]; exact q)⟩
  · rw [gx.non, gy.str]; exact .inl ⟨rfl, f _ (by rw [decide_eq_false (fun z => nomatch z)]; exact q)⟩
  · rw [gx.str, gy.non]; exact .inl ⟨rfl, f _ (by rw [decide_eq_false (fun z => nomatch z)]; exact q)⟩
  · exact .inr (hK ▸ ⟨toP x, toP y, gx.dp, gy.dp, q.1, q.2.1, f _ q.2.2⟩)
theorem ne_sound {k : Bool → Prop} {K : PySem.W.Frag} (hK : K = F.K) (gx : Got F as H x v) (gy : Got F as H y u) (q : deqC x y fun b => k (!b)) (f : ∀ b, k b → Q (.bl b) H) : rNe v u H Q ∨ rNeD K v u H Q := by
  rcases eq_sound (K := K) (Q := fun z H' => ∀ b, z = .bl b → Q (.bl (!b)) H') hK gx gy q (fun b hb c e => by cases e; exact f _ hb) with ⟨h1, h2⟩ | ⟨d, e, h1, h2, h3, h4, h5⟩
  · exact .inl ⟨h1, h2 _ rfl⟩
  · exact .inr ⟨d, e, h1, h2, h3, h4, h5 _ rfl⟩
theorem in_sound {k : Bool → Prop} {ys : List D} (hy : Dp F.K H u (.list (toPs ys))) (gx : Got F as H x v) (q : inC x ys k) (f : ∀ b, k b → Q (.bl b) H) : rInD F.K v u H Q :=
  ⟨toP x, toPs ys, gx.dp, hy, q.1, q.2.1, f _ (by rw [toPs_any]; exact q.2.2)⟩
theorem notin_sound {k : Bool → Prop} {ys : List D} (hy : Dp F.K H u (.list (toPs ys))) (gx : Got F as H x v) (q : inC x ys fun b => k (!b)) (f : ∀ b, k b → Q (.bl b) H) : rNotInD F.K v u H Q :=
  ⟨toP x, toPs ys, gx.dp, hy, q.1, q.2.1, f _ (by rw [toPs_any]; exact q.2.2)⟩
theorem non_iff (g : Got F as H x v) : decide (v = V.non) = isNon x := by
  have r := g.rep
  clear g
  cases x with
  | non => unfold Rep at r; rw [r]; rfl
  | bl b => unfold Rep at r; rw [r]; rfl
  | int b => unfold Rep at r; rw [r]; rfl
  | str b => unfold Rep at r; rw [r]; rfl
  | tup b => unfold Rep at r; obtain ⟨a, xs, rfl, _⟩ := r; rfl
  | lst b => unfold Rep at r; obtain ⟨a, xs, rfl, _⟩ := r; rfl
  | fix b => unfold Rep at r; obtain ⟨a, xs, rfl, _⟩ := r; rfl
theorem cmp2_sound (c : Cm) {k : Bool → Prop} (gx : Got F as H x v) (gy : Got F as H y u) (q : cmp2 c x y k) (f : ∀ b, k b → Q (.bl b) H) : rCm F.K c v u H Q := by
  unfold cmp2 at q
  split at q
  · rw [gx.int, gy.int]; exact ⟨_, _, rfl, rfl, f _ q⟩
  · rw [gx.int, gy.int]; exact ⟨_, _, rfl, rfl, f _ q⟩
  · rw [gx.int, gy.int]; exact ⟨_, _, rfl, rfl, f _ q⟩
  · rw [gx.int, gy.int]; exact ⟨_, _, rfl, rfl, f _ q⟩
  · exact eq_sound rfl gx gy q f
  · exact ne_sound rfl gx gy q f
  · refine ⟨gy.non, f _ ?_⟩
    rw [non_iff gx]
    exact q
  · refine ⟨gy.non, f _ ?_⟩
    rw [non_iff gx]
    exact q
  · exact in_sound (by have := gy.dp; unfold toP at this; exact this) gx q f
  · exact in_sound (by have := gy.dp; unfold toP at this; exact this) gx q f
  · exact notin_sound (by have := gy.dp; unfold toP at this; exact this) gx q f
  · exact notin_sound (by have := gy.dp; unfold toP at this; exact this) gx q f
  · exact q.elim
end

/-! ### reading results -/
theorem wRd_some {r : R} {ρ : En} {k : D → Prop} (h : wRd r ρ k) : ∃ d, rd r ρ = some d ∧ k d := by
  cases r with
  | val d => exact ⟨d, rfl, h⟩
  | fresh ds => exact ⟨_, rfl, h⟩
  | slot i =>
    unfold wRd gt at h
    unfold rd
    cases e : ρ[i]?.getD .un with
    | un => simp only [e] at h
    | val d => simp only [e] at h
    | own ds => simp only [e] at h ⊢; exact ⟨_, rfl, h⟩
    | par ds => simp only [e] at h ⊢; exact ⟨_, rfl, h⟩
section
variable {X : Cx} {F : Fr} {as as' as1 as2 : As} {σ : L2.St} {H H' H1 H2 : Hp} {ρ ρ' ρ1 ρ2 : En} {e a b : Expr} {wa wb : WE} {pos : Pos}
theorem RP.back {r : R} {v : V} (h : RP F as σ H1 H' ρ r v) {av : Addr → Prop} (e : Ext av H H1) : RP F as σ H H' ρ r v := by
  cases r with
  | val d => exact h
  | slot i => exact h
  | fresh ds =>
    obtain ⟨b, xs, h1, h2, h3⟩ := h
    exact ⟨b, xs, h1, e.free h2, h3⟩
/-- behind an operation of values: the whole expression is done -/
theorem fin_of {Q : VK} {Q' : R → En → Prop} (A : Aft F as as' σ H H1 ρ1) (c : ∀ as' r ρ' v H', Aft F as as' σ H H' ρ' → RP F as' σ H H' ρ' r v → Q' r ρ' → Q v H') : Fin F as' σ H1 ρ1 Q fun r => Q' r ρ1 :=
  fun r v H' E X' P q => c as' r ρ1 v H' (A.trans ⟨Le.refl _, E, X'.mono fun _ z => z.elim⟩) (P.back A.ext) q
/-- one operand -/
theorem lE1 {Q : VK} {wa : WE} {k : D → En → Prop} (E : ER F as σ H ρ) (w : wa ρ fun r ρ1 => wRd r ρ1 fun x => k x ρ1)
    (h : ∀ as1 ρ1 H1 x v, Aft F as as1 σ H H1 ρ1 → Got F as1 H1 x v → k x ρ1 → Q v H1) : lE F wa σ H Q := by
  refine ⟨as, ρ, _, E, w, fun as1 r ρ1 v H1 A P q => ?_⟩
  obtain ⟨x, e1, q⟩ := wRd_some q
  exact h as1 ρ1 H1 x v A (got_of A.er (Le.refl _) P.wait (Ext.refl _ _) e1) q
/-- two operands -/
theorem lE2 {R2 : V → V → Hp → Prop} {wa wb : WE} {k : D → D → En → Prop} (E : ER F as σ H ρ) (w : wa ρ fun r1 ρ1 => wb ρ1 fun r2 ρ2 => wRd r1 ρ2 fun x => wRd r2 ρ2 fun y => k x y ρ2)
    (h : ∀ as2 ρ2 H2 x y v u, Aft F as as2 σ H H2 ρ2 → Got F as2 H2 x v → Got F as2 H2 y u → k x y ρ2 → R2 v u H2) : lE F wa σ H fun v H1 => lE F wb σ H1 fun u H2 => R2 v u H2 := by
  refine ⟨as, ρ, _, E, w, fun as1 r1 ρ1 v H1 A1 P1 q1 => ⟨as1, ρ1, _, A1.er, q1, fun as2 r2 ρ2 u H2 A2 P2 q2 => ?_⟩⟩
  obtain ⟨x, e1, q2⟩ := wRd_some q2
  obtain ⟨y, e2, q2⟩ := wRd_some q2
  exact h as2 ρ2 H2 x y v u (A1.trans A2) (got_of A2.er A2.le P1.wait A2.ext e1) (got_of A2.er (Le.refl _) P2.wait (Ext.refl _ _) e2) q2
theorem ve_bin (O : Ok X F) (o : Op) (ha : VE X F a wa) (hb : VE X F b wb) :
    VE X F (.BinOp a (opP o) b pos) fun ρ Q => wa ρ fun r1 ρ1 => wb ρ1 fun r2 ρ2 => wRd r1 ρ2 fun x => wRd r2 ρ2 fun y => op2 o x y fun r => Q r ρ2 := by
  refine pe_mono (pe_op (op_ok O o) ha hb) fun σ H Q ⟨as, ρ, Q', E, w, c⟩ => ?_
  exact lE2 E w fun as2 ρ2 H2 x y v u A gx gy q => op2_sound o A.er gx gy q (fin_of A c)
theorem ve_var (O : Ok X F) {i : Nat} {x : Str} (hN : X.N[i]? = some x) (hv : Vis X.env.scope x) (hd : (x == ("__debug__" : Str)) = false) (hcd : (x == ("__classdict__" : Str)) = false) :
    VE X F (.Name x pos) fun ρ Q => match gt ρ i with
    | .val d => Q (.val d) ρ
    | .own _ => Q (.slot i) ρ
    | .par _ => Q (.slot i) ρ
    | .un => False := by
  refine pe_mono (pe_var hN hv hd hcd) fun σ H Q ⟨as, ρ, Q', E, w, c⟩ => ?_
  have q := E.sl i
  have w' : (match gt ρ i with | .val d => Q' (.val d) ρ | .own _ => Q' (.slot i) ρ | .par _ => Q' (.slot i) ρ | .un => False) := w
  unfold gt at w'
  cases e : ρ[i]?.getD .un with
  | un => simp only [e] at w'
  | val d =>
    simp only [e] at w'
    rw [e] at q
    obtain ⟨_, v, h1, h2⟩ := q
    exact ⟨v, h1, c as (.val d) ρ v H (Aft.refl E) h2 w'⟩
  | own ds =>
    simp only [e] at w'
    rw [e] at q
    obtain ⟨b, xs, h1, _, h3, _⟩ := q
    exact ⟨.ref b, h3, c as (.slot i) ρ _ H (Aft.refl E) ⟨b, h1, rfl⟩ w'⟩
  | par ds =>
    simp only [e] at w'
    rw [e] at q
    obtain ⟨b, xs, h1, _, h3, _⟩ := q
    exact ⟨.ref b, h3, c as (.slot i) ρ _ H (Aft.refl E) ⟨b, h1, rfl⟩ w'⟩
theorem ve_c {d : D} {v : V} (h : PE X e (tC v)) (r : ∀ H av, Rep F.K H av d v) : VE X F e fun ρ Q => Q (.val d) ρ := by
  refine pe_mono h fun σ H Q ⟨as, ρ, Q', E, w, c⟩ => ?_
  exact c as (.val d) ρ v H (Aft.refl E) (r H _) w
theorem ve_neg (ha : VE X F a wa) : VE X F (.UnaryOp .USub a pos) fun ρ Q => wa ρ fun r1 ρ1 => wRd r1 ρ1 fun x => match x with | .int i => Q (.val (.int (-i))) ρ1 | _ => False := by
  refine pe_mono (pe_un un_neg ha) fun σ H Q ⟨as, ρ, Q', E, w, c⟩ => ?_
  refine lE1 E w fun as1 ρ1 H1 x v A g q => ?_
  cases x <;> first | exact q.elim | skip
  rw [g.int]
  exact ⟨_, rfl, (fin_of A c).val A.er (rep_int _) q⟩
theorem ve_cmp (O : Ok X F) (c : Cm) (ha : VE X F a wa) (hb : VE X F b wb) (hm : behindInMarks (cmP c) b = false) :
    VE X F (.Compare a [cmP c] [b] pos) fun ρ Q => wa ρ fun r1 ρ1 => wb ρ1 fun r2 ρ2 => wRd r1 ρ2 fun x => wRd r2 ρ2 fun y => cmp2 c x y fun z => Q (.val (.bl z)) ρ2 := by
  refine pe_mono (pe_cmpR (cm_ok O c) ha hb hm) fun σ H Q ⟨as, ρ, Q', E, w, c'⟩ => ?_
  exact lE2 E w fun as2 ρ2 H2 x y v u A gx gy q => cmp2_sound c gx gy q fun z hz => (fin_of A c').val A.er (rep_bl z) hz
theorem vt_cmp (O : Ok X F) (c : Cm) (ha : VE X F a wa) (hb : VE X F b wb) (hm : behindInMarks (cmP c) b = false) :
    VT X F (.Compare a [cmP c] [b] pos) fun ρ Q => wa ρ fun r1 ρ1 => wb ρ1 fun r2 ρ2 => wRd r1 ρ2 fun x => wRd r2 ρ2 fun y => cmp2 c x y fun z => Q z ρ2 := by
  refine pt_mono (pt_cmpR (cm_ok O c) ha hb hm) fun σ H Q ⟨as, ρ, Q', E, w, c'⟩ => ?_
  exact lE2 E w fun as2 ρ2 H2 x y v u A gx gy q => cmp2_sound c gx gy q fun z hz => ⟨z, rfl, c' as2 z ρ2 H2 A hz⟩
theorem br_if {c : Bool} {A B A' B' : Prop} (h : br c A B) (ha : A → A') (hb : B → B') : if c = true then A' else B' := by
  cases c with
  | true => exact iteT (ha (h.1 rfl))
  | false => exact iteF (hb (h.2 rfl))
theorem ve_ite {c : Expr} {wc : WT} (hc : VT X F c wc) (ha : VE X F a wa) (hb : VE X F b wb) : VE X F (.IfExp c a b pos) fun ρ Q => wc ρ fun z ρ1 => br z (wa ρ1 Q) (wb ρ1 Q) := by
  refine pe_mono (pe_ifExp hc ha hb) fun σ H Q ⟨as, ρ, Q', E, w, c'⟩ => ?_
  refine ⟨as, ρ, _, E, w, fun as1 z ρ1 H1 A q => br_if q (fun q => ?_) fun q => ?_⟩
  · exact ⟨as1, ρ1, _, A.er, q, fun as2 r ρ2 v H2 A2 P q => c' as2 r ρ2 v H2 (A.trans A2) (P.back A.ext) q⟩
  · exact ⟨as1, ρ1, _, A.er, q, fun as2 r ρ2 v H2 A2 P q => c' as2 r ρ2 v H2 (A.trans A2) (P.back A.ext) q⟩
theorem ve_and {rest : List Expr} (ha : VE X F a wa) (hb : VE X F (.BoolOp .And (b :: rest) pos) wb) :
    VE X F (.BoolOp .And (a :: b :: rest) pos) fun ρ Q => wa ρ fun r1 ρ1 => wRd r1 ρ1 fun x => match x with | .bl c => br c (wb ρ1 Q) (Q (.val (.bl false)) ρ1) | _ => False := by
  refine pe_mono (pe_and ha hb) fun σ H Q ⟨as, ρ, Q', E, w, c'⟩ => ?_
  refine lE1 E w fun as1 ρ1 H1 x v A g q => ?_
  cases x <;> first | exact q.elim | skip
  rw [g.bl]
  refine ⟨_, rfl, br_if q (fun q => ?_) fun q => (fin_of A c').val A.er (rep_bl _) q⟩
  exact ⟨as1, ρ1, _, A.er, q, fun as2 r ρ2 v H2 A2 P q => c' as2 r ρ2 v H2 (A.trans A2) (P.back A.ext) q⟩
theorem ve_or {rest : List Expr} (ha : VE X F a wa) (hb : VE X F (.BoolOp .Or (b :: rest) pos) wb) :
    VE X F (.BoolOp .Or (a :: b :: rest) pos) fun ρ Q => wa ρ fun r1 ρ1 => wRd r1 ρ1 fun x => match x with | .bl c => br c (Q (.val (.bl true)) ρ1) (wb ρ1 Q) | _ => False := by
  refine pe_mono (pe_or ha hb) fun σ H Q ⟨as, ρ, Q', E, w, c'⟩ => ?_
  refine lE1 E w fun as1 ρ1 H1 x v A g q => ?_
  cases x <;> first | exact q.elim | skip
  rw [g.bl]
  refine ⟨_, rfl, br_if q (fun q => (fin_of A c').val A.er (rep_bl _) q) fun q => ?_⟩
  exact ⟨as1, ρ1, _, A.er, q, fun as2 r ρ2 v H2 A2 P q => c' as2 r ρ2 v H2 (A.trans A2) (P.back A.ext) q⟩
theorem ve_not (ha : VE X F a wa) : VE X F (.UnaryOp .Not a pos) fun ρ Q => wa ρ fun r1 ρ1 => wRd r1 ρ1 fun x => match x with | .bl c => Q (.val (.bl (!c))) ρ1 | _ => False := by
  refine pe_mono (pe_not ha) fun σ H Q ⟨as, ρ, Q', E, w, c'⟩ => ?_
  refine lE1 E w fun as1 ρ1 H1 x v A g q => ?_
  cases x <;> first | exact q.elim | skip
  rw [g.bl]
  exact ⟨_, rfl, (fin_of A c').val A.er (rep_bl _) q⟩
variable {wc wd : WT}
theorem vw_and1 (ha : VT X F a wc) : PW X (.BoolOp .And [a] pos) (lT F wc) := pw_and1 ha
theorem vw_or1 (ha : VT X F a wc) : PW X (.BoolOp .Or [a] pos) (lT F wc) := pw_or1 ha
theorem pw_mono {t t' : TT} (h : PW X e t) (m : ∀ σ H Q, t' σ H Q → t σ H Q) : PW X e t' := ⟨fun wh pins s σ H Q I q => h.run wh pins s σ H Q I (m σ H Q q)⟩
theorem vw_and {rest : List Expr} (ha : VT X F a wc) (hb : PW X (.BoolOp .And (b :: rest) pos) (lT F wd)) : PW X (.BoolOp .And (a :: b :: rest) pos) (lT F fun ρ Q => wc ρ fun c ρ1 => br c (wd ρ1 Q) (Q false ρ1)) := by
  refine pw_mono (pw_and ha hb) fun σ H Q ⟨as, ρ, Q', E, w, c'⟩ => ?_
  refine ⟨as, ρ, _, E, w, fun as1 z ρ1 H1 A q => br_if q (fun q => ?_) fun q => c' as1 false ρ1 H1 A q⟩
  exact ⟨as1, ρ1, _, A.er, q, fun as2 r ρ2 H2 A2 q => c' as2 r ρ2 H2 (A.trans A2) q⟩
theorem vw_or {rest : List Expr} (ha : VT X F a wc) (hb : PW X (.BoolOp .Or (b :: rest) pos) (lT F wd)) : PW X (.BoolOp .Or (a :: b :: rest) pos) (lT F fun ρ Q => wc ρ fun c ρ1 => br c (Q true ρ1) (wd ρ1 Q)) := by
  refine pw_mono (pw_or ha hb) fun σ H Q ⟨as, ρ, Q', E, w, c'⟩ => ?_
  refine ⟨as, ρ, _, E, w, fun as1 z ρ1 H1 A q => br_if q (fun q => c' as1 true ρ1 H1 A q) fun q => ?_⟩
  exact ⟨as1, ρ1, _, A.er, q, fun as2 r ρ2 H2 A2 q => c' as2 r ρ2 H2 (A.trans A2) q⟩
theorem vt_not (ha : VT X F a wc) : VT X F (.UnaryOp .Not a pos) fun ρ Q => wc ρ fun c ρ1 => Q (!c) ρ1 := by
  refine pt_mono (pt_not ha) fun σ H Q ⟨as, ρ, Q', E, w, c'⟩ => ?_
  exact ⟨as, ρ, _, E, w, fun as1 z ρ1 H1 A q => c' as1 _ ρ1 H1 A q⟩
theorem tru_sound {x : D} {v : V} {k : Bool → Prop} (g : Got F as H x v) (q : tru x k) : ∃ c, TruV F.K v H c ∧ k c := by
  cases x with
  | non => rw [g.non]; exact ⟨false, rfl, q⟩
  | bl b => rw [g.bl]; exact ⟨b, rfl, q⟩
  | int b => rw [g.int]; exact ⟨_, rfl, q⟩
  | str b => rw [g.str]; exact ⟨_, ⟨sm_line q.1, rfl⟩, q.2⟩
  | tup ds =>
    obtain ⟨b, xs, rfl, h1, h2⟩ := g.tup
    refine ⟨_, .inr (.inl ⟨xs, h1, rfl⟩), ?_⟩
    have := h2.length
    cases ds <;> cases xs <;> simp_all [tru]
  | lst ds =>
    obtain ⟨b, xs, rfl, h1, h2⟩ := g.lst
    refine ⟨_, .inl ⟨xs, .inl (.inl h1), rfl⟩, ?_⟩
    have := h2.length
    cases ds <;> cases xs <;> simp_all [tru]
  | fix ds =>
    obtain ⟨b, xs, rfl, h1, h2⟩ := g.fix
    refine ⟨_, .inl ⟨xs, h1, rfl⟩, ?_⟩
    have := h2.length
    cases ds <;> cases xs <;> simp_all [tru]
theorem vt_truth (O : Ok X F) (ha : VE X F a wa) (he : ∀ whole, isTrue a X.env whole = (do let v ← whole; standAt a.pos; holding [v] (truthy v))) : VT X F a fun ρ Q => wa ρ fun r1 ρ1 => wRd r1 ρ1 fun x => tru x fun c => Q c ρ1 := by
  refine pt_mono (pt_truth ha he) fun σ H Q ⟨as, ρ, Q', E, w, c'⟩ => ?_
  refine lE1 E w fun as1 ρ1 H1 x v A g q => ?_
  obtain ⟨c, h1, h2⟩ := tru_sound g q
  exact ⟨c, O.K ▸ h1, c' as1 c ρ1 H1 A h2⟩
end
end VL

/-! VL6: arguments, displays, builtins, subscripts, methods of lists. -/
namespace VL
open PySem PySem.Spec L2
section
variable {X : Cx} {F : Fr} {as as' as1 as2 : As} {σ : L2.St} {H H' H1 H2 : Hp} {ρ ρ' ρ1 ρ2 : En} {e a b : Expr} {es : List Expr} {wa wb : WE} {wl : WA} {pos : Pos}

/-- a list of a slot, written no more -/
def cutAs (as : As) (i : Nat) : As := fun j => if j = i then none else as j
theorem cut_le (as : As) (i : Nat) : Le (cutAs as i) as := fun j b h => by
  unfold cutAs at h
  split at h
  · cases h
  · exact h
theorem cut_self (as : As) (i : Nat) : cutAs as i i = none := by unfold cutAs; rw [if_pos rfl]
theorem cut_ne (as : As) {i j : Nat} (h : j ≠ i) : cutAs as i j = as j := by unfold cutAs; rw [if_neg h]
theorem gt_set (ρ : En) {i : Nat} {s : Sl} (h : i < ρ.length) : gt (ρ.set i s) i = s := by unfold gt; rw [List.getElem?_set_self h]; rfl
theorem gt_ne (ρ : En) {i j : Nat} {s : Sl} (h : j ≠ i) : gt (ρ.set i s) j = gt ρ j := by unfold gt; rw [List.getElem?_set_ne (Ne.symm h)]
theorem gt_lt {ρ : En} {i : Nat} {s : Sl} (h : gt ρ i = s) (n : s ≠ .un) : i < ρ.length := by
  unfold gt at h
  by_cases q : i < ρ.length
  · exact q
  · rw [List.getElem?_eq_none (by omega)] at h
    exact absurd h.symm n
theorem SlAt.le {i : Nat} {x : Option (Option V)} {s : Sl} (l : Le as' as) (e : as' i = as i) (h : SlAt F H as i x s) : SlAt F H as' i x s := by
  cases s with
  | un => exact e.trans h
  | val d =>
    obtain ⟨h1, v, h2, h3⟩ := h
    exact ⟨e.trans h1, v, h2, Rep.wk (fun _ _ z => l.av z) h3⟩
  | own ds =>
    obtain ⟨b, xs, h1, h2, h3, h4, h5⟩ := h
    exact ⟨b, xs, e.trans h1, h2, h3, h4, Reps.wk (fun _ _ z => l.av z) h5⟩
  | par ds =>
    obtain ⟨b, xs, h1, h2, h3, h4, h5⟩ := h
    exact ⟨b, xs, e.trans h1, h2, h3, h4, Reps.wk (fun _ _ z => l.av z) h5⟩
/-- one slot told anew, its list (if any) no longer ours -/
theorem ER.cut (E : ER F as σ H ρ) {i : Nat} {s : Sl} (h : SlAt F H (cutAs as i) i σ[i]? s) : ER F (cutAs as i) σ H (ρ.set i s) := by
  refine ⟨by rw [List.length_set]; exact E.len, fun j k b hj hk => E.inj j k b (cut_le _ _ _ _ hj) (cut_le _ _ _ _ hk), fun j b hj => E.nex j b (cut_le _ _ _ _ hj), fun j => ?_, E.old, fun j b hj => E.own j b (cut_le _ _ _ _ hj), E.exo, E.mok, fun p hp => Rep.wk (fun _ _ z => (cut_le as i).av z) (E.kept p hp)⟩
  by_cases q : j = i
  · subst q
    by_cases l : j < ρ.length
    · show SlAt F H (cutAs as j) j σ[j]? (gt (ρ.set j s) j)
      rw [gt_set ρ l]; exact h
    · rw [List.set_eq_of_length_le (by omega), List.getElem?_eq_none (show ρ.length ≤ j by omega)]
      exact cut_self as j
  · show SlAt F H (cutAs as i) j σ[j]? (gt (ρ.set i s) j)
    rw [gt_ne ρ q]
    exact (E.sl j).le (cut_le as i) (cut_ne as q)
theorem ER.frz_ (E : ER F as σ H ρ) {i : Nat} {ds : List D} (h : gt ρ i = .own ds) : ∃ b, as i = some b ∧ ER F (cutAs as i) σ H (ρ.set i (.val (.lst ds))) ∧ Rep F.K H (F.av (cutAs as i)) (.lst ds) (.ref b) := by
  have q := E.sl i
  rw [show ρ[i]?.getD .un = _ from h] at q
  obtain ⟨b, xs, h1, h2, h3, h4, h5⟩ := q
  have r : Rep F.K H (F.av (cutAs as i)) (.lst ds) (.ref b) := by
    unfold Rep
    refine ⟨b, xs, rfl, h4, fun z => ?_, Reps.wk (fun _ _ z => (cut_le as i).av z) h5⟩
    rcases z with z | ⟨j, z⟩ | z
    · exact E.nex i b h1 z
    · have e := E.inj i j b h1 (cut_le _ _ _ _ z)
      subst e
      rw [cut_self] at z; cases z
    · obtain ⟨m1, m2⟩ := E.mok b z
      rcases h2 with h2 | h2
      · exact m1 h2
      · exact m2 h2
  exact ⟨b, h1, E.cut ⟨cut_self as i, _, h3, r⟩, r⟩

/-- a result that has waited -/
def Wt (F : Fr) (as : As) (H : Hp) (r : R) (v : V) : Prop := ∃ as0 H0, Le as as0 ∧ Ext (F.mu as0) H0 H ∧ RW F as0 H0 r v
theorem RP.wt {r : R} {v : V} (h : RP F as σ H H' ρ r v) : Wt F as H' r v := ⟨as, H', Le.refl _, Ext.refl _ _, h.wait⟩
theorem Wt.step {r : R} {v : V} (h : Wt F as1 H1 r v) (l : Le as2 as1) (e : Ext (F.mu as1) H1 H2) : Wt F as2 H2 r v := by
  obtain ⟨as0, H0, l0, e0, w⟩ := h
  exact ⟨as0, H0, l.trans l0, e0.trans (e.mono fun _ z => l0.mu z), w⟩
theorem Wt.got {r : R} {v : V} {d : D} (h : Wt F as H r v) (E : ER F as σ H ρ) (q : rd r ρ = some d) : Got F as H d v := by
  obtain ⟨as0, H0, l0, e0, w⟩ := h
  exact got_of E l0 w e0 q
theorem Wt.frz {r : R} {v : V} {k : D → En → Prop} (h : Wt F as H r v) (E : ER F as σ H ρ) (q : frz1 r ρ k) : ∃ d as2 ρ2, Le as2 as ∧ ER F as2 σ H ρ2 ∧ Rep F.K H (F.av as2) d v ∧ k d ρ2 := by
  cases r with
  | val d =>
    rcases h.got E (d := d) rfl with g | ⟨ds, b, xs, h1, h2, h3, h4, h5⟩
    · exact ⟨d, as, ρ, Le.refl _, E, g, q⟩
    · obtain ⟨as0, H0, l0, e0, w⟩ := h
      exact ⟨d, as, ρ, Le.refl _, E, Rep.wk (fun _ _ z => l0.av z) (Rep.ext (e0.mono fun _ => mu_av) w), q⟩
  | fresh ds =>
    obtain ⟨as0, H0, l0, e0, w⟩ := h
    exact ⟨.lst ds, as, ρ, Le.refl _, E, Rep.wk (fun _ _ z => l0.av z) (Rep.ext (e0.mono fun _ => mu_av) (show Rep F.K H0 (F.av as0) (.lst ds) v from w)), q⟩
  | slot i =>
    obtain ⟨as0, H0, l0, e0, b0, h1, rfl⟩ := h
    unfold frz1 at q
    cases z : gt ρ i with
    | un => simp only [z] at q
    | val d => simp only [z] at q
    | par d => simp only [z] at q
    | own ds =>
      simp only [z] at q
      obtain ⟨b, g1, g2, g3⟩ := E.frz_ z
      have := l0 i b g1
      rw [h1] at this; cases this
      exact ⟨_, _, _, cut_le as i, g2, g3, q⟩

def Wts (F : Fr) (as : As) (H : Hp) : List R → List V → Prop
  | [], vs => vs = []
  | r :: rs, vs => ∃ v vr, vs = v :: vr ∧ Wt F as H r v ∧ Wts F as H rs vr
theorem Wts.step (l : Le as2 as1) (e : Ext (F.mu as1) H1 H2) : ∀ {rs : List R} {vs : List V}, Wts F as1 H1 rs vs → Wts F as2 H2 rs vs
  | [], _, h => h
  | r :: rs, _, ⟨v, vr, e1, h1, h2⟩ => ⟨v, vr, e1, h1.step l e, Wts.step l e h2⟩
theorem wts_of : ∀ {rs : List R} {vs : List V}, RWs F as H rs vs → Wts F as H rs vs
  | [], _, h => h
  | r :: rs, _, ⟨v, vr, e1, h1, h2⟩ => ⟨v, vr, e1, h1, wts_of h2⟩
theorem of_wts : ∀ {rs : List R} {vs : List V}, Wts F as H rs vs → RWs F as H rs vs
  | [], _, h => h
  | r :: rs, _, ⟨v, vr, e1, h1, h2⟩ => ⟨v, vr, e1, h1, of_wts h2⟩
theorem Wts.frz : ∀ {rs : List R} {vs : List V} {as : As} {ρ : En} {k : List D → En → Prop}, Wts F as H rs vs → ER F as σ H ρ → frz rs ρ k → ∃ ds as2 ρ2, Le as2 as ∧ ER F as2 σ H ρ2 ∧ Reps F.K H (F.av as2) ds vs ∧ k ds ρ2
  | [], _, as, ρ, k, h, E, q => ⟨[], as, ρ, Le.refl _, E, h, q⟩
  | r :: rs, _, as, ρ, k, ⟨v, vr, e1, h1, h2⟩, E, q => by
    subst e1
    obtain ⟨d, as2, ρ2, l, E2, g, q⟩ := h1.frz E q
    obtain ⟨ds, as3, ρ3, l3, E3, g3, q⟩ := Wts.frz (Wts.step l (Ext.refl _ _) h2) E2 q
    exact ⟨d :: ds, as3, ρ3, l3.trans l, E3, Reps.cons (Rep.wk (fun _ _ z => l3.av z) g) g3, q⟩
/-- all read -/
def Gots (F : Fr) (as : As) (H : Hp) : List D → List V → Prop
  | [], vs => vs = []
  | d :: ds, vs => ∃ v vr, vs = v :: vr ∧ Got F as H d v ∧ Gots F as H ds vr
theorem Wts.rds (E : ER F as σ H ρ) : ∀ {rs : List R} {vs : List V} {k : List D → Prop}, Wts F as H rs vs → rds rs ρ k → ∃ ds, Gots F as H ds vs ∧ k ds
  | [], _, k, h, q => ⟨[], h, q⟩
  | r :: rs, _, k, ⟨v, vr, e1, h1, h2⟩, q => by
    obtain ⟨d, e2, q⟩ := wRd_some q
    obtain ⟨ds, g, q⟩ := Wts.rds E h2 q
    exact ⟨d :: ds, ⟨v, vr, e1, h1.got E e2, g⟩, q⟩
theorem Gots.one {d : D} {vs : List V} (h : Gots F as H [d] vs) : ∃ v, vs = [v] ∧ Got F as H d v := by
  obtain ⟨v, vr, rfl, h1, rfl⟩ := h
  exact ⟨v, rfl, h1⟩
theorem Gots.two {d d' : D} {vs : List V} (h : Gots F as H [d, d'] vs) : ∃ v v', vs = [v, v'] ∧ Got F as H d v ∧ Got F as H d' v' := by
  obtain ⟨v, vr, rfl, h1, v', vr', rfl, h2, rfl⟩ := h
  exact ⟨v, v', rfl, h1, h2⟩

/-! ### arguments -/
theorem va_nil : VA X F [] fun ρ Q => Q [] ρ :=
  pa_mono pa_nil fun σ H Q ⟨as, ρ, Q', E, w, c⟩ => c as [] ρ [] H (Aft.refl E) rfl w
theorem va_cons (he : VE X F e wa) (hr : VA X F es wl) (hs : starEach (e :: es) X.env = (false, eval e X.env) :: starEach es X.env) : VA X F (e :: es) fun ρ Q => wa ρ fun r ρ1 => wl ρ1 fun rs ρ2 => Q (r :: rs) ρ2 := by
  refine pa_mono (pa_cons he hr hs) fun σ H Q ⟨as, ρ, Q', E, w, c⟩ => ?_
  refine ⟨as, ρ, _, E, w, fun as1 r ρ1 v H1 A1 P1 q1 => ⟨as1, ρ1, _, A1.er, q1, fun as2 rs ρ2 vs H2 A2 P2 q2 => ?_⟩⟩
  exact c as2 (r :: rs) ρ2 (v :: vs) H2 (A1.trans A2) ⟨v, vs, rfl, ⟨as1, H1, A2.le, A2.ext, P1.wait⟩, P2⟩ q2
theorem Aft.frz {ρ3 : En} {as3 : As} (A : Aft F as as1 σ H H1 ρ1) (l : Le as3 as1) (E : ER F as3 σ H1 ρ3) : Aft F as as3 σ H H1 ρ3 := ⟨l.trans A.le, E, A.ext⟩

theorem ve_tup {k1 : Nat} (h : VA X F es wl) {n : Nat} (hl : n ≤ 1000) : VE X F (.Tuple es k1 pos) fun ρ Q => wl ρ fun rs ρ1 => rs.length = n ∧ frz rs ρ1 fun ds ρ2 => Q (.val (.tup ds)) ρ2 := by
  refine pe_mono (pe_tup h) fun σ H Q ⟨as, ρ, Q', E, w, c⟩ => ?_
  refine ⟨as, ρ, _, E, w, fun as1 rs ρ1 vs H1 A W ⟨hq, q⟩ => ?_⟩
  obtain ⟨ds, as2, ρ2, l, E2, g, q⟩ := Wts.frz (wts_of W) A.er q
  have hv : vs.length = rs.length := by
    have : ∀ {rs : List R} {vs : List V}, RWs F as1 H1 rs vs → vs.length = rs.length := by
      intro rs
      induction rs with
      | nil => intro vs h; cases h; rfl
      | cons r rs ih => intro vs ⟨v, vr, e, _, h⟩; subst e; rw [List.length_cons, List.length_cons, ih h]
    exact this W
  refine ⟨by rw [hv, hq, sizeLine_eq]; omega, fun p n => ?_⟩
  exact (fin_of (A.frz l E2) c).tup E2 n g q
theorem ve_lst (h : VA X F es wl) {n : Nat} (hl : n ≤ 1000) : VE X F (.List es pos) fun ρ Q => wl ρ fun rs ρ1 => rs.length = n ∧ frz rs ρ1 fun ds ρ2 => Q (.fresh ds) ρ2 := by
  refine pe_mono (pe_lst h) fun σ H Q ⟨as, ρ, Q', E, w, c⟩ => ?_
  refine ⟨as, ρ, _, E, w, fun as1 rs ρ1 vs H1 A W ⟨hq, q⟩ => ?_⟩
  obtain ⟨ds, as2, ρ2, l, E2, g, q⟩ := Wts.frz (wts_of W) A.er q
  have hv : vs.length = rs.length := by
    have : ∀ {rs : List R} {vs : List V}, RWs F as1 H1 rs vs → vs.length = rs.length := by
      intro rs
      induction rs with
      | nil => intro vs h; cases h; rfl
      | cons r rs ih => intro vs ⟨v, vr, e, _, h⟩; subst e; rw [List.length_cons, List.length_cons, ih h]
    exact this W
  refine ⟨by rw [hv, hq, sizeLine_eq]; omega, fun p n => ?_⟩
  exact (fin_of (A.frz l E2) c).fresh E2 n g q

/-! ### subscripts and slices -/
theorem ixN_lt {n : Nat} {i : Int} {j : Nat} (h : ixN n i = some j) : j < n := (ixN_seq h).2.1
theorem Reps.at {K : PySem.W.Frag} {av : Addr → Prop} {ds : List D} {xs : List V} {i : Int} {d : D} (r : Reps K H av ds xs) (h : atI ds i = some d) : ∃ v, atI xs i = some v ∧ Rep K H av d v := by
  unfold atI at h ⊢
  rw [r.length]
  cases q : ixN ds.length i with
  | none => rw [q] at h; cases h
  | some j => rw [q] at h; exact r.get h
theorem ve_ix (O : Ok X F) (ha : VE X F a wa) (hb : VE X F b wb) (hs : PlainIx b) :
    VE X F (.Subscript a b pos) fun ρ Q => wa ρ fun r1 ρ1 => wb ρ1 fun r2 ρ2 => wRd r1 ρ2 fun x => wRd r2 ρ2 fun y => ixD x y fun d => Q (.val d) ρ2 := by
  have hr : IxR X (rIx F.K) := O.K ▸ ix_seq
  refine pe_mono (pe_ix hr ha hb hs) fun σ H Q ⟨as, ρ, Q', E, w, c⟩ => ?_
  refine lE2 E w fun as2 ρ2 H2 x y v u A gx gy q => ?_
  unfold ixD at q
  split at q
  · obtain ⟨d, q1, q2⟩ := q
    obtain ⟨p, xs, rfl, h1, h2⟩ := gx.tup
    obtain ⟨z, h3, h4⟩ := h2.at q1
    rw [gy.int]
    exact .inr (.inl ⟨p, xs, _, z, rfl, rfl, h1, h3, (fin_of A c).val A.er h4 q2⟩)
  · obtain ⟨d, q1, q2⟩ := q
    obtain ⟨p, xs, rfl, h1, h2⟩ := gx.lst
    obtain ⟨z, h3, h4⟩ := h2.at q1
    rw [gy.int]
    exact .inl ⟨p, xs, _, z, rfl, rfl, .inl (.inl h1), h3, (fin_of A c).val A.er h4 q2⟩
  · obtain ⟨d, q1, q2⟩ := q
    obtain ⟨p, xs, rfl, h1, h2⟩ := gx.fix
    obtain ⟨z, h3, h4⟩ := h2.at q1
    rw [gy.int]
    exact .inl ⟨p, xs, _, z, rfl, rfl, h1, h3, (fin_of A c).val A.er h4 q2⟩
  · exact q.elim
/-- a part of a slice -/
def lP (F : Fr) (w : En → (Option Int → En → Prop) → Prop) : TO := fun σ H Q => ∃ as ρ Q', ER F as σ H ρ ∧ w ρ Q' ∧ ∀ as' o ρ' H', Aft F as as' σ H H' ρ' → Q' o ρ' → Q o H'
theorem po_mono {o : Option Expr} {t t' : TO} (h : PO X o t) (m : ∀ σ H Q, t' σ H Q → t σ H Q) : PO X o t' := ⟨fun pins s σ H Q I q => h.run pins s σ H Q I (m σ H Q q)⟩
theorem vp_no : PO X none (lP F fun ρ Q => Q none ρ) := po_mono po_none fun σ H Q ⟨as, ρ, Q', E, w, c⟩ => c as none ρ H (Aft.refl E) w
theorem vp_yes (he : VE X F e wa) : PO X (some e) (lP F fun ρ Q => wa ρ fun r ρ1 => match r with | .val (.int i) => Q (some i) ρ1 | _ => False) := by
  refine po_mono (po_some he) fun σ H Q ⟨as, ρ, Q', E, w, c⟩ => ?_
  refine ⟨as, ρ, _, E, w, fun as1 r ρ1 v H1 A P q => ?_⟩
  split at q
  · rename_i i
    have g : v = .int i := by have : Rep F.K H1 (F.av as1) (.int i) v := P; unfold Rep at this; exact this
    exact ⟨i, g, c as1 _ ρ1 H1 A q⟩
  · exact q.elim
theorem Reps.cut {K : PySem.W.Frag} {av : Addr → Prop} {ds : List D} {xs : List V} (r : Reps K H av ds xs) (lo hi : Option Int) : Reps K H av (cutD ds lo hi) (cutV xs lo hi) := by
  unfold cutD cutV
  rw [r.length]
  exact Reps.take _ (Reps.drop _ r)
theorem ve_sl (O : Ok X F) {lo hi : Option Expr} {wl wh : En → (Option Int → En → Prop) → Prop} {p2 : Pos} (ha : VE X F a wa) (hl : PO X lo (lP F wl)) (hh : PO X hi (lP F wh)) :
    VE X F (.Subscript a (.Slice lo hi none p2) pos) fun ρ Q => wa ρ fun r1 ρ1 => wl ρ1 fun l ρ2 => wh ρ2 fun h ρ3 => wRd r1 ρ3 fun x => slD x l h fun r => Q r ρ3 := by
  have hr : SlR X (fun x l u H Q => rSlL F.K x l u H Q ∨ (rSlA F.K x l u H Q ∨ rSlS x l u H Q)) := by rw [← O.K]; exact sl_list.or (sl_tupA.or sl_str)
  refine pe_mono (pe_slice hr ha hl hh) fun σ H Q ⟨as, ρ, Q', E, w, c⟩ => ?_
  refine ⟨as, ρ, _, E, w, fun as1 r1 ρ1 v H1 A1 P1 q1 => ?_⟩
  refine ⟨as1, ρ1, _, A1.er, q1, fun as2 l ρ2 H2 A2 q2 => ?_⟩
  refine ⟨as2, ρ2, _, A2.er, q2, fun as3 h ρ3 H3 A3 q3 => ?_⟩
  obtain ⟨x, e1, q4⟩ := wRd_some q3
  have g := ((P1.wt.step A2.le A2.ext).step A3.le A3.ext).got A3.er e1
  have A := (A1.trans A2).trans A3
  unfold slD at q4
  cases x <;> first | exact q4.elim | skip
  · rw [g.str]
    exact .inr (.inr ⟨_, rfl, sm_line q4.1, (fin_of A c).val A3.er (rep_str _) q4.2⟩)
  · obtain ⟨p, xs, rfl, h1, h2⟩ := g.tup
    refine .inr (.inl ⟨p, xs, rfl, h1, fun whole => ?_, fun _ q n => (fin_of A c).tup A3.er n (h2.cut l h) q4⟩)
    refine (fin_of A c).val A3.er (d := .tup _) (rep_tup h1 ?_) q4
    have e2 := h2.cut l h
    have e3 : cutV xs l h = xs := by
      unfold cutV
      rw [whole.1, whole.2, List.drop_zero, Nat.sub_zero, List.take_length]
    rw [e3] at e2
    exact e2
  · obtain ⟨p, xs, rfl, h1, h2⟩ := g.lst
    exact .inl ⟨p, xs, rfl, .inl (.inl h1), fun q n => (fin_of A c).fresh A3.er n (h2.cut l h) q4⟩
  · obtain ⟨p, xs, rfl, h1, h2⟩ := g.fix
    exact .inl ⟨p, xs, rfl, h1, fun q n => (fin_of A c).fresh A3.er n (h2.cut l h) q4⟩
end
end VL

/-! VL6s: sorted(a list of pairs with unlike whole numbers ahead). -/
namespace VL
open PySem PySem.Spec L2 Srt SrtO
open PyProof.Rows (seqObj tuples' keyLt' keyKind' SortKind lt_int oneLt_int)
section
variable {prog : Program} {w : World} {A : Around} {s : Shared} {E : Value → Shared → Prop}
def IsF (h : Heap) (v : Value) (x : Int) (y : Value) : Prop := ∃ a o t n, v = .ref a ∧ h.get? a = some o ∧ o.cls = .type "tuple" ∧ o.data = .seq #[.int x t, y] n
theorem IsF.keeps {h h' : Heap} {v : Value} {x : Int} {y : Value} (p : IsF h v x y) (k : ∀ b o, h.get? b = some o → o.cls = .type "tuple" → h'.get? b = some o) : IsF h' v x y := by
  obtain ⟨a, o, t, n, e, ho, hc, hd⟩ := p
  exact ⟨a, o, t, n, e, k a o ho hc, hc, hd⟩
theorem swo_f (k : Value → Int) : Swo fun v u => decide (k v < k u) := by
  refine ⟨fun x y h => ?_, fun x y z h1 h2 => ?_⟩
  · have h := of_decide_eq_true h
    exact decide_eq_false (by omega)
  · have h1 := of_decide_eq_false h1
    have h2 := of_decide_eq_false h2
    exact decide_eq_false (by omega)
theorem f_cmp {vs : List Value} {k : Value → Int} {g : Value → Value} (hp : ∀ v ∈ vs, IsF s.heap v (k v) (g v)) (hd : ∀ v ∈ vs, ∀ u ∈ vs, k v = k u → v = u) : Cmp prog w A s (tuples' true) (fun p => p.1 ∈ vs) (lt2 fun v u => decide (k v < k u)) := by
  intro p q hm hm'
  have h1 := hp _ hm
  have h2 := hp _ hm'
  have h3 := hd _ hm _ hm'
  show wpAny (model prog w) A (keyLt' (tuples' true) p.1 q.1) (fun r s' => s' = s ∧ r = decide (k p.1 < k q.1)) (fun _ _ => False) s
  have h4 : k p.1 = k q.1 → g p.1 = g q.1 := fun z => by rw [h3 z]
  clear h3
  generalize k p.1 = x at h1 h4 ⊢
  generalize g p.1 = y at h1 h4 ⊢
  generalize k q.1 = x' at h2 h4 ⊢
  generalize g q.1 = y' at h2 h4 ⊢
  obtain ⟨a, o, t, n, e, ho, hc, hd⟩ := h1
  obtain ⟨a', o', t', n', e', ho', hc', hd'⟩ := h2
  rw [e, e']
  refine PySem.W.kat_lt ho hd ho' hd' ?_
  show PySem.W.KatLex prog w A true (decide (2 < 2)) _ [(.int x t, .int x' t'), (y, y')] 0 s
  refine PySem.W.kat_cons (SeqAt.EqAt.int_int x t x' t' prog w _ _ ?_)
  refine PySem.W.kat_go (fun e1 => ?_) (fun e1 => ?_)
  · have ex : x = x' := by simpa using e1
    have ey := h4 ex
    subst ey
    refine PySem.W.kat_yes (PySem.W.kat_cons (SeqAt.EqAt.same y prog w _ _ ?_))
    refine PySem.W.kat_go (fun e2 => ?_) (fun e2 => by cases e2)
    exact PySem.W.kat_yes (PySem.W.kat_nil ⟨rfl, (decide_eq_false (by omega)).symm⟩)
  · exact PySem.W.kat_no (oneLt_int ⟨rfl, rfl⟩)
theorem firsts_f {h : Heap} : ∀ {vs : List Value}, (∀ v ∈ vs, ∃ x y, IsF h v x y) → ∃ fs : List Value, PySem.W.KatTups h vs fs ∧ fs.length = vs.length ∧ ∀ f ∈ fs, ∃ x t, f = Value.int x t
  | [], _ => ⟨[], PySem.W.KatTups.nil, rfl, fun _ hm => by simp at hm⟩
  | v :: vs, hp => by
    obtain ⟨fs, h1, h2, h3⟩ := firsts_f (vs := vs) fun v' hm => hp v' (List.mem_cons_of_mem _ hm)
    obtain ⟨x, y, a, o, t, n, e, ho, hc, hd⟩ := hp v (List.mem_cons_self ..)
    subst e
    refine ⟨.int x t :: fs, PySem.W.KatTups.cons ho hc hd rfl h1, by rw [List.length_cons, List.length_cons, h2], fun f hm => ?_⟩
    rcases List.mem_cons.mp hm with rfl | hm
    · exact ⟨x, t, rfl⟩
    · exact h3 f hm
theorem f_sortable {a : Addr} {vs : List Value} {k : Value → Int} {g : Value → Value} (h0 : 0 < vs.length) (hp : ∀ v ∈ vs, IsF s.heap v (k v) (g v)) (hd : ∀ v ∈ vs, ∀ u ∈ vs, k v = k u → v = u) (ha : ∀ o, s.heap.get? a = some o → o.cls ≠ .type "tuple") : SortableO prog w A s a vs fun v u => decide (k v < k u) := by
  intro h' keep
  have hp' : ∀ v ∈ vs, IsF h' v (k v) (g v) := fun v hm => (hp v hm).keeps fun b o e c => keep b o (fun z => by subst z; exact ha o e c) e
  obtain ⟨fs, h1, h2, h3⟩ := firsts_f fun v hm => ⟨_, _, hp' v hm⟩
  refine ⟨tuples' true, fun Q E hq => ?_, f_cmp hp' hd⟩
  refine PySem.W.kat_kind (T := .type "int") h1 (by omega) (fun f hm => ?_) (by rfl) ?_
  · obtain ⟨x, t, rfl⟩ := h3 f hm
    exact PySem.W.Looks.now
  · have e : (Value.type "int" != Value.type "tuple") = true := by first | decide +kernel | rfl | decide
    rw [e]
    exact hq
theorem sorted_f {l : Addr} {vs : List Value} {k : Value → Int} {g : Value → Value} {Q : Value → Shared → Prop} (hl : s.heap.IsList l vs.toArray) (hz : vs.length ≤ sizeLine) (hp : ∀ v ∈ vs, IsF s.heap v (k v) (g v)) (hd : ∀ v ∈ vs, ∀ u ∈ vs, k v = k u → v = u)
    (h : ∀ (h' : Heap) (d : Addr) (out : List Value), Srtd (fun v u => decide (k v < k u)) out → Stb (fun v u => decide (k v < k u)) out vs → (∀ b o, s.heap.get? b = some o → h'.get? b = some o) → s.heap.objs.size ≤ d → (∃ n, h'.get? d = some (seqObj "list" out.toArray n)) → Q (.ref d) { s with heap := h' }) :
    wpAny (model prog w) A (call (.builtin "sorted") [.ref l]) Q E s := by
  refine sorted_ord (swo_f k) hl hz (fun h2 h₁ a ha kk => ?_) fun out hs hb => ?_
  · refine f_sortable (s := { s with heap := h₁ }) (by omega) (fun v hm => (hp v hm).keeps fun b o e _ => (kk b o e).2) hd fun o e => ?_
    have e' : some o = some (seqObj "list" vs.toArray 0) := e.symm.trans ha
    cases e'
    intro c
    exact absurd (Value.type.inj c) (by decide)
  · exact h _ _ out hs hb (fun b o e => PyProof.Rows.sortedAll_old e) (Nat.le_succ _) (PyProof.Rows.sortedAll_at s.heap vs out.toArray)
end
/-- sorted(pairs): the first ones are unlike whole numbers -/
def rSortedF (K : PySem.W.Frag) : List V → Hp → VK → Prop := fun vs H Q => ∃ (a : Addr) (L : List (V × Int × D)), vs = [V.ref a] ∧ SqL K H a (L.map (·.1)) ∧ (∀ e ∈ L, ∃ t y, e.1 = V.ref t ∧ SqT K H t [.int e.2.1, y]) ∧ (L.Pairwise fun e e' => e.2.1 ≠ e'.2.1) ∧
  ∀ (L' : List (V × Int × D)) p, L'.Perm L → L'.Pairwise (fun e e' => e.2.1 ≤ e'.2.1) → H p = none → Q (.ref p) (upd H p (.lst (L'.map (·.1))))
theorem pair_eq {L : List (V × Int × D)} (h : L.Pairwise fun e e' => e.2.1 ≠ e'.2.1) : ∀ e ∈ L, ∀ e' ∈ L, e.2.1 = e'.2.1 → e = e' := by
  induction L with
  | nil => intro e he; cases he
  | cons x L ih =>
    obtain ⟨h1, h2⟩ := List.pairwise_cons.mp h
    intro e he e' he' z
    rcases List.mem_cons.mp he with w | w <;> rcases List.mem_cons.mp he' with w' | w'
    · rw [w, w']
    · subst w; exact absurd z (h1 e' w')
    · subst w'; exact absurd z.symm (h1 e w)
    · exact ih h2 e w e' w' z
section
variable {X : Cx}
open Classical in
theorem cr_sortedF : CallR X (.builtin "sorted") (rSortedF X.K) := by
  intro pins s σ H vs us Q I r h
  obtain ⟨a, L, rfl, hs, hx, hdist, q⟩ := h
  obtain ⟨its, rv, hl, hz⟩ := I.list hs
  obtain ⟨u, rfl, ru⟩ := vals1 r
  obtain rfl : u = Value.ref a := ru
  obtain ⟨e1, e2⟩ := refs_back rv fun x m => by
    obtain ⟨e, he, rfl⟩ := List.mem_map.mp m
    obtain ⟨t, y, e, _⟩ := hx e he
    exact ⟨t, e⟩
  have isf : ∀ e ∈ L, ∃ t y, e.1 = V.ref t ∧ IsF s.heap (.ref t) e.2.1 y := fun e he => by
    obtain ⟨t, y, e0, ht⟩ := hx e he
    obtain ⟨its2, r2, ⟨o, ho, hc, n, hd⟩, _⟩ := I.tuple ht
    obtain ⟨u1, u2, rfl, ri, rj⟩ := vals2 r2
    obtain ⟨t1, rfl⟩ := ri
    exact ⟨t, u2, e0, t, o, t1, n, rfl, ho, hc, hd⟩
  have uniq : ∀ {v x y x' y'}, IsF s.heap v x y → IsF s.heap v x' y' → x = x' ∧ y = y' := fun {v x y x' y'} h h' => by
    obtain ⟨a, o, t, n, e, ho, hc, hd⟩ := h
    obtain ⟨a', o', t', n', e', ho', hc', hd'⟩ := h'
    rw [e] at e'; cases e'
    rw [ho] at ho'; cases ho'
    rw [hd] at hd'
    have := Data.seq.inj hd'
    have h2 := congrArg Array.toList this.1
    simp at h2
    exact ⟨h2.1.1, h2.2⟩
  have inj : ∀ e ∈ L, ∀ e' ∈ L, e.1 = e'.1 → e = e' := fun e he e' he' z => by
    obtain ⟨t, y, h1, h2⟩ := isf e he
    obtain ⟨t', y', h1', h2'⟩ := isf e' he'
    rw [h1, h1'] at z
    cases z
    exact pair_eq hdist e he e' he' (uniq h2 h2').1
  let f : V → V × Int × D := fun v => if h : ∃ e, e ∈ L ∧ e.1 = v then h.choose else (v, 0, .non)
  have ff : ∀ e ∈ L, f e.1 = e := fun e he => by
    have h : ∃ e', e' ∈ L ∧ e'.1 = e.1 := ⟨e, he, rfl⟩
    show (if h : ∃ e', e' ∈ L ∧ e'.1 = e.1 then h.choose else (e.1, 0, .non)) = e
    rw [dif_pos h]
    exact inj _ h.choose_spec.1 e he h.choose_spec.2
  have back : ∀ v ∈ its, ∃ t, v = .ref t ∧ ∃ e ∈ L, e.1 = V.ref t := fun v hv => by
    obtain ⟨t, rfl⟩ := e2 v hv
    have : V.ref t ∈ L.map (·.1) := by rw [e1]; exact List.mem_map.mpr ⟨_, hv, rfl⟩
    obtain ⟨e, he, h⟩ := List.mem_map.mp this
    exact ⟨t, rfl, e, he, h⟩
  have hp0 : ∀ v ∈ its, ∃ y, IsF s.heap v (f (backV v)).2.1 y := fun v hv => by
    obtain ⟨t, rfl, e, he, h⟩ := back v hv
    obtain ⟨t', y, h1, h2⟩ := isf e he
    rw [h] at h1
    cases h1
    refine ⟨y, ?_⟩
    show IsF s.heap (.ref t) (f (V.ref t)).2.1 y
    rw [← h, ff e he]; exact h2
  have hp : ∃ g : Value → Value, ∀ v ∈ its, IsF s.heap v (f (backV v)).2.1 (g v) := by
    refine ⟨fun v => if h : ∃ y, IsF s.heap v (f (backV v)).2.1 y then h.choose else .none, fun v hv => ?_⟩
    have h := hp0 v hv
    show IsF _ _ _ (if h : ∃ y, IsF s.heap v (f (backV v)).2.1 y then h.choose else .none)
    rw [dif_pos h]
    exact h.choose_spec
  obtain ⟨g, hp⟩ := hp
  have same : L = (L.map (·.1)).map f := by
    rw [List.map_map]
    refine (List.map_id L).symm.trans (List.map_congr_left fun e he => ?_)
    exact (ff e he).symm
  refine sorted_f (k := fun u => (f (backV u)).2.1) (g := g) hl.isList (by rw [← rv.length]; exact hz) hp (fun v hv u hu z => ?_) fun h' d out h1 h2 kp hd hn => ?_
  · obtain ⟨t, rfl, e, he, h⟩ := back v hv
    obtain ⟨t', rfl, e', he', h'⟩ := back u hu
    have z : (f (V.ref t)).2.1 = (f (V.ref t')).2.1 := z
    rw [← h, ← h', ff e he, ff e' he'] at z
    have := pair_eq hdist e he e' he' z
    subst this
    rw [h] at h'
    cases h'
    rfl
  · have h3 : ∀ u ∈ out, ∃ a, u = Value.ref a := fun u hu => e2 u (h2.perm.mem_iff.mp hu)
    obtain ⟨n, hn⟩ := hn
    have hb : (out.map backV).Perm (L.map (·.1)) := by
      rw [e1]
      exact h2.perm.map backV
    have hb2 : ((out.map backV).map f).Perm L := by
      have := hb.map f
      rwa [← same] at this
    have hf : ((out.map backV).map f).map (·.1) = out.map backV := by
      rw [List.map_map]
      refine (List.map_congr_left fun v hv => ?_).trans (List.map_id _)
      obtain ⟨e, he, h⟩ := List.mem_map.mp (hb.mem_iff.mp hv)
      show (f v).1 = v
      rw [← h, ff e he]
    have fin := q ((out.map backV).map f) d hb2 (by
      rw [List.pairwise_map, List.pairwise_map]
      refine List.Pairwise.imp (fun {x y} h => ?_) h1
      have h := of_decide_eq_false h
      show (f (backV x)).2.1 ≤ (f (backV y)).2.1
      omega) (I.hok.fresh hd)
    rw [hf] at fin
    refine ⟨.ref d, upd H d (.lst (out.map backV)), I.laid (t' := s.toks) kp hd ⟨?_, out, n, vals_back h3, hn⟩, rfl, fin⟩
    rw [hb.length_eq]
    exact hz
end
end VL

/-! VL6t: t[a::n] of a tuple. -/
namespace HT
open PySem PySem.Spec PyProof.Rows
open PySem.Builtin (Slice.sliceAdjust)
section
variable {prog : Program} {w : World} {A : Around} {s : Shared} {E : Value → Shared → Prop}
theorem adjust_nth (k n : Int) (len : Nat) (hk : 0 ≤ k) (hn : 1 < n) : Builtin.Slice.sliceAdjust (some k) none n (len : Int) = (((min k.toNat len : Nat) : Int), (len : Int)) := by
  have h1 : ¬ (n < 0) := by omega
  have h2 : ¬ (k < 0) := by omega
  unfold Builtin.Slice.sliceAdjust
  simp only [h1, h2, if_false]
  refine Prod.ext ?_ rfl
  show min k (len : Int) = _
  omega
theorem sliceApplied_nth {sl : Addr} {vl vu vs : Value} {k n : Int} {len : Nat} {Q : Int × Int × Nat → Shared → Prop} (hs : s.heap.IsSliceOf sl vl vu vs) (pl : IsPart vl (some k)) (pu : IsPart vu none) (ps : IsPart vs (some n)) (hk : 0 ≤ k) (hn : 1 < n)
    (h : Q (((min k.toNat len : Nat) : Int), n, Builtin.Slice.slicePlaces ((min k.toNat len : Nat) : Int) (len : Int) n) s) : wpAny (model prog w) A (Builtin.Slice.sliceApplied (.ref sl) (pure (len : Int))) Q E s := by
  obtain ⟨os, hos, hcs, hds⟩ := id hs
  unfold Builtin.Slice.sliceApplied Builtin.Slice.sliceFields
  refine wpAny_bind (wpAny_bind (wpAny_field hos hds (x := vl) rfl (wpAny_bind (wpAny_field hos hds (x := vu) rfl (wpAny_bind (wpAny_field hos hds (x := vs) rfl (wpAny_pure ?_)))))))
  refine wpAny_bind (slicePart_ ps ?_)
  show wpAny _ _ (if (n == 0) = true then _ else _) _ _ s
  rw [if_neg (by rw [beq_iff_eq]; omega)]
  refine wpAny_bind (slicePart_ pl (wpAny_bind (slicePart_ pu (wpAny_bind (wpAny_pure ?_)))))
  show wpAny _ _ (match Builtin.Slice.sliceAdjust (some k) none n (len : Int) with | (lo, hi) => pure (lo, n, Builtin.Slice.slicePlaces lo hi n)) _ _ s
  rw [adjust_nth k n len hk hn]
  exact wpAny_pure h
theorem places_nth (lo len n : Int) (hn : 1 < n) : len ≤ lo + (Builtin.Slice.slicePlaces lo len n : Nat) * n := by
  unfold Builtin.Slice.slicePlaces
  rw [if_pos (by omega)]
  by_cases h : lo < len
  · rw [if_pos h]
    have h1 := Int.emod_add_mul_ediv (len - lo - 1) n
    have h2 := Int.emod_lt_of_pos (len - lo - 1) (show 0 < n by omega)
    have h3 : 0 ≤ (len - lo - 1) / n := Int.ediv_nonneg (by omega) (by omega)
    rw [Int.toNat_of_nonneg (by omega), Int.add_mul, Int.mul_comm ((len - lo - 1) / n) n]
    omega
  · rw [if_neg h]
    show len ≤ lo + ((0 : Nat) : Int) * n
    omega
/-- the items picked -/
theorem pick_nth {α : Type} (n : Nat) (hn : 0 < n) : ∀ (xs : List α) (k c : Nat), xs.length ≤ k + c * n → (List.range c).filterMap (fun m => xs[k + m * n]?) = VL.nthL n k xs
  | [], k, c, h => by
    have : VL.nthL n k ([] : List α) = [] := by cases k <;> rfl
    rw [this]
    apply List.filterMap_eq_nil_iff.mpr
    intro a _; simp
  | x :: xs, k + 1, c, h => by
    show _ = VL.nthL n k xs
    rw [← pick_nth n hn xs k c (by rw [List.length_cons] at h; omega)]
    have e : (fun m => (x :: xs)[k + 1 + m * n]?) = fun m => xs[k + m * n]? := by
      funext m
      rw [show k + 1 + m * n = (k + m * n) + 1 by omega, List.getElem?_cons_succ]
    rw [e]
  | x :: xs, 0, 0, h => by rw [List.length_cons] at h; omega
  | x :: xs, 0, c + 1, h => by
    show _ = x :: VL.nthL n (n - 1) xs
    rw [← pick_nth n hn xs (n - 1) c (by rw [List.length_cons, Nat.add_mul] at h; omega), List.range_succ_eq_map, List.filterMap_cons, List.filterMap_map]
    have e : ((fun m => (x :: xs)[0 + m * n]?) ∘ Nat.succ) = fun m => xs[n - 1 + m * n]? := by
      funext m
      show (x :: xs)[0 + (m + 1) * n]? = _
      rw [show 0 + (m + 1) * n = (n - 1 + m * n) + 1 by rw [Nat.add_mul]; omega, List.getElem?_cons_succ]
    rw [e]
    have : (x :: xs)[0 + 0 * n]? = some x := by rw [Nat.zero_mul]; rfl
    rw [this]
theorem nth_len {α : Type} (n : Nat) : ∀ (xs : List α) (k : Nat), (VL.nthL n k xs).length ≤ xs.length
  | [], k => by cases k <;> exact Nat.le_refl _
  | x :: xs, 0 => by show (VL.nthL n (n - 1) xs).length + 1 ≤ xs.length + 1; have := nth_len n xs (n - 1); omega
  | x :: xs, k + 1 => by show (VL.nthL n k xs).length ≤ xs.length + 1; have := nth_len n xs k; omega
theorem nth_far {α : Type} (n : Nat) : ∀ (xs : List α) (k : Nat), xs.length ≤ k → VL.nthL n k xs = []
  | [], k, _ => by cases k <;> rfl
  | x :: xs, 0, h => by rw [List.length_cons] at h; omega
  | x :: xs, k + 1, h => nth_far n xs k (by rw [List.length_cons] at h; omega)
theorem nth_min {α : Type} (n k : Nat) (xs : List α) : VL.nthL n (min k xs.length) xs = VL.nthL n k xs := by
  by_cases h : k ≤ xs.length
  · rw [Nat.min_eq_left h]
  · rw [Nat.min_eq_right (by omega), nth_far n xs _ (Nat.le_refl _), nth_far n xs k (by omega)]
theorem getItem_tuple_nth {t sl : Addr} {items : Array Value} {vl vu vs : Value} {k n : Int} {Q : Value → Shared → Prop} (ht : IsTup s.heap t items) (hs : s.heap.IsSliceOf sl vl vu vs) (pl : IsPart vl (some k)) (pu : IsPart vu none) (ps : IsPart vs (some n)) (hk : 0 ≤ k) (hn : 1 < n)
    (h : Q (.ref s.heap.objs.size) { s with heap := s.heap.push { cls := .type "tuple", data := .seq (VL.nthL n.toNat k.toNat items.toList).toArray } })
    (hsz : items.size ≤ sizeLine) : wpAny (model prog w) A (getItem (.ref t) (.ref sl)) Q E s := by
  have htake : sizeOk (.seq (VL.nthL n.toNat k.toNat items.toList).toArray) := by
    show (VL.nthL n.toNat k.toNat items.toList).toArray.size ≤ sizeLine
    rw [List.size_toArray]
    have := nth_len n.toNat items.toList k.toNat
    rw [Array.length_toList] at this
    exact Nat.le_trans this hsz
  obtain ⟨os, hos, hcs, hds⟩ := id hs
  have hTs : s.TypeIs (.ref sl) "slice" := ⟨os, hos, hcs⟩
  unfold getItem
  try with_reducible refine wpAny_holding ?_
  first | refine wpAny_bind (wpAny_pure ?_) | skip
  refine wpAny_bind (wpAny_sequenceKey ht.typeIs (by decide) ?_)
  refine wpAny_bind (wpAny_callSpecial?_slot (name := Str.ofString "__getitem__") ht.typeIs PyProof.Rows.slot_tuple_getitem
    (wpAny_call_entry PyProof.Rows.slot_tuple_getitem ht.typeIs entry_tuple_getitem ?_ (args_tuple_getitem _ _)))
  show wpAny _ _ (Builtin.Tuple.tupleItemsOf (.ref t) >>= _) _ _ s
  refine wpAny_bind (tupleItemsOf_ ht ?_)
  refine wpAny_bind (wpAny_typeOf hTs ?_)
  rw [if_pos (by decide)]
  refine wpAny_bind (sliceApplied_nth hs pl pu ps hk hn ?_)
  have hno : ¬ ((((min k.toNat items.size : Nat) : Int) == 0 && n == 1 && Builtin.Slice.slicePlaces ((min k.toNat items.size : Nat) : Int) (items.size : Int) n == items.size) = true) := by
    intro q
    rw [Bool.and_eq_true, Bool.and_eq_true] at q
    have q1 : n = 1 := eq_of_beq q.1.2
    omega
  show wpAny _ _ (if (((min k.toNat items.size : Nat) : Int) == 0 && n == 1 && Builtin.Slice.slicePlaces ((min k.toNat items.size : Nat) : Int) (items.size : Int) n == items.size) = true then _ else _) _ _ s
  have pk : ((List.range (Builtin.Slice.slicePlaces ((min k.toNat items.size : Nat) : Int) (items.size : Int) n)).filterMap fun (m : Nat) => items[(((min k.toNat items.size : Nat) : Int) + (m : Int) * n).toNat]?).toArray = (VL.nthL n.toNat k.toNat items.toList).toArray := by
    obtain ⟨N, rfl⟩ : ∃ N : Nat, n = (N : Int) := ⟨n.toNat, by omega⟩
    have b := places_nth ((min k.toNat items.size : Nat) : Int) (items.size : Int) (N : Int) hn
    rw [← Array.length_toList] at b ⊢
    rw [Int.toNat_natCast, ← nth_min N k.toNat items.toList]
    have b' : items.toList.length ≤ min k.toNat items.toList.length + Builtin.Slice.slicePlaces ((min k.toNat items.toList.length : Nat) : Int) (items.toList.length : Int) (N : Int) * N := by
      rw [← Int.natCast_mul] at b
      omega
    rw [← pick_nth N (by omega) items.toList _ _ b']
    have e : (fun (m : Nat) => items[(((min k.toNat items.toList.length : Nat) : Int) + (m : Int) * (N : Int)).toNat]?) = fun m => items.toList[min k.toNat items.toList.length + m * N]? := by
      funext m
      rw [← Int.natCast_mul, ← Int.natCast_add, Int.toNat_natCast, Array.getElem?_toList]
    rw [e]
  rw [if_neg hno, pk]
  first
    | exact wpAny_bind (m := Builtin.Tuple.tupleExact _) (wpAny_newObj_type (wpAny_pure ⟨_, rfl, wpAny_pure h⟩) htake)
    | exact wpAny_bind (m := Builtin.Tuple.tupleExact _) (wpAny_newObj_type (wpAny_bind (wpAny_pure (wpAny_pure ⟨_, rfl, wpAny_pure h⟩))) htake)
    | exact wpAny_bind (wpAny_bind (m := Builtin.Tuple.tupleExact _) (wpAny_newObj_type (wpAny_pure (wpAny_pure ⟨_, rfl, wpAny_pure h⟩)) htake))
    | exact wpAny_bind (wpAny_bind (m := Builtin.Tuple.tupleExact _) (wpAny_newObj_type (wpAny_pure ⟨_, rfl, wpAny_pure h⟩) htake))
end
end HT
namespace VL
open PySem PySem.Spec L2 PyProof.Rows
section
variable {X : Cx} {F : Fr} {e : Expr} {te : TE} {lo : Option Expr} {st : Expr} {tl ts : TO} {wa : WE} {pos p2 : Pos}
theorem nth_vals {α β : Type} {R : α → β → Prop} (n : Nat) : ∀ {xs : List α} {ys : List β} (k : Nat), Paired R xs ys → Paired R (nthL n k xs) (nthL n k ys)
  | _, _, k, .nil => by cases k <;> exact .nil
  | _, _, 0, .cons h t => .cons h (nth_vals n (n - 1) t)
  | _, _, k + 1, .cons h t => nth_vals n k t
/-- t[lo::st] -/
theorem pe_nth (he : PE X e te) (hl : PO X lo tl) (hs : PO X (some st) ts) : PE X (.Subscript e (.Slice lo none (some st) p2) pos) fun σ H Q => te σ H fun x H1 => tl σ H1 fun l H2 => ts σ H2 fun u H3 =>
    ∃ a xs k n, x = .ref a ∧ l = some k ∧ u = some n ∧ 0 ≤ k ∧ 1 < n ∧ SqT X.K H3 a xs ∧ ∀ p, H3 p = none → Q (.ref p) (upd H3 p (.tup (nthL n.toNat k.toNat xs))) := by
  refine ⟨fun pins s σ H Q I h => ?_⟩
  refine Subscript_ (thn (he.run pins s σ H _ I h) fun v s1 ⟨x, H1, I1, r1, q1⟩ => ?_)
  refine wpAny_Slice (thn (hl.run pins s1 σ H1 _ I1 q1) fun vl s2 ⟨l, H2, I2, pl, q2⟩ => ?_)
  rw [evalPart_none]
  refine wpAny_pure ?_
  refine thn (hs.run pins s2 σ H2 _ I2 q2) fun vs s3 ⟨u, H3, I3, ps, q3⟩ => ?_
  obtain ⟨a, xs, k, n, rfl, rfl, rfl, hk, hn, hx, q⟩ := q3
  cases r1
  have I4 : Inv X pins σ H3 { s3 with heap := s3.heap.push { cls := .type "slice", data := .fields #[vl, .none, vs] } } := I3.kept (t' := s3.toks) fun b ob q => Heap.get?_push_of_some _ q
  obtain ⟨its, r, ht, hz⟩ := I4.tuple hx
  show wpAny (model X.prog X.w) X.A (subscriptTail e (.Slice lo none (some st) p2) (.ref a) (.ref s3.heap.objs.size)) (EP X pins σ Q) X.xe { s3 with heap := s3.heap.push { cls := .type "slice", data := .fields #[vl, .none, vs] } }
  refine tail_any (ops := [.ref a, .ref s3.heap.objs.size]) ht.typeIs PyProof.Rows.slot_tuple_getitem.lookup ?_ (by with_unfolding_all rfl)
  refine HT.getItem_tuple_nth ht (Heap.IsSliceOf.new ..) pl .none ps hk hn ?_ (by rw [List.size_toArray]; have := r.length; omega)
  refine ⟨.ref _, _, I4.laid (t' := s3.toks) (o := .tup (nthL n.toNat k.toNat xs)) (fun b ob q => Heap.get?_push_of_some _ q) (Nat.le_refl _) ?_, rfl, q _ (I4.hok.fresh (Nat.le_refl _))⟩
  have r2 : Vals (nthL n.toNat k.toNat xs) (nthL n.toNat k.toNat its) := nth_vals _ _ r
  refine ⟨by have := HT.nth_len n.toNat xs k.toNat; omega, _, r2, IsTup.new _ _⟩
theorem Reps.nth {K : PySem.W.Frag} {H : Hp} {av : Addr → Prop} (n : Nat) : ∀ {ds : List D} {xs : List V} (k : Nat), Reps K H av ds xs → Reps K H av (nthL n k ds) (nthL n k xs)
  | [], xs, k, h => by
    have h : xs = [] := h
    subst h
    cases k <;> exact Reps.nil
  | d :: ds, xs, 0, h => by
    unfold Reps at h
    obtain ⟨v, vr, rfl, h1, h2⟩ := h
    exact Reps.cons h1 (Reps.nth n (n - 1) h2)
  | d :: ds, xs, k + 1, h => by
    unfold Reps at h
    obtain ⟨v, vr, rfl, h1, h2⟩ := h
    exact Reps.nth n k h2
theorem ve_slk (O : Ok X F) {wl ws : En → (Option Int → En → Prop) → Prop} (ha : VE X F e wa) (hl : PO X lo (lP F wl)) (hh : PO X (some st) (lP F ws)) :
    VE X F (.Subscript e (.Slice lo none (some st) p2) pos) fun ρ Q => wa ρ fun r1 ρ1 => wl ρ1 fun l ρ2 => ws ρ2 fun h ρ3 => wRd r1 ρ3 fun x => slkD x l h fun d => Q (.val d) ρ3 := by
  refine pe_mono (pe_nth ha hl hh) fun σ H Q ⟨as, ρ, Q', E, w, c⟩ => ?_
  refine ⟨as, ρ, _, E, w, fun as1 r1 ρ1 v H1 A1 P1 q1 => ?_⟩
  refine ⟨as1, ρ1, _, A1.er, q1, fun as2 l ρ2 H2 A2 q2 => ?_⟩
  refine ⟨as2, ρ2, _, A2.er, q2, fun as3 h ρ3 H3 A3 q3 => ?_⟩
  obtain ⟨x, e1, q4⟩ := wRd_some q3
  have g := ((P1.wt.step A2.le A2.ext).step A3.le A3.ext).got A3.er e1
  have A := (A1.trans A2).trans A3
  unfold slkD at q4
  cases x <;> first | exact q4.elim | skip
  cases l <;> first | exact q4.elim | skip
  cases h <;> first | exact q4.elim | skip
  obtain ⟨h0, h1, q4⟩ := q4
  obtain ⟨p, xs, rfl, g1, g2⟩ := g.tup
  refine ⟨p, xs, _, _, rfl, rfl, rfl, h0, h1, by rw [O.K]; exact g1, fun q n => (fin_of A c).tup A3.er n (g2.nth _ _) q4⟩
end
end VL

/-! VL7: builtins, chains, isinstance, methods of lists. -/
namespace VL
open PySem PySem.Spec L2
def nmB : Bf → Str
  | .len => "len" | .abs => "abs" | .max2 => "max" | .min2 => "min" | .int => "int" | .list => "list" | .tuple => "tuple" | .any => "any" | .all => "all" | .str => "str" | .sum => "sum" | .bool => "bool" | .sorted => "sorted" | .sortedP => "sorted"
def valB : Bf → Value
  | .len => .builtin "len" | .abs => .builtin "abs" | .max2 => .builtin "max" | .min2 => .builtin "min" | .any => .builtin "any" | .all => .builtin "all" | .sum => .builtin "sum" | .sorted => .builtin "sorted" | .sortedP => .builtin "sorted"
  | .int => .type "int" | .list => .type "list" | .tuple => .type "tuple" | .str => .type "str" | .bool => .type "bool"
theorem boot_nmB (f : Bf) : bootBuiltins (nmB f) = some (valB f) := by cases f <;> decide +kernel
theorem nmB_name (f : Bf) : nmB f ≠ "__name__" := by cases f <;> decide
theorem nmB_debug (f : Bf) : (nmB f == ("__debug__" : Str)) = false := by cases f <;> decide
def rB (K : PySem.W.Frag) (f : Bf) : List V → Hp → VK → Prop := match f with
  | .len => fun xs H Q => ∃ x n, xs = [x] ∧ LenV K x H n ∧ Q (.int n) H
  | .abs => fun xs H Q => ∃ i, xs = [.int i] ∧ Q (.int (if i < 0 then -i else i)) H
  | .max2 => fun xs H Q => ∃ i j, xs = [.int i, .int j] ∧ Q (.int (if j > i then j else i)) H
  | .min2 => fun xs H Q => ∃ i j, xs = [.int i, .int j] ∧ Q (.int (if j < i then j else i)) H
  | .int => fun xs H Q => (∃ i, xs = [.int i] ∧ Q (.int i) H) ∨ ∃ k, xs = [.bl k] ∧ Q (.int (if k then 1 else 0)) H
  | .list => fun xs H Q => ∃ p ys, xs = [.ref p] ∧ (SqL K H p ys ∨ SqT K H p ys) ∧ ∀ l, H l = none → Q (.ref l) (upd H l (.lst ys))
  | .tuple => fun xs H Q => ∃ p ys, xs = [.ref p] ∧ ((SqL K H p ys ∧ ∀ l, H l = none → Q (.ref l) (upd H l (.tup ys))) ∨ (SqT K H p ys ∧ Q (.ref p) H))
  | .any => rAny K
  | .all => rAll K
  | .sum => rSum K
  | .sorted => rSortedI K
  | .sortedP => rSortedF K
  | .str => fun xs H Q => ∃ i, xs = [.int i] ∧ i.natAbs.log2 < 1920 ∧ Q (.str (toString i)) H
  | .bool => fun xs H Q => (∃ i, xs = [.int i] ∧ Q (.bl (i != 0)) H) ∨ ∃ k, xs = [.bl k] ∧ Q (.bl k) H
section
variable {X : Cx} {F : Fr} {as as' as1 as2 : As} {σ : L2.St} {H H' H1 H2 : Hp} {ρ ρ' ρ1 ρ2 : En} {e a b : Expr} {es : List Expr} {wa wb : WE} {wl : WA} {pos p : Pos}
theorem b_ok (O : Ok X F) (f : Bf) : CallR X (valB f) (rB F.K f) := by
  rw [← O.K]
  cases f with
  | len => exact call_len
  | abs => exact call_abs
  | max2 => exact call_max2 O.calm
  | min2 => exact call_min2 O.calm
  | int => exact call_int1
  | list => exact call_list_of
  | tuple => exact call_tuple_of
  | any => exact cr_any O.calm
  | all => exact cr_all O.calm
  | sum => exact cr_sum O.calm
  | str => exact call_str_int
  | bool => exact call_bool1
  | sorted => exact cr_sortedI
  | sortedP => exact cr_sortedF
theorem Reps.of_bls {K : PySem.W.Frag} {av : Addr → Prop} : ∀ {bs : List Bool} {vs : List V}, Reps K H av (bs.map D.bl) vs → vs = bs.map V.bl
  | [], vs, h => h
  | n :: ns, vs, h => by
    rw [List.map_cons] at h
    unfold Reps at h
    obtain ⟨v, r, rfl, h1, h2⟩ := h
    unfold Rep at h1
    rw [h1, Reps.of_bls h2]; rfl
theorem Reps.of_trip {K : PySem.W.Frag} {av : Addr → Prop} : ∀ {L : List (V × Int × D)}, (∀ e ∈ L, Rep K H av (.tup [.int e.2.1, e.2.2]) e.1) → Reps K H av ((L.map (·.2)).map fun p => .tup [.int p.1, p.2]) (L.map (·.1))
  | [], _ => Reps.nil
  | e :: L, h => Reps.cons (h e List.mem_cons_self) (Reps.of_trip fun e' he => h e' (List.mem_cons_of_mem _ he))
theorem Reps.trip {K : PySem.W.Frag} {av : Addr → Prop} : ∀ {ps : List (Int × D)} {vs : List V}, Reps K H av (ps.map fun p => .tup [.int p.1, p.2]) vs → ∃ L : List (V × Int × D), L.map (·.1) = vs ∧ L.map (·.2) = ps ∧ ∀ e ∈ L, Rep K H av (.tup [.int e.2.1, e.2.2]) e.1
  | [], vs, h => by
    unfold Reps at h
    exact ⟨[], h.symm, rfl, fun e he => by cases he⟩
  | p :: ps, vs, h => by
    rw [List.map_cons] at h
    unfold Reps at h
    obtain ⟨v, r, rfl, h1, h2⟩ := h
    obtain ⟨L, e1, e2, e3⟩ := Reps.trip h2
    refine ⟨(v, p) :: L, by rw [List.map_cons, e1], by rw [List.map_cons, e2], fun e he => ?_⟩
    rcases List.mem_cons.mp he with w | w
    · rw [w]; exact h1
    · exact e3 e w
theorem b_sound (f : Bf) {ds : List D} {vs : List V} {Q : VK} {k : R → Prop} (E : ER F as σ H ρ) (g : Gots F as H ds vs) (q : blt f ds k) (fin : Fin F as σ H ρ Q k) : rB F.K f vs H Q := by
  unfold blt at q
  split at q
  · obtain ⟨v, rfl, g1⟩ := g.one
    obtain ⟨b, xs, rfl, h1, h2⟩ := g1.tup
    refine ⟨_, xs.length, rfl, .inr ⟨xs, h1, rfl⟩, ?_⟩
    rw [h2.length]
    exact fin.val E (rep_int _) q
  · obtain ⟨v, rfl, g1⟩ := g.one
    obtain ⟨b, xs, rfl, h1, h2⟩ := g1.lst
    refine ⟨_, xs.length, rfl, .inl ⟨xs, .inl (.inl h1), rfl⟩, ?_⟩
    rw [h2.length]
    exact fin.val E (rep_int _) q
  · obtain ⟨v, rfl, g1⟩ := g.one
    obtain ⟨b, xs, rfl, h1, h2⟩ := g1.fix
    refine ⟨_, xs.length, rfl, .inl ⟨xs, h1, rfl⟩, ?_⟩
    rw [h2.length]
    exact fin.val E (rep_int _) q
  · obtain ⟨v, rfl, g1⟩ := g.one
    rw [g1.str]
    exact ⟨_, _, rfl, ⟨sm_line q.1, rfl⟩, fin.val E (rep_int _) q.2⟩
  · obtain ⟨v, rfl, g1⟩ := g.one
    rw [g1.int]
    refine ⟨_, rfl, ?_⟩
    rename_i i
    rw [show (if i < 0 then -i else i) = (i.natAbs : Int) by split <;> omega]
    exact fin.val E (rep_int _) q
  · obtain ⟨v, v', rfl, g1, g2⟩ := g.two
    rw [g1.int, g2.int]
    refine ⟨_, _, rfl, ?_⟩
    rename_i i j
    rw [show (if j > i then j else i) = max i j by split <;> omega]
    exact fin.val E (rep_int _) q
  · obtain ⟨v, v', rfl, g1, g2⟩ := g.two
    rw [g1.int, g2.int]
    refine ⟨_, _, rfl, ?_⟩
    rename_i i j
    rw [show (if j < i then j else i) = min i j by split <;> omega]
    exact fin.val E (rep_int _) q
  · obtain ⟨v, rfl, g1⟩ := g.one
    rw [g1.int]
    exact .inl ⟨_, rfl, fin.val E (rep_int _) q⟩
  · obtain ⟨v, rfl, g1⟩ := g.one
    rw [g1.bl]
    exact .inr ⟨_, rfl, fin.val E (rep_int _) q⟩
  · obtain ⟨v, rfl, g1⟩ := g.one
    obtain ⟨b, xs, rfl, h1, h2⟩ := g1.tup
    exact ⟨b, xs, rfl, .inr h1, fun l n => fin.fresh E n h2 q⟩
  · obtain ⟨v, rfl, g1⟩ := g.one
    obtain ⟨b, xs, rfl, h1, h2⟩ := g1.lst
    exact ⟨b, xs, rfl, .inl (.inl (.inl h1)), fun l n => fin.fresh E n h2 q⟩
  · obtain ⟨v, rfl, g1⟩ := g.one
    obtain ⟨b, xs, rfl, h1, h2⟩ := g1.fix
    exact ⟨b, xs, rfl, .inl h1, fun l n => fin.fresh E n h2 q⟩
  · obtain ⟨v, rfl, g1⟩ := g.one
    obtain ⟨b, xs, rfl, h1, h2⟩ := g1.tup
    exact ⟨b, xs, rfl, .inr ⟨h1, fin.val E (rep_tup h1 h2) q⟩⟩
  · obtain ⟨v, rfl, g1⟩ := g.one
    obtain ⟨b, xs, rfl, h1, h2⟩ := g1.lst
    exact ⟨b, xs, rfl, .inl ⟨.inl (.inl h1), fun l n => fin.tup E n h2 q⟩⟩
  · obtain ⟨v, rfl, g1⟩ := g.one
    obtain ⟨b, xs, rfl, h1, h2⟩ := g1.fix
    exact ⟨b, xs, rfl, .inl ⟨h1, fun l n => fin.tup E n h2 q⟩⟩
  · obtain ⟨v, rfl, g1⟩ := g.one
    obtain ⟨b, xs, rfl, h1, h2⟩ := g1.lst
    obtain ⟨bs, rfl, q⟩ := q
    rw [h2.of_bls] at h1
    exact ⟨b, bs, rfl, .inl (.inl h1), fin.val E (rep_bl _) q⟩
  · obtain ⟨v, rfl, g1⟩ := g.one
    obtain ⟨b, xs, rfl, h1, h2⟩ := g1.lst
    obtain ⟨bs, rfl, q⟩ := q
    rw [h2.of_bls] at h1
    exact ⟨b, bs, rfl, .inl (.inl h1), fin.val E (rep_bl _) q⟩
  · obtain ⟨v, rfl, g1⟩ := g.one
    obtain ⟨b, xs, rfl, h1, h2⟩ := g1.lst
    obtain ⟨bs, rfl, q⟩ := q
    rw [h2.of_ints] at h1
    exact ⟨b, bs, rfl, .inl (.inl h1), fin.val E (rep_int _) q⟩
  · obtain ⟨v, rfl, g1⟩ := g.one
    rw [g1.int]
    exact ⟨_, rfl, q.1, fin.val E (rep_str _) q.2⟩
  · obtain ⟨v, rfl, g1⟩ := g.one
    rw [g1.int]
    exact .inl ⟨_, rfl, fin.val E (rep_bl _) q⟩
  · obtain ⟨v, rfl, g1⟩ := g.one
    rw [g1.bl]
    exact .inr ⟨_, rfl, fin.val E (rep_bl _) q⟩
  · obtain ⟨v, rfl, g1⟩ := g.one
    obtain ⟨b, xs, rfl, h1, h2⟩ := g1.lst
    obtain ⟨bs, rfl, q⟩ := q
    rw [h2.of_ints] at h1
    exact ⟨b, bs, rfl, .inl (.inl h1), fun ns' p g1 g2 n => fin.fresh E n Reps.ints (q ns' g1 g2)⟩
  · obtain ⟨v, rfl, g1⟩ := g.one
    obtain ⟨b, xs, rfl, h1, h2⟩ := g1.lst
    obtain ⟨ps, rfl, hd, q⟩ := q
    obtain ⟨L, e1, e2, e3⟩ := h2.trip
    refine ⟨b, L, rfl, .inl (.inl (by rw [e1]; exact h1)), fun e he => ?_, ?_, fun L' p g1 g2 n => ?_⟩
    · have r := e3 e he
      unfold Rep at r
      obtain ⟨a, ys, z, h3, h4⟩ := r
      unfold Reps at h4
      obtain ⟨y1, r1, rfl, h5, h4⟩ := h4
      unfold Reps at h4
      obtain ⟨y2, r2, rfl, h6, h4⟩ := h4
      unfold Reps at h4
      subst h4
      unfold Rep at h5
      subst h5
      exact ⟨a, y2, z, h3⟩
    · rw [← e2, List.pairwise_map] at hd
      exact hd
    · refine fin.fresh E n (Reps.of_trip fun e he => e3 e (g1.mem_iff.mp he)) (q (L'.map (·.2)) ?_ ?_)
      · rw [← e2]; exact g1.map _
      · rw [List.pairwise_map]; exact g2
  · exact q.elim
theorem ve_blt (O : Ok X F) (f : Bf) (h : VA X F (e :: es) wl) (hg : Gl X (nmB f)) (hm : X.mg (nmB f) = none) (he : starEach (e :: es) X.env = (false, eval e X.env) :: starEach es X.env) (hpl : (backTo pos (starEach es X.env)).any (·.1) = false) :
    VE X F (.Call (.Name (nmB f) p) (e :: es) [] pos) fun ρ Q => wl ρ fun rs ρ1 => rds rs ρ1 fun ds => blt f ds fun r => Q r ρ1 := by
  have key : PE X (.Call (.Name (nmB f) p) (e :: es) [] pos) (tCB (rB F.K f) (lA F wl)) := by
    have b := boot_nmB f
    have c := b_ok O f
    cases f <;> first
      | exact pe_callB c hg hm b h (by decide) (by decide) he hpl
      | exact pe_callTy c hg hm b h (by decide) (by decide) he hpl
  refine pe_mono key fun σ H Q ⟨as, ρ, Q', E, w, c⟩ => ?_
  refine ⟨as, ρ, _, E, w, fun as1 rs ρ1 vs H1 A W q => ?_⟩
  obtain ⟨ds, g, q⟩ := Wts.rds A.er (wts_of W) q
  exact b_sound f A.er g q (fin_of A c)
/-! ### isinstance -/
def nmT : Ty → Str | .int => "int" | .bool => "bool" | .tuple => "tuple" | .list => "list" | .str => "str"
def tyN : Ty → String | .int => "int" | .bool => "bool" | .tuple => "tuple" | .list => "list" | .str => "str"
theorem boot_nmT (t : Ty) : bootBuiltins (nmT t) = some (.type (tyN t)) := by cases t <;> decide +kernel
inductive Dk where | non | bl | int | str | tup | lst
def kd : D → Dk | .non => .non | .bl _ => .bl | .int _ => .int | .str _ => .str | .tup _ => .tup | .lst _ => .lst | .fix _ => .lst
def kdN : Dk → String | .non => "NoneType" | .bl => "bool" | .int => "int" | .str => "str" | .tup => "tuple" | .lst => "list"
def isTyK : Dk → Ty → Bool | .int, .int => true | .bl, .int => true | .bl, .bool => true | .tup, .tuple => true | .lst, .list => true | .str, .str => true | _, _ => false
theorem isTy_eq (d : D) (t : Ty) : isTy d t = isTyK (kd d) t := by cases d <;> cases t <;> rfl
theorem kit_all (k : Dk) (t : Ty) : kitB (kdN k) (tyN t) = some (isTyK k t) := by cases k <;> cases t <;> decide +kernel
theorem isTy_kit {d : D} {v : V} (g : Got F as H d v) : TyX F.K H v (.type (kdN (kd d))) := by
  cases d with
  | non => rw [g.non]; exact .base .non
  | bl b => rw [g.bl]; exact .base (.bl b)
  | int b => rw [g.int]; exact .base (.int b)
  | str b => rw [g.str]; exact .base (.str b)
  | tup ds =>
    obtain ⟨b, xs, rfl, h1, h2⟩ := g.tup
    rcases h1 with (h1 | ⟨o, h1⟩) | ⟨o, its, n, h1, h3, _⟩
    · exact .base (.tup h1)
    · exact .fTuple h1
    · exact .kTuple h1 h3
  | lst ds =>
    obtain ⟨b, xs, rfl, h1, h2⟩ := g.lst
    exact .base (.lst h1)
  | fix ds =>
    obtain ⟨b, xs, rfl, h1, h2⟩ := g.fix
    rcases h1 with (h1 | ⟨o, h1⟩) | ⟨o, its, n, h1, h3, _⟩
    · exact .base (.lst h1)
    · exact .base (.frz h1)
    · exact .kList h1 h3
theorem ve_isi (O : Ok X F) (t : Ty) {pp : Pos} (ha : VE X F a wa) (hg : Gl X "isinstance") (hm : X.mg "isinstance" = none) (hgt : Gl X (nmT t)) (hmt : X.mg (nmT t) = none)
    (he : starEach [a, .Name (nmT t) pp] X.env = (false, eval a X.env) :: starEach [.Name (nmT t) pp] X.env) :
    VE X F (.Call (.Name "isinstance" p) [a, .Name (nmT t) pp] [] pos) fun ρ Q => wa ρ fun r1 ρ1 => wRd r1 ρ1 fun x => Q (.val (.bl (isTy x t))) ρ1 := by
  have hc : CallR X (.builtin "isinstance") (rIsi F.K) := O.K ▸ call_isi
  have hT : PE X (.Name (nmT t) pp) (tC (.ty (tyN t))) := pe_bltn hgt hmt (boot_nmT t) rfl (by cases t <;> decide) (by cases t <;> decide)
  refine pe_mono (pe_callB hc hg hm (by decide +kernel) (pa_cons ha (pa_cons hT pa_nil) he) (by decide) (by decide) he (by rfl)) fun σ H Q ⟨as, ρ, Q', E, w, c⟩ => ?_
  refine lE1 E w fun as1 ρ1 H1 x v A g q => ?_
  exact ⟨v, .ty (tyN t), .type (kdN (kd x)), .type (tyN t), isTy x t, rfl, .ty _, isTy_kit g, kit_ty (by rw [isTy_eq]; exact kit_all (kd x) t), (fin_of A c).val A.er (rep_bl _) q⟩
theorem ve_bits {ap : Pos} (ha : VE X F a wa) (hbase : attributeBase a "bit_length" X.env (eval a X.env) = eval a X.env) (hline : (ap.endLine == pos.line) = true) :
    VE X F (.Call (.Attribute a "bit_length" ap) [] [] pos) fun ρ Q => wa ρ fun r1 ρ1 => wRd r1 ρ1 fun x => match x with | .int i => Q (.val (.int (Builtin.Int.intBits i : Nat))) ρ1 | _ => False := by
  refine pe_mono (pe_bits ha hbase hline) fun σ H Q ⟨as, ρ, Q', E, w, c⟩ => ?_
  refine lE1 E w fun as1 ρ1 H1 x v A g q => ?_
  cases x <;> first | exact q.elim | skip
  rw [g.int]
  exact ⟨_, rfl, (fin_of A c).val A.er (rep_int _) q⟩
theorem Reps.of_strs {K : PySem.W.Frag} {av : Addr → Prop} : ∀ {bs : List Str} {vs : List V}, Reps K H av (bs.map D.str) vs → vs = bs.map V.str
  | [], vs, h => h
  | n :: ns, vs, h => by
    rw [List.map_cons] at h
    unfold Reps at h
    obtain ⟨v, r, rfl, h1, h2⟩ := h
    unfold Rep at h1
    rw [h1, Reps.of_strs h2]; rfl
theorem ve_join {z : Str} {j : Nat} {cp ap : Pos} (O : Ok X F) (hb : VE X F b wb) (hs : starEach [b] X.env = [(false, eval b X.env)]) (hline : (ap.endLine == pos.line) = true) :
    VE X F (.Call (.Attribute (.Constant (.str z) j cp) "join" ap) [b] [] pos) fun ρ Q => wb ρ fun r1 ρ1 => wRd r1 ρ1 fun y => joinD z y fun d => Q (.val d) ρ1 := by
  refine pe_mono (pe_join pe_str hb hs rfl hline) fun σ H Q ⟨as, ρ, Q', E, w, c⟩ => ?_
  refine ⟨⟨_, rfl⟩, ?_⟩
  refine lE1 E w fun as1 ρ1 H1 x v A g q => ?_
  unfold joinD at q
  cases x <;> first | exact q.elim | skip
  obtain ⟨ys, rfl, h1, h2⟩ := q
  obtain ⟨p, xs, rfl, g1, g2⟩ := g.lst
  rw [g2.of_strs] at g1
  exact ⟨_, p, ys, rfl, rfl, .inl (.inl (.inl g1)), h1, (fin_of A c).val A.er (rep_str _) h2⟩
/-! ### chains -/
variable {f : Expr} {wf : WE}
theorem ve_chain (O : Ok X F) (c d : Cm) (ha : VE X F a wa) (hb : VE X F b wb) (hf : VE X F f wf) (hm : lastMarks [cmP c, cmP d] [b, f] = false) :
    VE X F (.Compare a [cmP c, cmP d] [b, f] pos) fun ρ Q => wa ρ fun r1 ρ1 => wb ρ1 fun r2 ρ2 => wRd r1 ρ2 fun x => wRd r2 ρ2 fun y => cmp2 c x y fun z =>
      br z (wf ρ2 fun r3 ρ3 => wRd r2 ρ3 fun y => wRd r3 ρ3 fun v => cmp2 d y v fun z => Q (.val (.bl z)) ρ3) (Q (.val (.bl false)) ρ2) := by
  refine pe_mono (pe_chain (cm_ok O c) (cm_ok O d) ha hb hf hm) fun σ H Q ⟨as, ρ, Q', E, w, c'⟩ => ?_
  refine ⟨as, ρ, _, E, w, fun as1 r1 ρ1 v H1 A1 P1 q1 => ⟨as1, ρ1, _, A1.er, q1, fun as2 r2 ρ2 u H2 A2 P2 q2 => ?_⟩⟩
  obtain ⟨x, e1, q2⟩ := wRd_some q2
  obtain ⟨y, e2, q2⟩ := wRd_some q2
  have A := A1.trans A2
  refine cmp2_sound c ((P1.wt.step A2.le A2.ext).got A2.er e1) (P2.wt.got A2.er e2) q2 fun z hz => ⟨z, rfl, br_if hz (fun q => ?_) fun q => (fin_of A c').val A2.er (rep_bl _) q⟩
  refine ⟨as2, ρ2, _, A2.er, q, fun as3 r3 ρ3 w3 H3 A3 P3 q3 => ?_⟩
  obtain ⟨y', e3, q3⟩ := wRd_some q3
  obtain ⟨z', e4, q3⟩ := wRd_some q3
  exact cmp2_sound d ((P2.wt.step A3.le A3.ext).got A3.er e3) (P3.wt.got A3.er e4) q3 fun z hz => (fin_of (A.trans A3) c').val A3.er (rep_bl _) hz
theorem vt_chain (O : Ok X F) (c d : Cm) (ha : VE X F a wa) (hb : VE X F b wb) (hf : VE X F f wf) (hm : lastMarks [cmP c, cmP d] [b, f] = false) :
    VT X F (.Compare a [cmP c, cmP d] [b, f] pos) fun ρ Q => wa ρ fun r1 ρ1 => wb ρ1 fun r2 ρ2 => wRd r1 ρ2 fun x => wRd r2 ρ2 fun y => cmp2 c x y fun z =>
      br z (wf ρ2 fun r3 ρ3 => wRd r2 ρ3 fun y => wRd r3 ρ3 fun v => cmp2 d y v fun z => Q z ρ3) (Q false ρ2) := by
  refine pt_mono (pt_chain (cm_ok O c) (cm_ok O d) ha hb hf hm) fun σ H Q ⟨as, ρ, Q', E, w, c'⟩ => ?_
  refine ⟨as, ρ, _, E, w, fun as1 r1 ρ1 v H1 A1 P1 q1 => ⟨as1, ρ1, _, A1.er, q1, fun as2 r2 ρ2 u H2 A2 P2 q2 => ?_⟩⟩
  obtain ⟨x, e1, q2⟩ := wRd_some q2
  obtain ⟨y, e2, q2⟩ := wRd_some q2
  have A := A1.trans A2
  refine cmp2_sound c ((P1.wt.step A2.le A2.ext).got A2.er e1) (P2.wt.got A2.er e2) q2 fun z hz => ⟨z, rfl, br_if hz (fun q => ?_) fun q => ⟨false, rfl, c' as2 false ρ2 H2 A q⟩⟩
  refine ⟨as2, ρ2, _, A2.er, q, fun as3 r3 ρ3 w3 H3 A3 P3 q3 => ?_⟩
  obtain ⟨y', e3, q3⟩ := wRd_some q3
  obtain ⟨z', e4, q3⟩ := wRd_some q3
  exact cmp2_sound d ((P2.wt.step A3.le A3.ext).got A3.er e3) (P3.wt.got A3.er e4) q3 fun z hz => ⟨z, rfl, c' as3 z ρ3 H3 (A.trans A3) hz⟩

/-! ### a list of ours written -/
theorem SlAt.upd {i : Nat} {x : Option (Option V)} {s : Sl} {b : Addr} {o : HO} (e : Ext (F.av as) H (upd H b o)) (nb : as i ≠ some b) (h : SlAt F H as i x s) : SlAt F (upd H b o) as i x s := by
  cases s with
  | un => exact h
  | val d =>
    obtain ⟨h1, v, h2, h3⟩ := h
    exact ⟨h1, v, h2, Rep.ext e h3⟩
  | own ds =>
    obtain ⟨c, xs, h1, h2, h3, h4, h5⟩ := h
    have : c ≠ b := fun z => nb (by rw [h1, z])
    exact ⟨c, xs, h1, h2, h3, by rw [upd_ne this]; exact h4, Reps.ext e h5⟩
  | par ds =>
    obtain ⟨c, xs, h1, h2, h3, h4, h5⟩ := h
    have : c ≠ b := fun z => nb (by rw [h1, z])
    exact ⟨c, xs, h1, h2, h3, by rw [upd_ne this]; exact h4, Reps.ext e h5⟩
theorem ext_write {av : Addr → Prop} {b : Addr} {xs ys : List V} (hb : H b = some (.lst xs)) (ha : av b) : Ext av H (upd H b (.lst ys)) := by
  refine ⟨fun a o h n => ?_, fun a o h n => ?_, fun a o h => ?_⟩
  · rw [upd_ne (show a ≠ b from fun z => n (z ▸ ha))]; exact h
  · rw [upd_ne (show a ≠ b from fun z => by subst z; rw [hb] at h; cases h; exact n xs rfl)]; exact h
  · by_cases z : a = b
    · exact ⟨_, by rw [z, upd_same]⟩
    · exact ⟨o, by rw [upd_ne z]; exact h⟩
/-- slot i's list, at b, is now ys -/
theorem ER.write (E : ER F as σ H ρ) {i : Nat} {b : Addr} {xs ys : List V} {ds ds' : List D} (hi : as i = some b) (hb : H b = some (.lst xs)) (r : Reps F.K H (F.av as) ds' ys) :
    (gt ρ i = .own ds → ER F as σ (upd H b (.lst ys)) (ρ.set i (.own ds'))) ∧ (gt ρ i = .par ds → ER F as σ (upd H b (.lst ys)) (ρ.set i (.par ds'))) ∧ Ext (F.mu as) H (upd H b (.lst ys)) := by
  have e0 : Ext (F.mu as) H (upd H b (.lst ys)) := ext_write hb (.inl ⟨i, hi⟩)
  have e : Ext (F.av as) H (upd H b (.lst ys)) := e0.mono fun _ => mu_av
  have old : Ext F.ch F.H0 (upd H b (.lst ys)) := by
    rcases E.own i b hi with h | h | h
    · refine ⟨fun a o h1 n => ?_, fun a o h1 n => ?_, fun a o h1 => let ⟨o', h2⟩ := E.old.there a o h1; (ext_write (av := fun _ => True) hb trivial).there a o' h2⟩
      · have na : a ≠ b := fun z => by subst z; rw [h] at h1; cases h1
        rw [upd_ne na]; exact E.old.keep a o h1 n
      · have na : a ≠ b := fun z => by subst z; rw [h] at h1; cases h1
        rw [upd_ne na]; exact E.old.other a o h1 n
    · exact E.old.trans (ext_write hb (.inr h))
    · exact E.old.trans (ext_write hb (.inl h))
  have go : ∀ s : Sl, SlAt F (upd H b (.lst ys)) as i σ[i]? s → ER F as σ (upd H b (.lst ys)) (ρ.set i s) := fun s hs => by
    refine ⟨by rw [List.length_set]; exact E.len, E.inj, E.nex, fun j => ?_, old, E.own, fun c z q => E.exo c z (e.free q), E.mok, fun p hp => Rep.ext e (E.kept p hp)⟩
    by_cases q : j = i
    · subst q
      by_cases l : j < ρ.length
      · show SlAt _ _ _ j σ[j]? (gt (ρ.set j s) j)
        rw [gt_set ρ l]; exact hs
      · exfalso
        have q := E.sl j
        rw [List.getElem?_eq_none (show ρ.length ≤ j by omega)] at q
        have q' : as j = none := q
        rw [q'] at hi; cases hi
    · show SlAt _ _ _ j σ[j]? (gt (ρ.set i s) j)
      rw [gt_ne ρ q]
      exact (E.sl j).upd e fun z => q (E.inj j i b z hi)
  refine ⟨fun h => go _ ?_, fun h => go _ ?_, e0⟩
  · have q := E.sl i
    rw [show ρ[i]?.getD .un = _ from h] at q
    obtain ⟨c, xs', h1, h2, h3, h4, h5⟩ := q
    rw [hi] at h1; cases h1
    exact ⟨b, ys, hi, h2, h3, upd_same, Reps.ext e r⟩
  · have q := E.sl i
    rw [show ρ[i]?.getD .un = _ from h] at q
    obtain ⟨c, xs', h1, h2, h3, h4, h5⟩ := q
    rw [hi] at h1; cases h1
    exact ⟨b, ys, hi, h2, h3, upd_same, Reps.ext e r⟩
end
end VL

/-! VL8: methods of a list of ours; calls of defs. -/
namespace VL
open PySem PySem.Spec L2
def rM (m : Mt) : V → List V → Hp → VK → Prop := match m with
  | .append => rAppend
  | .extend => rExtend
  | .pop => rPop
  | .reverse => rReverse
  | .insert => fun x vs H Q => ∃ (l : Addr) (xs : List V) (i : Int) (y : V), x = .ref l ∧ vs = [.int i, y] ∧ H l = some (.lst xs) ∧ xs.length < sizeLine ∧ 0 ≤ i ∧ i < 2 ^ 63 ∧ Q .non (upd H l (.lst (xs.take i.toNat ++ [y] ++ xs.drop i.toNat)))
  | .popAt => rPopAt
def nmM : Mt → Str | .append => "append" | .extend => "extend" | .pop => "pop" | .reverse => "reverse" | .insert => "insert" | .popAt => "pop"
section
variable {X : Cx} {F : Fr} {as as' as1 as2 : As} {σ : L2.St} {H H' H1 H2 : Hp} {ρ ρ' ρ1 ρ2 : En} {e a b : Expr} {es : List Expr} {wa wb : WE} {wl : WA} {pos p : Pos}
theorem Reps.last {K : PySem.W.Frag} {av : Addr → Prop} {ds : List D} {xs : List V} {d : D} (r : Reps K H av ds xs) (h : ds.getLast? = some d) : (∃ v, xs[xs.length - 1]? = some v ∧ Rep K H av d v) ∧ Reps K H av ds.dropLast xs.dropLast := by
  rw [List.getLast?_eq_getElem?] at h
  refine ⟨by rw [r.length]; exact r.get h, ?_⟩
  rw [List.dropLast_eq_take, List.dropLast_eq_take, r.length]
  exact Reps.take _ r
theorem Reps.two {K : PySem.W.Frag} {av : Addr → Prop} {d d' : D} {vs : List V} (r : Reps K H av [d, d'] vs) : ∃ v v', vs = [v, v'] ∧ Rep K H av d v ∧ Rep K H av d' v' := by
  unfold Reps at r
  obtain ⟨v, r1, rfl, h1, r⟩ := r
  unfold Reps at r
  obtain ⟨v', r2, rfl, h2, r⟩ := r
  unfold Reps at r
  subst r
  exact ⟨v, v', rfl, h1, h2⟩
theorem Reps.one {K : PySem.W.Frag} {av : Addr → Prop} {d : D} {vs : List V} (r : Reps K H av [d] vs) : ∃ v, vs = [v] ∧ Rep K H av d v := by
  unfold Reps at r
  obtain ⟨v, r1, rfl, h1, r⟩ := r
  unfold Reps at r
  subst r
  exact ⟨v, rfl, h1⟩
theorem Reps.erase {K : PySem.W.Frag} {av : Addr → Prop} : ∀ {ds : List D} {vs : List V} (i : Nat), Reps K H av ds vs → Reps K H av (ds.eraseIdx i) (vs.eraseIdx i)
  | [], vs, _, h => by unfold Reps at h; subst h; exact Reps.nil
  | d' :: ds, vs, i, h => by
    unfold Reps at h
    obtain ⟨v', r', rfl, h1, h2⟩ := h
    cases i with
    | zero => exact h2
    | succ i => exact Reps.cons h1 (Reps.erase i h2)
theorem m_sound {K : PySem.W.Frag} {av : Addr → Prop} (m : Mt) {b : Addr} {xs : List V} {ds ag : List D} {vs : List V} {k : D → List D → Prop} {Q : VK} (hb : H b = some (.lst xs)) (r : Reps K H av ds xs) (ra : Reps K H av ag vs) (q : mth m ds ag k)
    (f : ∀ d v ds' ys, Rep K H av d v → Reps K H av ds' ys → k d ds' → Q v (upd H b (.lst ys))) : rM m (.ref b) vs H Q := by
  unfold mth at q
  split at q
  · obtain ⟨v, rfl, h⟩ := ra.one
    exact ⟨b, xs, v, rfl, rfl, hb, by rw [r.length, sizeLine_eq]; exact q.1, f _ _ _ _ rep_non (r.append (.cons h .nil)) q.2⟩
  · obtain ⟨v, rfl, h⟩ := ra.one
    unfold Rep at h
    obtain ⟨c, zs, rfl, h1, _, h2⟩ := h
    exact ⟨b, c, xs, zs, rfl, rfl, hb, h1, by rw [r.length, h2.length]; exact sm_line q.1, f _ _ _ _ rep_non (r.append h2) q.2⟩
  · obtain ⟨d, q1, q2⟩ := q
    unfold Reps at ra
    subst ra
    obtain ⟨⟨v, h1, h2⟩, h3⟩ := r.last q1
    exact ⟨b, xs, v, rfl, rfl, hb, h1, f _ _ _ _ h2 h3 q2⟩
  · unfold Reps at ra
    subst ra
    exact ⟨b, xs, rfl, rfl, hb, f _ _ _ _ rep_non r.reverse q⟩
  · obtain ⟨v, v', rfl, h, h'⟩ := ra.two
    unfold Rep at h
    subst h
    obtain ⟨q1, q2, q3⟩ := q
    refine ⟨b, xs, _, v', rfl, rfl, hb, by rw [r.length, sizeLine_eq]; exact q2, q1.1, q1.2, f _ _ _ _ rep_non ?_ q3⟩
    rw [List.append_assoc]
    exact (r.take _).append (Reps.cons h' (r.drop _))
  · obtain ⟨v, rfl, h⟩ := ra.one
    unfold Rep at h
    subst h
    obtain ⟨q1, j, d, q2, q3, q4⟩ := q
    obtain ⟨y, h1, h2⟩ := r.get q3
    refine ⟨b, xs, _, j, y, rfl, rfl, hb, q1.1, q1.2, by rw [r.length]; exact (ixN_seq q2).1, h1, f _ _ _ _ h2 (r.erase j) q4⟩
  · exact q.elim
/-- the reading of x.m(..) -/
theorem mth_read (O : Ok X F) (m : Mt) {i : Nat} {wl : WA} {h : VA X F es wl} {σ : L2.St} {H : Hp} {Q : VK}
    (q : lE F (fun ρ Q => isOwn (gt ρ i) = true ∧ wl ρ fun rs ρ1 => frz rs ρ1 fun ds ρ2 => mthS m i ds ρ2 Q) σ H Q) :
    tVar i σ H fun x H1 => tyV F.K "list" x H1 ∧ lA F wl σ H1 fun vs H2 => rM m x vs H2 Q := by
  obtain ⟨as, ρ, Q', E, ⟨w0, w⟩, c⟩ := q
  have ls : ∃ ds, gt ρ i = .own ds ∨ gt ρ i = .par ds := by
    cases z : gt ρ i with
    | own ds => exact ⟨ds, .inl rfl⟩
    | par ds => exact ⟨ds, .inr rfl⟩
    | un => rw [z] at w0; cases w0
    | val d => rw [z] at w0; cases w0
  obtain ⟨ds0, z⟩ := ls
  obtain ⟨b, xs0, h1, h2, h3, _⟩ := E.list z
  refine ⟨.ref b, h2, .inl ⟨rfl, xs0, .inl (.inl h3)⟩, as, ρ, _, E, w, fun as1 rs ρ1 vs H1 A W q => ?_⟩
  obtain ⟨ag, as2, ρ2, l, E2, g, q⟩ := Wts.frz (wts_of W) A.er q
  have A2 := A.frz l E2
  have fin : ∀ ds, (gt ρ2 i = .own ds ∨ gt ρ2 i = .par ds) → ∀ k, mth m ds ag k → (∀ d v ds' ys, Rep F.K H1 (F.av as2) d v → Reps F.K H1 (F.av as2) ds' ys → as2 i = some b → ∀ xs, H1 b = some (.lst xs) → k d ds' → Q v (upd H1 b (.lst ys))) → rM m (.ref b) vs H1 Q := by
    intro ds z k q f
    obtain ⟨b', xs, g1, g2, g3, g4⟩ := E2.list z
    have e := A2.le i b' g1
    rw [h1] at e
    cases e
    exact m_sound m g3 g4 g q fun d v ds' ys r1 r2 hk => f d v ds' ys r1 r2 g1 xs g3 hk
  unfold mthS at q
  cases z2 : gt ρ2 i with
  | un => simp only [z2] at q
  | val d => simp only [z2] at q
  | own ds =>
    simp only [z2] at q
    refine fin ds (.inl z2) _ q fun d v ds' ys r1 r2 hi xs hb hk => ?_
    obtain ⟨f1, _, f3⟩ := E2.write (ds := ds) hi hb r2
    exact c as2 (.val d) _ v _ (A2.trans ⟨Le.refl _, f1 z2, f3⟩) (Rep.ext (f3.mono fun _ => mu_av) r1) hk
  | par ds =>
    simp only [z2] at q
    refine fin ds (.inr z2) _ q fun d v ds' ys r1 r2 hi xs hb hk => ?_
    obtain ⟨_, f2, f3⟩ := E2.write (ds := ds) hi hb r2
    exact c as2 (.val d) _ v _ (A2.trans ⟨Le.refl _, f2 z2, f3⟩) (Rep.ext (f3.mono fun _ => mu_av) r1) hk
/-- x.m(e, ..) -/
theorem ve_mth (O : Ok X F) (m : Mt) {i : Nat} {x : Str} {px ap : Pos} (hN : X.N[i]? = some x) (hv : Vis X.env.scope x) (hd : (x == ("__debug__" : Str)) = false) (hcd : (x == ("__classdict__" : Str)) = false) (hm : m = .append ∨ m = .extend ∨ m = .insert ∨ m = .popAt)
    (h : VA X F (e :: es) wl) (hfew : ((backTo pos (starEach (e :: es) X.env)).all (fun x => !x.1) && (backToKw pos (keywordEach [] X.env)).all (fun x => x.1.isSome)
      && decide ((e :: es).length + ([] : List Keyword).length + (if ([] : List Keyword).isEmpty then 0 else 1) < 30)) = true)
    (hline : (ap.endLine == pos.line) = true) (hs : starEach (e :: es) X.env = (false, eval e X.env) :: starEach es X.env) (hplain : (backTo pos (starEach es X.env)).any (·.1) = false) :
    VE X F (.Call (.Attribute (.Name x px) (nmM m) ap) (e :: es) [] pos) fun ρ Q => isOwn (gt ρ i) = true ∧ wl ρ fun rs ρ1 => frz rs ρ1 fun ds ρ2 => mthS m i ds ρ2 Q := by
  have key : PE X (.Call (.Attribute (.Name x px) (nmM m) ap) (e :: es) [] pos) (tBM X.K "list" (rM m) (tVar i) (lA F wl)) := by
    have pvr : PE X (.Name x px) (tVar i) := pe_var hN hv hd hcd
    rcases hm with rfl | rfl | rfl | rfl
    · exact pe_bm PySem.F.plainAttrs_list PySem.F.slot_list_append PySem.F.type_list_append mt_append pvr h (by rfl) hfew hline hs hplain
    · exact pe_bm PySem.F.plainAttrs_list PySem.F.slot_list_extend PySem.F.type_list_extend mt_extend pvr h (by rfl) hfew hline hs hplain
    · exact pe_bm PySem.F.plainAttrs_list PySem.F.slot_list_insert PySem.F.type_list_insert mt_insert pvr h (by rfl) hfew hline hs hplain
    · exact pe_bm PySem.F.plainAttrs_list PySem.F.slot_list_pop PySem.F.type_list_pop mt_popAt pvr h (by rfl) hfew hline hs hplain
  refine pe_mono key fun σ H Q q => ?_
  obtain ⟨v, h1, h2, h3⟩ := mth_read (h := h) O m q
  exact ⟨v, h1, O.K ▸ h2, h3⟩
theorem ve_mth0 (O : Ok X F) (m : Mt) {i : Nat} {x : Str} {px ap : Pos} (hN : X.N[i]? = some x) (hv : Vis X.env.scope x) (hd : (x == ("__debug__" : Str)) = false) (hcd : (x == ("__classdict__" : Str)) = false) (hm : m = .pop ∨ m = .reverse)
    (hline : (ap.endLine == pos.line) = true) :
    VE X F (.Call (.Attribute (.Name x px) (nmM m) ap) [] [] pos) fun ρ Q => isOwn (gt ρ i) = true ∧ frz [] ρ fun ds ρ2 => mthS m i ds ρ2 Q := by
  have key : PE X (.Call (.Attribute (.Name x px) (nmM m) ap) [] [] pos) (tBM0 X.K "list" (rM m) (tVar i)) := by
    have pvr : PE X (.Name x px) (tVar i) := pe_var hN hv hd hcd
    rcases hm with rfl | rfl
    · exact pe_bm0 PySem.F.plainAttrs_list PySem.F.slot_list_pop PySem.F.type_list_pop mt_pop pvr (by rfl) hline
    · exact pe_bm0 PySem.F.plainAttrs_list PySem.F.slot_list_reverse PySem.F.type_list_reverse mt_reverse pvr (by rfl) hline
  refine pe_mono key fun σ H Q ⟨as, ρ, Q', E, w, c⟩ => ?_
  obtain ⟨v, h1, h2, as', ρ', Q'', E', w', c''⟩ := mth_read (h := va_nil) (wl := fun ρ Q => Q [] ρ) O m ⟨as, ρ, Q', E, w, c⟩
  refine ⟨v, h1, O.K ▸ h2, c'' as' [] ρ' [] H (Aft.refl E') rfl w'⟩

/-! ### what a def promises, over the heap -/
/-- a result, from the caller's side -/
def RQ (K : PySem.W.Frag) (av : Addr → Prop) (g : Option Addr) (H H' : Hp) : R → V → Prop
  | .val d, v => Rep K H' av d v
  | .slot _, _ => False
  | .fresh ds, v => ∃ b xs, v = .ref b ∧ (H b = none ∨ g = some b) ∧ ¬ av b ∧ H' b = some (.lst xs) ∧ Reps K H' (fun c => av c ∨ c = b) ds xs
/-- the addresses of a new list, if it is one -/
def nw : R → V → Addr → Prop
  | .fresh _, v, c => v = .ref c
  | _, _, _ => False
def spR (K : PySem.W.Frag) (f : VF) (vs : List V) (H : Hp) (Q : VK) : Prop := ∃ (ds : List D) (ex : Addr → Prop) (q : R → Option (List D) → Prop), (∀ b, ex b → H b ≠ none) ∧ Reps K H ex ds vs ∧ f.sp ds q ∧
  ∀ r v H' o, Ext (fun _ => False) H H' → RQ K ex none H H' r v → q r o → Q v H'
def spW (K : PySem.W.Frag) (f : VF) (vs : List V) (H : Hp) (Q : VK) : Prop := ∃ (a : Addr) (xs : List V) (ds0 rest : List D) (vr : List V) (ex : Addr → Prop) (q : R → Option (List D) → Prop), vs = .ref a :: vr ∧ (∀ b, ex b → H b ≠ none) ∧ ¬ ex a ∧ H a = some (.lst xs) ∧
  Reps K H (fun c => ex c ∨ c = a) ds0 xs ∧ Reps K H (fun c => ex c ∨ c = a) rest vr ∧ f.sp (.lst ds0 :: rest) q ∧
  ∀ r v H' o, Ext (fun c => c = a) H H' → RQ K (fun c => ex c ∨ c = a) none H H' r v →
    (∀ ds', o = some ds' → ∃ ys, H' a = some (.lst ys) ∧ Reps K H' (fun c => (ex c ∨ c = a) ∨ nw r v c) ds' ys) → q r o → Q v H'
def spG (K : PySem.W.Frag) (f : VF) (vs : List V) (H : Hp) (Q : VK) : Prop := ∃ (a : Addr) (xs : List V) (ds0 rest : List D) (vr : List V) (ex : Addr → Prop) (q : R → Option (List D) → Prop), vs = .ref a :: vr ∧ (∀ b, ex b → H b ≠ none) ∧ ¬ ex a ∧ H a = some (.lst xs) ∧
  Reps K H (fun c => ex c ∨ c = a) ds0 xs ∧ Reps K H (fun c => ex c ∨ c = a) rest vr ∧ f.sp (.lst ds0 :: rest) q ∧
  ∀ d v H' o, Ext (fun c => c = a) H H' → Rep K H' ex d v → q (.val d) o → Q v H'
def spOf (K : PySem.W.Frag) (n : Nat) (f : VF) : Sp := fun vs H Q _ => vs.length = n ∧ match f.kind with
  | .read => spR K f vs H Q
  | .take => spR K f vs H Q
  | .wrt => spW K f vs H Q
  | .give => spG K f vs H Q
  | .wrtB => ∃ v0 va, vs = [v0, va] ∧ spW K f [va, v0] H Q

theorem ER.go {ex' : Addr → Prop} (E : ER F as σ H ρ) (l : Le as' as) (hx : ∀ c, ex' c → F.ex c ∨ (H c = none ∧ H' c ≠ none)) {W : Addr → Prop} (e : Ext W H H') (hW : ∀ c, W c → F.av as c ∧ (F.H0 c = none ∨ F.ch c)) (hl : ρ'.length = ρ.length)
    (hs : ∀ j, (gt ρ' j = gt ρ j ∧ as' j = as j ∧ ∀ b, as j = some b → ¬ W b) ∨ SlAt { F with ex := ex' } H' as' j σ[j]? (gt ρ' j)) : ER { F with ex := ex' } as' σ H' ρ' := by
  have key : ∀ b, H b ≠ none → Fr.av { F with ex := ex' } as' b → F.av as b := fun b hb z => by
    rcases z with z | z | z
    · rcases hx b z with z | ⟨z, _⟩
      · exact .inl z
      · exact absurd z hb
    · exact .inr (.inl (let ⟨i, q⟩ := z; ⟨i, l i b q⟩))
    · exact .inr (.inr z)
  have ea : Ext (fun b => F.av as b ∨ Fr.av { F with ex := ex' } as' b) H H' := e.mono fun c z => .inl (hW c z).1
  have kb : ∀ b, H b ≠ none → (F.av as b ∨ Fr.av { F with ex := ex' } as' b) → F.av as b := fun b hb z => z.elim (fun z => z) (key b hb)
  have rep : ∀ {d : D} {v : V}, Rep F.K H (F.av as) d v → Rep F.K H' (Fr.av { F with ex := ex' } as') d v := fun r => Rep.wk (fun _ _ z => .inr z) (Rep.ext ea (Rep.wk kb r))
  have reps : ∀ {d : List D} {v : List V}, Reps F.K H (F.av as) d v → Reps F.K H' (Fr.av { F with ex := ex' } as') d v := fun r => Reps.wk (fun _ _ z => .inr z) (Reps.ext ea (Reps.wk kb r))
  have nW : ∀ a o, F.H0 a = some o → ¬ F.ch a → ¬ W a := fun a o h n z => by
    rcases (hW a z).2 with q | q
    · rw [q] at h; cases h
    · exact n q
  refine ⟨hl.trans E.len, fun i j b hi hj => E.inj i j b (l i b hi) (l j b hj), fun i b hi z => ?_, fun j => ?_, ⟨fun a o h n => e.keep a o (E.old.keep a o h n) (nW a o h n), fun a o h n => e.other a o (E.old.other a o h n) n, fun a o h => let ⟨o', h'⟩ := E.old.there a o h; e.there a o' h'⟩, fun i b hi => E.own i b (l i b hi), fun b z q => ?_, E.mok, fun p hp => rep (E.kept p hp)⟩
  · rcases hx b z with z | ⟨z, _⟩
    · exact E.nex i b (l i b hi) z
    · exact E.notav z (.inr (.inl ⟨i, l i b hi⟩))
  · rcases hs j with ⟨h1, h2, h3⟩ | h
    · show SlAt _ _ _ j σ[j]? (gt ρ' j)
      rw [h1]
      have q := E.sl j
      change SlAt F H as j σ[j]? (gt ρ j) at q
      cases z : gt ρ j with
      | un => rw [z] at q; exact h2.trans q
      | val d =>
        rw [z] at q
        obtain ⟨q1, v, q2, q3⟩ := q
        exact ⟨h2.trans q1, v, q2, rep q3⟩
      | own ds =>
        rw [z] at q
        obtain ⟨b, xs, q1, q2, q3, q4, q5⟩ := q
        exact ⟨b, xs, h2.trans q1, q2, q3, e.keep _ _ q4 (h3 b q1), reps q5⟩
      | par ds =>
        rw [z] at q
        obtain ⟨b, xs, q1, q2, q3, q4, q5⟩ := q
        exact ⟨b, xs, h2.trans q1, q2, q3, e.keep _ _ q4 (h3 b q1), reps q5⟩
    · exact h
  · rcases z with z | z
    · rcases hx b z with z | ⟨_, z⟩
      · exact E.exo b (.inl z) (e.free q)
      · exact z q
    · exact E.exo b (.inr z) (e.free q)
theorem ER.own_ch (E : ER F as σ H ρ) {i : Nat} {b : Addr} (h : as i = some b) : F.av as b ∧ (F.H0 b = none ∨ F.ch b) :=
  ⟨.inr (.inl ⟨i, h⟩), (E.own i b h).imp id fun z => z.elim .inr .inl⟩
/-- behind a call that changes nothing of ours -/
theorem ER.new_ (E : ER F as σ H ρ) {p : Addr} (n : H p = none) (e : Ext (fun _ => False) H H') (hp : H' p ≠ none) : ER (F.with p) as σ H' ρ :=
  E.go (ex' := fun c => F.ex c ∨ c = p) (Le.refl _) (fun c z => z.elim .inl fun z => .inr (z ▸ ⟨n, hp⟩)) e (fun _ z => z.elim) rfl fun j => .inl ⟨rfl, rfl, fun _ _ z => z⟩

/-! ### calls -/
variable {Γ : Nat → VF}
theorem Gots.length : ∀ {ds : List D} {vs : List V}, Gots F as H ds vs → vs.length = ds.length
  | [], vs, h => by unfold Gots at h; subst h; rfl
  | d :: ds, vs, h => by
    obtain ⟨v, vr, rfl, _, h2⟩ := h
    rw [List.length_cons, List.length_cons, Gots.length h2]
theorem Gots.reps : ∀ {ds : List D} {vs : List V}, Gots F as H ds vs → Reps F.K H (fun _ => False) ds vs
  | [], vs, h => h
  | d :: ds, vs, h => by
    obtain ⟨v, vr, rfl, h1, h2⟩ := h
    exact Reps.cons h1.rep (Gots.reps h2)
/-- read without slots: values that avoid what may be written -/
theorem Wts.rdsN (E : ER F as σ H ρ) : ∀ {rs : List R} {vs : List V} {k : List D → Prop}, Wts F as H rs vs → noSlots rs = true → VL.rds rs ρ k → ∃ ds, Reps F.K H (F.av as) ds vs ∧ k ds
  | [], _, k, h, _, q => ⟨[], h, q⟩
  | r :: rs, _, k, ⟨v, vr, e1, h1, h2⟩, hn, q => by
    subst e1
    unfold noSlots at hn
    obtain ⟨n1, n2⟩ := Bool.and_eq_true_iff.mp hn
    obtain ⟨as0, H0, l0, e0, w⟩ := h1
    cases r with
    | slot i => exact absurd n1 (fun z => nomatch z)
    | val d =>
      obtain ⟨ds, g, q⟩ := Wts.rdsN E h2 n2 q
      exact ⟨d :: ds, Reps.cons (Rep.wk (fun _ _ z => l0.av z) (Rep.ext (e0.mono fun _ => mu_av) w)) g, q⟩
    | fresh es =>
      obtain ⟨ds, g, q⟩ := Wts.rdsN E h2 n2 q
      exact ⟨.lst es :: ds, Reps.cons (Rep.wk (fun _ _ z => l0.av z) (Rep.ext (e0.mono fun _ => mu_av) (show Rep F.K H0 (F.av as0) (.lst es) v from w))) g, q⟩
theorem E_av (E : ER F as σ H ρ) : ∀ b, F.av as b → H b ≠ none := fun b z n => E.notav n z
/-- a def that may write its first argument, a slot's list -/
theorem wrt_sound (f : VF) {rest : List R} {v0 : V} {vr : List V} {Q : VK} {Q' : R → En → Prop} {i : Nat} (E : ER F as σ H ρ) (w0 : Wt F as H (.slot i) v0) (wr : Wts F as H rest vr) (hn : noSlots rest = true)
    (fin : ∀ as' r ρ' v H', Aft F as as' σ H H' ρ' → RP F as' σ H H' ρ' r v → Q' r ρ' → Q v H') (ds0 : List D) (z : gt ρ i = .own ds0 ∨ gt ρ i = .par ds0) (s : List D → Sl) (hs : ∀ d, (gt ρ i = .own ds0 → s d = .own d) ∧ (gt ρ i = .par ds0 → s d = .par d))
    (q : VL.rds rest ρ fun ds => f.sp (.lst ds0 :: ds) fun r o => ∃ ds', o = some ds' ∧ Q' r (ρ.set i (s ds'))) : spW F.K f (v0 :: vr) H Q := by
  obtain ⟨a, xs, h1, h2, h3, h4⟩ := E.list z
  obtain ⟨as0, H0, l0, e0, a', g1, g2⟩ := w0
  have := l0 i a h1
  rw [g1] at this; cases this
  obtain ⟨ds, g, q⟩ := wr.rdsN E hn q
  have ex_iff : ∀ c, ((F.av as c ∧ c ≠ a) ∨ c = a) ↔ F.av as c := fun c => ⟨fun z => z.elim (fun z => z.1) fun z => z ▸ .inr (.inl ⟨i, h1⟩), fun z => by by_cases q : c = a; exact .inr q; exact .inl ⟨z, q⟩⟩
  refine ⟨a, xs, ds0, ds, vr, fun c => F.av as c ∧ c ≠ a, _, by rw [g2], fun b z => E_av E b z.1, fun z => z.2 rfl, h3, Reps.wk (fun c _ z => (ex_iff c).mp z) h4, Reps.wk (fun c _ z => (ex_iff c).mp z) g, q, fun r v H' o e P hO ⟨ds', ho, q⟩ => ?_⟩
  obtain ⟨ys, y1, y2⟩ := hO ds' ho
  have hil : i < ρ.length := by rcases z with z | z <;> exact gt_lt z (fun z => nomatch z)
  have hmu : ∀ c, c = a → F.mu as c := fun c z => .inl ⟨i, z ▸ h1⟩
  have mk : ∀ (ex' : Addr → Prop), (∀ c, ex' c → F.ex c ∨ (H c = none ∧ H' c ≠ none)) → (∀ c, ex' c → F.ex c ∨ nw r v c) → ER { F with ex := ex' } as σ H' (ρ.set i (s ds')) := fun ex' hx hx2 => by
    refine E.go (Le.refl _) hx e (fun c z => z ▸ E.own_ch h1) (by rw [List.length_set]) fun j => ?_
    by_cases q : j = i
    · subst q
      refine .inr ?_
      rw [gt_set ρ hil]
      have q := E.sl j
      change SlAt F H as j σ[j]? (gt ρ j) at q
      have yy : Reps F.K H' (Fr.av { F with ex := ex' } as) ds' ys := Reps.wk (fun c _ z => by
        rcases z with z | z | z
        · rcases hx2 c z with z | z
          · exact .inl ((ex_iff c).mpr (.inl z))
          · exact .inr z
        · exact .inl ((ex_iff c).mpr (.inr (.inl z)))
        · exact .inl ((ex_iff c).mpr (.inr (.inr z)))) y2
      rcases z with z | z
      · rw [(hs ds').1 z]
        rw [z] at q
        obtain ⟨b, xs', q1, q2, q3, q4, q5⟩ := q
        rw [h1] at q1; cases q1
        exact ⟨a, ys, h1, q2, q3, y1, yy⟩
      · rw [(hs ds').2 z]
        rw [z] at q
        obtain ⟨b, xs', q1, q2, q3, q4, q5⟩ := q
        rw [h1] at q1; cases q1
        exact ⟨a, ys, h1, q2, q3, y1, yy⟩
    · exact .inl ⟨gt_ne ρ q, rfl, fun b hb z => q (E.inj j i b hb (z ▸ h1))⟩
  refine fin as r (ρ.set i (s ds')) v H' ⟨Le.refl _, mk F.ex (fun c z => .inl z) (fun c z => .inl z), e.mono hmu⟩ ?_ q
  cases r with
  | val d => exact Rep.wk (fun c _ z => (ex_iff c).mpr z) P
  | slot i => exact P.elim
  | fresh es =>
    obtain ⟨b, xs', k1, k2, k3, k4, k5⟩ := P
    have k2 : H b = none := k2.elim id (fun z => nomatch z)
    refine ⟨b, xs', k1, k2, fun z => k3 ((ex_iff b).mpr z), k4, Reps.wk (fun c _ z => (of_with z).elim (fun z => .inl ((ex_iff c).mpr z)) .inr) k5, ?_⟩
    exact mk (fun c => F.ex c ∨ c = b) (fun c z => z.elim .inl fun z => .inr (z ▸ ⟨k2, by rw [k4]; exact fun z => nomatch z⟩)) fun c z => z.elim .inl fun z => .inr (by rw [z]; exact k1)
theorem call_sound (O : Ok X F) (f : VF) {n : Nat} {rs : List R} {vs : List V} {Q : VK} {Q' : R → En → Prop} (E : ER F as σ H ρ) (W : Wts F as H rs vs) (hl : rs.length = n) (hnf : ∀ ds rest, f.kind = .wrt → rs ≠ .fresh ds :: rest) (q : callR f rs ρ Q')
    (fin : ∀ as' r ρ' v H', Aft F as as' σ H H' ρ' → RP F as' σ H H' ρ' r v → Q' r ρ' → Q v H') (Ex : XK) : spOf F.K n f vs H Q Ex := by
  have wl : ∀ {rs : List R} {vs : List V}, Wts F as H rs vs → vs.length = rs.length := by
    intro rs
    induction rs with
    | nil => intro vs h; cases h; rfl
    | cons r rs ih => intro vs ⟨v, vr, e, _, h⟩; subst e; rw [List.length_cons, List.length_cons, ih h]
  refine ⟨(wl W).trans hl, ?_⟩
  unfold callR at q
  cases hk : f.kind with
  | read =>
    simp only [hk] at q ⊢
    by_cases hs : noSlots rs = true
    · obtain ⟨ds, g, q⟩ := W.rdsN E hs q
      refine ⟨ds, F.av as, _, E_av E, g, q, fun r v H' o e P ⟨_, q⟩ => ?_⟩
      refine fin as r ρ v H' ⟨Le.refl _, E.grow e, e.mono fun _ z => z.elim⟩ ?_ q
      cases r with
      | val d => exact P
      | slot i => exact P.elim
      | fresh es =>
        obtain ⟨b, xs, h1, h2, h3, h4, h5⟩ := P
        have h2 : H b = none := h2.elim id (fun z => nomatch z)
        exact ⟨b, xs, h1, h2, h3, h4, Reps.wk (fun c _ z => of_with z) h5, E.new_ h2 e (by rw [h4]; exact fun z => nomatch z)⟩
    · obtain ⟨ds, g, q⟩ := W.rds E q
      refine ⟨ds, fun _ => False, _, fun _ z => z.elim, g.reps, q, fun r v H' o e P ⟨hz, q⟩ => ?_⟩
      have hf : lfR r = true := hz.elim (fun z => absurd z hs) id
      refine fin as r ρ v H' ⟨Le.refl _, E.grow e, e.mono fun _ z => z.elim⟩ ?_ q
      cases r with
      | val d => exact Rep.lf_av hf P
      | slot i => exact P.elim
      | fresh es =>
        obtain ⟨b, xs, h1, h2, h3, h4, h5⟩ := P
        have h2 : H b = none := h2.elim id (fun z => nomatch z)
        exact ⟨b, xs, h1, h2, E.notav h2, h4, Reps.lf_av hf h5, E.new_ h2 e (by rw [h4]; exact fun z => nomatch z)⟩
  | take =>
    simp only [hk] at q ⊢
    obtain ⟨ds, as2, ρ2, l, E2, g, q⟩ := W.frz E q
    refine ⟨ds, F.av as2, _, E_av E2, g, q, fun r v H' o e P q => ?_⟩
    refine fin as2 r ρ2 v H' ⟨l, E2.grow e, e.mono fun _ z => z.elim⟩ ?_ q
    cases r with
    | val d => exact P
    | slot i => exact P.elim
    | fresh es =>
      obtain ⟨b, xs, h1, h2, h3, h4, h5⟩ := P
      have h2 : H b = none := h2.elim id (fun z => nomatch z)
      exact ⟨b, xs, h1, h2, h3, h4, Reps.wk (fun c _ z => of_with z) h5, E2.new_ h2 e (by rw [h4]; exact fun z => nomatch z)⟩
  | wrt =>
    simp only [hk] at q ⊢
    cases rs with
    | nil => exact q.elim
    | cons r0 rest =>
    obtain ⟨v0, vr, rfl, w0, wr⟩ := W
    cases r0 with
    | val d => exact q.elim
    | fresh es => exact absurd rfl (hnf es rest hk)
    | slot i =>
      obtain ⟨hn, q⟩ := q
      cases z : gt ρ i with
      | un => simp only [z] at q
      | val d => simp only [z] at q
      | own ds0 =>
        simp only [z] at q
        exact wrt_sound f E w0 wr hn fin ds0 (.inl z) .own (fun d => ⟨fun _ => rfl, fun h => (by rw [z] at h; cases h)⟩) q
      | par ds0 =>
        simp only [z] at q
        exact wrt_sound f E w0 wr hn fin ds0 (.inr z) .par (fun d => ⟨fun h => (by rw [z] at h; cases h), fun _ => rfl⟩) q
  | wrtB =>
    simp only [hk] at q ⊢
    match rs, q with
    | [r0, .slot i], q =>
      obtain ⟨v0, vr, rfl, w0, wr⟩ := W
      obtain ⟨v1, vr1, rfl, w1, wr1⟩ := wr
      have wr1 : vr1 = [] := wr1
      subst wr1
      obtain ⟨hn, q⟩ := q
      refine ⟨v0, v1, rfl, ?_⟩
      have w : Wts F as H [r0] [v0] := ⟨v0, [], rfl, w0, rfl⟩
      cases z : gt ρ i with
      | un => simp only [z] at q
      | val d => simp only [z] at q
      | own ds0 =>
        simp only [z] at q
        exact wrt_sound f E w1 w hn fin ds0 (.inl z) .own (fun d => ⟨fun _ => rfl, fun h => (by rw [z] at h; cases h)⟩) q
      | par ds0 =>
        simp only [z] at q
        exact wrt_sound f E w1 w hn fin ds0 (.inr z) .par (fun d => ⟨fun h => (by rw [z] at h; cases h), fun _ => rfl⟩) q
  | give =>
    simp only [hk] at q ⊢
    cases rs with
    | nil => exact q.elim
    | cons r0 rest =>
    obtain ⟨v0, vr, rfl, w0, wr⟩ := W
    cases r0 with
    | val d => exact q.elim
    | fresh es => exact q.elim
    | slot i =>
      obtain ⟨hn, q⟩ := q
      cases z : gt ρ i with
      | un => simp only [z] at q
      | val d => simp only [z] at q
      | par d => simp only [z] at q
      | own ds0 =>
        simp only [z] at q
        obtain ⟨a, xs, h1, h2, h3, h4⟩ := E.list (.inl z)
        obtain ⟨as0, H0, l0, e0, a', g1, g2⟩ := w0
        have := l0 i a h1
        rw [g1] at this; cases this
        obtain ⟨ds, g, q⟩ := wr.rdsN E hn q
        have ex_iff : ∀ c, ((F.av as c ∧ c ≠ a) ∨ c = a) ↔ F.av as c := fun c => ⟨fun z => z.elim (fun z => z.1) fun z => z ▸ .inr (.inl ⟨i, h1⟩), fun z => by by_cases q : c = a; exact .inr q; exact .inl ⟨z, q⟩⟩
        have nm : F.m ≠ some a := fun z' => by
          have q := E.sl i
          change SlAt F H as i σ[i]? (gt ρ i) at q
          rw [z] at q
          obtain ⟨b, xs', q1, q2, q3, q4, q5⟩ := q
          rw [h1] at q1; cases q1
          obtain ⟨m1, m2⟩ := E.mok a z'
          exact q2.elim m1 m2
        have av' : ∀ c, F.av (cutAs as i) c → F.av as c ∧ c ≠ a := fun c z => by
          refine ⟨(cut_le as i).av z, fun q => ?_⟩
          subst q
          rcases z with z | ⟨j, z⟩ | z
          · exact E.nex i c h1 z
          · have := E.inj i j c h1 (cut_le as i j c z)
            subst this
            rw [cut_self] at z; cases z
          · exact nm z
        refine ⟨a, xs, ds0, ds, vr, fun c => F.av as c ∧ c ≠ a, _, by rw [g2], fun b z => E_av E b z.1, fun z => z.2 rfl, h3, Reps.wk (fun c _ z => (ex_iff c).mp z) h4, Reps.wk (fun c _ z => (ex_iff c).mp z) g, q, fun d v H' o e P q => ?_⟩
        have hil : i < ρ.length := gt_lt z (fun z => nomatch z)
        have mk : ∀ (ex' : Addr → Prop), (∀ c, ex' c → F.ex c ∨ (H c = none ∧ H' c ≠ none)) → ER { F with ex := ex' } (cutAs as i) σ H' (ρ.set i .un) := fun ex' hx => by
          refine E.go (cut_le as i) hx e (fun c z => z ▸ E.own_ch h1) (by rw [List.length_set]) fun j => ?_
          by_cases q : j = i
          · subst q
            refine .inr ?_
            rw [gt_set ρ hil]
            exact cut_self as j
          · exact .inl ⟨gt_ne ρ q, cut_ne as q, fun b hb z => q (E.inj j i b hb (z ▸ h1))⟩
        exact fin (cutAs as i) (.val d) (ρ.set i .un) v H' ⟨cut_le as i, mk F.ex (fun c z => .inl z), e.mono fun c z => .inl ⟨i, z ▸ h1⟩⟩ (Rep.wk (fun c _ z => av' c z) P) q
/-- .. its first argument a new list -/
theorem wrt_fresh (f : VF) {b : Addr} {xs : List V} {ds0 : List D} {rest : List R} {vr : List V} {Q : VK} {Q' : R → En → Prop} (E : ER (F.with b) as σ H ρ) (hb : H b = some (.lst xs)) (h0 : F.H0 b = none ∨ F.g = some b) (r0 : Reps F.K H ((F.with b).av as) ds0 xs)
    (hnb : ¬ F.av as b) (wr : Wts (F.with b) as H rest vr) (hn : noSlots rest = true)
    (fin2 : ∀ r v H', ER F as σ H' ρ → Ext (fun c => c = b) H H' → RP F as σ H H' ρ r v → Q' r ρ → Q v H')
    (q : VL.rds rest ρ fun ds => f.sp (.lst ds0 :: ds) fun r _ => Q' r ρ) : spW F.K f (.ref b :: vr) H Q := by
  obtain ⟨ds, g, q⟩ := wr.rdsN E hn q
  refine ⟨b, xs, ds0, ds, vr, F.av as, _, rfl, fun c z => E_av E c (with_av z), hnb, hb, Reps.wk (fun c _ z => ?_) r0, Reps.wk (fun c _ z => ?_) g, q, fun r v H' o e P hO q => ?_⟩
  · exact z.elim with_av fun z => .inl (.inr z)
  · exact z.elim with_av fun z => .inl (.inr z)
  have mk : ∀ (ex' : Addr → Prop), (∀ c, ex' c → (F.with b).ex c ∨ (H c = none ∧ H' c ≠ none)) → ER { F with ex := ex' } as σ H' ρ := fun ex' hx =>
    ER.go (F := F.with b) (W := fun c => c = b) E (Le.refl _) hx e (fun c z => ⟨.inl (.inr z), by subst z; exact h0.imp id .inr⟩) rfl fun j => .inl ⟨rfl, rfl, fun c hc z => E.nex j c hc (.inr z)⟩
  refine fin2 r v H' (mk F.ex fun c z => .inl (.inl z)) e ?_ q
  cases r with
  | val d => exact Rep.wk (fun c _ z => .inl z) P
  | slot i => exact P.elim
  | fresh es =>
    obtain ⟨c, xs', k1, k2, k3, k4, k5⟩ := P
    have k2 : H c = none := k2.elim id (fun z => nomatch z)
    refine ⟨c, xs', k1, k2, fun z => k3 (.inl z), k4, Reps.wk (fun c' _ z => (of_with z).elim (fun z => .inl (.inl z)) .inr) k5, ?_⟩
    exact mk (fun c' => F.ex c' ∨ c' = c) (fun c' z => z.elim (fun z => .inl (.inl z)) fun z => .inr (z ▸ ⟨k2, by rw [k4]; exact fun z => nomatch z⟩))

theorem rws_len : ∀ {rs : List R} {vs : List V}, RWs F as H rs vs → vs.length = rs.length
  | [], vs, h => by unfold RWs at h; subst h; rfl
  | r :: rs, vs, h => by
    obtain ⟨v, vr, rfl, _, h2⟩ := h
    rw [List.length_cons, List.length_cons, rws_len h2]
/-- f(e, ..) -/
theorem ve_call (O : Ok X F) (f : VF) {k : Nat} {fa : Addr} {fd : FuncData} {ps : List Str} {x : Str} (G : FnOk X.prog X.w X.K X.mg X.base CX0 k fa fd ps (spOf F.K ps.length f)) (hr : Room k X.A) (hg : Gl X x) (hm : X.mg x = some (.ref fa)) (hkp : PySem.W.keepIn X.K (.ref fa) = true)
    (hb : Binds X.K fd ps []) (hdb : (x == ("__debug__" : Str)) = false) (ha : VE X F e wa) (har : ∀ F', F'.K = F.K → VA X F' es wl) {n : Nat} (hl : n = ps.length)
    (he : starEach (e :: es) X.env = (false, eval e X.env) :: starEach es X.env) (hpl : (backTo pos (starEach es X.env)).any (·.1) = false) :
    VE X F (.Call (.Name x p) (e :: es) [] pos) fun ρ Q => wa ρ fun r ρ1 => wl ρ1 fun rs ρ2 => (r :: rs).length = n ∧ callR f (r :: rs) ρ2 Q := by
  have hR : PA X es fun σ H Q => ∃ F' : Fr, F'.K = F.K ∧ lA F' wl σ H Q := ⟨fun pos pins s σ H Q I ⟨F', h, q⟩ => (har F' h).run pos pins s σ H Q I q⟩
  refine pe_mono (pe_call G hr hg hm hkp hb .nil pass0 (pa_cons ha hR he) hdb he hpl) fun σ H Q ⟨as, ρ, Q', E, w, c⟩ => ?_
  refine ⟨as, ρ, _, E, w, fun as1 r ρ1 v H1 A1 P1 q1 => ?_⟩
  -- where nothing is to be kept apart
  have plain : (∀ ds rest, f.kind = .wrt → ∀ rs, r :: rs ≠ .fresh ds :: rest) → ∃ F' : Fr, F'.K = F.K ∧ lA F' wl σ H1 fun xs H2 => spOf F.K ps.length f ((v :: xs) ++ []) H2 Q E0 := fun hnf =>
    ⟨F, rfl, as1, ρ1, _, A1.er, q1, fun as2 rs ρ2 vs H2 A2 W ⟨hq, q2⟩ => by
      show spOf F.K ps.length f ((v :: vs) ++ []) H2 Q E0
      rw [List.append_nil]
      refine call_sound O f A2.er (rs := r :: rs) ⟨v, vs, rfl, P1.wt.step A2.le A2.ext, wts_of W⟩ ?_ (fun ds rest h => hnf ds rest h rs) q2 (fun as' r ρ' v H' A P q => c as' r ρ' v H' ((A1.trans A2).trans A) (P.back (A1.trans A2).ext) q) E0
      rw [← hl, hq]⟩
  by_cases hk : f.kind = .wrt
  · cases r with
    | val d => exact plain fun _ _ _ _ z => nomatch z
    | slot i => exact plain fun _ _ _ _ z => nomatch z
    | fresh ds0 =>
      obtain ⟨b, xs, rfl, h0, h1, h2, h3, h4⟩ := P1
      refine ⟨F.with b, rfl, as1, ρ1, _, h4, q1, fun as2 rs ρ2 vs H2 A2 W ⟨hq, q2⟩ => ?_⟩
      show spOf F.K ps.length f ((V.ref b :: vs) ++ []) H2 Q E0
      rw [List.append_nil]
      have hl2 : (V.ref b :: vs).length = ps.length := by rw [← hl, ← hq, List.length_cons, List.length_cons, rws_len W]
      refine ⟨hl2, ?_⟩
      simp only [hk]
      unfold callR at q2
      simp only [hk] at q2
      have nmu : ¬ (F.with b).mu as1 b := fun z => by
        rcases z with ⟨i, z⟩ | z
        · exact h4.nex i b z (.inr rfl)
        · exact h1 (.inr (.inr z))
      have hb2 : H2 b = some (.lst xs) := A2.ext.keep b _ h2 nmu
      have nav2 : ¬ F.av as2 b := fun z => h1 (A2.le.av (F := F) z)
      have r2 : Reps F.K H2 ((F.with b).av as2) ds0 xs := Reps.wk (fun _ _ z => A2.le.av (F := F.with b) z) (Reps.ext (A2.ext.mono fun _ z => mu_av (F := F.with b) z) h3)
      refine wrt_fresh f A2.er hb2 (.inl (E.fresh h0)) r2 nav2 (wts_of W) q2.1 (fun r v H' E' e' P q => ?_) q2.2
      have A : Aft F as as2 σ H H' ρ2 := by
        refine ⟨A2.le.trans A1.le, E', ?_⟩
        have x1 : Ext (F.mu as) H H2 := A1.ext.trans (A2.ext.mono fun c z => A1.le.mu (F := F) z)
        refine ⟨fun a o h n => ?_, fun a o h n => e'.other a o (x1.other a o h n) n, fun a o h => let ⟨o', h'⟩ := x1.there a o h; e'.there a o' h'⟩
        have g := x1.keep a o h n
        by_cases hab : a = b
        · subst hab
          rw [h0] at h; cases h
        · exact e'.keep a o g hab
      exact c as2 r ρ2 v H' A (P.back (A1.ext.trans (A2.ext.mono fun c z => A1.le.mu (F := F) z))) q
  · exact plain fun _ _ z => absurd z hk
/-- f() -/
theorem ve_call0 (O : Ok X F) (f : VF) {k : Nat} {fa : Addr} {fd : FuncData} {ps : List Str} {x : Str} (G : FnOk X.prog X.w X.K X.mg X.base CX0 k fa fd ps (spOf F.K ps.length f)) (hr : Room k X.A) (hg : Gl X x) (hm : X.mg x = some (.ref fa)) (hkp : PySem.W.keepIn X.K (.ref fa) = true)
    (hb : Binds X.K fd ps []) (hdb : (x == ("__debug__" : Str)) = false) (hl : 0 = ps.length) :
    VE X F (.Call (.Name x p) [] [] pos) fun ρ Q => ([] : List R).length = 0 ∧ callR f [] ρ Q := by
  refine pe_mono (pe_call0 G hr hg hm hkp hb .nil pass0 hdb) fun σ H Q ⟨as, ρ, Q', E, ⟨_, w⟩, c⟩ => ?_
  show spOf F.K ps.length f ([] ++ []) H Q E0
  exact call_sound O f E (rs := []) (vs := []) rfl hl (fun ds rest _ z => nomatch z) w c E0
end
end VL

/-! VL9: enumerate over a tuple. -/
namespace VL
open PySem PySem.Spec L2
set_option maxHeartbeats 1000000 in
theorem enumT_meets (t : Addr) (xs : Array Value) (n : Nat) (dd : Option Addr) (sl : Array (Option Value)) :
    Meets (Builtin.«enumerate.__new__» ⟨[.type "enumerate", .ref t], []⟩) (fun _ R s => s.heap.get? t = some { cls := .type "tuple", dict := dd, data := .seq xs n, slots := sl } ∧
      R (.ok (.ret (.ref (s.heap.push { cls := .type "tuple_iterator", data := .fields #[.ref t, .int 0 0] }).objs.size)))
        { s with heap := (s.heap.push { cls := .type "tuple_iterator", data := .fields #[.ref t, .int 0 0] }).push { cls := .type "enumerate", data := .fields #[.none, .bool false, .ref s.heap.objs.size, rawInt 0, .none, .none] } }) :=
  .of_wp fun prog w A R s hyp => by
    obtain ⟨hp, gg, dr, tok, osx⟩ := s
    obtain ⟨ht, hyp⟩ := hyp
    have hT : Heap.IsTuple (Shared.heap ⟨hp, gg, dr, tok, osx⟩) t xs := ⟨_, ht, rfl, n, rfl⟩
    have subE := sub_enumerate
    wp_walk using AutoSeq1.wpAny_loadPart' ht
    refine wpAny_stack_any fun fr => wpAny_pure ?_
    split
    · rename_i c _ _ _ _ _
      cases (c == Value.type "enumerate")
      · wp_walk using AutoSeq1.wpAny_loadPart' ht, wpAny_pyIter_tuple hT
        exact ⟨_, rfl, hyp⟩
      · wp_walk using AutoSeq1.wpAny_loadPart' ht, wpAny_pyIter_tuple hT
        exact ⟨_, rfl, hyp⟩
    · wp_walk using AutoSeq1.wpAny_loadPart' ht, wpAny_pyIter_tuple hT
      exact ⟨_, rfl, hyp⟩
theorem enumT_call {prog : Program} {w : World} {A : Around} {E : Value → Shared → Prop} {s : Shared} {t : Addr} {xs : Array Value} {Q : Value → Shared → Prop} (hT : s.heap.IsTuple t xs)
    (q : ∀ h', IsEnum h' (s.heap.objs.size + 1) s.heap.objs.size 0 .none → h'.IsTupleIter s.heap.objs.size t 0 → (∀ b o, s.heap.get? b = some o → h'.get? b = some o) → Q (.ref (s.heap.objs.size + 1)) { s with heap := h' }) :
    wpAny (model prog w) A (call (.type "enumerate") [.ref t]) Q E s := by
  obtain ⟨⟨cc, dd, dat, sl⟩, ho, e1, n, e2⟩ := hT
  obtain rfl : cc = .type "tuple" := e1
  obtain rfl : dat = .seq xs n := e2
  refine callType_new F.called_enumerate (by decide) (F.typeCall_enumerate_1 _) (F.newCall_enumerate_1 _) (fun obj => F.args_object_init_2 obj _) F.entry_enumerate_new (enumT_meets t xs n dd sl) ⟨ho, ?_⟩
  have sz : (s.heap.push { cls := .type "tuple_iterator", data := .fields #[.ref t, .int 0 0] }).objs.size = s.heap.objs.size + 1 := Heap.size_push ..
  show _ ∧ _
  rw [sz]
  have hE : IsEnum ((s.heap.push { cls := .type "tuple_iterator", data := .fields #[.ref t, .int 0 0] }).push
      { cls := .type "enumerate", data := .fields #[.none, .bool false, .ref s.heap.objs.size, rawInt 0, .none, .none] }) (s.heap.objs.size + 1) s.heap.objs.size 0 .none := by
    have g := Heap.get?_push_size (s.heap.push { cls := .type "tuple_iterator", data := .fields #[.ref t, .int 0 0] })
      (o := { cls := .type "enumerate", data := .fields #[.none, .bool false, .ref s.heap.objs.size, rawInt 0, .none, .none] }) rfl
    rw [sz] at g
    exact g
  exact ⟨⟨_, hE, rfl⟩, q _ hE ⟨_, Heap.get?_push_of_some _ (Heap.get?_push_size _ rfl), rfl, rfl⟩ fun b o y => Heap.get?_push_of_some _ (Heap.get?_push_of_some _ y)⟩

/-- the tuple at a, each item in a new pair with its place -/
def IteT (K : PySem.W.Frag) (a : Addr) : L2.It :=
  ⟨fun i H => ∃ (xs : List V) (x : V), SqT K H a xs ∧ xs[i]? = some x, fun i H v H' => ∃ T x, v = .ref T ∧ H T = none ∧ H' = upd H T (.tup [.int (i : Nat), x]) ∧ ∀ xs, SqT K H a xs → xs[i]? = some x, fun i H => ∃ xs : List V, SqT K H a xs ∧ xs.length = i⟩
theorem turn_enumT {P : Program} {w : World} {K : PySem.W.Frag} {elts : List Expr} {kk : Nat} {tpos : Pos} (a e it : Addr) :
    L2.Turn P w K (.Tuple elts kk tpos) (IteT K a) [e, it] e (fun i h => (∃ old, IsEnum h e it ((i : Nat) : Int) old) ∧ h.IsTupleIter it a i ∧ e ≠ it) where
  mem := List.mem_cons_self
  obj := fun i h st b hb => by
    obtain ⟨⟨old, he⟩, ⟨o, ho, hc, hd⟩, _⟩ := st
    rcases List.mem_cons.mp hb with z | z
    · subst z; exact ⟨_, he, fun v q => nomatch q⟩
    · rw [List.mem_singleton.mp z]; exact ⟨o, ho, fun v q => by rw [hd] at q; cases q⟩
  keep := fun i h h' st k => let ⟨⟨old, he⟩, hi, hne⟩ := st; ⟨⟨old, k e (by simp) _ he⟩, hi.at fun o q => k it (by simp) o q, hne⟩
  item := by
    intro X hP hw hK hc i pins s σ H E I hf st hg
    subst hP hw hK
    obtain ⟨⟨old, he⟩, hit, hne⟩ := st
    obtain ⟨xs, x, hq, hx⟩ := hg
    obtain ⟨its, rv, p, hz⟩ := I.tuple hq
    obtain ⟨u, hu, ru⟩ := rv.get hx
    have elt : e < s.heap.objs.size := Heap.lt_size he
    have ilt : it < s.heap.objs.size := by obtain ⟨_, q, _⟩ := hit; exact Heap.lt_size q
    have hp : s.heap.IsTuple a its.toArray := p
    have ai : a ≠ it := fun z => by
      subst z
      obtain ⟨o1, g1, g2, _⟩ := hit
      obtain ⟨o2, g3, g4, _⟩ := hp
      rw [g1] at g3; cases g3
      rw [g2] at g4; exact absurd g4 (by decide)
    have ae : a ≠ e := fun z => by
      subst z
      obtain ⟨o2, g3, g4, _⟩ := hp
      rw [show s.heap.get? a = _ from he] at g3; cases g3
      exact absurd (show Value.type "enumerate" = Value.type "tuple" from g4) (by decide)
    have lt : i < its.toArray.size := by
      have := (List.getElem?_eq_some_iff.mp hu).1
      simpa using this
    refine wpAny_pyNext_enum_itemD (Draws.tuple (A := X.A.in1) (I.ok.hd hc) it a ai its.toArray) he ⟨hit, hp⟩ lt hne (by simp [hne, Ne.symm ae]) fun x' h' tk hx' ho hst hT hsz hk => ?_
    have ex : x' = u := by
      have := hx'
      simp only [List.getElem?_toArray] at this
      rw [hu] at this
      exact (Option.some.inj this).symm
    subst ex
    obtain ⟨hit', _⟩ := hst
    refine ⟨_, rfl, wpAny_letOwnedTupleGo_enum (s := { s with heap := h', toks := tk + 1 }) ho fun h'' he' sb => ?_⟩
    have hT2 : h''.get? s.heap.objs.size = some { cls := .type "tuple", data := .seq #[.int i tk, x'] } := (sb.2 _ (Nat.ne_of_gt elt)).trans hT
    have new : ObjOk X.prog X.w (upd H s.heap.objs.size (.tup [.int (i : Nat), x])) h'' s.heap.objs.size (.tup [.int (i : Nat), x]) :=
      ⟨by show 2 ≤ sizeLine; decide, [.int i tk, x'], .cons ⟨_, rfl⟩ (.cons ru .nil), ⟨_, hT2, rfl, _, rfl⟩⟩
    have I1 : Inv X pins σ (upd H s.heap.objs.size (.tup [.int (i : Nat), x])) { s with heap := h'', toks := tk + 1 } :=
      I.turnedNew (ch := [e, it]) (fun b ob hb q => (sb.2 b (fun z => hb (by simp [z]))).trans (hk b ob (fun z => hb (by simp [z])) (fun z => hb (by simp [z])) q)) hf (Nat.le_refl _) new
    refine ⟨.ref s.heap.objs.size, _, I1, rfl, ⟨_, x, rfl, I.hok.fresh (Nat.le_refl _), rfl, fun ys hy => by rw [I.tuple_inj hy hq]; exact hx⟩, ⟨⟨x', ?_⟩, hit'.at fun o q => (sb.2 it (Ne.symm hne)).trans q, hne⟩, fun b hb => ?_⟩
    · rw [show ((i + 1 : Nat) : Int) = (i : Int) + 1 by omega]; exact he'
    · have hb' : b < s.heap.objs.size := by
        rcases List.mem_cons.mp hb with z | z
        · rw [z]; exact elt
        · rw [List.mem_singleton.mp z]; exact ilt
      rw [upd_ne (Nat.ne_of_lt hb')]
      exact (hf b hb).1
  done := by
    intro X hP hw hK hc i pins s σ H E I hf st hg
    subst hP hw hK
    obtain ⟨⟨old, he⟩, hit, hne⟩ := st
    obtain ⟨xs, hq, hx⟩ := hg
    obtain ⟨its, rv, p, hz⟩ := I.tuple hq
    obtain ⟨f0, f1, f2, f3, f4, f5⟩ := hf it (by simp)
    have hp : s.heap.IsTuple a its.toArray := p
    have ai : a ≠ it := fun z => by
      subst z
      obtain ⟨o1, g1, g2, _⟩ := hit
      obtain ⟨o2, g3, g4, _⟩ := hp
      rw [g1] at g3; cases g3
      rw [g2] at g4; exact absurd g4 (by decide)
    have hl := rv.length
    have en : its.toArray.size = i := by simp; omega
    subst hx
    refine wpAny_pyNext_enum_endD (Draws.tuple (A := X.A.in1) (I.ok.hd hc) it a ai its.toArray) he ⟨?_, hp⟩ fun h' eb => ⟨rfl, I.turned (t' := s.toks) (fun b o hb q => eb b o hb q) f0 f1 f3 f4 f5⟩
    rw [en]; exact hit
  self := fun A i s Q E st h => let ⟨⟨_, he⟩, _⟩ := st; wpAny_pyIter_enum he h
/-- enumerate(x), x a list or a tuple -/
def iEnumA (K : PySem.W.Frag) (ta : TA) : TI := fun σ H R => ta σ H fun vs H1 => ∃ a xs, vs = [.ref a] ∧ ((SqL K H1 a xs ∧ R (Ite K a) H1) ∨ (SqT K H1 a xs ∧ R (IteT K a) H1))
theorem pi_enumA {X : Cx} {e : Expr} {ta : TA} {p pos tpos : Pos} {elts : List Expr} {kk : Nat} (hg : Gl X "enumerate") (hm : X.mg "enumerate" = none) (ha : PA X [e] ta) (hs : starEach [e] X.env = [(false, eval e X.env)]) :
    PI X (.Tuple elts kk tpos) (.Call (.Name "enumerate" p) [e] [] pos) (iEnumA X.K ta) := by
  refine ⟨fun pins s σ H R I h => ?_⟩
  refine PyProof.Rows.Call_ (ld_blt I hg hm PyProof.Rows.boot_enumerate (PyProof.Rows.callWith_type1 (thn (ha.run pos pins s σ H _ I h) fun us s1 ⟨vs, H1, I1, r1, q1⟩ => ?_) hs rfl))
  obtain ⟨a, xs, ex, q1⟩ := q1
  subst ex
  obtain ⟨u, rfl, r⟩ := Vals.one r1
  cases r
  have two : ∀ b, b ∈ [s1.heap.objs.size + 1, s1.heap.objs.size] → FpOk X pins H1 b := fun b hb => by
    have le : s1.heap.objs.size ≤ b := by
      rcases List.mem_cons.mp hb with z | z
      · rw [z]; exact Nat.le_add_right _ _
      · rw [List.mem_singleton.mp z]; exact Nat.le_refl _
    exact I1.fpOk le (I1.hok.fresh le)
  rcases q1 with ⟨hq, q⟩ | ⟨hq, q⟩
  · obtain ⟨its, rv, p', hz⟩ := I1.list hq
    refine call_enumerate_list p'.isList fun h' he hit hsz hk => wpAny_pyIter_enum he ?_
    exact ⟨s1.heap.objs.size + 1, _, _, _, H1, rfl, I1.kept (t' := s1.toks) hk, turn_enum a (s1.heap.objs.size + 1) s1.heap.objs.size, ⟨⟨.none, he⟩, hit, Nat.succ_ne_self _⟩, two, q⟩
  · obtain ⟨its, rv, p', hz⟩ := I1.tuple hq
    refine enumT_call (show s1.heap.IsTuple a its.toArray from p') fun h' he hit hk => wpAny_pyIter_enum he ?_
    exact ⟨s1.heap.objs.size + 1, _, _, _, H1, rfl, I1.kept (t' := s1.toks) hk, turn_enumT a (s1.heap.objs.size + 1) s1.heap.objs.size, ⟨⟨.none, he⟩, hit, Nat.succ_ne_self _⟩, two, q⟩
theorem walk_enumT {K : PySem.W.Frag} {a : Addr} {xs : List V} : Walk (IteT K a) xs.length (fun H => SqT K H a xs) (YPair (fun i => some (.int (i : Nat))) (fun i => xs[i]?)) := by
  refine ⟨fun i _ hi q => ⟨xs, xs[i], q, by simp [hi]⟩, fun _ q => ⟨xs, q, rfl⟩, fun i H v H' _ q ⟨T, x, h1, h2, h3, h4⟩ => ?_⟩
  exact ⟨T, .int (i : Nat), x, h1, h2, h3, rfl, h4 xs q⟩
/-! ### range of great numbers -/
theorem turn_rangeL {P : Program} {w : World} {K : PySem.W.Frag} {tg : Expr} (it : Addr) (lo c : Int) (n : Nat) : Turn P w K tg (Itc lo c n) [it] it (fun i h => IsLongIter h it (lo + (i : Nat) * c) ((n : Int) - (i : Nat)) c) where
  mem := by simp
  obj := fun i h st b hb => by
    have e : b = it := by simpa using hb
    subst e
    exact ⟨_, st, fun v z => nomatch z⟩
  keep := fun i h h' st k => k it (by simp) _ st
  item := by
    intro X hP hw hK hc i pins s σ H E I hf st hg
    subst hP hw hK
    obtain ⟨f0, f1, f2, f3, f4, f5⟩ := hf it (by simp)
    have W := Walks.longrange (prog := X.prog) (w := X.w) (I.ok.hd hc) it lo c n
    refine W.item i s _ _ hg st fun v h' tk hv st' kk => ?_
    obtain ⟨t, rfl⟩ := hv
    have I1 : Inv X pins σ H { s with heap := h', toks := tk } := I.turned (fun b o hb e => kk b o (by simpa using hb) e) f0 f1 f3 f4 f5
    exact ⟨_, rfl, go_of (s := { s with heap := h', toks := tk }) (n := "longrange_iterator") st' rfl rfl (by decide) ⟨.int (lo + (i : Nat) * c), H, I1, ⟨t, rfl⟩, ⟨rfl, rfl⟩, st', fun b hb => (hf b hb).1⟩⟩
  done := by
    intro X hP hw hK hc i pins s σ H E I hf st hg
    subst hP hw hK
    obtain ⟨f0, f1, f2, f3, f4, f5⟩ := hf it (by simp)
    exact wpAny_pyNext_long_end (I.ok.hd hc) st (by have : n ≤ i := hg; omega) fun h' eb => ⟨rfl, I.turned (t' := s.toks) (fun b o hb e => eb b o hb e) f0 f1 f3 f4 f5⟩
  self := fun A i s Q E st h => wpAny_pyIter_longiter st h
theorem rsz1 (i j : Int) : Builtin.Range.rangeSize i j 1 = ((j - i).toNat : Int) := by rw [PySem.rangeSize_one]; split <;> omega
def iRng2L (ta : TA) : TI := fun σ H R => ta σ H fun vs H1 => ∃ i j : Int, vs = [.int i, .int j] ∧ R (Itc i 1 (j - i).toNat) H1
theorem pi_range2L {X : Cx} {tg a b : Expr} {ta : TA} {p pos : Pos} (hg : Gl X "range") (hm : X.mg "range" = none) (ha : PA X [a, b] ta) (hs : starEach [a, b] X.env = [(false, eval a X.env), (false, eval b X.env)]) (hs2 : starEach [b] X.env = [(false, eval b X.env)]) :
    PI X tg (.Call (.Name "range" p) [a, b] [] pos) (iRng2L ta) := by
  refine ⟨fun pins s σ H R I h => ?_⟩
  refine PyProof.Rows.Call_ (ld_blt I hg hm PyProof.Rows.boot_range (PyProof.Rows.callWith_type1 (thn (ha.run pos pins s σ H _ I h) fun us s1 ⟨vs, H1, I1, r1, q1⟩ => ?_) (by rw [hs, hs2]) (by rw [hs2]; rfl)))
  obtain ⟨i, j, e, q⟩ := q1
  subst e
  cases r1 with
  | cons r rr =>
    cases rr with
    | cons r' rr =>
      cases rr
      obtain ⟨t, rfl⟩ := r
      obtain ⟨t', rfl⟩ := r'
      refine call_range_2 ?_
      have I2 : Inv X pins σ H1 { s1 with heap := s1.heap.push { cls := .type "range", data := .fields #[.int i t, .int j t', .int 1 s1.toks] }, toks := s1.toks + 1 } := I1.kept (t' := s1.toks + 1) fun b o e => Heap.get?_push_of_some _ e
      have e1 : i + ((0 : Nat) : Int) * 1 = i := by simp
      have e2 : (((j - i).toNat : Nat) : Int) - ((0 : Nat) : Int) = Builtin.Range.rangeSize i j 1 := by rw [rsz1]; simp
      cases hc : Builtin.Range.small i j 1 with
      | true =>
        refine wpAny_pyIter_range (IsRange.new ..) hc ?_
        refine pi_one (tk := s1.toks + 1) I2 _ (turn_rangeC _ i 1 _) ?_ q
        show IsRangeIter _ _ (i + ((0 : Nat) : Int) * 1) ((((j - i).toNat : Nat) : Int) - ((0 : Nat) : Int)) 1
        rw [e1, e2]
        exact Heap.get?_push_size _ rfl
      | false =>
        refine wpAny_pyIter_longrange (IsRange.new ..) hc ?_
        refine pi_one (tk := s1.toks + 1) I2 _ (turn_rangeL _ i 1 _) ?_ q
        show IsLongIter _ _ (i + ((0 : Nat) : Int) * 1) ((((j - i).toNat : Nat) : Int) - ((0 : Nat) : Int)) 1
        rw [e1, e2]
        exact Heap.get?_push_size _ rfl
end VL

/-! VL9z: zip of a tuple with a list, by the kit's zip over any two draws. -/
namespace VL
open PySem PySem.Spec PyProof.Rows L2
open RZ (ItzT turn_zipT)
/-- the tuple at a and the list at b as they stand at each turn, the items in new pairs -/
def ItzM (K : PySem.W.Frag) (a b : Addr) : L2.It :=
  ⟨fun i H => ∃ (xs ys : List V) (x y : V), SqT K H a xs ∧ SqL K H b ys ∧ xs[i]? = some x ∧ ys[i]? = some y,
    fun i H v H' => ∃ T x y, v = .ref T ∧ H T = none ∧ H' = upd H T (.tup [x, y]) ∧ (∀ xs, SqT K H a xs → xs[i]? = some x) ∧ ∀ ys, SqL K H b ys → ys[i]? = some y,
    fun i H => ∃ xs ys : List V, SqT K H a xs ∧ SqL K H b ys ∧ (xs.length ≤ i ∨ ys.length ≤ i)⟩
theorem zip_sep {z TI TO i1 i2 a b : Addr} (D : ZipApart z TI TO i1 i2 a b) : ZipSep2 z TI TO i1 i2 [i1, a] [i2, b] where
  TIz := D.TIz
  TOz := D.TOz
  TITO := D.TITO
  TIi1 := D.TIi1
  mem1 := by simp
  zf1 := by simp [D.i1z.symm, D.l1z.symm]
  Tf1 := by simp [D.TOi1, D.l1TO.symm]
  TIi2 := D.TIi2
  mem2 := by simp
  zf2 := by simp [D.i2z.symm, D.l2z.symm]
  Tf2 := by simp [D.TOi2, D.l2TO.symm]
  sep1_2 := by simp [D.i12, D.l2i1.symm]
  sep2_1 := by simp [D.i12.symm, D.l1i2.symm]
theorem draws_tup {prog : Program} {w : World} {A : Around} (hh : A.handled = none) (it t : Addr) (hne : t ≠ it) (items : Array Value) (i : Nat) :
    ∃ (n : Nat) (P : Nat → Value → Prop) (St : Nat → Heap → Prop), Draws prog w A it [it, t] n P St ∧ (∀ h, h.IsTupleIter it t i → h.IsTuple t items → St i h) ∧ i ≤ n ∧ (items.size ≤ i → i = n) := by
  by_cases c : i < items.size
  · exact ⟨_, _, _, Draws.tuple hh it t hne items, fun h a b => ⟨a, b⟩, Nat.le_of_lt c, fun z => by omega⟩
  · refine ⟨i, fun _ _ => False, fun k h => k = i ∧ h.IsTupleIter it t k ∧ h.IsTuple t items, ?_, fun h a b => ⟨rfl, a, b⟩, Nat.le_refl i, fun _ => rfl⟩
    refine ⟨fun _ _ st => let ⟨o, ho, _⟩ := st.2.1; ⟨o, ho⟩, fun _ _ _ st hk => ⟨st.1, st.2.1.at fun o e => hk it (by simp) o e, st.2.2.at fun o e => hk t (by simp) o e⟩, fun k s Q E hk st _ => absurd st.1 (by omega), fun s Q E st hE => wpAny_nextOf_tuple_end hh st.2.1 st.2.2 (by simp; omega) hE⟩
theorem draws_lst {prog : Program} {w : World} {A : Around} (hh : A.handled = none) (it t : Addr) (hne : t ≠ it) (items : Array Value) (i : Nat) :
    ∃ (n : Nat) (P : Nat → Value → Prop) (St : Nat → Heap → Prop), Draws prog w A it [it, t] n P St ∧ (∀ h, h.IsListIter it t i → h.IsList t items → St i h) ∧ i ≤ n ∧ (items.size ≤ i → i = n) := by
  by_cases c : i < items.size
  · exact ⟨_, _, _, Draws.list hh it t hne items, fun h a b => ⟨a, b⟩, Nat.le_of_lt c, fun z => by omega⟩
  · refine ⟨i, fun _ _ => False, fun k h => k = i ∧ h.IsListIter it t k ∧ h.IsList t items, ?_, fun h a b => ⟨rfl, a, b⟩, Nat.le_refl i, fun _ => rfl⟩
    refine ⟨fun _ _ st => let ⟨o, ho, _⟩ := st.2.1; ⟨o, ho⟩, fun _ _ _ st hk => ⟨st.1, st.2.1.at fun o e => hk it (by simp) o e, st.2.2.at fun o e => hk t (by simp) o e⟩, fun k s Q E hk st _ => absurd st.1 (by omega), fun s Q E st hE => wpAny_nextOf_list_end hh st.2.1 st.2.2 (by simp; omega) hE⟩
theorem turn_zipM {P : Program} {w : World} {K : PySem.W.Frag} {elts : List Expr} {kk : Nat} {tpos : Pos} {a b z TI TO i1 i2 : Addr} (D : ZipApart z TI TO i1 i2 a b) :
    Turn P w K (.Tuple elts kk tpos) (ItzM K a b) [z, TI, TO, i1, i2] z (fun i h => IsZip h z TI TO .none ∧ IsPair h TI (.ref i1) (.ref i2) ∧ (∃ x y, IsPair h TO x y) ∧ h.IsTupleIter i1 a i ∧ h.IsListIter i2 b i) where
  mem := by simp
  obj := fun i h st c hc => by
    obtain ⟨hz, hTI, ⟨x, y, hTO⟩, ⟨o1, e1, _, d1⟩, ⟨o2, e2, _, d2⟩⟩ := st
    have e' : c = z ∨ c = TI ∨ c = TO ∨ c = i1 ∨ c = i2 := by simpa using hc
    rcases e' with q | q | q | q | q
    · rw [q]; exact ⟨_, hz, fun v q => nomatch q⟩
    · rw [q]; exact ⟨_, hTI, fun v q => nomatch q⟩
    · rw [q]; exact ⟨_, hTO, fun v q => nomatch q⟩
    · rw [q]; exact ⟨o1, e1, fun v q => by rw [d1] at q; cases q⟩
    · rw [q]; exact ⟨o2, e2, fun v q => by rw [d2] at q; cases q⟩
  keep := fun i h h' st k => by
    obtain ⟨hz, hTI, ⟨x, y, hTO⟩, h1, h2⟩ := st
    exact ⟨k z (by simp) _ hz, k TI (by simp) _ hTI, ⟨x, y, k TO (by simp) _ hTO⟩, h1.at fun o q => k i1 (by simp) o q, h2.at fun o q => k i2 (by simp) o q⟩
  item := by
    intro X hP hw hK hc i pins s σ H E I hf st hg
    subst hP hw hK
    obtain ⟨hz, hTI, ⟨x0, y0, hTO⟩, h1, h2⟩ := st
    obtain ⟨xs, ys, x, y, hqx, hqy, hx, hy⟩ := hg
    obtain ⟨its, rv, p, _⟩ := I.tuple hqx
    obtain ⟨its2, rv2, p2, _⟩ := I.list hqy
    obtain ⟨u, hu, ru⟩ := rv.get hx
    obtain ⟨u2, hu2, ru2⟩ := rv2.get hy
    have hzl : z < s.heap.objs.size := Heap.lt_size hz
    have hh : X.A.in1.handled = none := I.ok.hd hc
    have D1 := Draws.tuple (prog := X.prog) (w := X.w) (A := X.A.in1) hh i1 a D.l1i1 its.toArray
    have D2 := Draws.list (prog := X.prog) (w := X.w) (A := X.A.in1) hh i2 b D.l2i2 its2.toArray
    have n1 : i < its.toArray.size := by rw [List.size_toArray]; exact (List.getElem?_eq_some_iff.mp hu).1
    have n2 : i < its2.toArray.size := by rw [List.size_toArray]; exact (List.getElem?_eq_some_iff.mp hu2).1
    refine wpAny_pyNext_zipD2_item (zip_sep D) D1 D2 hz hTI hTO ⟨h1, p⟩ ⟨h2, p2.isList⟩ n1 n2 fun x1 x2 h' tk hx1 hx2 z' TO' h1' h2' hT hsz hk => ?_
    have e1 : x1 = u := by
      have : its.toArray[i]? = some x1 := hx1
      rw [show its.toArray[i]? = some u by simpa using hu] at this
      exact (Option.some.inj this).symm
    have e2 : x2 = u2 := by
      have : its2.toArray[i]? = some x2 := hx2
      rw [show its2.toArray[i]? = some u2 by simpa using hu2] at this
      exact (Option.some.inj this).symm
    subst e1 e2
    refine ⟨_, rfl, wpAny_letOwnedTupleGo_zip (s := { s with heap := h', toks := tk }) z' fun h'' z'' sb => ?_⟩
    have hT2 : h''.get? s.heap.objs.size = some { cls := .type "tuple", data := .seq #[x1, x2] } := (sb.2 _ (Nat.ne_of_gt hzl)).trans hT
    have new : ObjOk X.prog X.w (upd H s.heap.objs.size (.tup [x, y])) h'' s.heap.objs.size (.tup [x, y]) :=
      ⟨by show 2 ≤ sizeLine; decide, [x1, x2], .cons ru (.cons ru2 .nil), ⟨_, hT2, rfl, _, rfl⟩⟩
    have I1 : Inv X pins σ (upd H s.heap.objs.size (.tup [x, y])) { s with heap := h'', toks := tk } :=
      I.turnedNew (t' := tk) (ch := [z, TI, TO, i1, i2]) (fun c o hb q => (sb.2 c (fun q' => hb (by simp [q']))).trans (hk c o (fun q' => hb (by simp [q'])) (fun q' => hb (by simp [q'])) (fun q' => hb (by simp [q'])) (fun q' => hb (by simp [q'])) q)) hf (Nat.le_refl _) new
    refine ⟨.ref s.heap.objs.size, _, I1, rfl, ⟨_, x, y, rfl, I.hok.fresh (Nat.le_refl _), rfl, fun l hl => by rw [I.tuple_inj hl hqx]; exact hx, fun l hl => by rw [I.list_inj hl hqy]; exact hy⟩, ⟨z'', ?_, ⟨x1, x2, ?_⟩, ?_, ?_⟩, fun c hcm => ?_⟩
    · exact (sb.2 _ D.TIz).trans (hk _ _ D.TIz D.TITO D.TIi1 D.TIi2 hTI)
    · exact (sb.2 _ D.TOz).trans TO'
    · exact h1'.1.at fun o q => (sb.2 _ D.i1z).trans q
    · exact h2'.1.at fun o q => (sb.2 _ D.i2z).trans q
    · have hlt : c < s.heap.objs.size := by
        have e' : c = z ∨ c = TI ∨ c = TO ∨ c = i1 ∨ c = i2 := by simpa using hcm
        rcases e' with q | q | q | q | q
        · rw [q]; exact hzl
        · rw [q]; exact Heap.lt_size hTI
        · rw [q]; exact Heap.lt_size hTO
        · rw [q]; obtain ⟨_, e1, _⟩ := h1; exact Heap.lt_size e1
        · rw [q]; obtain ⟨_, e2, _⟩ := h2; exact Heap.lt_size e2
      rw [upd_ne (Nat.ne_of_lt hlt)]
      exact (hf c hcm).1
  done := by
    intro X hP hw hK hc i pins s σ H E I hf st hg
    subst hP hw hK
    obtain ⟨hz, hTI, ⟨x0, y0, hTO⟩, h1, h2⟩ := st
    obtain ⟨xs, ys, hqx, hqy, hend⟩ := hg
    obtain ⟨its, rv, p, _⟩ := I.tuple hqx
    obtain ⟨its2, rv2, p2, _⟩ := I.list hqy
    have l1 := rv.length
    have l2 := rv2.length
    have hh : X.A.in1.handled = none := I.ok.hd hc
    obtain ⟨n1, P1, St1, D1, s1, le1, e1⟩ := draws_tup (prog := X.prog) (w := X.w) hh i1 a D.l1i1 its.toArray i
    obtain ⟨n2, P2, St2, D2, s2, le2, e2⟩ := draws_lst (prog := X.prog) (w := X.w) hh i2 b D.l2i2 its2.toArray i
    rw [List.size_toArray] at e1 e2
    exact wpAny_pyNext_zipD2_end (zip_sep D) D1 D2 hz hTI hTO (s1 _ h1 p) (s2 _ h2 p2.isList) le1 le2 (by rcases hend with q | q; exact .inl (e1 (by omega)); exact .inr (e2 (by omega))) fun h' tk hk => ⟨rfl, I.turnedL (t' := tk) (ch := [z, TI, TO, i1, i2]) (fun c o hb q =>
      hk c o (fun q' => hb (by simp [q'])) (fun q' => hb (by simp [q'])) (fun q' => hb (by simp [q'])) (fun q' => hb (by simp [q'])) q) hf⟩
  self := fun A i s Q E st h => wpAny_pyIter_zip st.1 h
def iZipM (K : PySem.W.Frag) (ta : TA) : TI := fun σ H R => ta σ H fun vs H1 => ∃ a b xs ys, vs = [.ref a, .ref b] ∧ ((SqL K H1 a xs ∧ SqL K H1 b ys ∧ R (Itz K a b) H1) ∨ (SqT K H1 a xs ∧ SqT K H1 b ys ∧ R (ItzT K a b) H1) ∨ (SqT K H1 a xs ∧ SqL K H1 b ys ∧ R (ItzM K a b) H1))
theorem pi_zipM {X : Cx} {e e2 : Expr} {ta : TA} {p pos tpos : Pos} {elts : List Expr} {kk : Nat} (hg : Gl X "zip") (hm : X.mg "zip" = none) (ha : PA X [e, e2] ta)
    (hs : starEach [e, e2] X.env = (false, eval e X.env) :: starEach [e2] X.env := by rfl) (hpl : (backTo pos (starEach [e2] X.env)).any (·.1) = false := by rfl) :
    PI X (.Tuple elts kk tpos) (.Call (.Name "zip" p) [e, e2] [] pos) (iZipM X.K ta) := by
  refine ⟨fun pins s σ H R I h => ?_⟩
  refine Call_ (ld_blt I hg hm PyProof.Rows.boot_zip (PyProof.Rows.callWith_type1 (thn (ha.run pos pins s σ H _ I h) fun us s1 ⟨vs, H1, I1, r1, q1⟩ => ?_) hs hpl))
  obtain ⟨a, b, xs, ys, ex, q1⟩ := q1
  subst ex
  obtain ⟨rfl⟩ : us = [.ref a, .ref b] := by
    cases r1 with
    | cons r rr =>
      cases rr with
      | cons r' rr =>
        cases rr
        cases r
        cases r'
        rfl
  have fresh5 : ∀ c, c ∈ [s1.heap.objs.size + 4, s1.heap.objs.size + 2, s1.heap.objs.size + 3, s1.heap.objs.size, s1.heap.objs.size + 1] → FpOk X pins H1 c := fun c hcm => by
    have hle : s1.heap.objs.size ≤ c := by
      simp at hcm
      omega
    exact I1.fpOk hle (I1.hok.fresh hle)
  rcases q1 with ⟨hqx, hqy, q⟩ | ⟨hqx, hqy, q⟩ | ⟨hqx, hqy, q⟩
  · obtain ⟨its, rv, p1, _⟩ := I1.list hqx
    obtain ⟨its2, rv2, p2, _⟩ := I1.list hqy
    refine zip_begins2 (begins_list a its.toArray) (begins_list b its2.toArray) p1.isList p2.isList fun h' hz hTI hTO h1 h2 hsz hk => wpAny_pyIter_zip hz ?_
    exact ⟨_, _, _, _, H1, rfl, I1.kept (t' := s1.toks) hk, turn_zip (PySem.W.ktu_apart s1.heap.objs.size a b p1.lt p2.lt), ⟨hz, hTI, ⟨_, _, hTO⟩, ⟨_, h1, rfl, rfl⟩, ⟨_, h2, rfl, rfl⟩⟩, fresh5, q⟩
  · obtain ⟨its, rv, p1, _⟩ := I1.tuple hqx
    obtain ⟨its2, rv2, p2, _⟩ := I1.tuple hqy
    obtain ⟨o1, ho1, _⟩ := id p1
    obtain ⟨o2, ho2, _⟩ := id p2
    refine zip_begins2 (begins_tuple a its.toArray) (begins_tuple b its2.toArray) p1 p2 fun h' hz hTI hTO h1 h2 hsz hk => wpAny_pyIter_zip hz ?_
    exact ⟨_, _, _, _, H1, rfl, I1.kept (t' := s1.toks) hk, turn_zipT (PySem.W.ktu_apart s1.heap.objs.size a b (Heap.lt_size ho1) (Heap.lt_size ho2)), ⟨hz, hTI, ⟨_, _, hTO⟩, ⟨_, h1, rfl, rfl⟩, ⟨_, h2, rfl, rfl⟩⟩, fresh5, q⟩
  · obtain ⟨its, rv, p1, _⟩ := I1.tuple hqx
    obtain ⟨its2, rv2, p2, _⟩ := I1.list hqy
    obtain ⟨o1, ho1, _⟩ := id p1
    refine zip_begins2 (begins_tuple a its.toArray) (begins_list b its2.toArray) p1 p2.isList fun h' hz hTI hTO h1 h2 hsz hk => wpAny_pyIter_zip hz ?_
    exact ⟨_, _, _, _, H1, rfl, I1.kept (t' := s1.toks) hk, turn_zipM (PySem.W.ktu_apart s1.heap.objs.size a b (Heap.lt_size ho1) p2.lt), ⟨hz, hTI, ⟨_, _, hTO⟩, ⟨_, h1, rfl, rfl⟩, ⟨_, h2, rfl, rfl⟩⟩, fresh5, q⟩
end VL

/-! VL10: what is walked. -/
namespace VL
open PySem PySem.Spec L2
open RT (ItvT pi_revA)
open RZ (ItzT pi_zipA)
def KpAt (K : PySem.W.Frag) (H : Hp) (av : Addr → Prop) (ps : List (D × V)) : Prop := ∀ p ∈ ps, Rep K H av p.1 p.2
/-- an iterator by the data that it gives, while the kept things stand -/
structure Itd (K : PySem.W.Frag) (J : L2.It) (its : List D) (ps : List (D × V)) : Prop where
  goes : ∀ i H av, i < its.length → KpAt K H av ps → J.go i H
  stops : ∀ H av, KpAt K H av ps → J.stop its.length H
  ylds : ∀ i H x H' av, i < its.length → KpAt K H av ps → J.yld i H x H' → Ext (fun _ => False) H H' ∧ ∃ d, its[i]? = some d ∧ Rep K H' av d x
def Kept (F : Fr) (ps : List (D × V)) : Fr := { F with kp := ps ++ F.kp }
def lI (F : Fr) (w : En → (List D → En → Prop) → Prop) : TI := fun σ H R => ∃ as ρ Q', ER F as σ H ρ ∧ w ρ Q' ∧
  ∀ as' its ρ' H' J ps, Aft F as as' σ H H' ρ' → ER (Kept F ps) as' σ H' ρ' → Itd F.K J its ps → Q' its ρ' → R J H'
abbrev VI (X : Cx) (F : Fr) (tg it : Expr) (w : En → (List D → En → Prop) → Prop) : Prop := PI X tg it (lI F w)
section
variable {X : Cx} {F : Fr} {as as' as1 as2 : As} {σ : L2.St} {H H' H1 H2 : Hp} {ρ ρ' ρ1 ρ2 : En} {e a b c : Expr} {es : List Expr} {wa wb wc : WE} {wl : WA} {pos p : Pos} {tg it : Expr}
theorem pi_mono {t t' : TI} (h : PI X tg it t) (m : ∀ σ H Q, t' σ H Q → t σ H Q) : PI X tg it t' := ⟨fun pins s σ H Q I q => h.run pins s σ H Q I (m σ H Q q)⟩
theorem ER.keep_ (E : ER F as σ H ρ) {ps : List (D × V)} (h : KpAt F.K H (F.av as) ps) : ER (Kept F ps) as σ H ρ :=
  ⟨E.len, E.inj, E.nex, fun i => E.sl i, E.old, E.own, E.exo, E.mok, fun p hp => (List.mem_append.mp hp).elim (h p) (E.kept p)⟩
theorem ER.unkeep {ps : List (D × V)} (E : ER (Kept F ps) as σ H ρ) : ER F as σ H ρ :=
  ⟨E.len, E.inj, E.nex, fun i => E.sl i, E.old, E.own, E.exo, E.mok, fun p hp => E.kept p (List.mem_append_right _ hp)⟩
theorem ER.kp {ps : List (D × V)} (E : ER (Kept F ps) as σ H ρ) : KpAt F.K H (F.av as) ps := fun p hp => E.kept p (List.mem_append_left _ hp)
theorem KpAt.one {K : PySem.W.Frag} {av : Addr → Prop} {d : D} {v : V} (h : Rep K H av d v) : KpAt K H av [(d, v)] := fun p hp => by
  rw [List.mem_singleton] at hp; subst hp; exact h
theorem KpAt.two {K : PySem.W.Frag} {av : Addr → Prop} {d d' : D} {v v' : V} (h : Rep K H av d v) (h' : Rep K H av d' v') : KpAt K H av [(d, v), (d', v')] := fun p hp => by
  rcases List.mem_cons.mp hp with z | z
  · subst z; exact h
  · rw [List.mem_singleton] at z; subst z; exact h'

/-- data that may be walked: its items -/
def seqOf : D → Option (List D)
  | .tup ds => some ds
  | .lst ds => some ds
  | .fix ds => some ds
  | _ => none
/-- .. at an address: a list or a tuple -/
theorem Rep.seq {K : PySem.W.Frag} {av : Addr → Prop} {d : D} {v : V} {ds : List D} (h : Rep K H av d v) (q : seqOf d = some ds) :
    ∃ a xs, v = .ref a ∧ Reps K H av ds xs ∧ ((∃ e, d = .tup e) ∧ SqT K H a xs ∨ (∀ e, d ≠ .tup e) ∧ SqL K H a xs) := by
  cases d with
  | tup e => cases q; unfold Rep at h; obtain ⟨a, xs, rfl, h1, h2⟩ := h; exact ⟨a, xs, rfl, h2, .inl ⟨⟨_, rfl⟩, h1⟩⟩
  | lst e => cases q; unfold Rep at h; obtain ⟨a, xs, rfl, h1, _, h2⟩ := h; exact ⟨a, xs, rfl, h2, .inr ⟨(fun _ z => nomatch z), .inl (.inl h1)⟩⟩
  | fix e => cases q; unfold Rep at h; obtain ⟨a, xs, rfl, h1, h2⟩ := h; exact ⟨a, xs, rfl, h2, .inr ⟨(fun _ z => nomatch z), h1.seq⟩⟩
  | non => cases q
  | bl _ => cases q
  | int _ => cases q
  | str _ => cases q
def isTup : D → Bool
  | .tup _ => true
  | _ => false
/-- the kinds: J for a list, J' for a tuple -/
def pick (d : D) (J J' : L2.It) : L2.It := if isTup d = true then J' else J
theorem repL {K : PySem.W.Frag} {av : Addr → Prop} {d : D} {a : Addr} {ds : List D} (h : Rep K H av d (.ref a)) (q : seqOf d = some ds) (n : isTup d = false) : ∃ xs, SqL K H a xs ∧ Reps K H av ds xs := by
  obtain ⟨a', xs, e, h1, h2⟩ := h.seq q
  cases e
  rcases h2 with ⟨⟨e, rfl⟩, _⟩ | ⟨_, h2⟩
  · cases n
  · exact ⟨xs, h2, h1⟩
theorem repT {K : PySem.W.Frag} {av : Addr → Prop} {d : D} {a : Addr} {ds : List D} (h : Rep K H av d (.ref a)) (q : seqOf d = some ds) (n : isTup d = true) : ∃ xs, SqT K H a xs ∧ Reps K H av ds xs := by
  obtain ⟨a', xs, e, h1, h2⟩ := h.seq q
  cases e
  rcases h2 with ⟨_, h2⟩ | ⟨h2, _⟩
  · exact ⟨xs, h2, h1⟩
  · cases d <;> first | exact absurd rfl (h2 _) | cases n
theorem Reps.item {K : PySem.W.Frag} {av : Addr → Prop} {ds : List D} {xs : List V} {i : Nat} (r : Reps K H av ds xs) (h : i < ds.length) : ∃ x, xs[i]? = some x := ⟨xs[i]'(by rw [r.length]; exact h), by rw [List.getElem?_eq_getElem]⟩
theorem itd_L {K : PySem.W.Frag} {d : D} {a : Addr} {ds : List D} (q : seqOf d = some ds) (n : isTup d = false) : Itd K (Itl K a) ds [(d, .ref a)] := by
  refine ⟨fun i H av hi k => ?_, fun H av k => ?_, fun i H x H' av hi k y => ?_⟩
  · obtain ⟨xs, h1, h2⟩ := repL (k _ (List.mem_singleton.mpr rfl)) q n
    obtain ⟨x, h3⟩ := h2.item hi
    exact ⟨xs, x, h1, h3⟩
  · obtain ⟨xs, h1, h2⟩ := repL (k _ (List.mem_singleton.mpr rfl)) q n
    exact ⟨xs, h1, Nat.le_of_eq h2.length⟩
  · obtain ⟨xs, h1, h2⟩ := repL (k _ (List.mem_singleton.mpr rfl)) q n
    obtain ⟨rfl, y⟩ := y
    exact ⟨Ext.refl _ _, h2.get' (y xs h1)⟩
theorem itd_T {K : PySem.W.Frag} {d : D} {a : Addr} {ds : List D} (q : seqOf d = some ds) (n : isTup d = true) : Itd K (Itt K a) ds [(d, .ref a)] := by
  refine ⟨fun i H av hi k => ?_, fun H av k => ?_, fun i H x H' av hi k y => ?_⟩
  · obtain ⟨xs, h1, h2⟩ := repT (k _ (List.mem_singleton.mpr rfl)) q n
    obtain ⟨x, h3⟩ := h2.item hi
    exact ⟨xs, x, h1, h3⟩
  · obtain ⟨xs, h1, h2⟩ := repT (k _ (List.mem_singleton.mpr rfl)) q n
    exact ⟨xs, h1, Nat.le_of_eq h2.length⟩
  · obtain ⟨xs, h1, h2⟩ := repT (k _ (List.mem_singleton.mpr rfl)) q n
    obtain ⟨rfl, y⟩ := y
    exact ⟨Ext.refl _ _, h2.get' (y xs h1)⟩
theorem rev_get {α : Type} (l : List α) {i : Nat} (h : i < l.length) : l.reverse[i]? = l[l.length - 1 - i]? := by
  rw [List.getElem?_reverse h]
theorem itd_vL {K : PySem.W.Frag} {d : D} {a : Addr} {ds : List D} {n : Nat} (hn : n = ds.length) (q : seqOf d = some ds) (t : isTup d = false) : Itd K (Itv K a n) ds.reverse [(d, .ref a)] := by
  subst hn
  refine ⟨fun i H av hi k => ?_, fun H av k => ?_, fun i H x H' av hi k y => ?_⟩
  · rw [List.length_reverse] at hi
    obtain ⟨xs, h1, h2⟩ := repL (k _ (List.mem_singleton.mpr rfl)) q t
    obtain ⟨x, h3⟩ := h2.item (i := ds.length - 1 - i) (by omega)
    exact ⟨hi, xs, x, h1, h3⟩
  · show ds.length ≤ ds.reverse.length
    rw [List.length_reverse]; exact Nat.le_refl _
  · rw [List.length_reverse] at hi
    obtain ⟨xs, h1, h2⟩ := repL (k _ (List.mem_singleton.mpr rfl)) q t
    obtain ⟨rfl, y⟩ := y
    rw [rev_get ds hi]
    exact ⟨Ext.refl _ _, h2.get' (y xs h1)⟩
theorem itd_vT {K : PySem.W.Frag} {d : D} {a : Addr} {ds : List D} {n : Nat} (hn : n = ds.length) (q : seqOf d = some ds) (t : isTup d = true) : Itd K (ItvT K a n) ds.reverse [(d, .ref a)] := by
  subst hn
  refine ⟨fun i H av hi k => ?_, fun H av k => ?_, fun i H x H' av hi k y => ?_⟩
  · rw [List.length_reverse] at hi
    obtain ⟨xs, h1, h2⟩ := repT (k _ (List.mem_singleton.mpr rfl)) q t
    obtain ⟨x, h3⟩ := h2.item (i := ds.length - 1 - i) (by omega)
    exact ⟨hi, xs, x, h1, h3⟩
  · show ds.length ≤ ds.reverse.length
    rw [List.length_reverse]; exact Nat.le_refl _
  · rw [List.length_reverse] at hi
    obtain ⟨xs, h1, h2⟩ := repT (k _ (List.mem_singleton.mpr rfl)) q t
    obtain ⟨rfl, y⟩ := y
    rw [rev_get ds hi]
    exact ⟨Ext.refl _ _, h2.get' (y xs h1)⟩
theorem pair_rep {K : PySem.W.Frag} {av : Addr → Prop} {T : Addr} {x y : V} {d d' : D} (n : H T = none) (h : Rep K H av d x) (h' : Rep K H av d' y) : Rep K (upd H T (.tup [x, y])) av (.tup [d, d']) (.ref T) :=
  rep_tup (.inl (.inl upd_same)) (Reps.cons (Rep.ext (Ext.new n) h) (Reps.cons (Rep.ext (Ext.new n) h') Reps.nil))
def enumD (ds : List D) : List D := ds.mapIdx fun i d => D.tup [.int (i : Nat), d]
theorem enumD_len (ds : List D) : (enumD ds).length = ds.length := by unfold enumD; simp
theorem enumD_get (ds : List D) {i : Nat} {d : D} (h : ds[i]? = some d) : (enumD ds)[i]? = some (.tup [.int (i : Nat), d]) := by unfold enumD; simp [h]
theorem itd_eL {K : PySem.W.Frag} {d : D} {a : Addr} {ds : List D} (q : seqOf d = some ds) (t : isTup d = false) : Itd K (Ite K a) (enumD ds) [(d, .ref a)] := by
  refine ⟨fun i H av hi k => ?_, fun H av k => ?_, fun i H x H' av hi k y => ?_⟩
  · rw [enumD_len] at hi
    obtain ⟨xs, h1, h2⟩ := repL (k _ (List.mem_singleton.mpr rfl)) q t
    obtain ⟨x, h3⟩ := h2.item hi
    exact ⟨xs, x, h1, h3⟩
  · obtain ⟨xs, h1, h2⟩ := repL (k _ (List.mem_singleton.mpr rfl)) q t
    exact ⟨xs, h1, by rw [enumD_len, h2.length]; exact Nat.le_refl _⟩
  · obtain ⟨xs, h1, h2⟩ := repL (k _ (List.mem_singleton.mpr rfl)) q t
    obtain ⟨T, z, rfl, n, rfl, y⟩ := y
    obtain ⟨e, g1, g2⟩ := h2.get' (y xs h1)
    exact ⟨Ext.new n, _, enumD_get ds g1, pair_rep n (rep_int _) g2⟩
theorem itd_eT {K : PySem.W.Frag} {d : D} {a : Addr} {ds : List D} (q : seqOf d = some ds) (t : isTup d = true) : Itd K (IteT K a) (enumD ds) [(d, .ref a)] := by
  refine ⟨fun i H av hi k => ?_, fun H av k => ?_, fun i H x H' av hi k y => ?_⟩
  · rw [enumD_len] at hi
    obtain ⟨xs, h1, h2⟩ := repT (k _ (List.mem_singleton.mpr rfl)) q t
    obtain ⟨x, h3⟩ := h2.item hi
    exact ⟨xs, x, h1, h3⟩
  · obtain ⟨xs, h1, h2⟩ := repT (k _ (List.mem_singleton.mpr rfl)) q t
    exact ⟨xs, h1, by rw [enumD_len, h2.length]⟩
  · obtain ⟨xs, h1, h2⟩ := repT (k _ (List.mem_singleton.mpr rfl)) q t
    obtain ⟨T, z, rfl, n, rfl, y⟩ := y
    obtain ⟨e, g1, g2⟩ := h2.get' (y xs h1)
    exact ⟨Ext.new n, _, enumD_get ds g1, pair_rep n (rep_int _) g2⟩
def zipD (xs ys : List D) : List D := List.zipWith (fun x y => D.tup [x, y]) xs ys
theorem itd_zL {K : PySem.W.Frag} {d d' : D} {a b : Addr} {ds es : List D} (q : seqOf d = some ds) (q' : seqOf d' = some es) (t : isTup d = false) (t' : isTup d' = false) : Itd K (Itz K a b) (zipD ds es) [(d, .ref a), (d', .ref b)] := by
  have two : ∀ {H : Hp} {av : Addr → Prop}, KpAt K H av [(d, .ref a), (d', .ref b)] → ∃ xs ys, SqL K H a xs ∧ Reps K H av ds xs ∧ SqL K H b ys ∧ Reps K H av es ys := fun {H av} k => by
    obtain ⟨xs, h1, h2⟩ := repL (k (d, .ref a) (by simp)) q t
    obtain ⟨ys, h3, h4⟩ := repL (k (d', .ref b) (by simp)) q' t'
    exact ⟨xs, ys, h1, h2, h3, h4⟩
  refine ⟨fun i H av hi k => ?_, fun H av k => ?_, fun i H x H' av hi k y => ?_⟩
  · obtain ⟨xs, ys, h1, h2, h3, h4⟩ := two k
    unfold zipD at hi
    rw [List.length_zipWith] at hi
    obtain ⟨x, h5⟩ := h2.item (i := i) (by omega)
    obtain ⟨y, h6⟩ := h4.item (i := i) (by omega)
    exact ⟨xs, ys, x, y, h1, h3, h5, h6⟩
  · obtain ⟨xs, ys, h1, h2, h3, h4⟩ := two k
    refine ⟨xs, ys, h1, h3, ?_⟩
    unfold zipD
    rw [List.length_zipWith, h2.length, h4.length]
    omega
  · obtain ⟨xs, ys, h1, h2, h3, h4⟩ := two k
    obtain ⟨T, z, z', rfl, n, rfl, y1, y2⟩ := y
    obtain ⟨e, g1, g2⟩ := h2.get' (y1 xs h1)
    obtain ⟨e', g3, g4⟩ := h4.get' (y2 ys h3)
    exact ⟨Ext.new n, _, by unfold zipD; rw [List.getElem?_zipWith, g1, g3], pair_rep n g2 g4⟩
theorem itd_zT {K : PySem.W.Frag} {d d' : D} {a b : Addr} {ds es : List D} (q : seqOf d = some ds) (q' : seqOf d' = some es) (t : isTup d = true) (t' : isTup d' = true) : Itd K (ItzT K a b) (zipD ds es) [(d, .ref a), (d', .ref b)] := by
  have two : ∀ {H : Hp} {av : Addr → Prop}, KpAt K H av [(d, .ref a), (d', .ref b)] → ∃ xs ys, SqT K H a xs ∧ Reps K H av ds xs ∧ SqT K H b ys ∧ Reps K H av es ys := fun {H av} k => by
    obtain ⟨xs, h1, h2⟩ := repT (k (d, .ref a) (by simp)) q t
    obtain ⟨ys, h3, h4⟩ := repT (k (d', .ref b) (by simp)) q' t'
    exact ⟨xs, ys, h1, h2, h3, h4⟩
  refine ⟨fun i H av hi k => ?_, fun H av k => ?_, fun i H x H' av hi k y => ?_⟩
  · obtain ⟨xs, ys, h1, h2, h3, h4⟩ := two k
    unfold zipD at hi
    rw [List.length_zipWith] at hi
    obtain ⟨x, h5⟩ := h2.item (i := i) (by omega)
    obtain ⟨y, h6⟩ := h4.item (i := i) (by omega)
    exact ⟨xs, ys, x, y, h1, h3, h5, h6⟩
  · obtain ⟨xs, ys, h1, h2, h3, h4⟩ := two k
    refine ⟨xs, ys, h1, h3, ?_⟩
    unfold zipD
    rw [List.length_zipWith, h2.length, h4.length]
    omega
  · obtain ⟨xs, ys, h1, h2, h3, h4⟩ := two k
    obtain ⟨T, z, z', rfl, n, rfl, y1, y2⟩ := y
    obtain ⟨e, g1, g2⟩ := h2.get' (y1 xs h1)
    obtain ⟨e', g3, g4⟩ := h4.get' (y2 ys h3)
    exact ⟨Ext.new n, _, by unfold zipD; rw [List.getElem?_zipWith, g1, g3], pair_rep n g2 g4⟩
theorem itd_zM {K : PySem.W.Frag} {d d' : D} {a b : Addr} {ds es : List D} (q : seqOf d = some ds) (q' : seqOf d' = some es) (t : isTup d = true) (t' : isTup d' = false) : Itd K (ItzM K a b) (zipD ds es) [(d, .ref a), (d', .ref b)] := by
  have two : ∀ {H : Hp} {av : Addr → Prop}, KpAt K H av [(d, .ref a), (d', .ref b)] → ∃ xs ys, SqT K H a xs ∧ Reps K H av ds xs ∧ SqL K H b ys ∧ Reps K H av es ys := fun {H av} k => by
    obtain ⟨xs, h1, h2⟩ := repT (k (d, .ref a) (by simp)) q t
    obtain ⟨ys, h3, h4⟩ := repL (k (d', .ref b) (by simp)) q' t'
    exact ⟨xs, ys, h1, h2, h3, h4⟩
  refine ⟨fun i H av hi k => ?_, fun H av k => ?_, fun i H x H' av hi k y => ?_⟩
  · obtain ⟨xs, ys, h1, h2, h3, h4⟩ := two k
    unfold zipD at hi
    rw [List.length_zipWith] at hi
    obtain ⟨x, h5⟩ := h2.item (i := i) (by omega)
    obtain ⟨y, h6⟩ := h4.item (i := i) (by omega)
    exact ⟨xs, ys, x, y, h1, h3, h5, h6⟩
  · obtain ⟨xs, ys, h1, h2, h3, h4⟩ := two k
    refine ⟨xs, ys, h1, h3, ?_⟩
    unfold zipD
    rw [List.length_zipWith, h2.length, h4.length]
    omega
  · obtain ⟨xs, ys, h1, h2, h3, h4⟩ := two k
    obtain ⟨T, z, z', rfl, n, rfl, y1, y2⟩ := y
    obtain ⟨e, g1, g2⟩ := h2.get' (y1 xs h1)
    obtain ⟨e', g3, g4⟩ := h4.get' (y2 ys h3)
    exact ⟨Ext.new n, _, by unfold zipD; rw [List.getElem?_zipWith, g1, g3], pair_rep n g2 g4⟩
theorem rngs_len (lo : Int) (n : Nat) (c : Int) : (rngs lo n c).length = n := by unfold rngs; simp
theorem itd_c {K : PySem.W.Frag} {lo c : Int} {n : Nat} : Itd K (Itc lo c n) (rngs lo n c) [] := by
  refine ⟨fun i H av hi k => ?_, fun H av k => ?_, fun i H x H' av hi k y => ?_⟩
  · rw [rngs_len] at hi; exact hi
  · show n ≤ _; rw [rngs_len]; exact Nat.le_refl _
  · rw [rngs_len] at hi
    obtain ⟨rfl, rfl⟩ := y
    exact ⟨Ext.refl _ _, _, by unfold rngs; rw [List.getElem?_map, List.getElem?_range hi]; rfl, rep_int _⟩
theorem itd_r {K : PySem.W.Frag} {lo : Int} {n : Nat} : Itd K (Itr lo n) (rngs lo n 1) [] := by
  refine ⟨fun i H av hi k => ?_, fun H av k => ?_, fun i H x H' av hi k y => ?_⟩
  · rw [rngs_len] at hi; exact hi
  · show n ≤ _; rw [rngs_len]; exact Nat.le_refl _
  · rw [rngs_len] at hi
    obtain ⟨rfl, rfl⟩ := y
    exact ⟨Ext.refl _ _, _, by unfold rngs; rw [List.getElem?_map, List.getElem?_range hi]; simp, rep_int _⟩

/-! ### the rules -/
def iSeqA (K : PySem.W.Frag) (tl : TE) : TI := fun σ H R => tl σ H fun x H1 => ∃ a, x = .ref a ∧ (((∃ xs, SqL K H1 a xs) ∧ R (Itl K a) H1) ∨ ((∃ xs, SqT K H1 a xs) ∧ R (Itt K a) H1))
theorem pi_seqA {l : Expr} {tl : TE} (hl : PE X l tl) : PI X tg l (iSeqA X.K tl) := by
  refine ⟨fun pins s σ H R I h => ?_⟩
  refine thn (hl.run pins s σ H _ I h) fun v s1 ⟨x, H1, I1, r1, q1⟩ => ?_
  obtain ⟨a, e, q1⟩ := q1
  subst e
  cases r1
  have fp : ∀ b, b ∈ [s1.heap.objs.size] → FpOk X pins H1 b := fun b hb => by
    rw [List.mem_singleton] at hb
    subst hb
    exact I1.fpOk (Nat.le_refl _) (I1.hok.fresh (Nat.le_refl _))
  rcases q1 with ⟨⟨xs, hq⟩, q⟩ | ⟨⟨xs, hq⟩, q⟩
  · obtain ⟨its, rv, pl, hz⟩ := I1.list hq
    refine wpAny_pyIter_list pl.isList ?_
    exact ⟨s1.heap.objs.size, _, _, _, H1, rfl, I1.kept (t' := s1.toks) fun b o e => Heap.get?_push_of_some _ e, turn_list a _, ⟨_, Heap.get?_push_size _ rfl, rfl, rfl⟩, fp, q⟩
  · obtain ⟨its, rv, pl, hz⟩ := I1.tuple hq
    refine wpAny_pyIter_tuple (show s1.heap.IsTuple a its.toArray from pl) ?_
    exact ⟨s1.heap.objs.size, _, _, _, H1, rfl, I1.kept (t' := s1.toks) fun b o e => Heap.get?_push_of_some _ e, turn_tuple a _, ⟨_, Heap.get?_push_size _ rfl, rfl, rfl⟩, fp, q⟩
/-- what a frozen result is, once more -/
theorem frz_seq {r : R} {v : V} {k : D → En → Prop} (E : ER F as σ H ρ) (P : Wt F as H r v) (q : frz1 r ρ k) : ∃ d as2 ρ2, Le as2 as ∧ ER F as2 σ H ρ2 ∧ Rep F.K H (F.av as2) d v ∧ k d ρ2 := P.frz E q
theorem vi_seq (O : Ok X F) (ha : VE X F a wa) : VI X F tg a fun ρ Q => wa ρ fun r ρ1 => frz1 r ρ1 fun d ρ2 => match d with
    | .tup ds => Q ds ρ2
    | .lst ds => Q ds ρ2
    | .fix ds => Q ds ρ2
    | _ => False := by
  have h := pi_seqA (tg := tg) ha
  rw [O.K] at h
  refine pi_mono h fun σ H R ⟨as, ρ, Q', E, w, c⟩ => ?_
  refine ⟨as, ρ, _, E, w, fun as1 r ρ1 v H1 A P q => ?_⟩
  obtain ⟨d, as2, ρ2, l, E2, g, q⟩ := P.wt.frz A.er q
  have done : ∀ ds, seqOf d = some ds → Q' ds ρ2 → ∃ a, v = .ref a ∧ (((∃ xs, SqL F.K H1 a xs) ∧ R (Itl F.K a) H1) ∨ ((∃ xs, SqT F.K H1 a xs) ∧ R (Itt F.K a) H1)) := fun ds hd qq => by
    obtain ⟨a, xs, rfl, _, h2⟩ := g.seq hd
    refine ⟨a, rfl, ?_⟩
    rcases h2 with ⟨⟨e, rfl⟩, h2⟩ | ⟨h2, h3⟩
    · exact .inr ⟨⟨xs, h2⟩, c as2 ds ρ2 H1 _ _ (A.frz l E2) (E2.keep_ (KpAt.one g)) (itd_T hd rfl) qq⟩
    · exact .inl ⟨⟨xs, h3⟩, c as2 ds ρ2 H1 _ _ (A.frz l E2) (E2.keep_ (KpAt.one g)) (itd_L hd (by cases d <;> first | rfl | exact absurd rfl (h2 _))) qq⟩
  cases d <;> first | exact q.elim | exact done _ rfl q
theorem vi_rev (O : Ok X F) (ha : VE X F a wa) (hg : Gl X "reversed") (hm : X.mg "reversed" = none) (hs : starEach [a] X.env = (false, eval a X.env) :: starEach [] X.env) :
    VI X F tg (.Call (.Name "reversed" p) [a] [] pos) fun ρ Q => wa ρ fun r ρ1 => frz1 r ρ1 fun d ρ2 => match d with
    | .tup ds => Q ds.reverse ρ2
    | .lst ds => Q ds.reverse ρ2
    | .fix ds => Q ds.reverse ρ2
    | _ => False := by
  have h := pi_revA (tg := tg) (p := p) (pos := pos) hg hm ha hs
  rw [O.K] at h
  refine pi_mono h fun σ H R ⟨as, ρ, Q', E, w, c⟩ => ?_
  refine ⟨as, ρ, _, E, w, fun as1 r ρ1 v H1 A P q => ?_⟩
  obtain ⟨d, as2, ρ2, l, E2, g, q⟩ := P.wt.frz A.er q
  have done : ∀ ds, seqOf d = some ds → Q' ds.reverse ρ2 → ∃ (a : Addr) (xs : List V), v = .ref a ∧ ((SqL F.K H1 a xs ∧ R (Itv F.K a xs.length) H1) ∨ (SqT F.K H1 a xs ∧ R (ItvT F.K a xs.length) H1)) := fun ds hd qq => by
    obtain ⟨a, xs, rfl, h1, h2⟩ := g.seq hd
    refine ⟨a, xs, rfl, ?_⟩
    rcases h2 with ⟨⟨e, rfl⟩, h2⟩ | ⟨h2, h3⟩
    · exact .inr ⟨h2, c as2 ds.reverse ρ2 H1 _ _ (A.frz l E2) (E2.keep_ (KpAt.one g)) (itd_vT h1.length hd rfl) qq⟩
    · exact .inl ⟨h3, c as2 ds.reverse ρ2 H1 _ _ (A.frz l E2) (E2.keep_ (KpAt.one g)) (itd_vL h1.length hd (by cases d <;> first | rfl | exact absurd rfl (h2 _))) qq⟩
  cases d <;> first | exact q.elim | exact done _ rfl q
theorem vi_enum (O : Ok X F) {elts : List Expr} {kk : Nat} {tpos : Pos} (ha : VE X F a wa) (hg : Gl X "enumerate") (hm : X.mg "enumerate" = none) (hs : starEach [a] X.env = [(false, eval a X.env)]) :
    VI X F (.Tuple elts kk tpos) (.Call (.Name "enumerate" p) [a] [] pos) fun ρ Q => wa ρ fun r ρ1 => frz1 r ρ1 fun d ρ2 => match d with
    | .tup ds => Q (ds.mapIdx fun i d => D.tup [.int (i : Nat), d]) ρ2
    | .lst ds => Q (ds.mapIdx fun i d => D.tup [.int (i : Nat), d]) ρ2
    | .fix ds => Q (ds.mapIdx fun i d => D.tup [.int (i : Nat), d]) ρ2
    | _ => False := by
  have h := pi_enumA (p := p) (pos := pos) (elts := elts) (kk := kk) (tpos := tpos) hg hm (pa_cons ha pa_nil hs) hs
  rw [O.K] at h
  refine pi_mono h fun σ H R ⟨as, ρ, Q', E, w, c⟩ => ?_
  refine ⟨as, ρ, _, E, w, fun as1 r ρ1 v H1 A P q => ?_⟩
  obtain ⟨d, as2, ρ2, l, E2, g, q⟩ := P.wt.frz A.er q
  have done : ∀ ds, seqOf d = some ds → Q' (enumD ds) ρ2 → ∃ a xs, [v] = [.ref a] ∧ ((SqL F.K H1 a xs ∧ R (Ite F.K a) H1) ∨ (SqT F.K H1 a xs ∧ R (IteT F.K a) H1)) := fun ds hd qq => by
    obtain ⟨a, xs, rfl, h1, h2⟩ := g.seq hd
    refine ⟨a, xs, rfl, ?_⟩
    rcases h2 with ⟨⟨e, rfl⟩, h2⟩ | ⟨h2, h3⟩
    · exact .inr ⟨h2, c as2 _ ρ2 H1 _ _ (A.frz l E2) (E2.keep_ (KpAt.one g)) (itd_eT hd rfl) qq⟩
    · exact .inl ⟨h3, c as2 _ ρ2 H1 _ _ (A.frz l E2) (E2.keep_ (KpAt.one g)) (itd_eL hd (by cases d <;> first | rfl | exact absurd rfl (h2 _))) qq⟩
  cases d <;> first | exact q.elim | exact done _ rfl q
theorem vi_rng1 (O : Ok X F) (ha : VE X F a wa) (hg : Gl X "range") (hm : X.mg "range" = none) (hs : starEach [a] X.env = [(false, eval a X.env)]) :
    VI X F tg (.Call (.Name "range" p) [a] [] pos) fun ρ Q => wa ρ fun r ρ1 => wRd r ρ1 fun x => match x with | .int i => (-(2 ^ 62) ≤ i ∧ i < 2 ^ 62) ∧ Q (rngs 0 i.toNat 1) ρ1 | _ => False := by
  refine pi_mono (pi_range1 hg hm (pa_cons ha pa_nil hs) hs) fun σ H R ⟨as, ρ, Q', E, w, c⟩ => ?_
  refine lE1 E w fun as1 ρ1 H1 x v A g q => ?_
  cases x <;> first | exact q.elim | skip
  rw [g.int]
  exact ⟨_, rfl, q.1.1, q.1.2, c as1 _ ρ1 H1 _ [] A (A.er.keep_ fun _ h => nomatch h) itd_r q.2⟩
theorem vi_rng2 (O : Ok X F) (ha : VE X F a wa) (hb : VE X F b wb) (hg : Gl X "range") (hm : X.mg "range" = none) (hs : starEach [a, b] X.env = [(false, eval a X.env), (false, eval b X.env)]) (hs2 : starEach [b] X.env = [(false, eval b X.env)]) :
    VI X F tg (.Call (.Name "range" p) [a, b] [] pos) fun ρ Q => wa ρ fun r1 ρ1 => wb ρ1 fun r2 ρ2 => wRd r1 ρ2 fun x => wRd r2 ρ2 fun y => match x, y with
    | .int i, .int j => (-(2 ^ 62) ≤ i ∧ i < 2 ^ 62 ∧ -(2 ^ 62) ≤ j ∧ j < 2 ^ 62) ∧ Q (rngs i (j - i).toNat 1) ρ2
    | _, _ => False := by
  refine pi_mono (pi_range2 hg hm (pa_cons ha (pa_cons hb pa_nil hs2) (by rw [hs, hs2])) hs hs2) fun σ H R ⟨as, ρ, Q', E, w, c⟩ => ?_
  refine lE2 E w fun as1 ρ1 H1 x y v u A gx gy q => ?_
  split at q
  · rw [gx.int, gy.int]
    exact ⟨_, _, rfl, q.1, c as1 _ ρ1 H1 _ [] A (A.er.keep_ fun _ h => nomatch h) itd_r q.2⟩
  · exact q.elim
theorem vi_rng2L (O : Ok X F) (ha : VE X F a wa) (hb : VE X F b wb) (hg : Gl X "range") (hm : X.mg "range" = none) (hs : starEach [a, b] X.env = [(false, eval a X.env), (false, eval b X.env)]) (hs2 : starEach [b] X.env = [(false, eval b X.env)]) :
    VI X F tg (.Call (.Name "range" p) [a, b] [] pos) fun ρ Q => wa ρ fun r1 ρ1 => wb ρ1 fun r2 ρ2 => wRd r1 ρ2 fun x => wRd r2 ρ2 fun y => match x, y with
    | .int i, .int j => Q (rngs i (j - i).toNat 1) ρ2
    | _, _ => False := by
  refine pi_mono (pi_range2L hg hm (pa_cons ha (pa_cons hb pa_nil hs2) (by rw [hs, hs2])) hs hs2) fun σ H R ⟨as, ρ, Q', E, w, c⟩ => ?_
  refine lE2 E w fun as1 ρ1 H1 x y v u A gx gy q => ?_
  split at q
  · rw [gx.int, gy.int]
    exact ⟨_, _, rfl, c as1 _ ρ1 H1 _ [] A (A.er.keep_ fun _ h => nomatch h) itd_c q⟩
  · exact q.elim
end
end VL

/-! VL11: zip, range with a step, comprehensions. -/
namespace VL
open PySem PySem.Spec L2
open RT (ItvT pi_revA)
open RZ (ItzT pi_zipA)
section
variable {X : Cx} {F : Fr} {as as' as1 as2 : As} {σ : L2.St} {H H' H1 H2 : Hp} {ρ ρ' ρ1 ρ2 : En} {e a b c : Expr} {es : List Expr} {wa wb wc : WE} {wl : WA} {pos p : Pos} {tg it : Expr}
theorem vi_rng3 (O : Ok X F) (ha : VE X F a wa) (hb : VE X F b wb) (hc : VE X F c wc) (hg : Gl X "range") (hm : X.mg "range" = none) (h1 : starEach [a, b, c] X.env = [(false, eval a X.env), (false, eval b X.env), (false, eval c X.env)])
    (h2 : starEach [b, c] X.env = [(false, eval b X.env), (false, eval c X.env)]) (h3 : starEach [c] X.env = [(false, eval c X.env)]) (key : ∀ ta, PA X [a, b, c] ta → PI X tg (.Call (.Name "range" p) [a, b, c] [] pos) (iRng3 ta)) :
    VI X F tg (.Call (.Name "range" p) [a, b, c] [] pos) fun ρ Q => wa ρ fun r1 ρ1 => wb ρ1 fun r2 ρ2 => wc ρ2 fun r3 ρ3 => wRd r1 ρ3 fun x => wRd r2 ρ3 fun y => wRd r3 ρ3 fun z => match x, y, z with
    | .int i, .int j, .int c => ∃ n, RgC i j c n ∧ Q (rngs i n c) ρ3
    | _, _, _ => False := by
  refine pi_mono (key _ (pa_cons ha (pa_cons hb (pa_cons hc pa_nil h3) (by rw [h2, h3])) (by rw [h1, h2]))) fun σ H R ⟨as, ρ, Q', E, w, c'⟩ => ?_
  refine ⟨as, ρ, _, E, w, fun as1 r1 ρ1 v H1 A1 P1 q1 => ⟨as1, ρ1, _, A1.er, q1, fun as2 r2 ρ2 u H2 A2 P2 q2 => ⟨as2, ρ2, _, A2.er, q2, fun as3 r3 ρ3 w3 H3 A3 P3 q3 => ?_⟩⟩⟩
  obtain ⟨x, e1, q3⟩ := wRd_some q3
  obtain ⟨y, e2, q3⟩ := wRd_some q3
  obtain ⟨z, e3, q3⟩ := wRd_some q3
  have gx := ((P1.wt.step A2.le A2.ext).step A3.le A3.ext).got A3.er e1
  have gy := (P2.wt.step A3.le A3.ext).got A3.er e2
  have gz := P3.wt.got A3.er e3
  split at q3
  · obtain ⟨n, q4, q5⟩ := q3
    rw [gx.int, gy.int, gz.int]
    exact ⟨_, _, _, n, rfl, q4, c' as3 _ ρ3 H3 _ [] ((A1.trans A2).trans A3) (A3.er.keep_ fun _ h => nomatch h) itd_c q5⟩
  · exact q3.elim
theorem vi_zip (O : Ok X F) {elts : List Expr} {kk : Nat} {tpos : Pos} (ha : VE X F a wa) (hb : VE X F b wb) (hg : Gl X "zip") (hm : X.mg "zip" = none) (hs : starEach [a, b] X.env = (false, eval a X.env) :: starEach [b] X.env) (hs2 : starEach [b] X.env = (false, eval b X.env) :: starEach [] X.env)
    (hpl : (backTo pos (starEach [b] X.env)).any (·.1) = false) :
    VI X F (.Tuple elts kk tpos) (.Call (.Name "zip" p) [a, b] [] pos) fun ρ Q => wa ρ fun r1 ρ1 => wb ρ1 fun r2 ρ2 => frz [r1, r2] ρ2 fun ds ρ3 => match ds with
    | [.lst xs, .lst ys] => Q (List.zipWith (fun x y => D.tup [x, y]) xs ys) ρ3
    | [.tup xs, .tup ys] => Q (List.zipWith (fun x y => D.tup [x, y]) xs ys) ρ3
    | [.tup xs, .lst ys] => Q (List.zipWith (fun x y => D.tup [x, y]) xs ys) ρ3
    | _ => False := by
  have h := pi_zipM (p := p) (pos := pos) (elts := elts) (kk := kk) (tpos := tpos) hg hm (pa_cons ha (pa_cons hb pa_nil hs2) hs) hs hpl
  rw [O.K] at h
  refine pi_mono h fun σ H R ⟨as, ρ, Q', E, w, c⟩ => ?_
  refine ⟨as, ρ, _, E, w, fun as1 r1 ρ1 v H1 A1 P1 q1 => ⟨as1, ρ1, _, A1.er, q1, fun as2 r2 ρ2 u H2 A2 P2 q2 => ?_⟩⟩
  have W : Wts F as2 H2 [r1, r2] [v, u] := ⟨v, [u], rfl, P1.wt.step A2.le A2.ext, u, [], rfl, P2.wt, rfl⟩
  obtain ⟨ds, as3, ρ3, l, E3, g, q⟩ := W.frz A2.er q2
  have A := (A1.trans A2).frz l E3
  split at q
  · obtain ⟨v', u', e1, g1, g2⟩ := g.two
    cases e1
    obtain ⟨a1, xs, e1, _, h2⟩ := g1.seq rfl
    obtain ⟨a2, ys, e2, _, h3⟩ := g2.seq rfl
    subst e1 e2
    rcases h2 with ⟨⟨e, z⟩, _⟩ | ⟨_, h2⟩
    · cases z
    rcases h3 with ⟨⟨e, z⟩, _⟩ | ⟨_, h3⟩
    · cases z
    exact ⟨a1, a2, xs, ys, rfl, .inl ⟨h2, h3, c as3 _ ρ3 H2 _ _ A (E3.keep_ (KpAt.two g1 g2)) (itd_zL rfl rfl rfl rfl) q⟩⟩
  · obtain ⟨v', u', e1, g1, g2⟩ := g.two
    cases e1
    obtain ⟨a1, xs, e1, _, h2⟩ := g1.seq rfl
    obtain ⟨a2, ys, e2, _, h3⟩ := g2.seq rfl
    subst e1 e2
    rcases h2 with ⟨_, h2⟩ | ⟨z, _⟩
    · rcases h3 with ⟨_, h3⟩ | ⟨z, _⟩
      · exact ⟨a1, a2, xs, ys, rfl, .inr (.inl ⟨h2, h3, c as3 _ ρ3 H2 _ _ A (E3.keep_ (KpAt.two g1 g2)) (itd_zT rfl rfl rfl rfl) q⟩)⟩
      · exact absurd rfl (z _)
    · exact absurd rfl (z _)
  · obtain ⟨v', u', e1, g1, g2⟩ := g.two
    cases e1
    obtain ⟨a1, xs, e1, _, h2⟩ := g1.seq rfl
    obtain ⟨a2, ys, e2, _, h3⟩ := g2.seq rfl
    subst e1 e2
    rcases h3 with ⟨⟨e, z⟩, _⟩ | ⟨_, h3⟩
    · cases z
    rcases h2 with ⟨_, h2⟩ | ⟨z, _⟩
    · exact ⟨a1, a2, xs, ys, rfl, .inr (.inr ⟨h2, h3, c as3 _ ρ3 H2 _ _ A (E3.keep_ (KpAt.two g1 g2)) (itd_zM rfl rfl rfl rfl) q⟩)⟩
    · exact absurd rfl (z _)
  · exact q.elim

/-! ### slots set -/
/-- slot i holds a value -/
theorem ER.setv (E : ER F as σ H ρ) {i : Nat} {d : D} {v : V} (hi : i < ρ.length) (r : Rep F.K H (F.av as) d v) : ER F (cutAs as i) (σ.set i (some v)) H (ρ.set i (.val d)) := by
  refine ⟨by rw [List.length_set, List.length_set]; exact E.len, fun j k b hj hk => E.inj j k b (cut_le _ _ _ _ hj) (cut_le _ _ _ _ hk), fun j b hj => E.nex j b (cut_le _ _ _ _ hj), fun j => ?_, E.old, fun j b hj => E.own j b (cut_le _ _ _ _ hj), E.exo, E.mok, fun p hp => Rep.wk (fun _ _ z => (cut_le as i).av z) (E.kept p hp)⟩
  show SlAt F H (cutAs as i) j (σ.set i (some v))[j]? (gt (ρ.set i (.val d)) j)
  by_cases q : j = i
  · subst q
    rw [gt_set ρ hi, List.getElem?_set_self (by rw [← E.len]; exact hi)]
    exact ⟨cut_self as j, v, rfl, Rep.wk (fun _ _ z => (cut_le as j).av z) r⟩
  · rw [gt_ne ρ q, List.getElem?_set_ne (Ne.symm q)]
    exact (E.sl j).le (cut_le as i) (cut_ne as q)
/-- slot i forgotten -/
theorem ER.unset (E : ER F as σ H ρ) (i : Nat) : ER F (cutAs as i) (σ.set i none) H (ρ.set i .un) := by
  refine ⟨by rw [List.length_set, List.length_set]; exact E.len, fun j k b hj hk => E.inj j k b (cut_le _ _ _ _ hj) (cut_le _ _ _ _ hk), fun j b hj => E.nex j b (cut_le _ _ _ _ hj), fun j => ?_, E.old, fun j b hj => E.own j b (cut_le _ _ _ _ hj), E.exo, E.mok, fun p hp => Rep.wk (fun _ _ z => (cut_le as i).av z) (E.kept p hp)⟩
  show SlAt F H (cutAs as i) j (σ.set i none)[j]? (gt (ρ.set i .un) j)
  by_cases q : j = i
  · subst q
    have : gt (ρ.set j .un) j = .un := by
      by_cases l : j < ρ.length
      · exact gt_set ρ l
      · unfold gt; rw [List.getElem?_eq_none (by rw [List.length_set]; omega)]; rfl
    rw [this]
    exact cut_self as j
  · rw [gt_ne ρ q, List.getElem?_set_ne (Ne.symm q)]
    exact (E.sl j).le (cut_le as i) (cut_ne as q)
def cutAll : As → List Nat → As
  | as, [] => as
  | as, i :: is => cutAs (cutAll as is) i
theorem cutAll_le (as : As) : ∀ is : List Nat, Le (cutAll as is) as
  | [] => Le.refl as
  | i :: is => (cut_le _ i).trans (cutAll_le as is)
theorem ER.wipe_ (E : ER F as σ H ρ) : ∀ is : List Nat, ER F (cutAll as is) (wipe σ is) H (wipeV is ρ)
  | [] => E
  | i :: is => (ER.wipe_ E is).unset i
theorem wipeV_len (ρ : En) : ∀ is : List Nat, (wipeV is ρ).length = ρ.length
  | [] => rfl
  | i :: is => by unfold wipeV; rw [List.length_set, wipeV_len ρ is]
theorem wipeV_gt (ρ : En) : ∀ {is : List Nat} {j : Nat}, j ∈ is → gt (wipeV is ρ) j = .un
  | i :: is, j, h => by
    unfold wipeV
    by_cases q : j = i
    · subst q
      by_cases l : j < (wipeV is ρ).length
      · exact gt_set _ l
      · unfold gt; rw [List.getElem?_eq_none (by rw [List.length_set]; omega)]; rfl
    · rw [gt_ne _ q]
      rcases List.mem_cons.mp h with z | z
      · exact absurd z q
      · exact wipeV_gt ρ z
theorem wipe_get (σ : L2.St) : ∀ {is : List Nat} {j : Nat}, j ∉ is → (wipe σ is)[j]? = σ[j]?
  | [], j, _ => rfl
  | i :: is, j, h => by
    unfold wipe
    rw [List.getElem?_set_ne (fun z => h (by subst z; exact List.mem_cons_self))]
    exact wipe_get σ fun z => h (List.mem_cons_of_mem _ z)
theorem wipe_in (σ : L2.St) : ∀ {is : List Nat} {j : Nat}, j ∈ is → j < σ.length → (wipe σ is)[j]? = some none
  | i :: is, j, h, l => by
    unfold wipe
    by_cases q : j = i
    · subst q
      rw [List.getElem?_set_self (by rw [wipe_length]; exact l)]
    · rw [List.getElem?_set_ne (Ne.symm q)]
      rcases List.mem_cons.mp h with z | z
      · exact absurd z q
      · exact wipe_in σ z l
theorem wipe_eq {σ σ' : L2.St} {is : List Nat} (hl : σ.length = σ'.length) (h : ∀ j, j ∉ is → σ[j]? = σ'[j]?) : wipe σ is = wipe σ' is := by
  apply List.ext_getElem?
  intro j
  by_cases q : j ∈ is
  · by_cases l : j < σ.length
    · rw [wipe_in σ q l, wipe_in σ' q (hl ▸ l)]
    · rw [List.getElem?_eq_none (by rw [wipe_length]; omega), List.getElem?_eq_none (by rw [wipe_length]; omega)]
  · rw [wipe_get σ q, wipe_get σ' q, h j q]
theorem unwipe_len (ρ1 ρ : En) : ∀ is : List Nat, (unwipe is ρ1 ρ).length = ρ.length
  | [] => rfl
  | i :: is => by unfold unwipe; rw [List.length_set, unwipe_len ρ1 ρ is]
theorem unwipe_out (ρ1 ρ : En) : ∀ {is : List Nat} {j : Nat}, j ∉ is → gt (unwipe is ρ1 ρ) j = gt ρ j
  | [], j, _ => rfl
  | i :: is, j, h => by
    unfold unwipe
    rw [gt_ne _ (fun z => h (by subst z; exact List.mem_cons_self))]
    exact unwipe_out ρ1 ρ fun z => h (List.mem_cons_of_mem _ z)
theorem unwipe_in (ρ1 ρ : En) : ∀ {is : List Nat} {j : Nat}, j ∈ is → j < ρ.length → gt (unwipe is ρ1 ρ) j = keepVal (gt ρ1 j)
  | i :: is, j, h, l => by
    unfold unwipe
    by_cases q : j = i
    · subst q
      exact gt_set _ (by rw [unwipe_len]; exact l)
    · rw [gt_ne _ q]
      rcases List.mem_cons.mp h with z | z
      · exact absurd z q
      · exact unwipe_in ρ1 ρ z l
/-- back among the names of the def -/
theorem ER.restore {G : Fr} {is : List Nat} (E : ER G as (wipe σ is) H ρ) (hu : ∀ j ∈ is, gt ρ j = .un) (hv : ∀ j ∈ is, ∀ d, gt ρ1 j = .val d → ∃ v, σ[j]? = some (some v) ∧ Rep G.K H (G.av as) d v) : ER G as σ H (unwipe is ρ1 ρ) := by
  have hn : ∀ j ∈ is, as j = none := fun j hj => by
    have q := E.sl j
    change SlAt G H as j _ (gt ρ j) at q
    rw [hu j hj] at q
    exact q
  refine ⟨by rw [unwipe_len, E.len, wipe_length], E.inj, E.nex, fun j => ?_, E.old, E.own, E.exo, E.mok, E.kept⟩
  show SlAt G H as j σ[j]? (gt (unwipe is ρ1 ρ) j)
  by_cases q : j ∈ is
  · by_cases l : j < ρ.length
    · rw [unwipe_in ρ1 ρ q l]
      cases z : gt ρ1 j with
      | val d =>
        obtain ⟨v, h1, h2⟩ := hv j q d z
        exact ⟨hn j q, v, h1, h2⟩
      | un => exact hn j q
      | own d => exact hn j q
      | par d => exact hn j q
    · have : gt (unwipe is ρ1 ρ) j = .un := by unfold gt; rw [List.getElem?_eq_none (by rw [unwipe_len]; omega)]; rfl
      rw [this]
      exact hn j q
  · rw [unwipe_out ρ1 ρ q]
    have z := E.sl j
    rw [wipe_get σ q] at z
    exact z

/-! ### targets -/
/-- a target: g assigns what t binds -/
structure VG (K : PySem.W.Frag) (t : Tg) (g : TG) : Prop where
  go : ∀ {F : Fr} {as : As} {σ : L2.St} {H : Hp} {ρ : En} {d : D} {v : V} {k : En → Prop} {Q : L2.St → Hp → Prop}, F.K = K → ER F as σ H ρ → Rep F.K H (F.av as) d v → bind t d ρ k →
    (∀ as' σ' ρ', Le as' as → ER F as' σ' H ρ' → σ'.length = σ.length → (∀ j, (match t with | .nm i => j ≠ i | .tp is => j ∉ is | .tq i is => j ≠ i ∧ j ∉ is) → σ'[j]? = σ[j]?) → k ρ' → Q σ' H) → g v σ H Q
theorem set_oob {α : Type} {l : List α} {i : Nat} {x : α} (h : ¬ i < l.length) : l.set i x = l := List.set_eq_of_length_le (by omega)
theorem ER.setv' (E : ER F as σ H ρ) {i : Nat} {d : D} {v : V} (r : Rep F.K H (F.av as) d v) : ∃ as', Le as' as ∧ ER F as' (σ.set i (some v)) H (ρ.set i (.val d)) := by
  by_cases h : i < ρ.length
  · exact ⟨_, cut_le as i, E.setv h r⟩
  · rw [set_oob h, set_oob (by rw [← E.len]; exact h)]
    exact ⟨as, Le.refl _, E⟩
theorem vg_nm (K : PySem.W.Frag) (i : Nat) : VG K (.nm i) (gName i) := by
  refine ⟨fun {F as σ H ρ d v k Q} hK E r q c => ?_⟩
  obtain ⟨as', l, E'⟩ := E.setv' (i := i) r
  exact c as' _ _ l E' (by rw [List.length_set]) (fun j hj => List.getElem?_set_ne (Ne.symm hj)) q
/-- several names in a row -/
def gNames : List Nat → TGs
  | [] => gNil
  | i :: is => gCons (gName i) (gNames is)
theorem names_go : ∀ {is : List Nat} {F : Fr} {as : As} {σ : L2.St} {H : Hp} {ρ : En} {ds : List D} {vs : List V} {k : En → Prop} {Q : L2.St → Hp → Prop}, ER F as σ H ρ → Reps F.K H (F.av as) ds vs → ds.length = is.length → k (setAll is ds ρ) →
    (∀ as' σ' ρ', Le as' as → ER F as' σ' H ρ' → σ'.length = σ.length → (∀ j, j ∉ is → σ'[j]? = σ[j]?) → k ρ' → Q σ' H) → gNames is vs σ H Q
  | [], F, as, σ, H, ρ, ds, vs, k, Q, E, r, hl, q, c => by
    cases ds with
    | cons d ds => cases hl
    | nil =>
      unfold Reps at r
      exact ⟨r, c as σ ρ (Le.refl _) E rfl (fun _ _ => rfl) q⟩
  | i :: is, F, as, σ, H, ρ, ds, vs, k, Q, E, r, hl, q, c => by
    cases ds with
    | nil => cases hl
    | cons d ds =>
      unfold Reps at r
      obtain ⟨v, vr, rfl, r1, r2⟩ := r
      obtain ⟨as', l, E'⟩ := E.setv' (i := i) r1
      refine ⟨v, vr, rfl, names_go (k := k) E' (Reps.wk (fun _ _ z => l.av z) r2) (by simpa using hl) q fun as2 σ2 ρ2 l2 E2 hs hj hk => ?_⟩
      refine c as2 σ2 ρ2 (l2.trans l) E2 (by rw [hs, List.length_set]) (fun j hn => ?_) hk
      rw [hj j fun z => hn (List.mem_cons_of_mem _ z), List.getElem?_set_ne fun z => hn (by subst z; exact List.mem_cons_self)]
theorem bind_tq {i : Nat} {is : List Nat} {d : D} {ρ : En} {k : En → Prop} (q : bind (.tq i is) d ρ k) : ∃ d0 es, d = .tup [d0, .tup es] ∧ es.length = is.length ∧ k (setAll is es (ρ.set i (.val d0))) := by
  unfold bind at q
  cases d <;> first | exact q.elim | skip
  rename_i ds
  cases ds with
  | nil => exact q.elim
  | cons d0 r =>
    cases r with
    | nil => exact q.elim
    | cons d1 r =>
      cases r with
      | cons _ _ => cases d1 <;> exact q.elim
      | nil =>
        cases d1 <;> first | exact q.elim | exact ⟨_, _, rfl, q.1, q.2⟩
theorem vg_tq (K : PySem.W.Frag) (i : Nat) (is : List Nat) : VG K (.tq i is) (gTup K 2 (gCons (gName i) (gCons (gTup K is.length (gNames is)) gNil))) := by
  refine ⟨fun {F as σ H ρ d v k Q} hK E r q c => ?_⟩
  obtain ⟨d0, es, rfl, ql, q⟩ := bind_tq q
  unfold Rep at r
  obtain ⟨a, xs, rfl, h1, h2⟩ := r
  obtain ⟨v, v', rfl, g1, g2⟩ := h2.two
  unfold Rep at g2
  obtain ⟨a', ys, rfl, h3, h4⟩ := g2
  obtain ⟨as', l, E'⟩ := E.setv' (i := i) g1
  have h3 : SqT K H a' ys := hK ▸ h3
  have n := names_go (k := k) (Q := fun σ' H' => ([] : List V) = [] ∧ Q σ' H') E' (Reps.wk (fun _ _ z => l.av z) h4) ql q fun as2 σ2 ρ2 l2 E2 hs hj hk => ⟨rfl, by
    refine c as2 σ2 ρ2 (l2.trans l) E2 (by rw [hs, List.length_set]) (fun j hn => ?_) hk
    rw [hj j hn.2, List.getElem?_set_ne (Ne.symm hn.1)]⟩
  exact ⟨a, _, rfl, hK ▸ h1, rfl, v, _, rfl, _, [], rfl, a', ys, rfl, h3, by rw [h4.length]; exact ql, n⟩
theorem vg_tp (K : PySem.W.Frag) (is : List Nat) : VG K (.tp is) (gTup K is.length (gNames is)) := by
  refine ⟨fun {F as σ H ρ d v k Q} hK E r q c => ?_⟩
  unfold bind at q
  cases d <;> first | exact q.elim | skip
  unfold Rep at r
  obtain ⟨a, xs, rfl, h1, h2⟩ := r
  exact ⟨a, xs, rfl, hK ▸ h1, by rw [h2.length]; exact q.1, names_go E h2 q.1 q.2 c⟩
def tgIn (t : Tg) (own : List Nat) : Prop := match t with
  | .nm i => i ∈ own
  | .tp is => ∀ i ∈ is, i ∈ own
  | .tq j is => j ∈ own ∧ ∀ i ∈ is, i ∈ own

/-! ### comprehensions -/
theorem Ok.blk {s : Shared} {scope : Scope} {cenv : Env} {fp : List Addr} (O : Ok X F) : Ok (X.blk s H scope cenv fp) F :=
  ⟨O.K, O.calm, O.nd, O.room, O.seer, O.tree, O.head, fun _ => PassesOwn.never⟩
theorem acc_write (E : ER F as σ H ρ) {D0 : Addr} {xs ys : List V} (hb : H D0 = some (.lst xs)) (hx : F.ex D0) (h0 : F.H0 D0 = none) : ER F as σ (upd H D0 (.lst ys)) ρ := by
  refine ER.go (ex' := F.ex) E (Le.refl _) (fun c z => .inl z) (W := fun c => c = D0) (ext_write hb rfl) (fun c z => z ▸ ⟨.inl hx, .inl h0⟩) rfl fun j => .inl ⟨rfl, rfl, fun b hb' z => ?_⟩
  subst z
  exact E.nex j b hb' hx
/-- the wish of a comprehension -/
def wLc (t : Tg) (own : List Nat) (wi : En → (List D → En → Prop) → Prop) (wc : WT) (we : WE) : WE := fun ρ Q => wi ρ fun its ρ1 => Sm its.length ∧ ∃ I : Nat → List D → En → Prop, I 0 [] (wipeV own ρ1) ∧
  (∀ k d acc ρ, its[k]? = some d → I k acc ρ → bind t d ρ fun ρ2 => wc ρ2 fun c ρ3 => br c (we ρ3 fun r ρ4 => frz1 r ρ4 fun y ρ5 => I (k + 1) (acc ++ [y]) (wipeV own ρ5)) (I (k + 1) acc (wipeV own ρ3))) ∧
  ∀ acc ρ, I its.length acc ρ → Q (.fresh acc) (unwipe own ρ1 ρ)
theorem lc_read {t : Tg} {g : TG} {own : List Nat} {wi : En → (List D → En → Prop) → Prop} {wc : WT} {we : WE} {Q : VK} (hvg : VG F.K t g) (hin : tgIn t own) (h : lE F (wLc t own wi wc we) σ H Q) :
    tLc (lI F wi) g (fun σ H Q => ∃ F' : Fr, F'.K = F.K ∧ lT F' wc σ H Q) (fun σ H Q => ∃ F' : Fr, F'.K = F.K ∧ lE F' we σ H Q) own σ H Q := by
  obtain ⟨as, ρ, Q', E, w, c⟩ := h
  refine ⟨as, ρ, _, E, w, fun as1 its ρ1 H1 J ps A1 Ek hJ ⟨hsm, I, i0, step, last⟩ D0 n => ?_⟩
  have E1 := A1.er
  let G : Fr := Kept (F.with D0) ps
  have h0 : F.H0 D0 = none := E1.fresh n
  have key : ∀ b, H1 b ≠ none → (F.with D0).av as1 b → F.av as1 b := fun b hb z => (of_with z).elim id fun z => absurd n (z ▸ hb)
  have kpG : ∀ {H' : Hp}, Ext (F.mu as1) H1 H' → KpAt F.K H' ((F.with D0).av as1) ps := fun {H'} e p hp => by
    have r := Ek.kp p hp
    exact Rep.wk (fun _ _ z => .inr z) (Rep.ext (e.mono (av' := fun b => F.mu as1 b ∨ (F.with D0).av as1 b) fun _ z => .inl z) (Rep.wk (fun b hb z => z.elim mu_av (key b hb)) r))
  -- what holds between two turns
  let Pv : Nat → Hp → Prop := fun i H' => ∃ as2 ρ2 acc xs, Le as2 as1 ∧ ER G as2 (wipe σ own) H' ρ2 ∧ I i acc ρ2 ∧ H' D0 = some (.lst xs) ∧ Reps F.K H' (G.av as2) acc xs ∧ acc.length ≤ i ∧ Ext (F.mu as1) H1 H' ∧ ∀ j ∈ own, gt ρ2 j = .un
  have Gd : ∀ H', (∃ av, KpAt F.K H' av ps) → True := fun _ _ => trivial
  refine lc_it (g := g) (tt := fun σ H Q => ∃ F' : Fr, F'.K = F.K ∧ lT F' wc σ H Q) (te := fun σ H Q => ∃ F' : Fr, F'.K = F.K ∧ lE F' we σ H Q) (vs := own) (σ := σ) (H1 := H1) (D := D0) (Qd := fun H' => Q (.ref D0) H') (J := J) (n := its.length) (G := fun H' => ∃ av, KpAt F.K H' av ps) (Y := J.yld) ⟨fun i H' hi ⟨av, k⟩ => hJ.goes i H' av hi k, fun H' ⟨av, k⟩ => hJ.stops H' av k, fun i H' x H'' _ _ y => y⟩ Pv ?_ ?_ ?_ ?_
  · -- the start
    have E2 : ER G as1 σ (upd H1 D0 (.lst [])) ρ1 := (E1.with_new n).keep_ (kpG (Ext.new n))
    exact ⟨cutAll as1 own, wipeV own ρ1, [], [], cutAll_le as1 own, E2.wipe_ own, i0, upd_same, Reps.nil, Nat.le_refl _, Ext.new n, fun j hj => wipeV_gt ρ1 hj⟩
  · intro i H' _ ⟨as2, ρ2, acc, xs, _, E2, _⟩
    exact ⟨_, E2.kp⟩
  · intro i x H2 H3 hi ⟨as2, ρ2, acc, xs, l2, E2, hI, hD, hR, hlen, hext, hun⟩ y
    obtain ⟨e3, d, hd, hr⟩ := hJ.ylds i H2 x H3 (G.av as2) hi E2.kp y
    have E3 : ER G as2 (wipe σ own) H3 ρ2 := E2.grow e3
    refine hvg.go (F := G) rfl E3 hr (step i d acc ρ2 hd hI) fun as4 σ4 ρ4 l4 E4 hs4 hj4 q => ?_
    have wip : wipe σ4 own = wipe σ own := by
      rw [wipe_eq (σ := σ4) (σ' := wipe σ own) (is := own) hs4 fun j hj => hj4 j ?_]
      · exact wipe_eq (by rw [wipe_length]) fun j hj => wipe_get σ hj
      · cases t with
        | nm i => exact fun z => hj (z ▸ hin)
        | tp is => exact fun z => hj (hin j z)
        | tq i is => exact ⟨fun z => hj (z ▸ hin.1), fun z => hj (hin.2 j z)⟩
    refine ⟨wip, G, rfl, as4, ρ4, _, E4, q, fun as5 cc ρ5 H5 A5 q => ?_⟩
    have toX : ∀ {as : As} {H' H'' : Hp}, Le as as1 → Ext (G.mu as) H' H'' → Ext (F.mu as1) H' H'' := fun l e => e.mono fun c z => l.mu (F := F) z
    have hD5 : H5 D0 = some (.lst xs) := by
      refine A5.ext.keep D0 _ (e3.keep D0 _ hD fun z => z) fun z => ?_
      rcases z with ⟨j, z⟩ | z
      · exact E4.nex j D0 z (.inr rfl)
      · exact (E1.mok D0 z).1 h0
    have hR5 : Reps F.K H5 (G.av as5) acc xs := by
      have r := Reps.ext (K := F.K) (av := G.av as2) (e3.mono fun _ z => z.elim) hR
      have r := Reps.wk (av' := G.av as4) (fun _ _ z => l4.av (F := G) z) r
      exact Reps.wk (fun _ _ z => A5.le.av (F := G) z) (Reps.ext (A5.ext.mono fun _ z => mu_av (F := G) z) r)
    have x5 : Ext (F.mu as1) H1 H5 := (hext.trans (e3.mono fun _ z => z.elim)).trans (toX (l4.trans l2) A5.ext)
    cases cc with
    | false =>
      refine iteF ?_
      have q := q.2 rfl
      refine ⟨cutAll as5 own, wipeV own ρ5, acc, xs, (cutAll_le as5 own).trans ((A5.le.trans l4).trans l2), ?_, q, hD5, Reps.wk (fun _ _ z => (cutAll_le as5 own).av (F := G) z) hR5, by omega, x5, fun j hj => wipeV_gt ρ5 hj⟩
      rw [← wip]
      exact A5.er.wipe_ own
    | true =>
      refine iteT ?_
      have q := q.1 rfl
      refine ⟨G, rfl, as5, ρ5, _, A5.er, q, fun as6 r ρ6 v H6 A6 P q => ?_⟩
      obtain ⟨dd, as7, ρ7, l7, E7, r7, q⟩ := P.wt.frz A6.er q
      have hD6 : H6 D0 = some (.lst xs) := by
        refine A6.ext.keep D0 _ hD5 fun z => ?_
        rcases z with ⟨j, z⟩ | z
        · exact A5.er.nex j D0 z (.inr rfl)
        · exact (E1.mok D0 z).1 h0
      have hR6 : Reps F.K H6 (G.av as7) acc xs := Reps.wk (fun _ _ z => (l7.trans A6.le).av (F := G) z) (Reps.ext (A6.ext.mono fun _ z => mu_av (F := G) z) hR5)
      have x6 : Ext (F.mu as1) H1 H6 := x5.trans (toX ((A5.le.trans l4).trans l2) A6.ext)
      have hw : Ext (fun c => c = D0) H6 (upd H6 D0 (.lst (xs ++ [v]))) := ext_write hD6 rfl
      have x7 : Ext (F.mu as1) H1 (upd H6 D0 (.lst (xs ++ [v]))) := by
        refine ⟨fun a o h z => ?_, fun a o h z => hw.other a o (x6.other a o h z) z, fun a o h => let ⟨o', h'⟩ := x6.there a o h; hw.there a o' h'⟩
        exact hw.keep a o (x6.keep a o h z) fun z => by subst z; rw [n] at h; cases h
      have E8 : ER G as7 σ4 (upd H6 D0 (.lst (xs ++ [v]))) ρ7 := acc_write E7 hD6 (.inr rfl) h0
      have gl : (fun c => c = D0) D0 → G.av as7 D0 := fun _ => .inl (.inr rfl)
      refine ⟨xs, hD6, ?_, cutAll as7 own, wipeV own ρ7, acc ++ [dd], xs ++ [v], (cutAll_le as7 own).trans ((((l7.trans A6.le).trans A5.le).trans l4).trans l2), ?_, q, upd_same, ?_, ?_, x7, fun j hj => wipeV_gt ρ7 hj⟩
      · have := hR6.length
        have h3 : its.length ≤ 16777216 := hsm
        rw [sizeLine_eq]
        omega
      · rw [← wip]
        exact E8.wipe_ own
      · refine Reps.wk (fun _ _ z => (cutAll_le as7 own).av (F := G) z) (Reps.ext (hw.mono fun c z => by rw [z]; exact gl rfl) ?_)
        exact hR6.append (Reps.cons r7 Reps.nil)
      · rw [List.length_append, List.length_singleton]; omega
  · intro H2 ⟨as2, ρ2, acc, xs, l2, E2, hI, hD, hR, hlen, hext, hun⟩
    have E3 : ER (F.with D0) as2 σ H2 (unwipe own ρ1 ρ2) := by
      refine ER.restore (E2.unkeep (F := F.with D0)) hun fun j hj d hd => ?_
      have q := E1.sl j
      change SlAt F H1 as1 j _ (gt ρ1 j) at q
      rw [hd] at q
      obtain ⟨_, v, q2, q3⟩ := q
      refine ⟨v, q2, Rep.wk (fun _ _ z => .inr (l2.av (F := F.with D0) z)) (Rep.ext (av := fun b => F.mu as1 b ∨ (F.with D0).av as1 b) (hext.mono fun _ z => .inl z) (Rep.wk (fun b hb z => z.elim mu_av (key b hb)) q3))⟩
    have A : Aft F as as2 σ H H2 (unwipe own ρ1 ρ2) := ⟨l2.trans A1.le, E3.unwith, A1.ext.trans (hext.mono fun _ z => A1.le.mu z)⟩
    exact c as2 (.fresh acc) _ (.ref D0) H2 A ⟨D0, xs, rfl, A1.ext.free n, fun z => E1.notav n (l2.av z), hD, hR, E3⟩ (last acc ρ2 hI)
/-- the wish of a comprehension over a list of ours, which stays ours -/
def wLcO (t : Tg) (own : List Nat) (j : Nat) (wc : WT) (we : WE) : WE := fun ρ Q => match gt ρ j with
  | .own its => Sm its.length ∧ ∃ I : Nat → List D → En → Prop, I 0 [] (wipeV own ρ) ∧ (∀ k acc ρ, I k acc ρ → gt ρ j = .own its) ∧
    (∀ k d acc ρ, its[k]? = some d → I k acc ρ → bind t d ρ fun ρ2 => wc ρ2 fun c ρ3 => br c (we ρ3 fun r ρ4 => frz1 r ρ4 fun y ρ5 => I (k + 1) (acc ++ [y]) (wipeV own ρ5)) (I (k + 1) acc (wipeV own ρ3))) ∧
    ∀ acc ρ', I its.length acc ρ' → Q (.fresh acc) (unwipe own ρ ρ')
  | _ => False
theorem lc_readO {t : Tg} {g : TG} {own : List Nat} {jo : Nat} {wc : WT} {we : WE} {Q : VK} (hvg : VG F.K t g) (hin : tgIn t own) (hjo : jo ∉ own) (h : lE F (wLcO t own jo wc we) σ H Q) :
    tLc (iSeqA F.K (tVar jo)) g (fun σ H Q => ∃ F' : Fr, F'.K = F.K ∧ lT F' wc σ H Q) (fun σ H Q => ∃ F' : Fr, F'.K = F.K ∧ lE F' we σ H Q) own σ H Q := by
  obtain ⟨as1, ρ1, Q', E1, w, c⟩ := h
  unfold wLcO at w
  cases zo : gt ρ1 jo with
  | un => simp only [zo] at w
  | val d => simp only [zo] at w
  | par ds => simp only [zo] at w
  | own its =>
  simp only [zo] at w
  obtain ⟨hsm, I, i0, hkeep, step, last⟩ := w
  obtain ⟨b0, xs0, q1, q2, q3, q4⟩ := E1.list (.inl zo)
  refine ⟨_, q2, b0, rfl, .inl ⟨⟨xs0, .inl (.inl q3)⟩, fun D0 n => ?_⟩⟩
  have A1 : Aft F as1 as1 σ H H ρ1 := Aft.refl E1
  let G : Fr := F.with D0
  have n2 : b0 ≠ D0 := fun z => by rw [z, n] at q3; cases q3
  -- the list that is walked, at each turn
  have here : ∀ {i : Nat} {as2 : As} {H' : Hp} {ρ2 : En} {acc : List D}, ER G as2 (wipe σ own) H' ρ2 → I i acc ρ2 → ∃ ys, SqL F.K H' b0 ys ∧ Reps F.K H' (G.av as2) its ys := fun {i as2 H' ρ2 acc} E2 hI => by
    obtain ⟨b2, ys, g1, g2, g3, g4⟩ := E2.list (.inl (hkeep i acc ρ2 hI))
    rw [wipe_get σ hjo, q2] at g2
    cases g2
    exact ⟨ys, .inl (.inl g3), g4⟩
  have h0 : F.H0 D0 = none := E1.fresh n
  have key : ∀ b, H b ≠ none → (F.with D0).av as1 b → F.av as1 b := fun b hb z => (of_with z).elim id fun z => absurd n (z ▸ hb)
  -- what holds between two turns
  let Pv : Nat → Hp → Prop := fun i H' => ∃ as2 ρ2 acc xs, Le as2 as1 ∧ ER G as2 (wipe σ own) H' ρ2 ∧ I i acc ρ2 ∧ H' D0 = some (.lst xs) ∧ Reps F.K H' (G.av as2) acc xs ∧ acc.length ≤ i ∧ Ext (F.mu as1) H H' ∧ ∀ j ∈ own, gt ρ2 j = .un
  refine lc_it (g := g) (tt := fun σ H Q => ∃ F' : Fr, F'.K = F.K ∧ lT F' wc σ H Q) (te := fun σ H Q => ∃ F' : Fr, F'.K = F.K ∧ lE F' we σ H Q) (vs := own) (σ := σ) (H1 := H) (D := D0) (Qd := fun H' => Q (.ref D0) H') (J := Itl F.K b0) (n := its.length) (G := fun H' => ∃ ys, SqL F.K H' b0 ys ∧ ys.length = its.length) (Y := (Itl F.K b0).yld) ⟨fun i H' hi ⟨ys, g1, g2⟩ => ⟨ys, ys[i]'(by omega), g1, by rw [List.getElem?_eq_getElem]⟩, fun H' ⟨ys, g1, g2⟩ => ⟨ys, g1, Nat.le_of_eq g2⟩, fun i H' x H'' _ _ y => y⟩ Pv ?_ ?_ ?_ ?_
  · -- the start
    have E2 : ER G as1 σ (upd H D0 (.lst [])) ρ1 := E1.with_new n
    exact ⟨cutAll as1 own, wipeV own ρ1, [], [], cutAll_le as1 own, E2.wipe_ own, i0, upd_same, Reps.nil, Nat.le_refl _, Ext.new n, fun j hj => wipeV_gt ρ1 hj⟩
  · intro i H' _ ⟨as2, ρ2, acc, xs, _, E2, hI, _⟩
    obtain ⟨ys, g1, g2⟩ := here E2 hI
    exact ⟨ys, g1, g2.length⟩
  · intro i x H2 H3 hi ⟨as2, ρ2, acc, xs, l2, E2, hI, hD, hR, hlen, hext, hun⟩ y
    obtain ⟨ys, g1, g2⟩ := here E2 hI
    obtain ⟨eH, yy⟩ := y
    obtain ⟨d, hd, hr2⟩ := g2.get' (yy ys g1)
    have e3 : Ext (fun _ => False) H2 H3 := by rw [eH]; exact Ext.refl _ _
    have hr : Rep F.K H3 (G.av as2) d x := by rw [eH]; exact hr2
    have E3 : ER G as2 (wipe σ own) H3 ρ2 := E2.grow e3
    refine hvg.go (F := G) rfl E3 hr (step i d acc ρ2 hd hI) fun as4 σ4 ρ4 l4 E4 hs4 hj4 q => ?_
    have wip : wipe σ4 own = wipe σ own := by
      rw [wipe_eq (σ := σ4) (σ' := wipe σ own) (is := own) hs4 fun j hj => hj4 j ?_]
      · exact wipe_eq (by rw [wipe_length]) fun j hj => wipe_get σ hj
      · cases t with
        | nm i => exact fun z => hj (z ▸ hin)
        | tp is => exact fun z => hj (hin j z)
        | tq i is => exact ⟨fun z => hj (z ▸ hin.1), fun z => hj (hin.2 j z)⟩
    refine ⟨wip, G, rfl, as4, ρ4, _, E4, q, fun as5 cc ρ5 H5 A5 q => ?_⟩
    have toX : ∀ {as : As} {H' H'' : Hp}, Le as as1 → Ext (G.mu as) H' H'' → Ext (F.mu as1) H' H'' := fun l e => e.mono fun c z => l.mu (F := F) z
    have hD5 : H5 D0 = some (.lst xs) := by
      refine A5.ext.keep D0 _ (e3.keep D0 _ hD fun z => z) fun z => ?_
      rcases z with ⟨j, z⟩ | z
      · exact E4.nex j D0 z (.inr rfl)
      · exact (E1.mok D0 z).1 h0
    have hR5 : Reps F.K H5 (G.av as5) acc xs := by
      have r := Reps.ext (K := F.K) (av := G.av as2) (e3.mono fun _ z => z.elim) hR
      have r := Reps.wk (av' := G.av as4) (fun _ _ z => l4.av (F := G) z) r
      exact Reps.wk (fun _ _ z => A5.le.av (F := G) z) (Reps.ext (A5.ext.mono fun _ z => mu_av (F := G) z) r)
    have x5 : Ext (F.mu as1) H H5 := (hext.trans (e3.mono fun _ z => z.elim)).trans (toX (l4.trans l2) A5.ext)
    cases cc with
    | false =>
      refine iteF ?_
      have q := q.2 rfl
      refine ⟨cutAll as5 own, wipeV own ρ5, acc, xs, (cutAll_le as5 own).trans ((A5.le.trans l4).trans l2), ?_, q, hD5, Reps.wk (fun _ _ z => (cutAll_le as5 own).av (F := G) z) hR5, by omega, x5, fun j hj => wipeV_gt ρ5 hj⟩
      rw [← wip]
      exact A5.er.wipe_ own
    | true =>
      refine iteT ?_
      have q := q.1 rfl
      refine ⟨G, rfl, as5, ρ5, _, A5.er, q, fun as6 r ρ6 v H6 A6 P q => ?_⟩
      obtain ⟨dd, as7, ρ7, l7, E7, r7, q⟩ := P.wt.frz A6.er q
      have hD6 : H6 D0 = some (.lst xs) := by
        refine A6.ext.keep D0 _ hD5 fun z => ?_
        rcases z with ⟨j, z⟩ | z
        · exact A5.er.nex j D0 z (.inr rfl)
        · exact (E1.mok D0 z).1 h0
      have hR6 : Reps F.K H6 (G.av as7) acc xs := Reps.wk (fun _ _ z => (l7.trans A6.le).av (F := G) z) (Reps.ext (A6.ext.mono fun _ z => mu_av (F := G) z) hR5)
      have x6 : Ext (F.mu as1) H H6 := x5.trans (toX ((A5.le.trans l4).trans l2) A6.ext)
      have hw : Ext (fun c => c = D0) H6 (upd H6 D0 (.lst (xs ++ [v]))) := ext_write hD6 rfl
      have x7 : Ext (F.mu as1) H (upd H6 D0 (.lst (xs ++ [v]))) := by
        refine ⟨fun a o h z => ?_, fun a o h z => hw.other a o (x6.other a o h z) z, fun a o h => let ⟨o', h'⟩ := x6.there a o h; hw.there a o' h'⟩
        exact hw.keep a o (x6.keep a o h z) fun z => by subst z; rw [n] at h; cases h
      have E8 : ER G as7 σ4 (upd H6 D0 (.lst (xs ++ [v]))) ρ7 := acc_write E7 hD6 (.inr rfl) h0
      have gl : (fun c => c = D0) D0 → G.av as7 D0 := fun _ => .inl (.inr rfl)
      refine ⟨xs, hD6, ?_, cutAll as7 own, wipeV own ρ7, acc ++ [dd], xs ++ [v], (cutAll_le as7 own).trans ((((l7.trans A6.le).trans A5.le).trans l4).trans l2), ?_, q, upd_same, ?_, ?_, x7, fun j hj => wipeV_gt ρ7 hj⟩
      · have := hR6.length
        have h3 : its.length ≤ 16777216 := hsm
        rw [sizeLine_eq]
        omega
      · rw [← wip]
        exact E8.wipe_ own
      · refine Reps.wk (fun _ _ z => (cutAll_le as7 own).av (F := G) z) (Reps.ext (hw.mono fun c z => by rw [z]; exact gl rfl) ?_)
        exact hR6.append (Reps.cons r7 Reps.nil)
      · rw [List.length_append, List.length_singleton]; omega
  · intro H2 ⟨as2, ρ2, acc, xs, l2, E2, hI, hD, hR, hlen, hext, hun⟩
    have E3 : ER (F.with D0) as2 σ H2 (unwipe own ρ1 ρ2) := by
      refine ER.restore (E2) hun fun j hj d hd => ?_
      have q := E1.sl j
      change SlAt F H as1 j _ (gt ρ1 j) at q
      rw [hd] at q
      obtain ⟨_, v, q2, q3⟩ := q
      refine ⟨v, q2, Rep.wk (fun _ _ z => .inr (l2.av (F := F.with D0) z)) (Rep.ext (av := fun b => F.mu as1 b ∨ (F.with D0).av as1 b) (hext.mono fun _ z => .inl z) (Rep.wk (fun b hb z => z.elim mu_av (key b hb)) q3))⟩
    have A : Aft F as1 as2 σ H H2 (unwipe own ρ1 ρ2) := ⟨l2.trans A1.le, E3.unwith, A1.ext.trans (hext.mono fun _ z => A1.le.mu z)⟩
    exact c as2 (.fresh acc) _ (.ref D0) H2 A ⟨D0, xs, rfl, A1.ext.free n, fun z => E1.notav n (l2.av z), hD, hR, E3⟩ (last acc ρ2 hI)
theorem pts_any {ifs : List Expr} {wc : WT} {F : Fr} (ht : ∀ F' : Fr, F'.K = F.K → PTs X ifs (lT F' wc)) : PTs X ifs fun σ H Q => ∃ F' : Fr, F'.K = F.K ∧ lT F' wc σ H Q := ⟨fun pins s σ H Q I ⟨F', h, q⟩ => (ht F' h).run pins s σ H Q I q⟩
theorem pe_any {e : Expr} {we : WE} {F : Fr} (he : ∀ F' : Fr, F'.K = F.K → PE X e (lE F' we)) : PE X e fun σ H Q => ∃ F' : Fr, F'.K = F.K ∧ lE F' we σ H Q := ⟨fun pins s σ H Q I ⟨F', h, q⟩ => (he F' h).run pins s σ H Q I q⟩
theorem ve_lc (O : Ok X F) {elt iter : Expr} {ifs : List Expr} {scope : Scope} {own : List (Str × Nat)} {t : Tg} {g : TG} {wi : En → (List D → En → Prop) → Prop} {wc : WT} {we : WE}
    (hi : VI X F tg iter wi) (ok : BlkOk X.N X.env.scope scope own) (hvg : VG F.K t g) (hin : tgIn t (own.map (·.2)))
    (hg : ∀ (s : Shared) (H : Hp) (C : Addr) (cl : List (Str × Addr)) (fp : List Addr), PG (X.blk s H scope (compEnvC scope cl C X.env) fp) tg g)
    (ht : ∀ (s : Shared) (H : Hp) (C : Addr) (cl : List (Str × Addr)) (fp : List Addr) (F' : Fr), F'.K = F.K → PTs (X.blk s H scope (compEnvC scope cl C X.env) fp) ifs (lT F' wc))
    (he : ∀ (s : Shared) (H : Hp) (C : Addr) (cl : List (Str × Addr)) (fp : List Addr) (F' : Fr), F'.K = F.K → VE (X.blk s H scope (compEnvC scope cl C X.env) fp) F' elt we)
    (hs : ∀ x, foldedSetIterable iter X.env x = pure x) : VE X F (.ListComp elt [⟨tg, iter, ifs, 0⟩] scope pos) (wLc t (own.map (·.2)) wi wc we) :=
  pe_mono (pe_lc O.calm O.nd hi ok hg (fun s H C cl fp => pts_any (ht s H C cl fp)) (fun s H C cl fp => pe_any (he s H C cl fp)) hs) fun σ H Q h => lc_read hvg hin h
theorem ve_lcO (O : Ok X F) {elt : Expr} {x : Str} {px : Pos} {jo : Nat} {ifs : List Expr} {scope : Scope} {own : List (Str × Nat)} {t : Tg} {g : TG} {wc : WT} {we : WE}
    (hN : X.N[jo]? = some x) (hv : Vis X.env.scope x) (hd : (x == ("__debug__" : Str)) = false) (hcd : (x == ("__classdict__" : Str)) = false) (hjo : jo ∉ own.map (·.2)) (ok : BlkOk X.N X.env.scope scope own) (hvg : VG F.K t g) (hin : tgIn t (own.map (·.2)))
    (hg : ∀ (s : Shared) (H : Hp) (C : Addr) (cl : List (Str × Addr)) (fp : List Addr), PG (X.blk s H scope (compEnvC scope cl C X.env) fp) tg g)
    (ht : ∀ (s : Shared) (H : Hp) (C : Addr) (cl : List (Str × Addr)) (fp : List Addr) (F' : Fr), F'.K = F.K → PTs (X.blk s H scope (compEnvC scope cl C X.env) fp) ifs (lT F' wc))
    (he : ∀ (s : Shared) (H : Hp) (C : Addr) (cl : List (Str × Addr)) (fp : List Addr) (F' : Fr), F'.K = F.K → VE (X.blk s H scope (compEnvC scope cl C X.env) fp) F' elt we)
    (hs : ∀ y, foldedSetIterable (.Name x px) X.env y = pure y) : VE X F (.ListComp elt [⟨tg, .Name x px, ifs, 0⟩] scope pos) (wLcO t (own.map (·.2)) jo wc we) :=
  pe_mono (pe_lc O.calm O.nd (pi_seqA (pe_var hN hv hd hcd)) ok hg (fun s H C cl fp => pts_any (ht s H C cl fp)) (fun s H C cl fp => pe_any (he s H C cl fp)) hs) fun σ H Q h => by
    rw [O.K]
    exact lc_readO hvg hin hjo h
end
end VL

/-! VL12: statements. -/
namespace VL
open PySem PySem.Spec L2
section
variable {X : Cx} {F : Fr} {as as' as1 as2 : As} {σ σ' : L2.St} {H H' H1 H2 : Hp} {ρ ρ' ρ1 ρ2 : En} {e a b c : Expr} {es : List Expr} {wa wb wc we : WE} {wl : WA} {pos p : Pos} {tg it : Expr} {st : Stmt} {sts : List Stmt} {ws wt : WS} {wb' : WT}
/-- slot i holds a new list of ours -/
theorem ER.setown {b : Addr} {ds : List D} {xs : List V} {i : Nat} (E : ER (F.with b) as σ H ρ) (h0 : F.H0 b = none) (hm : F.m ≠ some b) (hb : H b = some (.lst xs)) (r : Reps F.K H ((F.with b).av as) ds xs) (hnx : ¬ F.ex b) :
    ∃ as', ER F as' (σ.set i (some (.ref b))) H (ρ.set i (.own ds)) := by
  by_cases hi : i < ρ.length
  · let as' : As := fun j => if j = i then some b else as j
    have ai : as' i = some b := if_pos rfl
    have aj : ∀ {j : Nat}, j ≠ i → as' j = as j := fun h => if_neg h
    have av' : ∀ c, F.av as' c → (F.with b).av as c := fun c z => by
      rcases z with z | ⟨j, z⟩ | z
      · exact .inl (.inl z)
      · by_cases q : j = i
        · subst q; rw [ai] at z; cases z; exact .inl (.inr rfl)
        · rw [aj q] at z; exact .inr (.inl ⟨j, z⟩)
      · exact .inr (.inr z)
    have nb : ∀ j, as j ≠ some b := fun j h => E.nex j b h (.inr rfl)
    refine ⟨as', ⟨by rw [List.length_set, List.length_set]; exact E.len, fun j k c hj hk => ?_, fun j c hj z => ?_, fun j => ?_, E.old, fun j c hj => ?_, fun c z => E.exo c (z.elim (fun z => .inl (.inl z)) .inr), E.mok, fun p hp => Rep.wk (fun _ _ z => av' _ z) (E.kept p hp)⟩⟩
    · by_cases q : j = i
      · by_cases q' : k = i
        · rw [q, q']
        · subst q; rw [ai] at hj; cases hj; rw [aj q'] at hk; exact absurd hk (nb k)
      · by_cases q' : k = i
        · subst q'; rw [ai] at hk; cases hk; rw [aj q] at hj; exact absurd hj (nb j)
        · rw [aj q] at hj; rw [aj q'] at hk; exact E.inj j k c hj hk
    · by_cases q : j = i
      · subst q; rw [ai] at hj; cases hj; exact hnx z
      · rw [aj q] at hj; exact E.nex j c hj (.inl z)
    · show SlAt F H as' j (σ.set i (some (.ref b)))[j]? (gt (ρ.set i (.own ds)) j)
      by_cases q : j = i
      · subst q
        rw [gt_set ρ hi, List.getElem?_set_self (by rw [← E.len]; exact hi)]
        exact ⟨b, xs, ai, .inl h0, rfl, hb, Reps.wk (fun _ _ z => av' _ z) r⟩
      · rw [gt_ne ρ q, List.getElem?_set_ne (Ne.symm q)]
        have z := E.sl j
        change SlAt (F.with b) H as j _ (gt ρ j) at z
        cases s : gt ρ j with
        | un => rw [s] at z; exact (aj q).trans z
        | val d =>
          rw [s] at z
          obtain ⟨z1, v, z2, z3⟩ := z
          exact ⟨(aj q).trans z1, v, z2, Rep.wk (fun _ _ z => av' _ z) z3⟩
        | own es =>
          rw [s] at z
          obtain ⟨c, ys, z1, z2, z3, z4, z5⟩ := z
          exact ⟨c, ys, (aj q).trans z1, z2, z3, z4, Reps.wk (fun _ _ z => av' _ z) z5⟩
        | par es =>
          rw [s] at z
          obtain ⟨c, ys, z1, z2, z3, z4, z5⟩ := z
          exact ⟨c, ys, (aj q).trans z1, z2, z3, z4, Reps.wk (fun _ _ z => av' _ z) z5⟩
    · by_cases q : j = i
      · subst q; rw [ai] at hj; cases hj; exact .inl h0
      · rw [aj q] at hj; exact E.own j c hj
  · rw [set_oob hi, set_oob (by rw [← E.len]; exact hi)]
    exact ⟨as, E.unwith⟩
theorem slot_go {i : Nat} {r : R} {v : V} {k : En → Prop} {Q : L2.St → Hp → Prop} (E : ER F as σ H ρ) (A : Aft F as as1 σ H H1 ρ1) (P : RP F as1 σ H H1 ρ1 r v) (q : toSlot i r ρ1 k) (c : ∀ as' ρ' σ' H', ER F as' σ' H' ρ' → k ρ' → Q σ' H') : Q (σ.set i (some v)) H1 := by
  cases r with
  | val d =>
    obtain ⟨as', _, E'⟩ := A.er.setv' (i := i) P
    exact c as' _ _ _ E' q
  | fresh ds =>
    obtain ⟨b, xs, rfl, h0, h1, h2, h3, h4⟩ := P
    obtain ⟨as', E'⟩ := ER.setown (i := i) h4 (E.fresh h0) (fun z => h1 (.inr (.inr z))) h2 h3 (fun z => h1 (.inl z))
    exact c as' _ _ _ E' q
  | slot j =>
    obtain ⟨d, as2, ρ2, l, E2, g, q⟩ := P.wt.frz (k := fun d ρ2 => k (ρ2.set i (.val d))) A.er q
    obtain ⟨as', _, E'⟩ := E2.setv' (i := i) g
    exact c as' _ _ _ E' q
end
end VL
namespace VL
open PySem PySem.Spec L2
section
variable {X : Cx} {F : Fr} {as as' as1 as2 : As} {σ σ' : L2.St} {H H' H1 H2 : Hp} {ρ ρ' ρ1 ρ2 : En} {e a b c : Expr} {es : List Expr} {wa wb wc we wi : WE} {wl : WA} {pos p px : Pos} {tg it : Expr} {st : Stmt} {sts : List Stmt} {ws wt : WS} {wb' : WT} {i : Nat} {x : Str}
theorem vs_nil : VSs X F [] fun ρ K => K.nx ρ := pss_mono pss_nil fun D σ H ⟨as, ρ, K, E, w, c1, c2, c3, c4⟩ => c1 as ρ σ H E w
theorem vs_cons (h : VS X F st ws) (hs : VSs X F sts wt) : VSs X F (st :: sts) fun ρ K => ws ρ { K with nx := fun ρ1 => wt ρ1 K } := by
  refine pss_mono (pss_cons h hs) fun D σ H ⟨as, ρ, K, E, w, c1, c2, c3, c4⟩ => ?_
  exact ⟨as, ρ, _, E, w, fun as' ρ' σ' H' E' q => ⟨as', ρ', K, E', q, c1, c2, c3, c4⟩, c2, c3, c4⟩
theorem vs_asg (hN : X.N[i]? = some x) (hx : Loc X.env.scope x) (nd : X.N.Nodup) (he : VE X F e we) (hs : swapsWith e (some (.Name x px)) pos.line X.env = pure false) (hf : X.fn x = true ∨ X.env.scope.names.lookup x = some .local) :
    VS X F (.Assign [.Name x px] e pos) fun ρ K => we ρ fun r ρ1 => toSlot i r ρ1 K.nx := by
  refine ps_mono (ps_set nd hN hx he hs hf) fun D σ H ⟨as, ρ, K, E, w, c1, c2, c3, c4⟩ => ?_
  exact ⟨as, ρ, _, E, w, fun as1 r ρ1 v H1 A P q => slot_go E A P q c1⟩
theorem vs_asgLc (O : Ok X F) {elt iter : Expr} {ifs : List Expr} {scope : Scope} {own : List (Str × Nat)} {t : Tg} {g : TG} {wi : En → (List D → En → Prop) → Prop} {wc : WT} {we : WE} {lpos : Pos} (hN : X.N[i]? = some x) (hxl : X.env.scope.names.lookup x = some .local)
    (hsw : swapsWith (.ListComp elt [⟨tg, iter, ifs, 0⟩] scope lpos) (some (.Name x px)) pos.line X.env = pure true)
    (hi : VI X F tg iter wi) (ok : BlkOk X.N X.env.scope scope own) (hvg : VG F.K t g) (hin : tgIn t (own.map (·.2)))
    (hg : ∀ (s : Shared) (H : Hp) (C : Addr) (cl : List (Str × Addr)) (fp : List Addr), PG (X.blk s H scope (compEnvC scope cl C X.env) fp) tg g)
    (ht : ∀ (s : Shared) (H : Hp) (C : Addr) (cl : List (Str × Addr)) (fp : List Addr) (F' : Fr), F'.K = F.K → PTs (X.blk s H scope (compEnvC scope cl C X.env) fp) ifs (lT F' wc))
    (he : ∀ (s : Shared) (H : Hp) (C : Addr) (cl : List (Str × Addr)) (fp : List Addr) (F' : Fr), F'.K = F.K → VE (X.blk s H scope (compEnvC scope cl C X.env) fp) F' elt we)
    (hs : ∀ x, foldedSetIterable iter X.env x = pure x) :
    VS X F (.Assign [.Name x px] (.ListComp elt [⟨tg, iter, ifs, 0⟩] scope lpos) pos) fun ρ K => wLc t (own.map (·.2)) wi wc we ρ fun r ρ1 => toSlot i r ρ1 K.nx := by
  refine ps_mono (ps_setLc O.calm O.nd hN hxl hsw hi ok hg (fun s H C cl fp => pts_any (ht s H C cl fp)) (fun s H C cl fp => pe_any (he s H C cl fp)) hs) fun D σ H ⟨as, ρ, K, E, w, c1, c2, c3, c4⟩ => ?_
  refine lc_read hvg hin (Q := fun v H1 => gName i v σ H1 D.nx) ⟨as, ρ, _, E, w, fun as1 r ρ1 v H1 A P q => slot_go E A P q c1⟩
theorem vs_asgLcO (O : Ok X F) {elt : Expr} {y : Str} {py : Pos} {jo : Nat} {ifs : List Expr} {scope : Scope} {own : List (Str × Nat)} {t : Tg} {g : TG} {wc : WT} {we : WE} {lpos : Pos} (hN : X.N[i]? = some x) (hxl : X.env.scope.names.lookup x = some .local)
    (hsw : swapsWith (.ListComp elt [⟨tg, .Name y py, ifs, 0⟩] scope lpos) (some (.Name x px)) pos.line X.env = pure true)
    (hNj : X.N[jo]? = some y) (hv : Vis X.env.scope y) (hd : (y == ("__debug__" : Str)) = false) (hcd : (y == ("__classdict__" : Str)) = false) (hjo : jo ∉ own.map (·.2)) (ok : BlkOk X.N X.env.scope scope own) (hvg : VG F.K t g) (hin : tgIn t (own.map (·.2)))
    (hg : ∀ (s : Shared) (H : Hp) (C : Addr) (cl : List (Str × Addr)) (fp : List Addr), PG (X.blk s H scope (compEnvC scope cl C X.env) fp) tg g)
    (ht : ∀ (s : Shared) (H : Hp) (C : Addr) (cl : List (Str × Addr)) (fp : List Addr) (F' : Fr), F'.K = F.K → PTs (X.blk s H scope (compEnvC scope cl C X.env) fp) ifs (lT F' wc))
    (he : ∀ (s : Shared) (H : Hp) (C : Addr) (cl : List (Str × Addr)) (fp : List Addr) (F' : Fr), F'.K = F.K → VE (X.blk s H scope (compEnvC scope cl C X.env) fp) F' elt we)
    (hs : ∀ z, foldedSetIterable (.Name y py) X.env z = pure z) :
    VS X F (.Assign [.Name x px] (.ListComp elt [⟨tg, .Name y py, ifs, 0⟩] scope lpos) pos) fun ρ K => wLcO t (own.map (·.2)) jo wc we ρ fun r ρ1 => toSlot i r ρ1 K.nx := by
  refine ps_mono (ps_setLc O.calm O.nd hN hxl hsw (pi_seqA (pe_var hNj hv hd hcd)) ok hg (fun s H C cl fp => pts_any (ht s H C cl fp)) (fun s H C cl fp => pe_any (he s H C cl fp)) hs) fun D σ H ⟨as, ρ, K, E, w, c1, c2, c3, c4⟩ => ?_
  rw [O.K]
  refine lc_readO hvg hin hjo (Q := fun v H1 => gName i v σ H1 D.nx) ⟨as, ρ, _, E, w, fun as1 r ρ1 v H1 A P q => slot_go E A P q c1⟩
/-- several names = a tuple or a list of as many -/
def gSeq (K : PySem.W.Frag) (n : Nat) (t : TGs) : TG := fun v σ H Q => gTup K n t v σ H Q ∨ gUnl K n t v σ H Q
theorem pg_seq {es : List Expr} {k : Nat} {t : TGs} {n : Nat} (hc : X.calm = true) (h : PGs X es t) (hn : (assignEach es X.env).length = n) (hst : (assignEach es X.env).findIdx? (·.1) = none) : PG X (.Tuple es k pos) (gSeq X.K n t) := by
  refine ⟨fun pins s σ H v u Q I r hw => ?_⟩
  rcases hw with hw | hw
  · exact (pg_tup hc h hn hst).run pins s σ H v u Q I r hw
  · exact (pg_unl hc h hn hst).run pins s σ H v u Q I r hw
theorem vs_asgT {is : List Nat} {elts : List Expr} {k : Nat} {tpos : Pos} (hg : PG X (.Tuple elts k tpos) (gSeq F.K is.length (gNames is))) (he : VE X F e we) (hs : swapsWithSole [.Tuple elts k tpos] e pos.line X.env = pure false) (hw : swappedStores [.Tuple elts k tpos] e X.env = pure none)
    (h1 : (assignEach [.Tuple elts k tpos] X.env).map (·.2) = [assign (.Tuple elts k tpos) X.env]) :
    VS X F (.Assign [.Tuple elts k tpos] e pos) fun ρ K => we ρ fun r ρ1 => frz1 r ρ1 fun d ρ2 => match d with
    | .tup ds => ds.length = is.length ∧ K.nx (setAll is ds ρ2)
    | .lst ds => ds.length = is.length ∧ K.nx (setAll is ds ρ2)
    | _ => False := by
  refine ps_mono (ps_asg he hg hs hw h1) fun D σ H ⟨as, ρ, K, E, w, c1, c2, c3, c4⟩ => ?_
  refine ⟨as, ρ, _, E, w, fun as1 r ρ1 v H1 A P q => ?_⟩
  obtain ⟨d, as2, ρ2, l, E2, g, q⟩ := P.wt.frz A.er q
  by_cases hd : isTup d = true
  · have q' : bind (.tp is) d ρ2 K.nx := by cases d <;> first | exact q.elim | (cases hd; done) | exact q
    exact .inl ((vg_tp F.K is).go rfl E2 g q' fun as' σ' ρ' _ E' _ _ hk => c1 as' ρ' σ' H1 E' hk)
  · cases d <;> first | exact q.elim | exact absurd rfl hd | skip
    rename_i ds
    unfold Rep at g
    obtain ⟨a, xs, rfl, h2, _, h3⟩ := g
    exact .inr ⟨a, xs, rfl, .inl (.inl h2), by rw [h3.length]; exact q.1, names_go E2 h3 q.1 q.2 fun as' σ' ρ' _ E' _ _ hk => c1 as' ρ' σ' H1 E' hk⟩
theorem vs_par2 (O : Ok X F) {i j : Nat} {x y : Str} {py pt : Pos} {kt k2 : Nat} {pt2 : Pos} (hi : X.N[i]? = some x) (hj : X.N[j]? = some y) (hij : i ≠ j) (hx : X.env.scope.names.lookup x = some .local) (hy : X.env.scope.names.lookup y = some .local) (ha : VA X F [a, b] wl)
    (hw : swappedStores [.Tuple [.Name x px, .Name y py] kt pt] (.Tuple [a, b] k2 pt2) X.env = pure (some [x, y])) :
    VS X F (.Assign [.Tuple [.Name x px, .Name y py] kt pt] (.Tuple [a, b] k2 pt2) pos) fun ρ K => wl ρ fun rs ρ1 => frz rs ρ1 fun ds ρ2 => ds.length = 2 ∧ K.nx (setAll [i, j] ds ρ2) := by
  refine ps_mono (ps_par O.calm O.nd hi hj hij hx hy ha hw) fun D σ H ⟨as, ρ, K, E, w, c1, c2, c3, c4⟩ => ?_
  refine ⟨as, ρ, _, E, w, fun as1 rs ρ1 vs H1 A W q => ?_⟩
  obtain ⟨ds, as2, ρ2, l, E2, g, hl, q⟩ := Wts.frz (wts_of W) A.er q
  match ds, hl, g, q with
  | [d, d'], _, g, q =>
    obtain ⟨v, v', rfl, g1, g2⟩ := g.two
    obtain ⟨as3, l3, E3⟩ := E2.setv' (i := i) g1
    obtain ⟨as4, l4, E4⟩ := E3.setv' (i := j) (Rep.wk (fun _ _ z => l3.av z) g2)
    exact ⟨v, v', rfl, c1 as4 _ _ H1 E4 q⟩
theorem vs_par3 (O : Ok X F) {i j l : Nat} {x y z : Str} {py pz pt : Pos} {kt k2 : Nat} {pt2 : Pos} (hi : X.N[i]? = some x) (hj : X.N[j]? = some y) (hl : X.N[l]? = some z) (hij : i ≠ j) (hil : i ≠ l) (hjl : j ≠ l)
    (hx : X.env.scope.names.lookup x = some .local) (hy : X.env.scope.names.lookup y = some .local) (hz : X.env.scope.names.lookup z = some .local) (ha : VA X F [a, b, c] wl)
    (hw : swappedStores [.Tuple [.Name x px, .Name y py, .Name z pz] kt pt] (.Tuple [a, b, c] k2 pt2) X.env = pure (some [x, y, z])) :
    VS X F (.Assign [.Tuple [.Name x px, .Name y py, .Name z pz] kt pt] (.Tuple [a, b, c] k2 pt2) pos) fun ρ K => wl ρ fun rs ρ1 => frz rs ρ1 fun ds ρ2 => ds.length = 3 ∧ K.nx (setAll [i, j, l] ds ρ2) := by
  refine ps_mono (ps_par3 O.calm O.nd hi hj hl hij hil hjl hx hy hz ha hw) fun D σ H ⟨as, ρ, K, E, w, c1, c2, c3, c4⟩ => ?_
  refine ⟨as, ρ, _, E, w, fun as1 rs ρ1 vs H1 A W q => ?_⟩
  obtain ⟨ds, as2, ρ2, l2, E2, g, hlen, q⟩ := Wts.frz (wts_of W) A.er q
  match ds, hlen, g, q with
  | [d, d', d''], _, g, q =>
    unfold Reps at g
    obtain ⟨v, vr, rfl, g1, g⟩ := g
    obtain ⟨v', v'', rfl, g2, g3⟩ := g.two
    obtain ⟨as3, l3, E3⟩ := E2.setv' (i := i) g1
    obtain ⟨as4, l4, E4⟩ := E3.setv' (i := j) (Rep.wk (fun _ _ z => l3.av z) g2)
    obtain ⟨as5, l5, E5⟩ := E4.setv' (i := l) (Rep.wk (fun _ _ z => l3.av (l4.av z)) g3)
    exact ⟨v, v', v'', rfl, c1 as5 _ _ H1 E5 q⟩
theorem putAt_go {y d : VL.D} {iv v : V} {b : Addr} {k : En → Prop} {Q : Hp → Prop} (E : ER F as σ H ρ) (ho : σ[i]? = some (some (.ref b))) (gy : Got F as H y iv) (g : Rep F.K H (F.av as) d v) (q : putAt i y d ρ k) (c : ∀ ρ' H', ER F as σ H' ρ' → Ext (F.mu as) H H' → k ρ' → Q H') :
    rSetL (.ref b) iv v H Q := by
  unfold putAt at q
  cases y <;> first | exact q.elim | skip
  rename_i n
  rw [gy.int]
  have q : (match gt ρ i with
    | .own ds => ∃ j, ixN ds.length n = some j ∧ k (ρ.set i (.own (ds.set j d)))
    | .par ds => ∃ j, ixN ds.length n = some j ∧ k (ρ.set i (.par (ds.set j d)))
    | _ => False) := q
  cases z : gt ρ i with
  | un => simp only [z] at q
  | val d => simp only [z] at q
  | own ds =>
    simp only [z] at q
    obtain ⟨b', xs, h1, h2, h3, h4⟩ := E.list (.inl z)
    rw [ho] at h2; cases h2
    obtain ⟨j, hj, q⟩ := q
    obtain ⟨f1, _, f3⟩ := E.write (ds := ds) (ds' := ds.set j d) (ys := xs.set j v) h1 h3 (Reps.set g j h4)
    exact ⟨b, xs, n, j, rfl, rfl, h3, by rw [h4.length]; exact hj, c _ _ (f1 z) f3 q⟩
  | par ds =>
    simp only [z] at q
    obtain ⟨b', xs, h1, h2, h3, h4⟩ := E.list (.inr z)
    rw [ho] at h2; cases h2
    obtain ⟨j, hj, q⟩ := q
    obtain ⟨_, f2, f3⟩ := E.write (ds := ds) (ds' := ds.set j d) (ys := xs.set j v) h1 h3 (Reps.set g j h4)
    exact ⟨b, xs, n, j, rfl, rfl, h3, by rw [h4.length]; exact hj, c _ _ (f2 z) f3 q⟩
theorem own_addr (E : ER F as σ H ρ) (w : isOwn (gt ρ i) = true) : ∃ b, σ[i]? = some (some (.ref b)) := by
  cases z : gt ρ i with
  | own ds => obtain ⟨b, xs, h1, h2, _⟩ := E.list (.inl z); exact ⟨b, h2⟩
  | par ds => obtain ⟨b, xs, h1, h2, _⟩ := E.list (.inr z); exact ⟨b, h2⟩
  | un => rw [z] at w; cases w
  | val d => rw [z] at w; cases w
theorem vs_sub (O : Ok X F) {tpos : Pos} {ixe : Expr} {wx : WE} (hN : X.N[i]? = some x) (hv : Vis X.env.scope x) (hd : (x == ("__debug__" : Str)) = false) (hcd : (x == ("__classdict__" : Str)) = false) (he : VE X F e we) (hx : VE X F ixe wx)
    (hs : swapsWithSole [.Subscript (.Name x px) ixe tpos] e pos.line X.env = pure false) (hw : swappedStores [.Subscript (.Name x px) ixe tpos] e X.env = pure none) (h1 : (assignEach [.Subscript (.Name x px) ixe tpos] X.env).map (·.2) = [assign (.Subscript (.Name x px) ixe tpos) X.env])
    (ha : ∀ v, assign (.Subscript (.Name x px) ixe tpos) X.env v = (do
      let ov ← holding [v] (eval (.Name x px) X.env)
      let iv ← holding [v, ov] (eval ixe X.env)
      standAt tpos
      holding [v, ov, iv] (setItem ov iv v)
      release [v, ov, iv] [])) :
    VS X F (.Assign [.Subscript (.Name x px) ixe tpos] e pos) fun ρ K => we ρ fun r ρ1 => isOwn (gt ρ1 i) = true ∧ wx ρ1 fun r2 ρ2 => frz1 r ρ2 fun d ρ3 => wRd r2 ρ3 fun y => putAt i y d ρ3 K.nx := by
  refine ps_mono (ps_asg he (pg_sub (pe_var hN hv hd hcd) hx set_list ha) hs hw h1) fun D σ H ⟨as, ρ, K, E, w, c1, c2, c3, c4⟩ => ?_
  refine ⟨as, ρ, _, E, w, fun as1 r ρ1 v H1 A1 P1 ⟨ho, q1⟩ => ?_⟩
  obtain ⟨b, hb⟩ := own_addr A1.er ho
  refine ⟨.ref b, hb, as1, ρ1, _, A1.er, q1, fun as2 r2 ρ2 iv H2 A2 P2 q2 => ?_⟩
  obtain ⟨d, as3, ρ3, l3, E3, g3, q3⟩ := (P1.wt.step A2.le A2.ext).frz A2.er q2
  obtain ⟨y, e1, q3⟩ := wRd_some q3
  have gy := (P2.wt.step l3 (Ext.refl _ _)).got E3 e1
  exact putAt_go E3 hb gy g3 q3 fun ρ' H' E' _ q => c1 as3 ρ' σ H' E' q
/-- x[i], x[j] = a pair -/
theorem vs_asgX (O : Ok X F) {tp1 tp2 tpos p1 p2 : Pos} {k : Nat} {ix1 ix2 : Expr} {wx wy : WE} (hN : X.N[i]? = some x) (hv : Vis X.env.scope x) (hd : (x == ("__debug__" : Str)) = false) (hcd : (x == ("__classdict__" : Str)) = false) (he : VE X F e we) (hx : VE X F ix1 wx) (hy : VE X F ix2 wy)
    (hs : swapsWithSole [.Tuple [.Subscript (.Name x p1) ix1 tp1, .Subscript (.Name x p2) ix2 tp2] k tpos] e pos.line X.env = pure false) (hw : swappedStores [.Tuple [.Subscript (.Name x p1) ix1 tp1, .Subscript (.Name x p2) ix2 tp2] k tpos] e X.env = pure none)
    (ha : ∀ v, assign (.Subscript (.Name x p1) ix1 tp1) X.env v = (do
      let ov ← holding [v] (eval (.Name x p1) X.env)
      let iv ← holding [v, ov] (eval ix1 X.env)
      standAt tp1
      holding [v, ov, iv] (setItem ov iv v)
      release [v, ov, iv] []))
    (hb : ∀ v, assign (.Subscript (.Name x p2) ix2 tp2) X.env v = (do
      let ov ← holding [v] (eval (.Name x p2) X.env)
      let iv ← holding [v, ov] (eval ix2 X.env)
      standAt tp2
      holding [v, ov, iv] (setItem ov iv v)
      release [v, ov, iv] [])) :
    VS X F (.Assign [.Tuple [.Subscript (.Name x p1) ix1 tp1, .Subscript (.Name x p2) ix2 tp2] k tpos] e pos) fun ρ K => we ρ fun r ρ1 => frz1 r ρ1 fun d ρ2 => match d with
    | .tup [d1, d2] => isOwn (gt ρ2 i) = true ∧ wx ρ2 fun r1 ρ3 => wRd r1 ρ3 fun y1 => putAt i y1 d1 ρ3 fun ρ4 => isOwn (gt ρ4 i) = true ∧ wy ρ4 fun r2 ρ5 => wRd r2 ρ5 fun y2 => putAt i y2 d2 ρ5 K.nx
    | _ => False := by
  refine ps_mono (ps_asg he (pg_tup (n := 2) O.calm (pgs_cons (pg_sub (pe_var hN hv hd hcd) hx set_list ha) (pgs_cons (pg_sub (pe_var hN hv hd hcd) hy set_list hb) pgs_nil rfl) rfl) rfl rfl) hs hw rfl) fun D σ H ⟨as, ρ, K, E, w, c1, c2, c3, c4⟩ => ?_
  refine ⟨as, ρ, _, E, w, fun as1 r ρ1 v H1 A1 P1 q1 => ?_⟩
  obtain ⟨d, as2, ρ2, l2, E2, g2, q2⟩ := P1.wt.frz A1.er q1
  cases d <;> first | exact q2.elim | skip
  rename_i ds
  cases ds with
  | nil => exact q2.elim
  | cons d1 ds =>
  cases ds with
  | nil => exact q2.elim
  | cons d2 ds =>
  cases ds with
  | cons _ _ => exact q2.elim
  | nil =>
    obtain ⟨ho, q2⟩ := q2
    unfold Rep at g2
    obtain ⟨a, xs, rfl, h1, h2⟩ := g2
    obtain ⟨v1, v2, rfl, g1, g2⟩ := h2.two
    obtain ⟨b, hb⟩ := own_addr E2 ho
    refine ⟨a, _, rfl, by rw [O.K]; exact h1, rfl, v1, _, rfl, .ref b, hb, as2, ρ2, _, E2, q2, fun as3 r1 ρ3 iv H3 A3 P3 q3 => ?_⟩
    obtain ⟨y1, e1, q3⟩ := wRd_some q3
    have gy := P3.wt.got A3.er e1
    have r1 : Rep F.K H3 (F.av as3) d1 v1 := Rep.wk (fun _ _ z => A3.le.av z) (Rep.ext (A3.ext.mono fun _ z => mu_av z) g1)
    have r2 : Rep F.K H3 (F.av as3) d2 v2 := Rep.wk (fun _ _ z => A3.le.av z) (Rep.ext (A3.ext.mono fun _ z => mu_av z) g2)
    refine putAt_go A3.er hb gy r1 q3 fun ρ4 H4 E4 x4 q4 => ?_
    obtain ⟨ho4, q4⟩ := q4
    obtain ⟨b', hb'⟩ := own_addr E4 ho4
    have r2 : Rep F.K H4 (F.av as3) d2 v2 := Rep.ext (x4.mono fun _ z => mu_av z) r2
    refine ⟨v2, [], rfl, .ref b', hb', as3, ρ4, _, E4, q4, fun as5 r5 ρ5 iv H5 A5 P5 q5 => ?_⟩
    obtain ⟨y2, e2, q5⟩ := wRd_some q5
    have gy := P5.wt.got A5.er e2
    have r2 : Rep F.K H5 (F.av as5) d2 v2 := Rep.wk (fun _ _ z => A5.le.av z) (Rep.ext (A5.ext.mono fun _ z => mu_av z) r2)
    exact putAt_go A5.er hb' gy r2 q5 fun ρ6 H6 E6 _ q => ⟨rfl, c1 as5 ρ6 σ H6 E6 q⟩
theorem itAt_go {y : VL.D} {iv : V} {b : Addr} {k : VL.D → Prop} (E : ER F as σ H ρ) (ho : σ[i]? = some (some (.ref b))) (gy : Got F as H y iv) (q : itAt i y ρ k) :
    ∃ n d v xs, iv = .int n ∧ H b = some (.lst xs) ∧ atI xs n = some v ∧ Rep F.K H (F.av as) d v ∧ k d := by
  unfold itAt at q
  cases y <;> first | exact q.elim | skip
  rename_i n
  have q : (match gt ρ i with
    | .own ds => ∃ d, atI ds n = some d ∧ k d
    | .par ds => ∃ d, atI ds n = some d ∧ k d
    | _ => False) := q
  cases z : gt ρ i with
  | un => simp only [z] at q
  | val d => simp only [z] at q
  | own ds =>
    simp only [z] at q
    obtain ⟨b', xs, h1, h2, h3, h4⟩ := E.list (.inl z)
    rw [ho] at h2; cases h2
    obtain ⟨d, hd, q⟩ := q
    obtain ⟨v, h5, h6⟩ := h4.at hd
    exact ⟨n, d, v, xs, gy.int, h3, h5, h6, q⟩
  | par ds =>
    simp only [z] at q
    obtain ⟨b', xs, h1, h2, h3, h4⟩ := E.list (.inr z)
    rw [ho] at h2; cases h2
    obtain ⟨d, hd, q⟩ := q
    obtain ⟨v, h5, h6⟩ := h4.at hd
    exact ⟨n, d, v, xs, gy.int, h3, h5, h6, q⟩
def rAug (o : Op) : R2 := match o with
  | .add => fun x y H Q => (rI0 (fun i j => .int (i + j))) x y H Q ∨ rStr x y H Q
  | .sub => rI0 fun i j => .int (i - j)
  | _ => fun _ _ _ _ => False
theorem aug_ok (o : Op) : PIp X (opP o) (rAug o) := by
  cases o with
  | add => exact iop_add.or iop_add_str
  | sub => exact iop_sub
  | _ => exact fun _ _ _ _ _ _ _ _ _ _ _ _ h => h.elim
theorem aug_sound (o : Op) {x y : VL.D} {v u : V} {k : VL.D → Prop} {Q : VK} (gx : Got F as H x v) (gy : Got F as H y u) (q : augD o x y k) (c : ∀ z w, (∀ av, Rep F.K H av z w) → k z → Q w H) : rAug o v u H Q := by
  unfold augD at q
  split at q
  · rw [gx.int, gy.int]; exact .inl ⟨_, _, rfl, rfl, c _ _ (fun _ => rep_int _) q⟩
  · rw [gx.int, gy.int]; exact ⟨_, _, rfl, rfl, c _ _ (fun _ => rep_int _) q⟩
  · rw [gx.str, gy.str]; exact .inr ⟨_, _, rfl, rfl, sm_line q.1, c _ _ (fun _ => rep_str _) q.2⟩
  · exact q.elim
theorem vs_aug (O : Ok X F) (o : Op) (hN : X.N[i]? = some x) (hx : Loc X.env.scope x) (he : VE X F e we) (hf : X.fn x = true ∨ X.env.scope.names.lookup x = some .local) :
    VS X F (.AugAssign (.Name x px) (opP o) e pos) fun ρ K => ∃ x, gt ρ i = .val x ∧ we ρ fun r ρ1 => wRd r ρ1 fun y => augD o x y fun z => K.nx (ρ1.set i (.val z)) := by
  refine ps_mono (ps_aug O.nd hN hx he (aug_ok o) hf) fun D σ H ⟨as, ρ, K, E, ⟨d, z, w⟩, c1, c2, c3, c4⟩ => ?_
  have q := E.sl i
  change SlAt F H as i _ (gt ρ i) at q
  rw [z] at q
  obtain ⟨q1, v, q2, q3⟩ := q
  refine ⟨v, q2, as, ρ, _, E, w, fun as1 r ρ1 u H1 A P q => ?_⟩
  obtain ⟨y, e1, q⟩ := wRd_some q
  have gy := P.wt.got A.er e1
  have gx : Got F as1 H1 d v := .inl (Rep.wk (fun _ _ z => A.le.av z) (Rep.ext (A.ext.mono fun _ => mu_av) q3))
  refine aug_sound o gx gy q fun z w r hk => ?_
  obtain ⟨as', _, E'⟩ := A.er.setv' (i := i) (r (F.av as1))
  exact c1 as' _ _ H1 E' hk
theorem get_list (O : Ok X F) : PGet X (rIxL F.K) := by
  intro pins s σ H o i ov iv Q I ro ri h
  obtain ⟨p, xs, n, z, rfl, rfl, hq, he, q⟩ := h
  cases ro
  obtain ⟨t, rfl⟩ := ri
  obtain ⟨its, r, pl, hz⟩ := I.list (O.K.symm ▸ hq)
  obtain ⟨j, h1, h2, h3, h4, h5⟩ := atI_get he
  obtain ⟨w, ew, rw'⟩ := r.get h2
  have hl := r.length
  have fin : EP X pins σ Q w s := ⟨z, H, I, rw', q⟩
  have hn := line63
  by_cases h0 : 0 ≤ n
  · have hj : n.toNat = j := by
      rw [seqIndex_of h0 h5] at h1
      exact Option.some.inj h1
    exact wpAny_getItem_list pl.isList h0 (by omega) (by rw [hj]; simpa using ew) fin
  · have hj : (n + (its.toArray.size : Int)).toNat = j := by
      rw [seqIndex_neg (by omega) h4] at h1
      rw [List.size_toArray, ← hl]
      exact Option.some.inj h1
    exact wpAny_getItem_list_neg pl.isList (by omega) (by rw [List.size_toArray] <;> omega) (by omega) (by rw [hj]; simpa using ew) fin
theorem vs_augS (O : Ok X F) (o : Op) {tpos : Pos} {ixe : Expr} {wx : WE} (hN : X.N[i]? = some x) (hv : Vis X.env.scope x) (hd : (x == ("__debug__" : Str)) = false) (hcd : (x == ("__classdict__" : Str)) = false) (he : VE X F e we) (hx : VE X F ixe wx)
    (ha : ∀ ov iv new, augStore ixe ov iv new = (do holding [new, ov, iv] (setItem ov iv new); release [new, ov, iv] []; pure .next)) :
    VS X F (.AugAssign (.Subscript (.Name x px) ixe tpos) (opP o) e pos) fun ρ K => isOwn (gt ρ i) = true ∧ wx ρ fun r1 ρ1 => wRd r1 ρ1 fun y => itAt i y ρ1 fun d => we ρ1 fun r2 ρ2 => wRd r2 ρ2 fun v => augD o d v fun z => putAt i y z ρ2 K.nx := by
  refine ps_mono (ps_augS (pe_var hN hv hd hcd) hx (get_list O) he (aug_ok o) set_list ha) fun D σ H ⟨as, ρ, K, E, ⟨ho, w⟩, c1, c2, c3, c4⟩ => ?_
  obtain ⟨b, hb⟩ := own_addr E ho
  refine ⟨.ref b, hb, as, ρ, _, E, w, fun as1 r1 ρ1 iv H1 A1 P1 q1 => ?_⟩
  obtain ⟨y, e1, q1⟩ := wRd_some q1
  have gy := P1.wt.got A1.er e1
  obtain ⟨n, d, v, xs, rfl, h1, h2, h3, q2⟩ := itAt_go A1.er hb gy q1
  refine ⟨b, xs, n, v, rfl, rfl, .inl (.inl h1), h2, as1, ρ1, _, A1.er, q2, fun as2 r2 ρ2 u H2 A2 P2 q3 => ?_⟩
  obtain ⟨y2, e2, q3⟩ := wRd_some q3
  have g2 := P2.wt.got A2.er e2
  have gd : Got F as2 H2 d v := .inl (Rep.wk (fun _ _ z => A2.le.av z) (Rep.ext (A2.ext.mono fun _ => mu_av) h3))
  have gy2 : Got F as2 H2 y (.int n) := by
    have := gy.rep
    cases y with
    | int m => have e := gy.int; cases e; exact .inl (rep_int _)
    | _ => unfold Rep at this; first | (cases this; done) | (obtain ⟨_, _, z, _⟩ := this; cases z)
  refine aug_sound o gd g2 q3 fun z w r hk => ?_
  exact putAt_go A2.er hb gy2 (r _) hk fun ρ' H' E' _ q => c1 as2 ρ' σ H' E' q
theorem vs_ex (he : VE X F e we) (hs : swapsWith e none pos.line X.env = pure false) : VS X F (.Expr e pos) fun ρ K => we ρ fun _ ρ1 => K.nx ρ1 := by
  refine ps_mono (ps_expr he hs) fun D σ H ⟨as, ρ, K, E, w, c1, c2, c3, c4⟩ => ?_
  exact ⟨as, ρ, _, E, w, fun as1 r ρ1 v H1 A P q => c1 as1 ρ1 σ H1 A.er q⟩
theorem vs_ret (he : VE X F e we) : VS X F (.Return (some e) pos) fun ρ K => we ρ fun r ρ1 => match r with
    | .val d => K.rt (.val d) ρ1
    | .fresh ds => K.rt (.fresh ds) ρ1
    | .slot j => match gt ρ1 j with
      | .own ds => K.rt (.fresh ds) ρ1
      | _ => False := by
  refine ps_mono (ps_ret he) fun D σ H ⟨as, ρ, K, E, w, c1, c2, c3, c4⟩ => ?_
  refine ⟨as, ρ, _, E, w, fun as1 r ρ1 v H1 A P q => ?_⟩
  cases r with
  | val d => exact c4 as1 ρ1 σ H1 (.val d) v A.er P q
  | fresh ds =>
    obtain ⟨b, xs, rfl, h0, h1, h2, h3, h4⟩ := P
    refine c4 as1 ρ1 σ H1 (.fresh ds) _ A.er ⟨b, xs, rfl, .inl (E.fresh h0), h2, Reps.wk (fun c _ z => z.elim with_av fun z => .inl (.inr z)) h3, fun i ds' z => ?_⟩ q
    have s := h4.sl i
    rw [z] at s
    obtain ⟨a, ys, s1, _, _, s4, s5⟩ := s
    exact ⟨a, ys, s1, s4, Reps.wk (fun c _ z => z.elim with_av fun z => .inl (.inr z)) s5⟩
  | slot j =>
    obtain ⟨b, h1, rfl⟩ := P
    have q : (match gt ρ1 j with | .own ds => K.rt (.fresh ds) ρ1 | _ => False) := q
    cases z : gt ρ1 j with
    | un => simp only [z] at q
    | val d => simp only [z] at q
    | par d => simp only [z] at q
    | own ds =>
      simp only [z] at q
      have s := A.er.sl j
      change SlAt F H1 as1 j _ (gt ρ1 j) at s
      rw [z] at s
      obtain ⟨b', xs, s1, s2, s3, s4, s5⟩ := s
      rw [h1] at s1; cases s1
      refine c4 as1 ρ1 σ H1 (.fresh ds) _ A.er ⟨b, xs, rfl, s2, s4, Reps.wk (fun c _ z => z.elim id fun z => .inr (.inl ⟨j, z ▸ h1⟩)) s5, fun i ds' z => ?_⟩ q
      have s := A.er.sl i
      rw [z] at s
      obtain ⟨a, ys, s1, _, _, s4, s5⟩ := s
      exact ⟨a, ys, s1, s4, Reps.wk (fun c _ z => z.elim id fun z => .inr (.inl ⟨j, z ▸ h1⟩)) s5⟩
theorem vs_ret0 : VS X F (.Return none pos) fun ρ K => K.rt (.val .non) ρ :=
  ps_mono ps_retN fun D σ H ⟨as, ρ, K, E, w, c1, c2, c3, c4⟩ => c4 as ρ σ H (.val .non) .non E (rep_non (K := F.K) (H := H) (av := F.av as)) w
theorem vs_if {cc : Expr} {A B : List Stmt} {wa' wb'' : WS} {wc' : WT} (hc : VT X F cc wc') (ha : VSs X F A wa') (hb : VSs X F B wb'') : VS X F (.If cc A B pos) fun ρ K => wc' ρ fun z ρ1 => br z (wa' ρ1 K) (wb'' ρ1 K) := by
  refine ps_mono (ps_if hc ha hb) fun D σ H ⟨as, ρ, K, E, w, c1, c2, c3, c4⟩ => ?_
  refine ⟨as, ρ, _, E, w, fun as1 z ρ1 H1 A q => br_if q (fun q => ?_) fun q => ?_⟩
  · exact ⟨as1, ρ1, K, A.er, q, c1, c2, c3, c4⟩
  · exact ⟨as1, ρ1, K, A.er, q, c1, c2, c3, c4⟩
theorem vs_while (O : Ok X F) {cc : Expr} {B : List Stmt} {wb'' : WS} {wc' : WT} (hc : VT X F cc wc') (hb : VSs X F B wb'') :
    VS X F (.While cc B [] pos) fun ρ K => ∃ I : Nat → En → Prop, (∃ m, I m ρ) ∧ ∀ m ρ, I m ρ → wc' ρ fun z ρ1 =>
      br z (wb'' ρ1 { nx := fun ρ2 => ∃ m', m' < m ∧ I m' ρ2, ct := fun ρ2 => ∃ m', m' < m ∧ I m' ρ2, bk := K.nx, rt := K.rt }) (K.nx ρ1) := by
  refine ps_mono (ps_while (O.pass _) hc hb) fun D σ H ⟨as, ρ, K, E, ⟨I, ⟨m0, i0⟩, step⟩, c1, c2, c3, c4⟩ => ?_
  refine ⟨fun m σ H => ∃ as ρ, ER F as σ H ρ ∧ I m ρ, ⟨m0, as, ρ, E, i0⟩, fun m σ H ⟨as, ρ, E, hi⟩ => ?_⟩
  refine ⟨as, ρ, _, E, step m ρ hi, fun as1 z ρ1 H1 A q => br_if q (fun q => ?_) fun q => c1 as1 ρ1 σ H1 A.er q⟩
  refine ⟨fun σ' H' => ∃ m', m' < m ∧ ∃ as ρ, ER F as σ' H' ρ ∧ I m' ρ, fun σ' H' h => h, as1, ρ1, _, A.er, q, ?_, c1, ?_, c4⟩
  · exact fun as' ρ' σ' H' E' ⟨m', hm, hi'⟩ => ⟨m', hm, as', ρ', E', hi'⟩
  · exact fun as' ρ' σ' H' E' ⟨m', hm, hi'⟩ => ⟨m', hm, as', ρ', E', hi'⟩
theorem vs_for (O : Ok X F) {iter : Expr} {B : List Stmt} {wb'' : WS} {t : Tg} {g : TG} {wi' : En → (List VL.D → En → Prop) → Prop} (hi : VI X F tg iter wi') (hvg : VG F.K t g) (hg : PG X tg g) (hb : ∀ F' : Fr, F'.K = F.K → VSs X F' B wb'') (hs : ∀ x, foldedSetIterable iter X.env x = pure x) :
    VS X F (.For tg iter B [] pos) fun ρ K => wi' ρ fun its ρ1 => ∃ I : Nat → En → Prop, I 0 ρ1 ∧
      (∀ k d ρ, its[k]? = some d → I k ρ → bind t d ρ fun ρ2 => wb'' ρ2 { nx := I (k + 1), ct := I (k + 1), bk := K.nx, rt := K.rt }) ∧ ∀ ρ, I its.length ρ → K.nx ρ := by
  have hB : PSs X B fun D σ H => ∃ F' : Fr, F'.K = F.K ∧ lS F' wb'' D σ H := ⟨fun pins s σ H D I ⟨F', h, q⟩ => (hb F' h).run pins s σ H D I q⟩
  refine ps_mono (ps_for (O.pass _) O.calm hi hg hB hs) fun D σ H ⟨as, ρ, K, E, w, c1, c2, c3, c4⟩ => ?_
  refine ⟨as, ρ, _, E, w, fun as1 its ρ1 H1 J ps A Ek hJ ⟨I, i0, step, last⟩ => ?_⟩
  let G : Fr := Kept F ps
  refine for_it (J := J) (n := its.length) (G := fun H' => ∃ av, KpAt F.K H' av ps) (Y := J.yld) (g := g) (tb := fun D σ H => ∃ F' : Fr, F'.K = F.K ∧ lS F' wb'' D σ H) (D := D) (σ := σ) (H := H1)
    ⟨fun i H' hi ⟨av, k⟩ => hJ.goes i H' av hi k, fun H' ⟨av, k⟩ => hJ.stops H' av k, fun i H' x H'' _ _ y => y⟩ (fun i σ' H' => ∃ as ρ, ER G as σ' H' ρ ∧ I i ρ) ⟨as1, ρ1, Ek, i0⟩ ?_ ?_ ?_
  · exact fun i σ' H' _ ⟨as', ρ', E', _⟩ => ⟨_, E'.kp⟩
  · intro k v σ' H2 H3 hk ⟨as2, ρ2, E2, hI⟩ y
    obtain ⟨e3, d, hd, hr⟩ := hJ.ylds k H2 v H3 (G.av as2) hk E2.kp y
    refine hvg.go (F := G) rfl (E2.grow e3) hr (step k d ρ2 hd hI) fun as4 σ4 ρ4 l4 E4 _ _ q => ?_
    refine ⟨G, rfl, as4, ρ4, _, E4, q, fun as' ρ' σ' H' E' q => ⟨as', ρ', E', q⟩, fun as' ρ' σ' H' E' q => c1 as' ρ' σ' H' E'.unkeep q, fun as' ρ' σ' H' E' q => ⟨as', ρ', E', q⟩, fun as' ρ' σ' H' r v E' P q => ?_⟩
    exact c4 as' ρ' σ' H' r v E'.unkeep (by cases r <;> exact P) q
  · exact fun σ' H' ⟨as', ρ', E', hI⟩ => c1 as' ρ' σ' H' E'.unkeep (last ρ' hI)
theorem vs_pass : VS X F (.Pass pos) fun ρ K => K.nx ρ := ps_mono ps_pass fun D σ H ⟨as, ρ, K, E, w, c1, _⟩ => c1 as ρ σ H E w
theorem vs_brk : VS X F (.Break pos) fun ρ K => K.bk ρ := ps_mono ps_break fun D σ H ⟨as, ρ, K, E, w, _, c2, _⟩ => c2 as ρ σ H E w
theorem vs_cnt : VS X F (.Continue pos) fun ρ K => K.ct ρ := ps_mono ps_continue fun D σ H ⟨as, ρ, K, E, w, _, _, c3, _⟩ => c3 as ρ σ H E w
end
end VL

/-! VL13: a text of Python against the small language. -/
namespace VL
open PySem PySem.Spec L2
/-- where a piece of text stands: the block's names, the slots, whether it is the def itself, the defs by number (name, many parameters), the builtins that stand -/
structure Cc where
  sc : Scope
  N : List Str
  top : Bool
  fs : List (Nat × Str × Nat)
  bs : List Str
  gs : List (Str × D)
mutual
def eqD : D → D → Bool
  | .non, .non => true
  | .bl a, .bl b => a == b
  | .int a, .int b => a == b
  | .str a, .str b => a == b
  | .tup a, .tup b => eqDs a b
  | _, _ => false
def eqDs : List D → List D → Bool
  | [], [] => true
  | a :: as, b :: bs => eqD a b && eqDs as bs
  | _, _ => false
end
mutual
theorem eqD_eq : ∀ {a b : D}, eqD a b = true → a = b
  | .non, b, h => by cases b <;> first | rfl | (unfold eqD at h; cases h)
  | .bl a, b, h => by
    cases b <;> first | (unfold eqD at h; cases h; done) | skip
    unfold eqD at h
    rw [eq_of_beq h]
  | .int a, b, h => by
    cases b <;> first | (unfold eqD at h; cases h; done) | skip
    unfold eqD at h
    rw [eq_of_beq h]
  | .str a, b, h => by
    cases b <;> first | (unfold eqD at h; cases h; done) | skip
    unfold eqD at h
    rw [eq_of_beq h]
  | .tup a, b, h => by
    cases b <;> first | (unfold eqD at h; cases h; done) | skip
    unfold eqD at h
    rw [eqDs_eq h]
  | .lst a, b, h => by cases b <;> (unfold eqD at h; cases h)
  | .fix a, b, h => by cases b <;> (unfold eqD at h; cases h)
theorem eqDs_eq : ∀ {a b : List D}, eqDs a b = true → a = b
  | [], b, h => by cases b <;> first | rfl | (unfold eqDs at h; cases h)
  | x :: xs, b, h => by
    cases b with
    | nil => unfold eqDs at h; cases h
    | cons y ys =>
      unfold eqDs at h
      rw [Bool.and_eq_true] at h
      rw [eqD_eq h.1, eqDs_eq h.2]
end
def kindIs (c : Cc) (x : Str) (k : NameKind) : Bool := c.sc.names.lookup x == some k
def okName (x : Str) : Bool := !(x == ("__debug__" : Str)) && !(x == ("__classdict__" : Str))
def chkVar (c : Cc) (i : Nat) (x : Str) : Bool := (c.N[i]? == some x) && (kindIs c x .local || kindIs c x .cell || kindIs c x .free) && okName x
def chkTo (c : Cc) (i : Nat) (x : Str) : Bool := (c.N[i]? == some x) && (kindIs c x .local || (c.top && kindIs c x .cell))
def chkB (c : Cc) (x : Str) : Bool := kindIs c x .globalImplicit && c.bs.contains x
def notStar : Expr → Bool
  | .Starred .. => false
  | _ => true
def notSet : Expr → Bool
  | .Set .. => false
  | _ => true
def notSlice : Expr → Bool
  | .Slice .. => false
  | _ => true
def noComp : Expr → Bool
  | .ListComp .. => false
  | .SetComp .. => false
  | .DictComp .. => false
  | _ => true
def noBase : Expr → Bool
  | .Call (.Name _ _) [] [] _ => false
  | _ => true
def notTup : Expr → Bool
  | .Tuple .. => false
  | _ => true
def plainT : Expr → Bool
  | .UnaryOp .Not _ _ => false
  | .BoolOp .. => false
  | .IfExp .. => false
  | .Compare .. => false
  | _ => true
def chkNames (c : Cc) : List Nat → List Expr → Bool
  | [], [] => true
  | i :: is, .Name x _ :: es => chkTo c i x && chkNames c is es
  | _, _ => false
def chkG (c : Cc) : Tg → Expr → Bool
  | .nm i, .Name x _ => chkTo c i x
  | .tp is, .Tuple es _ _ => chkNames c is es
  | .tq i is, .Tuple [.Name x _, .Tuple es _ _] _ _ => chkTo c i x && chkNames c is es
  | _, _ => false
def ownN (N : List Str) (own : List Nat) : List (Str × Nat) := own.filterMap fun i => N[i]?.map fun x => (x, i)
def inner (c : Cc) (scope : Scope) : Cc := { c with sc := relS scope c.sc, top := false }
def tgOwn (t : Tg) (own : List Nat) : Bool := match t with
  | .nm i => own.contains i
  | .tp is => is.all own.contains
  | .tq i is => own.contains i && is.all own.contains
def itOwn (it : It) (own : List Nat) : Bool := match it with
  | .own j => !own.contains j
  | _ => true
mutual
def chkE (c : Cc) : E → Expr → Bool
  | .var i, .Name x _ => chkVar c i x
  | .glo d, .Name x _ => kindIs c x .globalImplicit && okName x && (c.gs.any fun p => p.1 == x && eqD p.2 d)
  | .non, .Constant .none _ _ => true
  | .bl b, .Constant (.bool b') _ _ => b == b'
  | .int i, .Constant (.int j) _ _ => i == j
  | .str s, .Constant (.str t) _ _ => s == t
  | .tup es, .Tuple xs _ _ => xs.length < 30 && chkA c es xs
  | .lst es, .List xs _ => xs.length < 30 && chkA c es xs
  | .bin o a b, .BinOp x op y _ => (op == opP o) && chkE c a x && chkE c b y
  | .neg a, .UnaryOp .USub x _ => chkE c a x
  | .cmp o a b, .Compare x [op] [y] _ => (op == cmP o) && notSet y && chkE c a x && chkE c b y
  | .chain o o' a b d, .Compare x [op, op'] [y, z] _ => (op == cmP o) && (op' == cmP o') && notSet z && chkE c a x && chkE c b y && chkE c d z
  | .and a b, .BoolOp .And (x :: y :: rest) pos => chkE c a x && (match rest with
    | [] => chkE c b y
    | _ => chkE c b (.BoolOp .And (y :: rest) pos))
  | .or a b, .BoolOp .Or (x :: y :: rest) pos => chkE c a x && (match rest with
    | [] => chkE c b y
    | _ => chkE c b (.BoolOp .Or (y :: rest) pos))
  | .not a, .UnaryOp .Not x _ => chkE c a x
  | .ite t a b, .IfExp tt x y _ => chkT c t tt && chkE c a x && chkE c b y
  | .call f es, .Call (.Name x _) (e :: xs) [] _ => kindIs c x .globalImplicit && okName x && (match c.fs.lookup f with
    | some (y, n) => (x == y) && ((e :: xs).length == n)
    | none => false) && chkA c es (e :: xs)
  | .call f .nil, .Call (.Name x _) [] [] _ => kindIs c x .globalImplicit && okName x && (match c.fs.lookup f with
    | some (y, n) => (x == y) && (n == 0)
    | none => false)
  | .blt f es, .Call (.Name x _) (e :: xs) [] _ => (x == nmB f) && chkB c x && chkA c es (e :: xs)
  | .isi a t, .Call (.Name x _) [e, .Name y _] [] _ => (x == ("isinstance" : Str)) && (y == nmT t) && chkB c x && chkB c y && notStar e && chkE c a e
  | .bits a, .Call (.Attribute e m ap) [] [] pos => (m == ("bit_length" : Str)) && noBase e && (ap.endLine == pos.line) && chkE c a e
  | .mth m i es, .Call (.Attribute (.Name x _) at' ap) xs [] pos => (at' == nmM m) && chkVar c i x && (ap.endLine == pos.line) && chkA c es xs && (match m, xs with
    | .append, _ :: _ => true
    | .extend, _ :: _ => true
    | .insert, _ :: _ => true
    | .popAt, _ :: _ => true
    | .pop, [] => true
    | .reverse, [] => true
    | _, _ => false) && xs.length < 29
  | .ix a i, .Subscript x y _ => notSlice y && chkE c a x && chkE c i y
  | .join z a, .Call (.Attribute (.Constant (.str t) _ _) m ap) [e] [] pos => (z == t) && (m == ("join" : Str)) && notStar e && (ap.endLine == pos.line) && chkE c a e
  | .sl a lo hi, .Subscript x (.Slice l h none _) _ => chkE c a x && chkP c lo l && chkP c hi h
  | .slk a lo st, .Subscript x (.Slice l none (some g) _) _ => chkE c a x && chkP c lo l && chkP c st (some g)
  | .lc elt tg it own cs, .ListComp e [⟨t, i, ifs, z⟩] scope _ => (z == 0) && chkI c it t i && notSet i && (blkC c.N c.sc scope (ownN c.N own)) && ((ownN c.N own).map (·.2) == own) && tgOwn tg own && chkG (inner c scope) tg t && chkTc (inner c scope) cs ifs && chkE (inner c scope) elt e && itOwn it own
  | _, _ => false
def chkT (c : Cc) : T → Expr → Bool
  | .cmp o a b, .Compare x [op] [y] _ => (op == cmP o) && notSet y && chkE c a x && chkE c b y
  | .chain o o' a b d, .Compare x [op, op'] [y, z] _ => (op == cmP o) && (op' == cmP o') && notSet z && chkE c a x && chkE c b y && chkE c d z
  | .and a b, .BoolOp .And (x :: y :: rest) pos => chkT c a x && (match rest with
    | [] => chkT c b y
    | _ => chkT c b (.BoolOp .And (y :: rest) pos))
  | .or a b, .BoolOp .Or (x :: y :: rest) pos => chkT c a x && (match rest with
    | [] => chkT c b y
    | _ => chkT c b (.BoolOp .Or (y :: rest) pos))
  | .not a, .UnaryOp .Not x _ => chkT c a x
  | .tru a, e => plainT e && chkE c a e
  | _, _ => false
def chkTc (c : Cc) : Tc → List Expr → Bool
  | .no, [] => true
  | .yes t, [e] => chkT c t e
  | _, _ => false
def chkP (c : Cc) : Po → Option Expr → Bool
  | .no, none => true
  | .yes a, some e => chkE c a e
  | _, _ => false
def chkA (c : Cc) : Es → List Expr → Bool
  | .nil, [] => true
  | .cons e es, x :: xs => notStar x && chkE c e x && chkA c es xs
  | _, _ => false
def chkI (c : Cc) : It → Expr → Expr → Bool
  | .seq a, _, e => chkE c a e
  | .own j, _, .Name x _ => chkVar c j x
  | .rng1 a, _, .Call (.Name x _) [e] [] _ => (x == ("range" : Str)) && chkB c x && notStar e && chkE c a e
  | .rng2 a b, _, .Call (.Name x _) [e, f] [] _ => (x == ("range" : Str)) && chkB c x && notStar e && notStar f && chkE c a e && chkE c b f
  | .rng2L a b, _, .Call (.Name x _) [e, f] [] _ => (x == ("range" : Str)) && chkB c x && notStar e && notStar f && chkE c a e && chkE c b f
  | .rng3 a b d, _, .Call (.Name x _) [e, f, g] [] _ => (x == ("range" : Str)) && chkB c x && notStar e && notStar f && notStar g && chkE c a e && chkE c b f && chkE c d g
  | .rev a, _, .Call (.Name x _) [e] [] _ => (x == ("reversed" : Str)) && chkB c x && notStar e && chkE c a e
  | .enum a, .Tuple _ _ _, .Call (.Name x _) [e] [] _ => (x == ("enumerate" : Str)) && chkB c x && notStar e && chkE c a e
  | .zip a b, .Tuple _ _ _, .Call (.Name x _) [e, f] [] _ => (x == ("zip" : Str)) && chkB c x && notStar e && notStar f && chkE c a e && chkE c b f
  | _, _, _ => false
end
/-- what swapsWith answers for a comprehension stored at a name -/
def swLc (c : Cc) (x : Str) (px : Pos) (scope : Scope) (lp : Pos) : Bool :=
  (if c.sc.kind.isAnnotationScope then ScopeKind.function else c.sc.kind) == .function && c.sc.names.lookup x == some .local && px.line == lp.line && !(scope.names.any fun (n, k) => n == x && (k == .local || k == .cell))
def parOk (c : Cc) (is : List Nat) (ts : List Expr) (vs : List Expr) : Bool :=
  c.sc.kind == .function && !(vs.all (foldedForSure 8)) && !(vs.all (constantsAlone 8)) && vs.all notStar && (match is, ts, vs with
  | [i, j], [.Name x px, .Name y py], [_, _] => (c.N[i]? == some x) && (c.N[j]? == some y) && kindIs c x .local && kindIs c y .local && (px.line == py.line) && !(x == y) && !(i == j)
  | [i, j, l], [.Name x px, .Name y py, .Name z pz], [_, _, _] => (c.N[i]? == some x) && (c.N[j]? == some y) && (c.N[l]? == some z) && kindIs c x .local && kindIs c y .local && kindIs c z .local && (px.line == py.line) && (px.line == pz.line) && !(x == y) && !(x == z) && !(y == z) && !(i == j) && !(i == l) && !(j == l)
  | _, _, _ => false)
mutual
def chkS (c : Cc) : S → Stmt → Bool
  | .asg i e, .Assign [.Name x px] v pos => chkTo c i x && chkE c e v && (noComp v || (match v with
    | .ListComp _ _ scope lp => swLc c x px scope lp || !(swLc c x px scope lp)
    | _ => false))
  | .asgT is e, .Assign [.Tuple ts _ _] v _ => chkNames c is ts && chkE c e v && notTup v
  | .par is es, .Assign [.Tuple ts _ _] (.Tuple vs _ _) _ => parOk c is ts vs && chkA c es vs
  | .asgX i x y e, .Assign [.Tuple [.Subscript (.Name n _) u _, .Subscript (.Name m _) w _] _ _] v _ => chkVar c i n && (n == m) && notSlice u && notSlice w && chkE c x u && chkE c y w && chkE c e v && noComp v
  | .sub i x e, .Assign [.Subscript (.Name n _) y _] v _ => chkVar c i n && notSlice y && chkE c x y && chkE c e v && noComp v
  | .aug i o e, .AugAssign (.Name x _) op v _ => chkTo c i x && (op == opP o) && chkE c e v
  | .augS i x o e, .AugAssign (.Subscript (.Name n _) y _) op v _ => chkVar c i n && notSlice y && (op == opP o) && chkE c x y && chkE c e v
  | .ex e, .Expr v _ => noComp v && chkE c e v
  | .ret e, .Return (some v) _ => chkE c e v
  | .ret0, .Return none _ => true
  | .ite t a b, .If e x y _ => chkT c t e && chkSs c a x && chkSs c b y
  | .whl t a, .While e x [] _ => chkT c t e && chkSs c a x
  | .for tg it b, .For t i x [] _ => chkG c tg t && chkI c it t i && notSet i && chkSs c b x
  | .pass, .Pass _ => true
  | .brk, .Break _ => true
  | .cnt, .Continue _ => true
  | _, _ => false
def chkSs (c : Cc) : Ss → List Stmt → Bool
  | .nil, [] => true
  | .cons s ss, x :: xs => chkS c s x && chkSs c ss xs
  | _, _ => false
end
end VL

/-! VL14: what is checked keeps its reading. -/
namespace VL
open PySem PySem.Spec L2
/-- the place X is as c says, and the defs by number keep their promises Γ -/
structure Xc (Γ : Nat → VF) (X : Cx) (c : Cc) : Prop where
  N : X.N = c.N
  sc : X.env.scope = c.sc
  fn : c.top = true → ∀ x, X.fn x = true
  fs : ∀ f x n, c.fs.lookup f = some (x, n) → ∃ k fa fd ps, ps.length = n ∧ FnOk X.prog X.w X.K X.mg X.base CX0 k fa fd ps (spOf X.K n (Γ f)) ∧ Room k X.A ∧ X.mg x = some (.ref fa) ∧ PySem.W.keepIn X.K (.ref fa) = true ∧ Binds X.K fd ps []
  bs : ∀ x, x ∈ c.bs → X.mg x = none
  gs : ∀ p, p ∈ c.gs → ∃ u v, X.mg p.1 = some u ∧ RelV v u ∧ ∀ H av, Rep X.K H av p.2 v
section
variable {Γ : Nat → VF} {X : Cx} {F : Fr} {c : Cc} {x : Str} {i : Nat}
theorem chkVar_ok (hX : Xc Γ X c) (h : chkVar c i x = true) : X.N[i]? = some x ∧ Vis X.env.scope x ∧ (x == ("__debug__" : Str)) = false ∧ (x == ("__classdict__" : Str)) = false := by
  unfold chkVar okName kindIs at h
  simp only [Bool.and_eq_true, Bool.or_eq_true, beq_iff_eq, Bool.not_eq_true'] at h
  obtain ⟨⟨h1, h2⟩, h3, h4⟩ := h
  refine ⟨hX.N ▸ h1, ?_, h3, h4⟩
  rw [hX.sc]
  rcases h2 with (h2 | h2) | h2
  · exact .inl h2
  · exact .inr (.inl h2)
  · exact .inr (.inr h2)
theorem chkTo_ok (hX : Xc Γ X c) (h : chkTo c i x = true) : X.N[i]? = some x ∧ Loc X.env.scope x ∧ (X.fn x = true ∨ X.env.scope.names.lookup x = some .local) := by
  unfold chkTo kindIs at h
  simp only [Bool.and_eq_true, Bool.or_eq_true, beq_iff_eq] at h
  obtain ⟨h1, h2⟩ := h
  refine ⟨hX.N ▸ h1, ?_, ?_⟩
  · rw [hX.sc]; exact h2.imp id fun z => z.2
  · rw [hX.sc]; exact h2.elim .inr fun z => .inl (hX.fn z.1 x)
theorem chkB_ok (hX : Xc Γ X c) (h : chkB c x = true) : Gl X x ∧ X.mg x = none := by
  unfold chkB kindIs at h
  simp only [Bool.and_eq_true, beq_iff_eq, List.contains_eq_mem, decide_eq_true_eq] at h
  refine ⟨?_, hX.bs x h.2⟩
  unfold Gl Env.kindOf
  rw [hX.sc]; exact h.1
theorem star_cons {e : Expr} {es : List Expr} {env : Env} (h : notStar e = true) : starEach (e :: es) env = (false, eval e env) :: starEach es env := by
  cases e <;> first | rfl | cases h
theorem plainIx {b : Expr} (h : notSlice b = true) : PlainIx b := by
  cases b <;> first | (exact fun _ _ => rfl) | cases h
theorem noMark {b : Expr} {op : CmpOp} (h : notSet b = true) : behindInMarks op b = false := by
  cases b <;> first | rfl | cases h
theorem setIter {e : Expr} {env : Env} (h : notSet e = true) : ∀ x, foldedSetIterable e env x = pure x := by
  intro x
  cases e <;> first | rfl | cases h
theorem plainT_ok {e : Expr} {env : Env} (h : plainT e = true) : ∀ whole, isTrue e env whole = (do let v ← whole; standAt e.pos; holding [v] (truthy v)) := by
  intro w
  cases e <;> first | rfl | (cases h; done) | skip
  rename_i op a p
  cases op <;> first | rfl | cases h
theorem noBase_ok {o : Expr} {attr : Str} {env : Env} {w : Sem Value} (h : noBase o = true) : attributeBase o attr env w = w := by
  unfold attributeBase
  cases o <;> first | rfl | skip
  rename_i f as ks p
  cases f <;> first | rfl | skip
  cases as <;> first | rfl | skip
  cases ks <;> first | rfl | cases h
theorem chkA_star : ∀ {es : Es} {xs : List Expr}, chkA c es xs = true → ∀ env pos, (backTo pos (starEach xs env)).any (·.1) = false ∧ (backTo pos (starEach xs env)).all (fun x => !x.1) = true
  | .nil, [], _, _, _ => ⟨rfl, rfl⟩
  | .nil, _ :: _, h, _, _ => by unfold chkA at h; cases h
  | .cons _ _, [], h, _, _ => by unfold chkA at h; cases h
  | .cons e es, x :: xs, h, env, pos => by
    unfold chkA at h
    simp only [Bool.and_eq_true] at h
    obtain ⟨h1, h2⟩ := chkA_star (es := es) (xs := xs) h.2 env pos
    rw [star_cons h.1.1]
    unfold backTo at *
    rw [List.map_cons, List.any_cons, List.all_cons, h1, h2]
    exact ⟨rfl, rfl⟩
theorem chkA_len : ∀ {es : Es} {xs : List Expr}, chkA c es xs = true → xs.length = esLen es
  | .nil, [], _ => rfl
  | .nil, _ :: _, h => by unfold chkA at h; cases h
  | .cons _ _, [], h => by unfold chkA at h; cases h
  | .cons e es, x :: xs, h => by
    unfold chkA at h
    simp only [Bool.and_eq_true] at h
    show xs.length + 1 = esLen es + 1
    rw [chkA_len h.2]
theorem Xc.inner {scope : Scope} (hX : Xc Γ X c) (s : Shared) (H : Hp) (C : Addr) (cl : List (Str × Addr)) (fp : List Addr) : Xc Γ (X.blk s H scope (compEnvC scope cl C X.env) fp) (inner c scope) := by
  refine ⟨hX.N, ?_, fun z => (by cases z), hX.fs, hX.bs, hX.gs⟩
  show relS scope X.env.scope = relS scope c.sc
  rw [hX.sc]
theorem names_pg (hX : Xc Γ X c) (nd : X.N.Nodup) : ∀ {is : List Nat} {es : List Expr}, chkNames c is es = true → PGs X es (gNames is) ∧ (assignEach es X.env).length = is.length ∧ (assignEach es X.env).findIdx? (·.1) = none
  | [], [], _ => ⟨pgs_nil, rfl, rfl⟩
  | [], _ :: _, h => by unfold chkNames at h; cases h
  | i :: is, [], h => by unfold chkNames at h; cases h
  | i :: is, e :: es, h => by
    unfold chkNames at h
    cases e <;> first | (cases h; done) | skip
    rename_i x p
    simp only [Bool.and_eq_true] at h
    obtain ⟨h1, h2, h3⟩ := names_pg hX nd (is := is) (es := es) h.2
    obtain ⟨g1, g2, g3⟩ := chkTo_ok hX h.1
    refine ⟨pgs_cons (pg_name nd g1 g2 g3) h1 (by rfl), ?_, ?_⟩
    · show (assignEach es X.env).length + 1 = is.length + 1
      rw [h2]
    · show List.findIdx? (·.1) ((false, assign (.Name x p) X.env) :: assignEach es X.env) = none
      rw [List.findIdx?_cons, h3]
      rfl
def gOf (K : PySem.W.Frag) : Tg → TG
  | .nm i => gName i
  | .tp is => gTup K is.length (gNames is)
  | .tq i is => gTup K 2 (gCons (gName i) (gCons (gTup K is.length (gNames is)) gNil))
theorem tg_pg (hX : Xc Γ X c) (O : Ok X F) : ∀ {t : Tg} {e : Expr}, chkG c t e = true → PG X e (gOf F.K t)
  | .nm i, e, h => by
    unfold chkG at h
    cases e <;> first | (cases h; done) | skip
    obtain ⟨g1, g2, g3⟩ := chkTo_ok hX h
    exact pg_name O.nd g1 g2 g3
  | .tp is, e, h => by
    unfold chkG at h
    cases e <;> first | (cases h; done) | skip
    obtain ⟨h1, h2, h3⟩ := names_pg hX O.nd h
    show PG X _ (gTup F.K is.length (gNames is))
    rw [← O.K]
    exact pg_tup O.calm h1 h2 h3
  | .tq i is, e, h => by
    unfold chkG at h
    split at h <;> try contradiction
    rename_i q
    cases q
    simp only [Bool.and_eq_true] at h
    obtain ⟨g1, g2, g3⟩ := chkTo_ok hX h.1
    obtain ⟨h1, h2, h3⟩ := names_pg hX O.nd h.2
    show PG X _ (gTup F.K 2 (gCons (gName i) (gCons (gTup F.K is.length (gNames is)) gNil)))
    rw [← O.K]
    exact pg_tup (n := 2) O.calm (pgs_cons (pg_name O.nd g1 g2 g3) (pgs_cons (pg_tup O.calm h1 h2 h3) pgs_nil rfl) rfl) rfl rfl
theorem vg_of (K : PySem.W.Frag) : ∀ t : Tg, VG K t (gOf K t)
  | .nm i => vg_nm K i
  | .tp is => vg_tp K is
  | .tq i is => vg_tq K i is
theorem tgOwn_ok {t : Tg} {own : List Nat} (h : tgOwn t own = true) : tgIn t own := by
  cases t with
  | nm i => simpa [tgOwn, tgIn] using h
  | tp is => simpa [tgOwn, tgIn] using h
  | tq i is => simpa [tgOwn, tgIn] using h
end
end VL

/-! VL15: what a checked text looks like. -/
namespace VL
open PySem PySem.Spec L2
section
variable {c : Cc} {e : Expr}
theorem inv_var {i : Nat} (h : chkE c (.var i) e = true) : ∃ x pos, e = .Name x pos ∧ chkVar c i x = true := by
  unfold chkE at h
  split at h <;> try contradiction
  rename_i q
  cases q
  exact ⟨_, _, rfl, h⟩
theorem inv_glo {d : D} (h : chkE c (.glo d) e = true) : ∃ x pos, e = .Name x pos ∧ kindIs c x .globalImplicit = true ∧ okName x = true ∧ (x, d) ∈ c.gs := by
  unfold chkE at h
  split at h <;> try contradiction
  rename_i q
  cases q
  rw [Bool.and_eq_true, Bool.and_eq_true] at h
  obtain ⟨p, h1, h2⟩ := List.any_eq_true.mp h.2
  rw [Bool.and_eq_true] at h2
  refine ⟨_, _, rfl, h.1.1, h.1.2, ?_⟩
  rw [← eq_of_beq h2.1, ← eqD_eq h2.2]
  exact h1
theorem inv_non (h : chkE c .non e = true) : ∃ j pos, e = .Constant .none j pos := by
  unfold chkE at h
  split at h <;> try contradiction
  exact ⟨_, _, rfl⟩
theorem inv_bl {b : Bool} (h : chkE c (.bl b) e = true) : ∃ j pos, e = .Constant (.bool b) j pos := by
  unfold chkE at h
  split at h <;> try contradiction
  rename_i q
  cases q
  rw [eq_of_beq h]
  exact ⟨_, _, rfl⟩
theorem inv_int {b : Int} (h : chkE c (.int b) e = true) : ∃ j pos, e = .Constant (.int b) j pos := by
  unfold chkE at h
  split at h <;> try contradiction
  rename_i q
  cases q
  rw [eq_of_beq h]
  exact ⟨_, _, rfl⟩
theorem inv_str {b : Str} (h : chkE c (.str b) e = true) : ∃ j pos, e = .Constant (.str b) j pos := by
  unfold chkE at h
  split at h <;> try contradiction
  rename_i q
  cases q
  rw [eq_of_beq h]
  exact ⟨_, _, rfl⟩
theorem inv_tup {es : Es} (h : chkE c (.tup es) e = true) : ∃ xs k pos, e = .Tuple xs k pos ∧ xs.length < 30 ∧ chkA c es xs = true := by
  unfold chkE at h
  split at h <;> try contradiction
  rename_i q
  cases q
  simp only [Bool.and_eq_true, decide_eq_true_eq] at h
  exact ⟨_, _, _, rfl, h.1, h.2⟩
theorem inv_lst {es : Es} (h : chkE c (.lst es) e = true) : ∃ xs pos, e = .List xs pos ∧ xs.length < 30 ∧ chkA c es xs = true := by
  unfold chkE at h
  split at h <;> try contradiction
  rename_i q
  cases q
  simp only [Bool.and_eq_true, decide_eq_true_eq] at h
  exact ⟨_, _, rfl, h.1, h.2⟩
theorem opP_eq {o : Operator} {p : Op} (h : (o == opP p) = true) : o = opP p := by
  cases o <;> cases p <;> first | rfl | (cases h; done)
theorem cmP_eq {o : CmpOp} {p : Cm} (h : (o == cmP p) = true) : o = cmP p := by
  cases o <;> cases p <;> first | rfl | (cases h; done)
theorem inv_bin {o : Op} {a b : E} (h : chkE c (.bin o a b) e = true) : ∃ x y pos, e = .BinOp x (opP o) y pos ∧ chkE c a x = true ∧ chkE c b y = true := by
  unfold chkE at h
  split at h <;> try contradiction
  rename_i q
  cases q
  simp only [Bool.and_eq_true] at h
  rw [opP_eq h.1.1]
  exact ⟨_, _, _, rfl, h.1.2, h.2⟩
theorem inv_neg {a : E} (h : chkE c (.neg a) e = true) : ∃ x pos, e = .UnaryOp .USub x pos ∧ chkE c a x = true := by
  unfold chkE at h
  split at h <;> try contradiction
  rename_i q
  cases q
  exact ⟨_, _, rfl, h⟩
theorem inv_not {a : E} (h : chkE c (.not a) e = true) : ∃ x pos, e = .UnaryOp .Not x pos ∧ chkE c a x = true := by
  unfold chkE at h
  split at h <;> try contradiction
  rename_i q
  cases q
  exact ⟨_, _, rfl, h⟩
theorem inv_cmp {o : Cm} {a b : E} (h : chkE c (.cmp o a b) e = true) : ∃ x y pos, e = .Compare x [cmP o] [y] pos ∧ notSet y = true ∧ chkE c a x = true ∧ chkE c b y = true := by
  unfold chkE at h
  split at h <;> try contradiction
  rename_i q
  cases q
  simp only [Bool.and_eq_true] at h
  rw [cmP_eq h.1.1.1]
  exact ⟨_, _, _, rfl, h.1.1.2, h.1.2, h.2⟩
theorem inv_chain {o o' : Cm} {a b d : E} (h : chkE c (.chain o o' a b d) e = true) : ∃ x y z pos, e = .Compare x [cmP o, cmP o'] [y, z] pos ∧ notSet z = true ∧ chkE c a x = true ∧ chkE c b y = true ∧ chkE c d z = true := by
  unfold chkE at h
  split at h <;> try contradiction
  rename_i q
  cases q
  simp only [Bool.and_eq_true] at h
  rw [cmP_eq h.1.1.1.1.1, cmP_eq h.1.1.1.1.2]
  exact ⟨_, _, _, _, rfl, h.1.1.1.2, h.1.1.2, h.1.2, h.2⟩
theorem inv_and {a b : E} (h : chkE c (.and a b) e = true) : ∃ x y rest pos, e = .BoolOp .And (x :: y :: rest) pos ∧ chkE c a x = true ∧ (rest = [] ∧ chkE c b y = true ∨ chkE c b (.BoolOp .And (y :: rest) pos) = true) := by
  unfold chkE at h
  split at h <;> try contradiction
  rename_i rest _ q
  cases q
  simp only [Bool.and_eq_true] at h
  refine ⟨_, _, _, _, rfl, h.1, ?_⟩
  cases rest with
  | nil => exact .inl ⟨rfl, h.2⟩
  | cons _ _ => exact .inr h.2
theorem inv_or {a b : E} (h : chkE c (.or a b) e = true) : ∃ x y rest pos, e = .BoolOp .Or (x :: y :: rest) pos ∧ chkE c a x = true ∧ (rest = [] ∧ chkE c b y = true ∨ chkE c b (.BoolOp .Or (y :: rest) pos) = true) := by
  unfold chkE at h
  split at h <;> try contradiction
  rename_i rest _ q
  cases q
  simp only [Bool.and_eq_true] at h
  refine ⟨_, _, _, _, rfl, h.1, ?_⟩
  cases rest with
  | nil => exact .inl ⟨rfl, h.2⟩
  | cons _ _ => exact .inr h.2
theorem inv_ite {t : T} {a b : E} (h : chkE c (.ite t a b) e = true) : ∃ tt x y pos, e = .IfExp tt x y pos ∧ chkT c t tt = true ∧ chkE c a x = true ∧ chkE c b y = true := by
  unfold chkE at h
  split at h <;> try contradiction
  rename_i q
  cases q
  simp only [Bool.and_eq_true] at h
  exact ⟨_, _, _, _, rfl, h.1.1, h.1.2, h.2⟩
theorem inv_call {f : Nat} {es : Es} (h : chkE c (.call f es) e = true) : (∃ x p e' xs pos n, e = .Call (.Name x p) (e' :: xs) [] pos ∧ kindIs c x .globalImplicit = true ∧ okName x = true ∧ c.fs.lookup f = some (x, n) ∧ (e' :: xs).length = n ∧ chkA c es (e' :: xs) = true) ∨
    (es = .nil ∧ ∃ x p pos, e = .Call (.Name x p) [] [] pos ∧ kindIs c x .globalImplicit = true ∧ okName x = true ∧ c.fs.lookup f = some (x, 0)) := by
  unfold chkE at h
  split at h <;> try contradiction
  · rename_i q
    cases q
    simp only [Bool.and_eq_true] at h
    obtain ⟨⟨⟨h1, h2⟩, h3⟩, h4⟩ := h
    split at h3 <;> try contradiction
    rename_i y n z
    simp only [Bool.and_eq_true] at h3
    rw [← eq_of_beq h3.1] at z
    exact .inl ⟨_, _, _, _, _, n, rfl, h1, h2, z, eq_of_beq h3.2, h4⟩
  · rename_i q
    cases q
    simp only [Bool.and_eq_true] at h
    obtain ⟨⟨h1, h2⟩, h3⟩ := h
    split at h3 <;> try contradiction
    rename_i y n z
    simp only [Bool.and_eq_true] at h3
    rw [← eq_of_beq h3.1, eq_of_beq h3.2] at z
    exact .inr ⟨rfl, _, _, _, rfl, h1, h2, z⟩
theorem inv_blt {f : Bf} {es : Es} (h : chkE c (.blt f es) e = true) : ∃ p e' xs pos, e = .Call (.Name (nmB f) p) (e' :: xs) [] pos ∧ chkB c (nmB f) = true ∧ chkA c es (e' :: xs) = true := by
  unfold chkE at h
  split at h <;> try contradiction
  rename_i q
  cases q
  simp only [Bool.and_eq_true] at h
  obtain ⟨⟨h1, h2⟩, h3⟩ := h
  have h1 := eq_of_beq h1
  subst h1
  exact ⟨_, _, _, _, rfl, h2, h3⟩
theorem inv_isi {a : E} {t : Ty} (h : chkE c (.isi a t) e = true) : ∃ p x pp pos, e = .Call (.Name "isinstance" p) [x, .Name (nmT t) pp] [] pos ∧ chkB c "isinstance" = true ∧ chkB c (nmT t) = true ∧ notStar x = true ∧ chkE c a x = true := by
  unfold chkE at h
  split at h <;> try contradiction
  rename_i q
  cases q
  simp only [Bool.and_eq_true] at h
  obtain ⟨⟨⟨⟨⟨h1, h2⟩, h3⟩, h4⟩, h5⟩, h6⟩ := h
  have h1 := eq_of_beq h1
  have h2 := eq_of_beq h2
  subst h1; subst h2
  exact ⟨_, _, _, _, rfl, h3, h4, h5, h6⟩
theorem inv_bits {a : E} (h : chkE c (.bits a) e = true) : ∃ x ap pos, e = .Call (.Attribute x "bit_length" ap) [] [] pos ∧ noBase x = true ∧ (ap.endLine == pos.line) = true ∧ chkE c a x = true := by
  unfold chkE at h
  split at h <;> try contradiction
  rename_i q
  cases q
  simp only [Bool.and_eq_true] at h
  obtain ⟨⟨⟨h1, h2⟩, h3⟩, h4⟩ := h
  have h1 := eq_of_beq h1
  subst h1
  exact ⟨_, _, _, rfl, h2, h3, h4⟩
theorem inv_mth {m : Mt} {i : Nat} {es : Es} (h : chkE c (.mth m i es) e = true) : ∃ x px ap xs pos, e = .Call (.Attribute (.Name x px) (nmM m) ap) xs [] pos ∧ chkVar c i x = true ∧ (ap.endLine == pos.line) = true ∧ chkA c es xs = true ∧ xs.length < 29 ∧
    ((m = .append ∨ m = .extend ∨ m = .insert ∨ m = .popAt) ∧ xs ≠ [] ∨ (m = .pop ∨ m = .reverse) ∧ xs = []) := by
  unfold chkE at h
  split at h <;> try contradiction
  rename_i xs pos q
  cases q
  simp only [Bool.and_eq_true, decide_eq_true_eq] at h
  obtain ⟨⟨⟨⟨⟨h1, h2⟩, h3⟩, h4⟩, h5⟩, h6⟩ := h
  have h1 := eq_of_beq h1
  subst h1
  refine ⟨_, _, _, _, _, rfl, h2, h3, h4, h6, ?_⟩
  cases m <;> cases xs <;> first | (cases h5; done) | (exact .inr ⟨by first | exact .inl rfl | exact .inr rfl, rfl⟩) | exact .inl ⟨by first | exact .inl rfl | exact .inr (.inl rfl) | exact .inr (.inr (.inl rfl)) | exact .inr (.inr (.inr rfl)), fun z => nomatch z⟩
theorem inv_ix {a b : E} (h : chkE c (.ix a b) e = true) : ∃ x y pos, e = .Subscript x y pos ∧ notSlice y = true ∧ chkE c a x = true ∧ chkE c b y = true := by
  unfold chkE at h
  split at h <;> try contradiction
  rename_i q
  cases q
  simp only [Bool.and_eq_true] at h
  exact ⟨_, _, _, rfl, h.1.1, h.1.2, h.2⟩
theorem inv_join {z : Str} {a : E} (h : chkE c (.join z a) e = true) : ∃ x j cp ap pos, e = .Call (.Attribute (.Constant (.str z) j cp) "join" ap) [x] [] pos ∧ notStar x = true ∧ (ap.endLine == pos.line) = true ∧ chkE c a x = true := by
  unfold chkE at h
  split at h <;> try contradiction
  rename_i q
  cases q
  simp only [Bool.and_eq_true] at h
  obtain ⟨⟨⟨⟨h1, h2⟩, h3⟩, h4⟩, h5⟩ := h
  have h1 := eq_of_beq h1
  have h2 := eq_of_beq h2
  subst h1; subst h2
  exact ⟨_, _, _, _, _, rfl, h3, h4, h5⟩
theorem inv_sl {a : E} {lo hi : Po} (h : chkE c (.sl a lo hi) e = true) : ∃ x l g p pos, e = .Subscript x (.Slice l g none p) pos ∧ chkE c a x = true ∧ chkP c lo l = true ∧ chkP c hi g = true := by
  unfold chkE at h
  split at h <;> try contradiction
  rename_i q
  cases q
  simp only [Bool.and_eq_true] at h
  exact ⟨_, _, _, _, _, rfl, h.1.1, h.1.2, h.2⟩
theorem inv_slk {a : E} {lo st : Po} (h : chkE c (.slk a lo st) e = true) : ∃ x l g p pos, e = .Subscript x (.Slice l none (some g) p) pos ∧ chkE c a x = true ∧ chkP c lo l = true ∧ chkP c st (some g) = true := by
  unfold chkE at h
  split at h <;> try contradiction
  rename_i q
  cases q
  simp only [Bool.and_eq_true] at h
  exact ⟨_, _, _, _, _, rfl, h.1.1, h.1.2, h.2⟩
theorem inv_lc {elt : E} {tg : Tg} {it : It} {own : List Nat} {cs : Tc} (h : chkE c (.lc elt tg it own cs) e = true) : ∃ x t i ifs scope pos, e = .ListComp x [⟨t, i, ifs, 0⟩] scope pos ∧ chkI c it t i = true ∧ notSet i = true ∧
    blkC c.N c.sc scope (ownN c.N own) = true ∧ (ownN c.N own).map (·.2) = own ∧ tgOwn tg own = true ∧ chkG (inner c scope) tg t = true ∧ chkTc (inner c scope) cs ifs = true ∧ chkE (inner c scope) elt x = true ∧ itOwn it own = true := by
  unfold chkE at h
  split at h <;> try contradiction
  rename_i q
  cases q
  simp only [Bool.and_eq_true] at h
  obtain ⟨⟨⟨⟨⟨⟨⟨⟨⟨h1, h2⟩, h3⟩, h4⟩, h5⟩, h6⟩, h7⟩, h8⟩, h9⟩, h10⟩ := h
  have h1 := eq_of_beq h1
  subst h1
  exact ⟨_, _, _, _, _, _, rfl, h2, h3, h4, eq_of_beq h5, h6, h7, h8, h9, h10⟩

theorem inv_tcmp {o : Cm} {a b : E} (h : chkT c (.cmp o a b) e = true) : ∃ x y pos, e = .Compare x [cmP o] [y] pos ∧ notSet y = true ∧ chkE c a x = true ∧ chkE c b y = true := by
  unfold chkT at h
  split at h <;> try contradiction
  rename_i q
  cases q
  simp only [Bool.and_eq_true] at h
  rw [cmP_eq h.1.1.1]
  exact ⟨_, _, _, rfl, h.1.1.2, h.1.2, h.2⟩
theorem inv_tchain {o o' : Cm} {a b d : E} (h : chkT c (.chain o o' a b d) e = true) : ∃ x y z pos, e = .Compare x [cmP o, cmP o'] [y, z] pos ∧ notSet z = true ∧ chkE c a x = true ∧ chkE c b y = true ∧ chkE c d z = true := by
  unfold chkT at h
  split at h <;> try contradiction
  rename_i q
  cases q
  simp only [Bool.and_eq_true] at h
  rw [cmP_eq h.1.1.1.1.1, cmP_eq h.1.1.1.1.2]
  exact ⟨_, _, _, _, rfl, h.1.1.1.2, h.1.1.2, h.1.2, h.2⟩
theorem inv_tand {a b : T} (h : chkT c (.and a b) e = true) : ∃ x y rest pos, e = .BoolOp .And (x :: y :: rest) pos ∧ chkT c a x = true ∧ (rest = [] ∧ chkT c b y = true ∨ chkT c b (.BoolOp .And (y :: rest) pos) = true) := by
  unfold chkT at h
  split at h <;> try contradiction
  rename_i rest _ q
  cases q
  simp only [Bool.and_eq_true] at h
  refine ⟨_, _, _, _, rfl, h.1, ?_⟩
  cases rest with
  | nil => exact .inl ⟨rfl, h.2⟩
  | cons _ _ => exact .inr h.2
theorem inv_tor {a b : T} (h : chkT c (.or a b) e = true) : ∃ x y rest pos, e = .BoolOp .Or (x :: y :: rest) pos ∧ chkT c a x = true ∧ (rest = [] ∧ chkT c b y = true ∨ chkT c b (.BoolOp .Or (y :: rest) pos) = true) := by
  unfold chkT at h
  split at h <;> try contradiction
  rename_i rest _ q
  cases q
  simp only [Bool.and_eq_true] at h
  refine ⟨_, _, _, _, rfl, h.1, ?_⟩
  cases rest with
  | nil => exact .inl ⟨rfl, h.2⟩
  | cons _ _ => exact .inr h.2
theorem inv_tnot {a : T} (h : chkT c (.not a) e = true) : ∃ x pos, e = .UnaryOp .Not x pos ∧ chkT c a x = true := by
  unfold chkT at h
  split at h <;> try contradiction
  rename_i q
  cases q
  exact ⟨_, _, rfl, h⟩
theorem inv_tru {a : E} (h : chkT c (.tru a) e = true) : plainT e = true ∧ chkE c a e = true := by
  unfold chkT at h
  simp only [Bool.and_eq_true] at h
  exact h
theorem inv_cons {a : E} {es : Es} {l : List Expr} (h : chkA c (.cons a es) l = true) : ∃ x xs, l = x :: xs ∧ notStar x = true ∧ chkE c a x = true ∧ chkA c es xs = true := by
  unfold chkA at h
  split at h <;> try contradiction
  rename_i q
  cases q
  simp only [Bool.and_eq_true] at h
  exact ⟨_, _, rfl, h.1.1, h.1.2, h.2⟩
theorem inv_nil {l : List Expr} (h : chkA c .nil l = true) : l = [] := by
  unfold chkA at h
  split at h <;> try contradiction
  rfl
theorem inv_tno {l : List Expr} (h : chkTc c .no l = true) : l = [] := by
  unfold chkTc at h
  split at h <;> try contradiction
  rfl
theorem inv_tyes {t : T} {l : List Expr} (h : chkTc c (.yes t) l = true) : ∃ x, l = [x] ∧ chkT c t x = true := by
  unfold chkTc at h
  split at h <;> try contradiction
  rename_i q
  cases q
  exact ⟨_, rfl, h⟩
theorem inv_pno {l : Option Expr} (h : chkP c .no l = true) : l = none := by
  unfold chkP at h
  split at h <;> try contradiction
  rfl
theorem inv_pyes {t : E} {l : Option Expr} (h : chkP c (.yes t) l = true) : ∃ x, l = some x ∧ chkE c t x = true := by
  unfold chkP at h
  split at h <;> try contradiction
  rename_i q
  cases q
  exact ⟨_, rfl, h⟩
variable {t : Expr}
theorem inv_seq {a : E} (h : chkI c (.seq a) t e = true) : chkE c a e = true := by
  unfold chkI at h
  exact h
theorem inv_own {j : Nat} (h : chkI c (.own j) t e = true) : ∃ x p, e = .Name x p ∧ chkVar c j x = true := by
  unfold chkI at h
  split at h <;> try contradiction
  rename_i q
  cases q
  exact ⟨_, _, rfl, h⟩
theorem inv_rng1 {a : E} (h : chkI c (.rng1 a) t e = true) : ∃ p x pos, e = .Call (.Name "range" p) [x] [] pos ∧ chkB c "range" = true ∧ notStar x = true ∧ chkE c a x = true := by
  unfold chkI at h
  split at h <;> try contradiction
  rename_i q
  cases q
  simp only [Bool.and_eq_true] at h
  obtain ⟨⟨⟨h1, h2⟩, h3⟩, h4⟩ := h
  have h1 := eq_of_beq h1
  subst h1
  exact ⟨_, _, _, rfl, h2, h3, h4⟩
theorem inv_rng2 {a b : E} (h : chkI c (.rng2 a b) t e = true) : ∃ p x y pos, e = .Call (.Name "range" p) [x, y] [] pos ∧ chkB c "range" = true ∧ notStar x = true ∧ notStar y = true ∧ chkE c a x = true ∧ chkE c b y = true := by
  unfold chkI at h
  split at h <;> try contradiction
  rename_i q
  cases q
  simp only [Bool.and_eq_true] at h
  obtain ⟨⟨⟨⟨⟨h1, h2⟩, h3⟩, h4⟩, h5⟩, h6⟩ := h
  have h1 := eq_of_beq h1
  subst h1
  exact ⟨_, _, _, _, rfl, h2, h3, h4, h5, h6⟩
theorem inv_rng2L {a b : E} (h : chkI c (.rng2L a b) t e = true) : ∃ p x y pos, e = .Call (.Name "range" p) [x, y] [] pos ∧ chkB c "range" = true ∧ notStar x = true ∧ notStar y = true ∧ chkE c a x = true ∧ chkE c b y = true := by
  unfold chkI at h
  split at h <;> try contradiction
  rename_i q
  cases q
  simp only [Bool.and_eq_true] at h
  obtain ⟨⟨⟨⟨⟨h1, h2⟩, h3⟩, h4⟩, h5⟩, h6⟩ := h
  have h1 := eq_of_beq h1
  subst h1
  exact ⟨_, _, _, _, rfl, h2, h3, h4, h5, h6⟩
theorem inv_rng3 {a b d : E} (h : chkI c (.rng3 a b d) t e = true) : ∃ p x y z pos, e = .Call (.Name "range" p) [x, y, z] [] pos ∧ chkB c "range" = true ∧ notStar x = true ∧ notStar y = true ∧ notStar z = true ∧ chkE c a x = true ∧ chkE c b y = true ∧ chkE c d z = true := by
  unfold chkI at h
  split at h <;> try contradiction
  rename_i q
  cases q
  simp only [Bool.and_eq_true] at h
  obtain ⟨⟨⟨⟨⟨⟨⟨h1, h2⟩, h3⟩, h4⟩, h5⟩, h6⟩, h7⟩, h8⟩ := h
  have h1 := eq_of_beq h1
  subst h1
  exact ⟨_, _, _, _, _, rfl, h2, h3, h4, h5, h6, h7, h8⟩
theorem inv_rev {a : E} (h : chkI c (.rev a) t e = true) : ∃ p x pos, e = .Call (.Name "reversed" p) [x] [] pos ∧ chkB c "reversed" = true ∧ notStar x = true ∧ chkE c a x = true := by
  unfold chkI at h
  split at h <;> try contradiction
  rename_i q
  cases q
  simp only [Bool.and_eq_true] at h
  obtain ⟨⟨⟨h1, h2⟩, h3⟩, h4⟩ := h
  have h1 := eq_of_beq h1
  subst h1
  exact ⟨_, _, _, rfl, h2, h3, h4⟩
theorem inv_enum {a : E} (h : chkI c (.enum a) t e = true) : ∃ el k tp p x pos, t = .Tuple el k tp ∧ e = .Call (.Name "enumerate" p) [x] [] pos ∧ chkB c "enumerate" = true ∧ notStar x = true ∧ chkE c a x = true := by
  unfold chkI at h
  split at h <;> try contradiction
  rename_i q
  cases q
  simp only [Bool.and_eq_true] at h
  obtain ⟨⟨⟨h1, h2⟩, h3⟩, h4⟩ := h
  have h1 := eq_of_beq h1
  subst h1
  exact ⟨_, _, _, _, _, _, rfl, rfl, h2, h3, h4⟩
theorem inv_zip {a b : E} (h : chkI c (.zip a b) t e = true) : ∃ el k tp p x y pos, t = .Tuple el k tp ∧ e = .Call (.Name "zip" p) [x, y] [] pos ∧ chkB c "zip" = true ∧ notStar x = true ∧ notStar y = true ∧ chkE c a x = true ∧ chkE c b y = true := by
  unfold chkI at h
  split at h <;> try contradiction
  rename_i q
  cases q
  simp only [Bool.and_eq_true] at h
  obtain ⟨⟨⟨⟨⟨h1, h2⟩, h3⟩, h4⟩, h5⟩, h6⟩ := h
  have h1 := eq_of_beq h1
  subst h1
  exact ⟨_, _, _, _, _, _, _, rfl, rfl, h2, h3, h4, h5, h6⟩
end
end VL

/-! VL16: a checked text keeps its reading: expressions. -/
namespace VL
open PySem PySem.Spec L2
theorem star_any {c : Cc} {es : Es} {xs : List Expr} (h : chkA c es xs = true) (env : Env) (pos : Pos) : (backTo pos (starEach xs env)).any (·.1) = false := (chkA_star h env pos).1
theorem star1 {x : Expr} {env : Env} {pos : Pos} (h : notStar x = true) : (backTo pos (starEach [x] env)).any (·.1) = false := by rw [star_cons h]; rfl
theorem star2 {x y : Expr} {env : Env} {pos : Pos} (h : notStar x = true) (g : notStar y = true) : (backTo pos (starEach [x, y] env)).any (·.1) = false := by rw [star_cons h, star_cons g]; rfl
theorem own_ok {N : List Str} {own : List Nat} (h : (ownN N own).map (·.2) = own) {P : List Nat → Prop} (p : P own) : P ((ownN N own).map (·.2)) := h.symm ▸ p
section
variable {Γ : Nat → VF}
def isPW (X : Cx) (e : Expr) (t : TT) : Prop := ∀ o xs pos, e = .BoolOp o xs pos → PW X e t
mutual
theorem chkE_ok : ∀ (e : E) {x : Expr} {X : Cx} {c : Cc} {F : Fr}, chkE c e x = true → Xc Γ X c → Ok X F → VE X F x (wE Γ e)
  | .var i, x, X, c, F, h, hX, O => by
    obtain ⟨x, pos, rfl, h⟩ := inv_var h
    obtain ⟨h1, h2, h3, h4⟩ := chkVar_ok hX h
    exact ve_var O h1 h2 h3 h4
  | .glo d, x, X, c, F, h, hX, O => by
    obtain ⟨x, pos, rfl, h1, ho, h2⟩ := inv_glo h
    obtain ⟨u, v, g1, g2, g3⟩ := hX.gs _ h2
    have hgl : Gl X x := by
      unfold Gl Env.kindOf
      rw [hX.sc]; exact eq_of_beq h1
    unfold okName at ho
    simp only [Bool.and_eq_true, Bool.not_eq_true'] at ho
    exact ve_c (pe_glob hgl g1 g2 ho.1) fun H av => O.K ▸ g3 H av
  | .non, x, X, c, F, h, hX, O => by
    obtain ⟨j, pos, rfl⟩ := inv_non h
    exact ve_c pe_non fun H av => rep_non
  | .bl b, x, X, c, F, h, hX, O => by
    obtain ⟨j, pos, rfl⟩ := inv_bl h
    exact ve_c pe_bl fun H av => rep_bl _
  | .int b, x, X, c, F, h, hX, O => by
    obtain ⟨j, pos, rfl⟩ := inv_int h
    exact ve_c pe_int fun H av => rep_int _
  | .str b, x, X, c, F, h, hX, O => by
    obtain ⟨j, pos, rfl⟩ := inv_str h
    exact ve_c pe_str fun H av => rep_str _
  | .tup es, x, X, c, F, h, hX, O => by
    obtain ⟨xs, k, pos, rfl, h1, h2⟩ := inv_tup h
    have := chkA_len h2
    exact ve_tup (chkA_ok es h2 hX O) (by omega)
  | .lst es, x, X, c, F, h, hX, O => by
    obtain ⟨xs, pos, rfl, h1, h2⟩ := inv_lst h
    have := chkA_len h2
    exact ve_lst (chkA_ok es h2 hX O) (by omega)
  | .bin o a b, x, X, c, F, h, hX, O => by
    obtain ⟨x, y, pos, rfl, h1, h2⟩ := inv_bin h
    exact ve_bin O o (chkE_ok a h1 hX O) (chkE_ok b h2 hX O)
  | .neg a, x, X, c, F, h, hX, O => by
    obtain ⟨x, pos, rfl, h1⟩ := inv_neg h
    exact ve_neg (chkE_ok a h1 hX O)
  | .cmp o a b, x, X, c, F, h, hX, O => by
    obtain ⟨x, y, pos, rfl, h0, h1, h2⟩ := inv_cmp h
    exact ve_cmp O o (chkE_ok a h1 hX O) (chkE_ok b h2 hX O) (noMark h0)
  | .chain o o' a b d, x, X, c, F, h, hX, O => by
    obtain ⟨x, y, z, pos, rfl, h0, h1, h2, h3⟩ := inv_chain h
    exact ve_chain O o o' (chkE_ok a h1 hX O) (chkE_ok b h2 hX O) (chkE_ok d h3 hX O) (noMark h0)
  | .and a b, x, X, c, F, h, hX, O => by
    obtain ⟨x, y, rest, pos, rfl, h1, h2⟩ := inv_and h
    rcases h2 with ⟨rfl, h2⟩ | h2
    · exact ve_and (chkE_ok a h1 hX O) (pe_one (chkE_ok b h2 hX O))
    · exact ve_and (chkE_ok a h1 hX O) (chkE_ok b h2 hX O)
  | .or a b, x, X, c, F, h, hX, O => by
    obtain ⟨x, y, rest, pos, rfl, h1, h2⟩ := inv_or h
    rcases h2 with ⟨rfl, h2⟩ | h2
    · exact ve_or (chkE_ok a h1 hX O) (pe_one (chkE_ok b h2 hX O))
    · exact ve_or (chkE_ok a h1 hX O) (chkE_ok b h2 hX O)
  | .not a, x, X, c, F, h, hX, O => by
    obtain ⟨x, pos, rfl, h1⟩ := inv_not h
    exact ve_not (chkE_ok a h1 hX O)
  | .ite t a b, x, X, c, F, h, hX, O => by
    obtain ⟨tt, x, y, pos, rfl, h0, h1, h2⟩ := inv_ite h
    exact ve_ite (chkT_ok t h0 hX O).1 (chkE_ok a h1 hX O) (chkE_ok b h2 hX O)
  | .call f es, x, X, c, F, h, hX, O => by
    rcases inv_call h with ⟨x, p, e', xs, pos, n, rfl, h1, h2, h3, h4, h5⟩ | ⟨rfl, x, p, pos, rfl, h1, h2, h3⟩
    · obtain ⟨k, fa, fd, ps, g1, g2, g3, g4, g5, g6⟩ := hX.fs _ _ _ h3
      have hdb : (x == ("__debug__" : Str)) = false := by
        unfold okName at h2
        simp only [Bool.and_eq_true, Bool.not_eq_true'] at h2
        exact h2.1
      have hgl : Gl X x := by
        unfold Gl Env.kindOf
        rw [hX.sc]; exact eq_of_beq h1
      have hA : ∀ F', F'.K = F.K → VA X F' (e' :: xs) (wA Γ es) := fun F' hF => chkA_ok es h5 hX ⟨O.K.trans hF.symm, O.calm, O.nd, O.room, O.seer, O.tree, O.head, O.pass⟩
      have hl := chkA_len h5
      cases es with
      | nil => exact absurd hl (by simp [esLen])
      | cons a es =>
        obtain ⟨x', xs', q, i1, i2, i3⟩ := inv_cons h5
        cases q
        have hA2 : ∀ F', F'.K = F.K → VA X F' xs (wA Γ es) := fun F' hF => chkA_ok es i3 hX ⟨O.K.trans hF.symm, O.calm, O.nd, O.room, O.seer, O.tree, O.head, O.pass⟩
        have g2' : FnOk X.prog X.w X.K X.mg X.base CX0 k fa fd ps (spOf F.K ps.length (Γ f)) := by rw [← O.K, g1]; exact g2
        have := ve_call O (Γ f) (p := p) (pos := pos) g2' g3 hgl g4 g5 g6 hdb (chkE_ok a i2 hX O) hA2 (n := esLen (.cons a es)) (by rw [g1, ← h4, ← hl]) (star_cons i1) (star_any i3 _ _)
        exact this
    · obtain ⟨k, fa, fd, ps, g1, g2, g3, g4, g5, g6⟩ := hX.fs _ _ _ h3
      have hdb : (x == ("__debug__" : Str)) = false := by
        unfold okName at h2
        simp only [Bool.and_eq_true, Bool.not_eq_true'] at h2
        exact h2.1
      have hgl : Gl X x := by
        unfold Gl Env.kindOf
        rw [hX.sc]; exact eq_of_beq h1
      have g2' : FnOk X.prog X.w X.K X.mg X.base CX0 k fa fd ps (spOf F.K ps.length (Γ f)) := by rw [← O.K, g1]; exact g2
      exact ve_call0 O (Γ f) (p := p) (pos := pos) g2' g3 hgl g4 g5 g6 hdb g1.symm
  | .blt f es, x, X, c, F, h, hX, O => by
    obtain ⟨p, e', xs, pos, rfl, h1, h2⟩ := inv_blt h
    obtain ⟨g1, g2⟩ := chkB_ok hX h1
    have hA := chkA_ok es h2 hX O
    cases es with
    | nil => cases inv_nil h2
    | cons a es =>
      obtain ⟨x', xs', q, i1, i2, i3⟩ := inv_cons h2
      cases q
      exact ve_blt O f hA g1 g2 (star_cons i1) (star_any i3 _ _)
  | .isi a t, x, X, c, F, h, hX, O => by
    obtain ⟨p, x, pp, pos, rfl, h1, h2, h3, h4⟩ := inv_isi h
    obtain ⟨g1, g2⟩ := chkB_ok hX h1
    obtain ⟨g3, g4⟩ := chkB_ok hX h2
    exact ve_isi O t (chkE_ok a h4 hX O) g1 g2 g3 g4 (star_cons h3)
  | .bits a, x, X, c, F, h, hX, O => by
    obtain ⟨x, ap, pos, rfl, h1, h2, h3⟩ := inv_bits h
    exact ve_bits (chkE_ok a h3 hX O) (noBase_ok h1) h2
  | .mth m i es, x, X, c, F, h, hX, O => by
    obtain ⟨x, px, ap, xs, pos, rfl, h1, h2, h3, h4, h5⟩ := inv_mth h
    obtain ⟨g1, g2, g3, g4⟩ := chkVar_ok hX h1
    have hA := chkA_ok es h3 hX O
    rcases h5 with ⟨hm, hn⟩ | ⟨hm, rfl⟩
    · cases es with
      | nil => exact absurd (inv_nil h3) hn
      | cons a es =>
        have hstar := (chkA_star h3 X.env pos).2
        obtain ⟨x', xs', rfl, i1, i2, i3⟩ := inv_cons h3
        refine ve_mth O m g1 g2 g3 g4 hm hA ?_ h2 (star_cons i1) (star_any i3 _ _)
        have : (x' :: xs').length + 0 + 0 < 30 := by omega
        rw [hstar]
        simp only [Bool.true_and, Bool.and_eq_true]
        exact ⟨rfl, decide_eq_true this⟩
    · cases es with
      | nil =>
        have := ve_mth0 (px := px) (ap := ap) (pos := pos) O m g1 g2 g3 g4 hm h2
        exact this
      | cons a es => obtain ⟨_, _, q, _⟩ := inv_cons h3; cases q
  | .ix a b, x, X, c, F, h, hX, O => by
    obtain ⟨x, y, pos, rfl, h0, h1, h2⟩ := inv_ix h
    exact ve_ix O (chkE_ok a h1 hX O) (chkE_ok b h2 hX O) (plainIx h0)
  | .join z a, x, X, c, F, h, hX, O => by
    obtain ⟨x, j, cp, ap, pos, rfl, h1, h2, h3⟩ := inv_join h
    exact ve_join O (chkE_ok a h3 hX O) (star_cons h1) h2
  | .slk a lo st, x, X, c, F, h, hX, O => by
    obtain ⟨x, l, g, p, pos, rfl, h0, h1, h2⟩ := inv_slk h
    exact ve_slk O (chkE_ok a h0 hX O) (chkP_ok lo h1 hX O) (chkP_ok st h2 hX O)
  | .sl a lo hi, x, X, c, F, h, hX, O => by
    obtain ⟨x, l, g, p, pos, rfl, h0, h1, h2⟩ := inv_sl h
    exact ve_sl O (chkE_ok a h0 hX O) (chkP_ok lo h1 hX O) (chkP_ok hi h2 hX O)
  | .lc elt tg it own cs, x, X, c, F, h, hX, O => by
    obtain ⟨x, t, i, ifs, scope, pos, rfl, h1, h2, h3, h4, h5, h6, h7, h8, h9⟩ := inv_lc h
    have hI := chkI_ok it h1 hX O
    have ok : BlkOk X.N X.env.scope scope (ownN c.N own) := by rw [hX.N, hX.sc]; exact blkOk_by h3
    have q := ve_lc (pos := pos) O hI ok (vg_of F.K tg) (own_ok h4 (P := tgIn tg) (tgOwn_ok h5)) (fun s H C cl fp => tg_pg (hX.inner s H C cl fp) O.blk h6)
      (fun s H C cl fp F' hF => chkTc_ok cs h7 (hX.inner s H C cl fp) (Ok.blk ⟨O.K.trans hF.symm, O.calm, O.nd, O.room, O.seer, O.tree, O.head, O.pass⟩))
      (fun s H C cl fp F' hF => chkE_ok elt h8 (hX.inner s H C cl fp) (Ok.blk ⟨O.K.trans hF.symm, O.calm, O.nd, O.room, O.seer, O.tree, O.head, O.pass⟩)) (setIter h2)
    rw [h4] at q
    cases it with
    | own j =>
      obtain ⟨y, py, rfl, hv⟩ := inv_own h1
      obtain ⟨m1, m2, m3, m4⟩ := chkVar_ok hX hv
      have hjo : j ∉ (ownN c.N own).map (·.2) := by
        rw [h4]
        unfold itOwn at h9
        simpa using h9
      have q := ve_lcO (pos := pos) O m1 m2 m3 m4 hjo ok (vg_of F.K tg) (own_ok h4 (P := tgIn tg) (tgOwn_ok h5)) (fun s H C cl fp => tg_pg (hX.inner s H C cl fp) O.blk h6)
        (fun s H C cl fp F' hF => chkTc_ok cs h7 (hX.inner s H C cl fp) (Ok.blk ⟨O.K.trans hF.symm, O.calm, O.nd, O.room, O.seer, O.tree, O.head, O.pass⟩))
        (fun s H C cl fp F' hF => chkE_ok elt h8 (hX.inner s H C cl fp) (Ok.blk ⟨O.K.trans hF.symm, O.calm, O.nd, O.room, O.seer, O.tree, O.head, O.pass⟩)) (setIter h2)
      rw [h4] at q
      exact q
    | _ => exact q
theorem chkT_ok : ∀ (e : T) {x : Expr} {X : Cx} {c : Cc} {F : Fr}, chkT c e x = true → Xc Γ X c → Ok X F → VT X F x (wT Γ e) ∧ isPW X x (lT F (wT Γ e))
  | .cmp o a b, x, X, c, F, h, hX, O => by
    obtain ⟨x, y, pos, rfl, h0, h1, h2⟩ := inv_tcmp h
    exact ⟨vt_cmp O o (chkE_ok a h1 hX O) (chkE_ok b h2 hX O) (noMark h0), fun _ _ _ z => nomatch z⟩
  | .chain o o' a b d, x, X, c, F, h, hX, O => by
    obtain ⟨x, y, z, pos, rfl, h0, h1, h2, h3⟩ := inv_tchain h
    exact ⟨vt_chain O o o' (chkE_ok a h1 hX O) (chkE_ok b h2 hX O) (chkE_ok d h3 hX O) (noMark h0), fun _ _ _ z => nomatch z⟩
  | .and a b, x, X, c, F, h, hX, O => by
    obtain ⟨x, y, rest, pos, rfl, h1, h2⟩ := inv_tand h
    have hw : PW X (.BoolOp .And (x :: y :: rest) pos) (lT F (wT Γ (.and a b))) := by
      rcases h2 with ⟨rfl, h2⟩ | h2
      · exact vw_and (chkT_ok a h1 hX O).1 (vw_and1 (chkT_ok b h2 hX O).1)
      · exact vw_and (chkT_ok a h1 hX O).1 ((chkT_ok b h2 hX O).2 _ _ _ rfl)
    exact ⟨hw.pt, fun _ _ _ z => hw⟩
  | .or a b, x, X, c, F, h, hX, O => by
    obtain ⟨x, y, rest, pos, rfl, h1, h2⟩ := inv_tor h
    have hw : PW X (.BoolOp .Or (x :: y :: rest) pos) (lT F (wT Γ (.or a b))) := by
      rcases h2 with ⟨rfl, h2⟩ | h2
      · exact vw_or (chkT_ok a h1 hX O).1 (vw_or1 (chkT_ok b h2 hX O).1)
      · exact vw_or (chkT_ok a h1 hX O).1 ((chkT_ok b h2 hX O).2 _ _ _ rfl)
    exact ⟨hw.pt, fun _ _ _ z => hw⟩
  | .not a, x, X, c, F, h, hX, O => by
    obtain ⟨x, pos, rfl, h1⟩ := inv_tnot h
    exact ⟨vt_not (chkT_ok a h1 hX O).1, fun _ _ _ z => nomatch z⟩
  | .tru a, x, X, c, F, h, hX, O => by
    obtain ⟨h1, h2⟩ := inv_tru h
    refine ⟨vt_truth O (chkE_ok a h2 hX O) (plainT_ok h1), fun _ _ _ z => ?_⟩
    subst z
    cases h1
theorem chkTc_ok : ∀ (e : Tc) {x : List Expr} {X : Cx} {c : Cc} {F : Fr}, chkTc c e x = true → Xc Γ X c → Ok X F → PTs X x (lT F (wTc Γ e))
  | .no, x, X, c, F, h, hX, O => by
    cases inv_tno h
    refine ⟨fun pins s σ H Q I hw => pts_nil.run pins s σ H Q I ?_⟩
    obtain ⟨as, ρ, Q', E, w, c'⟩ := hw
    exact c' as true ρ H (Aft.refl E) (by unfold wTc at w; exact w)
  | .yes t, x, X, c, F, h, hX, O => by
    obtain ⟨x, rfl, h⟩ := inv_tyes h
    have := pts_one (chkT_ok t h hX O).1
    exact this
theorem chkP_ok : ∀ (e : Po) {x : Option Expr} {X : Cx} {c : Cc} {F : Fr}, chkP c e x = true → Xc Γ X c → Ok X F → PO X x (lP F (wP Γ e))
  | .no, x, X, c, F, h, hX, O => by
    cases inv_pno h
    exact vp_no
  | .yes a, x, X, c, F, h, hX, O => by
    obtain ⟨x, rfl, h⟩ := inv_pyes h
    exact vp_yes (chkE_ok a h hX O)
theorem chkA_ok : ∀ (e : Es) {x : List Expr} {X : Cx} {c : Cc} {F : Fr}, chkA c e x = true → Xc Γ X c → Ok X F → VA X F x (wA Γ e)
  | .nil, x, X, c, F, h, hX, O => by
    cases inv_nil h
    exact va_nil
  | .cons a es, x, X, c, F, h, hX, O => by
    obtain ⟨x, xs, rfl, h1, h2, h3⟩ := inv_cons h
    exact va_cons (chkE_ok a h2 hX O) (chkA_ok es h3 hX O) (star_cons h1)
theorem chkI_ok : ∀ (e : It) {t x : Expr} {X : Cx} {c : Cc} {F : Fr}, chkI c e t x = true → Xc Γ X c → Ok X F → VI X F t x (wI Γ e)
  | .seq a, t, x, X, c, F, h, hX, O => by
    exact vi_seq O (chkE_ok a (inv_seq h) hX O)
  | .own j, t, x, X, c, F, h, hX, O => ⟨fun pins s σ H R I ⟨_, _, _, _, w, _⟩ => w.elim⟩
  | .rng1 a, t, x, X, c, F, h, hX, O => by
    obtain ⟨p, x, pos, rfl, h1, h2, h3⟩ := inv_rng1 h
    obtain ⟨g1, g2⟩ := chkB_ok hX h1
    exact vi_rng1 O (chkE_ok a h3 hX O) g1 g2 (star_cons h2)
  | .rng2 a b, t, x, X, c, F, h, hX, O => by
    obtain ⟨p, x, y, pos, rfl, h1, h2, h2', h3, h4⟩ := inv_rng2 h
    obtain ⟨g1, g2⟩ := chkB_ok hX h1
    exact vi_rng2 O (chkE_ok a h3 hX O) (chkE_ok b h4 hX O) g1 g2 (by rw [star_cons h2, star_cons h2']; rfl) (star_cons h2')
  | .rng2L a b, t, x, X, c, F, h, hX, O => by
    obtain ⟨p, x, y, pos, rfl, h1, h2, h2', h3, h4⟩ := inv_rng2L h
    obtain ⟨g1, g2⟩ := chkB_ok hX h1
    exact vi_rng2L O (chkE_ok a h3 hX O) (chkE_ok b h4 hX O) g1 g2 (by rw [star_cons h2, star_cons h2']; rfl) (star_cons h2')
  | .rng3 a b d, t, x, X, c, F, h, hX, O => by
    obtain ⟨p, x, y, z, pos, rfl, h1, h2, h2', h2'', h3, h4, h5⟩ := inv_rng3 h
    obtain ⟨g1, g2⟩ := chkB_ok hX h1
    exact vi_rng3 O (chkE_ok a h3 hX O) (chkE_ok b h4 hX O) (chkE_ok d h5 hX O) g1 g2 (by rw [star_cons h2, star_cons h2', star_cons h2'']; rfl) (by rw [star_cons h2', star_cons h2'']; rfl) (star_cons h2'')
      fun ta ha => pi_range3 g1 g2 ha (star_cons h2) (star2 h2' h2'')
  | .rev a, t, x, X, c, F, h, hX, O => by
    obtain ⟨p, x, pos, rfl, h1, h2, h3⟩ := inv_rev h
    obtain ⟨g1, g2⟩ := chkB_ok hX h1
    exact vi_rev O (chkE_ok a h3 hX O) g1 g2 (star_cons h2)
  | .enum a, t, x, X, c, F, h, hX, O => by
    obtain ⟨el, k, tp, p, x, pos, rfl, rfl, h1, h2, h3⟩ := inv_enum h
    obtain ⟨g1, g2⟩ := chkB_ok hX h1
    exact vi_enum O (chkE_ok a h3 hX O) g1 g2 (star_cons h2)
  | .zip a b, t, x, X, c, F, h, hX, O => by
    obtain ⟨el, k, tp, p, x, y, pos, rfl, rfl, h1, h2, h2', h3, h4⟩ := inv_zip h
    obtain ⟨g1, g2⟩ := chkB_ok hX h1
    exact vi_zip O (chkE_ok a h3 hX O) (chkE_ok b h4 hX O) g1 g2 (star_cons h2) (star_cons h2') (star1 h2')
end
end
end VL

/-! VL17: a checked text keeps its reading: statements. -/
namespace VL
open PySem PySem.Spec L2
section
variable {c : Cc} {s : Stmt}
theorem isLc {e : E} {x : Expr} {gs : List Comprehension} {scope : Scope} {pos : Pos} (h : chkE c e (.ListComp x gs scope pos) = true) : ∃ elt tg it own cs, e = .lc elt tg it own cs := by
  unfold chkE at h
  split at h <;> try contradiction
  exact ⟨_, _, _, _, _, rfl⟩
theorem inv_asg {i : Nat} {e : E} (h : chkS c (.asg i e) s = true) : ∃ x px v pos, s = .Assign [.Name x px] v pos ∧ chkTo c i x = true ∧ chkE c e v = true ∧ (noComp v = true ∨ ∃ y gs scope lp, v = .ListComp y gs scope lp) := by
  unfold chkS at h
  split at h <;> try contradiction
  rename_i v _ q
  cases q
  simp only [Bool.and_eq_true, Bool.or_eq_true] at h
  refine ⟨_, _, _, _, rfl, h.1.1, h.1.2, ?_⟩
  rcases h.2 with h | h
  · exact .inl h
  · cases v <;> first | (cases h; done) | exact .inr ⟨_, _, _, _, rfl⟩
theorem inv_asgT {is : List Nat} {e : E} (h : chkS c (.asgT is e) s = true) : ∃ ts k p v pos, s = .Assign [.Tuple ts k p] v pos ∧ chkNames c is ts = true ∧ chkE c e v = true ∧ notTup v = true := by
  unfold chkS at h
  split at h <;> try contradiction
  rename_i q
  cases q
  simp only [Bool.and_eq_true] at h
  exact ⟨_, _, _, _, _, rfl, h.1.1, h.1.2, h.2⟩
theorem inv_par {is : List Nat} {es : Es} (h : chkS c (.par is es) s = true) : ∃ ts k p vs k' p' pos, s = .Assign [.Tuple ts k p] (.Tuple vs k' p') pos ∧ parOk c is ts vs = true ∧ chkA c es vs = true := by
  unfold chkS at h
  split at h <;> try contradiction
  rename_i q
  cases q
  simp only [Bool.and_eq_true] at h
  exact ⟨_, _, _, _, _, _, _, rfl, h.1, h.2⟩
theorem inv_asgX {i : Nat} {x y e : E} (h : chkS c (.asgX i x y e) s = true) : ∃ n p1 u t1 p2 w t2 k tp v pos, s = .Assign [.Tuple [.Subscript (.Name n p1) u t1, .Subscript (.Name n p2) w t2] k tp] v pos ∧ chkVar c i n = true ∧ notSlice u = true ∧ notSlice w = true ∧ chkE c x u = true ∧ chkE c y w = true ∧ chkE c e v = true ∧ noComp v = true := by
  unfold chkS at h
  split at h <;> try contradiction
  rename_i q
  cases q
  simp only [Bool.and_eq_true] at h
  obtain ⟨⟨⟨⟨⟨⟨⟨h1, h2⟩, h3⟩, h4⟩, h5⟩, h6⟩, h7⟩, h8⟩ := h
  have h2 := eq_of_beq h2
  subst h2
  exact ⟨_, _, _, _, _, _, _, _, _, _, _, rfl, h1, h3, h4, h5, h6, h7, h8⟩
theorem noStoresX {a b s s2 : Expr} {p p2 tp : Pos} {k : Nat} {e : Expr} {env : Env} : swappedStores [.Tuple [.Subscript a s p, .Subscript b s2 p2] k tp] e env = pure none := by
  unfold swappedStores
  cases e <;> first | rfl | skip
  rename_i vs _ _
  simp only [List.length_cons, List.length_nil, List.filterMap_cons, List.filterMap_nil]
  repeat (first | rfl | split)
theorem inv_sub {i : Nat} {x e : E} (h : chkS c (.sub i x e) s = true) : ∃ n p y sp v pos, s = .Assign [.Subscript (.Name n p) y sp] v pos ∧ chkVar c i n = true ∧ notSlice y = true ∧ chkE c x y = true ∧ chkE c e v = true ∧ noComp v = true := by
  unfold chkS at h
  split at h <;> try contradiction
  rename_i q
  cases q
  simp only [Bool.and_eq_true] at h
  exact ⟨_, _, _, _, _, _, rfl, h.1.1.1.1, h.1.1.1.2, h.1.1.2, h.1.2, h.2⟩
theorem inv_aug {i : Nat} {o : Op} {e : E} (h : chkS c (.aug i o e) s = true) : ∃ x px v pos, s = .AugAssign (.Name x px) (opP o) v pos ∧ chkTo c i x = true ∧ chkE c e v = true := by
  unfold chkS at h
  split at h <;> try contradiction
  rename_i q
  cases q
  simp only [Bool.and_eq_true] at h
  rw [opP_eq h.1.2]
  exact ⟨_, _, _, _, rfl, h.1.1, h.2⟩
theorem inv_augS {i : Nat} {x : E} {o : Op} {e : E} (h : chkS c (.augS i x o e) s = true) : ∃ n p y sp v pos, s = .AugAssign (.Subscript (.Name n p) y sp) (opP o) v pos ∧ chkVar c i n = true ∧ notSlice y = true ∧ chkE c x y = true ∧ chkE c e v = true := by
  unfold chkS at h
  split at h <;> try contradiction
  rename_i q
  cases q
  simp only [Bool.and_eq_true] at h
  rw [opP_eq h.1.1.2]
  exact ⟨_, _, _, _, _, _, rfl, h.1.1.1.1, h.1.1.1.2, h.1.2, h.2⟩
theorem inv_ex {e : E} (h : chkS c (.ex e) s = true) : ∃ v pos, s = .Expr v pos ∧ noComp v = true ∧ chkE c e v = true := by
  unfold chkS at h
  split at h <;> try contradiction
  rename_i q
  cases q
  simp only [Bool.and_eq_true] at h
  exact ⟨_, _, rfl, h.1, h.2⟩
theorem inv_ret {e : E} (h : chkS c (.ret e) s = true) : ∃ v pos, s = .Return (some v) pos ∧ chkE c e v = true := by
  unfold chkS at h
  split at h <;> try contradiction
  rename_i q
  cases q
  exact ⟨_, _, rfl, h⟩
theorem inv_ret0 (h : chkS c .ret0 s = true) : ∃ pos, s = .Return none pos := by
  unfold chkS at h
  split at h <;> try contradiction
  exact ⟨_, rfl⟩
theorem inv_if {t : T} {a b : Ss} (h : chkS c (.ite t a b) s = true) : ∃ e x y pos, s = .If e x y pos ∧ chkT c t e = true ∧ chkSs c a x = true ∧ chkSs c b y = true := by
  unfold chkS at h
  split at h <;> try contradiction
  rename_i q
  cases q
  simp only [Bool.and_eq_true] at h
  exact ⟨_, _, _, _, rfl, h.1.1, h.1.2, h.2⟩
theorem inv_whl {t : T} {a : Ss} (h : chkS c (.whl t a) s = true) : ∃ e x pos, s = .While e x [] pos ∧ chkT c t e = true ∧ chkSs c a x = true := by
  unfold chkS at h
  split at h <;> try contradiction
  rename_i q
  cases q
  simp only [Bool.and_eq_true] at h
  exact ⟨_, _, _, rfl, h.1, h.2⟩
theorem inv_for {tg : Tg} {it : It} {b : Ss} (h : chkS c (.for tg it b) s = true) : ∃ t i x pos, s = .For t i x [] pos ∧ chkG c tg t = true ∧ chkI c it t i = true ∧ notSet i = true ∧ chkSs c b x = true := by
  unfold chkS at h
  split at h <;> try contradiction
  rename_i q
  cases q
  simp only [Bool.and_eq_true] at h
  exact ⟨_, _, _, _, rfl, h.1.1.1, h.1.1.2, h.1.2, h.2⟩
theorem inv_pass (h : chkS c .pass s = true) : ∃ pos, s = .Pass pos := by
  unfold chkS at h
  split at h <;> try contradiction
  exact ⟨_, rfl⟩
theorem inv_brk (h : chkS c .brk s = true) : ∃ pos, s = .Break pos := by
  unfold chkS at h
  split at h <;> try contradiction
  exact ⟨_, rfl⟩
theorem inv_cnt (h : chkS c .cnt s = true) : ∃ pos, s = .Continue pos := by
  unfold chkS at h
  split at h <;> try contradiction
  exact ⟨_, rfl⟩
theorem inv_snil {l : List Stmt} (h : chkSs c .nil l = true) : l = [] := by
  unfold chkSs at h
  split at h <;> try contradiction
  rfl
theorem inv_scons {a : S} {es : Ss} {l : List Stmt} (h : chkSs c (.cons a es) l = true) : ∃ x xs, l = x :: xs ∧ chkS c a x = true ∧ chkSs c es xs = true := by
  unfold chkSs at h
  split at h <;> try contradiction
  rename_i q
  cases q
  simp only [Bool.and_eq_true] at h
  exact ⟨_, _, rfl, h.1, h.2⟩
end
theorem noSw {e : Expr} {t : Option Expr} {n : Nat} {env : Env} (h : noComp e = true) : swapsWith e t n env = pure false := by
  cases e <;> first | rfl | cases h
theorem noStores {e : Expr} {ts : List Expr} {env : Env} (h : notTup e = true) : swappedStores ts e env = pure none := by
  unfold swappedStores
  cases e <;> first | (cases h; done) | skip
  all_goals
    (split
     · rename_i q; split at q <;> cases q <;> contradiction
     · rfl)
theorem noStores' {v b s : Expr} {p : Pos} {e : Expr} {env : Env} : swappedStores [.Subscript b s p] e env = pure none := by
  unfold swappedStores
  rfl
def starB : Expr → Bool
  | .Starred .. => true
  | _ => false
theorem star_no {a : Expr} (h : notStar a = true) : starB a = false := by
  cases a <;> first | (cases h; done) | rfl
def nmF (env : Env) (l : Nat) : Expr → Option Str
  | .Name id pos => if env.kindOf id == some .local && pos.line == l then some id else none
  | _ => none
def swGo (k st : Bool) (names : List Str) (n : Nat) (f c : Bool) : Sem (Option (List Str)) :=
  if k then pure none else if st then pure none else if names.length != n || names.eraseDups.length != names.length then pure none else if f then pure none
  else if c then (do unsupported "assign.tuple-of-constant-expressions:order-of-the-stores"; pure (some names)) else pure (some names)
theorem nmF_ok {env : Env} {l : Nat} {x : Str} {p : Pos} (h : env.scope.names.lookup x = some .local) (g : l = p.line) : nmF env l (.Name x p) = some x := by
  have kx : env.kindOf x = some .local := h
  show (if (env.kindOf x == some .local && p.line == l) = true then some x else none) = some x
  rw [kx, g, beq_self_eq_true, beq_self_eq_true]
  rfl
theorem fnb {env : Env} (hk : env.scope.kind = .function) : (env.blockKind != .function) = false := by
  unfold Env.blockKind; rw [hk]; rfl
theorem swap2 {env : Env} {a b : Expr} {x y : Str} {px py : Pos} {kt k2 : Nat} {pt p2 : Pos} (hk : env.scope.kind = .function) (hx : env.scope.names.lookup x = some .local) (hy : env.scope.names.lookup y = some .local) (hl : px.line = py.line) (hxy : x ≠ y)
    (h1 : [a, b].all (foldedForSure 8) = false) (h2 : [a, b].all (constantsAlone 8) = false) (sa : notStar a = true) (sb : notStar b = true) :
    swappedStores [.Tuple [.Name x px, .Name y py] kt pt] (.Tuple [a, b] k2 p2) env = pure (some [x, y]) := by
  have e : swappedStores [.Tuple [.Name x px, .Name y py] kt pt] (.Tuple [a, b] k2 p2) env =
    swGo (false || (env.blockKind != .function)) (starB a || (starB b || false)) ([.Name x px, .Name y py].filterMap (nmF env px.line)) 2 ([a, b].all (foldedForSure 8)) ([a, b].all (constantsAlone 8)) := rfl
  rw [e, fnb hk, star_no sa, star_no sb, List.filterMap_cons_some (nmF_ok hx rfl), List.filterMap_cons_some (nmF_ok hy hl), List.filterMap_nil, h1, h2]
  unfold swGo
  have ed : ([x, y] : List Str).eraseDups = [x, y] := by simp [List.eraseDups_cons, Ne.symm hxy]
  rw [ed]
  rfl
theorem swap3 {env : Env} {a b d : Expr} {x y z : Str} {px py pz : Pos} {kt k2 : Nat} {pt p2 : Pos} (hk : env.scope.kind = .function) (hx : env.scope.names.lookup x = some .local) (hy : env.scope.names.lookup y = some .local) (hz : env.scope.names.lookup z = some .local) (hl : px.line = py.line) (hl' : px.line = pz.line)
    (hxy : x ≠ y) (hxz : x ≠ z) (hyz : y ≠ z)
    (h1 : [a, b, d].all (foldedForSure 8) = false) (h2 : [a, b, d].all (constantsAlone 8) = false) (sa : notStar a = true) (sb : notStar b = true) (sd : notStar d = true) :
    swappedStores [.Tuple [.Name x px, .Name y py, .Name z pz] kt pt] (.Tuple [a, b, d] k2 p2) env = pure (some [x, y, z]) := by
  have e : swappedStores [.Tuple [.Name x px, .Name y py, .Name z pz] kt pt] (.Tuple [a, b, d] k2 p2) env =
    swGo (false || (env.blockKind != .function)) (starB a || (starB b || (starB d || false))) ([.Name x px, .Name y py, .Name z pz].filterMap (nmF env px.line)) 3 ([a, b, d].all (foldedForSure 8)) ([a, b, d].all (constantsAlone 8)) := rfl
  rw [e, fnb hk, star_no sa, star_no sb, star_no sd, List.filterMap_cons_some (nmF_ok hx rfl), List.filterMap_cons_some (nmF_ok hy hl), List.filterMap_cons_some (nmF_ok hz hl'), List.filterMap_nil, h1, h2]
  unfold swGo
  have ed : ([x, y, z] : List Str).eraseDups = [x, y, z] := by simp [List.eraseDups_cons, Ne.symm hxy, Ne.symm hxz, Ne.symm hyz]
  rw [ed]
  rfl
section
variable {Γ : Nat → VF}
theorem asg_ok (e : E) {i : Nat} {s : Stmt} {X : Cx} {c : Cc} {F : Fr} (h : chkS c (.asg i e) s = true) (hX : Xc Γ X c) (O : Ok X F) : VS X F s (wS Γ (.asg i e)) := by
  obtain ⟨x, px, v, pos, rfl, h1, h2, h3⟩ := inv_asg h
  obtain ⟨g1, g2, g3⟩ := chkTo_ok hX h1
  rcases h3 with h3 | ⟨y, gs, scope, lp, rfl⟩
  · exact vs_asg g1 g2 O.nd (chkE_ok e h2 hX O) (noSw h3) g3
  · by_cases sw : swapsWith (.ListComp y gs scope lp) (some (.Name x px)) pos.line X.env = pure false
    · exact vs_asg g1 g2 O.nd (chkE_ok e h2 hX O) sw g3
    · have sb : ∃ b : Bool, swapsWith (.ListComp y gs scope lp) (some (.Name x px)) pos.line X.env = pure b ∧ (b = true → X.env.scope.names.lookup x = some .local) := by
        refine ⟨_, rfl, fun z => ?_⟩
        simp only [Bool.and_eq_true] at z
        exact eq_of_beq z.1.1.2
      obtain ⟨b, e1, e2⟩ := sb
      cases b with
      | false => exact absurd e1 sw
      | true =>
        obtain ⟨elt, tg, it, own, cs, rfl⟩ := isLc h2
        obtain ⟨x', t, i', ifs, scope', pos', q, h1, h2', h3, h4, h5, h6, h7, h8, h9⟩ := inv_lc h2
        cases q
        have hI := chkI_ok it h1 hX O
        have ok : BlkOk X.N X.env.scope scope (ownN c.N own) := by rw [hX.N, hX.sc]; exact blkOk_by h3
        have q := vs_asgLc (pos := pos) O g1 (e2 rfl) e1 hI ok (vg_of F.K tg) (own_ok h4 (P := tgIn tg) (tgOwn_ok h5)) (fun s H C cl fp => tg_pg (hX.inner s H C cl fp) O.blk h6)
          (fun s H C cl fp F' hF => chkTc_ok cs h7 (hX.inner s H C cl fp) (Ok.blk ⟨O.K.trans hF.symm, O.calm, O.nd, O.room, O.seer, O.tree, O.head, O.pass⟩))
          (fun s H C cl fp F' hF => chkE_ok elt h8 (hX.inner s H C cl fp) (Ok.blk ⟨O.K.trans hF.symm, O.calm, O.nd, O.room, O.seer, O.tree, O.head, O.pass⟩)) (setIter h2')
        rw [h4] at q
        cases it with
        | own j =>
          obtain ⟨y, py, rfl, hv⟩ := inv_own h1
          obtain ⟨m1, m2, m3, m4⟩ := chkVar_ok hX hv
          have hjo : j ∉ (ownN c.N own).map (·.2) := by
            rw [h4]
            unfold itOwn at h9
            simpa using h9
          have q := vs_asgLcO (pos := pos) O g1 (e2 rfl) e1 m1 m2 m3 m4 hjo ok (vg_of F.K tg) (own_ok h4 (P := tgIn tg) (tgOwn_ok h5)) (fun s H C cl fp => tg_pg (hX.inner s H C cl fp) O.blk h6)
            (fun s H C cl fp F' hF => chkTc_ok cs h7 (hX.inner s H C cl fp) (Ok.blk ⟨O.K.trans hF.symm, O.calm, O.nd, O.room, O.seer, O.tree, O.head, O.pass⟩))
            (fun s H C cl fp F' hF => chkE_ok elt h8 (hX.inner s H C cl fp) (Ok.blk ⟨O.K.trans hF.symm, O.calm, O.nd, O.room, O.seer, O.tree, O.head, O.pass⟩)) (setIter h2')
          rw [h4] at q
          exact q
        | _ => exact q
theorem par_ok (es : Es) {is : List Nat} {s : Stmt} {X : Cx} {c : Cc} {F : Fr} (h : chkS c (.par is es) s = true) (hX : Xc Γ X c) (O : Ok X F) : VS X F s (wS Γ (.par is es)) := by
  obtain ⟨ts, k, p, vs, k', p', pos, rfl, h1, h2⟩ := inv_par h
  have hA := chkA_ok es h2 hX O
  unfold parOk at h1
  simp only [Bool.and_eq_true, Bool.not_eq_true'] at h1
  obtain ⟨⟨⟨⟨k1, k2⟩, k3⟩, k4⟩, k5⟩ := h1
  have k1 : X.env.scope.kind = .function := by
    rw [hX.sc]
    revert k1
    cases c.sc.kind <;> intro z <;> first | rfl | cases z
  split at k5
  · rename_i i j x px y py a b
    simp only [Bool.and_eq_true, Bool.not_eq_true', beq_iff_eq, beq_eq_false_iff_ne, kindIs] at k5
    obtain ⟨⟨⟨⟨⟨⟨m1, m2⟩, m3⟩, m4⟩, m5⟩, m6⟩, m7⟩ := k5
    rw [← hX.N] at m1 m2
    rw [← hX.sc] at m3 m4
    simp only [List.all_cons, List.all_nil, Bool.and_eq_true] at k4
    exact vs_par2 O m1 m2 m7 m3 m4 hA (swap2 k1 m3 m4 m5 m6 k2 k3 k4.1 k4.2.1)
  · rename_i i j l x px y py z pz a b d
    simp only [Bool.and_eq_true, Bool.not_eq_true', beq_iff_eq, beq_eq_false_iff_ne, kindIs] at k5
    obtain ⟨⟨⟨⟨⟨⟨⟨⟨⟨⟨⟨⟨⟨m1, m2⟩, m3⟩, m4⟩, m5⟩, m6⟩, m7⟩, m8⟩, m9⟩, m10⟩, m11⟩, m12⟩, m13⟩, m14⟩ := k5
    rw [← hX.N] at m1 m2 m3
    rw [← hX.sc] at m4 m5 m6
    simp only [List.all_cons, List.all_nil, Bool.and_eq_true] at k4
    exact vs_par3 O m1 m2 m3 m12 m13 m14 m4 m5 m6 hA (swap3 k1 m4 m5 m6 m7 m8 m9 m10 m11 k2 k3 k4.1 k4.2.1 k4.2.2.1)
  · cases k5
mutual
theorem chkS_ok : ∀ (e : S) {s : Stmt} {X : Cx} {c : Cc} {F : Fr}, chkS c e s = true → Xc Γ X c → Ok X F → VS X F s (wS Γ e)
  | .asg i e, s, X, c, F, h, hX, O => asg_ok e h hX O
  | .asgT is e, s, X, c, F, h, hX, O => by
    obtain ⟨ts, k, p, v, pos, rfl, h1, h2, h4⟩ := inv_asgT h
    obtain ⟨g1, g2, g3⟩ := names_pg hX O.nd h1
    have hg : PG X (.Tuple ts k p) (gSeq F.K is.length (gNames is)) := by
      rw [← O.K]
      exact pg_seq O.calm g1 g2 g3
    exact vs_asgT hg (chkE_ok e h2 hX O) (show swapsWith v (some (.Tuple ts k p)) pos.line X.env = pure false by cases v <;> rfl) (noStores h4) rfl
  | .par is es, s, X, c, F, h, hX, O => par_ok es h hX O
  | .asgX i x y e, s, X, c, F, h, hX, O => by
    obtain ⟨n, p1, u, t1, p2, w, t2, k, tp, v, pos, rfl, h1, h2, h3, h4, h5, h6, h7⟩ := inv_asgX h
    obtain ⟨g1, g2, g3, g4⟩ := chkVar_ok hX h1
    refine vs_asgX O g1 g2 g3 g4 (chkE_ok e h6 hX O) (chkE_ok x h4 hX O) (chkE_ok y h5 hX O) (show swapsWith v (some (.Tuple [.Subscript (.Name n p1) u t1, .Subscript (.Name n p2) w t2] k tp)) pos.line X.env = pure false from noSw h7) noStoresX (fun v => ?_) fun v => ?_
    · cases u <;> first | rfl | cases h2
    · cases w <;> first | rfl | cases h3
  | .sub i x e, s, X, c, F, h, hX, O => by
    obtain ⟨n, p, y, sp, v, pos, rfl, h1, h2, h3, h4, h5⟩ := inv_sub h
    obtain ⟨g1, g2, g3, g4⟩ := chkVar_ok hX h1
    refine vs_sub O g1 g2 g3 g4 (chkE_ok e h4 hX O) (chkE_ok x h3 hX O) (show swapsWith v (some (.Subscript (.Name n p) y sp)) pos.line X.env = pure false from noSw h5) (noStores' (v := v)) rfl fun v => ?_
    cases y <;> first | rfl | cases h2
  | .aug i o e, s, X, c, F, h, hX, O => by
    obtain ⟨x, px, v, pos, rfl, h1, h2⟩ := inv_aug h
    obtain ⟨g1, g2, g3⟩ := chkTo_ok hX h1
    exact vs_aug O o g1 g2 (chkE_ok e h2 hX O) g3
  | .augS i x o e, s, X, c, F, h, hX, O => by
    obtain ⟨n, p, y, sp, v, pos, rfl, h1, h2, h3, h4⟩ := inv_augS h
    obtain ⟨g1, g2, g3, g4⟩ := chkVar_ok hX h1
    refine vs_augS O o g1 g2 g3 g4 (chkE_ok e h4 hX O) (chkE_ok x h3 hX O) fun ov iv new => ?_
    cases y <;> first | rfl | cases h2
  | .ex e, s, X, c, F, h, hX, O => by
    obtain ⟨v, pos, rfl, h1, h2⟩ := inv_ex h
    exact vs_ex (chkE_ok e h2 hX O) (noSw h1)
  | .ret e, s, X, c, F, h, hX, O => by
    obtain ⟨v, pos, rfl, h2⟩ := inv_ret h
    exact vs_ret (chkE_ok e h2 hX O)
  | .ret0, s, X, c, F, h, hX, O => by
    obtain ⟨pos, rfl⟩ := inv_ret0 h
    exact vs_ret0
  | .ite t a b, s, X, c, F, h, hX, O => by
    obtain ⟨e, x, y, pos, rfl, h1, h2, h3⟩ := inv_if h
    exact vs_if (chkT_ok t h1 hX O).1 (chkSs_ok a h2 hX O) (chkSs_ok b h3 hX O)
  | .whl t a, s, X, c, F, h, hX, O => by
    obtain ⟨e, x, pos, rfl, h1, h2⟩ := inv_whl h
    exact vs_while O (chkT_ok t h1 hX O).1 (chkSs_ok a h2 hX O)
  | .for tg it b, s, X, c, F, h, hX, O => by
    obtain ⟨t, i, x, pos, rfl, h1, h2, h3, h4⟩ := inv_for h
    exact vs_for O (chkI_ok it h2 hX O) (vg_of F.K tg) (tg_pg hX O h1) (fun F' hF => chkSs_ok b h4 hX ⟨O.K.trans hF.symm, O.calm, O.nd, O.room, O.seer, O.tree, O.head, O.pass⟩) (setIter h3)
  | .pass, s, X, c, F, h, hX, O => by
    obtain ⟨pos, rfl⟩ := inv_pass h
    exact vs_pass
  | .brk, s, X, c, F, h, hX, O => by
    obtain ⟨pos, rfl⟩ := inv_brk h
    exact vs_brk
  | .cnt, s, X, c, F, h, hX, O => by
    obtain ⟨pos, rfl⟩ := inv_cnt h
    exact vs_cnt
theorem chkSs_ok : ∀ (e : Ss) {s : List Stmt} {X : Cx} {c : Cc} {F : Fr}, chkSs c e s = true → Xc Γ X c → Ok X F → VSs X F s (wSs Γ e)
  | .nil, s, X, c, F, h, hX, O => by
    cases inv_snil h
    exact vs_nil
  | .cons a ss, s, X, c, F, h, hX, O => by
    obtain ⟨x, xs, rfl, h1, h2⟩ := inv_scons h
    have q := vs_cons (chkS_ok a h1 hX O) (chkSs_ok ss h2 hX O)
    exact q
end
end
end VL

/-! VL18: defs. -/
namespace VL
open PySem PySem.Spec L2
/-- a function by number: where it stands, its slots, its parameters, its text as a term -/
structure Ent where
  id : Nat
  d : He.DefD
  N : List Str
  ps : List Str
  body : Ss
  stub : Bool := false
def Ent.x (e : Ent) : Str := e.d.at_.1
def tabF (T : List Ent) (j : Nat) : List (Nat × Str × Nat) := (T.take j).map fun e => (e.id, e.x, e.ps.length)
def ccOf (T : List Ent) (bs : List Str) (gs : List (Str × D)) (j : Nat) (e : Ent) : Cc := ⟨e.d.scope, e.N, true, tabF T j, bs, gs⟩
theorem lookup_mem {β : Type} {f : Nat} {b : β} : ∀ {l : List (Nat × β)}, l.lookup f = some b → (f, b) ∈ l
  | [], h => by cases h
  | (g, c) :: l, h => by
    rw [List.lookup_cons] at h
    cases q : (f == g) with
    | true =>
      rw [q] at h
      cases h
      rw [eq_of_beq q]
      exact List.mem_cons_self
    | false =>
      rw [q] at h
      exact List.mem_cons_of_mem _ (lookup_mem h)
theorem tabF_at {T : List Ent} {j f n : Nat} {x : Str} (h : (tabF T j).lookup f = some (x, n)) : ∃ i e, i < j ∧ T[i]? = some e ∧ f = e.id ∧ x = e.x ∧ n = e.ps.length := by
  have m := lookup_mem h
  unfold tabF at m
  obtain ⟨e, hm, q⟩ := List.mem_map.mp m
  cases q
  obtain ⟨i, hi⟩ := List.getElem?_of_mem hm
  have hl : i < j := by
    have := (List.getElem?_eq_some_iff.mp hi).1
    rw [List.length_take] at this
    omega
  rw [List.getElem?_take, if_pos hl] at hi
  exact ⟨i, e, hl, hi, rfl, rfl, rfl⟩
structure EntOk (T : List Ent) (bs : List Str) (gs : List (Str × D)) (j : Nat) (e : Ent) : Prop where
  sc : FnScope e.N e.ps e.d.scope
  bnd : ∀ (kV doc pm : Value) (an : Option Addr) (cdv ct : Value) (us : List Value), us.length = e.ps.length → bindArgs (PySem.W.fnOf e.d.name e.d.qual e.d.params e.d.body e.d.scope .none kV doc pm an cdv ct) ⟨us, []⟩ = pure (e.ps.zip us)
  chk : e.stub = false → chkSs (ccOf T bs gs j e) e.body e.d.body = true
/-- the text, as a term, keeps the promise f -/
def Good (Γ : Nat → VF) (body : Ss) (n m : Nat) (f : VF) : Prop := match f.kind with
  | .read => ∀ ds q, f.sp ds q → ds.length = n → wSs Γ body (ds.map Sl.val ++ List.replicate m .un) { nx := fun _ => q (.val .non) none, rt := fun r _ => q r none }
  | .take => ∀ ds q, f.sp ds q → ds.length = n → wSs Γ body (ds.map Sl.val ++ List.replicate m .un) { nx := fun _ => q (.val .non) none, rt := fun r _ => q r none }
  | .wrt => ∀ ds0 rest q, f.sp (.lst ds0 :: rest) q → rest.length + 1 = n →
      wSs Γ body ((Sl.par ds0 :: rest.map Sl.val) ++ List.replicate m .un) { nx := fun ρ => ∃ ds', gt ρ 0 = .par ds' ∧ q (.val .non) (some ds'), rt := fun r ρ => (∃ x : R, r = x) ∧ ∃ ds', gt ρ 0 = .par ds' ∧ q r (some ds') }
  | .give => ∀ ds0 rest q, f.sp (.lst ds0 :: rest) q → rest.length + 1 = n →
      wSs Γ body ((Sl.own ds0 :: rest.map Sl.val) ++ List.replicate m .un) { nx := fun _ => q (.val .non) none, rt := fun r _ => (∃ d, r = .val d) ∧ q r none }
  | .wrtB => ∀ ds0 d q, f.sp [.lst ds0, d] q → n = 2 →
      wSs Γ body ([Sl.val d, Sl.par ds0] ++ List.replicate m .un) { nx := fun ρ => ∃ ds', gt ρ 1 = .par ds' ∧ q (.val .non) (some ds'), rt := fun r ρ => (∃ x : R, r = x) ∧ ∃ ds', gt ρ 1 = .par ds' ∧ q r (some ds') }
/-- a stub stands for a def ahead of itself: nothing may be asked of it -/
def GoodE (Γ : Nat → VF) (e : Ent) : Prop := match e.stub with
  | true => ∀ ds q, ¬ (Γ e.id).sp ds q
  | false => Good Γ e.body e.ps.length (e.N.length - e.ps.length) (Γ e.id)
theorem spOf_none {K : PySem.W.Frag} {n : Nat} {f : VF} (h : ∀ ds q, ¬ f.sp ds q) {vs : List V} {H : Hp} {Q : VK} {E : XK} : ¬ spOf K n f vs H Q E := by
  rintro ⟨-, z⟩
  split at z
  · obtain ⟨ds, ex, q, _, _, z, _⟩ := z
    exact h _ _ z
  · obtain ⟨ds, ex, q, _, _, z, _⟩ := z
    exact h _ _ z
  · obtain ⟨a, xs, ds0, rest, vr, ex, q, _, _, _, _, _, _, z, _⟩ := z
    exact h _ _ z
  · obtain ⟨a, xs, ds0, rest, vr, ex, q, _, _, _, _, _, _, z, _⟩ := z
    exact h _ _ z
  · obtain ⟨_, _, _, a, xs, ds0, rest, vr, ex, q, _, _, _, _, _, _, z, _⟩ := z
    exact h _ _ z
theorem start_sl {F : Fr} {H : Hp} {as : As} {N : List Str} {vs : List V} {sls : List Sl} {k : Nat} (hl : sls.length = vs.length) (h : ∀ i v, vs[i]? = some v → SlAt F H as i (some (some v)) (sls[i]?.getD .un)) (hn : ∀ i, vs.length ≤ i → as i = none) (i : Nat) :
    SlAt F H as i (L2.start N vs)[i]? ((sls ++ List.replicate k .un)[i]?.getD .un) := by
  by_cases hi : i < vs.length
  · have e1 : (L2.start N vs)[i]? = some (some (vs[i]'hi)) := by
      unfold L2.start
      rw [List.getElem?_append_left (by rw [List.length_map]; exact hi), List.getElem?_map, List.getElem?_eq_getElem hi]
      rfl
    have e2 : (sls ++ List.replicate k .un)[i]? = sls[i]? := List.getElem?_append_left (by rw [hl]; exact hi)
    rw [e1, e2]
    exact h i _ (List.getElem?_eq_getElem hi)
  · have e2 : (sls ++ List.replicate k .un)[i]?.getD .un = Sl.un := by
      rw [List.getElem?_append_right (by rw [hl]; omega), List.getElem?_replicate]
      split <;> rfl
    rw [e2]
    exact hn i (by omega)
theorem start_len {N : List Str} {vs : List V} {sls : List Sl} {m : Nat} (hl : sls.length = vs.length) (hm : m = N.length - vs.length) (hN : vs.length ≤ N.length) : (sls ++ List.replicate m Sl.un).length = (L2.start N vs).length := by
  unfold L2.start
  rw [List.length_append, List.length_append, List.length_map, List.length_replicate, List.length_replicate, hl, hm]
theorem Reps.getd {K : PySem.W.Frag} {H : Hp} {av : Addr → Prop} : ∀ {ds : List D} {vs : List V} {i : Nat} {v : V}, Reps K H av ds vs → vs[i]? = some v → ∃ d, ds[i]? = some d ∧ Rep K H av d v
  | [], vs, i, v, r, h => by unfold Reps at r; subst r; cases i <;> cases h
  | d :: ds, vs, i, v, r, h => by
    unfold Reps at r
    obtain ⟨u, ur, rfl, r1, r2⟩ := r
    cases i with
    | zero => cases h; exact ⟨d, rfl, r1⟩
    | succ i =>
      have q := Reps.getd r2 (show ur[i]? = some v from h)
      exact q
section
variable {K : PySem.W.Frag} {H : Hp} {ex : Addr → Prop} {N : List Str} {vs : List V} {ds : List D}
theorem er_read {m : Nat} (hx : ∀ b, ex b → H b ≠ none) (r : Reps K H ex ds vs) (hm : m = N.length - vs.length) (hN : vs.length ≤ N.length) :
    ER ⟨K, H, none, none, ex, []⟩ (fun _ => none) (L2.start N vs) H (ds.map Sl.val ++ List.replicate m .un) := by
  have hl : (ds.map Sl.val).length = vs.length := by rw [List.length_map, r.length]
  have av : ∀ b, Fr.av ⟨K, H, none, none, ex, []⟩ (fun _ => none) b → ex b := fun b z => by
    rcases z with z | ⟨i, z⟩ | z
    · exact z
    · cases z
    · cases z
  refine ⟨start_len hl hm hN, fun i j b h => (by cases h), fun i b h => (by cases h), fun i => start_sl hl (fun i v e => ?_) (fun _ _ => rfl) i, Ext.refl _ _, fun i b h => (by cases h), fun b z => ?_, fun b z => (by cases z), fun p hp => (by cases hp)⟩
  · obtain ⟨d, e1, e2⟩ := Reps.getd r e
    rw [List.getElem?_map, e1]
    exact ⟨rfl, v, rfl, Rep.wk (fun b _ z => av b z) e2⟩
  · rcases z with z | z
    · exact hx b z
    · cases z
theorem er_first {m : Nat} {a : Addr} {xs : List V} {ds0 : List D} {s : Sl} {M G : Option Addr} (hx : ∀ b, ex b → H b ≠ none) (hna : ¬ ex a) (ha : H a = some (.lst xs)) (r0 : Reps K H (fun c => ex c ∨ c = a) ds0 xs) (r : Reps K H (fun c => ex c ∨ c = a) ds vs)
    (hm : m = N.length - (vs.length + 1)) (hN : vs.length + 1 ≤ N.length) (hs : (s = .par ds0 ∧ M = some a ∧ G = none) ∨ (s = .own ds0 ∧ M = none ∧ G = some a)) :
    ER ⟨K, H, M, G, ex, []⟩ (fun i => if i = 0 then some a else none) (L2.start N (.ref a :: vs)) H ((s :: ds.map Sl.val) ++ List.replicate m .un) := by
  have hl : (s :: ds.map Sl.val).length = (V.ref a :: vs).length := by rw [List.length_cons, List.length_map, List.length_cons, r.length]
  have as0 : ∀ {i : Nat} {b : Addr}, (if i = 0 then some a else none) = some b → i = 0 ∧ b = a := fun {i b} h => by
    by_cases q : i = 0
    · rw [if_pos q] at h; cases h; exact ⟨q, rfl⟩
    · rw [if_neg q] at h; cases h
  have av : ∀ b, Fr.av ⟨K, H, M, G, ex, []⟩ (fun i => if i = 0 then some a else none) b → ex b ∨ b = a := fun b z => by
    rcases z with z | ⟨i, z⟩ | z
    · exact .inl z
    · exact .inr (as0 z).2
    · rcases hs with ⟨_, rfl, _⟩ | ⟨_, rfl, _⟩ <;> cases z
      exact .inr rfl
  refine ⟨start_len hl hm hN, fun i j b h h' => (as0 h).1.trans (as0 h').1.symm, fun i b h z => hna ((as0 h).2 ▸ z), fun i => start_sl hl (fun i v e => ?_) (fun i hi => if_neg (by have : 0 < i := Nat.lt_of_lt_of_le (by simp) hi; omega)) i, Ext.refl _ _, fun i b h => ?_, fun b z => ?_, fun b z => ?_, fun p hp => (by cases hp)⟩
  · cases i with
    | zero =>
      cases e
      rcases hs with ⟨rfl, rfl, rfl⟩ | ⟨rfl, rfl, rfl⟩
      · exact ⟨a, xs, rfl, rfl, rfl, ha, Reps.wk (fun b _ z => av b z) r0⟩
      · exact ⟨a, xs, rfl, .inr rfl, rfl, ha, Reps.wk (fun b _ z => av b z) r0⟩
    | succ i =>
      obtain ⟨d, e1, e2⟩ := Reps.getd r (show vs[i]? = some v from e)
      have e3 : (s :: ds.map Sl.val)[i + 1]? = some (.val d) := by rw [List.getElem?_cons_succ, List.getElem?_map, e1]; rfl
      rw [e3]
      exact ⟨rfl, v, rfl, Rep.wk (fun b _ z => av b z) e2⟩
  · rcases hs with ⟨_, rfl, _⟩ | ⟨_, _, rfl⟩
    · exact .inr (.inr (congrArg some (as0 h).2.symm))
    · exact .inr (.inl (congrArg some (as0 h).2.symm))
  · rcases z with z | z
    · exact hx b z
    · rcases hs with ⟨_, rfl, _⟩ | ⟨_, rfl, _⟩ <;> cases z
      rw [ha]; exact fun z => nomatch z
  · rcases hs with ⟨_, rfl, rfl⟩ | ⟨_, rfl, rfl⟩ <;> cases z
    refine ⟨(by show H a ≠ none; rw [ha]; exact fun z => nomatch z), fun z => nomatch z⟩
theorem er_second {m : Nat} {a : Addr} {xs : List V} {ds0 : List D} {d : D} {v0 : V} (hx : ∀ b, ex b → H b ≠ none) (hna : ¬ ex a) (ha : H a = some (.lst xs)) (r0 : Reps K H (fun c => ex c ∨ c = a) ds0 xs) (r : Rep K H (fun c => ex c ∨ c = a) d v0)
    (hm : m = N.length - 2) (hN : 2 ≤ N.length) :
    ER ⟨K, H, some a, none, ex, []⟩ (fun i => if i = 1 then some a else none) (L2.start N [v0, .ref a]) H ([Sl.val d, .par ds0] ++ List.replicate m .un) := by
  have as1 : ∀ {i : Nat} {b : Addr}, (if i = 1 then some a else none) = some b → i = 1 ∧ b = a := fun {i b} h => by
    by_cases q : i = 1
    · rw [if_pos q] at h; cases h; exact ⟨q, rfl⟩
    · rw [if_neg q] at h; cases h
  have av : ∀ b, Fr.av ⟨K, H, some a, none, ex, []⟩ (fun i => if i = 1 then some a else none) b → ex b ∨ b = a := fun b z => by
    rcases z with z | ⟨i, z⟩ | z
    · exact .inl z
    · exact .inr (as1 z).2
    · cases z; exact .inr rfl
  refine ⟨start_len rfl hm hN, fun i j b h h' => (as1 h).1.trans (as1 h').1.symm, fun i b h z => hna ((as1 h).2 ▸ z), fun i => start_sl (vs := [v0, .ref a]) rfl (fun i v e => ?_) (fun i hi => if_neg (by have : 2 ≤ i := hi; omega)) i, Ext.refl _ _, fun i b h => ?_, fun b z => ?_, fun b z => ?_, fun p hp => (by cases hp)⟩
  · match i, e with
    | 0, e =>
      cases e
      exact ⟨rfl, v0, rfl, Rep.wk (fun b _ z => av b z) r⟩
    | 1, e =>
      cases e
      exact ⟨a, xs, rfl, rfl, rfl, ha, Reps.wk (fun b _ z => av b z) r0⟩
  · exact .inr (.inr (congrArg some (as1 h).2.symm))
  · rcases z with z | z
    · exact hx b z
    · cases z
      rw [ha]; exact fun z => nomatch z
  · cases z
    refine ⟨(by show H a ≠ none; rw [ha]; exact fun z => nomatch z), fun z => nomatch z⟩
end
section
variable {P : Program} {w : World} {K : PySem.W.Frag} {mg : Str → Option Value} {base : Heap} {T : List Ent} {Γ : Nat → VF} {bs : List Str} {gs : List (Str × D)}
theorem body_read {body : Ss} {n : Nat} {f : VF} {N : List Str} {vs : List V} {H : Hp} {Q : VK} (hk : f.kind = .read) (hG : Good Γ body n (N.length - n) f) (hN : n ≤ N.length) (hl : vs.length = n) (h : spR K f vs H Q) :
    ∃ F : Fr, F.K = K ∧ lS F (wSs Γ body) { nx := fun _ H' => Q .non H', rt := Q } (L2.start N vs) H := by
  obtain ⟨ds, ex, q, hx, r, hq, c⟩ := h
  unfold Good at hG
  rw [hk] at hG
  have hG : ∀ ds q, f.sp ds q → ds.length = n → wSs Γ body (ds.map Sl.val ++ List.replicate (N.length - n) .un) { nx := fun _ => q (.val .non) none, rt := fun r _ => q r none } := hG
  refine ⟨⟨K, H, none, none, ex, []⟩, rfl, fun _ => none, _, _, er_read hx r (by rw [hl]) (by omega), hG ds q hq (by rw [← hl, r.length]), fun as' ρ' σ' H' E z => ?_, fun _ _ _ _ _ z => z.elim, fun _ _ _ _ _ z => z.elim, fun as' ρ' σ' H' r v E B z => ?_⟩
  · exact c (.val .non) .non H' none (E.old.mono fun b z => by rcases z with z | z <;> cases z) (rep_non (K := K) (H := H') (av := ex)) z
  · refine c r v H' none (E.old.mono fun b z => by rcases z with z | z <;> cases z) ?_ z
    cases r with
    | val d => exact Rep.wk (fun b _ z => .inl z) (show Rep K H' (Fr.av ⟨K, H, none, none, ex, []⟩ as') d v from B)
    | slot i => exact B.elim
    | fresh ds' =>
      obtain ⟨b, xs, rfl, h0, h1, h2, _⟩ := B
      have h0 : H b = none := by
        rcases h0 with h0 | h0
        · exact h0
        · cases h0
      exact ⟨b, xs, rfl, .inl h0, fun z => hx b z h0, h1, Reps.wk (fun c _ z => z.elim (fun z => .inl (.inl z)) .inr) h2⟩
theorem body_take {body : Ss} {n : Nat} {f : VF} {N : List Str} {vs : List V} {H : Hp} {Q : VK} (hk : f.kind = .take) (hG : Good Γ body n (N.length - n) f) (hN : n ≤ N.length) (hl : vs.length = n) (h : spR K f vs H Q) :
    ∃ F : Fr, F.K = K ∧ lS F (wSs Γ body) { nx := fun _ H' => Q .non H', rt := Q } (L2.start N vs) H := by
  obtain ⟨ds, ex, q, hx, r, hq, c⟩ := h
  unfold Good at hG
  rw [hk] at hG
  have hG : ∀ ds q, f.sp ds q → ds.length = n → wSs Γ body (ds.map Sl.val ++ List.replicate (N.length - n) .un) { nx := fun _ => q (.val .non) none, rt := fun r _ => q r none } := hG
  refine ⟨⟨K, H, none, none, ex, []⟩, rfl, fun _ => none, _, _, er_read hx r (by rw [hl]) (by omega), hG ds q hq (by rw [← hl, r.length]), fun as' ρ' σ' H' E z => ?_, fun _ _ _ _ _ z => z.elim, fun _ _ _ _ _ z => z.elim, fun as' ρ' σ' H' r v E B z => ?_⟩
  · exact c (.val .non) .non H' none (E.old.mono fun b z => by rcases z with z | z <;> cases z) (rep_non (K := K) (H := H') (av := ex)) z
  · refine c r v H' none (E.old.mono fun b z => by rcases z with z | z <;> cases z) ?_ z
    cases r with
    | val d => exact Rep.wk (fun b _ z => .inl z) (show Rep K H' (Fr.av ⟨K, H, none, none, ex, []⟩ as') d v from B)
    | slot i => exact B.elim
    | fresh ds' =>
      obtain ⟨b, xs, rfl, h0, h1, h2, _⟩ := B
      have h0 : H b = none := by
        rcases h0 with h0 | h0
        · exact h0
        · cases h0
      exact ⟨b, xs, rfl, .inl h0, fun z => hx b z h0, h1, Reps.wk (fun c _ z => z.elim (fun z => .inl (.inl z)) .inr) h2⟩
theorem body_wrt {body : Ss} {n : Nat} {f : VF} {N : List Str} {vs : List V} {H : Hp} {Q : VK} (hk : f.kind = .wrt) (hG : Good Γ body n (N.length - n) f) (hN : n ≤ N.length) (hl : vs.length = n) (h : spW K f vs H Q) :
    ∃ F : Fr, F.K = K ∧ lS F (wSs Γ body) { nx := fun _ H' => Q .non H', rt := Q } (L2.start N vs) H := by
  obtain ⟨a, xs, ds0, rest, vr, ex, q, rfl, hx, hna, ha, r0, r, hq, c⟩ := h
  unfold Good at hG
  rw [hk] at hG
  have hl' : vr.length + 1 = n := hl
  have hE := er_first (N := N) (m := N.length - n) (s := .par ds0) (M := some a) (G := none) hx hna ha r0 r (by rw [hl']) (by omega) (.inl ⟨rfl, rfl, rfl⟩)
  have e1 : ∀ {as' : As} {ρ' : En} {σ' : L2.St} {H' : Hp} {ds' : List D}, ER ⟨K, H, some a, none, ex, []⟩ as' σ' H' ρ' → gt ρ' 0 = .par ds' → Ext (fun c => c = a) H H' ∧ ∃ ys, H' a = some (.lst ys) ∧ Reps K H' (fun c => (ex c ∨ c = a)) ds' ys := fun {as' ρ' σ' H' ds'} E z => by
    refine ⟨E.old.mono fun b z => by rcases z with z | z <;> cases z; rfl, ?_⟩
    have s0 := E.sl 0
    change SlAt _ H' as' 0 _ (gt ρ' 0) at s0
    rw [z] at s0
    obtain ⟨b, ys, _, hb, _, g1, g2⟩ := s0
    cases hb
    exact ⟨ys, g1, Reps.wk (fun c _ z => z.elim .inl fun z => .inr (.inr (congrArg some z.symm))) g2⟩
  refine ⟨⟨K, H, some a, none, ex, []⟩, rfl, _, _, _, hE, hG ds0 rest q hq (by rw [← hl', r.length]), fun as' ρ' σ' H' E z => ?_, fun _ _ _ _ _ z => z.elim, fun _ _ _ _ _ z => z.elim, fun as' ρ' σ' H' r v E B z => ?_⟩
  · obtain ⟨ds', z1, z2⟩ := z
    obtain ⟨g0, ys, g1, g2⟩ := e1 E z1
    exact c (.val .non) .non H' (some ds') g0 (rep_non (K := K) (H := H') (av := fun c => ex c ∨ c = a)) (fun _ e => by cases e; exact ⟨ys, g1, Reps.wk (fun c _ z => z.elim (fun z => z) fun z => z.elim) g2⟩) z2
  · obtain ⟨_, ds', z1, z2⟩ := z
    obtain ⟨g0, ys, g1, g2⟩ := e1 E z1
    cases r with
    | val d =>
      refine c (.val d) v H' (some ds') g0 ?_ (fun _ e => by cases e; exact ⟨ys, g1, Reps.wk (fun c _ z => z.elim (fun z => z) fun z => z.elim) g2⟩) z2
      exact Rep.wk (fun b _ z => z.elim .inl fun z => .inr (.inr (congrArg some z.symm))) (show Rep K H' (Fr.av ⟨K, H, some a, none, ex, []⟩ as') d v from B)
    | slot i => exact B.elim
    | fresh es =>
      obtain ⟨b, xs', rfl, h0, h1, h2, h3⟩ := B
      have h0 : H b = none := by
        rcases h0 with h0 | h0
        · exact h0
        · cases h0
      have nb : ¬ (ex b ∨ b = a) := fun z => z.elim (fun z => hx b z h0) fun z => by rw [z, ha] at h0; cases h0
      obtain ⟨a', ys', k1, k2, k3⟩ := h3 0 ds' z1
      have s0 := E.sl 0
      rw [show (ρ'[0]?.getD Sl.un) = Sl.par ds' from z1] at s0
      obtain ⟨b0, ys0, p1, p2, _, p4, _⟩ := s0
      cases p2
      rw [k1] at p1; cases p1
      rw [g1] at k2; cases k2
      refine c (.fresh es) (.ref b) H' (some ds') g0 ⟨b, xs', rfl, .inl h0, nb, h1, Reps.wk (fun c _ z => z.elim (fun z => z.elim (fun z => .inl (.inl z)) fun z => .inl (.inr (.inr (congrArg some z.symm)))) .inr) h2⟩ (fun _ e => ?_) z2
      cases e
      exact ⟨_, g1, Reps.wk (fun c _ z => z.elim (fun z => z.elim (fun z => .inl (.inl z)) fun z => .inl (.inr (.inr (congrArg some z.symm)))) fun z => .inr (by
        have z : V.ref b = V.ref c := z
        cases z; rfl)) k3⟩
theorem body_wrtB {body : Ss} {n : Nat} {f : VF} {N : List Str} {vs : List V} {H : Hp} {Q : VK} (hk : f.kind = .wrtB) (hG : Good Γ body n (N.length - n) f) (hN : n ≤ N.length) (hl : vs.length = n) (h : ∃ v0 va, vs = [v0, va] ∧ spW K f [va, v0] H Q) :
    ∃ F : Fr, F.K = K ∧ lS F (wSs Γ body) { nx := fun _ H' => Q .non H', rt := Q } (L2.start N vs) H := by
  obtain ⟨v0, va, rfl, a, xs, ds0, rest, vr, ex, q, z0, hx, hna, ha, r0, r, hq, c⟩ := h
  cases z0
  unfold Reps at r
  match rest, r, hq with
  | [d], ⟨v0', r', z0, r1, r2⟩, hq =>
  unfold Reps at r2
  subst r2
  cases z0
  unfold Good at hG
  rw [hk] at hG
  have hl' : 2 = n := hl
  have hE := er_second (N := N) (m := N.length - n) hx hna ha r0 r1 (by rw [← hl']) (by omega)
  have e1 : ∀ {as' : As} {ρ' : En} {σ' : L2.St} {H' : Hp} {ds' : List D}, ER ⟨K, H, some a, none, ex, []⟩ as' σ' H' ρ' → gt ρ' 1 = .par ds' → Ext (fun c => c = a) H H' ∧ ∃ ys, H' a = some (.lst ys) ∧ Reps K H' (fun c => (ex c ∨ c = a)) ds' ys := fun {as' ρ' σ' H' ds'} E z => by
    refine ⟨E.old.mono fun b z => by rcases z with z | z <;> cases z; rfl, ?_⟩
    have s0 := E.sl 1
    change SlAt _ H' as' 1 _ (gt ρ' 1) at s0
    rw [z] at s0
    obtain ⟨b, ys, _, hb, _, g1, g2⟩ := s0
    cases hb
    exact ⟨ys, g1, Reps.wk (fun c _ z => z.elim .inl fun z => .inr (.inr (congrArg some z.symm))) g2⟩
  refine ⟨⟨K, H, some a, none, ex, []⟩, rfl, _, _, _, hE, hG ds0 d q hq hl'.symm, fun as' ρ' σ' H' E z => ?_, fun _ _ _ _ _ z => z.elim, fun _ _ _ _ _ z => z.elim, fun as' ρ' σ' H' r v E B z => ?_⟩
  · obtain ⟨ds', z1, z2⟩ := z
    obtain ⟨g0, ys, g1, g2⟩ := e1 E z1
    exact c (.val .non) .non H' (some ds') g0 (rep_non (K := K) (H := H') (av := fun c => ex c ∨ c = a)) (fun _ e => by cases e; exact ⟨ys, g1, Reps.wk (fun c _ z => z.elim (fun z => z) fun z => z.elim) g2⟩) z2
  · obtain ⟨_, ds', z1, z2⟩ := z
    obtain ⟨g0, ys, g1, g2⟩ := e1 E z1
    cases r with
    | val d =>
      refine c (.val d) v H' (some ds') g0 ?_ (fun _ e => by cases e; exact ⟨ys, g1, Reps.wk (fun c _ z => z.elim (fun z => z) fun z => z.elim) g2⟩) z2
      exact Rep.wk (fun b _ z => z.elim .inl fun z => .inr (.inr (congrArg some z.symm))) (show Rep K H' (Fr.av ⟨K, H, some a, none, ex, []⟩ as') d v from B)
    | slot i => exact B.elim
    | fresh es =>
      obtain ⟨b, xs', rfl, h0, h1, h2, h3⟩ := B
      have h0 : H b = none := by
        rcases h0 with h0 | h0
        · exact h0
        · cases h0
      have nb : ¬ (ex b ∨ b = a) := fun z => z.elim (fun z => hx b z h0) fun z => by rw [z, ha] at h0; cases h0
      obtain ⟨a', ys', k1, k2, k3⟩ := h3 1 ds' z1
      have s0 := E.sl 1
      rw [show (ρ'[1]?.getD Sl.un) = Sl.par ds' from z1] at s0
      obtain ⟨b0, ys0, p1, p2, _, p4, _⟩ := s0
      cases p2
      rw [k1] at p1; cases p1
      rw [g1] at k2; cases k2
      refine c (.fresh es) (.ref b) H' (some ds') g0 ⟨b, xs', rfl, .inl h0, nb, h1, Reps.wk (fun c _ z => z.elim (fun z => z.elim (fun z => .inl (.inl z)) fun z => .inl (.inr (.inr (congrArg some z.symm)))) .inr) h2⟩ (fun _ e => ?_) z2
      cases e
      exact ⟨_, g1, Reps.wk (fun c _ z => z.elim (fun z => z.elim (fun z => .inl (.inl z)) fun z => .inl (.inr (.inr (congrArg some z.symm)))) fun z => .inr (by
        have z : V.ref b = V.ref c := z
        cases z; rfl)) k3⟩
theorem body_give {body : Ss} {n : Nat} {f : VF} {N : List Str} {vs : List V} {H : Hp} {Q : VK} (hk : f.kind = .give) (hG : Good Γ body n (N.length - n) f) (hN : n ≤ N.length) (hl : vs.length = n) (h : spG K f vs H Q) :
    ∃ F : Fr, F.K = K ∧ lS F (wSs Γ body) { nx := fun _ H' => Q .non H', rt := Q } (L2.start N vs) H := by
  obtain ⟨a, xs, ds0, rest, vr, ex, q, rfl, hx, hna, ha, r0, r, hq, c⟩ := h
  unfold Good at hG
  rw [hk] at hG
  have hl' : vr.length + 1 = n := hl
  have hE := er_first (N := N) (m := N.length - n) (s := .own ds0) (M := none) (G := some a) hx hna ha r0 r (by rw [hl']) (by omega) (.inr ⟨rfl, rfl, rfl⟩)
  refine ⟨⟨K, H, none, some a, ex, []⟩, rfl, _, _, _, hE, hG ds0 rest q hq (by rw [← hl', r.length]), fun as' ρ' σ' H' E z => ?_, fun _ _ _ _ _ z => z.elim, fun _ _ _ _ _ z => z.elim, fun as' ρ' σ' H' r v E B z => ?_⟩
  · exact c .non .non H' none (E.old.mono fun b z => by rcases z with z | z <;> cases z; rfl) (rep_non (K := K) (H := H') (av := ex)) z
  · obtain ⟨⟨d, rfl⟩, z2⟩ := z
    refine c d v H' none (E.old.mono fun b z => by rcases z with z | z <;> cases z; rfl) ?_ z2
    exact Rep.wk (fun b _ z => .inl z) (show Rep K H' (Fr.av ⟨K, H, none, some a, ex, []⟩ as') d v from B)
theorem body_all {body : Ss} {n : Nat} {f : VF} {N : List Str} {vs : List V} {H : Hp} {Q : VK} {E : XK} (hG : Good Γ body n (N.length - n) f) (hN : n ≤ N.length) (h : spOf K n f vs H Q E) :
    ∃ F : Fr, F.K = K ∧ lS F (wSs Γ body) { nx := fun _ H' => Q .non H', rt := Q } (L2.start N vs) H := by
  obtain ⟨hl, h⟩ := h
  cases hk : f.kind with
  | read => rw [hk] at h; exact body_read hk hG hN hl h
  | take => rw [hk] at h; exact body_take hk hG hN hl h
  | wrt => rw [hk] at h; exact body_wrt hk hG hN hl h
  | give => rw [hk] at h; exact body_give hk hG hN hl h
  | wrtB => rw [hk] at h; exact body_wrtB hk hG hN hl h
/-- THE RULE for the defs together, each by those ahead of it -/
theorem ent_ok (hb : base.NoSeer) (ht : P.given.tree = none) (hT : ∀ (j : Nat) (e : Ent), T[j]? = some e → EntOk T bs gs j e) (hG : ∀ (j : Nat) (e : Ent), T[j]? = some e → GoodE Γ e)
    (hF : ∀ (j : Nat) (e : Ent), T[j]? = some e → ∃ fd, FunD K e.d.name e.d.qual e.d.params e.d.body e.d.scope [] [] (He.fAd K e.d.at_) fd)
    (hg : ∀ (j : Nat) (e : Ent), T[j]? = some e → mg e.x = some (.ref (He.fAd K e.d.at_))) (hbs : ∀ x ∈ bs, mg x = none) (hgs : ∀ p ∈ gs, ∃ u v, mg p.1 = some u ∧ RelV v u ∧ ∀ H av, Rep K H av p.2 v) :
    ∀ (j : Nat) (e : Ent), T[j]? = some e → ∃ fd, FunD K e.d.name e.d.qual e.d.params e.d.body e.d.scope [] [] (He.fAd K e.d.at_) fd ∧ Binds K fd e.ps [] ∧ FnOk P w K mg base CX0 (41 + j) (He.fAd K e.d.at_) fd e.ps (spOf K e.ps.length (Γ e.id)) := by
  intro j
  induction j using Nat.strongRecOn with
  | ind j ih =>
    intro e he
    obtain ⟨fd, F⟩ := hF j e he
    have O := hT j e he
    have bnd : Binds K fd e.ps [] := F.bindsN O.bnd
    refine ⟨fd, F, bnd, ?_⟩
    have g := hG j e he
    unfold GoodE at g
    cases hst : e.stub with
    | true =>
      rw [hst] at g
      exact ⟨fun vs H Q E h => h.1, fun A outer s H args us vs Q E _ _ _ _ h => absurd h (spOf_none g)⟩
    | false =>
    rw [hst] at g
    have hr0 : ∀ {A : Around}, Room (40 + j) A → Room 40 A := fun h => h.mono (by omega)
    refine cast (by rw [show 41 + j = (40 + j) + 1 by omega]) (F.ok (P := P) (w := w) (mg := mg) (base := base) (CX := CX0) (N := e.N) (ps := e.ps) (k := 40 + j) (sp := spOf K e.ps.length (Γ e.id)) O.sc (fun vs H Q E h => h.1) fun cdv A outer s H vs Q E hr hsp => ?_)
    have hN : e.ps.length ≤ e.N.length := by
      have := congrArg List.length O.sc.pre
      rw [List.length_take] at this
      omega
    obtain ⟨Fr, hK, hw⟩ := body_all g hN hsp
    let X : Cx := (cxOf CX0 P w K mg base e.N e.d.qual e.d.scope (He.fAd K e.d.at_) cdv A outer s H E).nox
    have hO : Ok X Fr := ⟨hK.symm, rfl, O.sc.nd, hr0 hr, hb, ht, ⟨_, outer, rfl, O.sc.gen, O.sc.co, rfl, rfl⟩, fun env => PassesOwn.never⟩
    have hX : Xc Γ X (ccOf T bs gs j e) := by
      refine ⟨rfl, rfl, fun _ _ => rfl, fun f x n h => ?_, hbs, hgs⟩
      obtain ⟨i, e', hf, he', rfl, rfl, rfl⟩ := tabF_at h
      obtain ⟨fd', F', b', G'⟩ := ih i hf e' he'
      exact ⟨41 + i, _, fd', e'.ps, rfl, G', hr.mono (by omega), hg i e' he', F'.kp, b'⟩
    exact ⟨_, PSs.nox (chkSs_ok e.body (O.chk hst) hX hO), hw⟩
end
end VL

/-! VL19: tables, the module's data, the end of a law. -/
namespace VL
open PySem PySem.Spec L2
open PyProof.Rows (IntsAre AllBare importsNone)
/-! ### along a table -/
def Along (P : Nat → Ent → Prop) : Nat → List Ent → Prop
  | _, [] => True
  | i, e :: r => P i e ∧ Along P (i + 1) r
theorem Along.get {P : Nat → Ent → Prop} : ∀ {l : List Ent} {i j : Nat} {e : Ent}, Along P i l → l[j]? = some e → P (i + j) e
  | [], i, j, e, h, q => by cases j <;> cases q
  | a :: r, i, 0, e, h, q => by cases q; exact h.1
  | a :: r, i, j + 1, e, h, q => by
    have := Along.get h.2 (show r[j]? = some e from q)
    rw [show i + (j + 1) = i + 1 + j by omega]
    exact this
theorem Along.at {P : Nat → Ent → Prop} {l : List Ent} (h : Along P 0 l) (j : Nat) (e : Ent) (q : l[j]? = some e) : P j e := by
  have := h.get q
  rwa [Nat.zero_add] at this
def scB (N ps : List Str) (sc : Scope) : Bool := (sc.kind == .function) && !sc.isCoroutine && !sc.isGenerator && decide N.Nodup && decide (N.take ps.length = ps) && ps.all (fun x => sc.names.lookup x == some .local || sc.names.lookup x == some .cell) && sc.names.all fun y => !(y.2 == .free)
theorem kindEq {a b : NameKind} (h : (a == b) = true) : a = b := by
  cases a <;> cases b <;> first | rfl | cases h
theorem scB_ok {N ps : List Str} {sc : Scope} (h : scB N ps sc = true) : FnScope N ps sc := by
  unfold scB at h
  simp only [Bool.and_eq_true, Bool.not_eq_true', decide_eq_true_eq, List.all_eq_true, Bool.or_eq_true] at h
  obtain ⟨⟨⟨⟨⟨⟨h1, h2⟩, h3⟩, h4⟩, h5⟩, h6⟩, h7⟩ := h
  refine ⟨?_, h2, h3, h4, h5, fun x hx => ?_, fun y hy e => ?_⟩
  · revert h1
    cases sc.kind <;> intro z <;> first | rfl | cases z
  · exact (h6 x hx).imp (fun z => eq_of_beq z) fun z => eq_of_beq z
  · have := h7 y hy
    rw [e] at this
    cases this
def entB (T : List Ent) (bs : List Str) (gs : List (Str × D)) : Nat → List Ent → Bool
  | _, [] => true
  | j, e :: r => scB e.N e.ps e.d.scope && (e.stub || chkSs (ccOf T bs gs j e) e.body e.d.body) && entB T bs gs (j + 1) r
def Bnd (e : Ent) : Prop := ∀ (kV doc pm : Value) (an : Option Addr) (cdv ct : Value) (us : List Value), us.length = e.ps.length → bindArgs (PySem.W.fnOf e.d.name e.d.qual e.d.params e.d.body e.d.scope .none kV doc pm an cdv ct) ⟨us, []⟩ = pure (e.ps.zip us)
theorem entB_ok {T : List Ent} {bs : List Str} {gs : List (Str × D)} : ∀ {l : List Ent} {i : Nat}, entB T bs gs i l = true → Along (fun _ e => Bnd e) i l → Along (EntOk T bs gs) i l
  | [], _, _, _ => trivial
  | e :: r, i, h, b => by
    unfold entB at h
    simp only [Bool.and_eq_true] at h
    exact ⟨⟨scB_ok h.1.1, b.1, fun z => by have := h.1.2; rw [z, Bool.false_or] at this; exact this⟩, entB_ok h.2 b.2⟩
/-! ### the module's data -/
mutual
def repV (K : PySem.W.Frag) : D → Value → Bool
  | .non, .none => true
  | .bl b, .bool c => b == c
  | .int i, .int j _ => decide (i = j)
  | .str x, .str y _ => decide (x = y)
  | .tup ds, .ref a => (match K.lookup a with
    | some ⟨.type c, _, .seq its _, _⟩ => decide (c = "tuple") && (decide (its.size ≤ sizeLine) && repVs K ds its.toList)
    | _ => false)
  | _, _ => false
def repVs (K : PySem.W.Frag) : List D → List Value → Bool
  | [], [] => true
  | d :: ds, u :: us => repV K d u && repVs K ds us
  | _, _ => false
end
mutual
theorem repV_ok {K : PySem.W.Frag} : ∀ {d : D} {u : Value}, repV K d u = true → ∃ v, RelV v u ∧ ∀ H av, Rep K H av d v
  | .non, u, h => by
    cases u <;> first | (unfold repV at h; cases h; done) | exact ⟨.non, rfl, fun H av => rep_non⟩
  | .bl b, u, h => by
    cases u <;> first | (unfold repV at h; cases h; done) | skip
    unfold repV at h
    rw [eq_of_beq h]
    exact ⟨.bl _, rfl, fun H av => rep_bl _⟩
  | .int b, u, h => by
    cases u <;> first | (unfold repV at h; cases h; done) | skip
    unfold repV at h
    rw [of_decide_eq_true h]
    exact ⟨.int _, ⟨_, rfl⟩, fun H av => rep_int _⟩
  | .str b, u, h => by
    cases u <;> first | (unfold repV at h; cases h; done) | skip
    unfold repV at h
    rw [of_decide_eq_true h]
    exact ⟨.str _, ⟨_, rfl⟩, fun H av => rep_str _⟩
  | .tup ds, u, h => by
    cases u <;> first | (unfold repV at h; cases h; done) | skip
    rename_i a
    unfold repV at h
    split at h
    · rename_i c od its n osl q
      simp only [Bool.and_eq_true, decide_eq_true_eq] at h
      obtain ⟨h1, h2, h3⟩ := h
      obtain ⟨vs, r1, r2⟩ := repVs_ok h3
      refine ⟨.ref a, rfl, fun H av => rep_tup (.inr ⟨_, its, n, q, congrArg Value.type h1, rfl, h2, r1⟩) (r2 H av)⟩
    · cases h
  | .lst ds, u, h => by cases u <;> (unfold repV at h; cases h)
  | .fix ds, u, h => by cases u <;> (unfold repV at h; cases h)
theorem repVs_ok {K : PySem.W.Frag} : ∀ {ds : List D} {us : List Value}, repVs K ds us = true → ∃ vs, Vals vs us ∧ ∀ H av, Reps K H av ds vs
  | [], us, h => by
    cases us with
    | nil => exact ⟨[], .nil, fun H av => by unfold Reps; rfl⟩
    | cons u us => unfold repVs at h; cases h
  | d :: ds, us, h => by
    cases us with
    | nil => unfold repVs at h; cases h
    | cons u us =>
      unfold repVs at h
      rw [Bool.and_eq_true] at h
      obtain ⟨v, r1, r2⟩ := repV_ok h.1
      obtain ⟨vs, q1, q2⟩ := repVs_ok h.2
      exact ⟨v :: vs, .cons r1 q1, fun H av => by unfold Reps; exact ⟨v, vs, rfl, r2 H av, q2 H av⟩⟩
end
def cstB (K : PySem.W.Frag) (p : Str × D) : Bool := match PySem.W.nsIn K mainGlobals p.1 with
  | some (some u) => repV K p.2 u
  | _ => false
theorem cstB_ok {K : PySem.W.Frag} {h : Heap} {mg : Str → Option Value} (X : K.In h) (G : h.Ns mainGlobals mg) {p : Str × D} (c : cstB K p = true) : ∃ u v, mg p.1 = some u ∧ RelV v u ∧ ∀ H av, Rep K H av p.2 v := by
  unfold cstB at c
  cases e : PySem.W.nsIn K mainGlobals p.1 with
  | none => rw [e] at c; cases c
  | some o =>
    rw [e] at c
    cases o with
    | none => cases c
    | some u =>
      obtain ⟨v, r1, r2⟩ := repV_ok c
      exact ⟨u, v, PySem.W.mg_of X G e, r1, r2⟩
/-! ### the head's facts: the defs, the builtins that stand, the data -/
def faOf (T : List Ent) (bs : List Str) : List He.Fa := T.map (fun e => .glo e.x) ++ bs.map .free
abbrev AlV : Type := He.AlD × Bool
def obsV (n : Nat) (T : List Ent) (bs : List Str) (gs : List (Str × D)) (g : Addr → Option Obj) : AlV := (He.obsD (faOf T bs) (T.map (·.d)) (He.frG g (He.asD g n)), gs.all (cstB (He.frG g (He.asD g n))))
def SaysV (T : List Ent) (bs : List Str) (gs : List (Str × D)) (K : PySem.W.Frag) : Prop := He.SaysD (faOf T bs) (T.map (·.d)) K ∧ gs.all (cstB K) = true
def hookV (n : Nat) (T : List Ent) (bs : List Str) (gs : List (Str × D)) : PySem.W.Hook where
  α := AlV
  obs := fun s => obsV n T bs gs s.heap.get?
  val := fun _ => (He.valD (T.map (·.d)), true)
  says := fun _ h => ∃ K : PySem.W.Frag, K.In h ∧ SaysV T bs gs K
  of := fun _ s e => by
    have e1 : (obsV n T bs gs s.heap.get?).1 = He.valD (T.map (·.d)) := congrArg (fun z : AlV => z.1) e
    have e2 : (obsV n T bs gs s.heap.get?).2 = true := congrArg (fun z : AlV => z.2) e
    exact ⟨He.frG s.heap.get? (He.asD s.heap.get? n), He.frG_in, e1, e2⟩
  keeps := fun _ _ _ ⟨K, hK, c⟩ k => ⟨K, PySem.W.Frag.In.keeps hK k, c⟩
theorem obsV_eq {n : Nat} {T : List Ent} {bs : List Str} {gs : List (Str × D)} {g : Addr → Option Obj} {s : Shared} (h : ∀ a, g a = s.heap.get? a) : obsV n T bs gs g = (hookV n T bs gs).obs s := by
  have e : g = s.heap.get? := funext h
  rw [e]
  rfl
/-- each def asks for no default and stands at a name of the module -/
def PlainE (T : List Ent) : Prop := ∀ e ∈ T, e.d.dfl = [] ∧ e.d.kwd = [] ∧ e.d.at_.2 = none
section
variable {P : Program} {w : World} {K : PySem.W.Frag} {mg : Str → Option Value} {h base : Heap} {T : List Ent} {Γ : Nat → VF} {bs : List Str} {gs : List (Str × D)}
theorem says_fn (X : K.In h) (G : h.Ns mainGlobals mg) (hp : PlainE T) (c : SaysV T bs gs K) (j : Nat) (e : Ent) (he : T[j]? = some e) :
    (∃ fd, FunD K e.d.name e.d.qual e.d.params e.d.body e.d.scope [] [] (He.fAd K e.d.at_) fd) ∧ mg e.x = some (.ref (He.fAd K e.d.at_)) := by
  obtain ⟨p1, p2, p3⟩ := hp e (List.mem_of_getElem? he)
  have g := c.1.fact j (f := .glo e.x) (by
    unfold faOf
    rw [List.getElem?_append_left (by rw [List.length_map]; exact (List.getElem?_eq_some_iff.mp he).1), List.getElem?_map, he]
    rfl)
  have g2 := He.glo_ok X G g
  obtain ⟨fd, F⟩ := c.1.def_ j (d := e.d) (by rw [List.getElem?_map, he]; rfl)
  have e1 : e.d.dvs K = [] := by unfold He.DefD.dvs; rw [p1]; rfl
  have e2 : e.d.kws K = [] := by unfold He.DefD.kws; rw [p2]; rfl
  rw [e1, e2] at F
  refine ⟨⟨fd, F⟩, g2.trans ?_⟩
  unfold He.fAd
  rw [p3]
  rfl
theorem says_free (X : K.In h) (G : h.Ns mainGlobals mg) (c : SaysV T bs gs K) (x : Str) (hx : x ∈ bs) : mg x = none := by
  obtain ⟨i, hi⟩ := List.getElem?_of_mem hx
  refine He.free_ok X G (c.1.fact (T.length + i) (f := .free x) ?_)
  unfold faOf
  rw [List.getElem?_append_right (by rw [List.length_map]; omega), List.length_map, Nat.add_sub_cancel_left, List.getElem?_map, hi]
  rfl
theorem says_gs (X : K.In h) (G : h.Ns mainGlobals mg) (c : SaysV T bs gs K) (p : Str × D) (hx : p ∈ gs) : ∃ u v, mg p.1 = some u ∧ RelV v u ∧ ∀ H av, Rep K H av p.2 v :=
  cstB_ok X G (List.all_eq_true.mp c.2 p hx)
end
/-! ### the end -/
theorem seer_hid {s : Shared} {H : Hp} {a : Addr} {vs : List Value} (hN : s.heap.NoSeer) (ha : s.heap.get? a = some { cls := .type "list", data := .seq vs.toArray }) (hA : ∀ b, H b ≠ none → b = a) : (hidT s.heap H).NoSeer := by
  have keep : ∀ {b : Addr} {o : Obj}, s.heap.get? b = some o → b ≠ a → (hidT s.heap H).get? b = some o := fun {b o} e n => hidT_get e (by
    cases q : H b with
    | none => rfl
    | some u => exact absurd (hA b (by rw [q]; exact fun z => nomatch z)) n)
  have ns : ∀ {b : Addr} {m : Str → Option Value}, s.heap.Ns b m → (hidT s.heap H).Ns b m := fun {b m} ⟨o, es, ep, e, d, r⟩ => ⟨o, es, ep, keep e (fun z => by
    subst z
    rw [ha] at e
    cases e
    have d2 : Data.seq vs.toArray _ = Data.dict es ep := d
    cases d2), d, r⟩
  obtain ⟨⟨mc, q1, q2⟩, ⟨mm, q3, q4⟩, ⟨mb, q5, q6⟩, ⟨mg, bm, ob, q7, q8, q9, q10, q11⟩⟩ := hN
  refine ⟨⟨mc, ns q1, q2⟩, ⟨mm, ns q3, q4⟩, ⟨mb, ns q5, q6⟩, ⟨mg, bm, ob, ns q7, q8, keep q9 fun z => ?_, q10, q11⟩⟩
  subst z
  rw [ha] at q9
  cases q9
  have d2 : (none : Option Addr) = some builtinsNs := q11
  cases d2
/-- the law called: as the head of the kit, with what a division of great numbers asks -/
theorem end_call {P : Program} {w : World} {K : PySem.W.Frag} {mg mb : Str → Option Value} {k : Nat} {fa a : Addr} {fd : FuncData} {x : Str} {sp : Sp} {t : Shared} {us : List Value} {ns : List Int}
    (inK : K.In t.heap) (gNs : t.heap.Ns mainGlobals mg) (bNs : t.heap.Ns builtinsNs mb) (bAll : ∀ y : Str, y ≠ "__name__" → mb y = bootBuiltins y) (noLim : t.heap.NoLimit) (seer : t.heap.NoSeer) (noGen : t.gens = #[])
    (hob : t.heap.get? a = some { cls := .type "list", data := .seq us.toArray }) (hin : IntsAre us ns) (hle : ns.length ≤ sizeLine) (room : Room k callerA)
    (prom : ∀ base : Heap, K.In base → base.Ns mainGlobals mg → base.NoSeer → FnOk P w K mg base CX0 k fa fd [x] sp) (bind1 : ∀ (s : Shared) (u : Value), BindsTo s fd ⟨[u], []⟩ [(x, u)])
    (wish : ∀ H : Hp, FixAt K H a (ns.map V.int) → sp [.ref a] H (fun v _ => v = .bl true) fun _ _ _ => False) :
    codeAny (model P w) callerA (.call (.ref fa) ⟨[.ref a], []⟩) (fun r s' => r = .ok (.ret (.bool true)) ∧ OldK t.heap s'.heap ∧ s'.os = t.os ∧ AllBare s'.gens) t := by
  have valsI := vals_ints hin
  have many := hin.length
  have main : ∀ H : Hp, Only H → FixAt K H a (ns.map V.int) → HOk P w H t.heap → (∀ b, H b ≠ none → b = a) → (H a ≠ none → K.lookup a = none) →
      codeAny (model P w) callerA (.call (.ref fa) ⟨[.ref a], []⟩) (fun r s' => r = .ok (.ret (.bool true)) ∧ OldK t.heap s'.heap ∧ s'.os = t.os ∧ AllBare s'.gens) t := by
    intro H only sq okH one offK
    have stay : ∀ {b : Addr} {o : Obj}, t.heap.get? b = some o → b ≠ a → (hidT t.heap H).get? b = some o := fun {b o} e n => hidT_get e (by
      cases q : H b with
      | none => rfl
      | some u => exact absurd (one b (by rw [q]; exact fun z => nomatch z)) n)
    have isDict : ∀ {b : Addr} {m : Str → Option Value}, t.heap.Ns b m → (hidT t.heap H).Ns b m := fun {b m} ⟨o, es, ep, e, d, r⟩ => ⟨o, es, ep, stay e (fun z => by
      subst z
      rw [hob] at e
      cases e
      have d2 : Data.seq us.toArray _ = Data.dict es ep := d
      cases d2), d, r⟩
    have kIn : K.In (hidT t.heap H) := fun b o e => by
      cases q : H b with
      | none => exact hidT_get (inK b o e) q
      | some u =>
        have z := one b (by rw [q]; exact fun z => nomatch z)
        subst z
        have z2 := offK (by rw [q]; exact fun z => nomatch z)
        rw [z2] at e
        cases e
    have modK : Mod K mg (hidT t.heap H) := ⟨kIn, isDict gNs, ⟨mb, isDict bNs, bAll⟩, let ⟨mc, z1, z2⟩ := noLim; ⟨mc, isDict z1, z2⟩⟩
    have env0 : Env0 P w K mg (hidT t.heap H) callerA [] t H := ⟨rfl, modK, fun b o e => of_hidT e, Nat.le_of_eq (hidT_size _ _), trivial, fun b hb => absurd (show b ∈ ([] : List Addr) from hb) (by simp), okH, .of_eq noGen⟩
    have run := (prom _ kIn (isDict gNs) (seer_hid seer hob one)).run callerA [] t H ⟨[.ref a], []⟩ [.ref a] [.ref a] _ _ room env0 (bind1 t (.ref a)) (.cons rfl .nil) (wish H sq)
    refine codeAny_mono run fun r s' z => ?_
    cases r with
    | error e => exact False.elim z
    | ok fl =>
      cases fl with
      | ret u =>
        obtain ⟨v, H', os, bare, un, okH', rel, e⟩ := z
        have e : v = .bl true := e
        subst e
        obtain rfl : u = Value.bool true := rel
        refine ⟨rfl, OldK.of_keep fun b o eb => ?_, os, bare⟩
        cases q : H b with
        | none => exact un.keep b o eb q (by intro z; exact absurd (show b ∈ ([] : List Addr) from z) (by simp)) (by simp)
        | some hv =>
          rcases only b with z | ⟨ob, xs, z⟩
          · rw [q] at z; cases z
          · obtain ⟨e1, _⟩ := okH b _ z
            obtain ⟨e2, _⟩ := okH' b _ (un.frzs b ob _ z)
            rw [eb] at e1; cases e1
            exact e2
      | next => exact False.elim z
      | brk => exact False.elim z
      | cont => exact False.elim z
  cases q : K.lookup a with
  | some o =>
    have e := inK a o q
    rw [hob] at e
    cases e
    exact main (fun _ => none) (fun _ => .inl rfl) (.inr ⟨_, us.toArray, _, q, rfl, rfl, rfl, by rw [List.size_toArray, many]; exact hle, by simpa using valsI⟩) (fun b u z => by cases (show (none : Option HO) = some u from z)) (fun b z => absurd rfl z) fun z => absurd rfl z
  | none =>
    have at1 : ∀ {b : Addr} {u : HO}, (if b = a then some (HO.frz { cls := .type "list", data := .seq us.toArray } (.lst (ns.map V.int))) else none) = some u → b = a ∧ u = .frz { cls := .type "list", data := .seq us.toArray } (.lst (ns.map V.int)) := fun {b u} z => by
      by_cases e : b = a
      · rw [if_pos e] at z; cases z; exact ⟨e, rfl⟩
      · rw [if_neg e] at z; cases z
    refine main (fun b => if b = a then some (.frz { cls := .type "list", data := .seq us.toArray } (.lst (ns.map V.int))) else none) (fun b => ?_) (.inl ⟨{ cls := .type "list", data := .seq us.toArray }, if_pos rfl⟩) (fun b u z => ?_) (fun b z => ?_) fun _ => q
    · by_cases e : b = a
      · exact .inr ⟨_, _, if_pos e⟩
      · exact .inl (if_neg e)
    · obtain ⟨rfl, rfl⟩ := at1 z
      exact ⟨hob, by rw [List.length_map]; exact hle, us, _, valsI, hob⟩
    · by_cases e : b = a
      · exact e
      · exact absurd (if_neg e) z
/-- what a law's own number promises -/
def lawVF (n : Nat) : VF := ⟨.read, fun ds q => ∃ ns : List Int, ds = [.fix (ns.map D.int)] ∧ ns.length ≤ n ∧ (∀ z ∈ ns, Builtin.Int.intBits z ≤ 1048576) ∧ q (.val (.bl true)) none⟩
theorem reps_ints {K : PySem.W.Frag} {H : Hp} {av : Addr → Prop} : ∀ ns : List Int, Reps K H av (ns.map D.int) (ns.map V.int)
  | [] => by unfold Reps; rfl
  | n :: r => by
    show Reps K H av (D.int n :: r.map D.int) (V.int n :: r.map V.int)
    unfold Reps
    exact ⟨_, _, rfl, rep_int n, reps_ints r⟩
theorem law_end {l : PySem.W.OpenLaw} {n L : Nat} {q : Program} {loose : List Str} {XP : (Str → Option Value) → Heap → Prop} {d : DefRec} {T : List Ent} {Γ : Nat → VF} {bs : List Str} {gs : List (Str × D)} {hops : Nat} {e : Ent} {x : Str}
    (hn : l.most = some n) (hn2 : n ≤ sizeLine) (hdf : d.params.defaults = []) (hr : Room (41 + L) callerA) (ht : l.prog.given.tree = none) (hi : importsNone q = true) (hp : PlainE T) (hT : Along (EntOk T bs gs) 0 T)
    (hG : ∀ (j : Nat) (e : Ent), T[j]? = some e → GoodE Γ e) (hL : T[L]? = some e) (hx : e.x = d.name) (hps : e.ps = [x]) (hΓ : Γ e.id = lawVF n) :
    PySem.W.WalkO q loose XP (hookV hops T bs gs).says l.row.toRowW d [] (fun f vs => PySem.call f vs) := by
  refine Att.attach_callB hn hdf fun w s₀ s₁ mg mb fa o pm cd doc a vs ns G Y ho hd hcd hmg hobj hints hlen hbits hg => ?_
  obtain ⟨K, KX, c⟩ := Y
  obtain ⟨⟨fd, F⟩, g⟩ := says_fn KX G.T.g hp c L e hL
  have hfa : fa = He.fAd K e.d.at_ := by
    rw [hx, hmg] at g
    cases g
    rfl
  subst hfa
  have ok : ∀ base : Heap, base.NoSeer → ∃ fd, FunD K e.d.name e.d.qual e.d.params e.d.body e.d.scope [] [] (He.fAd K e.d.at_) fd ∧ Binds K fd e.ps [] ∧ FnOk l.prog w K mg base CX0 (41 + L) (He.fAd K e.d.at_) fd e.ps (spOf K e.ps.length (Γ e.id)) := fun base hb =>
    ent_ok hb ht (fun j e he => hT.at j e he) hG (fun j e he => (says_fn KX G.T.g hp c j e he).1) (fun j e he => (says_fn KX G.T.g hp c j e he).2) (fun x hx => says_free KX G.T.g c x hx) (fun p hp => says_gs KX G.T.g c p hp) L e hL
  have one : ∀ {fd' : FuncData}, FunD K e.d.name e.d.qual e.d.params e.d.body e.d.scope [] [] (He.fAd K e.d.at_) fd' → fd' = fd := fun {fd'} F' => by
    obtain ⟨oc, od, dV, kV, dc, pm, an, cdv, ct, osl, z1, z2, _⟩ := F.ex
    obtain ⟨oc', od', dV', kV', dc', pm', an', cdv', ct', osl', z1', z2', _⟩ := F'.ex
    rw [z2] at z2'
    cases z2'
    rfl
  refine end_call (x := x) (k := 41 + L) (fd := fd) (sp := spOf K e.ps.length (Γ e.id)) KX G.T.g G.T.b G.T.builtins G.T.nolimit (G.T.seer hi) hg hobj hints (Nat.le_trans hlen hn2) hr (fun base _ _ hb => ?_) (fun s u => ?_) fun H hS => ?_
  · obtain ⟨fd', F', _, z⟩ := ok base hb
    cases one F'
    rw [← hps]
    exact z
  · have := F.bindsA (hT.at L e hL).bnd s [u] (by rw [hps]; rfl)
    rw [hps] at this
    exact this
  · rw [hΓ, hps]
    refine ⟨rfl, [.fix (ns.map D.int)], (fun _ => False), fun r o => r = .val (.bl true), fun b z => z.elim, ?_, ⟨ns, rfl, hlen, hbits, rfl⟩, fun r v H' o _ hq hr => ?_⟩
    · unfold Reps
      exact ⟨.ref a, [], rfl, by unfold Rep; exact ⟨a, _, rfl, hS, reps_ints ns⟩, by unfold Reps; rfl⟩
    · subst hr
      have z2 : Rep K H' (fun _ => False) (.bl true) v := hq
      unfold Rep at z2
      exact z2
end VL

/-! VL20: words for texts as terms. -/
namespace VL
def ss : List S → Ss
  | [] => .nil
  | s :: r => .cons s (ss r)
end VL

/-! VL21: whole numbers, fractions as data. -/
namespace VL
open PySem PySem.Spec L2
theorem mul_ok {i j : Int} {a b : Nat} (ha : i.natAbs < 2 ^ a) (hb : j.natAbs < 2 ^ b) (h : a + b ≤ 134217728) : MulOk i j := by
  have x := PyProof.Rows.intBits_le ha
  have y := PyProof.Rows.intBits_le hb
  have z : Builtin.Int.intTooBig ((Builtin.Int.intBits i : Nat) + (Builtin.Int.intBits j : Nat) : Int) = false := by
    unfold Builtin.Int.intTooBig
    refine decide_eq_false ?_
    have e : ((bitsLine : Nat) : Int) = 134217728 := by decide
    rw [e]
    omega
  show ¬ (_ = true)
  rw [z]
  simp
theorem fmod_lt (x y : Int) (h : y ≠ 0) : (x.fmod y).natAbs < y.natAbs := by
  rcases Int.lt_or_gt_of_ne h with h1 | h1
  · have a := Int.fmod_nonneg_of_pos (-x) (b := -y) (by omega)
    have b := Int.fmod_lt_of_pos (-x) (b := -y) (by omega)
    rw [Int.neg_fmod_neg] at a b
    omega
  · have a := Int.fmod_nonneg_of_pos x h1
    have b := Int.fmod_lt_of_pos x h1
    omega
theorem gcd_step (x y : Int) : Int.gcd y (x.fmod y) = Int.gcd x y := by
  rw [Int.fmod_def, Int.gcd_sub_mul_left_right, Int.gcd_comm]
/-- a fraction as the program has it -/
def dR (r : Rat) : D := .tup [.int r.num, .int r.den]
theorem divInt_num {a b : Int} (h : b ≠ 0) : (Rat.divInt a b).num = a.fdiv (if b < 0 then -(Int.gcd a b : Int) else Int.gcd a b) := by
  have hg : ((Int.gcd a b : Nat) : Int) ∣ a := Int.gcd_dvd_left ..
  have hp : 0 < (Int.gcd a b : Int) := by
    have : Int.gcd a b ≠ 0 := fun z => h (Int.gcd_eq_zero_iff.mp z).2
    omega
  rw [Rat.num_divInt, Int.gcd_comm b a]
  split
  · rename_i hb
    rw [Int.sign_eq_neg_one_of_neg hb, Int.fdiv_eq_ediv_of_dvd (Int.neg_dvd.mpr hg), Int.ediv_neg]
    rw [Int.neg_mul, Int.one_mul, Int.neg_ediv_of_dvd hg]
  · rename_i hb
    rw [Int.sign_eq_one_of_pos (by omega), Int.one_mul, Int.fdiv_eq_ediv_of_dvd hg]
theorem divInt_den {a b : Int} (h : b ≠ 0) : ((Rat.divInt a b).den : Int) = b.fdiv (if b < 0 then -(Int.gcd a b : Int) else Int.gcd a b) := by
  have hg : ((Int.gcd a b : Nat) : Int) ∣ b := Int.gcd_dvd_right ..
  rw [Rat.den_divInt, if_neg h, Int.gcd_comm b a]
  split
  · rename_i hb
    rw [Int.fdiv_eq_ediv_of_dvd (Int.neg_dvd.mpr hg), Int.ediv_neg, Int.natCast_ediv]
    rw [show ((b.natAbs : Nat) : Int) = -b by omega, Int.neg_ediv_of_dvd hg]
  · rename_i hb
    rw [Int.fdiv_eq_ediv_of_dvd hg, Int.natCast_ediv]
    rw [show ((b.natAbs : Nat) : Int) = b by omega]
/-- a fraction of few bits -/
def RB' (n : Nat) (r : Rat) : Prop := r.num.natAbs < 2 ^ n ∧ r.den < 2 ^ n
theorem add_divInt (p r : Rat) : Rat.divInt (p.num * r.den + r.num * p.den) (p.den * r.den) = p + r := by
  rw [Rat.add_def', ← Rat.divInt_ofNat]
  congr 1
theorem sub_divInt (p r : Rat) : Rat.divInt (p.num * r.den - r.num * p.den) (p.den * r.den) = p - r := by
  rw [Rat.sub_def', ← Rat.divInt_ofNat]
  congr 1
theorem mul_divInt (p r : Rat) : Rat.divInt (p.num * r.num) (p.den * r.den) = p * r := by
  rw [Rat.mul_def', ← Rat.divInt_ofNat]
  congr 1
theorem div_divInt (p r : Rat) : Rat.divInt (p.num * r.den) (p.den * r.num) = p / r := by
  rw [Rat.div_def, Rat.inv_def]
  conv => rhs; rw [← Rat.num_divInt_den p, Rat.divInt_mul_divInt]
theorem den_ne (r : Rat) : (r.den : Int) ≠ 0 := by have := r.den_nz; omega
theorem den_p (r : Rat) : (0 : Int) < r.den := by have := r.den_pos; omega
/-- two fractions are the same -/
theorem dR_eq {a b : Int} (r : Rat) (h : b ≠ 0) (q : r.num * b = a * r.den) : r = Rat.divInt a b := by
  rw [← Rat.num_divInt_den r, Rat.divInt_eq_divInt_iff (den_ne r) h]
  exact q
theorem of_divInt {a b : Int} (h : b ≠ 0) : (Rat.divInt a b).num * b = a * (Rat.divInt a b).den := by
  have := (Rat.divInt_eq_divInt_iff (n₁ := (Rat.divInt a b).num) (n₂ := a) (den_ne (Rat.divInt a b)) h).mp (Rat.num_divInt_den _)
  exact this
end VL
namespace VL
open PySem PySem.Spec L2
theorem mul_l {i j : Int} (h : i.natAbs < 2 ^ 64) : MulOk i j := IntMulOk.of_left (PyProof.Rows.intBits_le h)
theorem mul_r {i j : Int} (h : j.natAbs < 2 ^ 64) : MulOk i j := IntMulOk.of_right (PyProof.Rows.intBits_le h)
theorem rngs_at {n k : Nat} {d : D} (h : (rngs 0 n 1)[k]? = some d) : d = .int k ∧ k < n := by
  unfold rngs at h
  rw [List.getElem?_map] at h
  by_cases hk : k < n
  · rw [List.getElem?_range hk] at h
    cases h
    refine ⟨?_, hk⟩
    show D.int (0 + (k : Int) * 1) = D.int k
    rw [Int.mul_one, Int.zero_add]
  · rw [List.getElem?_eq_none (by simp; omega)] at h
    cases h
theorem rngs_length (lo : Int) (n : Nat) (c : Int) : (rngs lo n c).length = n := by unfold rngs; simp
theorem dec_t {p : Prop} [Decidable p] (h : decide p = true) : p := of_decide_eq_true h
theorem dec_f {p : Prop} [Decidable p] (h : decide p = false) : ¬ p := of_decide_eq_false h
theorem not_t {b : Bool} (h : (!b) = true) : b = false := by cases b <;> first | rfl | cases h
theorem not_f {b : Bool} (h : (!b) = false) : b = true := by cases b <;> first | rfl | cases h
/-- 1 * 2 * .. : sizes -/
theorem abs_mul {i j : Int} {a b : Nat} (ha : i.natAbs < 2 ^ a) (hb : j.natAbs < 2 ^ b) : (i * j).natAbs < 2 ^ (a + b) := by
  rw [Int.natAbs_mul, Nat.pow_add]
  exact Nat.mul_lt_mul'' ha hb
theorem abs_add {i j : Int} {a : Nat} (ha : i.natAbs < 2 ^ a) (hb : j.natAbs < 2 ^ a) : (i + j).natAbs < 2 ^ (a + 1) := by
  rw [Nat.pow_succ]
  omega
theorem abs_sub {i j : Int} {a : Nat} (ha : i.natAbs < 2 ^ a) (hb : j.natAbs < 2 ^ a) : (i - j).natAbs < 2 ^ (a + 1) := by
  rw [Nat.pow_succ]
  omega
theorem abs_le {i : Int} {a b : Nat} (ha : i.natAbs < 2 ^ a) (h : a ≤ b) : i.natAbs < 2 ^ b := Nat.lt_of_lt_of_le ha (Nat.pow_le_pow_right (by decide) h)
theorem abs_nat {i a : Nat} (h : i < 2 ^ a) : ((i : Nat) : Int).natAbs < 2 ^ a := by simpa using h
end VL

/-! M1: numbers: shared to power; the laws' own draws. -/
namespace M1
open PySem PySem.Spec L2 VL
abbrev f_shared : Nat := 0
abbrev f_ratio : Nat := 1
abbrev f_plus : Nat := 2
abbrev f_minus : Nat := 3
abbrev f_times : Nat := 4
abbrev f_over : Nat := 5
abbrev f_before : Nat := 6
abbrev f_floor_of : Nat := 7
abbrev f_whole_power : Nat := 8
abbrev f_power0 : Nat := 9
abbrev f_power1 : Nat := 10
abbrev f_power : Nat := 11
abbrev f_law_box : Nat := 12
abbrev f_law_take : Nat := 13
abbrev f_law_lowest : Nat := 14
abbrev f_law_number : Nat := 15
abbrev f_law_is_number : Nat := 16
/-- shared: 0 one, 1 other, 2 rest -/
def b_shared : Ss := ss [.whl (.cmp .ne (.var 1) (.int 0)) (ss [.asg 2 (.bin .mod (.var 0) (.var 1)),
  .asg 0 (.var 1),
  .asg 1 (.var 2)]),
  .ret (.blt .abs (.cons (.var 0) .nil))]
/-- ratio: 0 top, 1 bottom, 2 by -/
def b_ratio : Ss := ss [.asg 2 (.call f_shared (.cons (.var 0) (.cons (.var 1) .nil))),
  .ite (.cmp .lt (.var 1) (.int 0)) (ss [.asg 2 (.neg (.var 2))]) (ss []),
  .ret (.tup (.cons (.bin .fdiv (.var 0) (.var 2)) (.cons (.bin .fdiv (.var 1) (.var 2)) .nil)))]
/-- plus: 0 one, 1 other -/
def b_plus : Ss := ss [.ret (.call f_ratio (.cons (.bin .add (.bin .mul (.ix (.var 0) (.int 0)) (.ix (.var 1) (.int 1))) (.bin .mul (.ix (.var 1) (.int 0)) (.ix (.var 0) (.int 1)))) (.cons (.bin .mul (.ix (.var 0) (.int 1)) (.ix (.var 1) (.int 1))) .nil)))]
/-- minus: 0 one, 1 other -/
def b_minus : Ss := ss [.ret (.call f_ratio (.cons (.bin .sub (.bin .mul (.ix (.var 0) (.int 0)) (.ix (.var 1) (.int 1))) (.bin .mul (.ix (.var 1) (.int 0)) (.ix (.var 0) (.int 1)))) (.cons (.bin .mul (.ix (.var 0) (.int 1)) (.ix (.var 1) (.int 1))) .nil)))]
/-- times: 0 one, 1 other -/
def b_times : Ss := ss [.ret (.call f_ratio (.cons (.bin .mul (.ix (.var 0) (.int 0)) (.ix (.var 1) (.int 0))) (.cons (.bin .mul (.ix (.var 0) (.int 1)) (.ix (.var 1) (.int 1))) .nil)))]
/-- over: 0 one, 1 other -/
def b_over : Ss := ss [.ret (.call f_ratio (.cons (.bin .mul (.ix (.var 0) (.int 0)) (.ix (.var 1) (.int 1))) (.cons (.bin .mul (.ix (.var 0) (.int 1)) (.ix (.var 1) (.int 0))) .nil)))]
/-- before: 0 one, 1 other -/
def b_before : Ss := ss [.ret (.cmp .lt (.bin .mul (.ix (.var 0) (.int 0)) (.ix (.var 1) (.int 1))) (.bin .mul (.ix (.var 1) (.int 0)) (.ix (.var 0) (.int 1))))]
/-- floor_of: 0 one -/
def b_floor_of : Ss := ss [.ret (.bin .fdiv (.ix (.var 0) (.int 0)) (.ix (.var 0) (.int 1)))]
/-- law_box: 0 law_script, 1 law_k, 2 law_cell, 3 law_plain -/
def b_law_box : Ss := ss [.asg 2 (.int 0),
  .ite (.cmp .lt (.var 1) (.blt .len (.cons (.var 0) .nil))) (ss [.asg 2 (.ix (.var 0) (.var 1))]) (ss []),
  .asg 3 (.and (.cmp .gt (.blt .len (.cons (.var 0) .nil)) (.int 0)) (.cmp .eq (.bin .mod (.ix (.var 0) (.int 0)) (.int 2)) (.int 0))),
  .ret (.lst (.cons (.bin .mul (.blt .abs (.cons (.var 2) .nil)) (.blt .int (.cons (.var 3) .nil))) (.cons (.blt .abs (.cons (.var 2) .nil)) (.cons (.bin .mul (.int 7) (.var 1)) .nil))))]
/-- law_take: 0 law_box_here, 1 law_many, 2 law_digit, 3 law_m -/
def b_law_take : Ss := ss [.ite (.cmp .gt (.ix (.var 0) (.int 0)) (.int 0)) (ss [.asg 2 (.bin .mod (.ix (.var 0) (.int 0)) (.var 1)),
  .sub 0 (.int 0) (.bin .fdiv (.ix (.var 0) (.int 0)) (.var 1)),
  .ret (.var 2)]) (ss []),
  .sub 0 (.int 2) (.bin .add (.ix (.var 0) (.int 2)) (.int 1)),
  .asg 3 (.bin .add (.bin .mod (.ix (.var 0) (.int 1)) (.int 2305843009213693951)) (.int 3)),
  .asg 3 (.bin .mod (.bin .mul (.var 3) (.bin .add (.int 48271) (.bin .mul (.ix (.var 0) (.int 2)) (.ix (.var 0) (.int 2))))) (.int 2305843009213693921)),
  .asg 3 (.bin .mod (.bin .mul (.var 3) (.bin .add (.bin .add (.bin .mod (.var 3) (.int 1000003)) (.bin .mul (.ix (.var 0) (.int 2)) (.int 69621))) (.int 11))) (.int 2305843009213693907)),
  .ret (.bin .mod (.bin .add (.bin .fdiv (.bin .mul (.var 3) (.var 3)) (.int 97)) (.bin .fdiv (.var 3) (.int 31))) (.var 1))]
/-- law_lowest: 0 law_top, 1 law_bottom, 2 law_one, 3 law_other -/
def b_law_lowest : Ss := ss [.par [2, 3] (.cons (.blt .abs (.cons (.var 0) .nil)) (.cons (.var 1) .nil)),
  .whl (.cmp .gt (.var 3) (.int 0)) (ss [.par [2, 3] (.cons (.var 3) (.cons (.bin .mod (.var 2) (.var 3)) .nil))]),
  .ret (.tup (.cons (.bin .fdiv (.var 0) (.var 2)) (.cons (.bin .fdiv (.var 1) (.var 2)) .nil)))]
/-- law_number: 0 law_box_here, 1 law_kind -/
def b_law_number : Ss := ss [.asg 1 (.call f_law_take (.cons (.var 0) (.cons (.int 5) .nil))),
  .ite (.cmp .eq (.var 1) (.int 0)) (ss [.ret (.tup (.cons (.bin .sub (.call f_law_take (.cons (.var 0) (.cons (.int 19) .nil))) (.int 9)) (.cons (.int 1) .nil)))]) (ss []),
  .ite (.cmp .eq (.var 1) (.int 1)) (ss [.ret (.call f_law_lowest (.cons (.bin .sub (.call f_law_take (.cons (.var 0) (.cons (.int 19) .nil))) (.int 9)) (.cons (.bin .add (.int 1) (.call f_law_take (.cons (.var 0) (.cons (.int 6) .nil)))) .nil)))]) (ss []),
  .ite (.cmp .eq (.var 1) (.int 2)) (ss [.ret (.call f_law_lowest (.cons (.bin .sub (.call f_law_take (.cons (.var 0) (.cons (.int 1999999999999) .nil))) (.int 999999999999)) (.cons (.bin .add (.int 1) (.call f_law_take (.cons (.var 0) (.cons (.int 999999999999) .nil)))) .nil)))]) (ss []),
  .ret (.tup (.cons (.bin .sub (.call f_law_take (.cons (.var 0) (.cons (.int 3) .nil))) (.int 1)) (.cons (.int 1) .nil)))]
/-- law_is_number: 0 law_found, 1 law_part -/
def b_law_is_number : Ss := ss [.ite (.or (.not (.tru (.isi (.var 0) .tuple))) (.cmp .ne (.blt .len (.cons (.var 0) .nil)) (.int 2))) (ss [.ret (.bl false)]) (ss []),
  .for (.nm 1) (.seq (.var 0)) (ss [.ite (.or (.not (.tru (.isi (.var 1) .int))) (.tru (.isi (.var 1) .bool))) (ss [.ret (.bl false)]) (ss [])]),
  .ret (.and (.cmp .gt (.ix (.var 0) (.int 1)) (.int 0)) (.cmp .eq (.call f_law_lowest (.cons (.ix (.var 0) (.int 0)) (.cons (.ix (.var 0) (.int 1)) .nil))) (.var 0)))]
/-- whole_power: 0 one, 1 n, 2 made -/
def b_whole_power : Ss := ss [.asg 2 (.int 1),
  .whl (.cmp .gt (.var 1) (.int 0)) (ss [.ite (.cmp .eq (.bin .mod (.var 1) (.int 2)) (.int 1)) (ss [.asg 2 (.bin .mul (.var 2) (.var 0))]) (ss []),
  .asg 0 (.bin .mul (.var 0) (.var 0)),
  .asg 1 (.bin .fdiv (.var 1) (.int 2))]),
  .ret (.var 2)]
/-- power: 0 one, 1 n; f is itself -/
def b_powerF (f : Nat) : Ss := ss [.ite (.cmp .lt (.var 1) (.int 0)) (ss [.ret (.call f (.cons (.call f_ratio (.cons (.ix (.var 0) (.int 1)) (.cons (.ix (.var 0) (.int 0)) .nil))) (.cons (.neg (.var 1)) .nil)))]) (ss []),
  .ret (.tup (.cons (.call f_whole_power (.cons (.ix (.var 0) (.int 0)) (.cons (.var 1) .nil))) (.cons (.call f_whole_power (.cons (.ix (.var 0) (.int 1)) (.cons (.var 1) .nil))) .nil)))]
def b_power1 : Ss := b_powerF f_power0
def b_power : Ss := b_powerF f_power1
/-! ### promises -/
def vShared : VF := ⟨.read, fun ds q => ∃ a b : Int, ds = [.int a, .int b] ∧ q (.val (.int (Int.gcd a b))) none⟩
def vRatio : VF := ⟨.read, fun ds q => ∃ a b : Int, ds = [.int a, .int b] ∧ b ≠ 0 ∧ q (.val (dR (Rat.divInt a b))) none⟩
@[irreducible] def szN : Nat := 60000000
@[irreducible] def szM : Nat := 30000000
def Sz (r : Rat) : Prop := RB' szN r
def vOp (f : Rat → Rat → Rat) : VF := ⟨.read, fun ds q => ∃ a b : Rat, ds = [dR a, dR b] ∧ Sz a ∧ Sz b ∧ q (.val (dR (f a b))) none⟩
def vOver : VF := ⟨.read, fun ds q => ∃ a b : Rat, ds = [dR a, dR b] ∧ Sz a ∧ Sz b ∧ b.num ≠ 0 ∧ q (.val (dR (a / b))) none⟩
def vBefore : VF := ⟨.read, fun ds q => ∃ a b : Rat, ds = [dR a, dR b] ∧ Sz a ∧ Sz b ∧ q (.val (.bl (decide (a.num * b.den < b.num * a.den)))) none⟩
def vFloor : VF := ⟨.read, fun ds q => ∃ a : Rat, ds = [dR a] ∧ q (.val (.int (a.num.fdiv a.den))) none⟩
/-- a box of n draws at most -/
def Bx (n : Nat) (ds : List VL.D) : Prop := ∃ x y z : Int, ds = [.int x, .int y, .int z] ∧ 0 ≤ x ∧ 0 ≤ y ∧ 0 ≤ z ∧ z ≤ n
def vBox : VF := ⟨.read, fun ds q => ∃ (ns : List Int) (k : Nat), ds = [.fix (ns.map D.int), .int k] ∧ k ≤ 1000 ∧ ∀ b, Bx 7000 b → q (.fresh b) none⟩
def vTake : VF := ⟨.wrt, fun ds q => ∃ (n : Nat) (b : List VL.D) (m : Int), ds = [.lst b, .int m] ∧ Bx n b ∧ n ≤ 100000 ∧ 0 < m ∧ ∀ t b', 0 ≤ t → t < m → Bx (n + 1) b' → q (.val (.int t)) (some b')⟩
def vNumber : VF := ⟨.wrt, fun ds q => ∃ (n : Nat) (b : List VL.D), ds = [.lst b] ∧ Bx n b ∧ n ≤ 90000 ∧ ∀ r b', RB' 50 r → Bx (n + 3) b' → q (.val (dR r)) (some b')⟩
def vIsNumber : VF := ⟨.read, fun ds q => ∃ r : Rat, ds = [dR r] ∧ q (.val (.bl true)) none⟩
def vRatioP : VF := ⟨.read, fun ds q => ∃ a b : Int, ds = [.int a, .int b] ∧ 0 < b ∧ q (.val (dR (Rat.divInt a b))) none⟩
def vWhole : VF := ⟨.read, fun ds q => ∃ (a n : Int) (s : Nat), ds = [.int a, .int n] ∧ 0 ≤ n ∧ a.natAbs ≤ 2 ^ s ∧ s * n.toNat ≤ 60000000 ∧ q (.val (.int (a ^ n.toNat))) none⟩
def vPower1 : VF := ⟨.read, fun ds q => ∃ (a : Rat) (n : Int) (s : Nat), ds = [dR a, .int n] ∧ 0 ≤ n ∧ a.num.natAbs ≤ 2 ^ s ∧ a.den ≤ 2 ^ s ∧ s * n.toNat ≤ 60000000 ∧ q (.val (dR (a ^ n.toNat))) none⟩
def powZ (a : Rat) (n : Int) : Rat := if n < 0 then a⁻¹ ^ (-n).toNat else a ^ n.toNat
def vPower : VF := ⟨.read, fun ds q => ∃ (a : Rat) (n : Int) (s : Nat), ds = [dR a, .int n] ∧ (n < 0 → a.num ≠ 0) ∧ a.num.natAbs ≤ 2 ^ s ∧ a.den ≤ 2 ^ s ∧ s * n.natAbs ≤ 60000000 ∧ q (.val (dR (powZ a n))) none⟩
def vStub : VF := ⟨.read, fun _ _ => False⟩
def G1 (L : Nat → VF) : Nat → VF
  | 0 => vShared
  | 1 => vRatio
  | 2 => vOp (· + ·)
  | 3 => vOp (· - ·)
  | 4 => vOp (· * ·)
  | 5 => vOver
  | 6 => vBefore
  | 7 => vFloor
  | 8 => vWhole
  | 9 => vStub
  | 10 => vPower1
  | 11 => vPower
  | 12 => vBox
  | 13 => vTake
  | 14 => vRatioP
  | 15 => vNumber
  | 16 => vIsNumber
  | 17 => vStub
  | 18 => vStub
  | 19 => vStub
  | n + 20 => L n
variable {L : Nat → VF}
theorem good_shared : Good (G1 L) b_shared 2 1 vShared := by
  rintro ds q ⟨a, b, rfl, hq⟩ -
  refine ⟨fun m ρ => ∃ x y s, ρ = [.val (.int x), .val (.int y), s] ∧ y.natAbs = m ∧ Int.gcd x y = Int.gcd a b, ⟨_, a, b, _, rfl, rfl, rfl⟩, ?_⟩
  rintro m _ ⟨x, y, s, rfl, rfl, hg⟩
  refine ⟨fun h => ?_, fun h => ?_⟩
  · have h : y ≠ 0 := by simpa using h
    exact ⟨h, _, fmod_lt x y h, y, x.fmod y, _, rfl, rfl, (gcd_step x y).trans hg⟩
  · have h : y = 0 := by simpa using h
    subst h
    rw [Int.gcd_zero_right] at hg
    show q (.val (.int (x.natAbs : Int))) none
    rw [hg]; exact hq
theorem good_ratio : Good (G1 L) b_ratio 2 1 vRatio := by
  rintro ds q ⟨a, b, rfl, hb, hq⟩ -
  have hg : (Int.gcd a b : Int) ≠ 0 := fun z => hb (Int.gcd_eq_zero_iff.mp (Int.ofNat.inj z)).2
  have e1 := divInt_num (a := a) hb
  have e2 := divInt_den (a := a) hb
  refine ⟨rfl, ⟨a, b, rfl, .inl rfl, fun h => ?_, fun h => ?_⟩⟩
  · have h := dec_t h
    rw [if_pos h] at e1 e2
    refine ⟨by omega, by omega, rfl, ?_⟩
    unfold dR at hq
    rw [e1, e2] at hq
    exact hq
  · have h := dec_f h
    rw [if_neg h] at e1 e2
    refine ⟨hg, hg, rfl, ?_⟩
    unfold dR at hq
    rw [e1, e2] at hq
    exact hq
theorem sz_mul {i j : Int} (h : i.natAbs < 2 ^ szN) (g : j.natAbs < 2 ^ szN) : MulOk i j := mul_ok h g (by unfold szN; decide)
theorem good_plus : Good (G1 L) b_plus 2 0 (vOp (· + ·)) := by
  rintro ds q ⟨a, b, rfl, ⟨a1, a2⟩, ⟨b1, b2⟩, hq⟩ -
  have hq : q (.val (dR (a + b))) none := hq
  rw [← add_divInt] at hq
  exact ⟨_, rfl, _, rfl, sz_mul a1 (abs_nat b2), _, rfl, _, rfl, sz_mul b1 (abs_nat a2), _, rfl, _, rfl, sz_mul (abs_nat a2) (abs_nat b2), rfl, _, _, rfl, Int.mul_ne_zero (den_ne a) (den_ne b), .inl rfl, hq⟩
theorem good_minus : Good (G1 L) b_minus 2 0 (vOp (· - ·)) := by
  rintro ds q ⟨a, b, rfl, ⟨a1, a2⟩, ⟨b1, b2⟩, hq⟩ -
  have hq : q (.val (dR (a - b))) none := hq
  rw [← sub_divInt] at hq
  exact ⟨_, rfl, _, rfl, sz_mul a1 (abs_nat b2), _, rfl, _, rfl, sz_mul b1 (abs_nat a2), _, rfl, _, rfl, sz_mul (abs_nat a2) (abs_nat b2), rfl, _, _, rfl, Int.mul_ne_zero (den_ne a) (den_ne b), .inl rfl, hq⟩
theorem good_times : Good (G1 L) b_times 2 0 (vOp (· * ·)) := by
  rintro ds q ⟨a, b, rfl, ⟨a1, a2⟩, ⟨b1, b2⟩, hq⟩ -
  have hq : q (.val (dR (a * b))) none := hq
  rw [← mul_divInt] at hq
  exact ⟨_, rfl, _, rfl, sz_mul a1 b1, _, rfl, _, rfl, sz_mul (abs_nat a2) (abs_nat b2), rfl, _, _, rfl, Int.mul_ne_zero (den_ne a) (den_ne b), .inl rfl, hq⟩
theorem good_over : Good (G1 L) b_over 2 0 vOver := by
  rintro ds q ⟨a, b, rfl, ⟨a1, a2⟩, ⟨b1, b2⟩, h0, hq⟩ -
  rw [← div_divInt] at hq
  exact ⟨_, rfl, _, rfl, sz_mul a1 (abs_nat b2), _, rfl, _, rfl, sz_mul (abs_nat a2) b1, rfl, _, _, rfl, Int.mul_ne_zero (den_ne a) h0, .inl rfl, hq⟩
theorem good_before : Good (G1 L) b_before 2 0 vBefore := by
  rintro ds q ⟨a, b, rfl, ⟨a1, a2⟩, ⟨b1, b2⟩, hq⟩ -
  exact ⟨_, rfl, _, rfl, sz_mul a1 (abs_nat b2), _, rfl, _, rfl, sz_mul b1 (abs_nat a2), hq⟩
theorem good_floor_of : Good (G1 L) b_floor_of 1 0 vFloor := by
  rintro ds q ⟨a, rfl, hq⟩ -
  exact ⟨_, rfl, _, rfl, den_ne a, hq⟩
theorem bx_one {n : Nat} {b : List VL.D} (h : Bx n b) {m : Nat} (g : n ≤ m) : Bx m b := by
  obtain ⟨x, y, z, rfl, h1, h2, h3, h4⟩ := h
  exact ⟨x, y, z, rfl, h1, h2, h3, by omega⟩
theorem good_law_box : Good (G1 L) b_law_box 2 2 vBox := by
  rintro ds q ⟨ns, k, rfl, hk, hq⟩ -
  have lenD : ((ns.map VL.D.int).length : Int) = (ns.length : Int) := by rw [List.length_map]
  have fin : ∀ (c : Int) (z : Bool), q (.fresh [.int ((c.natAbs : Int) * (if z then 1 else 0)), .int c.natAbs, .int (7 * (k : Int))]) none := fun c z => hq _ ⟨_, _, _, rfl, by cases z <;> simp, by omega, by omega, by omega⟩
  have cell : ∀ c : Int, wSs (G1 L) (ss [.asg 3 (.and (.cmp .gt (.blt .len (.cons (.var 0) .nil)) (.int 0)) (.cmp .eq (.bin .mod (.ix (.var 0) (.int 0)) (.int 2)) (.int 0))),
      .ret (.lst (.cons (.bin .mul (.blt .abs (.cons (.var 2) .nil)) (.blt .int (.cons (.var 3) .nil))) (.cons (.blt .abs (.cons (.var 2) .nil)) (.cons (.bin .mul (.int 7) (.var 1)) .nil))))])
      [.val (.fix (ns.map D.int)), .val (.int k), .val (.int c), .un] { nx := fun _ => q (.val .non) none, rt := fun r _ => q r none } := fun c => by
    refine ⟨fun h => ?_, fun h => ?_⟩
    · have h : (0 : Int) < ((ns.map VL.D.int).length : Int) := dec_t h
      cases ns with
      | nil => simp at h
      | cons n0 nr =>
        exact ⟨.int n0, atI_nat (j := 0) rfl, by decide, mul_r (by split <;> decide), mul_l (by decide), rfl, fin c _⟩
    · exact ⟨mul_r (by decide), mul_l (by decide), rfl, fin c false⟩
  refine ⟨fun h => ?_, fun h => ?_⟩
  · have h : (k : Int) < ((ns.map VL.D.int).length : Int) := dec_t h
    have h2 : k < ns.length := by rw [lenD] at h; omega
    refine ⟨.int (ns[k]'h2), ?_, cell _⟩
    have := atI_nat (xs := ns.map D.int) (j := k) (v := .int (ns[k]'h2)) (by rw [List.getElem?_map, List.getElem?_eq_getElem h2]; rfl)
    exact this
  · exact cell 0
theorem good_law_take : Good (G1 L) b_law_take 2 2 vTake := by
  rintro ds0 rest q ⟨n, b, m, e, ⟨x, y, z, rfl, h1, h2, h3, h4⟩, hn, hm, hq⟩ -
  cases e
  have m0 : m ≠ 0 := by omega
  refine ⟨_, rfl, fun h => ?_, fun h => ?_⟩
  · have h : (0 : Int) < x := dec_t h
    refine ⟨_, rfl, m0, _, rfl, m0, rfl, 0, rfl, ⟨_, rfl⟩, _, rfl, ?_⟩
    exact hq _ _ (Int.fmod_nonneg_of_pos x hm) (Int.fmod_lt_of_pos x hm) ⟨x.fdiv m, y, z, rfl, Int.fdiv_nonneg h1 (by omega), h2, h3, by omega⟩
  · have z1 : (z + 1).natAbs < 2 ^ 64 := by have : (2 : Nat) ^ 64 = 18446744073709551616 := by decide
                                            omega
    have pos : ∀ {a k : Int}, 0 < k → 0 ≤ a.fmod k ∧ a.fmod k < k := fun hk => ⟨Int.fmod_nonneg_of_pos _ hk, Int.fmod_lt_of_pos _ hk⟩
    have e64 : (2 : Nat) ^ 64 = 18446744073709551616 := by decide
    have small : ∀ {a k : Int}, 0 < k → k < 9223372036854775807 → (a.fmod k).natAbs < 2 ^ 64 := fun {a k} hk hl => by
      have := pos (a := a) hk
      rw [e64]; omega
    have sm3 : ∀ {a : Int}, (a.fmod 2305843009213693951 + 3).natAbs < 2 ^ 64 := fun {a} => by
      have := pos (a := a) (k := 2305843009213693951) (by decide)
      rw [e64]; omega
    exact ⟨_, rfl, rfl, 2, rfl, _, rfl, by decide, _, rfl, _, rfl, mul_l z1, mul_l sm3, by decide, by decide, _, rfl, mul_l z1, mul_l (small (by decide) (by decide)), by decide,
      mul_l (small (by decide) (by decide)), by decide, by decide, m0, ⟨_, rfl⟩, _, rfl, hq _ _ (Int.fmod_nonneg_of_pos _ hm) (Int.fmod_lt_of_pos _ hm) ⟨x, y, z + 1, rfl, h1, h2, by omega, by omega⟩⟩
theorem good_law_lowest : Good (G1 L) b_law_lowest 2 2 vRatioP := by
  rintro ds q ⟨a, b, rfl, hb, hq⟩ -
  have b0 : b ≠ 0 := by omega
  have e1 := divInt_num (a := a) b0
  have e2 := divInt_den (a := a) b0
  rw [if_neg (by omega)] at e1 e2
  have hg : (Int.gcd a b : Int) ≠ 0 := fun z => b0 (Int.gcd_eq_zero_iff.mp (Int.ofNat.inj z)).2
  refine ⟨rfl, fun m ρ => ∃ x y : Int, ρ = [.val (.int a), .val (.int b), .val (.int x), .val (.int y)] ∧ y.toNat = m ∧ 0 ≤ x ∧ 0 ≤ y ∧ Int.gcd x y = Int.gcd a b, ⟨_, a.natAbs, b, rfl, rfl, by omega, by omega, ?_⟩, ?_⟩
  · simp [Int.gcd]
  rintro m _ ⟨x, y, rfl, rfl, hx, hy, h⟩
  refine ⟨fun t => ?_, fun t => ?_⟩
  · have t : 0 < y := dec_t t
    have f1 := Int.fmod_nonneg_of_pos x t
    have f2 := Int.fmod_lt_of_pos x t
    exact ⟨by omega, rfl, _, by omega, y, x.fmod y, rfl, rfl, hy, f1, (gcd_step x y).trans h⟩
  · have t : ¬ 0 < y := dec_f t
    obtain rfl : y = 0 := by omega
    rw [Int.gcd_zero_right] at h
    have hx2 : x = Int.gcd a b := by omega
    subst hx2
    unfold dR at hq
    rw [e1, e2] at hq
    exact ⟨hg, hg, rfl, hq⟩
theorem dR_int (i : Int) : dR (Rat.divInt i 1) = .tup [.int i, .int 1] := by
  have e1 := divInt_num (a := i) (b := 1) (by decide)
  have e2 := divInt_den (a := i) (b := 1) (by decide)
  rw [if_neg (by decide), Int.gcd_one] at e1 e2
  unfold dR
  rw [e1, e2]
  simp
theorem rb_div {i j : Int} {n : Nat} (hi : i.natAbs < 2 ^ n) (hj : j.natAbs < 2 ^ n) (h0 : 0 < j) : RB' n (Rat.divInt i j) := by
  have b0 : j ≠ 0 := by omega
  constructor
  · rw [Rat.num_divInt, Int.sign_eq_one_of_pos h0, Int.one_mul]
    have := Int.natAbs_ediv_le_natAbs i (Int.gcd j i)
    omega
  · rw [Rat.den_divInt, if_neg b0]
    have := Nat.div_le_self j.natAbs (Int.gcd j i)
    omega
theorem good_law_number : Good (G1 L) b_law_number 1 1 vNumber := by
  rintro ds0 rest q ⟨n, b, e, hb, hn, hq⟩ -
  cases e
  have e50 : (2 : Nat) ^ 50 = 1125899906842624 := by decide
  refine ⟨rfl, rfl, n, ds0, 5, rfl, hb, by omega, by decide, fun t b1 t1 t2 hb1 => ⟨b1, rfl, ?_⟩⟩
  refine ⟨fun h => ?_, fun _ => ⟨fun h => ?_, fun _ => ⟨fun h => ?_, fun _ => ?_⟩⟩⟩
  · refine ⟨rfl, rfl, n + 1, b1, 19, rfl, hb1, by omega, by decide, fun u b2 u1 u2 hb2 => ⟨b2, rfl, rfl, ?_⟩⟩
    have := hq (Rat.divInt (u - 9) 1) b2 (rb_div (by rw [e50]; omega) (by rw [e50]; decide) (by decide)) (bx_one hb2 (by omega))
    rw [dR_int] at this
    exact ⟨⟨_, rfl⟩, _, rfl, this⟩
  · refine ⟨rfl, rfl, n + 1, b1, 19, rfl, hb1, by omega, by decide, fun u b2 u1 u2 hb2 => ⟨b2, rfl, ?_⟩⟩
    refine ⟨rfl, rfl, n + 2, b2, 6, rfl, hb2, by omega, by decide, fun v b3 v1 v2 hb3 => ⟨b3, rfl, rfl, ?_⟩⟩
    exact ⟨_, _, rfl, by omega, .inl rfl, ⟨_, rfl⟩, _, rfl, hq _ _ (rb_div (by rw [e50]; omega) (by rw [e50]; omega) (by omega)) hb3⟩
  · refine ⟨rfl, rfl, n + 1, b1, 1999999999999, rfl, hb1, by omega, by decide, fun u b2 u1 u2 hb2 => ⟨b2, rfl, ?_⟩⟩
    refine ⟨rfl, rfl, n + 2, b2, 999999999999, rfl, hb2, by omega, by decide, fun v b3 v1 v2 hb3 => ⟨b3, rfl, rfl, ?_⟩⟩
    exact ⟨_, _, rfl, by omega, .inl rfl, ⟨_, rfl⟩, _, rfl, hq _ _ (rb_div (by rw [e50]; omega) (by rw [e50]; omega) (by omega)) hb3⟩
  · refine ⟨rfl, rfl, n + 1, b1, 3, rfl, hb1, by omega, by decide, fun u b2 u1 u2 hb2 => ⟨b2, rfl, rfl, ?_⟩⟩
    have := hq (Rat.divInt (u - 1) 1) b2 (rb_div (by rw [e50]; omega) (by rw [e50]; decide) (by decide)) (bx_one hb2 (by omega))
    rw [dR_int] at this
    exact ⟨⟨_, rfl⟩, _, rfl, this⟩
theorem shp_dR (r : Rat) : dsh (dR r) = true := rfl
theorem eqv_dR (r : Rat) : deq (dR r) (dR r) = true := by
  show PyData.eqv (.tuple [.int r.num, .int r.den]) (.tuple [.int r.num, .int r.den]) = true
  simp [PyData.eqv, PyData.eqvAll]
theorem good_law_is_number : Good (G1 L) b_law_is_number 1 1 vIsNumber := by
  rintro ds q ⟨r, rfl, hq⟩ -
  refine ⟨fun h => (by cases h), fun _ => ⟨fun h => (by cases h), fun _ => ?_⟩⟩
  refine ⟨fun k ρ => ∃ s, ρ = [.val (dR r), s], ⟨_, rfl⟩, ?_, ?_⟩
  · rintro k d _ hd ⟨s, rfl⟩
    have hd : ∃ i : Int, d = .int i := by
      match k, hd with
      | 0, hd => cases hd; exact ⟨_, rfl⟩
      | 1, hd => cases hd; exact ⟨_, rfl⟩
      | k + 2, hd => cases hd
    obtain ⟨i, rfl⟩ := hd
    exact ⟨fun h => (by cases h), fun _ => ⟨fun h => (by cases h), fun _ => ⟨_, rfl⟩⟩⟩
  · rintro _ ⟨s, rfl⟩
    have hd := den_p r
    refine ⟨_, rfl, fun h => ?_, fun h => absurd hd (dec_f h)⟩
    have h2 : deq (dR (Rat.divInt r.num r.den)) (dR r) = true := by rw [Rat.num_divInt_den]; exact eqv_dR r
    refine ⟨_, rfl, _, rfl, rfl, _, _, rfl, hd, .inl rfl, rfl, rfl, ?_⟩
    rw [h2]
    exact hq
theorem num_le {a b : Int} (h : b ≠ 0) : (Rat.divInt a b).num.natAbs ≤ a.natAbs := by
  rw [Rat.num_divInt]
  have := Int.natAbs_ediv_le_natAbs (b.sign * a) (Int.gcd b a)
  rw [Int.natAbs_mul, Int.natAbs_sign_of_ne_zero h, Nat.one_mul] at this
  exact this
theorem den_le {a b : Int} (h : b ≠ 0) : (Rat.divInt a b).den ≤ b.natAbs := by
  rw [Rat.den_divInt, if_neg h]
  exact Nat.div_le_self _ _
theorem fl (x y : Int) (h : 0 < y) : x.fdiv y * y ≤ x ∧ x < (x.fdiv y + 1) * y := by
  have a := Int.fmod_nonneg_of_pos x h
  have b := Int.fmod_lt_of_pos x h
  have c := Int.fmod_def x y
  rw [Int.add_mul, Int.one_mul, Int.mul_comm]
  omega
theorem fl_le (x y : Int) (h : 0 < y) : (x.fdiv y).natAbs ≤ x.natAbs := by
  rw [Int.fdiv_eq_ediv_of_nonneg x (by omega)]
  exact Int.natAbs_ediv_le_natAbs x y
theorem sz_of {r : Rat} {n : Nat} (h : RB' n r) (g : n ≤ 1000) : Sz r := by
  have : n ≤ szN := by unfold szN; omega
  exact ⟨abs_le h.1 this, Nat.lt_of_lt_of_le h.2 (Nat.pow_le_pow_right (by decide) this)⟩
theorem lt_szM {i : Int} {n : Nat} (h : i.natAbs < 2 ^ n) (g : n ≤ 1000) : i.natAbs < 2 ^ szM := abs_le h (by unfold szM; omega)
theorem pow_abs {a : Int} {s : Nat} (h : a.natAbs ≤ 2 ^ s) (e : Nat) : (a ^ e).natAbs < 2 ^ (s * e + 1) := by
  rw [Int.natAbs_pow, Nat.pow_succ, Nat.pow_mul]
  have := Nat.pow_le_pow_left h e
  have p : 0 < (2 ^ s) ^ e := Nat.pow_pos (Nat.pow_pos (by decide))
  omega
theorem good_whole_power : Good (G1 L) b_whole_power 2 1 vWhole := by
  rintro ds q ⟨a, n, s, rfl, hn, ha, hs, hq⟩ -
  refine ⟨fun m ρ => ∃ e d : Nat, ρ = [.val (.int (a ^ e)), .val (.int (m : Nat)), .val (.int (a ^ d))] ∧ d + e * m = n.toNat, ⟨n.toNat, 1, 0, ?_, by omega⟩, ?_⟩
  · rw [Int.pow_succ, Int.pow_zero, Int.one_mul, Int.toNat_of_nonneg hn]; rfl
  · rintro m _ ⟨e, d, rfl, hd⟩
    refine ⟨fun t => ?_, fun t => ?_⟩
    · have t : 0 < (m : Int) := dec_t t
      have m1 : 1 ≤ m := by omega
      have he : e ≤ n.toNat := by have := Nat.mul_le_mul_left e m1; omega
      have hde : d ≤ n.toNat := by omega
      have z1 : s * e ≤ 60000000 := Nat.le_trans (Nat.mul_le_mul_left s he) hs
      have z2 : s * d ≤ 60000000 := Nat.le_trans (Nat.mul_le_mul_left s hde) hs
      have sq : a ^ e * a ^ e = a ^ (2 * e) := by rw [← Int.pow_add]; congr 1; omega
      have half : (m : Int).fdiv 2 = ((m / 2 : Nat) : Int) := by rw [Int.fdiv_eq_ediv_of_nonneg _ (by decide)]; omega
      have md : (m : Int).fmod 2 = ((m % 2 : Nat) : Int) := by rw [Int.fmod_eq_emod_of_nonneg _ (by decide)]; omega
      refine ⟨by decide, fun o => ?_, fun o => ?_⟩
      · have o : (m : Int).fmod 2 = 1 := dec_t o
        have o2 : m % 2 = 1 := by omega
        refine ⟨mul_ok (pow_abs ha d) (pow_abs ha e) (by omega), mul_ok (pow_abs ha e) (pow_abs ha e) (by omega), by decide, m / 2, by omega, 2 * e, d + e, ?_, ?_⟩
        · show [Sl.val (.int (a ^ e * a ^ e)), Sl.val (.int ((m : Int).fdiv 2)), Sl.val (.int (a ^ d * a ^ e))] = _
          rw [sq, half, Int.pow_add]
        · have : e * m = 2 * e * (m / 2) + e := by
            conv => lhs; rw [← Nat.div_add_mod m 2, o2]
            rw [Nat.mul_add, Nat.mul_one, ← Nat.mul_assoc, Nat.mul_comm e 2]
          omega
      · have o : ¬ (m : Int).fmod 2 = 1 := dec_f o
        have o2 : m % 2 = 0 := by omega
        refine ⟨mul_ok (pow_abs ha e) (pow_abs ha e) (by omega), by decide, m / 2, by omega, 2 * e, d, ?_, ?_⟩
        · show [Sl.val (.int (a ^ e * a ^ e)), Sl.val (.int ((m : Int).fdiv 2)), Sl.val (.int (a ^ d))] = _
          rw [sq, half]
        · have : e * m = 2 * e * (m / 2) := by
            conv => lhs; rw [← Nat.div_add_mod m 2, o2]
            rw [Nat.add_zero, ← Nat.mul_assoc, Nat.mul_comm e 2]
          omega
    · have t : ¬ 0 < (m : Int) := dec_f t
      obtain rfl : m = 0 := by omega
      have : d = n.toNat := by omega
      subst this
      exact hq
theorem good_power1 : Good (G1 L) b_power1 2 0 vPower1 := by
  rintro ds q ⟨a, n, s, rfl, hn, h1, h2, hs, hq⟩ -
  refine ⟨fun t => absurd hn (Int.not_le.mpr (dec_t t)), fun _ => ?_⟩
  refine ⟨_, rfl, rfl, _, n, s, rfl, hn, h1, hs, .inl rfl, _, rfl, rfl, _, n, s, rfl, hn, by simpa using h2, hs, .inl rfl, rfl, ?_⟩
  have e : ((a.den ^ n.toNat : Nat) : Int) = (a.den : Int) ^ n.toNat := by simp
  unfold dR at hq
  rw [Rat.num_pow, Rat.den_pow, e] at hq
  exact hq
theorem inv_divInt (a : Rat) : Rat.divInt a.den a.num = a⁻¹ := by rw [Rat.inv_def]
theorem good_power : Good (G1 L) b_power 2 0 vPower := by
  rintro ds q ⟨a, n, s, rfl, h0, h1, h2, hs, hq⟩ -
  unfold powZ at hq
  refine ⟨fun t => ?_, fun t => ?_⟩
  · have t : n < 0 := dec_t t
    rw [if_pos t] at hq
    have hnz := h0 t
    refine ⟨_, rfl, _, rfl, rfl, _, _, rfl, hnz, .inl rfl, rfl, a⁻¹, -n, s, ?_, by omega, ?_, ?_, ?_, .inl rfl, hq⟩
    · rw [← inv_divInt]
    · rw [← inv_divInt]
      exact Nat.le_trans (num_le hnz) (by simpa using h2)
    · rw [← inv_divInt]
      exact Nat.le_trans (den_le hnz) h1
    · rw [show (-n).toNat = n.natAbs by omega]; exact hs
  · have t : ¬ n < 0 := dec_f t
    rw [if_neg t] at hq
    have hs : s * n.toNat ≤ 60000000 := by rw [show n.toNat = n.natAbs by omega]; exact hs
    have hn : 0 ≤ n := by omega
    refine ⟨_, rfl, rfl, _, n, s, rfl, hn, h1, hs, .inl rfl, _, rfl, rfl, _, n, s, rfl, hn, by simpa using h2, hs, .inl rfl, rfl, ?_⟩
    have e : ((a.den ^ n.toNat : Nat) : Int) = (a.den : Int) ^ n.toNat := by simp
    unfold dR at hq
    rw [Rat.num_pow, Rat.den_pow, e] at hq
    exact hq
theorem along_G1 : True := trivial
end M1

/-! M2: polynomials' texts, promises. -/
namespace M2
open PySem PySem.Spec L2 VL M1
abbrev f_poly : Nat := 20
abbrev f_degree : Nat := 21
abbrev f_at_power : Nat := 22
abbrev f_p_plus : Nat := 23
abbrev f_p_minus : Nat := 24
abbrev f_p_scaled : Nat := 25
abbrev f_p_times : Nat := 26
abbrev f_p_slope : Nat := 27
abbrev f_law_sum : Nat := 28
abbrev f_law_product : Nat := 29
abbrev f_law_poly_of : Nat := 30
abbrev f_law_poly : Nat := 31
abbrev f_law_is_poly : Nat := 32
abbrev f_law_added : Nat := 33
abbrev f_law_multiplied : Nat := 34
abbrev f_law_scaled : Nat := 35
/-- poly: 0 row, 1 many -/
def b_poly : Ss := ss [.asg 1 (.blt .len (.cons (.var 0) .nil)),
  .whl (.and (.cmp .gt (.var 1) (.int 0)) (.cmp .eq (.ix (.var 0) (.bin .sub (.var 1) (.int 1))) (.glo (.tup [.int 0, .int 1])))) (ss [.aug 1 .sub (.int 1)]),
  .ret (.blt .tuple (.cons (.sl (.var 0) .no (.yes (.var 1))) .nil))]
/-- degree: 0 P -/
def b_degree : Ss := ss [.ret (.bin .sub (.blt .len (.cons (.var 0) .nil)) (.int 1))]
/-- at_power: 0 P, 1 k -/
def b_at_power : Ss := ss [.ite (.cmp .lt (.var 1) (.blt .len (.cons (.var 0) .nil))) (ss [.ret (.ix (.var 0) (.var 1))]) (ss []),
  .ret (.glo (.tup [.int 0, .int 1]))]
/-- p_plus: 0 P, 1 Q, 2 k -/
def b_p_plus : Ss := ss [.ret (.call f_poly (.cons (.lc (.call f_plus (.cons (.call f_at_power (.cons (.var 0) (.cons (.var 2) .nil))) (.cons (.call f_at_power (.cons (.var 1) (.cons (.var 2) .nil))) .nil))) (.nm 2) (.rng1 (.blt .max2 (.cons (.blt .len (.cons (.var 0) .nil)) (.cons (.blt .len (.cons (.var 1) .nil)) .nil)))) [2] .no) .nil))]
/-- p_minus: 0 P, 1 Q, 2 k -/
def b_p_minus : Ss := ss [.ret (.call f_poly (.cons (.lc (.call f_minus (.cons (.call f_at_power (.cons (.var 0) (.cons (.var 2) .nil))) (.cons (.call f_at_power (.cons (.var 1) (.cons (.var 2) .nil))) .nil))) (.nm 2) (.rng1 (.blt .max2 (.cons (.blt .len (.cons (.var 0) .nil)) (.cons (.blt .len (.cons (.var 1) .nil)) .nil)))) [2] .no) .nil))]
/-- p_scaled: 0 P, 1 c, 2 one -/
def b_p_scaled : Ss := ss [.ret (.call f_poly (.cons (.lc (.call f_times (.cons (.var 2) (.cons (.var 1) .nil))) (.nm 2) (.seq (.var 0)) [2] .no) .nil))]
/-- p_times: 0 P, 1 Q, 2 row, 3 k, 4 one, 5 j, 6 other -/
def b_p_times : Ss := ss [.asg 2 (.bin .mul (.lst (.cons (.glo (.tup [.int 0, .int 1])) .nil)) (.bin .add (.blt .len (.cons (.var 0) .nil)) (.blt .len (.cons (.var 1) .nil)))),
  .for (.tp [3, 4]) (.enum (.var 0)) (ss [.for (.tp [5, 6]) (.enum (.var 1)) (ss [.sub 2 (.bin .add (.var 3) (.var 5)) (.call f_plus (.cons (.ix (.var 2) (.bin .add (.var 3) (.var 5))) (.cons (.call f_times (.cons (.var 4) (.cons (.var 6) .nil))) .nil)))])]),
  .ret (.call f_poly (.cons (.var 2) .nil))]
/-- p_slope: 0 P, 1 k -/
def b_p_slope : Ss := ss [.ret (.call f_poly (.cons (.lc (.call f_times (.cons (.tup (.cons (.var 1) (.cons (.int 1) .nil))) (.cons (.ix (.var 0) (.var 1)) .nil))) (.nm 1) (.rng2 (.int 1) (.blt .len (.cons (.var 0) .nil))) [1] .no) .nil))]
/-- law_sum: 0 law_one, 1 law_other -/
def b_law_sum : Ss := ss [.ret (.call f_law_lowest (.cons (.bin .add (.bin .mul (.ix (.var 0) (.int 0)) (.ix (.var 1) (.int 1))) (.bin .mul (.ix (.var 1) (.int 0)) (.ix (.var 0) (.int 1)))) (.cons (.bin .mul (.ix (.var 0) (.int 1)) (.ix (.var 1) (.int 1))) .nil)))]
/-- law_product: 0 law_one, 1 law_other -/
def b_law_product : Ss := ss [.ret (.call f_law_lowest (.cons (.bin .mul (.ix (.var 0) (.int 0)) (.ix (.var 1) (.int 0))) (.cons (.bin .mul (.ix (.var 0) (.int 1)) (.ix (.var 1) (.int 1))) .nil)))]
/-- law_poly_of: 0 law_row, 1 law_many -/
def b_law_poly_of : Ss := ss [.asg 1 (.blt .len (.cons (.var 0) .nil)),
  .whl (.and (.cmp .gt (.var 1) (.int 0)) (.cmp .eq (.ix (.ix (.var 0) (.bin .sub (.var 1) (.int 1))) (.int 0)) (.int 0))) (ss [.asg 1 (.bin .sub (.var 1) (.int 1))]),
  .ret (.blt .tuple (.cons (.sl (.var 0) .no (.yes (.var 1))) .nil))]
/-- law_poly: 0 law_box_here, 1 law_most, 2 law_k -/
def b_law_poly : Ss := ss [.ret (.call f_law_poly_of (.cons (.lc (.call f_law_number (.cons (.var 0) .nil)) (.nm 2) (.rng1 (.call f_law_take (.cons (.var 0) (.cons (.bin .add (.var 1) (.int 2)) .nil)))) [2] .no) .nil))]
/-- law_is_poly: 0 law_found, 1 law_one -/
def b_law_is_poly : Ss := ss [.ite (.or (.not (.tru (.isi (.var 0) .tuple))) (.not (.tru (.blt .all (.cons (.lc (.call f_law_is_number (.cons (.var 1) .nil)) (.nm 1) (.seq (.var 0)) [1] .no) .nil))))) (ss [.ret (.bl false)]) (ss []),
  .ret (.or (.cmp .eq (.blt .len (.cons (.var 0) .nil)) (.int 0)) (.cmp .ne (.ix (.ix (.var 0) (.neg (.int 1))) (.int 0)) (.int 0)))]
/-- law_added: 0 law_kp, 1 law_kq, 2 law_row, 3 law_k -/
def b_law_added : Ss := ss [.asg 2 (.lst .nil),
  .for (.nm 3) (.rng1 (.blt .max2 (.cons (.blt .len (.cons (.var 0) .nil)) (.cons (.blt .len (.cons (.var 1) .nil)) .nil)))) (ss [.ex (.mth .append 2 (.cons (.call f_law_sum (.cons (.ix (.bin .add (.blt .list (.cons (.var 0) .nil)) (.bin .mul (.lst (.cons (.tup (.cons (.int 0) (.cons (.int 1) .nil))) .nil)) (.blt .len (.cons (.var 1) .nil)))) (.var 3)) (.cons (.ix (.bin .add (.blt .list (.cons (.var 1) .nil)) (.bin .mul (.lst (.cons (.tup (.cons (.int 0) (.cons (.int 1) .nil))) .nil)) (.blt .len (.cons (.var 0) .nil)))) (.var 3)) .nil))) .nil))]),
  .ret (.call f_law_poly_of (.cons (.var 2) .nil))]
/-- law_multiplied: 0 law_kp, 1 law_kq, 2 law_row, 3 law_k, 4 law_one, 5 law_j, 6 law_other -/
def b_law_multiplied : Ss := ss [.asg 2 (.bin .mul (.lst (.cons (.tup (.cons (.int 0) (.cons (.int 1) .nil))) .nil)) (.bin .add (.blt .len (.cons (.var 0) .nil)) (.blt .len (.cons (.var 1) .nil)))),
  .for (.tp [3, 4]) (.enum (.var 0)) (ss [.for (.tp [5, 6]) (.enum (.var 1)) (ss [.sub 2 (.bin .add (.var 3) (.var 5)) (.call f_law_sum (.cons (.ix (.var 2) (.bin .add (.var 3) (.var 5))) (.cons (.call f_law_product (.cons (.var 4) (.cons (.var 6) .nil))) .nil)))])]),
  .ret (.call f_law_poly_of (.cons (.var 2) .nil))]
/-- law_scaled: 0 law_kp, 1 law_c, 2 law_one -/
def b_law_scaled : Ss := ss [.ret (.call f_law_poly_of (.cons (.lc (.call f_law_product (.cons (.var 2) (.cons (.var 1) .nil))) (.nm 2) (.seq (.var 0)) [2] .no) .nil))]
/-! ### rows of numbers -/
def co (l : List Rat) (k : Nat) : Rat := l.getD k 0
def trim : List Rat → List Rat
  | [] => []
  | a :: l => match trim l with
    | [] => if a = 0 then [] else [a]
    | b :: r => a :: b :: r
theorem co_nil (k : Nat) : co [] k = 0 := by unfold co; simp
theorem co_zero (a : Rat) (l : List Rat) : co (a :: l) 0 = a := rfl
theorem co_succ (a : Rat) (l : List Rat) (k : Nat) : co (a :: l) (k + 1) = co l k := rfl
theorem co_out {l : List Rat} {k : Nat} (h : l.length ≤ k) : co l k = 0 := by unfold co; rw [List.getD_eq_getElem?_getD, List.getElem?_eq_none h]; rfl
theorem co_in {l : List Rat} {k : Nat} (h : k < l.length) : co l k = l[k] := by unfold co; rw [List.getD_eq_getElem?_getD, List.getElem?_eq_getElem h]; rfl
theorem co_get {l : List Rat} {k : Nat} (h : k < l.length) : l[k]? = some (co l k) := by rw [co_in h, List.getElem?_eq_getElem h]
theorem trim_co : ∀ (l : List Rat) (k : Nat), co (trim l) k = co l k
  | [], k => rfl
  | a :: l, k => by
    have ih := trim_co l
    unfold trim
    cases h : trim l with
    | nil =>
      rw [h] at ih
      have z : ∀ k, co l k = 0 := fun k => by rw [← ih k, co_nil]
      dsimp only
      cases k with
      | zero =>
        rw [co_zero]
        split
        · rename_i e; rw [e, co_nil]
        · rfl
      | succ k =>
        rw [co_succ, z k]
        split
        · exact co_nil _
        · rw [co_succ, co_nil]
    | cons b r =>
      rw [h] at ih
      dsimp only
      cases k with
      | zero => rfl
      | succ k => rw [co_succ, co_succ]; exact ih k
/-- no nought at the end -/
def IsT (l : List Rat) : Prop := l = [] ∨ co l (l.length - 1) ≠ 0
theorem trim_isT : ∀ l : List Rat, IsT (trim l)
  | [] => .inl rfl
  | a :: l => by
    have ih := trim_isT l
    unfold trim
    cases h : trim l with
    | nil =>
      dsimp only
      split
      · exact .inl rfl
      · rename_i e; exact .inr e
    | cons b r =>
      rw [h] at ih
      dsimp only
      rcases ih with e | e
      · cases e
      · exact .inr e
theorem isT_ext {l m : List Rat} (hl : IsT l) (hm : IsT m) (h : ∀ k, co l k = co m k) : l = m := by
  have len : ∀ {l m : List Rat}, IsT l → (∀ k, co l k = co m k) → l.length ≤ m.length := fun {l m} hl h => by
    rcases hl with rfl | e
    · exact Nat.zero_le _
    · rcases Nat.lt_or_ge m.length l.length with g | g
      · rw [h, co_out (by omega)] at e; exact absurd rfl e
      · exact g
  have e : l.length = m.length := Nat.le_antisymm (len hl h) (len hm fun k => (h k).symm)
  refine List.ext_getElem? fun k => ?_
  by_cases g : k < l.length
  · rw [co_get g, co_get (by omega), h k]
  · rw [List.getElem?_eq_none (by omega), List.getElem?_eq_none (by omega)]
theorem take_trim {l : List Rat} {m : Nat} (hm : m ≤ l.length) (h : ∀ k, m ≤ k → co l k = 0) (h2 : m = 0 ∨ co l (m - 1) ≠ 0) : l.take m = trim l := by
  have ct : ∀ k, co (l.take m) k = if k < m then co l k else 0 := fun k => by
    unfold co
    rw [List.getD_eq_getElem?_getD, List.getElem?_take]
    split
    · rw [List.getD_eq_getElem?_getD]
    · rfl
  refine isT_ext ?_ (trim_isT l) fun k => ?_
  · rcases h2 with rfl | h2
    · exact .inl (by simp)
    · by_cases z : m = 0
      · subst z; exact .inl (by simp)
      · refine .inr ?_
        have e : (l.take m).length = m := by rw [List.length_take]; omega
        rw [e, ct, if_pos (by omega)]
        exact h2
  · rw [trim_co, ct]
    split
    · rfl
    · rw [h k (by omega)]
theorem trim_le : ∀ l : List Rat, (trim l).length ≤ l.length
  | [] => Nat.le_refl _
  | a :: l => by
    have ih := trim_le l
    unfold trim
    cases h : trim l with
    | nil =>
      dsimp only
      split
      · exact Nat.zero_le _
      · simp
    | cons b r =>
      rw [h] at ih
      dsimp only
      simp only [List.length_cons] at ih ⊢
      omega
theorem trim_id {l : List Rat} (h : IsT l) : trim l = l := isT_ext (trim_isT l) h (trim_co l)
/-- the polynomial of the first n numbers of f -/
def mk (n : Nat) (f : Nat → Rat) : List Rat := trim ((List.range n).map f)
theorem co_range (n : Nat) (f : Nat → Rat) (k : Nat) : co ((List.range n).map f) k = if k < n then f k else 0 := by
  unfold co
  rw [List.getD_eq_getElem?_getD, List.getElem?_map]
  split
  · rename_i h; rw [List.getElem?_range h]; rfl
  · rename_i h; rw [List.getElem?_eq_none (by simp; omega)]; rfl
theorem mk_co (n : Nat) (f : Nat → Rat) (k : Nat) : co (mk n f) k = if k < n then f k else 0 := by
  unfold mk; rw [trim_co, co_range]
theorem mk_isT (n : Nat) (f : Nat → Rat) : IsT (mk n f) := trim_isT _
theorem mk_len (n : Nat) (f : Nat → Rat) : (mk n f).length ≤ n := by
  have := trim_le ((List.range n).map f)
  rw [List.length_map, List.length_range] at this
  exact this
/-! ### as data -/
def dRs (l : List Rat) : List VL.D := l.map dR
def dP (l : List Rat) : VL.D := .tup (dRs l)
theorem dRs_get {l : List Rat} {k : Nat} (h : k < l.length) : (dRs l)[k]? = some (dR (co l k)) := by
  unfold dRs; rw [List.getElem?_map, co_get h]; rfl
theorem dRs_len (l : List Rat) : (dRs l).length = l.length := by unfold dRs; rw [List.length_map]
theorem dR_inj {x y : Rat} (h : dR x = dR y) : x = y := by
  unfold dR at h
  injection h with h
  injection h with h1 h2
  injection h2 with h2 h3
  injection h1 with h1
  injection h2 with h2
  exact Rat.ext h1 (Int.ofNat.inj h2)
theorem deq_int (x y : Int) : deq (.int x) (.int y) = decide (x = y) := by
  show PyData.eqv (.int x) (.int y) = _
  simp only [PyData.eqv]
  by_cases h : x = y
  · rw [h]; simp
  · simp [h]
theorem deq_dR (x y : Rat) : deq (dR x) (dR y) = decide (x = y) := by
  show PyData.eqv (.tuple [.int x.num, .int x.den]) (.tuple [.int y.num, .int y.den]) = _
  by_cases h : x = y
  · subst h; simp [PyData.eqv, PyData.eqvAll]
  · have : ¬ (x.num = y.num ∧ (x.den : Int) = y.den) := fun z => h (Rat.ext z.1 (Int.ofNat.inj z.2))
    rw [decide_eq_false h]
    simp only [PyData.eqv, PyData.eqvAll]
    by_cases g : x.num = y.num
    · have g2 : ¬ (x.den : Int) = y.den := fun z => this ⟨g, z⟩
      simp [g2]
    · simp [g]
theorem cut_to (xs : List VL.D) (m : Nat) : cutD xs none (some (m : Int)) = xs.take m := by
  unfold cutD
  rw [HT.sIx_none, HT.sIx_nat, List.drop_zero, Nat.sub_zero]
  rcases Nat.le_total m xs.length with h | h
  · rw [Nat.min_eq_left h]
  · rw [Nat.min_eq_right h, List.take_length, List.take_of_length_le h]
/-- every number of few bits -/
def PB (s : Nat) (l : List Rat) : Prop := ∀ r ∈ l, RB' s r
theorem rb_zero (s : Nat) (h : 1 ≤ s) : RB' s 0 := ⟨Nat.pow_pos (by decide), by
  show 1 < 2 ^ s
  exact Nat.one_lt_two_pow (by omega)⟩
theorem rb_mono {s t : Nat} {r : Rat} (h : RB' s r) (g : s ≤ t) : RB' t r := ⟨abs_le h.1 g, Nat.lt_of_lt_of_le h.2 (Nat.pow_le_pow_right (by decide) g)⟩
theorem pb_co {s : Nat} {l : List Rat} (h : PB s l) (hs : 1 ≤ s) (k : Nat) : RB' s (co l k) := by
  by_cases g : k < l.length
  · rw [co_in g]; exact h _ (List.getElem_mem g)
  · rw [co_out (by omega)]; exact rb_zero s hs
theorem rb_add {a b : Nat} {x y : Rat} (hx : RB' a x) (hy : RB' b y) : RB' (a + b + 1) (x + y) := by
  rw [← add_divInt]
  have n1 := abs_mul hx.1 (abs_nat hy.2)
  have n2 := abs_mul hy.1 (abs_nat hx.2)
  have n3 := abs_mul (abs_nat hx.2) (abs_nat hy.2)
  rw [Nat.add_comm b a] at n2
  have d := Int.mul_ne_zero (den_ne x) (den_ne y)
  exact ⟨Nat.lt_of_le_of_lt (num_le d) (abs_add n1 n2), Nat.lt_of_le_of_lt (den_le d) (abs_le n3 (by omega))⟩
theorem rb_mul {a b : Nat} {x y : Rat} (hx : RB' a x) (hy : RB' b y) : RB' (a + b) (x * y) := by
  rw [← mul_divInt]
  have n1 := abs_mul hx.1 hy.1
  have n3 := abs_mul (abs_nat hx.2) (abs_nat hy.2)
  have d := Int.mul_ne_zero (den_ne x) (den_ne y)
  exact ⟨Nat.lt_of_le_of_lt (num_le d) n1, Nat.lt_of_le_of_lt (den_le d) n3⟩
theorem rb_neg {a : Nat} {x : Rat} (hx : RB' a x) : RB' a (-x) := ⟨by rw [Rat.neg_num, Int.natAbs_neg]; exact hx.1, hx.2⟩
theorem rb_sub {a b : Nat} {x y : Rat} (hx : RB' a x) (hy : RB' b y) : RB' (a + b + 1) (x - y) := by
  rw [Rat.sub_eq_add_neg]
  exact rb_add hx (rb_neg hy)
theorem sz_rb {s : Nat} {r : Rat} (h : RB' s r) (g : s ≤ 60000000) : Sz r := rb_mono h (by unfold szN; exact g)
/-! ### promises -/
def Row (d : VL.D) (l : List Rat) : Prop := d = .lst (dRs l) ∨ d = .tup (dRs l)
def vPoly : VF := ⟨.read, fun ds q => ∃ d l, ds = [d] ∧ Row d l ∧ q (.val (dP (trim l))) none⟩
def vDegree : VF := ⟨.read, fun ds q => ∃ l, ds = [dP l] ∧ q (.val (.int ((l.length : Int) - 1))) none⟩
def vAtPower : VF := ⟨.read, fun ds q => ∃ (l : List Rat) (k : Nat), ds = [dP l, .int k] ∧ q (.val (dR (co l k))) none⟩
def vPOp (f : Rat → Rat → Rat) : VF := ⟨.read, fun ds q => ∃ (l m : List Rat) (s : Nat), ds = [dP l, dP m] ∧ PB s l ∧ PB s m ∧ 1 ≤ s ∧ s ≤ 60000000 ∧ l.length ≤ 1000 ∧ m.length ≤ 1000 ∧ q (.val (dP (mk (max l.length m.length) fun k => f (co l k) (co m k)))) none⟩
def vPScaled : VF := ⟨.read, fun ds q => ∃ (l : List Rat) (c : Rat) (s : Nat), ds = [dP l, dR c] ∧ PB s l ∧ RB' s c ∧ 1 ≤ s ∧ s ≤ 60000000 ∧ l.length ≤ 1000 ∧ q (.val (dP (mk l.length fun k => co l k * c))) none⟩
/-- the sums of products: the first k numbers of l -/
def cv (l m : List Rat) : Nat → Nat → Rat
  | 0, _ => 0
  | k + 1, t => cv l m k t + (if k ≤ t then co l k * co m (t - k) else 0)
def pmul (l m : List Rat) : List Rat := mk (l.length + m.length) (cv l m l.length)
/-- products and all partial sums are of few bits -/
def PTok (l m : List Rat) : Prop := ∃ S, PB S l ∧ PB S m ∧ 1 ≤ S ∧ S ≤ 60000000 ∧ (∀ i j, RB' S (co l i * co m j)) ∧ (∀ k j t, RB' S (cv l m k t + (if k ≤ t ∧ t - k < j then co l k * co m (t - k) else 0))) ∧ l.length ≤ 1000 ∧ m.length ≤ 1000
def vPTimes : VF := ⟨.read, fun ds q => ∃ (l m : List Rat), ds = [dP l, dP m] ∧ PTok l m ∧ q (.val (dP (pmul l m))) none⟩
def slope (l : List Rat) : List Rat := mk (l.length - 1) fun k => ((k + 1 : Nat) : Rat) * co l (k + 1)
def vPSlope : VF := ⟨.read, fun ds q => ∃ (l : List Rat) (s : Nat), ds = [dP l] ∧ PB s l ∧ 10 ≤ s ∧ s ≤ 60000000 ∧ l.length ≤ 1000 ∧ q (.val (dP (slope l))) none⟩
def vLawPoly : VF := ⟨.wrt, fun ds q => ∃ (n : Nat) (b : List VL.D) (m : Nat), ds = [.lst b, .int m] ∧ Bx n b ∧ n ≤ 50000 ∧ m ≤ 100 ∧ ∀ l b', PB 50 l → IsT l → l.length ≤ m + 1 → Bx (n + 1 + 3 * (m + 1)) b' → q (.val (dP l)) (some b')⟩
def vIsPoly : VF := ⟨.read, fun ds q => ∃ l, ds = [dP l] ∧ IsT l ∧ l.length ≤ 1000 ∧ q (.val (.bl true)) none⟩
def G2 (L : Nat → VF) : Nat → VF
  | 0 => vPoly
  | 1 => vDegree
  | 2 => vAtPower
  | 3 => vPOp (· + ·)
  | 4 => vPOp (· - ·)
  | 5 => vPScaled
  | 6 => vPTimes
  | 7 => vPSlope
  | 8 => vOp (· + ·)
  | 9 => vOp (· * ·)
  | 10 => vPoly
  | 11 => vLawPoly
  | 12 => vIsPoly
  | 13 => vPOp (· + ·)
  | 14 => vPTimes
  | 15 => vPScaled
  | 16 => vStub
  | 17 => vStub
  | 18 => vStub
  | 19 => vStub
  | n + 20 => L n
variable {L : Nat → VF}
abbrev Gm (L : Nat → VF) : Nat → VF := G1 (G2 L)
abbrev Kq (q : R → Option (List VL.D) → Prop) : VEnds := { nx := fun _ => q (.val .non) none, rt := fun r _ => q r none }
theorem atI_dRs {l : List Rat} {k : Nat} (h : k < l.length) : atI (dRs l) (k : Int) = some (dR (co l k)) := atI_nat (dRs_get h)
theorem good_poly : Good (Gm L) b_poly 1 1 vPoly := by
  rintro ds q ⟨d, l, rfl, hd, hq⟩ -
  have inv : ∀ d : VL.D, Row d l → (∀ m : Nat, m ≤ l.length → (∀ k, m ≤ k → co l k = 0) → wSs (Gm L) (ss [.whl (.and (.cmp .gt (.var 1) (.int 0)) (.cmp .eq (.ix (.var 0) (.bin .sub (.var 1) (.int 1))) (.glo (.tup [.int 0, .int 1])))) (ss [.aug 1 .sub (.int 1)]),
      .ret (.blt .tuple (.cons (.sl (.var 0) .no (.yes (.var 1))) .nil))]) [.val d, .val (.int m)] (Kq q)) := by
    intro d hd m hm h0
    refine ⟨fun m ρ => ρ = [.val d, .val (.int (m : Nat))] ∧ m ≤ l.length ∧ ∀ k, m ≤ k → co l k = 0, ⟨m, rfl, hm, h0⟩, ?_⟩
    rintro m _ ⟨rfl, hm, h0⟩
    have fin : (m = 0 ∨ co l (m - 1) ≠ 0) → wSs (Gm L) (ss [.ret (.blt .tuple (.cons (.sl (.var 0) .no (.yes (.var 1))) .nil))]) [.val d, .val (.int (m : Nat))] (Kq q) := fun h2 => by
      have e : VL.D.tup (cutD (dRs l) none (some (m : Int))) = dP (trim l) := by
        rw [cut_to, ← take_trim hm h0 h2]
        unfold dP dRs
        rw [List.map_take]
      rcases hd with rfl | rfl
      · show q (.val (.tup (cutD (dRs l) none (some (m : Int))))) none
        rw [e]; exact hq
      · show q (.val (.tup (cutD (dRs l) none (some (m : Int))))) none
        rw [e]; exact hq
    have e0 : VL.D.tup [.int 0, .int 1] = dR 0 := rfl
    refine ⟨fun t => ?_, fun t => ⟨fun z => (by cases z), fun _ => fin (.inl ?_)⟩⟩
    · have t : 0 < (m : Int) := dec_t t
      have m1 : m - 1 < l.length := by omega
      have at1 : atI (dRs l) ((m : Int) - 1) = some (dR (co l (m - 1))) := by
        have := atI_dRs m1
        rw [show ((m - 1 : Nat) : Int) = (m : Int) - 1 by omega] at this
        exact this
      have go : br (deq (dR (co l (m - 1))) (.tup [.int 0, .int 1])) (∃ m', m' < m ∧ ([.val d, .val (.int ((m : Int) - 1))] : En) = [.val d, .val (.int (m' : Nat))] ∧ m' ≤ l.length ∧ ∀ k, m' ≤ k → co l k = 0) (wSs (Gm L) (ss [.ret (.blt .tuple (.cons (.sl (.var 0) .no (.yes (.var 1))) .nil))]) [.val d, .val (.int (m : Nat))] (Kq q)) := by
        rw [e0, deq_dR]
        refine ⟨fun z => ?_, fun z => fin (.inr (dec_f z))⟩
        have z := dec_t z
        refine ⟨m - 1, by omega, by rw [show ((m - 1 : Nat) : Int) = (m : Int) - 1 by omega], by omega, fun k hk => ?_⟩
        by_cases e : k = m - 1
        · rw [e, z]
        · exact h0 k (by omega)
      have shp : dsh (dR (co l (m - 1))) = true := rfl
      rcases hd with rfl | rfl
      · exact ⟨_, at1, rfl, rfl, fun z => (let ⟨m', a, b, c⟩ := go.1 z; ⟨_, rfl, m', a, b, c⟩), fun z => go.2 z⟩
      · exact ⟨_, at1, rfl, rfl, fun z => (let ⟨m', a, b, c⟩ := go.1 z; ⟨_, rfl, m', a, b, c⟩), fun z => go.2 z⟩
    · have t : ¬ 0 < (m : Int) := dec_f t
      omega
  have h0 : ∀ k, l.length ≤ k → co l k = 0 := fun k hk => co_out hk
  rcases hd with rfl | rfl
  · have := inv _ (.inl rfl) l.length (Nat.le_refl _) h0
    rw [← dRs_len l] at this
    exact this
  · have := inv _ (.inr rfl) l.length (Nat.le_refl _) h0
    rw [← dRs_len l] at this
    exact this
theorem good_degree : Good (Gm L) b_degree 1 0 vDegree := by
  rintro ds q ⟨l, rfl, hq⟩ -
  rw [← dRs_len l] at hq
  exact hq
theorem good_at_power : Good (Gm L) b_at_power 2 0 vAtPower := by
  rintro ds q ⟨l, k, rfl, hq⟩ -
  refine ⟨fun t => ?_, fun t => ?_⟩
  · have t : (k : Int) < ((dRs l).length : Int) := dec_t t
    rw [dRs_len] at t
    exact ⟨_, atI_dRs (by omega), hq⟩
  · have t : ¬ (k : Int) < ((dRs l).length : Int) := dec_f t
    rw [dRs_len] at t
    rw [co_out (by omega)] at hq
    exact hq
theorem good_p_plus : Good (Gm L) b_p_plus 2 1 (vPOp (· + ·)) := by
  rintro ds q ⟨l, m, s, rfl, hl, hm, s1, s2, l1, l2, hq⟩ -
  have lenl := dRs_len l
  have lenm := dRs_len m
  have emax : (max ((dRs l).length : Int) ((dRs m).length : Int)).toNat = max l.length m.length := by rw [lenl, lenm]; omega
  refine ⟨⟨by rw [lenl, lenm]; omega, by rw [lenl, lenm]; omega⟩, ?_, fun k acc ρ => acc = dRs ((List.range k).map fun t => co l t + co m t) ∧ ρ = [.val (dP l), .val (dP m), .un], ⟨rfl, rfl⟩, ?_, ?_⟩
  · rw [rngs_length, emax]; unfold Sm; omega
  · rintro k d acc _ hd ⟨rfl, rfl⟩
    obtain ⟨rfl, hk⟩ := rngs_at hd
    refine ⟨fun _ => ?_, fun h => (by cases h)⟩
    refine ⟨rfl, l, k, rfl, .inl rfl, rfl, m, k, rfl, .inl rfl, rfl, co l k, co m k, rfl, sz_rb (pb_co hl s1 k) s2, sz_rb (pb_co hm s1 k) s2, .inl rfl, ?_, rfl⟩
    rw [List.range_succ, List.map_append]
    unfold dRs
    rw [List.map_append]
    rfl
  · rintro acc _ ⟨rfl, rfl⟩
    rw [rngs_length, emax]
    exact ⟨rfl, _, _, rfl, .inl rfl, .inl rfl, hq⟩
theorem good_p_minus : Good (Gm L) b_p_minus 2 1 (vPOp (· - ·)) := by
  rintro ds q ⟨l, m, s, rfl, hl, hm, s1, s2, l1, l2, hq⟩ -
  have lenl := dRs_len l
  have lenm := dRs_len m
  have emax : (max ((dRs l).length : Int) ((dRs m).length : Int)).toNat = max l.length m.length := by rw [lenl, lenm]; omega
  refine ⟨⟨by rw [lenl, lenm]; omega, by rw [lenl, lenm]; omega⟩, ?_, fun k acc ρ => acc = dRs ((List.range k).map fun t => co l t - co m t) ∧ ρ = [.val (dP l), .val (dP m), .un], ⟨rfl, rfl⟩, ?_, ?_⟩
  · rw [rngs_length, emax]; unfold Sm; omega
  · rintro k d acc _ hd ⟨rfl, rfl⟩
    obtain ⟨rfl, hk⟩ := rngs_at hd
    refine ⟨fun _ => ?_, fun h => (by cases h)⟩
    refine ⟨rfl, l, k, rfl, .inl rfl, rfl, m, k, rfl, .inl rfl, rfl, co l k, co m k, rfl, sz_rb (pb_co hl s1 k) s2, sz_rb (pb_co hm s1 k) s2, .inl rfl, ?_, rfl⟩
    rw [List.range_succ, List.map_append]
    unfold dRs
    rw [List.map_append]
    rfl
  · rintro acc _ ⟨rfl, rfl⟩
    rw [rngs_length, emax]
    exact ⟨rfl, _, _, rfl, .inl rfl, .inl rfl, hq⟩
theorem good_p_scaled : Good (Gm L) b_p_scaled 2 1 vPScaled := by
  rintro ds q ⟨l, c, s, rfl, hl, hc, s1, s2, l1, hq⟩ -
  have lenl := dRs_len l
  refine ⟨?_, fun k acc ρ => acc = dRs ((List.range k).map fun t => co l t * c) ∧ ρ = [.val (dP l), .val (dR c), .un], ⟨rfl, rfl⟩, ?_, ?_⟩
  · rw [lenl]; unfold Sm; omega
  · rintro k d acc _ hd ⟨rfl, rfl⟩
    have hk : k < l.length := by rw [← lenl]; exact (List.getElem?_eq_some_iff.mp hd).1
    rw [dRs_get hk] at hd
    cases hd
    refine ⟨fun _ => ?_, fun h => (by cases h)⟩
    refine ⟨rfl, co l k, c, rfl, sz_rb (pb_co hl s1 k) s2, sz_rb hc s2, .inl rfl, ?_, rfl⟩
    rw [List.range_succ, List.map_append]
    unfold dRs
    rw [List.map_append]
    rfl
  · rintro acc _ ⟨rfl, rfl⟩
    rw [lenl]
    exact ⟨rfl, _, _, rfl, .inl rfl, .inl rfl, hq⟩
theorem rngs1_at {n k : Nat} {d : VL.D} (h : (rngs 1 n 1)[k]? = some d) : d = .int (k + 1 : Nat) ∧ k < n := by
  unfold rngs at h
  rw [List.getElem?_map] at h
  by_cases hk : k < n
  · rw [List.getElem?_range hk] at h
    cases h
    refine ⟨?_, hk⟩
    show VL.D.int (1 + (k : Int) * 1) = _
    rw [Int.mul_one, Int.add_comm]; rfl
  · rw [List.getElem?_eq_none (by simp; omega)] at h
    cases h
theorem good_p_slope : Good (Gm L) b_p_slope 1 1 vPSlope := by
  rintro ds q ⟨l, s, rfl, hl, s1, s2, l1, hq⟩ -
  have lenl := dRs_len l
  have e : (((dRs l).length : Int) - 1).toNat = l.length - 1 := by rw [lenl]; omega
  refine ⟨⟨by decide, by decide, by rw [lenl]; omega, by rw [lenl]; omega⟩, ?_, fun k acc ρ => acc = dRs ((List.range k).map fun k => ((k + 1 : Nat) : Rat) * co l (k + 1)) ∧ ρ = [.val (dP l), .un], ⟨rfl, rfl⟩, ?_, ?_⟩
  · rw [rngs_length, e]; unfold Sm; omega
  · rintro k d acc _ hd ⟨rfl, rfl⟩
    obtain ⟨rfl, hk⟩ := rngs1_at hd
    rw [e] at hk
    refine ⟨fun _ => ?_, fun h => (by cases h)⟩
    have hk1 : RB' s (((k + 1 : Nat) : Rat)) := by
      have e10 : (2 : Nat) ^ 10 = 1024 := by decide
      have : k + 1 < 2 ^ s := Nat.lt_of_lt_of_le (by omega) (Nat.pow_le_pow_right (by decide) s1)
      refine ⟨?_, ?_⟩
      · exact abs_nat this
      · show 1 < 2 ^ s
        omega
    refine ⟨rfl, _, atI_dRs (k := k + 1) (by omega), rfl, ((k + 1 : Nat) : Rat), co l (k + 1), rfl, sz_rb hk1 s2, sz_rb (pb_co hl (by omega) (k + 1)) s2, .inl rfl, ?_, rfl⟩
    rw [List.range_succ, List.map_append]
    unfold dRs
    rw [List.map_append]
    rfl
  · rintro acc _ ⟨rfl, rfl⟩
    rw [rngs_length, e]
    exact ⟨rfl, _, _, rfl, .inl rfl, .inl rfl, hq⟩
theorem lfs_dRs : ∀ l : List Rat, lfs (dRs l) = true
  | [] => rfl
  | a :: l => by
    show (lf (dR a) && lfs (dRs l)) = true
    rw [lfs_dRs l]; rfl
theorem lf_dP (l : List Rat) : lfR (.val (dP l)) = true := by
  show lf (.tup (dRs l)) = true
  unfold lf
  exact lfs_dRs l
theorem ixN_nat {n j : Nat} (h : j < n) : ixN n (j : Int) = some j := by
  have hj : j < (List.replicate n (0 : Nat)).length := by simpa using h
  unfold ixN
  rw [if_pos (by omega : (0 : Int) ≤ j)]
  simp [h]
theorem co_set {l : List Rat} {i : Nat} {x : Rat} (h : i < l.length) (t : Nat) : co (l.set i x) t = if t = i then x else co l t := by
  unfold co
  rw [List.getD_eq_getElem?_getD, List.getElem?_set]
  by_cases e : i = t
  · subst e; rw [if_pos rfl, if_pos h, if_pos rfl]; rfl
  · rw [if_neg e, if_neg (Ne.symm e), List.getD_eq_getElem?_getD]
theorem dRs_set (l : List Rat) (i : Nat) (x : Rat) : (dRs l).set i (dR x) = dRs (l.set i x) := by
  unfold dRs; rw [List.map_set]
theorem co_rep (n t : Nat) : co (List.replicate n 0) t = 0 := by
  unfold co
  rw [List.getD_eq_getElem?_getD, List.getElem?_replicate]
  split <;> rfl
theorem rep_row (n : Nat) : (List.replicate n [dR 0]).flatten = dRs (List.replicate n 0) := by
  unfold dRs
  induction n with
  | zero => rfl
  | succ n ih => rw [List.replicate_succ, List.flatten_cons, ih, List.replicate_succ]; rfl
theorem enum_at {l : List Rat} {k : Nat} {d : VL.D} (h : ((dRs l).mapIdx fun i d => VL.D.tup [.int (i : Nat), d])[k]? = some d) : k < l.length ∧ d = .tup [.int k, dR (co l k)] := by
  rw [List.getElem?_mapIdx] at h
  by_cases hk : k < l.length
  · rw [dRs_get hk] at h
    cases h
    exact ⟨hk, rfl⟩
  · rw [List.getElem?_eq_none (by rw [dRs_len]; omega)] at h
    cases h
theorem cv_mk (l m : List Rat) (acc : List Rat) (h : acc.length = l.length + m.length) (c : ∀ t, co acc t = cv l m l.length t) : trim acc = pmul l m := by
  refine isT_ext (trim_isT _) (mk_isT _ _) fun t => ?_
  rw [trim_co]
  unfold pmul
  rw [mk_co]
  split
  · exact c t
  · exact co_out (by omega)
theorem good_p_times : Good (Gm L) b_p_times 2 5 vPTimes := by
  rintro ds q ⟨l, m, rfl, ⟨s, hl, hm, s1, s2, hp, hsum, l1, l2⟩, hq⟩ -
  have lenl := dRs_len l
  have lenm := dRs_len m
  have en : (((dRs l).length : Int) + ((dRs m).length : Int)).toNat = l.length + m.length := by rw [lenl, lenm]; omega
  refine ⟨rfl, by rw [en]; unfold Sm; simp only [List.length_cons, List.length_nil]; omega, by rw [lenl, lenm]; omega, by rw [lenl, lenm]; omega, ?_⟩
  have e0 : (List.replicate (((dRs l).length : Int) + ((dRs m).length : Int)).toNat [VL.D.tup [.int 0, .int 1]]).flatten = dRs (List.replicate (l.length + m.length) 0) := by
    rw [en]; exact rep_row _
  refine ⟨fun k ρ => ∃ acc s3 s4 s5 s6, ρ = [.val (dP l), .val (dP m), .own (dRs acc), s3, s4, s5, s6] ∧ acc.length = l.length + m.length ∧ (∀ t, co acc t = cv l m k t), ⟨_, .un, .un, .un, .un, congrArg (fun z => ([.val (dP l), .val (dP m), .own z, .un, .un, .un, .un] : En)) e0, by simp, fun t => co_rep _ t⟩, ?_, ?_⟩
  · rintro k d _ hd ⟨acc, s3, s4, s5, s6, rfl, hlen, hc⟩
    obtain ⟨hk, rfl⟩ := enum_at hd
    refine ⟨rfl, fun j ρ => ∃ acc s5 s6, ρ = [.val (dP l), .val (dP m), .own (dRs acc), .val (.int k), .val (dR (co l k)), s5, s6] ∧ acc.length = l.length + m.length ∧ (∀ t, co acc t = cv l m k t + (if k ≤ t ∧ t - k < j then co l k * co m (t - k) else 0)), ⟨acc, _, _, rfl, hlen, fun t => ?_⟩, ?_, ?_⟩
    · rw [if_neg (by omega), Rat.add_zero]; exact hc t
    · rintro j d _ hd ⟨acc, s5, s6, rfl, hlen, hc⟩
      obtain ⟨hj, rfl⟩ := enum_at hd
      have hkj : k + j < acc.length := by omega
      have ea : (k : Int) + (j : Int) = ((k + j : Nat) : Int) := by omega
      have at1 : atI (dRs acc) ((k : Int) + (j : Int)) = some (dR (co acc (k + j))) := by rw [ea]; exact atI_dRs hkj
      have ix1 : ixN (dRs acc).length ((k : Int) + (j : Int)) = some (k + j) := by rw [ea, dRs_len]; exact ixN_nat hkj
      have p1 := hp k j
      have o1 : RB' s (co acc (k + j)) := by rw [hc]; exact hsum k j (k + j)
      refine ⟨rfl, _, at1, rfl, _, _, rfl, sz_rb (pb_co hl s1 k) (by omega), sz_rb (pb_co hm s1 j) (by omega), .inl rfl, rfl, _, _, rfl, sz_rb o1 (by omega), sz_rb p1 (by omega), .inl rfl, rfl, k + j, ix1, acc.set (k + j) (co acc (k + j) + co l k * co m j), .val (.int j), .val (dR (co m j)), ?_, by rw [List.length_set]; exact hlen, fun t => ?_⟩
      · rw [← dRs_set]; rfl
      · rw [co_set hkj]
        by_cases e : t = k + j
        · subst e
          rw [if_pos rfl, if_pos (by omega), hc, if_neg (by omega), Rat.add_zero, show k + j - k = j by omega]
        · rw [if_neg e, hc]
          congr 1
          by_cases g : k ≤ t ∧ t - k < j
          · rw [if_pos g, if_pos (by omega)]
          · rw [if_neg g, if_neg (by omega)]
    · rintro _ ⟨acc, s5, s6, rfl, hlen, hc⟩
      rw [List.length_mapIdx, lenm] at hc
      refine ⟨acc, _, _, _, _, rfl, hlen, fun t => ?_⟩
      rw [hc]
      show _ = cv l m k t + (if k ≤ t then co l k * co m (t - k) else 0)
      congr 1
      by_cases g : k ≤ t
      · rw [if_pos g]
        by_cases g2 : t - k < m.length
        · rw [if_pos ⟨g, g2⟩]
        · rw [if_neg (by omega), co_out (show m.length ≤ t - k by omega), Rat.mul_zero]
      · rw [if_neg g, if_neg (by omega)]
  · rintro _ ⟨acc, s3, s4, s5, s6, rfl, hlen, hc⟩
    rw [List.length_mapIdx, lenl] at hc
    rw [← cv_mk l m acc hlen hc] at hq
    exact ⟨rfl, _, acc, rfl, .inl rfl, .inr (lf_dP _), hq⟩
theorem good_law_sum : Good (Gm L) b_law_sum 2 0 (vOp (· + ·)) := by
  rintro ds q ⟨a, b, rfl, ⟨a1, a2⟩, ⟨b1, b2⟩, hq⟩ -
  have hq : q (.val (dR (a + b))) none := hq
  rw [← add_divInt] at hq
  exact ⟨_, rfl, _, rfl, sz_mul a1 (abs_nat b2), _, rfl, _, rfl, sz_mul b1 (abs_nat a2), _, rfl, _, rfl, sz_mul (abs_nat a2) (abs_nat b2), rfl, _, _, rfl, Int.mul_pos (den_p a) (den_p b), .inl rfl, hq⟩
theorem good_law_product : Good (Gm L) b_law_product 2 0 (vOp (· * ·)) := by
  rintro ds q ⟨a, b, rfl, ⟨a1, a2⟩, ⟨b1, b2⟩, hq⟩ -
  have hq : q (.val (dR (a * b))) none := hq
  rw [← mul_divInt] at hq
  exact ⟨_, rfl, _, rfl, sz_mul a1 b1, _, rfl, _, rfl, sz_mul (abs_nat a2) (abs_nat b2), rfl, _, _, rfl, Int.mul_pos (den_p a) (den_p b), .inl rfl, hq⟩
theorem good_law_poly_of : Good (Gm L) b_law_poly_of 1 1 vPoly := by
  rintro ds q ⟨d, l, rfl, hd, hq⟩ -
  have inv : ∀ d : VL.D, Row d l → (∀ m : Nat, m ≤ l.length → (∀ k, m ≤ k → co l k = 0) → wSs (Gm L) (ss [.whl (.and (.cmp .gt (.var 1) (.int 0)) (.cmp .eq (.ix (.ix (.var 0) (.bin .sub (.var 1) (.int 1))) (.int 0)) (.int 0))) (ss [.asg 1 (.bin .sub (.var 1) (.int 1))]),
      .ret (.blt .tuple (.cons (.sl (.var 0) .no (.yes (.var 1))) .nil))]) [.val d, .val (.int m)] (Kq q)) := by
    intro d hd m hm h0
    refine ⟨fun m ρ => ρ = [.val d, .val (.int (m : Nat))] ∧ m ≤ l.length ∧ ∀ k, m ≤ k → co l k = 0, ⟨m, rfl, hm, h0⟩, ?_⟩
    rintro m _ ⟨rfl, hm, h0⟩
    have fin : (m = 0 ∨ co l (m - 1) ≠ 0) → wSs (Gm L) (ss [.ret (.blt .tuple (.cons (.sl (.var 0) .no (.yes (.var 1))) .nil))]) [.val d, .val (.int (m : Nat))] (Kq q) := fun h2 => by
      have e : VL.D.tup (cutD (dRs l) none (some (m : Int))) = dP (trim l) := by
        rw [cut_to, ← take_trim hm h0 h2]
        unfold dP dRs
        rw [List.map_take]
      rcases hd with rfl | rfl
      · show q (.val (.tup (cutD (dRs l) none (some (m : Int))))) none
        rw [e]; exact hq
      · show q (.val (.tup (cutD (dRs l) none (some (m : Int))))) none
        rw [e]; exact hq
    have e0 : VL.D.tup [.int 0, .int 1] = dR 0 := rfl
    refine ⟨fun t => ?_, fun t => ⟨fun z => (by cases z), fun _ => fin (.inl ?_)⟩⟩
    · have t : 0 < (m : Int) := dec_t t
      have m1 : m - 1 < l.length := by omega
      have at1 : atI (dRs l) ((m : Int) - 1) = some (dR (co l (m - 1))) := by
        have := atI_dRs m1
        rw [show ((m - 1 : Nat) : Int) = (m : Int) - 1 by omega] at this
        exact this
      have go : br (decide ((co l (m - 1)).num = 0)) (∃ m', m' < m ∧ ([.val d, .val (.int ((m : Int) - 1))] : En) = [.val d, .val (.int (m' : Nat))] ∧ m' ≤ l.length ∧ ∀ k, m' ≤ k → co l k = 0) (wSs (Gm L) (ss [.ret (.blt .tuple (.cons (.sl (.var 0) .no (.yes (.var 1))) .nil))]) [.val d, .val (.int (m : Nat))] (Kq q)) := by
        refine ⟨fun z => ?_, fun z => fin (.inr fun w => dec_f z (by rw [w]; rfl))⟩
        have z : co l (m - 1) = 0 := Rat.num_eq_zero.mp (dec_t z)
        refine ⟨m - 1, by omega, by rw [show ((m - 1 : Nat) : Int) = (m : Int) - 1 by omega], by omega, fun k hk => ?_⟩
        by_cases e : k = m - 1
        · rw [e, z]
        · exact h0 k (by omega)
      have shp : dsh (dR (co l (m - 1))) = true := rfl
      rcases hd with rfl | rfl
      · exact ⟨_, at1, _, rfl, fun z => (let ⟨m', a, b, c⟩ := go.1 z; ⟨m', a, b, c⟩), fun z => go.2 z⟩
      · exact ⟨_, at1, _, rfl, fun z => (let ⟨m', a, b, c⟩ := go.1 z; ⟨m', a, b, c⟩), fun z => go.2 z⟩
    · have t : ¬ 0 < (m : Int) := dec_f t
      omega
  have h0 : ∀ k, l.length ≤ k → co l k = 0 := fun k hk => co_out hk
  rcases hd with rfl | rfl
  · have := inv _ (.inl rfl) l.length (Nat.le_refl _) h0
    rw [← dRs_len l] at this
    exact this
  · have := inv _ (.inr rfl) l.length (Nat.le_refl _) h0
    rw [← dRs_len l] at this
    exact this
theorem good_law_multiplied : Good (Gm L) b_law_multiplied 2 5 vPTimes := by
  rintro ds q ⟨l, m, rfl, ⟨s, hl, hm, s1, s2, hp, hsum, l1, l2⟩, hq⟩ -
  have lenl := dRs_len l
  have lenm := dRs_len m
  have en : (((dRs l).length : Int) + ((dRs m).length : Int)).toNat = l.length + m.length := by rw [lenl, lenm]; omega
  refine ⟨rfl, rfl, by rw [en]; unfold Sm; simp only [List.length_cons, List.length_nil]; omega, by rw [lenl, lenm]; omega, by rw [lenl, lenm]; omega, ?_⟩
  have e0 : (List.replicate (((dRs l).length : Int) + ((dRs m).length : Int)).toNat [VL.D.tup [.int 0, .int 1]]).flatten = dRs (List.replicate (l.length + m.length) 0) := by
    rw [en]; exact rep_row _
  refine ⟨fun k ρ => ∃ acc s3 s4 s5 s6, ρ = [.val (dP l), .val (dP m), .own (dRs acc), s3, s4, s5, s6] ∧ acc.length = l.length + m.length ∧ (∀ t, co acc t = cv l m k t), ⟨_, .un, .un, .un, .un, congrArg (fun z => ([.val (dP l), .val (dP m), .own z, .un, .un, .un, .un] : En)) e0, by simp, fun t => co_rep _ t⟩, ?_, ?_⟩
  · rintro k d _ hd ⟨acc, s3, s4, s5, s6, rfl, hlen, hc⟩
    obtain ⟨hk, rfl⟩ := enum_at hd
    refine ⟨rfl, fun j ρ => ∃ acc s5 s6, ρ = [.val (dP l), .val (dP m), .own (dRs acc), .val (.int k), .val (dR (co l k)), s5, s6] ∧ acc.length = l.length + m.length ∧ (∀ t, co acc t = cv l m k t + (if k ≤ t ∧ t - k < j then co l k * co m (t - k) else 0)), ⟨acc, _, _, rfl, hlen, fun t => ?_⟩, ?_, ?_⟩
    · rw [if_neg (by omega), Rat.add_zero]; exact hc t
    · rintro j d _ hd ⟨acc, s5, s6, rfl, hlen, hc⟩
      obtain ⟨hj, rfl⟩ := enum_at hd
      have hkj : k + j < acc.length := by omega
      have ea : (k : Int) + (j : Int) = ((k + j : Nat) : Int) := by omega
      have at1 : atI (dRs acc) ((k : Int) + (j : Int)) = some (dR (co acc (k + j))) := by rw [ea]; exact atI_dRs hkj
      have ix1 : ixN (dRs acc).length ((k : Int) + (j : Int)) = some (k + j) := by rw [ea, dRs_len]; exact ixN_nat hkj
      have p1 := hp k j
      have o1 : RB' s (co acc (k + j)) := by rw [hc]; exact hsum k j (k + j)
      refine ⟨rfl, _, at1, rfl, _, _, rfl, sz_rb (pb_co hl s1 k) (by omega), sz_rb (pb_co hm s1 j) (by omega), .inl rfl, rfl, _, _, rfl, sz_rb o1 (by omega), sz_rb p1 (by omega), .inl rfl, rfl, k + j, ix1, acc.set (k + j) (co acc (k + j) + co l k * co m j), .val (.int j), .val (dR (co m j)), ?_, by rw [List.length_set]; exact hlen, fun t => ?_⟩
      · rw [← dRs_set]; rfl
      · rw [co_set hkj]
        by_cases e : t = k + j
        · subst e
          rw [if_pos rfl, if_pos (by omega), hc, if_neg (by omega), Rat.add_zero, show k + j - k = j by omega]
        · rw [if_neg e, hc]
          congr 1
          by_cases g : k ≤ t ∧ t - k < j
          · rw [if_pos g, if_pos (by omega)]
          · rw [if_neg g, if_neg (by omega)]
    · rintro _ ⟨acc, s5, s6, rfl, hlen, hc⟩
      rw [List.length_mapIdx, lenm] at hc
      refine ⟨acc, _, _, _, _, rfl, hlen, fun t => ?_⟩
      rw [hc]
      show _ = cv l m k t + (if k ≤ t then co l k * co m (t - k) else 0)
      congr 1
      by_cases g : k ≤ t
      · rw [if_pos g]
        by_cases g2 : t - k < m.length
        · rw [if_pos ⟨g, g2⟩]
        · rw [if_neg (by omega), co_out (show m.length ≤ t - k by omega), Rat.mul_zero]
      · rw [if_neg g, if_neg (by omega)]
  · rintro _ ⟨acc, s3, s4, s5, s6, rfl, hlen, hc⟩
    rw [List.length_mapIdx, lenl] at hc
    rw [← cv_mk l m acc hlen hc] at hq
    exact ⟨rfl, _, acc, rfl, .inl rfl, .inr (lf_dP _), hq⟩
theorem good_law_scaled : Good (Gm L) b_law_scaled 2 1 vPScaled := by
  rintro ds q ⟨l, c, s, rfl, hl, hc, s1, s2, l1, hq⟩ -
  have lenl := dRs_len l
  refine ⟨?_, fun k acc ρ => acc = dRs ((List.range k).map fun t => co l t * c) ∧ ρ = [.val (dP l), .val (dR c), .un], ⟨rfl, rfl⟩, ?_, ?_⟩
  · rw [lenl]; unfold Sm; omega
  · rintro k d acc _ hd ⟨rfl, rfl⟩
    have hk : k < l.length := by rw [← lenl]; exact (List.getElem?_eq_some_iff.mp hd).1
    rw [dRs_get hk] at hd
    cases hd
    refine ⟨fun _ => ?_, fun h => (by cases h)⟩
    refine ⟨rfl, co l k, c, rfl, sz_rb (pb_co hl s1 k) s2, sz_rb hc s2, .inl rfl, ?_, rfl⟩
    rw [List.range_succ, List.map_append]
    unfold dRs
    rw [List.map_append]
    rfl
  · rintro acc _ ⟨rfl, rfl⟩
    rw [lenl]
    exact ⟨rfl, _, _, rfl, .inl rfl, .inl rfl, hq⟩
theorem pb_trim {s : Nat} {l : List Rat} (h : PB s l) : PB s (trim l) := fun r hr => by
  obtain ⟨k, hk, rfl⟩ := List.getElem_of_mem hr
  have e := trim_co l k
  rw [co_in hk, co_in (Nat.lt_of_lt_of_le hk (trim_le l))] at e
  rw [e]
  exact h _ (List.getElem_mem _)
theorem good_law_poly : Good (Gm L) b_law_poly 2 1 vLawPoly := by
  rintro ds0 rest q ⟨n, b, m, e, hb, hn, hm, hq⟩ -
  cases e
  refine ⟨rfl, rfl, n, ds0, _, rfl, hb, by omega, by omega, fun t b1 t1 t2 hb1 => ⟨b1, rfl, ⟨by omega, by omega⟩, ?_⟩⟩
  refine ⟨by rw [rngs_length]; unfold Sm; omega, fun k acc ρ => ∃ b l, ρ = [.par b, .val (.int m), .un] ∧ acc = dRs l ∧ l.length = k ∧ PB 50 l ∧ Bx (n + 1 + 3 * k) b, ⟨b1, [], rfl, rfl, rfl, fun _ h => (by cases h), hb1⟩, ?_, ?_⟩
  · rintro k d acc _ hd ⟨b, l, rfl, rfl, hlen, hl, hb⟩
    obtain ⟨rfl, hk⟩ := rngs_at hd
    refine ⟨fun _ => ⟨rfl, rfl, n + 1 + 3 * k, b, rfl, hb, by omega, fun r b' hr hb' => ⟨b', rfl, b', l ++ [r], rfl, ?_, by simp [hlen], fun x hx => ?_, hb'⟩⟩, fun h => (by cases h)⟩
    · unfold dRs; rw [List.map_append]; rfl
    · rcases List.mem_append.mp hx with z | z
      · exact hl x z
      · rw [List.mem_singleton.mp z]; exact hr
  · rintro acc _ ⟨b, l, rfl, rfl, hlen, hl, hb⟩
    rw [rngs_length] at hlen hb
    refine ⟨rfl, _, l, rfl, .inl rfl, .inl rfl, ⟨_, rfl⟩, _, rfl, hq _ _ (pb_trim hl) (trim_isT l) (Nat.le_trans (trim_le l) (by omega)) (bx_one hb (by omega))⟩
theorem atI_end {l : List Rat} (h : l ≠ []) : atI (dRs l) (-1) = some (dR (co l (l.length - 1))) := by
  have e : l = l.dropLast ++ [l.getLast h] := (List.dropLast_concat_getLast h).symm
  have e2 : dRs l = dRs l.dropLast ++ [dR (l.getLast h)] := by
    conv => lhs; rw [e]
    unfold dRs; rw [List.map_append]; rfl
  have e3 : co l (l.length - 1) = l.getLast h := by
    have : l.length - 1 < l.length := by have := List.length_pos_iff.mpr h; omega
    rw [co_in this, List.getLast_eq_getElem]
  rw [e3, e2]
  exact atI_last _ _
theorem good_law_is_poly : Good (Gm L) b_law_is_poly 1 1 vIsPoly := by
  rintro ds q ⟨l, rfl, ht, hl, hq⟩ -
  have lenl := dRs_len l
  refine ⟨fun h => (by cases h), fun _ => ?_⟩
  refine ⟨by rw [lenl]; unfold Sm; omega, fun k acc ρ => acc = (List.replicate k true).map VL.D.bl ∧ ρ = [.val (dP l), .un], ⟨rfl, rfl⟩, ?_, ?_⟩
  · rintro k d acc _ hd ⟨rfl, rfl⟩
    have hk : k < l.length := by rw [← lenl]; exact (List.getElem?_eq_some_iff.mp hd).1
    rw [dRs_get hk] at hd
    cases hd
    refine ⟨fun _ => ⟨rfl, co l k, rfl, .inl rfl, ?_, rfl⟩, fun h => (by cases h)⟩
    rw [List.replicate_succ', List.map_append]; rfl
  · rintro acc _ ⟨rfl, rfl⟩
    have all1 : ∀ n, (List.replicate n true).all id = true := fun n => by simp
    refine ⟨_, rfl, fun h => ?_, fun _ => ⟨fun h => ?_, fun h => ?_⟩⟩
    · rw [all1] at h; cases h
    · exact hq
    · have h : ¬ ((dRs l).length : Int) = 0 := dec_f h
      have hne : l ≠ [] := fun z => by subst z; exact h rfl
      refine ⟨_, atI_end hne, _, rfl, ?_⟩
      have hnz : (co l (l.length - 1)).num ≠ 0 := fun z => by
        rcases ht with e | e
        · exact hne e
        · exact e (Rat.num_eq_zero.mp z)
      show q (.val (.bl (!decide _))) none
      rw [decide_eq_false hnz]
      exact hq
theorem pad_at {l m : List Rat} {k : Nat} (h : k < max l.length m.length) : atI (dRs l ++ (List.replicate ((dRs m).length : Int).toNat [dR 0]).flatten) (k : Int) = some (dR (co l k)) := by
  refine atI_nat ?_
  by_cases g : k < l.length
  · rw [List.getElem?_append_left (by rw [dRs_len]; exact g), dRs_get g]
  · rw [List.getElem?_append_right (by rw [dRs_len]; omega), rep_row, dRs_get (by rw [List.length_replicate, dRs_len, dRs_len]; omega), co_rep, co_out (by omega)]
theorem good_law_added : Good (Gm L) b_law_added 2 2 (vPOp (· + ·)) := by
  rintro ds q ⟨l, m, s, rfl, hl, hm, s1, s2, l1, l2, hq⟩ -
  have lenl := dRs_len l
  have lenm := dRs_len m
  have emax : (max ((dRs l).length : Int) ((dRs m).length : Int)).toNat = max l.length m.length := by rw [lenl, lenm]; omega
  refine ⟨rfl, ⟨by rw [lenl, lenm]; omega, by rw [lenl, lenm]; omega⟩, fun k ρ => ∃ s3, ρ = [.val (dP l), .val (dP m), .own (dRs ((List.range k).map fun t => co l t + co m t)), s3], ⟨_, rfl⟩, ?_, ?_⟩
  · rintro k d _ hd ⟨s3, rfl⟩
    obtain ⟨rfl, hk⟩ := rngs_at hd
    rw [emax] at hk
    have f1 : ∀ x : List Rat, x.length ≤ 1000 → Sm (([VL.D.tup [.int 0, .int 1]] : List VL.D).length * ((dRs x).length : Int).toNat) ∧ -(2 ^ 63) ≤ ((dRs x).length : Int) ∧ ((dRs x).length : Int) < 2 ^ 63 := fun x hx => by
      rw [dRs_len]; unfold Sm; simp only [List.length_cons, List.length_nil]
      exact ⟨by omega, by omega, by omega⟩
    have f2 : ∀ x y : List Rat, x.length ≤ 1000 → y.length ≤ 1000 → Sm ((dRs x).length + (List.replicate ((dRs y).length : Int).toNat [VL.D.tup [.int 0, .int 1]]).flatten.length) := fun x y hx hy => by
      have : (List.replicate ((dRs y).length : Int).toNat [VL.D.tup [.int 0, .int 1]]).flatten = dRs (List.replicate ((dRs y).length : Int).toNat 0) := rep_row _
      rw [this, dRs_len, dRs_len, List.length_replicate, dRs_len]; unfold Sm; omega
    obtain ⟨a1, a2, a3⟩ := f1 m l2
    obtain ⟨c1, c2, c3⟩ := f1 l l1
    refine ⟨rfl, rfl, rfl, a1, a2, a3, f2 l m l1 l2, _, pad_at hk, rfl, rfl, c1, c2, c3, f2 m l l2 l1, _, pad_at (by omega), rfl, co l k, co m k, rfl, sz_rb (pb_co hl s1 k) s2, sz_rb (pb_co hm s1 k) s2, .inl rfl, ?_, .val (.int k), ?_⟩
    · rw [dRs_len, List.length_map, List.length_range]; omega
    · rw [List.range_succ, List.map_append]
      unfold dRs
      rw [List.map_append]
      rfl
  · rintro _ ⟨s3, rfl⟩
    rw [rngs_length, emax]
    exact ⟨rfl, _, _, rfl, .inl rfl, .inr (lf_dP _), hq⟩
/-! ### data that is compared -/
def okD (n : Nat) (d : VL.D) : Prop := PyData.canLay0 (toP d) = true ∧ PyData.depth (toP d) ≤ n
def okDs (n : Nat) (ds : List VL.D) : Prop := PyData.canLayAll0 (toPs ds) = true ∧ PyData.depthAll (toPs ds) ≤ n
theorem okDs_of {n : Nat} : ∀ {ds : List VL.D}, (∀ d ∈ ds, okD n d) → okDs n ds
  | [], _ => ⟨rfl, Nat.zero_le _⟩
  | d :: ds, h => by
    have h1 := h d List.mem_cons_self
    have h2 := okDs_of (ds := ds) fun x hx => h x (List.mem_cons_of_mem _ hx)
    exact ⟨Bool.and_eq_true_iff.mpr ⟨h1.1, h2.1⟩, Nat.max_le.mpr ⟨h1.2, h2.2⟩⟩
theorem okD_tup {n : Nat} {ds : List VL.D} (h : ∀ d ∈ ds, okD n d) : okD (n + 1) (.tup ds) := ⟨(okDs_of h).1, Nat.succ_le_succ (okDs_of h).2⟩
theorem okD_lst {n : Nat} {ds : List VL.D} (h : ∀ d ∈ ds, okD n d) : okD (n + 1) (.lst ds) := ⟨(okDs_of h).1, Nat.succ_le_succ (okDs_of h).2⟩
theorem okD_int (n : Nat) (i : Int) : okD n (.int i) := ⟨rfl, Nat.zero_le _⟩
theorem okD_mono {m n : Nat} {d : VL.D} (h : okD m d) (g : m ≤ n) : okD n d := ⟨h.1, Nat.le_trans h.2 g⟩
theorem okD_dR (r : Rat) : okD 1 (dR r) := okD_tup (n := 0) fun d hd => by
  rcases List.mem_cons.mp hd with rfl | hd
  · exact okD_int _ _
  · rw [List.mem_singleton.mp hd]; exact okD_int _ _
theorem okD_dP (l : List Rat) : okD 2 (dP l) := okD_tup fun d hd => by
  obtain ⟨r, _, rfl⟩ := List.mem_map.mp hd
  exact okD_dR r
theorem dsh_of {n : Nat} {d : VL.D} (h : okD n d) (g : n ≤ 64) : dsh d = true := Bool.and_eq_true_iff.mpr ⟨h.1, decide_eq_true (Nat.le_trans h.2 g)⟩
mutual
theorem eqv_self : ∀ d : VL.D, PyData.eqv (toP d) (toP d) = true
  | .non => rfl
  | .bl b => by unfold toP PyData.eqv; exact beq_self_eq_true b
  | .int i => by unfold toP PyData.eqv; exact beq_self_eq_true i
  | .str x => by unfold toP PyData.eqv; exact beq_self_eq_true x
  | .tup ds => by unfold toP PyData.eqv; exact eqvs_self ds
  | .lst ds => by unfold toP PyData.eqv; exact eqvs_self ds
  | .fix ds => by unfold toP PyData.eqv; exact eqvs_self ds
theorem eqvs_self : ∀ ds : List VL.D, PyData.eqvAll (toPs ds) (toPs ds) = true
  | [] => by unfold toPs PyData.eqvAll; rfl
  | d :: ds => by unfold toPs PyData.eqvAll; rw [eqv_self d, eqvs_self ds]; rfl
end
theorem deq_self (d : VL.D) : deq d d = true := eqv_self d
theorem eqvs_dRs : ∀ l m : List Rat, PyData.eqvAll (toPs (dRs l)) (toPs (dRs m)) = decide (l = m)
  | [], [] => by decide
  | [], b :: m => by
    have : (toPs (dRs (b :: m))) = toP (dR b) :: toPs (dRs m) := rfl
    rw [this]; rfl
  | a :: l, [] => by
    have : (toPs (dRs (a :: l))) = toP (dR a) :: toPs (dRs l) := rfl
    rw [this]; rfl
  | a :: l, b :: m => by
    have e1 : (toPs (dRs (b :: m))) = toP (dR b) :: toPs (dRs m) := rfl
    have e2 : (toPs (dRs (a :: l))) = toP (dR a) :: toPs (dRs l) := rfl
    rw [e1, e2]
    unfold PyData.eqvAll
    rw [eqvs_dRs l m]
    have := deq_dR a b
    unfold deq at this
    rw [this]
    by_cases h : a = b
    · by_cases g : l = m
      · subst h; subst g; simp
      · rw [decide_eq_false g, decide_eq_false (fun z => g (List.cons.inj z).2), Bool.and_false]
    · rw [decide_eq_false h, decide_eq_false (fun z => h (List.cons.inj z).1), Bool.false_and]
theorem deq_dP (l m : List Rat) : deq (dP l) (dP m) = decide (l = m) := by
  show PyData.eqv (.tuple (toPs (dRs l))) (.tuple (toPs (dRs m))) = _
  unfold PyData.eqv
  exact eqvs_dRs l m
theorem pb_mk {s n : Nat} {f : Nat → Rat} (h : ∀ k, k < n → RB' s (f k)) : PB s (mk n f) := pb_trim fun r hr => by
  obtain ⟨k, hk, rfl⟩ := List.mem_map.mp hr
  exact h k (List.mem_range.mp hk)
theorem mk_ext {n m : Nat} {f g : Nat → Rat} (h : ∀ k, (if k < n then f k else 0) = if k < m then g k else 0) : mk n f = mk m g :=
  isT_ext (mk_isT _ _) (mk_isT _ _) fun k => by rw [mk_co, mk_co]; exact h k
theorem cv_succ (l m : List Rat) (n t : Nat) : cv l m (n + 1) t = cv l m n t + (if n ≤ t then co l n * co m (t - n) else 0) := rfl
theorem cv_stop {l m : List Rat} {n t : Nat} (h : l.length ≤ n) : cv l m n t = cv l m l.length t := by
  induction n with
  | zero => have : l.length = 0 := by omega
            rw [this]
  | succ n ih =>
    by_cases e : l.length = n + 1
    · rw [e]
    · rw [cv_succ, ih (by omega), co_out (show l.length ≤ n by omega), Rat.zero_mul]
      split <;> exact Rat.add_zero _
theorem rb_cv {s : Nat} {f m : List Rat} (hf : PB s f) (hm : PB s m) (s1 : 1 ≤ s) (t : Nat) : ∀ k, RB' (k * (2 * s + 2) + 1) (cv f m k t)
  | 0 => rb_zero _ (by omega)
  | k + 1 => by
    rw [cv_succ, Nat.add_mul, Nat.one_mul]
    split
    · exact rb_mono (rb_add (rb_cv hf hm s1 t k) (rb_mul (pb_co hf s1 k) (pb_co hm s1 _))) (by omega)
    · rw [Rat.add_zero]; exact rb_mono (rb_cv hf hm s1 t k) (by omega)
theorem pt_all {l m : List Rat} {s : Nat} (hl : PB s l) (hm : PB s m) (s1 : 1 ≤ s) (h : (l.length + 1) * (2 * s + 2) ≤ 60000000) (l1 : l.length ≤ 1000) (l2 : m.length ≤ 1000) : PTok l m := by
  have e : (l.length + 1) * (2 * s + 2) = l.length * (2 * s + 2) + (2 * s + 2) := by rw [Nat.add_mul, Nat.one_mul]
  refine ⟨_, fun r hr => rb_mono (hl r hr) (by omega), fun r hr => rb_mono (hm r hr) (by omega), by omega, h, fun i j => rb_mono (rb_mul (pb_co hl s1 i) (pb_co hm s1 j)) (by omega), fun k j t => ?_, l1, l2⟩
  by_cases g : k < l.length
  · have kk : k * (2 * s + 2) + (2 * s + 2) ≤ l.length * (2 * s + 2) := by
      have := Nat.mul_le_mul_right (2 * s + 2) (show k + 1 ≤ l.length by omega)
      rw [Nat.add_mul, Nat.one_mul] at this
      exact this
    split
    · exact rb_mono (rb_add (rb_cv hl hm s1 t k) (rb_mul (pb_co hl s1 k) (pb_co hm s1 _))) (by omega)
    · rw [Rat.add_zero]; exact rb_mono (rb_cv hl hm s1 t k) (by omega)
  · rw [cv_stop (by omega), co_out (show l.length ≤ k by omega), Rat.zero_mul]
    have := rb_cv hl hm s1 t l.length
    split
    · rw [Rat.add_zero]; exact rb_mono this (by omega)
    · rw [Rat.add_zero]; exact rb_mono this (by omega)
end M2

/-! M3: dividing polynomials. -/
namespace M3
open PySem PySem.Spec L2 VL M1 M2
abbrev f_p_split : Nat := 40
abbrev f_monic : Nat := 41
/-- p_split: 0 P, 1 Q, 2 rest, 3 found, 4 k, 5 by, 6 j, 7 one -/
def b_p_split : Ss := ss [.asg 2 (.blt .list (.cons (.var 0) .nil)),
  .asg 3 (.bin .mul (.lst (.cons (.glo (.tup [.int 0, .int 1])) .nil)) (.blt .max2 (.cons (.int 0) (.cons (.bin .add (.bin .sub (.blt .len (.cons (.var 0) .nil)) (.blt .len (.cons (.var 1) .nil))) (.int 1)) .nil)))),
  .for (.nm 4) (.rng3 (.bin .sub (.blt .len (.cons (.var 3) .nil)) (.int 1)) (.neg (.int 1)) (.neg (.int 1))) (ss [.asg 5 (.call f_over (.cons (.ix (.var 2) (.bin .sub (.bin .add (.var 4) (.blt .len (.cons (.var 1) .nil))) (.int 1))) (.cons (.ix (.var 1) (.neg (.int 1))) .nil))),
  .sub 3 (.var 4) (.var 5),
  .for (.tp [6, 7]) (.enum (.var 1)) (ss [.sub 2 (.bin .add (.var 4) (.var 6)) (.call f_minus (.cons (.ix (.var 2) (.bin .add (.var 4) (.var 6))) (.cons (.call f_times (.cons (.var 5) (.cons (.var 7) .nil))) .nil)))])]),
  .ret (.tup (.cons (.call f_poly (.cons (.var 3) .nil)) (.cons (.call f_poly (.cons (.var 2) .nil)) .nil)))]
/-- monic: 0 P -/
def b_monic : Ss := ss [.ite (.cmp .eq (.var 0) (.tup .nil)) (ss [.ret (.tup .nil)]) (ss []),
  .ret (.call f_p_scaled (.cons (.var 0) (.cons (.call f_over (.cons (.glo (.tup [.int 1, .int 1])) (.cons (.ix (.var 0) (.neg (.int 1))) .nil))) .nil)))]
theorem cv_congr {l l' m m' : List Rat} {t : Nat} : ∀ {n : Nat}, (∀ k, k < n → co l k = co l' k) → (∀ k, co m k = co m' k) → cv l m n t = cv l' m' n t
  | 0, _, _ => rfl
  | n + 1, h, g => by
    unfold cv
    rw [cv_congr (fun k hk => h k (by omega)) g, h n (by omega), g]
theorem cv_more {l m : List Rat} {n t : Nat} (h : l.length ≤ n) : cv l m n t = cv l m l.length t := by
  induction n with
  | zero => have : l.length = 0 := by omega
            rw [this]
  | succ n ih =>
    by_cases e : l.length = n + 1
    · rw [e]
    · rw [cv_succ, ih (by omega), co_out (show l.length ≤ n by omega), Rat.zero_mul]
      split <;> exact Rat.add_zero _
theorem cv_put {l l' m : List Rat} {k t : Nat} {b : Rat} (h0 : co l k = 0) (h : ∀ i, co l' i = if i = k then b else co l i) : ∀ n : Nat, cv l' m n t = cv l m n t + (if k < n ∧ k ≤ t then b * co m (t - k) else 0)
  | 0 => by rw [if_neg (by omega)]; exact (Rat.add_zero _).symm
  | n + 1 => by
    rw [cv_succ, cv_succ, cv_put h0 h n, h n]
    by_cases e : n = k
    · subst e
      rw [if_pos rfl, if_neg (show ¬ (n < n ∧ n ≤ t) by omega), h0]
      by_cases g : n ≤ t
      · rw [if_pos g, if_pos (by omega)]; grind
      · rw [if_neg g, if_neg (by omega)]; grind
    · rw [if_neg e]
      by_cases g : k < n ∧ k ≤ t
      · rw [if_pos g, if_pos (show k < n + 1 ∧ k ≤ t by omega)]; grind
      · rw [if_neg g, if_neg (show ¬ (k < n + 1 ∧ k ≤ t) by omega)]; grind
theorem rb_over {a b : Nat} {x y : Rat} (hx : RB' a x) (hy : RB' b y) (h0 : y.num ≠ 0) : RB' (a + b) (x / y) := by
  rw [← div_divInt]
  have n1 := abs_mul hx.1 (abs_nat hy.2)
  have n3 := abs_mul (abs_nat hx.2) hy.1
  have d := Int.mul_ne_zero (den_ne x) h0
  exact ⟨Nat.lt_of_le_of_lt (num_le d) n1, Nat.lt_of_le_of_lt (den_le d) n3⟩
/-- x is a whole number of at most B over D -/
def Ov (D B : Nat) (x : Rat) : Prop := ∃ n : Int, x = Rat.divInt n D ∧ n.natAbs ≤ B
theorem ov_zero {D B : Nat} : Ov D B 0 := ⟨0, by rw [Rat.zero_divInt], Nat.zero_le _⟩
theorem ov_mono {D B B' : Nat} {x : Rat} (h : Ov D B x) (g : B ≤ B') : Ov D B' x := let ⟨n, e, l⟩ := h; ⟨n, e, Nat.le_trans l g⟩
theorem dz {D : Nat} (h : 0 < D) : (D : Int) ≠ 0 := by omega
theorem ov_add {D B C : Nat} {x y : Rat} (hD : 0 < D) (hx : Ov D B x) (hy : Ov D C y) : Ov D (B + C) (x + y) := by
  obtain ⟨n, rfl, h1⟩ := hx
  obtain ⟨m, rfl, h2⟩ := hy
  refine ⟨n + m, ?_, Nat.le_trans (Int.natAbs_add_le n m) (Nat.add_le_add h1 h2)⟩
  rw [Rat.divInt_add_divInt _ _ (dz hD) (dz hD), ← Int.add_mul, Rat.divInt_mul_right (dz hD)]
theorem ov_mul {D E B C : Nat} {x y : Rat} (hx : Ov D B x) (hy : Ov E C y) : Ov (D * E) (B * C) (x * y) := by
  obtain ⟨n, rfl, h1⟩ := hx
  obtain ⟨m, rfl, h2⟩ := hy
  refine ⟨n * m, ?_, ?_⟩
  · rw [Rat.divInt_mul_divInt, Int.natCast_mul]
  · rw [Int.natAbs_mul]; exact Nat.mul_le_mul h1 h2
theorem ov_up {D B E : Nat} {x : Rat} (hE : 0 < E) (hx : Ov D B x) : Ov (D * E) (B * E) x := by
  obtain ⟨n, rfl, h1⟩ := hx
  refine ⟨n * E, ?_, ?_⟩
  · rw [Int.natCast_mul, Rat.divInt_mul_right (dz hE)]
  · rw [Int.natAbs_mul]; exact Nat.mul_le_mul h1 (by simp)
theorem ov_self (x : Rat) : Ov x.den x.num.natAbs x := ⟨x.num, (Rat.num_divInt_den x).symm, Nat.le_refl _⟩
theorem ov_rb {D B s : Nat} {x : Rat} (hD : 0 < D) (h : Ov D B x) (h1 : D < 2 ^ s) (h2 : B < 2 ^ s) : RB' s x := by
  obtain ⟨n, rfl, h3⟩ := h
  exact ⟨Nat.lt_of_le_of_lt (num_le (dz hD)) (by omega), Nat.lt_of_le_of_lt (den_le (dz hD)) (by simpa using h1)⟩
/-- all numbers over one D < 2^d, tops below 2^b -/
def Fb (d b : Nat) (l : List Rat) : Prop := ∃ D : Nat, 0 < D ∧ D ≤ 2 ^ d ∧ ∀ k, Ov D (2 ^ b) (co l k)
theorem fb_mono {d b d' b' : Nat} {l : List Rat} (h : Fb d b l) (h1 : d ≤ d') (h2 : b ≤ b') : Fb d' b' l := by
  obtain ⟨D, p, q, r⟩ := h
  exact ⟨D, p, Nat.le_trans q (Nat.pow_le_pow_right (by decide) h1), fun k => ov_mono (r k) (Nat.pow_le_pow_right (by decide) h2)⟩
theorem fb_of {s : Nat} : ∀ {l : List Rat}, PB s l → Fb (s * l.length) (s * (l.length + 1)) l
  | [], _ => ⟨1, by decide, Nat.one_le_two_pow, fun k => by rw [co_nil]; exact ov_zero⟩
  | a :: l, h => by
    obtain ⟨D, p, q, r⟩ := fb_of (l := l) fun x hx => h x (List.mem_cons_of_mem _ hx)
    have ha := h a List.mem_cons_self
    have pa := a.den_pos
    refine ⟨D * a.den, Nat.mul_pos p pa, ?_, fun k => ?_⟩
    · rw [List.length_cons, Nat.mul_succ, Nat.pow_add]
      exact Nat.mul_le_mul q (Nat.le_of_lt ha.2)
    · rw [List.length_cons, Nat.mul_succ s (l.length + 1), Nat.pow_add]
      cases k with
      | zero =>
        rw [co_zero]
        have := ov_up (E := D) p (ov_self a)
        rw [Nat.mul_comm a.den D, Nat.mul_comm a.num.natAbs D] at this
        refine ov_mono this (Nat.mul_le_mul (Nat.le_trans q (Nat.pow_le_pow_right (by decide) (Nat.mul_le_mul_left s (by omega)))) (Nat.le_of_lt ha.1))
      | succ k =>
        rw [co_succ]
        exact ov_mono (ov_up pa (r k)) (Nat.mul_le_mul (Nat.le_refl _) (Nat.le_of_lt ha.2))
theorem ov_cv {D E B C : Nat} {l m : List Rat} {t : Nat} (hD : 0 < D) (hE : 0 < E) (hl : ∀ k, Ov D B (co l k)) (hm : ∀ k, Ov E C (co m k)) : ∀ n, Ov (D * E) (n * (B * C)) (cv l m n t)
  | 0 => ov_mono ov_zero (Nat.zero_le _)
  | n + 1 => by
    rw [cv_succ, Nat.add_mul, Nat.one_mul]
    refine ov_add (Nat.mul_pos hD hE) (ov_cv hD hE hl hm n) ?_
    split
    · exact ov_mul (hl n) (hm _)
    · exact ov_mono ov_zero (Nat.zero_le _)
theorem lt2 (n : Nat) : n < 2 ^ n := Nat.lt_two_pow_self
theorem fb_pt {d b d' b' e : Nat} {l m : List Rat} (hl : Fb d b l) (hm : Fb d' b' m) (he : l.length < 2 ^ e) (h : d + d' + b + b' + e + 2 ≤ 60000000) (l1 : l.length ≤ 1000) (l2 : m.length ≤ 1000) : PTok l m := by
  obtain ⟨D, p, q, r⟩ := hl
  obtain ⟨E, p', q', r'⟩ := hm
  let S := d + d' + b + b' + e + 2
  have up : ∀ {x y : Nat}, x ≤ 2 ^ y → y + 1 ≤ S → x < 2 ^ S := fun {x y} h g => Nat.lt_of_le_of_lt h (Nat.pow_lt_pow_right (by decide) (by omega))
  have dd : D * E ≤ 2 ^ (d + d') := by rw [Nat.pow_add]; exact Nat.mul_le_mul q q'
  have bb : (2 : Nat) ^ b * 2 ^ b' = 2 ^ (b + b') := (Nat.pow_add _ _ _).symm
  have sum : ∀ k j t, k ≤ l.length → RB' S (cv l m k t + (if k ≤ t ∧ t - k < j then co l k * co m (t - k) else 0)) := fun k j t hk => by
    have h1 : Ov (D * E) ((k + 1) * 2 ^ (b + b')) (cv l m k t + (if k ≤ t ∧ t - k < j then co l k * co m (t - k) else 0)) := by
      rw [Nat.add_mul, Nat.one_mul, ← bb]
      refine ov_add (Nat.mul_pos p p') (ov_cv p p' r r' k) ?_
      split
      · exact ov_mul (r k) (r' _)
      · exact ov_mono ov_zero (Nat.zero_le _)
    refine ov_rb (Nat.mul_pos p p') h1 (up dd (by omega)) (up (y := e + (b + b')) ?_ (by omega))
    rw [Nat.pow_add 2 e]
    exact Nat.mul_le_mul (show k + 1 ≤ 2 ^ e by omega) (Nat.le_refl _)
  have one : ∀ {d b : Nat} {l : List Rat} {D : Nat}, 0 < D → D ≤ 2 ^ d → (∀ k, Ov D (2 ^ b) (co l k)) → d + 1 ≤ S → b + 1 ≤ S → PB S l := fun {d b l D} p q r h1 h2 x hx => by
    obtain ⟨k, hk, rfl⟩ := List.getElem_of_mem hx
    rw [← co_in hk]
    exact ov_rb p (r k) (up q h1) (up (Nat.le_refl _) h2)
  refine ⟨S, one p q r (by omega) (by omega), one p' q' r' (by omega) (by omega), by omega, h, fun i j => ov_rb (Nat.mul_pos p p') (ov_mul (r i) (r' j)) (up dd (by omega)) (up (y := b + b') (by rw [bb]; exact Nat.le_refl _) (by omega)), fun k j t => ?_, l1, l2⟩
  rcases Nat.lt_or_ge l.length k with g | g
  · have := sum l.length 0 t (Nat.le_refl _)
    rw [if_neg (by omega)] at this
    rw [cv_stop (by omega), co_out (show l.length ≤ k by omega), Rat.zero_mul]
    split <;> exact this
  · exact sum k j t g
theorem fb_pmul {d b d' b' e : Nat} {l m : List Rat} (hl : Fb d b l) (hm : Fb d' b' m) (he : l.length ≤ 2 ^ e) : Fb (d + d') (b + b' + e) (pmul l m) := by
  obtain ⟨D, p, q, r⟩ := hl
  obtain ⟨E, p', q', r'⟩ := hm
  refine ⟨D * E, Nat.mul_pos p p', by rw [Nat.pow_add]; exact Nat.mul_le_mul q q', fun k => ?_⟩
  unfold pmul
  rw [mk_co]
  split
  · refine ov_mono (ov_cv p p' r r' l.length) ?_
    rw [← Nat.pow_add, Nat.pow_add _ (b + b'), Nat.mul_comm]
    exact Nat.mul_le_mul (Nat.le_refl _) he
  · exact ov_zero
theorem ov_neg {D B : Nat} {x : Rat} (h : Ov D B x) : Ov D B (-x) := by
  obtain ⟨n, rfl, l⟩ := h
  exact ⟨-n, Rat.neg_divInt n D, by rw [Int.natAbs_neg]; exact l⟩
theorem ov_sub {D B C : Nat} {x y : Rat} (hD : 0 < D) (hx : Ov D B x) (hy : Ov D C y) : Ov D (B + C) (x - y) := by
  rw [Rat.sub_eq_add_neg]
  exact ov_add hD hx (ov_neg hy)
/-- what a division asks of sizes: l over D, m over its last number over V -/
structure Sp (l m : List Rat) (D V a s d : Nat) : Prop where
  D0 : 0 < D
  V0 : 0 < V
  Dd : D ≤ 2 ^ d
  Vs : V ≤ 2 ^ s
  hl : ∀ t, Ov D (2 ^ a) (co l t)
  hm : ∀ t, Ov V (2 ^ s) (co m t / co m (m.length - 1))
  hi : Ov V (2 ^ s) (1 / co m (m.length - 1))
  p : PB 60000000 m
  z : d + a + (l.length + 1 - m.length) * (s + 1) + 2 * s + 5 ≤ 60000000
def vPSplit : VF := ⟨.read, fun ds q => ∃ (l m : List Rat) (D V a s d : Nat), ds = [dP l, dP m] ∧ IsT m ∧ m ≠ [] ∧ l.length ≤ 1000 ∧ m.length ≤ 1000 ∧ Sp l m D V a s d ∧
  ∀ f r, IsT f → IsT r → r.length < m.length → f.length ≤ l.length + 1 - m.length → r.length ≤ l.length → (∀ t, Ov (D * V ^ (l.length + 1 - m.length)) (2 ^ (a + (l.length + 1 - m.length) * (s + 1) + s)) (co f t)) → (∀ t, Ov (D * V ^ (l.length + 1 - m.length)) (2 ^ (a + (l.length + 1 - m.length) * (s + 1))) (co r t)) → (∀ t, co l t = cv f m f.length t + co r t) → q (.val (.tup [dP f, dP r])) none⟩
def monicL (l : List Rat) : List Rat := mk l.length fun k => co l k * (1 / co l (l.length - 1))
def vMonic : VF := ⟨.read, fun ds q => ∃ (l : List Rat) (s : Nat), ds = [dP l] ∧ IsT l ∧ PB s l ∧ 1 ≤ s ∧ s + 1 ≤ 60000000 ∧ l.length ≤ 1000 ∧ q (.val (dP (monicL l))) none⟩
def G3 (L : Nat → VF) : Nat → VF
  | 0 => vPSplit
  | 1 => vMonic
  | 2 => vStub
  | 3 => vStub
  | 4 => vStub
  | 5 => vStub
  | 6 => vStub
  | 7 => vStub
  | 8 => vStub
  | 9 => vStub
  | n + 10 => L n
variable {L : Nat → VF}
abbrev Go (L : Nat → VF) : Nat → VF := G1 (G2 (G3 L))
theorem rngs_down {n k : Nat} {i : Int} {d : VL.D} (hi : i = (n : Int) - 1) (h : (rngs i n (-1))[k]? = some d) : d = .int ((n - 1 - k : Nat) : Int) ∧ k < n := by
  unfold rngs at h
  rw [List.getElem?_map] at h
  by_cases hk : k < n
  · rw [List.getElem?_range hk] at h
    cases h
    refine ⟨?_, hk⟩
    show VL.D.int (i + (k : Int) * -1) = _
    rw [hi, show (n : Int) - 1 + (k : Int) * -1 = ((n - 1 - k : Nat) : Int) by omega]
  · rw [List.getElem?_eq_none (by simp; omega)] at h
    cases h
theorem good_p_split : Good (Go L) b_p_split 2 6 vPSplit := by
  rintro ds q ⟨l, m, D, V, a, s, d, rfl, hmT, hm0, l1, l2, ⟨D0, V0, Dd, Vs, hl, hm, hi1, hpm, hz0⟩, hq⟩ -
  have lenl := dRs_len l
  have lenm := dRs_len m
  have mpos : 0 < m.length := List.length_pos_iff.mpr hm0
  let n := l.length + 1 - m.length
  have hn : n = l.length + 1 - m.length := rfl
  have hzn : d + a + n * (s + 1) + 2 * s + 5 ≤ 60000000 := hz0
  have sz1 : ∀ {i e : Nat} {x : Rat}, i ≤ n → e ≤ 59999999 → Ov (D * V ^ i) (2 ^ e) x → Sz x := fun {i e x} hi he h => by
    have h1 : V ^ i ≤ 2 ^ (s * i) := by rw [Nat.pow_mul]; exact Nat.pow_le_pow_left Vs i
    have h2 : s * i ≤ n * (s + 1) := by rw [Nat.mul_comm s i]; exact Nat.mul_le_mul hi (by omega)
    have hN : szN = 60000000 := by unfold szN; rfl
    refine ov_rb (s := szN) (Nat.mul_pos D0 (Nat.pow_pos V0)) h ?_ (Nat.pow_lt_pow_right (by decide) (by omega))
    calc D * V ^ i ≤ 2 ^ d * 2 ^ (s * i) := Nat.mul_le_mul Dd h1
      _ = 2 ^ (d + s * i) := (Nat.pow_add _ _ _).symm
      _ < 2 ^ szN := Nat.pow_lt_pow_right (by decide) (by omega)
  have lead : (co m (m.length - 1)).num ≠ 0 := fun z => by
    rcases hmT with e | e
    · exact hm0 e
    · exact e (Rat.num_eq_zero.mp z)
  have en : (max 0 (((dRs l).length : Int) - ((dRs m).length : Int) + 1)).toNat = n := by rw [lenl, lenm]; omega
  refine ⟨rfl, by rw [en]; unfold Sm; simp only [List.length_cons, List.length_nil]; omega, by rw [lenl, lenm]; omega, by rw [lenl, lenm]; omega, ?_⟩
  have e0 : (List.replicate (max 0 (((dRs l).length : Int) - ((dRs m).length : Int) + 1)).toNat [VL.D.tup [.int 0, .int 1]]).flatten = dRs (List.replicate n 0) := by
    rw [en]; exact rep_row _
  have goal : wSs (Go L) (ss [.for (.nm 4) (.rng3 (.bin .sub (.blt .len (.cons (.var 3) .nil)) (.int 1)) (.neg (.int 1)) (.neg (.int 1))) (ss [.asg 5 (.call f_over (.cons (.ix (.var 2) (.bin .sub (.bin .add (.var 4) (.blt .len (.cons (.var 1) .nil))) (.int 1))) (.cons (.ix (.var 1) (.neg (.int 1))) .nil))),
      .sub 3 (.var 4) (.var 5),
      .for (.tp [6, 7]) (.enum (.var 1)) (ss [.sub 2 (.bin .add (.var 4) (.var 6)) (.call f_minus (.cons (.ix (.var 2) (.bin .add (.var 4) (.var 6))) (.cons (.call f_times (.cons (.var 5) (.cons (.var 7) .nil))) .nil)))])]),
      .ret (.tup (.cons (.call f_poly (.cons (.var 3) .nil)) (.cons (.call f_poly (.cons (.var 2) .nil)) .nil)))])
      [.val (dP l), .val (dP m), .own (dRs l), .own (dRs (List.replicate n 0)), .un, .un, .un, .un] { nx := fun _ => q (.val .non) none, rt := fun r _ => q r none } := by
    have lr : ((dRs (List.replicate n (0 : Rat))).length : Int) = n := by rw [dRs_len, List.length_replicate]
    refine ⟨n, ?_, fun i ρ => ∃ F Rr s4 s5 s6 s7, ρ = [.val (dP l), .val (dP m), .own (dRs Rr), .own (dRs F), s4, s5, s6, s7] ∧ F.length = n ∧ Rr.length = l.length ∧ (∀ t, t < n - i → co F t = 0) ∧ (∀ t, n - i + (m.length - 1) ≤ t → co Rr t = 0) ∧ (∀ t, co l t = cv F m n t + co Rr t) ∧ (∀ t, Ov (D * V ^ i) (2 ^ (a + i * (s + 1))) (co Rr t)) ∧ ∀ t, Ov (D * V ^ i) (2 ^ (a + i * (s + 1) + s)) (co F t), ⟨List.replicate n 0, l, _, _, _, _, rfl, by simp, rfl, fun t _ => co_rep _ _, fun t ht => co_out (by omega), fun t => ?_, fun t => by rw [Nat.pow_zero, Nat.mul_one, Nat.zero_mul, Nat.add_zero]; exact hl t, fun t => by rw [co_rep]; exact ov_zero⟩, ?_, ?_⟩
    · rw [lr]
      have := RgC.neg (i := (n : Int) - 1) (j := -1) (by omega) (by omega) (by decide) (by decide)
      rw [show ((n : Int) - 1 - -1).toNat = n by omega] at this
      exact this
    · have z : ∀ k, cv (List.replicate n 0) m k t = 0 := fun k => by
        induction k with
        | zero => rfl
        | succ k ih => rw [cv_succ, ih, co_rep, Rat.zero_mul]; split <;> exact Rat.add_zero _
      rw [z, Rat.zero_add]
    · rintro i d _ hd ⟨F, Rr, s4, s5, s6, s7, rfl, hF, hR, hF0, hR0, hE, hz, hzF⟩
      obtain ⟨rfl, hi⟩ := rngs_down (n := n) (by rw [lr]) hd
      let k := n - 1 - i
      have hk : k = n - 1 - i := rfl
      have hkn : k < n := by omega
      have i1 : (i + 1) * (s + 1) = i * (s + 1) + (s + 1) := by rw [Nat.add_mul, Nat.one_mul]
      have i2 : (i + 1) * (s + 1) ≤ n * (s + 1) := Nat.mul_le_mul_right _ (by omega)
      have dv : D * V ^ (i + 1) = D * V ^ i * V := by rw [Nat.pow_succ, Nat.mul_assoc]
      have dv0 : 0 < D * V ^ i := Nat.mul_pos D0 (Nat.pow_pos V0)
      have dv1 : 0 < D * V ^ (i + 1) := Nat.mul_pos D0 (Nat.pow_pos V0)
      have hkr : k + (m.length - 1) < Rr.length := by omega
      have at1 : atI (dRs Rr) (((k : Nat) : Int) + ((dRs m).length : Int) - 1) = some (dR (co Rr (k + (m.length - 1)))) := by
        rw [lenm, show (k : Int) + (m.length : Int) - 1 = ((k + (m.length - 1) : Nat) : Int) by omega]
        exact atI_dRs hkr
      let b : Rat := co Rr (k + (m.length - 1)) / co m (m.length - 1)
      have szm : ∀ j, Sz (co m j) := fun j => sz_rb (pb_co hpm (by decide) j) (Nat.le_refl _)
      have ovb : Ov (D * V ^ (i + 1)) (2 ^ (a + i * (s + 1) + s)) b := by
        have e : b = co Rr (k + (m.length - 1)) * (1 / co m (m.length - 1)) := by
          show co Rr (k + (m.length - 1)) / co m (m.length - 1) = _
          rw [Rat.div_def, Rat.div_def, Rat.one_mul]
        rw [e, dv, Nat.pow_add 2 (a + i * (s + 1)) s]
        exact ov_mul (hz _) hi1
      have ovp : ∀ j, Ov (D * V ^ (i + 1)) (2 ^ (a + i * (s + 1) + s)) (b * co m j) := fun j => by
        have e : b * co m j = co Rr (k + (m.length - 1)) * (co m j / co m (m.length - 1)) := by
          show co Rr (k + (m.length - 1)) / co m (m.length - 1) * co m j = _
          rw [Rat.div_def, Rat.div_def]; grind
        rw [e, dv, Nat.pow_add 2 (a + i * (s + 1)) s]
        exact ov_mul (hz _) (hm j)
      have up1 : ∀ {B : Nat} {x : Rat}, Ov (D * V ^ i) (2 ^ B) x → Ov (D * V ^ (i + 1)) (2 ^ (B + s)) x := fun {B x} h => by
        rw [dv]
        refine ov_mono (ov_up V0 h) ?_
        rw [Nat.pow_add]; exact Nat.mul_le_mul_left _ Vs
      have szb : Sz b := sz1 (by omega) (by omega) ovb
      have szp : ∀ j, Sz (b * co m j) := fun j => sz1 (by omega) (by omega) (ovp j)
      have ix1 : ixN (dRs F).length ((k : Nat) : Int) = some k := by rw [dRs_len]; exact ixN_nat (by omega)
      have hb : b * co m (m.length - 1) = co Rr (k + (m.length - 1)) := Rat.div_mul_cancel fun z => lead (by rw [z]; rfl)
      have hF' : ∀ j, co (F.set k b) j = if j = k then b else co F j := fun j => co_set (by omega) j
      refine ⟨_, at1, _, atI_end hm0, rfl, _, _, rfl, sz1 (by omega) (by omega) (hz _), szm _, lead, .inl rfl, rfl, k, ix1, ?_⟩
      refine ⟨fun j ρ => ∃ R2 s6 s7, ρ = [.val (dP l), .val (dP m), .own (dRs R2), .own (dRs (F.set k b)), .val (.int (k : Nat)), .val (dR b), s6, s7] ∧ R2.length = l.length ∧ (∀ t, co R2 t = co Rr t - (if k ≤ t ∧ t - k < j then b * co m (t - k) else 0)) ∧ (∀ t, Ov (D * V ^ (i + 1)) (2 ^ (a + (i + 1) * (s + 1))) (co R2 t)) ∧ ∀ t, k + j ≤ t → Ov (D * V ^ i) (2 ^ (a + i * (s + 1))) (co R2 t), ⟨Rr, s6, s7, ?_, hR, fun t => ?_, fun t => ov_mono (up1 (hz t)) (Nat.pow_le_pow_right (by decide) (by omega)), fun t _ => hz t⟩, ?_, ?_⟩
      · rw [← dRs_set]; rfl
      · rw [if_neg (by omega)]; grind
      · rintro j d _ hd ⟨R2, s6, s7, rfl, hR2, hc, hz1, hz2⟩
        obtain ⟨hj, rfl⟩ := enum_at hd
        have hkj : k + j < R2.length := by omega
        have ea : (k : Int) + (j : Int) = ((k + j : Nat) : Int) := by omega
        have at2 : atI (dRs R2) ((k : Int) + (j : Int)) = some (dR (co R2 (k + j))) := by rw [ea]; exact atI_dRs hkj
        have ix2 : ixN (dRs R2).length ((k : Int) + (j : Int)) = some (k + j) := by rw [ea, dRs_len]; exact ixN_nat hkj
        have o1 := hz2 (k + j) (Nat.le_refl _)
        have n1 : Ov (D * V ^ (i + 1)) (2 ^ (a + (i + 1) * (s + 1))) (co R2 (k + j) - b * co m j) := by
          refine ov_mono (ov_sub dv1 (up1 o1) (ovp j)) ?_
          rw [i1, show a + (i * (s + 1) + (s + 1)) = (a + i * (s + 1) + s) + 1 by omega, Nat.pow_succ]; omega
        refine ⟨rfl, _, at2, rfl, _, _, rfl, szb, szm j, .inl rfl, rfl, _, _, rfl, sz1 (by omega) (by omega) o1, szp j, .inl rfl, rfl, k + j, ix2, R2.set (k + j) (co R2 (k + j) - b * co m j), .val (.int j), .val (dR (co m j)), ?_, by rw [List.length_set]; exact hR2, fun t => ?_, fun t => ?_, fun t ht => ?_⟩
        · rw [← dRs_set R2]; rfl
        · rw [co_set hkj]
          by_cases e : t = k + j
          · subst e
            rw [if_pos rfl, if_pos (by omega), hc, if_neg (by omega), show k + j - k = j by omega]; grind
          · rw [if_neg e, hc]
            congr 1
            by_cases g : k ≤ t ∧ t - k < j
            · rw [if_pos g, if_pos (by omega)]
            · rw [if_neg g, if_neg (by omega)]
        · rw [co_set hkj]
          split
          · exact n1
          · exact hz1 t
        · rw [co_set hkj, if_neg (by omega)]
          exact hz2 t (by omega)
      · rintro _ ⟨R2, s6, s7, rfl, hR2, hc, hz1, hz2⟩
        rw [List.length_mapIdx, lenm] at hc
        have hc' : ∀ t, co R2 t = co Rr t - (if k ≤ t then b * co m (t - k) else 0) := fun t => by
          rw [hc]
          congr 1
          by_cases g : k ≤ t
          · rw [if_pos g]
            by_cases g2 : t - k < m.length
            · rw [if_pos ⟨g, g2⟩]
            · rw [if_neg (by omega), co_out (show m.length ≤ t - k by omega), Rat.mul_zero]
          · rw [if_neg g, if_neg (by omega)]
        refine ⟨F.set k b, R2, _, _, _, _, rfl, by rw [List.length_set]; exact hF, hR2, fun t ht => ?_, fun t ht => ?_, fun t => ?_, hz1, fun t => ?_⟩
        · rw [hF', if_neg (by omega)]
          exact hF0 t (by omega)
        · rw [hc']
          by_cases e : t = k + (m.length - 1)
          · subst e
            rw [if_pos (by omega), show k + (m.length - 1) - k = m.length - 1 by omega, hb]; grind
          · rw [hR0 t (by omega)]
            split
            · rw [co_out (show m.length ≤ t - k by omega), Rat.mul_zero]; grind
            · grind
        · rw [cv_put (hF0 k (by omega)) hF' n, hc', hE t]
          by_cases g : k ≤ t
          · rw [if_pos g, if_pos (by omega)]; grind
          · rw [if_neg g, if_neg (by omega)]; grind
        · rw [hF']
          split
          · exact ov_mono ovb (Nat.pow_le_pow_right (by decide) (by omega))
          · exact ov_mono (up1 (hzF t)) (Nat.pow_le_pow_right (by decide) (by omega))
    · rintro _ ⟨F, Rr, s4, s5, s6, s7, rfl, hF, hR, hF0, hR0, hE, hz, hzF⟩
      rw [rngs_length] at hR0 hz hzF
      refine ⟨rfl, _, F, rfl, .inl rfl, .inr (lf_dP _), rfl, _, Rr, rfl, .inl rfl, .inr (lf_dP _), rfl, hq (trim F) (trim Rr) (trim_isT F) (trim_isT Rr) ?_ ?_ ?_ ?_ ?_ fun t => ?_⟩
      · rcases trim_isT Rr with e | e
        · rw [e]; exact mpos
        · rcases Nat.lt_or_ge (trim Rr).length m.length with g | g
          · exact g
          · rw [trim_co, hR0 _ (by omega)] at e; exact absurd rfl e
      · have := trim_le F; omega
      · have := trim_le Rr; omega
      · intro t; rw [trim_co]; exact hzF t
      · intro t; rw [trim_co]; exact hz t
      · rw [hE t, trim_co, ← cv_more (l := trim F) (n := n) (by have := trim_le F; omega)]
        rw [cv_congr (fun k _ => trim_co F k) (fun k => rfl)]
  rw [← e0] at goal
  exact goal
theorem good_monic : Good (Go L) b_monic 1 0 vMonic := by
  rintro ds q ⟨l, s, rfl, hT, hl, s1, s2, l1, hq⟩ -
  have ok := dsh_of (okD_dP l) (by decide)
  refine ⟨rfl, ok, rfl, fun h => ?_, fun h => ?_⟩
  · have h : deq (dP l) (dP []) = true := h
    rw [deq_dP] at h
    have h := dec_t h
    subst h
    exact ⟨rfl, hq⟩
  · have h : deq (dP l) (dP []) = false := h
    rw [deq_dP] at h
    have hne := dec_f h
    have lead : (co l (l.length - 1)).num ≠ 0 := fun z => by
      rcases hT with e | e
      · exact hne e
      · exact e (Rat.num_eq_zero.mp z)
    have rl := pb_co hl s1 (l.length - 1)
    have r1 : RB' 1 1 := ⟨by decide, by decide⟩
    have rb1 := rb_over r1 rl lead
    exact ⟨_, atI_end hne, rfl, 1, _, rfl, sz_rb r1 (by decide), sz_rb rl (by omega), lead, .inl rfl, rfl, l, _, s + 1, rfl, fun x hx => rb_mono (hl x hx) (by omega), rb_mono rb1 (by omega), by omega, by omega, l1, .inl rfl, hq⟩
theorem ov_div {x v : Int} (h : v ≠ 0) : Ov v.natAbs x.natAbs (Rat.divInt x v) := by
  rcases Int.lt_or_gt_of_ne h with g | g
  · refine ⟨-x, ?_, by rw [Int.natAbs_neg]; exact Nat.le_refl _⟩
    rw [show ((v.natAbs : Nat) : Int) = -v by omega, Rat.neg_divInt_neg]
  · refine ⟨x, ?_, Nat.le_refl _⟩
    rw [show ((v.natAbs : Nat) : Int) = v by omega]
theorem div_same {x v D : Int} (hD : D ≠ 0) : Rat.divInt x D / Rat.divInt v D = Rat.divInt x v := by
  rw [Rat.div_def, Rat.inv_divInt, Rat.divInt_mul_divInt, Int.mul_comm x D, Rat.divInt_mul_left hD]
theorem fb_lead {d b : Nat} {m : List Rat} (h : Fb d b m) {k : Nat} (h0 : co m k ≠ 0) (hdb : d ≤ b) : ∃ V, 0 < V ∧ V ≤ 2 ^ b ∧ (∀ j, Ov V (2 ^ b) (co m j / co m k)) ∧ Ov V (2 ^ b) (1 / co m k) := by
  obtain ⟨D, p, q, r⟩ := h
  obtain ⟨v, e, lv⟩ := r k
  have hv : v ≠ 0 := fun z => h0 (by rw [e, z, Rat.zero_divInt])
  refine ⟨v.natAbs, by omega, lv, fun j => ?_, ?_⟩
  · obtain ⟨x, e2, lx⟩ := r j
    rw [e, e2, div_same (dz p)]
    exact ov_mono (ov_div hv) lx
  · have one : (1 : Rat) = Rat.divInt D D := (Rat.divInt_self' (dz p)).symm
    rw [e, one, div_same (dz p)]
    refine ov_mono (ov_div hv) ?_
    have := Nat.le_trans q (Nat.pow_le_pow_right (by decide) hdb)
    simpa using this
/-- sizes of a division from the numbers' own bits -/
theorem sp_of {a0 s0 : Nat} {l m : List Rat} (hl : PB a0 l) (hm : PB s0 m) (hT : IsT m) (h0 : m ≠ []) (h : a0 * l.length + a0 * (l.length + 1) + (l.length + 1 - m.length) * (s0 * (m.length + 1) + 1) + 2 * (s0 * (m.length + 1)) + s0 + 5 ≤ 60000000) :
    ∃ D V, Sp l m D V (a0 * (l.length + 1)) (s0 * (m.length + 1)) (a0 * l.length) := by
  obtain ⟨D, p, q, r⟩ := fb_of hl
  have lead : co m (m.length - 1) ≠ 0 := by
    rcases hT with e | e
    · exact absurd e h0
    · exact e
  obtain ⟨V, v1, v2, v3, v4⟩ := fb_lead (fb_of hm) lead (Nat.mul_le_mul_left _ (by omega))
  exact ⟨D, V, p, v1, q, v2, r, v3, v4, fun x hx => rb_mono (hm x hx) (by omega), by omega⟩
end M3

/-! M14m: whole numbers by their exponents; pairs settled. -/
namespace M14
open PySem PySem.Spec L2 VL M1 M2 M3
def prs : List Nat := [2, 3, 5, 7, 11, 101, 999983, 1000000007]
def pr (k : Nat) : Nat := prs.getD k 1
abbrev Ex := Nat → Nat
/-- the whole number of some exponents, of the first k primes -/
def W (e : Ex) : Nat → Nat
  | 0 => 1
  | k + 1 => W e k * pr k ^ e k
def Om (e : Ex) : Nat → Nat
  | 0 => 0
  | k + 1 => Om e k + e k
theorem pr_pos (k : Nat) : 0 < pr k := by
  by_cases h : k < 8
  · match k, h with
    | 0, _ => decide
    | 1, _ => decide
    | 2, _ => decide
    | 3, _ => decide
    | 4, _ => decide
    | 5, _ => decide
    | 6, _ => decide
    | 7, _ => decide
  · unfold pr
    rw [List.getD_eq_getElem?_getD, List.getElem?_eq_none (by show 8 ≤ k; omega)]
    decide
theorem pr_two {k : Nat} (h : k < 8) : 2 ≤ pr k ∧ pr k < 2 ^ 30 := by
  match k, h with
  | 0, _ => decide
  | 1, _ => decide
  | 2, _ => decide
  | 3, _ => decide
  | 4, _ => decide
  | 5, _ => decide
  | 6, _ => decide
  | 7, _ => decide
theorem pr_cop : ∀ i, i < 8 → ∀ j, j < 8 → i ≠ j → Nat.gcd (pr i) (pr j) = 1 := by decide +kernel
theorem W_pos (e : Ex) : ∀ k, 0 < W e k
  | 0 => Nat.one_pos
  | k + 1 => Nat.mul_pos (W_pos e k) (Nat.pow_pos (pr_pos k))
theorem W_add (e f : Ex) : ∀ k, W (fun j => e j + f j) k = W e k * W f k
  | 0 => rfl
  | k + 1 => by
    show W (fun j => e j + f j) k * pr k ^ (e k + f k) = W e k * pr k ^ e k * (W f k * pr k ^ f k)
    rw [W_add e f k, Nat.pow_add]
    simp only [Nat.mul_comm, Nat.mul_left_comm, Nat.mul_assoc]
theorem W_congr {e f : Ex} : ∀ {k : Nat}, (∀ j, j < k → e j = f j) → W e k = W f k
  | 0, _ => rfl
  | k + 1, h => by
    show W e k * pr k ^ e k = W f k * pr k ^ f k
    rw [W_congr fun j hj => h j (by omega), h k (by omega)]
theorem Om_congr {e f : Ex} : ∀ {k : Nat}, (∀ j, j < k → e j = f j) → Om e k = Om f k
  | 0, _ => rfl
  | k + 1, h => by
    show Om e k + e k = Om f k + f k
    rw [Om_congr fun j hj => h j (by omega), h k (by omega)]
theorem Om_add (e f : Ex) : ∀ k, Om (fun j => e j + f j) k = Om e k + Om f k
  | 0 => rfl
  | k + 1 => by
    show Om (fun j => e j + f j) k + (e k + f k) = Om e k + e k + (Om f k + f k)
    rw [Om_add e f k]; omega
/-- no prime in both -/
def Cp (e f : Ex) : Prop := ∀ j, j < 8 → e j = 0 ∨ f j = 0
theorem Cp.symm {e f : Ex} (h : Cp e f) : Cp f e := fun j hj => (h j hj).symm
theorem cop_pr {e : Ex} {i n : Nat} (hi : i < 8) : ∀ k, k ≤ 8 → (∀ j, j < k → e j = 0 ∨ j ≠ i) → Nat.Coprime (W e k) (pr i ^ n)
  | 0, _, _ => by show Nat.gcd 1 _ = 1; exact Nat.gcd_one_left _
  | k + 1, hk, h => by
    refine Nat.Coprime.mul_left (cop_pr hi k (by omega) fun j hj => h j (by omega)) ?_
    rcases h k (by omega) with z | z
    · rw [z, Nat.pow_zero]; exact Nat.gcd_one_left _
    · exact Nat.Coprime.pow _ _ (pr_cop k (by omega) i hi z)
theorem cop_W {e f : Ex} : ∀ k, k ≤ 8 → (∀ j, j < 8 → e j = 0 ∨ f j = 0) → Nat.Coprime (W e 8) (W f k)
  | 0, _, _ => by show Nat.gcd _ 1 = 1; exact Nat.gcd_one_right _
  | k + 1, hk, h => by
    refine Nat.Coprime.mul_right (cop_W k (by omega) h) ?_
    rcases h k (by omega) with z | z
    · exact cop_pr (by omega) 8 (by omega) fun j hj => by
        by_cases q : j = k
        · subst q; exact .inl z
        · exact .inr q
    · rw [z, Nat.pow_zero]; exact Nat.gcd_one_right _
theorem Cp.cop {e f : Ex} (h : Cp e f) : Nat.gcd (W e 8) (W f 8) = 1 := cop_W 8 (Nat.le_refl 8) h
def mn (e f : Ex) : Ex := fun j => min (e j) (f j)
def df (e f : Ex) : Ex := fun j => e j - min (e j) (f j)
theorem W_split (e f : Ex) (k : Nat) : W e k = W (mn e f) k * W (df e f) k := by
  rw [← W_add]
  exact W_congr fun j _ => by unfold mn df; omega
theorem mn_comm (e f : Ex) (k : Nat) : W (mn e f) k = W (mn f e) k := W_congr fun j _ => by unfold mn; omega
theorem W_gcd (e f : Ex) : Nat.gcd (W e 8) (W f 8) = W (mn e f) 8 := by
  have h1 := W_split e f 8
  have h2 := W_split f e 8
  rw [mn_comm f e] at h2
  have hc : Cp (df e f) (df f e) := fun j _ => by unfold df; omega
  conv => lhs; rw [h1, h2]
  rw [Nat.gcd_mul_left, hc.cop, Nat.mul_one]
theorem Om_split (e f : Ex) (k : Nat) : Om e k = Om (mn e f) k + Om (df e f) k := by
  rw [← Om_add]
  exact Om_congr fun j _ => by unfold mn df; omega
theorem W_big {e : Ex} : ∀ k, k ≤ 8 → Om e k + 1 ≤ W e k
  | 0, _ => Nat.le_refl 1
  | k + 1, hk => by
    have h := W_big (e := e) k (by omega)
    have p2 := (pr_two (k := k) (by omega)).1
    have hp : e k + 1 ≤ pr k ^ e k := by
      have : ∀ n, n + 1 ≤ pr k ^ n := fun n => by
        induction n with
        | zero => exact Nat.le_refl 1
        | succ n ih =>
          rw [Nat.pow_succ]
          have := Nat.mul_le_mul ih p2
          omega
      exact this _
    have := Nat.mul_le_mul h hp
    show Om e k + e k + 1 ≤ W e k * pr k ^ e k
    have e1 : (Om e k + 1) * (e k + 1) = Om e k * e k + Om e k + e k + 1 := by
      rw [Nat.add_mul, Nat.mul_add]; omega
    omega
theorem Om_zero {e : Ex} : ∀ {k : Nat}, Om e k = 0 → ∀ j, j < k → e j = 0
  | 0, _, j, hj => by omega
  | k + 1, h, j, hj => by
    have h : Om e k + e k = 0 := h
    by_cases q : j = k
    · subst q; omega
    · exact Om_zero (k := k) (by omega) j (by omega)
theorem W_one {e : Ex} : W e 8 = 1 ↔ Om e 8 = 0 := by
  refine ⟨fun h => by have := W_big (e := e) 8 (Nat.le_refl 8); omega, fun h => ?_⟩
  have z := Om_zero h
  have : W e 8 = W (fun _ => 0) 8 := W_congr fun j hj => z j hj
  rw [this]; decide
theorem Cp_iff {e f : Ex} : Nat.gcd (W e 8) (W f 8) = 1 ↔ Cp e f := by
  refine ⟨fun h => ?_, Cp.cop⟩
  rw [W_gcd, W_one] at h
  have z := Om_zero h
  intro j hj
  have := z j hj
  unfold mn at this
  omega
theorem W_bits {e : Ex} {n : Nat} : ∀ k, k ≤ 8 → (∀ j, j < k → e j ≤ n) → W e k < 2 ^ (30 * n * k + 1)
  | 0, _, _ => by show 1 < 2 ^ (0 + 1); decide
  | k + 1, hk, h => by
    have h1 := W_bits (e := e) k (by omega) fun j hj => h j (by omega)
    have h2 : pr k ^ e k ≤ 2 ^ (30 * n) := by
      refine Nat.le_trans (Nat.pow_le_pow_left (Nat.le_of_lt (pr_two (k := k) (by omega)).2) _) ?_
      rw [← Nat.pow_mul]
      exact Nat.pow_le_pow_right (by decide) (Nat.mul_le_mul_left _ (h k (by omega)))
    have h3 : W e k * pr k ^ e k ≤ W e k * 2 ^ (30 * n) := Nat.mul_le_mul_left _ h2
    have h4 : W e k * 2 ^ (30 * n) < 2 ^ (30 * n * k + 1) * 2 ^ (30 * n) := Nat.mul_lt_mul_of_pos_right h1 (Nat.pow_pos (by decide))
    rw [← Nat.pow_add, show 30 * n * k + 1 + 30 * n = 30 * n * (k + 1) + 1 by rw [Nat.mul_add]; omega] at h4
    exact Nat.lt_of_le_of_lt h3 h4

/-! ### pairs: exponents and a whole number, over D -/
abbrev Itm := Ex × Int
def S (f : Itm → Int) : List Itm → Int
  | [] => 0
  | x :: L => f x + S f L
theorem S_app (f : Itm → Int) (M : List Itm) : ∀ L, S f (L ++ M) = S f L + S f M
  | [] => by show S f M = 0 + S f M; omega
  | x :: L => by show f x + S f (L ++ M) = f x + S f L + S f M; rw [S_app f M L]; omega
theorem S_perm (f : Itm → Int) {L M : List Itm} (h : L.Perm M) : S f L = S f M := by
  induction h with
  | nil => rfl
  | cons x _ ih => show _ + _ = _ + _; rw [ih]
  | swap x y l => show f y + (f x + S f l) = f x + (f y + S f l); omega
  | trans _ _ a b => rw [a, b]
theorem S_le {f : Itm → Int} (hf : ∀ x, 0 ≤ f x) {x : Itm} : ∀ {L : List Itm}, x ∈ L → f x ≤ S f L
  | y :: L, h => by
    have nn : ∀ L, 0 ≤ S f L := fun L => by
      induction L with
      | nil => exact Int.le_refl 0
      | cons z L ih => show 0 ≤ f z + S f L; have := hf z; omega
    rcases List.mem_cons.mp h with w | w
    · subst w; show f x ≤ f x + S f L; have := nn L; omega
    · have := S_le hf (L := L) w
      show f x ≤ f y + S f L
      have := hf y; omega
theorem S_nn {f : Itm → Int} (hf : ∀ x, 0 ≤ f x) : ∀ L, 0 ≤ S f L
  | [] => Int.le_refl 0
  | z :: L => by show 0 ≤ f z + S f L; have := hf z; have := S_nn hf L; omega
/-- the weight of the j-th prime -/
def wt (j : Nat) (L : List Itm) : Int := S (fun x => x.2 * x.1 j) L
def om (x : Itm) : Int := Om x.1 8
/-- how great the numbers are -/
def hv (x : Itm) : Int := x.2.natAbs * Om x.1 8
theorem om_nn (x : Itm) : 0 ≤ om x := by unfold om; omega
theorem hv_nn (x : Itm) : 0 ≤ hv x := by unfold hv; exact Int.mul_nonneg (by omega) (by omega)
/-- a base, settled -/
structure Bs (B : List Itm) : Prop where
  nz : ∀ x, x ∈ B → x.2 ≠ 0 ∧ 1 ≤ Om x.1 8
  cp : B.Pairwise fun x y => Cp x.1 y.1
/-- what is left to do and the base: together as it was -/
structure Iv (w : Nat → Int) (T : Int) (m : Nat) (L B : List Itm) : Prop where
  bs : Bs B
  wt : ∀ j, j < 8 → wt j L + wt j B = w j
  hv : S hv L + S hv B ≤ T
  ab : ∀ x, x ∈ L → (x.2.natAbs : Int) ≤ T
  ms : 3 * (S om L + S om B) + L.length ≤ m
theorem Iv.drop {w : Nat → Int} {T : Int} {m : Nat} {L B : List Itm} {x : Itm} (h : Iv w T m (L ++ [x]) B) (z : Om x.1 8 = 0 ∨ x.2 = 0) : ∃ m', m' < m ∧ Iv w T m' L B := by
  have e := fun f => S_app f [x] L
  have o := om_nn x
  have ms := h.ms
  have hh := h.hv
  rw [e] at ms hh
  have eo : S om [x] = om x := by show om x + 0 = _; omega
  have eh : S M14.hv [x] = M14.hv x := by show M14.hv x + 0 = _; omega
  rw [eo, List.length_append] at ms
  rw [eh] at hh
  have := hv_nn x
  refine ⟨3 * (S om L + S om B).toNat + L.length, ?_, h.bs, fun j hj => ?_, by omega, fun y hy => h.ab y (List.mem_append_left _ hy), ?_⟩
  · have := S_nn om_nn L
    have := S_nn om_nn B
    have ms : 3 * (S om L + om x + S om B) + ((L.length + 1 : Nat) : Int) ≤ (m : Int) := ms
    omega
  · have := h.wt j hj
    unfold M14.wt at this ⊢
    rw [e] at this
    have z0 : S (fun x => x.2 * (x.1 j : Int)) [x] = 0 := by
      show x.2 * (x.1 j : Int) + 0 = 0
      rcases z with z | z
      · rw [Om_zero z j hj]; simp
      · rw [z]; simp
    omega
  · have := S_nn om_nn L
    have := S_nn om_nn B
    omega
theorem Iv.put {w : Nat → Int} {T : Int} {m : Nat} {L B : List Itm} {x : Itm} (h : Iv w T m (L ++ [x]) B) (z : 1 ≤ Om x.1 8) (n0 : x.2 ≠ 0) (hc : ∀ y, y ∈ B → Cp y.1 x.1) : ∃ m', m' < m ∧ Iv w T m' L (B ++ [x]) := by
  have e := fun f => S_app f [x] L
  have e' := fun f => S_app f [x] B
  have ms := h.ms
  have hh := h.hv
  rw [e] at ms hh
  rw [List.length_append] at ms
  refine ⟨m - 1, ?_, ⟨fun y hy => ?_, ?_⟩, fun j hj => ?_, ?_, fun y hy => h.ab y (List.mem_append_left _ hy), ?_⟩
  · have := S_nn om_nn L
    have := S_nn om_nn B
    have := S_nn om_nn [x]
    have ms : 3 * (S om L + S om [x] + S om B) + ((L.length + 1 : Nat) : Int) ≤ (m : Int) := ms
    omega
  · rcases List.mem_append.mp hy with w | w
    · exact h.bs.nz y w
    · rw [List.mem_singleton.mp w]; exact ⟨n0, z⟩
  · refine List.pairwise_append.mpr ⟨h.bs.cp, List.pairwise_singleton _ _, fun y hy y' hy' => ?_⟩
    rw [List.mem_singleton.mp hy']; exact hc y hy
  · have := h.wt j hj
    unfold M14.wt at this ⊢
    rw [e] at this
    rw [e']; omega
  · rw [e']; omega
  · rw [e']
    have ms : 3 * (S om L + S om [x] + S om B) + ((L.length + 1 : Nat) : Int) ≤ (m : Int) := ms
    omega
theorem er_perm : ∀ {B : List Itm} {i : Nat} (h : i < B.length), B.Perm (B[i] :: B.eraseIdx i)
  | x :: B, 0, _ => List.Perm.refl _
  | x :: B, i + 1, h => ((er_perm (B := B) (i := i) (Nat.lt_of_succ_lt_succ h)).cons x).trans (List.Perm.swap _ _ _)
theorem Iv.meet {w : Nat → Int} {T : Int} {m i : Nat} {L B : List Itm} {x : Itm} (h : Iv w T m (L ++ [x]) B) (hi : i < B.length) (hn : ¬ Cp (B[i]).1 x.1) :
    ∃ m', m' < m ∧ Iv w T m' (L ++ [(df x.1 (B[i]).1, x.2)] ++ [(df (B[i]).1 x.1, (B[i]).2)] ++ [(mn x.1 (B[i]).1, x.2 + (B[i]).2)]) (B.eraseIdx i) := by
  obtain ⟨y, hy⟩ : ∃ y, y = B[i] := ⟨_, rfl⟩
  rw [← hy] at hn ⊢
  have pm : B.Perm (y :: B.eraseIdx i) := by rw [hy]; exact er_perm hi
  have ym : y ∈ B := by rw [hy]; exact List.getElem_mem hi
  have e1 := Om_split x.1 y.1 8
  have e2 := Om_split y.1 x.1 8
  have e3 : Om (mn y.1 x.1) 8 = Om (mn x.1 y.1) 8 := Om_congr fun j _ => by unfold mn; omega
  have g1 : 1 ≤ Om (mn x.1 y.1) 8 := by
    refine Nat.pos_of_ne_zero fun z => hn fun j hj => ?_
    have := Om_zero z j hj
    unfold mn at this
    omega
  have sp : ∀ f : Itm → Int, S f B = f y + S f (B.eraseIdx i) := fun f => by rw [S_perm f pm]; rfl
  have sx : ∀ f : Itm → Int, S f (L ++ [x]) = S f L + f x := fun f => by
    rw [S_app]; show _ + (f x + 0) = _; omega
  have s3 : ∀ (f : Itm → Int) (a b c : Itm), S f (L ++ [a] ++ [b] ++ [c]) = S f L + f a + f b + f c := fun f a b c => by
    rw [S_app, S_app, S_app]
    show _ + (f a + 0) + (f b + 0) + (f c + 0) = _
    omega
  have ms := h.ms
  have hh := h.hv
  rw [sx, sp] at ms hh
  have xo : om x = Om (mn x.1 y.1) 8 + Om (df x.1 y.1) 8 := by unfold om; omega
  have yo : om y = Om (mn x.1 y.1) 8 + Om (df y.1 x.1) 8 := by unfold om; omega
  have nnL := S_nn om_nn L
  have nnB := S_nn om_nn (B.eraseIdx i)
  have hL := S_nn hv_nn L
  have hB := S_nn hv_nn (B.eraseIdx i)
  rw [List.length_append] at ms
  have ms : 3 * (S om L + om x + (om y + S om (B.eraseIdx i))) + ((L.length + 1 : Nat) : Int) ≤ (m : Int) := ms
  have xh : M14.hv x = x.2.natAbs * (Om (mn x.1 y.1) 8 : Int) + x.2.natAbs * (Om (df x.1 y.1) 8 : Int) := by
    unfold M14.hv
    rw [← Int.mul_add, e1, Int.natCast_add]
  have yh : M14.hv y = y.2.natAbs * (Om (mn x.1 y.1) 8 : Int) + y.2.natAbs * (Om (df y.1 x.1) 8 : Int) := by
    unfold M14.hv
    rw [← Int.mul_add, e2, e3, Int.natCast_add]
  have tri : (((x.2 + y.2).natAbs : Nat) : Int) * (Om (mn x.1 y.1) 8 : Int) ≤ x.2.natAbs * (Om (mn x.1 y.1) 8 : Int) + y.2.natAbs * (Om (mn x.1 y.1) 8 : Int) := by
    rw [← Int.add_mul]
    exact Int.mul_le_mul_of_nonneg_right (by have := Int.natAbs_add_le x.2 y.2; omega) (by omega)
  have hv3 : S M14.hv (L ++ [(df x.1 y.1, x.2)] ++ [(df y.1 x.1, y.2)] ++ [(mn x.1 y.1, x.2 + y.2)]) + S M14.hv (B.eraseIdx i) ≤ T := by
    rw [s3]
    have a1 : M14.hv (df x.1 y.1, x.2) = x.2.natAbs * (Om (df x.1 y.1) 8 : Int) := rfl
    have a2 : M14.hv (df y.1 x.1, y.2) = y.2.natAbs * (Om (df y.1 x.1) 8 : Int) := rfl
    have a3 : M14.hv (mn x.1 y.1, x.2 + y.2) = (((x.2 + y.2).natAbs : Nat) : Int) * (Om (mn x.1 y.1) 8 : Int) := rfl
    rw [a1, a2, a3]
    omega
  have ax : ∀ n : Int, ∀ k : Nat, 1 ≤ k → (n.natAbs : Int) ≤ n.natAbs * (k : Int) := fun n k hk => by
    have := Int.mul_le_mul_of_nonneg_left (show (1 : Int) ≤ k by omega) (show (0 : Int) ≤ (n.natAbs : Int) by omega)
    omega
  have y1 : (y.2.natAbs : Int) ≤ T := by
    have h1 := ax y.2 (Om y.1 8) (h.bs.nz y ym).2
    have h2 : M14.hv y = y.2.natAbs * (Om y.1 8 : Int) := rfl
    have := hv_nn x
    omega
  have s1 : (((x.2 + y.2).natAbs : Nat) : Int) ≤ T := by
    have h1 := ax (x.2 + y.2) _ g1
    have p1 : 0 ≤ (x.2.natAbs : Int) * (Om (df x.1 y.1) 8 : Int) := Int.mul_nonneg (by omega) (by omega)
    have p2 : 0 ≤ (y.2.natAbs : Int) * (Om (df y.1 x.1) 8 : Int) := Int.mul_nonneg (by omega) (by omega)
    omega
  refine ⟨m - 1, by omega, ⟨fun z hz => h.bs.nz z (List.mem_of_mem_eraseIdx hz), h.bs.cp.sublist (List.eraseIdx_sublist _ _)⟩, fun j hj => ?_, hv3, fun z hz => ?_, ?_⟩
  · have := h.wt j hj
    unfold M14.wt at this ⊢
    rw [sx, sp] at this
    rw [s3]
    have t1 : x.2 * (x.1 j : Int) = x.2 * ((df x.1 y.1 j : Nat) : Int) + x.2 * ((mn x.1 y.1 j : Nat) : Int) := by
      rw [← Int.mul_add]
      congr 1
      unfold df mn; omega
    have t2 : y.2 * (y.1 j : Int) = y.2 * ((df y.1 x.1 j : Nat) : Int) + y.2 * ((mn x.1 y.1 j : Nat) : Int) := by
      rw [← Int.mul_add]
      congr 1
      unfold df mn; omega
    have t3 : (x.2 + y.2) * ((mn x.1 y.1 j : Nat) : Int) = x.2 * ((mn x.1 y.1 j : Nat) : Int) + y.2 * ((mn x.1 y.1 j : Nat) : Int) := Int.add_mul ..
    show S _ L + x.2 * ((df x.1 y.1 j : Nat) : Int) + y.2 * ((df y.1 x.1 j : Nat) : Int) + (x.2 + y.2) * ((mn x.1 y.1 j : Nat) : Int) + _ = _
    omega
  · rcases List.mem_append.mp hz with hz | hz
    · rcases List.mem_append.mp hz with hz | hz
      · rcases List.mem_append.mp hz with hz | hz
        · exact h.ab z (List.mem_append_left _ hz)
        · rw [List.mem_singleton.mp hz]; exact h.ab x (List.mem_append_right _ (List.mem_singleton.mpr rfl))
      · rw [List.mem_singleton.mp hz]; exact y1
    · rw [List.mem_singleton.mp hz]; exact s1
  · rw [s3, List.length_append, List.length_append, List.length_append]
    have a1 : om (df x.1 y.1, x.2) = Om (df x.1 y.1) 8 := rfl
    have a2 : om (df y.1 x.1, y.2) = Om (df y.1 x.1) 8 := rfl
    have a3 : om (mn x.1 y.1, x.2 + y.2) = Om (mn x.1 y.1) 8 := rfl
    rw [a1, a2, a3]
    show _ + ((L.length + 1 + 1 + 1 : Nat) : Int) ≤ _
    omega
end M14

/-! M14: log numbers settled; the draws of the laws k71 to k74. -/
namespace M14
open PySem PySem.Spec L2 VL M1 M2 M3
abbrev f_divisor_of : Nat := 50
abbrev f_meeting_place : Nat := 51
abbrev f_refined : Nat := 52
abbrev f_settled_number : Nat := 53
abbrev f_n_plus : Nat := 54
abbrev f_n_scaled : Nat := 55
abbrev f_law_at14 : Nat := 56
abbrev f_law_draw14 : Nat := 57
abbrev f_law_number14 : Nat := 58
abbrev f_law_plus14 : Nat := 59
abbrev f_law_times14 : Nat := 60
abbrev f_law_not_above14 : Nat := 61
abbrev f_law_is_number14 : Nat := 62
abbrev f_law_primes14 : Nat := 63
abbrev f_law_smooth14 : Nat := 64
abbrev f_law_weights14 : Nat := 65
abbrev f_law_powers14 : Nat := 66
abbrev f_law_no_common14 : Nat := 67
abbrev f_law_is_settled14 : Nat := 68
abbrev f_law_c14 : Nat := 69
abbrev f_law_rows14 : Nat := 70
abbrev f_law_log_number14 : Nat := 71
/-- divisor_of: 0 one, 1 other, 2 rest -/
def b_divisor_of : Ss := ss [.whl (.cmp .gt (.var 1) (.int 0)) (ss [.asg 2 (.bin .mod (.var 0) (.var 1)),
  .asg 0 (.var 1),
  .asg 1 (.var 2)]),
  .ret (.var 0)]
/-- meeting_place: 0 base, 1 whole, 2 place, 3 pair -/
def b_meeting_place : Ss := ss [.for (.tp [2, 3]) (.enum (.var 0)) (ss [.ite (.cmp .gt (.call f_divisor_of (.cons (.ix (.var 3) (.int 0)) (.cons (.var 1) .nil))) (.int 1)) (ss [.ret (.var 2)]) (ss [])]),
  .ret .non]
/-- refined: 0 todo, 1 base, 2 whole, 3 c, 4 place, 5 other, 6 e, 7 by -/
def b_refined : Ss := ss [.asg 0 (.blt .list (.cons (.var 0) .nil)),
  .asg 1 (.lst .nil),
  .whl (.cmp .gt (.blt .len (.cons (.var 0) .nil)) (.int 0)) (ss [.asgT [2, 3] (.mth .pop 0 .nil),
  .ite (.or (.cmp .eq (.var 2) (.int 1)) (.cmp .eq (.var 3) (.glo (.tup [.int 0, .int 1])))) (ss [.cnt]) (ss []),
  .asg 4 (.call f_meeting_place (.cons (.var 1) (.cons (.var 2) .nil))),
  .ite (.cmp .isN (.var 4) .non) (ss [.ex (.mth .append 1 (.cons (.tup (.cons (.var 2) (.cons (.var 3) .nil))) .nil))]) (ss [.asgT [5, 6] (.mth .popAt 1 (.cons (.var 4) .nil)),
   .asg 7 (.call f_divisor_of (.cons (.var 2) (.cons (.var 5) .nil))),
   .ex (.mth .append 0 (.cons (.tup (.cons (.bin .fdiv (.var 2) (.var 7)) (.cons (.var 3) .nil))) .nil)),
   .ex (.mth .append 0 (.cons (.tup (.cons (.bin .fdiv (.var 5) (.var 7)) (.cons (.var 6) .nil))) .nil)),
   .ex (.mth .append 0 (.cons (.tup (.cons (.var 7) (.cons (.call f_plus (.cons (.var 3) (.cons (.var 6) .nil))) .nil))) .nil))])]),
  .ret (.blt .sortedP (.cons (.var 1) .nil))]
/-- settled_number: 0 q, 1 rows, 2 todo, 3 c, 4 r, 5 whole -/
def b_settled_number : Ss := ss [.asg 2 (.lst .nil),
  .for (.tp [3, 4]) (.seq (.var 1)) (ss [.ex (.mth .append 2 (.cons (.tup (.cons (.ix (.var 4) (.int 0)) (.cons (.var 3) .nil))) .nil)),
  .ex (.mth .append 2 (.cons (.tup (.cons (.ix (.var 4) (.int 1)) (.cons (.call f_minus (.cons (.glo (.tup [.int 0, .int 1])) (.cons (.var 3) .nil))) .nil))) .nil))]),
  .ret (.tup (.cons (.var 0) (.cons (.blt .tuple (.cons (.lc (.tup (.cons (.var 3) (.cons (.tup (.cons (.var 5) (.cons (.int 1) .nil))) .nil))) (.tp [5, 3]) (.seq (.call f_refined (.cons (.var 2) .nil))) [5, 3] .no) .nil)) .nil)))]
/-- n_plus: 0 one, 1 other -/
def b_n_plus : Ss := ss [.ret (.call f_settled_number (.cons (.call f_plus (.cons (.ix (.var 0) (.int 0)) (.cons (.ix (.var 1) (.int 0)) .nil))) (.cons (.bin .add (.blt .list (.cons (.ix (.var 0) (.int 1)) .nil)) (.blt .list (.cons (.ix (.var 1) (.int 1)) .nil))) .nil)))]
/-- n_scaled: 0 one, 1 c, 2 e, 3 r -/
def b_n_scaled : Ss := ss [.ret (.call f_settled_number (.cons (.call f_times (.cons (.ix (.var 0) (.int 0)) (.cons (.var 1) .nil))) (.cons (.lc (.tup (.cons (.call f_times (.cons (.var 2) (.cons (.var 1) .nil))) (.cons (.var 3) .nil))) (.tp [2, 3]) (.seq (.ix (.var 0) (.int 1))) [2, 3] .no) .nil)))]
/-- law_at14: 0 law_script, 1 law_k -/
def b_law_at14 : Ss := ss [.ite (.chain .le .lt (.int 0) (.var 1) (.blt .len (.cons (.var 0) .nil))) (ss [.ret (.ix (.var 0) (.var 1))]) (ss []),
  .ret (.int 0)]
/-- law_draw14: 0 law_cell, 1 law_k, 2 law_many, 3 law_m -/
def b_law_draw14 : Ss := ss [.ite (.and (.cmp .gt (.var 0) (.bin .pow (.int 2) (.int 60))) (.cmp .lt (.var 2) (.int 200))) (ss [.ret (.bin .mod (.bin .mod (.bin .shr (.var 0) (.bin .mul (.int 8) (.var 1))) (.int 256)) (.var 2))]) (ss []),
  .asg 3 (.bin .mod (.bin .mul (.bin .add (.bin .add (.bin .mod (.var 0) (.int 2147483629)) (.bin .mul (.bin .mul (.var 1) (.var 1)) (.int 7919))) (.int 11)) (.int 48271)) (.int 2147483647)),
  .ret (.bin .mod (.bin .fdiv (.bin .mod (.bin .mul (.var 3) (.var 3)) (.int 1999999973)) (.int 7)) (.var 2))]
/-- law_number14: 0 law_top, 1 law_bottom, 2 law_one, 3 law_other -/
def b_law_number14 : Ss := ss [.par [2, 3] (.cons (.blt .abs (.cons (.var 0) .nil)) (.cons (.blt .abs (.cons (.var 1) .nil)) .nil)),
  .whl (.cmp .gt (.var 3) (.int 0)) (ss [.par [2, 3] (.cons (.var 3) (.cons (.bin .mod (.var 2) (.var 3)) .nil))]),
  .ite (.cmp .lt (.var 1) (.int 0)) (ss [.asg 2 (.neg (.var 2))]) (ss []),
  .ret (.tup (.cons (.bin .fdiv (.var 0) (.var 2)) (.cons (.bin .fdiv (.var 1) (.var 2)) .nil)))]
/-- law_plus14: 0 law_one, 1 law_other -/
def b_law_plus14 : Ss := ss [.ret (.call f_law_number14 (.cons (.bin .add (.bin .mul (.ix (.var 0) (.int 0)) (.ix (.var 1) (.int 1))) (.bin .mul (.ix (.var 1) (.int 0)) (.ix (.var 0) (.int 1)))) (.cons (.bin .mul (.ix (.var 0) (.int 1)) (.ix (.var 1) (.int 1))) .nil)))]
/-- law_times14: 0 law_one, 1 law_other -/
def b_law_times14 : Ss := ss [.ret (.call f_law_number14 (.cons (.bin .mul (.ix (.var 0) (.int 0)) (.ix (.var 1) (.int 0))) (.cons (.bin .mul (.ix (.var 0) (.int 1)) (.ix (.var 1) (.int 1))) .nil)))]
/-- law_not_above14: 0 law_one, 1 law_other -/
def b_law_not_above14 : Ss := ss [.ret (.cmp .le (.bin .mul (.ix (.var 0) (.int 0)) (.ix (.var 1) (.int 1))) (.bin .mul (.ix (.var 1) (.int 0)) (.ix (.var 0) (.int 1))))]
/-- law_is_number14: 0 law_found, 1 law_part -/
def b_law_is_number14 : Ss := ss [.ite (.or (.not (.tru (.isi (.var 0) .tuple))) (.cmp .ne (.blt .len (.cons (.var 0) .nil)) (.int 2))) (ss [.ret (.bl false)]) (ss []),
  .for (.nm 1) (.seq (.var 0)) (ss [.ite (.or (.not (.tru (.isi (.var 1) .int))) (.tru (.isi (.var 1) .bool))) (ss [.ret (.bl false)]) (ss [])]),
  .ret (.and (.cmp .gt (.ix (.var 0) (.int 1)) (.int 0)) (.cmp .eq (.var 0) (.call f_law_number14 (.cons (.ix (.var 0) (.int 0)) (.cons (.ix (.var 0) (.int 1)) .nil)))))]
/-- law_primes14:  -/
def b_law_primes14 : Ss := ss [.ret (.tup (.cons (.int 2) (.cons (.int 3) (.cons (.int 5) (.cons (.int 7) (.cons (.int 11) (.cons (.int 101) (.cons (.int 999983) (.cons (.int 1000000007) .nil)))))))))]
/-- law_smooth14: 0 law_cell, 1 law_top, 2 law_bottom, 3 law_powers_here, 4 law_j, 5 law_prime, 6 law_e, 7 law_turn -/
def b_law_smooth14 : Ss := ss [.asg 1 (.int 1),
  .asg 2 (.int 1),
  .asg 3 (.lst .nil),
  .for (.tp [4, 5]) (.enum (.call f_law_primes14 .nil)) (ss [.asg 6 (.ix (.tup (.cons (.int 0) (.cons (.int 0) (.cons (.int 1) (.cons (.int 2) (.cons (.neg (.int 1)) (.cons (.int 0) (.cons (.neg (.int 3)) (.cons (.int 1) .nil))))))))) (.call f_law_draw14 (.cons (.var 0) (.cons (.var 4) (.cons (.int 8) .nil))))),
  .ex (.mth .append 3 (.cons (.var 6) .nil)),
  .for (.nm 7) (.rng1 (.blt .abs (.cons (.var 6) .nil))) (ss [.ite (.cmp .gt (.var 6) (.int 0)) (ss [.asg 1 (.bin .mul (.var 1) (.var 5))]) (ss [.asg 2 (.bin .mul (.var 2) (.var 5))])])]),
  .ret (.tup (.cons (.tup (.cons (.var 1) (.cons (.var 2) .nil))) (.cons (.var 3) .nil)))]
/-- law_weights14: 0 law_rows_here, 1 law_many, 2 law_weights_here, 3 law_j, 4 law_total, 5 law_c_here, 6 law_powers_here -/
def b_law_weights14 : Ss := ss [.asg 2 (.lst .nil),
  .for (.nm 3) (.rng1 (.var 1)) (ss [.asg 4 (.tup (.cons (.int 0) (.cons (.int 1) .nil))),
  .for (.tp [5, 6]) (.seq (.var 0)) (ss [.asg 4 (.call f_law_plus14 (.cons (.var 4) (.cons (.call f_law_times14 (.cons (.var 5) (.cons (.tup (.cons (.ix (.var 6) (.var 3)) (.cons (.int 1) .nil))) .nil))) .nil)))]),
  .ex (.mth .append 2 (.cons (.var 4) .nil))]),
  .ret (.var 2)]
/-- law_powers14: 0 law_entire, 1 law_powers_here, 2 law_prime, 3 law_e -/
def b_law_powers14 : Ss := ss [.asg 1 (.lst .nil),
  .for (.nm 2) (.seq (.call f_law_primes14 .nil)) (ss [.asg 3 (.int 0),
  .whl (.cmp .eq (.bin .mod (.var 0) (.var 2)) (.int 0)) (ss [.asg 0 (.bin .fdiv (.var 0) (.var 2)),
   .asg 3 (.bin .add (.var 3) (.int 1))]),
  .ex (.mth .append 1 (.cons (.var 3) .nil))]),
  .ite (.cmp .ne (.var 0) (.int 1)) (ss [.ret .non]) (ss []),
  .ret (.var 1)]
/-- law_no_common14: 0 law_wholes, 1 law_k, 2 law_entire, 3 law_other, 4 law_one, 5 law_rest -/
def b_law_no_common14 : Ss := ss [.for (.tp [1, 2]) (.enum (.var 0)) (ss [.for (.nm 3) (.seq (.sl (.var 0) .no (.yes (.var 1)))) (ss [.par [4, 5] (.cons (.var 2) (.cons (.var 3) .nil)),
   .whl (.cmp .gt (.var 5) (.int 0)) (ss [.par [4, 5] (.cons (.var 5) (.cons (.bin .mod (.var 4) (.var 5)) .nil))]),
   .ite (.cmp .ne (.var 4) (.int 1)) (ss [.ret (.bl false)]) (ss [])])]),
  .ret (.bl true)]
/-- law_is_settled14: 0 law_found, 1 law_q, 2 law_weights_here, 3 law_rows_here, 4 law_wholes, 5 law_pair, 6 law_powers_here -/
def b_law_is_settled14 : Ss := ss [.ite (.or (.not (.tru (.isi (.var 0) .tuple))) (.or (.cmp .ne (.blt .len (.cons (.var 0) .nil)) (.int 2)) (.or (.not (.tru (.call f_law_is_number14 (.cons (.ix (.var 0) (.int 0)) .nil)))) (.cmp .ne (.ix (.var 0) (.int 0)) (.var 1))))) (ss [.ret (.bl false)]) (ss []),
  .ite (.not (.tru (.isi (.ix (.var 0) (.int 1)) .tuple))) (ss [.ret (.bl false)]) (ss []),
  .asg 3 (.lst .nil),
  .asg 4 (.lst .nil),
  .for (.nm 5) (.seq (.ix (.var 0) (.int 1))) (ss [.ite (.or (.not (.tru (.isi (.var 5) .tuple))) (.or (.cmp .ne (.blt .len (.cons (.var 5) .nil)) (.int 2)) (.or (.not (.tru (.call f_law_is_number14 (.cons (.ix (.var 5) (.int 0)) .nil)))) (.cmp .eq (.ix (.var 5) (.int 0)) (.tup (.cons (.int 0) (.cons (.int 1) .nil))))))) (ss [.ret (.bl false)]) (ss []),
  .ite (.or (.not (.tru (.call f_law_is_number14 (.cons (.ix (.var 5) (.int 1)) .nil)))) (.or (.cmp .ne (.ix (.ix (.var 5) (.int 1)) (.int 1)) (.int 1)) (.cmp .lt (.ix (.ix (.var 5) (.int 1)) (.int 0)) (.int 2)))) (ss [.ret (.bl false)]) (ss []),
  .asg 6 (.call f_law_powers14 (.cons (.ix (.ix (.var 5) (.int 1)) (.int 0)) .nil)),
  .ite (.cmp .isN (.var 6) .non) (ss [.ret (.bl false)]) (ss []),
  .ex (.mth .append 3 (.cons (.tup (.cons (.ix (.var 5) (.int 0)) (.cons (.var 6) .nil))) .nil)),
  .ex (.mth .append 4 (.cons (.ix (.ix (.var 5) (.int 1)) (.int 0)) .nil))]),
  .ite (.or (.cmp .ne (.var 4) (.blt .sorted (.cons (.var 4) .nil))) (.not (.tru (.call f_law_no_common14 (.cons (.var 4) .nil))))) (ss [.ret (.bl false)]) (ss []),
  .ret (.cmp .eq (.call f_law_weights14 (.cons (.var 3) (.cons (.int 8) .nil))) (.var 2))]
/-- law_c14: 0 law_cell, 1 law_k -/
def b_law_c14 : Ss := ss [.ret (.call f_law_number14 (.cons (.bin .sub (.call f_law_draw14 (.cons (.var 0) (.cons (.var 1) (.cons (.int 13) .nil)))) (.int 6)) (.cons (.bin .add (.int 1) (.call f_law_draw14 (.cons (.var 0) (.cons (.bin .add (.var 1) (.int 1)) (.cons (.int 5) .nil))))) .nil)))]
/-- law_rows14: 0 law_cells, 1 law_rows_here, 2 law_wanted, 3 law_cell, 4 law_r, 5 law_powers_here, 6 law_c_here -/
def b_law_rows14 : Ss := ss [.asg 1 (.lst .nil),
  .asg 2 (.lst .nil),
  .for (.nm 3) (.seq (.var 0)) (ss [.asgT [4, 5] (.call f_law_smooth14 (.cons (.var 3) .nil)),
  .asg 6 (.call f_law_c14 (.cons (.var 3) (.cons (.int 10) .nil))),
  .ex (.mth .append 1 (.cons (.tup (.cons (.var 6) (.cons (.var 4) .nil))) .nil)),
  .ex (.mth .append 2 (.cons (.tup (.cons (.var 6) (.cons (.var 5) .nil))) .nil)),
  .ite (.cmp .eq (.call f_law_draw14 (.cons (.var 3) (.cons (.int 12) (.cons (.int 4) .nil)))) (.int 0)) (ss [.ex (.mth .append 1 (.cons (.tup (.cons (.call f_law_times14 (.cons (.var 6) (.cons (.tup (.cons (.neg (.int 1)) (.cons (.int 1) .nil))) .nil))) (.cons (.var 4) .nil))) .nil)),
   .ex (.mth .append 2 (.cons (.tup (.cons (.call f_law_times14 (.cons (.var 6) (.cons (.tup (.cons (.neg (.int 1)) (.cons (.int 1) .nil))) .nil))) (.cons (.var 5) .nil))) .nil))]) (ss [])]),
  .ret (.tup (.cons (.var 1) (.cons (.var 2) .nil)))]
/-- law_log_number14: 0 law_cell, 1 law_cells, 2 law_rows_here, 3 law_wanted, 4 law_pairs, 5 law_pair -/
def b_law_log_number14 : Ss := ss [.asgT [2, 3] (.call f_law_rows14 (.cons (.var 1) .nil)),
  .asg 4 (.lc (.var 5) (.nm 5) (.seq (.var 2)) [5] (.yes (.cmp .ne (.ix (.var 5) (.int 0)) (.tup (.cons (.int 0) (.cons (.int 1) .nil)))))),
  .ret (.tup (.cons (.tup (.cons (.call f_law_c14 (.cons (.var 0) (.cons (.int 3) .nil))) (.cons (.blt .tuple (.cons (.var 4) .nil)) .nil))) (.cons (.call f_law_weights14 (.cons (.var 3) (.cons (.int 8) .nil))) .nil)))]
/-- a pair of a whole number and its number over E -/
def dI (E : Nat) (x : Itm) : VL.D := .tup [.int (W x.1 8 : Nat), dR (Rat.divInt x.2 E)]
/-- a row: c and r = top over bottom -/
abbrev Rw := Ex × Ex × Int
def dW (E : Nat) (r : Rw) : VL.D := .tup [dR (Rat.divInt r.2.2 E), .tup [.int (W r.1 8 : Nat), .int (W r.2.1 8 : Nat)]]
def dN (E : Nat) (x : Itm) : VL.D := .tup [dR (Rat.divInt x.2 E), .tup [.int (W x.1 8 : Nat), .int 1]]
def todo : List Rw → List Itm
  | [] => []
  | r :: R => (r.1, r.2.2) :: (r.2.1, -r.2.2) :: todo R
def an (x : Itm) : Int := x.2.natAbs
theorem an_nn (x : Itm) : 0 ≤ an x := by unfold an; omega
/-- what is settled of L -/
structure Fin (L B : List Itm) : Prop where
  nz : ∀ x, x ∈ B → x.2 ≠ 0 ∧ 1 ≤ Om x.1 8
  cp : B.Pairwise fun x y => Cp x.1 y.1
  up : B.Pairwise fun x y => W x.1 8 < W y.1 8
  wt : ∀ j, j < 8 → wt j B = wt j L
  few : B.length ≤ 1000000
  ab : ∀ x, x ∈ B → x.2.natAbs ≤ 1000000000000000000
  om : ∀ x, x ∈ B → Om x.1 8 ≤ 1000000
  hvB : S hv B ≤ S hv L + S an L
  msB : 3 * S M14.om B ≤ 3 * S M14.om L + L.length
/-- what may be settled -/
structure Ok (E : Nat) (L : List Itm) : Prop where
  E0 : 0 < E
  E1 : E ≤ 1000000000000000000
  hv : S hv L + S an L ≤ 1000000000000000000
  ms : 3 * S om L + L.length ≤ 1000000
theorem Ok.ab {E : Nat} {L : List Itm} (h : Ok E L) : ∀ x, x ∈ L → (x.2.natAbs : Int) ≤ 1000000000000000000 := fun x hx => by
  have h1 := S_le an_nn hx
  have h2 := S_nn hv_nn L
  have h3 := h.hv
  have h4 : an x = (x.2.natAbs : Int) := rfl
  omega
def vDivisor : VF := ⟨.read, fun ds q => ∃ a b : Nat, ds = [.int a, .int b] ∧ q (.val (.int (Nat.gcd a b))) none⟩
def vMeeting : VF := ⟨.read, fun ds q => ∃ (E : Nat) (B : List Itm) (e : Ex), ds = [.lst (B.map (dI E)), .int (W e 8 : Nat)] ∧ ((∀ x, x ∈ B → Cp x.1 e) → q (.val .non) none) ∧ ∀ (i : Nat) (h : i < B.length), ¬ Cp (B[i]).1 e → q (.val (.int i)) none⟩
def vRefined : VF := ⟨.read, fun ds q => ∃ (E : Nat) (L : List Itm), ds = [.lst (L.map (dI E))] ∧ Ok E L ∧ ∀ B, Fin L B → q (.fresh (B.map (dI E))) none⟩
def vSettled : VF := ⟨.read, fun ds q => ∃ (E : Nat) (r : Rat) (R : List Rw), ds = [dR r, .lst (R.map (dW E))] ∧ Ok E (todo R) ∧ ∀ B, Fin (todo R) B → q (.val (.tup [dR r, .tup (B.map (dN E))])) none⟩
def vNPlus : VF := ⟨.read, fun ds q => ∃ (E : Nat) (r s : Rat) (R M : List Rw), ds = [.tup [dR r, .tup (R.map (dW E))], .tup [dR s, .tup (M.map (dW E))]] ∧ Sz r ∧ Sz s ∧ Ok E (todo (R ++ M)) ∧ ∀ B, Fin (todo (R ++ M)) B → q (.val (.tup [dR (r + s), .tup (B.map (dN E))])) none⟩
def mulR (p : Int) (R : List Rw) : List Rw := R.map fun r => (r.1, r.2.1, r.2.2 * p)
def vNScaled : VF := ⟨.read, fun ds q => ∃ (E F : Nat) (p : Int) (r : Rat) (R : List Rw), ds = [.tup [dR r, .tup (R.map (dW E))], dR (Rat.divInt p F)] ∧ 0 < F ∧ F ≤ 1000000000000000000 ∧ p.natAbs ≤ 1000000000000000000 ∧ Sz r ∧ Ok E (todo R) ∧ Ok (E * F) (todo (mulR p R)) ∧ ∀ B, Fin (todo (mulR p R)) B → q (.val (.tup [dR (r * Rat.divInt p F), .tup (B.map (dN (E * F)))])) none⟩
def vAt14 : VF := ⟨.read, fun ds q => ∃ (ns : List Int) (k : Int), ds = [.fix (ns.map D.int), .int k] ∧ ∀ c : Int, q (.val (.int c)) none⟩
def vDraw14 : VF := ⟨.read, fun ds q => ∃ (c : Int) (k : Nat) (m : Int), ds = [.int c, .int k, .int m] ∧ k ≤ 1000 ∧ 0 < m ∧ ∀ t : Int, 0 ≤ t → t < m → q (.val (.int t)) none⟩
def vNumber14 : VF := ⟨.read, fun ds q => ∃ a b : Int, ds = [.int a, .int b] ∧ b ≠ 0 ∧ q (.val (dR (Rat.divInt a b))) none⟩
def vNotAbove14 : VF := ⟨.read, fun ds q => ∃ a b : Rat, ds = [dR a, dR b] ∧ Sz a ∧ Sz b ∧ q (.val (.bl (decide (a ≤ b)))) none⟩
def vIsNumber14 : VF := ⟨.read, fun ds q => ∃ r : Rat, ds = [dR r] ∧ q (.val (.bl true)) none⟩
def vPrimes14 : VF := ⟨.read, fun ds q => ds = [] ∧ q (.val (.tup (prs.map fun p : Nat => VL.D.int p))) none⟩
/-- exponents above and below, as drawn -/
def pw8 (e f : Ex) : VL.D := .lst ((List.range 8).map fun j => VL.D.int ((e j : Int) - (f j : Int)))
def vSmooth14 : VF := ⟨.read, fun ds q => ∃ c : Int, ds = [.int c] ∧ ∀ e f : Ex, (∀ j, j < 8 → e j ≤ 3 ∧ f j ≤ 3) → q (.val (.tup [.tup [.int (W e 8 : Nat), .int (W f 8 : Nat)], pw8 e f])) none⟩
abbrev Wr := (Nat → Int) × Int
def dWr (E : Nat) (r : Wr) : VL.D := .tup [dR (Rat.divInt r.2 E), .lst ((List.range 8).map fun j => VL.D.int (r.1 j))]
def sw (j : Nat) : List Wr → Int
  | [] => 0
  | r :: R => r.2 * r.1 j + sw j R
def vWeights14 : VF := ⟨.read, fun ds q => ∃ (E : Nat) (R : List Wr), ds = [.lst (R.map (dWr E)), .int 8] ∧ 0 < E ∧ E ≤ 1000000000000000000 ∧ R.length ≤ 1000000 ∧ (∀ r, r ∈ R → r.2.natAbs ≤ 1000000000000000000 ∧ ∀ j, j < 8 → (r.1 j).natAbs ≤ 1000000) ∧ q (.fresh ((List.range 8).map fun j => dR (Rat.divInt (sw j R) E))) none⟩
def vPowers14 : VF := ⟨.read, fun ds q => ∃ e : Ex, ds = [.int (W e 8 : Nat)] ∧ q (.fresh ((List.range 8).map fun j => VL.D.int (e j : Nat))) none⟩
def vNoCommon14 : VF := ⟨.read, fun ds q => ∃ es : List Ex, ds = [.lst (es.map fun e => VL.D.int (W e 8 : Nat))] ∧ es.length ≤ 1000000 ∧ (es.Pairwise fun e f => Cp e f) ∧ q (.val (.bl true)) none⟩
def vIsSettled14 : VF := ⟨.read, fun ds q => ∃ (E : Nat) (r : Rat) (L B : List Itm), ds = [.tup [dR r, .tup (B.map (dN E))], dR r, .lst ((List.range 8).map fun j => dR (Rat.divInt (wt j L) E))] ∧ 0 < E ∧ E ≤ 1000000000000000000 ∧ Fin L B ∧ q (.val (.bl true)) none⟩
def vC14 : VF := ⟨.read, fun ds q => ∃ (c : Int) (k : Nat), ds = [.int c, .int k] ∧ k ≤ 900 ∧ ∀ t : Int, t.natAbs ≤ 360 → q (.val (dR (Rat.divInt t 60))) none⟩
/-- a drawn row: exponents up to three -/
def Small (r : Rw) : Prop := r.2.2.natAbs ≤ 360 ∧ ∀ j, j < 8 → r.1 j ≤ 3 ∧ r.2.1 j ≤ 3
def toW (r : Rw) : Wr := (fun j => (r.1 j : Int) - (r.2.1 j : Int), r.2.2)
def vRows14 : VF := ⟨.read, fun ds q => ∃ (ns : List Int) (d : VL.D), ds = [d] ∧ (d = .lst (ns.map D.int) ∨ d = .fix (ns.map D.int)) ∧ ns.length ≤ 63 ∧ ∀ R : List Rw, R.length ≤ 2 * ns.length → (∀ r, r ∈ R → Small r) → q (.val (.tup [.lst (R.map (dW 60)), .lst (R.map fun r => dWr 60 (toW r))])) none⟩
def vLogNumber14 : VF := ⟨.read, fun ds q => ∃ (c : Int) (ns : List Int) (d : VL.D), ds = [.int c, d] ∧ (d = .lst (ns.map D.int) ∨ d = .fix (ns.map D.int)) ∧ ns.length ≤ 63 ∧ ∀ (t : Int) (R : List Rw), t.natAbs ≤ 360 → R.length ≤ 2 * ns.length → (∀ r, r ∈ R → Small r) → q (.val (.tup [.tup [dR (Rat.divInt t 60), .tup (R.map (dW 60))], .lst ((List.range 8).map fun j => dR (Rat.divInt (wt j (todo R)) 60))])) none⟩
/-- the product of two numbers; the second one may stand in any terms -/
def vTimes14 : VF := ⟨.read, fun ds q => (vOp (· * ·)).sp ds q ∨ ∃ (x : Rat) (a b : Int), ds = [dR x, .tup [.int a, .int b]] ∧ 0 < b ∧ Sz x ∧ a.natAbs < 2 ^ szN ∧ b.natAbs < 2 ^ szN ∧ q (.val (dR (x * Rat.divInt a b))) none⟩
noncomputable def G14 (L : Nat → VF) : Nat → VF
  | 0 => vDivisor
  | 1 => vMeeting
  | 2 => vRefined
  | 3 => vSettled
  | 4 => vNPlus
  | 5 => vNScaled
  | 6 => vAt14
  | 7 => vDraw14
  | 8 => vNumber14
  | 9 => vOp (· + ·)
  | 10 => vTimes14
  | 11 => vNotAbove14
  | 12 => vIsNumber14
  | 13 => vPrimes14
  | 14 => vSmooth14
  | 15 => vWeights14
  | 16 => vPowers14
  | 17 => vNoCommon14
  | 18 => vIsSettled14
  | 19 => vC14
  | 20 => vRows14
  | 21 => vLogNumber14
  | 22 => vStub
  | 23 => vStub
  | 24 => vStub
  | 25 => vStub
  | 26 => vStub
  | 27 => vStub
  | 28 => vStub
  | 29 => vStub
  | n + 30 => L n
variable {L : Nat → VF}
noncomputable abbrev Gl (L : Nat → VF) : Nat → VF := G1 (G2 (G3 (G14 L)))
theorem pos_mod {a k : Int} (hk : 0 < k) : 0 ≤ a.fmod k ∧ a.fmod k < k := ⟨Int.fmod_nonneg_of_pos _ hk, Int.fmod_lt_of_pos _ hk⟩
theorem nat_fmod (a b : Nat) : (a : Int).fmod b = ((a % b : Nat) : Int) := by
  rw [Int.fmod_eq_emod_of_nonneg _ (by omega)]; rfl
theorem nat_fdiv (a b : Nat) : (a : Int).fdiv b = ((a / b : Nat) : Int) := by
  rw [Int.fdiv_eq_ediv_of_nonneg _ (by omega)]; rfl
theorem good_divisor_of : Good (Gl L) b_divisor_of 2 1 vDivisor := by
  rintro ds q ⟨a, b, rfl, hq⟩ -
  refine ⟨fun m ρ => ∃ (x y : Nat) (s : Sl), ρ = [.val (.int x), .val (.int y), s] ∧ y = m ∧ Nat.gcd x y = Nat.gcd a b, ⟨_, a, b, _, rfl, rfl, rfl⟩, ?_⟩
  rintro m _ ⟨x, y, s, rfl, rfl, h⟩
  refine ⟨fun t => ?_, fun t => ?_⟩
  · have t : (0 : Int) < (y : Int) := dec_t t
    refine ⟨by omega, _, Nat.mod_lt x (show 0 < y by omega), y, x % y, .val (.int ((x : Int).fmod y)), ?_, rfl, ?_⟩
    · rw [← nat_fmod]; rfl
    · rw [← h, Nat.gcd_comm x y, Nat.gcd_rec y x, Nat.gcd_comm]
  · have t : ¬ (0 : Int) < (y : Int) := dec_f t
    obtain rfl : y = 0 := by omega
    rw [Nat.gcd_zero_right] at h
    rw [← h] at hq
    exact hq
theorem enum_any {ds : List VL.D} {k : Nat} {d : VL.D} (h : (ds.mapIdx fun i d => VL.D.tup [.int (i : Nat), d])[k]? = some d) : ∃ e, ds[k]? = some e ∧ d = .tup [.int (k : Nat), e] := by
  rw [List.getElem?_mapIdx] at h
  obtain ⟨e, h1, h2⟩ := Option.map_eq_some_iff.mp h
  exact ⟨e, h1, h2.symm⟩
theorem good_meeting_place : Good (Gl L) b_meeting_place 2 2 vMeeting := by
  rintro ds q ⟨E, B, e, rfl, hN, hY⟩ -
  refine ⟨fun k ρ => ∃ s2 s3, ρ = [.val (.lst (B.map (dI E))), .val (.int (W e 8 : Nat)), s2, s3] ∧ ∀ x, x ∈ B.take k → Cp x.1 e, ⟨_, _, rfl, fun x h => by simp at h⟩, ?_, ?_⟩
  · rintro k d _ hd ⟨s2, s3, rfl, h⟩
    obtain ⟨y, hy, rfl⟩ := enum_any hd
    rw [List.getElem?_map] at hy
    obtain ⟨x, hx, rfl⟩ := Option.map_eq_some_iff.mp hy
    obtain ⟨hk, ex⟩ := List.getElem?_eq_some_iff.mp hx
    refine ⟨rfl, _, rfl, rfl, W x.1 8, W e 8, rfl, .inl rfl, fun t => ?_, fun t => ?_⟩
    · have t : (1 : Int) < ((Nat.gcd (W x.1 8) (W e 8) : Nat) : Int) := dec_t t
      exact hY k hk fun z => by
        rw [ex] at z
        rw [z.cop] at t
        exact absurd t (by decide)
    · have t : ¬ (1 : Int) < ((Nat.gcd (W x.1 8) (W e 8) : Nat) : Int) := dec_f t
      have p : 0 < Nat.gcd (W x.1 8) (W e 8) := Nat.gcd_pos_of_pos_left _ (W_pos _ _)
      refine ⟨_, _, rfl, fun z hz => ?_⟩
      rw [List.take_succ, hx] at hz
      rcases List.mem_append.mp hz with w | w
      · exact h z w
      · have : z = x := by simpa using w
        rw [this]
        exact Cp_iff.mp (by omega)
  · rintro _ ⟨s2, s3, rfl, h⟩
    rw [List.length_mapIdx, List.length_map, List.take_length] at h
    exact hN h

theorem perm_map {α β : Type} {g : α → β} {qs bs : List β} (h : qs.Perm bs) : ∀ {B : List α}, bs = B.map g → ∃ B' : List α, B'.Perm B ∧ qs = B'.map g := by
  induction h with
  | nil => intro B e; cases B with
    | nil => exact ⟨[], List.Perm.refl _, rfl⟩
    | cons b B => cases e
  | cons x _ ih => intro B e; cases B with
    | nil => cases e
    | cons b B =>
      rw [List.map_cons] at e
      injection e with e1 e2
      obtain ⟨B', h1, h2⟩ := ih e2
      exact ⟨b :: B', h1.cons b, by rw [List.map_cons, e1, h2]⟩
  | swap x y l => intro B e; match B, e with
    | b :: c :: B, e =>
      rw [List.map_cons, List.map_cons] at e
      injection e with e1 e2
      injection e2 with e2 e3
      exact ⟨c :: b :: B, List.Perm.swap _ _ _, by rw [List.map_cons, List.map_cons, e1, e2, e3]⟩
  | trans _ _ a b => intro B e
                     obtain ⟨B1, h1, h2⟩ := b e
                     obtain ⟨B2, h3, h4⟩ := a h2
                     exact ⟨B2, h3.trans h1, h4⟩
theorem lfs_dI (E : Nat) : ∀ B : List Itm, lfs (B.map (dI E)) = true
  | [] => rfl
  | x :: B => by show (lf (dI E x) && lfs (B.map (dI E))) = true; rw [lfs_dI E B]; rfl
theorem Ok.n {E : Nat} (h : 0 < E) (h1 : E ≤ 1000000000000000000) {n : Int} (hn : (n.natAbs : Int) ≤ 1000000000000000000) : RB' 60 (Rat.divInt n E) := rb_div (by rw [show (2 : Nat) ^ 60 = 1152921504606846976 by decide]; omega) (by rw [show (2 : Nat) ^ 60 = 1152921504606846976 by decide]; omega) (by omega)
theorem div_zero {n : Int} {E : Nat} (h : 0 < E) : Rat.divInt n E = 0 ↔ n = 0 := by
  rw [Rat.divInt_eq_div]
  have e0 : ((E : Int) : Rat) ≠ 0 := fun z => by
    have : (E : Int) = 0 := by exact_mod_cast z
    omega
  constructor
  · intro z
    have := Rat.div_mul_cancel e0 (a := (n : Rat))
    rw [z, Rat.zero_mul] at this
    exact_mod_cast this.symm
  · intro z; rw [z]; show (0 : Rat) / _ = 0; grind
theorem div_add' {n m : Int} {E : Nat} (h : 0 < E) : Rat.divInt n E + Rat.divInt m E = Rat.divInt (n + m) E := by
  rw [Rat.divInt_eq_div, Rat.divInt_eq_div, Rat.divInt_eq_div, Rat.intCast_add]; grind
theorem erase_map (E i : Nat) (B : List Itm) : (B.map (dI E)).eraseIdx i = (B.eraseIdx i).map (dI E) := by
  induction B generalizing i with
  | nil => rfl
  | cons x B ih => cases i with
    | zero => rfl
    | succ i => show dI E x :: (B.map (dI E)).eraseIdx i = dI E x :: (B.eraseIdx i).map (dI E); rw [ih]
theorem snoc_ex {α : Type} : ∀ {l : List α}, 0 < l.length → ∃ (M : List α) (x : α), l = M ++ [x]
  | [x], _ => ⟨[], x, rfl⟩
  | x :: y :: l, _ => by
    obtain ⟨M, z, e⟩ := snoc_ex (l := y :: l) (by simp)
    exact ⟨x :: M, z, by rw [e]; rfl⟩
theorem good_refined : Good (Gl L) b_refined 1 7 vRefined := by
  rintro ds q ⟨E, L0, rfl, hO, hq⟩ -
  have E0 := hO.E0
  have E1 := hO.E1
  have hT := hO.hv
  have m6 := hO.ms
  obtain ⟨m0, em0⟩ : ∃ m0 : Nat, (m0 : Int) = 3 * S om L0 + L0.length := ⟨(3 * S om L0 + L0.length).toNat, by have := S_nn om_nn L0; omega⟩
  refine ⟨rfl, fun m ρ => ∃ (M B : List Itm) (s2 s3 s4 s5 s6 s7 : Sl), ρ = [.own (M.map (dI E)), .own (B.map (dI E)), s2, s3, s4, s5, s6, s7] ∧ Iv (fun j => wt j L0) (S hv L0 + S an L0) m M B ∧ m ≤ m0, ⟨m0, L0, [], _, _, _, _, _, _, rfl, ⟨⟨fun x h => (by cases h), List.Pairwise.nil⟩, fun j _ => by show wt j L0 + 0 = wt j L0; omega, by have := S_nn an_nn L0; show S hv L0 + 0 ≤ _; omega, fun x hx => by have h1 := S_le an_nn hx; have h2 := S_nn hv_nn L0; have h4 : an x = (x.2.natAbs : Int) := rfl; omega, by show 3 * (S om L0 + 0) + _ ≤ _; omega⟩, Nat.le_refl _⟩, ?_⟩
  rintro m _ ⟨M, B, s2, s3, s4, s5, s6, s7, rfl, hI, hm⟩
  have wI := hI.ms
  have nn1 := S_nn om_nn M
  have nn2 := S_nn om_nn B
  have nh1 := S_nn hv_nn M
  have nh2 := S_nn hv_nn B
  have hhv := hI.hv
  have bl : ∀ C : List Itm, (∀ x, x ∈ C → 1 ≤ Om x.1 8) → (C.length : Int) ≤ S om C := fun C => by
    induction C with
    | nil => intro _; exact Int.le_refl 0
    | cons x C ih =>
      intro h
      have h1 := h x List.mem_cons_self
      have h2 := ih fun y hy => h y (List.mem_cons_of_mem _ hy)
      show ((C.length + 1 : Nat) : Int) ≤ om x + S om C
      unfold om at *; omega
  have bB := bl B fun x hx => (hI.bs.nz x hx).2
  have bab : ∀ x, x ∈ B → (x.2.natAbs : Int) ≤ 1000000000000000000 := fun x hx => by
    have h1 := S_le hv_nn hx
    have h2 : hv x = x.2.natAbs * (Om x.1 8 : Int) := rfl
    have h3 : (1 : Int) ≤ (Om x.1 8 : Int) := by have := (hI.bs.nz x hx).2; omega
    have h4 := Int.mul_le_mul_of_nonneg_left h3 (show (0 : Int) ≤ (x.2.natAbs : Int) by omega)
    omega
  refine ⟨fun t => ?_, fun t => ?_⟩
  · have t : decide ((0 : Int) < ((M.map (dI E)).length : Nat)) = true := t
    have t := of_decide_eq_true t
    rw [List.length_map] at t
    obtain ⟨M', x, rfl⟩ := snoc_ex (l := M) (by omega)
    rw [List.length_append] at wI
    simp only [List.length_cons, List.length_nil] at wI
    have xab := hI.ab x (List.mem_append_right _ (List.mem_singleton.mpr rfl))
    have rx := Ok.n E0 E1 (n := x.2) (by omega)
    have el : ((M' ++ [x]).map (dI E)).getLast? = some (dI E x) := by rw [List.map_append]; simp
    have ed : ((M' ++ [x]).map (dI E)).dropLast = M'.map (dI E) := by rw [List.map_append]; simp
    refine ⟨rfl, dI E x, el, rfl, ?_⟩
    show wSs (Gl L) _ [.own ((M' ++ [x]).map (dI E)).dropLast, _, _, _, _, _, _, _] _
    rw [ed]
    refine ⟨fun g => ?_, fun g => ⟨rfl, rfl, fun g2 => ?_, fun g2 => ?_⟩⟩
    · have g : decide (((W x.1 8 : Nat) : Int) = 1) = true := g
      have g := of_decide_eq_true g
      obtain ⟨m', h1, h2⟩ := hI.drop (.inl (W_one.mp (by omega)))
      exact ⟨fun _ => ⟨m', h1, M', B, _, _, _, _, _, _, rfl, h2, by omega⟩, fun h => (by cases h)⟩
    · have g2 : deq (dR (Rat.divInt x.2 E)) (dR 0) = true := g2
      rw [deq_dR] at g2
      obtain ⟨m', h1, h2⟩ := hI.drop (.inr ((div_zero E0).mp (of_decide_eq_true g2)))
      exact ⟨m', h1, M', B, _, _, _, _, _, _, rfl, h2, by omega⟩
    · have g : decide (((W x.1 8 : Nat) : Int) = 1) = false := g
      have g := of_decide_eq_false g
      have g2 : deq (dR (Rat.divInt x.2 E)) (dR 0) = false := g2
      rw [deq_dR] at g2
      have x0 : x.2 ≠ 0 := fun z => of_decide_eq_false g2 ((div_zero E0).mpr z)
      have xo : 1 ≤ Om x.1 8 := Nat.pos_of_ne_zero fun z => g (by rw [W_one.mpr z]; rfl)
      refine ⟨rfl, E, B, x.1, rfl, fun hc => ⟨.inr rfl, fun _ => ?_, fun h => (by cases h)⟩, fun i hi hn => ⟨.inr rfl, fun h => (by cases h), fun _ => ?_⟩⟩
      · obtain ⟨m', h1, h2⟩ := hI.put xo x0 hc
        exact ⟨rfl, rfl, by rw [List.length_map]; omega, m', h1, M', B ++ [x], _, _, _, _, _, _, congrArg (fun w => [Sl.own (M'.map (dI E)), .own w, .val (.int (W x.1 8 : Nat)), .val (dR (Rat.divInt x.2 E)), .val .non, s5, s6, s7]) (show B.map (dI E) ++ [dI E x] = (B ++ [x]).map (dI E) by rw [List.map_append]; rfl), h2, by omega⟩
      · obtain ⟨m', h1, h2⟩ := hI.meet hi hn
        obtain ⟨y, hy⟩ : ∃ y, y = B[i] := ⟨_, rfl⟩
        rw [← hy] at h2
        have ym : y ∈ B := by rw [hy]; exact List.getElem_mem hi
        have ry := Ok.n E0 E1 (bab y ym)
        have bi : (B.map (dI E))[i]? = some (dI E y) := by rw [List.getElem?_map, List.getElem?_eq_getElem hi, ← hy]; rfl
        have il : i < (B.map (dI E)).length := by rw [List.length_map]; exact hi
        refine ⟨rfl, ⟨by omega, by omega⟩, i, dI E y, ixN_nat il, bi, rfl, ?_⟩
        rw [erase_map]
        have gp : Nat.gcd (W x.1 8) (W y.1 8) = W (mn x.1 y.1) 8 := W_gcd _ _
        have np : (((W (mn x.1 y.1) 8 : Nat)) : Int) ≠ 0 := by have := W_pos (mn x.1 y.1) 8; omega
        have q1 : W x.1 8 / W (mn x.1 y.1) 8 = W (df x.1 y.1) 8 := by
          rw [W_split x.1 y.1 8, Nat.mul_comm]
          exact Nat.mul_div_cancel _ (W_pos _ _)
        have q2 : W y.1 8 / W (mn x.1 y.1) 8 = W (df y.1 x.1) 8 := by
          rw [mn_comm x.1 y.1, W_split y.1 x.1 8, Nat.mul_comm]
          exact Nat.mul_div_cancel _ (W_pos _ _)
        refine ⟨rfl, W x.1 8, W y.1 8, rfl, .inl rfl, ?_⟩
        rw [gp]
        have row : M'.map (dI E) ++ [.tup [.int (((W x.1 8 : Nat) : Int).fdiv ((W (mn x.1 y.1) 8 : Nat) : Int)), dR (Rat.divInt x.2 E)]] ++ [.tup [.int (((W y.1 8 : Nat) : Int).fdiv ((W (mn x.1 y.1) 8 : Nat) : Int)), dR (Rat.divInt y.2 E)]] ++ [.tup [.int ((W (mn x.1 y.1) 8 : Nat) : Int), dR (Rat.divInt x.2 E + Rat.divInt y.2 E)]] = (M' ++ [(df x.1 y.1, x.2)] ++ [(df y.1 x.1, y.2)] ++ [(mn x.1 y.1, x.2 + y.2)]).map (dI E) := by
          rw [div_add' E0, nat_fdiv, nat_fdiv, q1, q2]
          rw [List.map_append, List.map_append, List.map_append]; rfl
        refine ⟨rfl, np, rfl, ?_, rfl, np, rfl, ?_, rfl, rfl, Rat.divInt x.2 E, Rat.divInt y.2 E, rfl, sz_of rx (by decide), sz_of ry (by decide), .inl rfl, rfl, ?_, m', h1, _, B.eraseIdx i, .val (.int (W x.1 8 : Nat)), .val (dR (Rat.divInt x.2 E)), .val (.int (i : Nat)), .val (.int (W y.1 8 : Nat)), .val (dR (Rat.divInt y.2 E)), .val (.int (W (mn x.1 y.1) 8 : Nat)), congrArg (fun w => [Sl.own w, .own ((B.eraseIdx i).map (dI E)), .val (.int (W x.1 8 : Nat)), .val (dR (Rat.divInt x.2 E)), .val (.int (i : Nat)), .val (.int (W y.1 8 : Nat)), .val (dR (Rat.divInt y.2 E)), .val (.int (W (mn x.1 y.1) 8 : Nat))]) row, h2, by omega⟩
        · rw [List.length_map]; omega
        · rw [List.length_append, List.length_map]; show M'.length + 1 < _; omega
        · rw [List.length_append, List.length_append, List.length_map]; show M'.length + 1 + 1 < _; omega
  · have t : decide ((0 : Int) < ((M.map (dI E)).length : Nat)) = false := t
    have t := of_decide_eq_false t
    rw [List.length_map] at t
    have e0 : M = [] := List.eq_nil_of_length_eq_zero (by omega)
    subst e0
    have dist : (B.map fun x : Itm => (((W x.1 8 : Nat) : Int), dR (Rat.divInt x.2 E))).Pairwise fun p p' => p.1 ≠ p'.1 := by
      rw [List.pairwise_map]
      have := hI.bs.cp
      refine List.Pairwise.imp_of_mem (fun {x y} hx hy h z => ?_) this
      have z : ((W x.1 8 : Nat) : Int) = ((W y.1 8 : Nat) : Int) := z
      have zz : W x.1 8 = W y.1 8 := by omega
      have c := h.cop
      rw [← zz, Nat.gcd_self] at c
      have := (hI.bs.nz x hx).2
      have := W_one.mp c
      omega
    refine ⟨B.map fun x : Itm => (((W x.1 8 : Nat) : Int), dR (Rat.divInt x.2 E)), by rw [List.map_map]; rfl, dist, fun qs hp hs => ?_⟩
    obtain ⟨B', hB', eq⟩ := perm_map hp rfl
    rw [eq, List.map_map]
    refine hq B' ⟨fun x hx => hI.bs.nz x (hB'.mem_iff.mp hx), ?_, ?_, fun j hj => ?_, ?_, fun x hx => ?_, fun x hx => ?_, ?_, ?_⟩
    · exact (hB'.pairwise_iff (fun {x y} h => Cp.symm h)).mpr hI.bs.cp
    · rw [eq, List.pairwise_map] at hs
      have c := (hB'.pairwise_iff (fun {x y} h => Cp.symm h)).mpr hI.bs.cp
      refine (hs.and c).imp_of_mem fun {x y} hx hy ⟨h1, h2⟩ => ?_
      have h1 : ((W x.1 8 : Nat) : Int) ≤ ((W y.1 8 : Nat) : Int) := h1
      refine Nat.lt_of_le_of_ne (by omega) fun zz => ?_
      have c := h2.cop
      rw [← zz, Nat.gcd_self] at c
      have := (hI.bs.nz x (hB'.mem_iff.mp hx)).2
      have := W_one.mp c
      omega
    · have := hI.wt j hj
      have e : wt j B' = wt j B := S_perm _ hB'
      have z : wt j ([] : List Itm) = 0 := rfl
      omega
    · have := hB'.length_eq
      omega
    · have := bab x (hB'.mem_iff.mp hx)
      omega
    · have h1 := S_le om_nn (hB'.mem_iff.mp hx)
      have h2 : om x = Om x.1 8 := rfl
      omega
    · have e : S hv B' = S hv B := S_perm _ hB'
      have z : S hv ([] : List Itm) = 0 := rfl
      omega
    · have e : S om B' = S om B := S_perm _ hB'
      have z : S om ([] : List Itm) = 0 := rfl
      have z2 : (([] : List Itm).length : Int) = 0 := rfl
      omega

theorem todo_app (R M : List Rw) : todo (R ++ M) = todo R ++ todo M := by
  induction R with
  | nil => rfl
  | cons r R ih => show _ :: _ :: todo (R ++ M) = _; rw [ih]; rfl
theorem todo_len (R : List Rw) : (todo R).length = 2 * R.length := by
  induction R with
  | nil => rfl
  | cons r R ih => show (todo R).length + 1 + 1 = _; rw [ih, List.length_cons]; omega
theorem todo_mem {R : List Rw} {r : Rw} (h : r ∈ R) : (r.1, r.2.2) ∈ todo R ∧ (r.2.1, -r.2.2) ∈ todo R := by
  induction R with
  | nil => cases h
  | cons s R ih =>
    rcases List.mem_cons.mp h with w | w
    · subst w; exact ⟨List.mem_cons_self, List.mem_cons_of_mem _ List.mem_cons_self⟩
    · obtain ⟨h1, h2⟩ := ih w
      exact ⟨List.mem_cons_of_mem _ (List.mem_cons_of_mem _ h1), List.mem_cons_of_mem _ (List.mem_cons_of_mem _ h2)⟩
theorem div_neg' {n : Int} {E : Nat} : 0 - Rat.divInt n E = Rat.divInt (-n) E := by
  rw [Rat.divInt_eq_div, Rat.divInt_eq_div, Rat.intCast_neg]; grind
theorem lfs_dN (E : Nat) : ∀ B : List Itm, lfs (B.map (dN E)) = true
  | [] => rfl
  | x :: B => by show (lf (dN E x) && lfs (B.map (dN E))) = true; rw [lfs_dN E B]; rfl
theorem good_settled_number : Good (Gl L) b_settled_number 2 4 vSettled := by
  rintro ds q ⟨E, r, R, rfl, hO, hq⟩ -
  have lt : (todo R).length ≤ 1000000 := by
    have := hO.ms
    have := S_nn om_nn (todo R)
    omega
  have lR := todo_len R
  refine ⟨rfl, fun k ρ => ∃ s3 s4 : Sl, ρ = [.val (dR r), .val (.lst (R.map (dW E))), .own ((todo (R.take k)).map (dI E)), s3, s4, .un] ∧ k ≤ R.length, ⟨_, _, rfl, Nat.zero_le _⟩, ?_, ?_⟩
  · rintro k d _ hd ⟨s3, s4, rfl, _⟩
    rw [List.getElem?_map] at hd
    obtain ⟨x, hx, rfl⟩ := Option.map_eq_some_iff.mp hd
    have hk : k < R.length := (List.getElem?_eq_some_iff.mp hx).1
    have hxm := (todo_mem (List.mem_of_getElem? hx)).1
    have rx := Ok.n hO.E0 hO.E1 (hO.ab _ hxm)
    have lk : (todo (R.take k)).length = 2 * k := by rw [todo_len, List.length_take]; omega
    refine ⟨rfl, rfl, _, rfl, rfl, by rw [List.length_map]; omega, rfl, _, rfl, rfl, 0, Rat.divInt x.2.2 E, rfl, sz_of (n := 1) ⟨by decide, by decide⟩ (by decide), sz_of rx (by decide), .inl rfl, rfl, ?_, .val (dR (Rat.divInt x.2.2 E)), .val (.tup [.int (W x.1 8 : Nat), .int (W x.2.1 8 : Nat)]), ?_, hk⟩
    · rw [List.length_append, List.length_map]; show _ + 1 < _; omega
    · have row : (todo (R.take k)).map (dI E) ++ [.tup [.int (W x.1 8 : Nat), dR (Rat.divInt x.2.2 E)]] ++ [.tup [.int (W x.2.1 8 : Nat), dR (0 - Rat.divInt x.2.2 E)]] = (todo (R.take (k + 1))).map (dI E) := by
        rw [div_neg', List.take_succ, hx, todo_app, List.map_append]
        show _ ++ [_] ++ [_] = _ ++ [_, _]
        rw [List.append_assoc]; rfl
      exact congrArg (fun w => [Sl.val (dR r), .val (.lst (R.map (dW E))), .own w, .val (dR (Rat.divInt x.2.2 E)), .val (.tup [.int (W x.1 8 : Nat), .int (W x.2.1 8 : Nat)]), .un]) row
  · rintro _ ⟨s3, s4, rfl, _⟩
    rw [List.length_map, List.take_length]
    refine ⟨rfl, E, todo R, rfl, hO, fun B hB => ⟨.inr (lfs_dI E B), ?_⟩⟩
    refine ⟨by rw [List.length_map]; have := hB.few; unfold Sm; omega, fun k acc ρ => acc = (B.take k).map (dN E) ∧ ρ = [.val (dR r), .val (.lst (R.map (dW E))), .own ((todo R).map (dI E)), .un, s4, .un], ⟨rfl, rfl⟩, ?_, ?_⟩
    · rintro k d acc _ hd ⟨rfl, rfl⟩
      rw [List.getElem?_map] at hd
      obtain ⟨x, hx, rfl⟩ := Option.map_eq_some_iff.mp hd
      refine ⟨rfl, fun _ => ⟨rfl, rfl, ?_, rfl⟩, fun h => (by cases h)⟩
      rw [List.take_succ, hx, List.map_append]; rfl
    · rintro acc _ ⟨rfl, rfl⟩
      rw [List.length_map, List.take_length]
      exact ⟨rfl, hq B hB⟩
theorem good_n_plus : Good (Gl L) b_n_plus 2 0 vNPlus := by
  rintro ds q ⟨E, r, s, R, M, rfl, hr, hs, hO, hq⟩ -
  have lt : (todo (R ++ M)).length ≤ 1000000 := by
    have := hO.ms
    have := S_nn om_nn (todo (R ++ M))
    omega
  rw [todo_len, List.length_append] at lt
  refine ⟨_, rfl, _, rfl, rfl, r, s, rfl, hr, hs, .inl rfl, _, rfl, _, rfl, ?_, rfl, E, r + s, R ++ M, ?_, hO, fun B hB => ⟨.inl rfl, hq B hB⟩⟩
  · rw [List.length_map, List.length_map]; unfold Sm; omega
  · rw [List.map_append]
theorem div_mul' {n p : Int} {E F : Nat} (h : 0 < E) (g : 0 < F) : Rat.divInt n E * Rat.divInt p F = Rat.divInt (n * p) (E * F : Nat) := by
  have e0 : (E : Rat) ≠ 0 := fun z => by
    have : E = 0 := by exact_mod_cast z
    omega
  have f0 : (F : Rat) ≠ 0 := fun z => by
    have : F = 0 := by exact_mod_cast z
    omega
  rw [Rat.divInt_eq_div, Rat.divInt_eq_div, Rat.divInt_eq_div]
  simp only [Rat.intCast_mul, Rat.intCast_natCast, Int.natCast_mul]
  grind
theorem good_n_scaled : Good (Gl L) b_n_scaled 2 2 vNScaled := by
  rintro ds q ⟨E, F, p, r, R, rfl, F0, F1, hp, hr, hO, hO2, hq⟩ -
  have lt : (todo R).length ≤ 1000000 := by
    have := hO.ms
    have := S_nn om_nn (todo R)
    omega
  rw [todo_len] at lt
  have rc := Ok.n F0 F1 (n := p) (by omega)
  refine ⟨_, rfl, rfl, r, Rat.divInt p F, rfl, hr, sz_of rc (by decide), .inl rfl, _, rfl, ?_⟩
  refine ⟨by rw [List.length_map]; unfold Sm; omega, fun k acc ρ => acc = ((mulR p R).take k).map (dW (E * F)) ∧ ρ = [.val (.tup [dR r, .tup (R.map (dW E))]), .val (dR (Rat.divInt p F)), .un, .un], ⟨rfl, rfl⟩, ?_, ?_⟩
  · rintro k d acc _ hd ⟨rfl, rfl⟩
    rw [List.getElem?_map] at hd
    obtain ⟨x, hx, rfl⟩ := Option.map_eq_some_iff.mp hd
    have rx := Ok.n hO.E0 hO.E1 (hO.ab _ (todo_mem (List.mem_of_getElem? hx)).1)
    refine ⟨rfl, fun _ => ⟨rfl, Rat.divInt x.2.2 E, Rat.divInt p F, rfl, sz_of rx (by decide), sz_of rc (by decide), .inl rfl, rfl, ?_, rfl⟩, fun h => (by cases h)⟩
    have hx2 : (mulR p R)[k]? = some (x.1, x.2.1, x.2.2 * p) := by unfold mulR; rw [List.getElem?_map, hx]; rfl
    show _ ++ [VL.D.tup [dR (Rat.divInt x.2.2 E * Rat.divInt p F), .tup [.int (W x.1 8 : Nat), .int (W x.2.1 8 : Nat)]]] = _
    rw [div_mul' hO.E0 F0, List.take_succ, hx2, List.map_append]; rfl
  · rintro acc _ ⟨rfl, rfl⟩
    rw [List.length_map]
    have e : (mulR p R).take R.length = mulR p R := List.take_of_length_le (by unfold mulR; rw [List.length_map]; exact Nat.le_refl _)
    rw [e]
    exact ⟨rfl, E * F, r * Rat.divInt p F, mulR p R, rfl, hO2, fun B hB => ⟨.inl rfl, hq B hB⟩⟩

theorem good_law_at14 : Good (Gl L) b_law_at14 2 0 vAt14 := by
  rintro ds q ⟨ns, k, rfl, hq⟩ -
  refine ⟨fun h => ⟨fun h2 => ?_, fun _ => hq 0⟩, fun _ => ⟨fun z => (by cases z), fun _ => hq 0⟩⟩
  have h : decide ((0 : Int) ≤ k) = true := h
  have h := of_decide_eq_true h
  have h2 : decide (k < ((ns.map VL.D.int).length : Nat)) = true := h2
  have h2 := of_decide_eq_true h2
  rw [List.length_map] at h2
  obtain ⟨n, rfl⟩ : ∃ n : Nat, k = n := ⟨k.toNat, by omega⟩
  have hn : n < ns.length := by omega
  exact ⟨.int ns[n], atI_nat (by rw [List.getElem?_map, List.getElem?_eq_getElem hn]; rfl), hq _⟩
theorem lt64 {x : Int} (h : 0 ≤ x) (g : x < 18446744073709551616) : x.natAbs < 2 ^ 64 := by
  have : (2 : Nat) ^ 64 = 18446744073709551616 := by decide
  omega
theorem good_law_draw14 : Good (Gl L) b_law_draw14 3 1 vDraw14 := by
  rintro ds q ⟨c, k, m, rfl, hk, hm, hq⟩ -
  have m0 : m ≠ 0 := by omega
  have pm := fun a : Int => pos_mod (a := a) hm
  have cp : CPow 2 60 := ⟨by decide, by decide, by decide⟩
  have rest : wSs (Gl L) (ss [.asg 3 (.bin .mod (.bin .mul (.bin .add (.bin .add (.bin .mod (.var 0) (.int 2147483629)) (.bin .mul (.bin .mul (.var 1) (.var 1)) (.int 7919))) (.int 11)) (.int 48271)) (.int 2147483647)),
  .ret (.bin .mod (.bin .fdiv (.bin .mod (.bin .mul (.var 3) (.var 3)) (.int 1999999973)) (.int 7)) (.var 2))]) [.val (.int c), .val (.int k), .val (.int m), .un] { nx := fun _ => q (.val .non) none, rt := fun r _ => q r none } := by
    have p1 := pos_mod (a := (c.fmod 2147483629 + (k : Int) * k * 7919 + 11) * 48271) (k := 2147483647) (by decide)
    exact ⟨by decide, mul_l (lt64 (by omega) (by omega)), mul_r (by decide), mul_r (by decide), by decide, mul_l (lt64 p1.1 (Int.lt_trans p1.2 (by decide))), by decide, by decide, m0, hq _ (pm _).1 (pm _).2⟩
  refine ⟨cp, fun _ => ⟨fun _ => ⟨mul_l (by decide), by omega, by decide, m0, hq _ (pm _).1 (pm _).2⟩, fun _ => rest⟩, fun _ => ⟨fun z => (by cases z), fun _ => rest⟩⟩
theorem good_law_number14 : Good (Gl L) b_law_number14 2 2 vNumber14 := by
  rintro ds q ⟨a, b, rfl, hb, hq⟩ -
  have e1 := divInt_num (a := a) hb
  have e2 := divInt_den (a := a) hb
  have hg : (Int.gcd a b : Int) ≠ 0 := fun z => hb (Int.gcd_eq_zero_iff.mp (Int.ofNat.inj z)).2
  unfold dR at hq
  rw [e1, e2] at hq
  refine ⟨rfl, fun m ρ => ∃ x y : Int, ρ = [.val (.int a), .val (.int b), .val (.int x), .val (.int y)] ∧ y.toNat = m ∧ 0 ≤ x ∧ 0 ≤ y ∧ Int.gcd x y = Int.gcd a b, ⟨_, a.natAbs, b.natAbs, rfl, rfl, by omega, by omega, ?_⟩, ?_⟩
  · simp [Int.gcd]
  rintro m _ ⟨x, y, rfl, rfl, hx, hy, h⟩
  refine ⟨fun t => ?_, fun t => ?_⟩
  · have t : 0 < y := dec_t t
    have f1 := Int.fmod_nonneg_of_pos x t
    have f2 := Int.fmod_lt_of_pos x t
    exact ⟨by omega, rfl, _, by omega, y, x.fmod y, rfl, rfl, hy, f1, (gcd_step x y).trans h⟩
  · have t : ¬ 0 < y := dec_f t
    obtain rfl : y = 0 := by omega
    rw [Int.gcd_zero_right] at h
    have hx2 : x = Int.gcd a b := by omega
    subst hx2
    refine ⟨fun z => ?_, fun z => ?_⟩
    · have z : b < 0 := dec_t z
      rw [if_pos z] at hq
      exact ⟨by omega, by omega, rfl, hq⟩
    · have z : ¬ b < 0 := dec_f z
      rw [if_neg z] at hq
      exact ⟨hg, hg, rfl, hq⟩
theorem good_law_plus14 : Good (Gl L) b_law_plus14 2 0 (vOp (· + ·)) := by
  rintro ds q ⟨a, b, rfl, ha, hb, hq⟩ -
  have e := Rat.divInt_add_divInt
  have key : Rat.divInt (a.num * b.den + b.num * a.den) (a.den * b.den) = a + b := by
    have ha : (a.den : Rat) ≠ 0 := fun z => a.den_nz (by exact_mod_cast z)
    have hb : (b.den : Rat) ≠ 0 := fun z => b.den_nz (by exact_mod_cast z)
    have num_eq : ∀ r : Rat, (r.num : Rat) = r * (r.den : Rat) := fun r => by
      have h0 : (r.den : Rat) ≠ 0 := fun z => r.den_nz (by exact_mod_cast z)
      have := Rat.num_divInt_den r
      rw [Rat.divInt_eq_div, Rat.intCast_natCast] at this
      have h2 := Rat.div_mul_cancel h0 (a := (r.num : Rat))
      rw [this] at h2
      exact h2.symm
    rw [Rat.divInt_eq_div]
    simp only [Rat.intCast_mul, Rat.intCast_add, Rat.intCast_natCast]
    rw [num_eq a, num_eq b]
    grind
  have da : ((a.den : Int)).natAbs < 2 ^ szN := by rw [Int.natAbs_natCast]; exact ha.2
  have db : ((b.den : Int)).natAbs < 2 ^ szN := by rw [Int.natAbs_natCast]; exact hb.2
  refine ⟨_, rfl, _, rfl, sz_mul ha.1 db, _, rfl, _, rfl, sz_mul hb.1 da, _, rfl, _, rfl, sz_mul da db, rfl, _, _, rfl, ?_, .inl rfl, ?_⟩
  · exact Int.mul_ne_zero (by have := a.den_pos; omega) (by have := b.den_pos; omega)
  · rw [key]; exact hq
theorem num_den14 (r : Rat) : (r.num : Rat) = r * (r.den : Rat) := by
  have h0 : (r.den : Rat) ≠ 0 := fun z => r.den_nz (by exact_mod_cast z)
  have := Rat.num_divInt_den r
  rw [Rat.divInt_eq_div, Rat.intCast_natCast] at this
  have h2 := Rat.div_mul_cancel h0 (a := (r.num : Rat))
  rw [this] at h2
  exact h2.symm
theorem good_law_times14 : Good (Gl L) b_law_times14 2 0 vTimes14 := by
  rintro ds q (⟨a, b, rfl, ha, hb, hq⟩ | ⟨x, a, b, rfl, b0, hx, ha, hb, hq⟩) -
  · have key : Rat.divInt (a.num * b.num) (a.den * b.den) = a * b := by
      have ha : (a.den : Rat) ≠ 0 := fun z => a.den_nz (by exact_mod_cast z)
      have hb : (b.den : Rat) ≠ 0 := fun z => b.den_nz (by exact_mod_cast z)
      rw [Rat.divInt_eq_div]
      simp only [Rat.intCast_mul, Rat.intCast_natCast]
      rw [num_den14 a, num_den14 b]
      grind
    have da : ((a.den : Int)).natAbs < 2 ^ szN := by rw [Int.natAbs_natCast]; exact ha.2
    have db : ((b.den : Int)).natAbs < 2 ^ szN := by rw [Int.natAbs_natCast]; exact hb.2
    refine ⟨_, rfl, _, rfl, sz_mul ha.1 hb.1, _, rfl, _, rfl, sz_mul da db, rfl, _, _, rfl, ?_, .inl rfl, ?_⟩
    · exact Int.mul_ne_zero (by have := a.den_pos; omega) (by have := b.den_pos; omega)
    · rw [key]; exact hq
  · have key : Rat.divInt (x.num * a) (x.den * b) = x * Rat.divInt a b := by
      have h1 : (x.den : Rat) ≠ 0 := fun z => x.den_nz (by exact_mod_cast z)
      have h2 : (b : Rat) ≠ 0 := fun z => absurd (show b = 0 by exact_mod_cast z) (by omega)
      rw [Rat.divInt_eq_div, Rat.divInt_eq_div]
      simp only [Rat.intCast_mul, Rat.intCast_natCast]
      rw [num_den14 x]
      grind
    have da : ((x.den : Int)).natAbs < 2 ^ szN := by rw [Int.natAbs_natCast]; exact hx.2
    refine ⟨_, rfl, _, rfl, sz_mul hx.1 ha, _, rfl, _, rfl, sz_mul da hb, rfl, _, _, rfl, ?_, .inl rfl, ?_⟩
    · exact Int.mul_ne_zero (by have := x.den_pos; omega) (by omega)
    · rw [key]; exact hq
theorem good_law_not_above14 : Good (Gl L) b_law_not_above14 2 0 vNotAbove14 := by
  rintro ds q ⟨a, b, rfl, ha, hb, hq⟩ -
  have da : ((a.den : Int)).natAbs < 2 ^ szN := by rw [Int.natAbs_natCast]; exact ha.2
  have db : ((b.den : Int)).natAbs < 2 ^ szN := by rw [Int.natAbs_natCast]; exact hb.2
  refine ⟨_, rfl, _, rfl, sz_mul ha.1 db, _, rfl, _, rfl, sz_mul hb.1 da, ?_⟩
  have e : decide (a.num * b.den ≤ b.num * a.den) = decide (a ≤ b) := by
    rw [decide_eq_decide]
    exact (Rat.le_iff a b).symm
  show q (.val (.bl (decide (a.num * b.den ≤ b.num * a.den)))) none
  rw [e]; exact hq
theorem good_law_is_number14 : Good (Gl L) b_law_is_number14 1 1 vIsNumber14 := by
  rintro ds q ⟨r, rfl, hq⟩ -
  refine ⟨fun h => (by cases h), fun _ => ⟨fun h => (by cases h), fun _ => ?_⟩⟩
  refine ⟨fun k ρ => ∃ s, ρ = [.val (dR r), s], ⟨_, rfl⟩, ?_, ?_⟩
  · rintro k d _ hd ⟨s, rfl⟩
    have hd : ∃ i : Int, d = .int i := by
      match k, hd with
      | 0, hd => cases hd; exact ⟨_, rfl⟩
      | 1, hd => cases hd; exact ⟨_, rfl⟩
      | k + 2, hd => cases hd
    obtain ⟨i, rfl⟩ := hd
    exact ⟨fun h => (by cases h), fun _ => ⟨fun h => (by cases h), fun _ => ⟨_, rfl⟩⟩⟩
  · rintro _ ⟨s, rfl⟩
    have hd := den_p r
    refine ⟨_, rfl, fun h => ?_, fun h => absurd hd (dec_f h)⟩
    have h2 : deq (dR r) (dR (Rat.divInt r.num r.den)) = true := by rw [Rat.num_divInt_den]; exact deq_self _
    refine ⟨_, rfl, _, rfl, rfl, _, _, rfl, by omega, .inl rfl, rfl, rfl, ?_⟩
    rw [h2]
    exact hq
theorem good_law_primes14 : Good (Gl L) b_law_primes14 0 0 vPrimes14 := by
  rintro ds q ⟨rfl, hq⟩ -
  exact ⟨rfl, hq⟩
theorem bd_mul {p q : Nat} {i j : Int} (h : i.natAbs < 2 ^ p) (g : j.natAbs < 2 ^ q) : (i * j).natAbs < 2 ^ (p + q) := by
  rw [Int.natAbs_mul, Nat.pow_add]
  rcases Nat.eq_zero_or_pos j.natAbs with z | z
  · rw [z, Nat.mul_zero]
    exact Nat.mul_pos (Nat.pow_pos (by decide)) (Nat.pow_pos (by decide))
  · exact Nat.mul_lt_mul_of_lt_of_le h (Nat.le_of_lt g) (by omega)
theorem mul_sz {p q : Nat} {i j : Int} (h : i.natAbs < 2 ^ p) (g : j.natAbs < 2 ^ q) (hp : p ≤ 1000000) (hq : q ≤ 1000000) : MulOk i j :=
  sz_mul (Nat.lt_of_lt_of_le h (Nat.pow_le_pow_right (by decide) (by unfold szN; omega))) (Nat.lt_of_lt_of_le g (Nat.pow_le_pow_right (by decide) (by unfold szN; omega)))

/-- exponents drawn so far -/
def eU (ps : List Int) : Ex := fun j => (ps.getD j 0).toNat
def eD (ps : List Int) : Ex := fun j => (-(ps.getD j 0)).toNat
theorem eU_lt {ps : List Int} {p : Int} {j : Nat} (h : j < ps.length) : eU (ps ++ [p]) j = eU ps j ∧ eD (ps ++ [p]) j = eD ps j := by
  unfold eU eD
  rw [List.getD_eq_getElem?_getD, List.getD_eq_getElem?_getD, List.getElem?_append_left h]
  exact ⟨rfl, rfl⟩
theorem eU_eq (ps : List Int) (p : Int) : eU (ps ++ [p]) ps.length = p.toNat ∧ eD (ps ++ [p]) ps.length = (-p).toNat := by
  unfold eU eD
  rw [List.getD_eq_getElem?_getD, List.getElem?_append_right (Nat.le_refl _), Nat.sub_self]
  exact ⟨rfl, rfl⟩
theorem prs_at {k : Nat} {d : VL.D} (h : (prs.map fun p : Nat => VL.D.int p)[k]? = some d) : k < 8 ∧ d = .int (pr k : Nat) := by
  rw [List.getElem?_map] at h
  obtain ⟨p, hp, rfl⟩ := Option.map_eq_some_iff.mp h
  have hk : k < 8 := (List.getElem?_eq_some_iff.mp hp).1
  refine ⟨hk, ?_⟩
  unfold pr
  rw [List.getD_eq_getElem?_getD, hp]; rfl
theorem at_pick (l : List Int) {u : Int} (h0 : 0 ≤ u) (h1 : u < l.length) : ∃ x, x ∈ l ∧ atI (l.map VL.D.int) u = some (.int x) := by
  obtain ⟨n, rfl⟩ : ∃ n : Nat, u = n := ⟨u.toNat, by omega⟩
  have hn : n < l.length := by omega
  exact ⟨l[n], List.getElem_mem hn, atI_nat (by rw [List.getElem?_map, List.getElem?_eq_getElem hn]; rfl)⟩
theorem pow_bits {k n : Nat} (hk : k < 8) (hn : n ≤ 3) : pr k ^ n < 2 ^ 91 := by
  have h2 : pr k ^ n ≤ 2 ^ (30 * n) := by
    refine Nat.le_trans (Nat.pow_le_pow_left (Nat.le_of_lt (pr_two hk).2) _) ?_
    rw [← Nat.pow_mul]; exact Nat.le_refl _
  exact Nat.lt_of_le_of_lt h2 (Nat.pow_lt_pow_right (by decide) (by omega))
theorem good_law_smooth14 : Good (Gl L) b_law_smooth14 1 7 vSmooth14 := by
  rintro ds q ⟨c, rfl, hq⟩ -
  refine ⟨rfl, rfl, rfl, .inl rfl, ?_⟩
  refine ⟨fun k ρ => ∃ (ps : List Int) (s4 s5 s6 s7 : Sl), ρ = [.val (.int c), .val (.int (W (eU ps) k : Nat)), .val (.int (W (eD ps) k : Nat)), .own (ps.map VL.D.int), s4, s5, s6, s7] ∧ ps.length = k ∧ k ≤ 8 ∧ ∀ p, p ∈ ps → p.natAbs ≤ 3, ⟨[], _, _, _, _, rfl, rfl, by decide, fun p h => (by cases h)⟩, ?_, ?_⟩
  · rintro k d _ hd ⟨ps, s4, s5, s6, s7, rfl, hl, _, hp⟩
    obtain ⟨e, he, rfl⟩ := enum_any hd
    obtain ⟨hk, rfl⟩ := prs_at he
    have ub : ∀ j, eU ps j ≤ 3 ∧ eD ps j ≤ 3 := fun j => by
      unfold eU eD
      rw [List.getD_eq_getElem?_getD]
      cases z : ps[j]? with
      | none => exact ⟨by decide, by decide⟩
      | some p =>
        have := hp p (List.mem_of_getElem? z)
        show p.toNat ≤ 3 ∧ (-p).toNat ≤ 3
        omega
    refine ⟨rfl, rfl, rfl, c, k, 8, rfl, by omega, by decide, fun t t0 t8 => ⟨.inl rfl, ?_⟩⟩
    obtain ⟨p, hpm, ap⟩ := at_pick [0, 0, 1, 2, -1, 0, -3, 1] t0 (by simpa using t8)
    have p3 : p.natAbs ≤ 3 := by
      simp only [List.mem_cons, List.not_mem_nil, or_false] at hpm
      omega
    refine ⟨_, ap, rfl, by rw [List.length_map]; omega, ⟨by omega, by omega⟩, ?_⟩
    have bU : W (eU ps) k < 2 ^ 800 := Nat.lt_of_lt_of_le (W_bits (n := 3) k (by omega) fun j _ => (ub j).1) (Nat.pow_le_pow_right (by decide) (by omega))
    have bD : W (eD ps) k < 2 ^ 800 := Nat.lt_of_lt_of_le (W_bits (n := 3) k (by omega) fun j _ => (ub j).2) (Nat.pow_le_pow_right (by decide) (by omega))
    have bp : pr k < 2 ^ 30 := (pr_two hk).2
    have row : ps.map VL.D.int ++ [.int p] = (ps ++ [p]).map VL.D.int := by rw [List.map_append]; rfl
    refine ⟨fun t ρ => ∃ s7 : Sl, ρ = [.val (.int c), .val (.int (W (eU ps) k * pr k ^ (if 0 < p then t else 0) : Nat)), .val (.int (W (eD ps) k * pr k ^ (if 0 < p then 0 else t) : Nat)), .own ((ps ++ [p]).map VL.D.int), .val (.int (k : Nat)), .val (.int (pr k : Nat)), .val (.int p), s7] ∧ t ≤ p.natAbs, ⟨s7, ?_, Nat.zero_le _⟩, ?_, ?_⟩
    · rw [← row]
      have e1 : (if 0 < p then 0 else 0) = 0 := by split <;> rfl
      rw [e1, Nat.pow_zero, Nat.mul_one, Nat.mul_one]; rfl
    · rintro t d _ hd ⟨s7, rfl, _⟩
      obtain ⟨rfl, ht⟩ := rngs_at hd
      have ht : t < p.natAbs := by omega
      have b3 := pow_bits hk (n := t) (by omega)
      refine ⟨fun g => ?_, fun g => ?_⟩
      · have g : 0 < p := dec_t g
        rw [if_pos g, if_pos g]
        have bb := bd_mul (p := 800) (q := 91) (i := (W (eU ps) k : Nat)) (j := (pr k ^ t : Nat)) (by rw [Int.natAbs_natCast]; exact bU) (by rw [Int.natAbs_natCast]; exact b3)
        refine ⟨mul_sz (p := 891) (q := 30) (by rw [Int.natCast_mul]; exact bb) (by rw [Int.natAbs_natCast]; exact bp) (by decide) (by decide), .val (.int (t : Nat)), ?_, ht⟩
        rw [if_pos g, if_pos g, Nat.pow_succ, ← Nat.mul_assoc]
        show [_, Sl.val (.int (((W (eU ps) k * pr k ^ t : Nat) : Int) * (pr k : Nat))), _, _, _, _, _, _] = _
        rw [← Int.natCast_mul]
      · have g : ¬ 0 < p := dec_f g
        rw [if_neg g, if_neg g]
        have bb := bd_mul (p := 800) (q := 91) (i := (W (eD ps) k : Nat)) (j := (pr k ^ t : Nat)) (by rw [Int.natAbs_natCast]; exact bD) (by rw [Int.natAbs_natCast]; exact b3)
        refine ⟨mul_sz (p := 891) (q := 30) (by rw [Int.natCast_mul]; exact bb) (by rw [Int.natAbs_natCast]; exact bp) (by decide) (by decide), .val (.int (t : Nat)), ?_, ht⟩
        rw [if_neg g, if_neg g, Nat.pow_succ, ← Nat.mul_assoc]
        show [_, _, Sl.val (.int (((W (eD ps) k * pr k ^ t : Nat) : Int) * (pr k : Nat))), _, _, _, _, _] = _
        rw [← Int.natCast_mul]
    · rintro _ ⟨s7, rfl, _⟩
      rw [rngs_length, Int.toNat_natCast]
      have q1 : W (eU (ps ++ [p])) (k + 1) = W (eU ps) k * pr k ^ (if 0 < p then p.natAbs else 0) := by
        show W (eU (ps ++ [p])) k * pr k ^ eU (ps ++ [p]) k = _
        rw [W_congr (k := k) fun j hj => (eU_lt (ps := ps) (p := p) (j := j) (by omega)).1]
        have := (eU_eq ps p).1
        rw [hl] at this
        rw [this]
        congr 2
        split <;> omega
      have q2 : W (eD (ps ++ [p])) (k + 1) = W (eD ps) k * pr k ^ (if 0 < p then 0 else p.natAbs) := by
        show W (eD (ps ++ [p])) k * pr k ^ eD (ps ++ [p]) k = _
        rw [W_congr (k := k) fun j hj => (eU_lt (ps := ps) (p := p) (j := j) (by omega)).2]
        have := (eU_eq ps p).2
        rw [hl] at this
        rw [this]
        congr 2
        split <;> omega
      refine ⟨ps ++ [p], .val (.int (k : Nat)), .val (.int (pr k : Nat)), .val (.int p), s7, ?_, by rw [List.length_append, hl]; rfl, hk, fun x hx => ?_⟩
      · rw [q1, q2]
      · rcases List.mem_append.mp hx with w | w
        · exact hp x w
        · rw [List.mem_singleton.mp w]; exact p3
  · rintro _ ⟨ps, s4, s5, s6, s7, rfl, hl, _, hp⟩
    have hl : ps.length = 8 := hl
    refine ⟨rfl, rfl, ?_⟩
    have e : VL.D.lst (ps.map VL.D.int) = pw8 (eU ps) (eD ps) := by
      unfold pw8
      congr 1
      refine List.ext_getElem (by rw [List.length_map, List.length_map, List.length_range, hl]) fun j h1 h2 => ?_
      rw [List.length_map] at h1
      rw [List.getElem_map, List.getElem_map, List.getElem_range]
      unfold eU eD
      rw [List.getD_eq_getElem?_getD, List.getElem?_eq_getElem h1]
      show VL.D.int ps[j] = .int (((ps[j]).toNat : Int) - ((-(ps[j])).toNat : Int))
      congr 1
      omega
    have fin := hq (eU ps) (eD ps) fun j _ => by
      unfold eU eD
      rw [List.getD_eq_getElem?_getD]
      cases z : ps[j]? with
      | none => exact ⟨by decide, by decide⟩
      | some p =>
        have := hp p (List.mem_of_getElem? z)
        show p.toNat ≤ 3 ∧ (-p).toNat ≤ 3
        omega
    rw [← e] at fin
    exact fin

theorem sw_app (j : Nat) (R M : List Wr) : sw j (R ++ M) = sw j R + sw j M := by
  induction R with
  | nil => show sw j M = 0 + sw j M; omega
  | cons r R ih => show _ + sw j (R ++ M) = _ + sw j R + sw j M; rw [ih]; omega
theorem sw_le {j : Nat} (hj : j < 8) : ∀ {R : List Wr}, (∀ r, r ∈ R → r.2.natAbs ≤ 1000000000000000000 ∧ ∀ j, j < 8 → (r.1 j).natAbs ≤ 1000000) → (sw j R).natAbs ≤ R.length * 1000000000000000000000000
  | [], _ => Nat.le_refl 0
  | r :: R, h => by
    obtain ⟨h1, h2⟩ := h r List.mem_cons_self
    have ih := sw_le hj (R := R) fun x hx => h x (List.mem_cons_of_mem _ hx)
    have h3 : (r.2 * r.1 j).natAbs ≤ 1000000000000000000 * 1000000 := by rw [Int.natAbs_mul]; exact Nat.mul_le_mul h1 (h2 j hj)
    have := Int.natAbs_add_le (r.2 * r.1 j) (sw j R)
    show (r.2 * r.1 j + sw j R).natAbs ≤ (R.length + 1) * _
    rw [Nat.add_mul]
    omega
theorem rb100 {n : Int} {E : Nat} (h : 0 < E) (h1 : E ≤ 1000000000000000000) (hn : n.natAbs ≤ 1000000 * 1000000000000000000000000) : RB' 110 (Rat.divInt n E) :=
  rb_div (Nat.lt_of_le_of_lt hn (by decide)) (Nat.lt_of_le_of_lt (by rw [Int.natAbs_natCast]; exact h1) (by decide)) (by omega)
theorem good_law_weights14 : Good (Gl L) b_law_weights14 2 5 vWeights14 := by
  rintro ds q ⟨E, R, rfl, E0, E1, lR, hR, hq⟩ -
  refine ⟨rfl, ⟨by decide, by decide⟩, fun k ρ => ∃ s3 s4 s5 s6 : Sl, ρ = [.val (.lst (R.map (dWr E))), .val (.int 8), .own ((List.range k).map fun j => dR (Rat.divInt (sw j R) E)), s3, s4, s5, s6] ∧ k ≤ 8, ⟨_, _, _, _, rfl, by decide⟩, ?_, ?_⟩
  · rintro k d _ hd ⟨s3, s4, s5, s6, rfl, _⟩
    obtain ⟨rfl, hk⟩ := rngs_at hd
    have hk : k < 8 := hk
    refine ⟨rfl, fun t ρ => ∃ s5 s6 : Sl, ρ = [.val (.lst (R.map (dWr E))), .val (.int 8), .own ((List.range k).map fun j => dR (Rat.divInt (sw j R) E)), .val (.int (k : Nat)), .val (dR (Rat.divInt (sw k (R.take t)) E)), s5, s6] ∧ t ≤ R.length, ⟨s5, s6, ?_, Nat.zero_le _⟩, ?_, ?_⟩
    · have e : dR (Rat.divInt (sw k ([] : List Wr)) E) = .tup [.int 0, .int 1] := by
        show dR (Rat.divInt 0 E) = _
        rw [Rat.zero_divInt]; rfl
      show _ = [_, _, _, _, Sl.val (dR (Rat.divInt (sw k ([] : List Wr)) E)), _, _]
      rw [e]; rfl
    · rintro t d _ hd ⟨s5, s6, rfl, _⟩
      rw [List.getElem?_map] at hd
      obtain ⟨x, hx, rfl⟩ := Option.map_eq_some_iff.mp hd
      have ht : t < R.length := (List.getElem?_eq_some_iff.mp hx).1
      obtain ⟨h1, h2⟩ := hR x (List.mem_of_getElem? hx)
      have at8 : atI ((List.range 8).map fun j => VL.D.int (x.1 j)) ((k : Nat) : Int) = some (.int (x.1 k)) := atI_nat (by rw [List.getElem?_map, List.getElem?_range hk]; rfl)
      have ej : VL.D.tup [.int (x.1 k), .int 1] = dR (Rat.divInt (x.1 k) 1) := (dR_int _).symm
      have r1 : RB' 110 (Rat.divInt x.2 E) := rb100 E0 E1 (Nat.le_trans h1 (by decide))
      have r2 : RB' 110 (Rat.divInt (x.1 k) 1) := rb_div (Nat.lt_of_le_of_lt (h2 k hk) (by decide)) (by decide) (by decide)
      have r3 : RB' 110 (Rat.divInt (sw k (R.take t)) E) := rb100 E0 E1 (Nat.le_trans (sw_le hk fun r hr => hR r (List.mem_of_mem_take hr)) (Nat.mul_le_mul_right _ (by rw [List.length_take]; omega)))
      have e1 : Rat.divInt x.2 E * Rat.divInt (x.1 k) 1 = Rat.divInt (x.2 * x.1 k) E := by
        have := div_mul' (n := x.2) (p := x.1 k) (E := E) (F := 1) E0 (by decide)
        rw [Nat.mul_one] at this
        exact this
      refine ⟨rfl, ?_⟩
      refine ⟨_, at8, rfl, rfl, .inl ⟨Rat.divInt x.2 E, Rat.divInt (x.1 k) 1, congrArg (fun w => [dR (Rat.divInt x.2 E), w]) ej, sz_of r1 (by decide), sz_of r2 (by decide), .inl rfl, rfl, Rat.divInt (sw k (R.take t)) E, Rat.divInt x.2 E * Rat.divInt (x.1 k) 1, rfl, sz_of r3 (by decide), sz_of (n := 220) (rb_mul r1 r2) (by decide), .inl rfl, .val (dR (Rat.divInt x.2 E)), .val (.lst ((List.range 8).map fun j => VL.D.int (x.1 j))), ?_, ht⟩⟩
      refine congrArg (fun w => [Sl.val (.lst (R.map (dWr E))), .val (.int 8), .own ((List.range k).map fun j => dR (Rat.divInt (sw j R) E)), .val (.int (k : Nat)), .val (dR w), .val (dR (Rat.divInt x.2 E)), .val (.lst ((List.range 8).map fun j => VL.D.int (x.1 j)))]) ?_
      show Rat.divInt (sw k (R.take t)) E + Rat.divInt x.2 E * Rat.divInt (x.1 k) 1 = _
      rw [e1, div_add' E0, List.take_succ, hx, sw_app]
      congr 1
      show _ = _ + (x.2 * x.1 k + 0)
      omega
    · rintro _ ⟨s5, s6, rfl, _⟩
      rw [List.length_map, List.take_length]
      refine ⟨rfl, by rw [List.length_map, List.length_range]; omega, .val (.int (k : Nat)), .val (dR (Rat.divInt (sw k R) E)), s5, s6, ?_, hk⟩
      refine congrArg (fun w => [Sl.val (.lst (R.map (dWr E))), .val (.int 8), .own w, .val (.int (k : Nat)), .val (dR (Rat.divInt (sw k R) E)), s5, s6]) ?_
      rw [List.range_succ, List.map_append]; rfl
  · rintro _ ⟨s3, s4, s5, s6, rfl, _⟩
    exact hq
/-- the last n primes' part -/
def U (e : Ex) : Nat → Nat
  | 0 => 1
  | n + 1 => pr (7 - n) ^ e (7 - n) * U e n
theorem W_U (e : Ex) : W e 8 = U e 8 := by
  show 1 * pr 0 ^ e 0 * pr 1 ^ e 1 * pr 2 ^ e 2 * pr 3 ^ e 3 * pr 4 ^ e 4 * pr 5 ^ e 5 * pr 6 ^ e 6 * pr 7 ^ e 7 = pr 0 ^ e 0 * (pr 1 ^ e 1 * (pr 2 ^ e 2 * (pr 3 ^ e 3 * (pr 4 ^ e 4 * (pr 5 ^ e 5 * (pr 6 ^ e 6 * (pr 7 ^ e 7 * 1)))))))
  rw [Nat.one_mul, Nat.mul_one]
  simp only [Nat.mul_assoc]
theorem U_cop {e : Ex} {i : Nat} : ∀ n, n ≤ 8 → i < 8 - n → Nat.Coprime (U e n) (pr i)
  | 0, _, _ => Nat.gcd_one_left _
  | n + 1, hn, hi => by
    refine Nat.Coprime.mul_left ?_ (U_cop n (by omega) (by omega))
    exact Nat.Coprime.pow_left _ (pr_cop _ (by omega) _ (by omega) (by omega))
theorem U_pos (e : Ex) : ∀ n, 0 < U e n
  | 0 => Nat.one_pos
  | n + 1 => Nat.mul_pos (Nat.pow_pos (pr_pos _)) (U_pos e n)
theorem good_law_powers14 : Good (Gl L) b_law_powers14 1 3 vPowers14 := by
  rintro ds q ⟨e, rfl, hq⟩ -
  refine ⟨rfl, rfl, rfl, .inl rfl, ?_⟩
  refine ⟨fun k ρ => ∃ s2 s3 : Sl, ρ = [.val (.int (U e (8 - k) : Nat)), .own ((List.range k).map fun j => VL.D.int (e j : Nat)), s2, s3] ∧ k ≤ 8, ⟨_, _, by rw [← W_U]; rfl, by decide⟩, ?_, ?_⟩
  · rintro k d _ hd ⟨s2, s3, rfl, _⟩
    obtain ⟨hk, rfl⟩ := prs_at hd
    obtain ⟨n, hn⟩ : ∃ n, n = 7 - k := ⟨_, rfl⟩
    have e8 : U e (8 - k) = pr k ^ e k * U e n := by
      rw [show 8 - k = n + 1 by omega]
      show pr (7 - n) ^ e (7 - n) * U e n = _
      rw [show 7 - n = k by omega]
    have cop : Nat.Coprime (U e n) (pr k) := U_cop n (by omega) (by omega)
    have p2 := (pr_two hk).1
    refine ⟨fun m ρ => ∃ t : Nat, ρ = [.val (.int (pr k ^ t * U e n : Nat)), .own ((List.range k).map fun j => VL.D.int (e j : Nat)), .val (.int (pr k : Nat)), .val (.int ((e k - t : Nat)))] ∧ t = m ∧ t ≤ e k, ⟨e k, e k, ?_, rfl, Nat.le_refl _⟩, ?_⟩
    · rw [e8, Nat.sub_self]; rfl
    rintro m _ ⟨t, rfl, rfl, ht⟩
    refine ⟨by omega, fun g => ?_, fun g => ?_⟩
    · have g : decide ((((pr k ^ t * U e n : Nat)) : Int).fmod (pr k : Nat) = 0) = true := g
      have g := of_decide_eq_true g
      rw [nat_fmod] at g
      have t0 : t ≠ 0 := fun z => by
        rw [z, Nat.pow_zero, Nat.one_mul] at g
        have hd : pr k ∣ U e n := Nat.dvd_of_mod_eq_zero (by omega)
        have := Nat.Coprime.eq_one_of_dvd cop.symm hd
        omega
      obtain ⟨t', rfl⟩ : ∃ t', t = t' + 1 := ⟨t - 1, by omega⟩
      have hdiv : pr k ^ (t' + 1) * U e n / pr k = pr k ^ t' * U e n := by
        rw [Nat.pow_succ, Nat.mul_comm (pr k ^ t') (pr k), Nat.mul_assoc]
        exact Nat.mul_div_cancel_left _ (pr_pos k)
      refine ⟨by omega, t', by omega, t', ?_, rfl, by omega⟩
      have h1 : (((pr k ^ (t' + 1) * U e n : Nat)) : Int).fdiv (pr k : Nat) = ((pr k ^ t' * U e n : Nat) : Int) := by rw [nat_fdiv, hdiv]
      have h2 : (((e k - (t' + 1) : Nat)) : Int) + 1 = ((e k - t' : Nat) : Int) := by omega
      rw [← h1, ← h2]; rfl
    · have g : decide ((((pr k ^ t * U e n : Nat)) : Int).fmod (pr k : Nat) = 0) = false := g
      have g := of_decide_eq_false g
      rw [nat_fmod] at g
      have t0 : t = 0 := by
        refine Classical.byContradiction fun z => g ?_
        obtain ⟨t', rfl⟩ : ∃ t', t = t' + 1 := ⟨t - 1, by omega⟩
        have : pr k ^ (t' + 1) * U e n % pr k = 0 := by
          rw [Nat.pow_succ, Nat.mul_comm (pr k ^ t') (pr k), Nat.mul_assoc]
          exact Nat.mul_mod_right _ _
        rw [this]; rfl
      subst t0
      refine ⟨rfl, by rw [List.length_map, List.length_range]; omega, .val (.int (pr k : Nat)), .val (.int ((e k - 0 : Nat))), ?_, hk⟩
      rw [Nat.pow_zero, Nat.one_mul, Nat.sub_zero, show 8 - (k + 1) = n by omega, List.range_succ, List.map_append]; rfl
  · rintro _ ⟨s2, s3, rfl, _⟩
    refine ⟨fun h => ?_, fun _ => hq⟩
    have h : (!decide ((((1 : Nat)) : Int) = 1)) = true := h
    exact absurd h (by decide)
theorem good_law_no_common14 : Good (Gl L) b_law_no_common14 1 5 vNoCommon14 := by
  rintro ds q ⟨es, rfl, le, hc, hq⟩ -
  refine ⟨fun k ρ => ∃ s1 s2 s3 s4 s5 : Sl, ρ = [.val (.lst (es.map fun e => VL.D.int (W e 8 : Nat))), s1, s2, s3, s4, s5], ⟨_, _, _, _, _, rfl⟩, ?_, ?_⟩
  · rintro k d _ hd ⟨s1, s2, s3, s4, s5, rfl⟩
    obtain ⟨y, hy, rfl⟩ := enum_any hd
    rw [List.getElem?_map] at hy
    obtain ⟨e, he, rfl⟩ := Option.map_eq_some_iff.mp hy
    obtain ⟨hk, ek⟩ := List.getElem?_eq_some_iff.mp he
    have ct : cutD (es.map fun e => VL.D.int (W e 8 : Nat)) none (some (k : Int)) = (es.take k).map fun e => VL.D.int (W e 8 : Nat) := by rw [cut_to, List.map_take]
    refine ⟨rfl, fun t ρ => ∃ s3 s4 s5 : Sl, ρ = [.val (.lst (es.map fun e => VL.D.int (W e 8 : Nat))), .val (.int (k : Nat)), .val (.int (W e 8 : Nat)), s3, s4, s5], ⟨_, _, _, rfl⟩, ?_, ?_⟩
    · rintro t d _ hd ⟨s3, s4, s5, rfl⟩
      rw [ct, List.getElem?_map] at hd
      obtain ⟨f, hf, rfl⟩ := Option.map_eq_some_iff.mp hd
      have cf : Cp f e := by
        rw [List.getElem?_take] at hf
        by_cases h : t < k
        · rw [if_pos h] at hf
          obtain ⟨ht, et⟩ := List.getElem?_eq_some_iff.mp hf
          have := List.pairwise_iff_getElem.mp hc t k ht hk h
          rw [et, ek] at this
          exact this
        · rw [if_neg h] at hf; cases hf
      have g1 : Nat.gcd (W e 8) (W f 8) = 1 := cf.symm.cop
      refine ⟨rfl, fun m ρ => ∃ x y : Nat, ρ = [.val (.lst (es.map fun e => VL.D.int (W e 8 : Nat))), .val (.int (k : Nat)), .val (.int (W e 8 : Nat)), .val (.int (W f 8 : Nat)), .val (.int x), .val (.int y)] ∧ y = m ∧ Nat.gcd x y = 1, ⟨_, W e 8, W f 8, rfl, rfl, g1⟩, ?_⟩
      rintro m _ ⟨x, y, rfl, rfl, h⟩
      refine ⟨fun g => ?_, fun g => ?_⟩
      · have g : (0 : Int) < (y : Int) := dec_t g
        refine ⟨by omega, rfl, _, Nat.mod_lt x (show 0 < y by omega), y, x % y, ?_, rfl, ?_⟩
        · rw [← nat_fmod]; rfl
        · rw [← h, Nat.gcd_comm x y, Nat.gcd_rec y x, Nat.gcd_comm]
      · have g : ¬ (0 : Int) < (y : Int) := dec_f g
        obtain rfl : y = 0 := by omega
        rw [Nat.gcd_zero_right] at h
        subst h
        exact ⟨fun z => absurd z (by decide), fun _ => ⟨_, _, _, rfl⟩⟩
    · rintro _ ⟨s3, s4, s5, rfl⟩
      exact ⟨_, _, _, _, _, rfl⟩
  · rintro _ ⟨s1, s2, s3, s4, s5, rfl⟩
    exact hq

theorem sorted_eq {l m : List Int} (h : l.Pairwise (· < ·)) : ∀ {m : List Int}, m.Perm l → m.Pairwise (· ≤ ·) → m = l := by
  induction l with
  | nil => intro m hp _; exact hp.eq_nil
  | cons x l ih =>
    intro m hp hm
    obtain ⟨h1, h2⟩ := List.pairwise_cons.mp h
    cases m with
    | nil => exact absurd hp.symm.eq_nil (by simp)
    | cons y m =>
      obtain ⟨m1, m2⟩ := List.pairwise_cons.mp hm
      have hx : x ∈ y :: m := hp.mem_iff.mpr List.mem_cons_self
      have hy : y ∈ x :: l := hp.mem_iff.mp List.mem_cons_self
      have e : y = x := by
        rcases List.mem_cons.mp hy with w | w
        · exact w
        · have a1 := h1 y w
          rcases List.mem_cons.mp hx with w' | w'
          · exact w'.symm
          · have := m1 x w'; omega
      subst e
      rw [ih h2 ((List.perm_cons y).mp hp) m2]
theorem okD_rows {ds : List VL.D} {n : Nat} (h : ∀ d ∈ ds, okD n d) (g : n + 1 ≤ 64) : dsh (.lst ds) = true := dsh_of (okD_lst h) g
theorem ex_le {e : Ex} : ∀ {k j : Nat}, j < k → e j ≤ Om e k
  | k + 1, j, h => by
    show e j ≤ Om e k + e k
    by_cases q : j = k
    · subst q; omega
    · have := ex_le (e := e) (k := k) (j := j) (by omega); omega
theorem lfs_dRm {α : Type} (f : α → Rat) : ∀ l : List α, lfs (l.map fun j => dR (f j)) = true
  | [] => rfl
  | x :: l => by show (lf (dR (f x)) && lfs (l.map fun j => dR (f j))) = true; rw [lfs_dRm f l]; rfl
def toWr (x : Itm) : Wr := (fun j => (x.1 j : Int), x.2)
theorem sw_wt (j : Nat) : ∀ B : List Itm, sw j (B.map toWr) = wt j B
  | [] => rfl
  | x :: B => by show x.2 * (x.1 j : Int) + sw j (B.map toWr) = x.2 * (x.1 j : Int) + wt j B; rw [sw_wt j B]
theorem good_law_is_settled14 : Good (Gl L) b_law_is_settled14 3 4 vIsSettled14 := by
  rintro ds q ⟨E, r, L0, B, rfl, E0, E1, hF, hq⟩ -
  have okr := dsh_of (okD_dR r) (by decide)
  refine ⟨fun h => (by cases h), fun _ => ⟨fun h => (by cases h), fun _ => ⟨_, rfl, rfl, r, rfl, .inl rfl, fun h => (by cases h), fun _ => ⟨_, rfl, okr, okr, fun h => ?_, fun _ => ?_⟩⟩⟩⟩
  · have h : (!deq (dR r) (dR r)) = true := h
    rw [deq_self] at h; cases h
  refine ⟨_, rfl, fun h => (by cases h), fun _ => ⟨rfl, rfl, _, rfl, ?_⟩⟩
  have e0 : ∀ x, x ∈ B → RB' 60 (Rat.divInt x.2 E) := fun x hx => Ok.n E0 E1 (by have := hF.ab x hx; omega)
  refine ⟨fun k ρ => ∃ s5 s6 : Sl, ρ = [.val (.tup [dR r, .tup (B.map (dN E))]), .val (dR r), .val (.lst ((List.range 8).map fun j => dR (Rat.divInt (wt j L0) E))), .own (((B.take k).map toWr).map (dWr E)), .own ((B.take k).map fun x => VL.D.int (W x.1 8 : Nat)), s5, s6] ∧ k ≤ B.length, ⟨_, _, rfl, Nat.zero_le _⟩, ?_, ?_⟩
  · rintro k d _ hd ⟨s5, s6, rfl, _⟩
    rw [List.getElem?_map] at hd
    obtain ⟨x, hx, rfl⟩ := Option.map_eq_some_iff.mp hd
    have hk : k < B.length := (List.getElem?_eq_some_iff.mp hx).1
    have hxm := List.mem_of_getElem? hx
    obtain ⟨n0, o1⟩ := hF.nz x hxm
    have few := hF.few
    have okx := dsh_of (okD_dR (Rat.divInt x.2 E)) (by decide)
    have ok0 : dsh (.tup [.int 0, .int 1]) = true := dsh_of (okD_dR 0) (by decide)
    have w2 : 2 ≤ W x.1 8 := by have := W_big (e := x.1) 8 (Nat.le_refl 8); omega
    have ew : VL.D.tup [.int (W x.1 8 : Nat), .int 1] = dR (Rat.divInt (W x.1 8 : Nat) 1) := (dR_int _).symm
    refine ⟨fun h => (by cases h), fun _ => ⟨fun h => (by cases h), fun _ => ⟨_, rfl, rfl, Rat.divInt x.2 E, rfl, .inl rfl, fun h => (by cases h), fun _ => ⟨_, rfl, rfl, okx, ok0, fun h => ?_, fun _ => ?_⟩⟩⟩⟩
    · have h : deq (dR (Rat.divInt x.2 E)) (dR 0) = true := h
      rw [deq_dR] at h
      exact absurd ((div_zero E0).mp (of_decide_eq_true h)) n0
    refine ⟨_, rfl, rfl, Rat.divInt (W x.1 8 : Nat) 1, congrArg (fun w => [w]) ew, .inl rfl, fun h => (by cases h), fun _ => ⟨_, rfl, _, rfl, fun h => absurd h (by decide), fun _ => ⟨_, rfl, _, rfl, fun h => ?_, fun _ => ?_⟩⟩⟩
    · have h : decide (((W x.1 8 : Nat) : Int) < 2) = true := h
      have := of_decide_eq_true h
      omega
    refine ⟨_, rfl, _, rfl, rfl, x.1, rfl, .inl rfl, fun h => (by cases h), fun _ => ⟨rfl, _, rfl, rfl, ?_, rfl, _, rfl, _, rfl, ?_, .val (dN E x), .val (.lst ((List.range 8).map fun j => VL.D.int (x.1 j : Nat))), ?_, hk⟩⟩
    · rw [List.length_map, List.length_map, List.length_take]; omega
    · rw [List.length_map, List.length_take]; omega
    · have r1 : ((B.take (k + 1)).map toWr).map (dWr E) = ((B.take k).map toWr).map (dWr E) ++ [.tup [dR (Rat.divInt x.2 E), .lst ((List.range 8).map fun j => VL.D.int (x.1 j : Nat))]] := by
        rw [List.take_succ, hx, List.map_append, List.map_append]; rfl
      have r2 : (B.take (k + 1)).map (fun x => VL.D.int (W x.1 8 : Nat)) = (B.take k).map (fun x => VL.D.int (W x.1 8 : Nat)) ++ [.int (W x.1 8 : Nat)] := by
        rw [List.take_succ, hx, List.map_append]; rfl
      rw [r1, r2]; rfl
  · rintro _ ⟨s5, s6, rfl, _⟩
    rw [List.length_map, List.take_length]
    have few := hF.few
    have ew : B.map (fun x => VL.D.int (W x.1 8 : Nat)) = (B.map fun x => ((W x.1 8 : Nat) : Int)).map VL.D.int := by rw [List.map_map]; rfl
    have okw : dsh (.lst (B.map fun x => VL.D.int (W x.1 8 : Nat))) = true := okD_rows (n := 0) (fun d hd => by
      obtain ⟨x, _, rfl⟩ := List.mem_map.mp hd
      exact okD_int 0 _) (by decide)
    have rising : (B.map fun x => ((W x.1 8 : Nat) : Int)).Pairwise (· < ·) := by
      rw [List.pairwise_map]
      exact hF.up.imp fun {x y} h => by omega
    refine ⟨?b, ?_⟩
    case b => exact B.map fun x => ((W x.1 8 : Nat) : Int)
    refine ⟨?_, fun ys hp hs => ?_⟩
    · exact ew
    rw [sorted_eq (m := []) rising hp hs, ← ew]
    refine ⟨okw, okw, fun h => ?_, fun _ => ?_⟩
    · have h : (!deq (.lst (B.map fun x => VL.D.int (W x.1 8 : Nat))) (.lst (B.map fun x => VL.D.int (W x.1 8 : Nat)))) = true := h
      rw [deq_self] at h; cases h
    refine ⟨rfl, B.map (·.1), ?_, by rw [List.length_map]; exact few, by rw [List.pairwise_map]; exact hF.cp, .inr rfl, fun h => (by cases h), fun _ => ?_⟩
    · rw [List.map_map]; rfl
    have okW : dsh (.lst ((List.range 8).map fun j => dR (Rat.divInt (wt j L0) E))) = true := okD_rows (n := 1) (fun d hd => by
      obtain ⟨x, _, rfl⟩ := List.mem_map.mp hd
      exact okD_dR _) (by decide)
    have same : (List.range 8).map (fun j => dR (Rat.divInt (sw j (B.map toWr)) E)) = (List.range 8).map fun j => dR (Rat.divInt (wt j L0) E) := by
      refine List.map_congr_left fun j hj => ?_
      rw [sw_wt, hF.wt j (List.mem_range.mp hj)]
    have lw : lfR (.fresh ((List.range 8).map fun j => dR (Rat.divInt (sw j (B.map toWr)) E))) = true := lfs_dRm _ _
    have hR : ∀ x, x ∈ B.map toWr → x.2.natAbs ≤ 1000000000000000000 ∧ ∀ j, j < 8 → (x.1 j).natAbs ≤ 1000000 := fun x hx => by
      obtain ⟨y, hy, rfl⟩ := List.mem_map.mp hx
      refine ⟨hF.ab y hy, fun j hj => ?_⟩
      have := Nat.le_trans (ex_le (e := y.1) hj) (hF.om y hy)
      show ((y.1 j : Int)).natAbs ≤ _
      omega
    have lB : (B.map toWr).length ≤ 1000000 := by rw [List.length_map]; exact few
    have fin : vWeights14.sp [.lst ((B.map toWr).map (dWr E)), .int 8] fun r' _ => (noSlots [R.slot 3, .val (.int 8)] = true ∨ lfR r' = true) ∧ wRd r' [.val (.tup [dR r, .tup (B.map (dN E))]), .val (dR r), .val (.lst ((List.range 8).map fun j => dR (Rat.divInt (wt j L0) E))), .own ((B.map toWr).map (dWr E)), .own (B.map fun x => VL.D.int (W x.1 8 : Nat)), s5, s6] fun x => cmp2 .eq x (.lst ((List.range 8).map fun j => dR (Rat.divInt (wt j L0) E))) fun z => q (.val (.bl z)) none := by
      refine ⟨E, B.map toWr, rfl, E0, E1, lB, hR, .inr lw, ?_⟩
      rw [same]
      exact ⟨okW, okW, by rw [deq_self]; exact hq⟩
    exact ⟨rfl, fin⟩

theorem good_law_c14 : Good (Gl L) b_law_c14 2 0 vC14 := by
  rintro ds q ⟨c, k, rfl, hk, hq⟩ -
  refine ⟨rfl, c, k, 13, rfl, by omega, by decide, fun t t0 t1 => ⟨.inl rfl, rfl, c, k + 1, 5, rfl, by omega, by decide, fun u u0 u1 => ⟨.inl rfl, rfl, t - 6, 1 + u, rfl, by omega, .inl rfl, ?_⟩⟩⟩
  have key : ∃ v : Int, v.natAbs ≤ 360 ∧ Rat.divInt (t - 6) (1 + u) = Rat.divInt v 60 := by
    rcases (show u = 0 ∨ u = 1 ∨ u = 2 ∨ u = 3 ∨ u = 4 by omega) with w | w | w | w | w <;> subst w
    · exact ⟨(t - 6) * 60, by omega, by rw [Rat.divInt_eq_div, Rat.divInt_eq_div, Rat.intCast_mul]; show _ / ((1 : Int) : Rat) = _ * ((60 : Int) : Rat) / ((60 : Int) : Rat); rw [show ((1 : Int) : Rat) = 1 from rfl, show ((60 : Int) : Rat) = 60 from rfl]; grind⟩
    · exact ⟨(t - 6) * 30, by omega, by rw [Rat.divInt_eq_div, Rat.divInt_eq_div, Rat.intCast_mul]; show _ / ((2 : Int) : Rat) = _ * ((30 : Int) : Rat) / ((60 : Int) : Rat); rw [show ((2 : Int) : Rat) = 2 from rfl, show ((30 : Int) : Rat) = 30 from rfl, show ((60 : Int) : Rat) = 60 from rfl]; grind⟩
    · exact ⟨(t - 6) * 20, by omega, by rw [Rat.divInt_eq_div, Rat.divInt_eq_div, Rat.intCast_mul]; show _ / ((3 : Int) : Rat) = _ * ((20 : Int) : Rat) / ((60 : Int) : Rat); rw [show ((3 : Int) : Rat) = 3 from rfl, show ((20 : Int) : Rat) = 20 from rfl, show ((60 : Int) : Rat) = 60 from rfl]; grind⟩
    · exact ⟨(t - 6) * 15, by omega, by rw [Rat.divInt_eq_div, Rat.divInt_eq_div, Rat.intCast_mul]; show _ / ((4 : Int) : Rat) = _ * ((15 : Int) : Rat) / ((60 : Int) : Rat); rw [show ((4 : Int) : Rat) = 4 from rfl, show ((15 : Int) : Rat) = 15 from rfl, show ((60 : Int) : Rat) = 60 from rfl]; grind⟩
    · exact ⟨(t - 6) * 12, by omega, by rw [Rat.divInt_eq_div, Rat.divInt_eq_div, Rat.intCast_mul]; show _ / ((5 : Int) : Rat) = _ * ((12 : Int) : Rat) / ((60 : Int) : Rat); rw [show ((5 : Int) : Rat) = 5 from rfl, show ((12 : Int) : Rat) = 12 from rfl, show ((60 : Int) : Rat) = 60 from rfl]; grind⟩
  obtain ⟨v, hv, ev⟩ := key
  rw [ev]
  exact hq v hv
theorem rb360 {n : Int} (h : n.natAbs ≤ 360) : RB' 10 (Rat.divInt n 60) := rb_div (Nat.lt_of_le_of_lt h (by decide)) (by decide) (by decide)
theorem good_law_rows14 : Good (Gl L) b_law_rows14 1 6 vRows14 := by
  rintro ds q ⟨ns, d0, rfl, hd0, hl, hq⟩ -
  have main : ∃ I : Nat → En → Prop, I 0 [.val d0, .own [], .own [], .un, .un, .un, .un] ∧ (∀ k d ρ, (ns.map VL.D.int)[k]? = some d → I k ρ → bind (.nm 3) d ρ fun ρ2 => wSs (Gl L) (ss [.asgT [4, 5] (.call f_law_smooth14 (.cons (.var 3) .nil)),
  .asg 6 (.call f_law_c14 (.cons (.var 3) (.cons (.int 10) .nil))),
  .ex (.mth .append 1 (.cons (.tup (.cons (.var 6) (.cons (.var 4) .nil))) .nil)),
  .ex (.mth .append 2 (.cons (.tup (.cons (.var 6) (.cons (.var 5) .nil))) .nil)),
  .ite (.cmp .eq (.call f_law_draw14 (.cons (.var 3) (.cons (.int 12) (.cons (.int 4) .nil)))) (.int 0)) (ss [.ex (.mth .append 1 (.cons (.tup (.cons (.call f_law_times14 (.cons (.var 6) (.cons (.tup (.cons (.neg (.int 1)) (.cons (.int 1) .nil))) .nil))) (.cons (.var 4) .nil))) .nil)),
   .ex (.mth .append 2 (.cons (.tup (.cons (.call f_law_times14 (.cons (.var 6) (.cons (.tup (.cons (.neg (.int 1)) (.cons (.int 1) .nil))) .nil))) (.cons (.var 5) .nil))) .nil))]) (ss [])]) ρ2 { nx := I (k + 1), ct := I (k + 1), bk := fun ρ => wSs (Gl L) (ss [.ret (.tup (.cons (.var 1) (.cons (.var 2) .nil)))]) ρ { nx := fun _ => q (.val .non) none, rt := fun r _ => q r none }, rt := fun r _ => q r none }) ∧ ∀ ρ, I (ns.map VL.D.int).length ρ → wSs (Gl L) (ss [.ret (.tup (.cons (.var 1) (.cons (.var 2) .nil)))]) ρ { nx := fun _ => q (.val .non) none, rt := fun r _ => q r none } := by
    refine ⟨fun k ρ => ∃ (R : List Rw) (s3 s4 s5 s6 : Sl), ρ = [.val d0, .own (R.map (dW 60)), .own (R.map fun r => dWr 60 (toW r)), s3, s4, s5, s6] ∧ R.length ≤ 2 * k ∧ k ≤ ns.length ∧ ∀ r, r ∈ R → Small r, ⟨[], _, _, _, _, rfl, Nat.le_refl 0, Nat.zero_le _, fun r h => (by cases h)⟩, ?_, ?_⟩
    · rintro k d _ hd ⟨R, s3, s4, s5, s6, rfl, lR, _, hR⟩
      rw [List.getElem?_map] at hd
      obtain ⟨c, hc, rfl⟩ := Option.map_eq_some_iff.mp hd
      have hk : k < ns.length := (List.getElem?_eq_some_iff.mp hc).1
      refine ⟨rfl, c, rfl, fun e f hef => ⟨.inl rfl, rfl, rfl, c, 10, rfl, by decide, fun t ht => ⟨.inl rfl, ?_⟩⟩⟩
      have row1 : R.map (dW 60) ++ [.tup [dR (Rat.divInt t 60), .tup [.int (W e 8 : Nat), .int (W f 8 : Nat)]]] = (R ++ [(e, f, t)]).map (dW 60) := by rw [List.map_append]; rfl
      have row2 : R.map (fun r => dWr 60 (toW r)) ++ [.tup [dR (Rat.divInt t 60), pw8 e f]] = (R ++ [(e, f, t)]).map fun r => dWr 60 (toW r) := by rw [List.map_append]; rfl
      have sm : ∀ r, r ∈ R ++ [(e, f, t)] → Small r := fun r hr => by
        rcases List.mem_append.mp hr with w | w
        · exact hR r w
        · rw [List.mem_singleton.mp w]; exact ⟨ht, hef⟩
      refine ⟨rfl, rfl, by rw [List.length_map]; omega, rfl, rfl, by rw [List.length_map]; omega, ?_⟩
      have nt : Rat.divInt t 60 * Rat.divInt (-1) 1 = Rat.divInt (-t) 60 := by
        rw [Rat.divInt_eq_div, Rat.divInt_eq_div, Rat.divInt_eq_div, show ((-t : Int) : Rat) = -(t : Rat) from Rat.intCast_neg t]
        rw [show (((-1 : Int)) : Rat) = -1 from rfl, show ((1 : Int) : Rat) = 1 from rfl]
        grind
      have m1 : VL.D.tup [.int (-1), .int 1] = dR (Rat.divInt (-1) 1) := (dR_int _).symm
      have row3 : (R ++ [(e, f, t)]).map (dW 60) ++ [.tup [dR (Rat.divInt (-t) 60), .tup [.int (W e 8 : Nat), .int (W f 8 : Nat)]]] = (R ++ [(e, f, t)] ++ [(e, f, -t)]).map (dW 60) := by rw [List.map_append (l₂ := [(e, f, -t)])]; rfl
      have row4 : ((R ++ [(e, f, t)]).map fun r => dWr 60 (toW r)) ++ [.tup [dR (Rat.divInt (-t) 60), pw8 e f]] = (R ++ [(e, f, t)] ++ [(e, f, -t)]).map fun r => dWr 60 (toW r) := by rw [List.map_append (l₂ := [(e, f, -t)])]; rfl
      have rm : RB' 10 (Rat.divInt (-1) 1) := ⟨by decide +kernel, by decide +kernel⟩
      show wSs (Gl L) _ [_, .own (R.map (dW 60) ++ [.tup [dR (Rat.divInt t 60), .tup [.int (W e 8 : Nat), .int (W f 8 : Nat)]]]), .own (R.map (fun r => dWr 60 (toW r)) ++ [.tup [dR (Rat.divInt t 60), pw8 e f]]), _, _, _, _] _
      rw [row1, row2]
      refine ⟨rfl, c, 12, 4, rfl, by decide, by decide, fun u u0 u1 => ⟨.inl rfl, fun _ => ?_, fun _ => ⟨R ++ [(e, f, t)], _, _, _, _, rfl, by rw [List.length_append]; show R.length + 1 ≤ _; omega, hk, sm⟩⟩⟩
      refine ⟨rfl, rfl, rfl, .inl ⟨Rat.divInt t 60, Rat.divInt (-1) 1, congrArg (fun w => [dR (Rat.divInt t 60), w]) m1, sz_of (rb360 ht) (by decide), sz_of rm (by decide), .inl rfl, rfl, by rw [List.length_map, List.length_append]; show R.length + 1 < _; omega, rfl, rfl, rfl, .inl ⟨Rat.divInt t 60, Rat.divInt (-1) 1, congrArg (fun w => [dR (Rat.divInt t 60), w]) m1, sz_of (rb360 ht) (by decide), sz_of rm (by decide), .inl rfl, rfl, by rw [List.length_map, List.length_append]; show R.length + 1 < _; omega, ?_⟩⟩⟩
      show ∃ _, _
      refine ⟨R ++ [(e, f, t)] ++ [(e, f, -t)], .val (.int c), .val (.tup [.int (W e 8 : Nat), .int (W f 8 : Nat)]), .val (pw8 e f), .val (dR (Rat.divInt t 60)), ?_, by rw [List.length_append, List.length_append]; show R.length + 1 + 1 ≤ _; omega, hk, fun r hr => ?_⟩
      · show [_, Sl.own (_ ++ [VL.D.tup [dR (Rat.divInt t 60 * Rat.divInt (-1) 1), _]]), Sl.own (_ ++ [VL.D.tup [dR (Rat.divInt t 60 * Rat.divInt (-1) 1), _]]), _, _, _, _] = _
        rw [nt, ← row3, ← row4]
      · rcases List.mem_append.mp hr with w | w
        · exact sm r w
        · rw [List.mem_singleton.mp w]; exact ⟨by show (-t).natAbs ≤ 360; rw [Int.natAbs_neg]; exact ht, hef⟩
    · rintro _ ⟨R, s3, s4, s5, s6, rfl, lR, _, hR⟩
      rw [List.length_map] at lR
      exact ⟨rfl, hq R lR hR⟩
  rcases hd0 with rfl | rfl
  · exact ⟨rfl, rfl, main⟩
  · exact ⟨rfl, rfl, main⟩

theorem S_bd {f : Itm → Int} {c : Int} : ∀ {L : List Itm}, (∀ x, x ∈ L → f x ≤ c) → S f L ≤ L.length * c
  | [], _ => by show (0 : Int) ≤ ((0 : Nat) : Int) * c; simp
  | x :: L, h => by
    have h1 := h x List.mem_cons_self
    have h2 := S_bd (f := f) (c := c) (L := L) fun y hy => h y (List.mem_cons_of_mem _ hy)
    show f x + S f L ≤ ((L.length + 1 : Nat) : Int) * c
    rw [Int.natCast_add, Int.add_mul]
    show _ ≤ _ + 1 * c
    omega
theorem om24 {e : Ex} (h : ∀ j, j < 8 → e j ≤ 3) : Om e 8 ≤ 24 := by
  have h0 := h 0 (by decide)
  have h1 := h 1 (by decide)
  have h2 := h 2 (by decide)
  have h3 := h 3 (by decide)
  have h4 := h 4 (by decide)
  have h5 := h 5 (by decide)
  have h6 := h 6 (by decide)
  have h7 := h 7 (by decide)
  show 0 + e 0 + e 1 + e 2 + e 3 + e 4 + e 5 + e 6 + e 7 ≤ 24
  omega
theorem mem_todo {R : List Rw} {x : Itm} (h : x ∈ todo R) : ∃ r, r ∈ R ∧ (x = (r.1, r.2.2) ∨ x = (r.2.1, -r.2.2)) := by
  induction R with
  | nil => cases h
  | cons r R ih =>
    rcases List.mem_cons.mp h with w | w
    · exact ⟨r, List.mem_cons_self, .inl w⟩
    · rcases List.mem_cons.mp w with w | w
      · exact ⟨r, List.mem_cons_self, .inr w⟩
      · obtain ⟨r', h1, h2⟩ := ih w
        exact ⟨r', List.mem_cons_of_mem _ h1, h2⟩
/-- items that are not great -/
theorem ok_items {E : Nat} {L : List Itm} (E0 : 0 < E) (E1 : E ≤ 1000000000000000000) (hL : L.length ≤ 1000) (h : ∀ x, x ∈ L → x.2.natAbs ≤ 1000000000000 ∧ Om x.1 8 ≤ 240) : Ok E L := by
  refine ⟨E0, E1, ?_, ?_⟩
  · have h0 := S_bd (f := an) (c := 1000000000000) (L := L) fun x hx => by
      have := (h x hx).1
      show (x.2.natAbs : Int) ≤ _
      omega
    have := S_bd (f := hv) (c := 240000000000000) (L := L) fun x hx => by
      obtain ⟨h1, h2⟩ := h x hx
      show (x.2.natAbs : Int) * (Om x.1 8 : Int) ≤ 240000000000000
      have : x.2.natAbs * Om x.1 8 ≤ 1000000000000 * 240 := Nat.mul_le_mul h1 h2
      have e : ((x.2.natAbs : Int) * (Om x.1 8 : Int)) = ((x.2.natAbs * Om x.1 8 : Nat) : Int) := by rw [Int.natCast_mul]
      omega
    omega
  · have := S_bd (f := om) (c := 240) (L := L) fun x hx => by
      have := (h x hx).2
      show ((Om x.1 8 : Nat) : Int) ≤ 240
      omega
    omega
theorem ok_small {E : Nat} {R : List Rw} (E0 : 0 < E) (E1 : E ≤ 1000000000000000000) (hL : R.length ≤ 300) (h : ∀ r, r ∈ R → r.2.2.natAbs ≤ 1000000000000 ∧ ∀ j, j < 8 → r.1 j ≤ 3 ∧ r.2.1 j ≤ 3) : Ok E (todo R) := ok_items E0 E1 (by rw [todo_len]; omega) fun x hx => by
  obtain ⟨r, hr, w | w⟩ := mem_todo hx
  · obtain ⟨h1, h2⟩ := h r hr
    rw [w]
    exact ⟨h1, Nat.le_trans (om24 fun j hj => (h2 j hj).1) (by decide)⟩
  · obtain ⟨h1, h2⟩ := h r hr
    rw [w]
    exact ⟨by show (-r.2.2).natAbs ≤ _; rw [Int.natAbs_neg]; exact h1, Nat.le_trans (om24 fun j hj => (h2 j hj).2) (by decide)⟩
theorem sw_todo (j : Nat) : ∀ R : List Rw, sw j (R.map toW) = wt j (todo R)
  | [] => rfl
  | r :: R => by
    show r.2.2 * ((r.1 j : Int) - (r.2.1 j : Int)) + sw j (R.map toW) = r.2.2 * (r.1 j : Int) + (-r.2.2 * (r.2.1 j : Int) + wt j (todo R))
    rw [sw_todo j R, Int.mul_sub, Int.neg_mul]
    omega
theorem wt_filter (j : Nat) : ∀ R : List Rw, wt j (todo (R.filter fun r => r.2.2 ≠ 0)) = wt j (todo R)
  | [] => rfl
  | r :: R => by
    rw [List.filter_cons]
    by_cases h : r.2.2 = 0
    · rw [if_neg (by simp [h]), wt_filter j R]
      show _ = r.2.2 * (r.1 j : Int) + (-r.2.2 * (r.2.1 j : Int) + wt j (todo R))
      rw [h]; simp
    · rw [if_pos (by simp [h])]
      show r.2.2 * (r.1 j : Int) + (-r.2.2 * (r.2.1 j : Int) + wt j (todo _)) = r.2.2 * (r.1 j : Int) + (-r.2.2 * (r.2.1 j : Int) + wt j (todo R))
      rw [wt_filter j R]
theorem lfs_dW (E : Nat) : ∀ R : List Rw, lfs (R.map (dW E)) = true
  | [] => rfl
  | x :: B => by show (lf (dW E x) && lfs (B.map (dW E))) = true; rw [lfs_dW E B]; rfl
theorem toW_small {R : List Rw} (h : ∀ r, r ∈ R → Small r) : ∀ r, r ∈ R.map toW → r.2.natAbs ≤ 1000000000000000000 ∧ ∀ j, j < 8 → (r.1 j).natAbs ≤ 1000000 := fun r hr => by
  obtain ⟨x, hx, rfl⟩ := List.mem_map.mp hr
  obtain ⟨h1, h2⟩ := h x hx
  refine ⟨Nat.le_trans h1 (by decide), fun j hj => ?_⟩
  have := h2 j hj
  show ((x.1 j : Int) - (x.2.1 j : Int)).natAbs ≤ 1000000
  omega
theorem good_law_log_number14 : Good (Gl L) b_law_log_number14 2 4 vLogNumber14 := by
  rintro ds q ⟨c, ns, d0, rfl, hd0, hl, hq⟩ -
  refine ⟨rfl, ns, d0, rfl, hd0, hl, fun R lR hR => ⟨.inl rfl, rfl, ?_⟩⟩
  refine ⟨by rw [List.length_map]; unfold Sm; omega, fun k acc ρ => acc = ((R.take k).filter fun r => r.2.2 ≠ 0).map (dW 60) ∧ ρ = [.val (.int c), .val d0, .val (.lst (R.map (dW 60))), .val (.lst (R.map fun r => dWr 60 (toW r))), .un, .un], ⟨rfl, rfl⟩, ?_, ?_⟩
  · rintro k d acc _ hd ⟨rfl, rfl⟩
    rw [List.getElem?_map] at hd
    obtain ⟨x, hx, rfl⟩ := Option.map_eq_some_iff.mp hd
    have okx := dsh_of (okD_dR (Rat.divInt x.2.2 (60 : Nat))) (by decide)
    have ok0 : dsh (.tup [.int 0, .int 1]) = true := dsh_of (okD_dR 0) (by decide)
    have z : deq (dR (Rat.divInt x.2.2 (60 : Nat))) (.tup [.int 0, .int 1]) = decide (x.2.2 = 0) := by
      have : deq (dR (Rat.divInt x.2.2 (60 : Nat))) (dR 0) = _ := deq_dR _ _
      refine this.trans ?_
      rw [decide_eq_decide]
      exact div_zero (by decide)
    refine ⟨_, rfl, rfl, okx, ok0, fun h => ?_, fun h => ?_⟩
    · have h : (!deq (dR (Rat.divInt x.2.2 (60 : Nat))) (.tup [.int 0, .int 1])) = true := h
      rw [z] at h
      have h := of_decide_eq_false (not_t h)
      refine ⟨?_, rfl⟩
      rw [List.take_succ, hx, List.filter_append, List.map_append]
      show _ = _ ++ (List.filter _ [x]).map _
      rw [List.filter_cons, if_pos (by simp [h])]; rfl
    · have h : (!deq (dR (Rat.divInt x.2.2 (60 : Nat))) (.tup [.int 0, .int 1])) = false := h
      rw [z] at h
      have h : x.2.2 = 0 := of_decide_eq_true (by cases hh : decide (x.2.2 = 0) with | true => rfl | false => rw [hh] at h; cases h)
      refine ⟨?_, rfl⟩
      rw [List.take_succ, hx, List.filter_append, List.map_append]
      show _ = _ ++ (List.filter _ [x]).map _
      rw [List.filter_cons, if_neg (by simp [h])]
      show _ = _ ++ []
      rw [List.append_nil]
  · rintro acc _ ⟨rfl, rfl⟩
    rw [List.length_map, List.take_length]
    refine ⟨rfl, c, 3, rfl, by decide, fun t ht => ⟨.inl rfl, rfl, rfl, 60, R.map toW, ?_, by decide, by decide, by rw [List.length_map]; omega, toW_small hR, .inl rfl, rfl, ?_⟩⟩
    · rw [List.map_map]; rfl
    · have fin := hq t (R.filter fun r => r.2.2 ≠ 0) ht (Nat.le_trans (List.length_filter_le _ _) lR) fun r hr => hR r (List.mem_filter.mp hr).1
      have e : (List.range 8).map (fun j => dR (Rat.divInt (sw j (R.map toW)) (60 : Nat))) = (List.range 8).map fun j => dR (Rat.divInt (wt j (todo (R.filter fun r => r.2.2 ≠ 0))) (60 : Nat)) := List.map_congr_left fun j _ => by rw [sw_todo, wt_filter]
      rw [e]
      exact fin
theorem cut_map (l : List Int) (lo hi : Option Int) : ∃ r : List Int, cutD (l.map VL.D.int) lo hi = r.map VL.D.int ∧ r.length ≤ l.length := by
  unfold cutD
  rw [List.length_map]
  refine ⟨((l.drop (HT.sIx l.length 0 lo)).take (HT.sIx l.length l.length hi - HT.sIx l.length 0 lo)), by rw [List.map_take, List.map_drop], ?_⟩
  rw [List.length_take, List.length_drop]; omega
theorem lf_set (E : Nat) (r : Rat) (B : List Itm) : lfR (.val (.tup [dR r, .tup (B.map (dN E))])) = true := by
  show (lf (dR r) && (lfs (B.map (dN E)) && true)) = true
  rw [lfs_dN]; rfl
end M14

/-! M17m: logarithms of fractions by sums of 1/i alone. -/
namespace M17
/-- 1/1 + .. + 1/n -/
def H : Nat → Rat
  | 0 => 0
  | n + 1 => H n + 1 / ((n + 1 : Nat) : Rat)
/-- the series of the logarithm, twice z + z^3/3 + .. -/
def F : Nat → Rat → Rat
  | 0, _ => 0
  | k + 1, z => F k z + 2 * (z ^ (2 * k + 1) / ((2 * k + 1 : Nat) : Rat))
/-- 1 + x^2 + x^4 + .. -/
def G : Nat → Rat → Rat
  | 0, _ => 0
  | k + 1, x => G k x + x ^ (2 * k)
theorem pow_nn {x : Rat} (h : 0 ≤ x) : ∀ n : Nat, 0 ≤ x ^ n
  | 0 => by rw [Rat.pow_zero]; decide
  | n + 1 => by rw [Rat.pow_succ]; exact Rat.mul_nonneg (pow_nn h n) h
theorem pow_le {x y : Rat} (h : 0 ≤ x) (g : x ≤ y) : ∀ n : Nat, x ^ n ≤ y ^ n
  | 0 => by rw [Rat.pow_zero, Rat.pow_zero]; exact Rat.le_refl
  | n + 1 => by
    rw [Rat.pow_succ, Rat.pow_succ]
    have h1 := pow_le h g n
    have h2 := pow_nn h n
    have a := Rat.mul_le_mul_of_nonneg_right h1 h
    have b := Rat.mul_le_mul_of_nonneg_left g (Rat.le_trans h2 h1)
    exact Rat.le_trans a b
theorem nat_succ (n : Nat) : ((n + 1 : Nat) : Rat) = (n : Rat) + 1 := by exact_mod_cast rfl
theorem nat_nn (n : Nat) : (0 : Rat) ≤ (n : Rat) := by exact_mod_cast Nat.zero_le n
theorem add_le {a b c d : Rat} (h : a ≤ b) (g : c ≤ d) : a + c ≤ b + d := by grind
/-- how far powers lie apart -/
theorem pow_gap {z w : Rat} (hz : 0 ≤ z) (h : z ≤ w) : ∀ n : Nat, w ^ (n + 1) - z ^ (n + 1) ≤ ((n + 1 : Nat) : Rat) * ((w - z) * w ^ n) ∧ ((n + 1 : Nat) : Rat) * ((w - z) * z ^ n) ≤ w ^ (n + 1) - z ^ (n + 1)
  | 0 => by
    have e : ((0 + 1 : Nat) : Rat) = 1 := rfl
    rw [e, Rat.pow_succ, Rat.pow_zero, Rat.pow_succ, Rat.pow_zero]
    constructor <;> grind
  | n + 1 => by
    obtain ⟨i1, i2⟩ := pow_gap hz h n
    have hw : 0 ≤ w := Rat.le_trans hz h
    have zn := pow_nn hz (n + 1)
    have wn := pow_nn hw (n + 1)
    have zw := pow_le hz h (n + 1)
    have d : 0 ≤ w - z := by grind
    have e1 := Rat.mul_le_mul_of_nonneg_right i1 hw
    have e2 := Rat.mul_le_mul_of_nonneg_right i2 hz
    have e3 := Rat.mul_le_mul_of_nonneg_left zw d
    rw [nat_succ (n + 1)]
    have pw : w ^ (n + 1) = w ^ n * w := Rat.pow_succ ..
    have pz : z ^ (n + 1) = z ^ n * z := Rat.pow_succ ..
    have pw2 : w ^ (n + 1 + 1) = w ^ (n + 1) * w := Rat.pow_succ ..
    have pz2 : z ^ (n + 1 + 1) = z ^ (n + 1) * z := Rat.pow_succ ..
    rw [pw2, pz2]
    constructor
    · have key := add_le e1 e3
      have l : (w ^ (n + 1) - z ^ (n + 1)) * w + (w - z) * z ^ (n + 1) = w ^ (n + 1) * w - z ^ (n + 1) * z := by grind
      have r : ((n + 1 : Nat) : Rat) * ((w - z) * w ^ n) * w + (w - z) * w ^ (n + 1) = (((n + 1 : Nat) : Rat) + 1) * ((w - z) * w ^ (n + 1)) := by rw [pw]; grind
      rw [l, r] at key
      exact key
    · have e4 := Rat.mul_le_mul_of_nonneg_left zw d
      have key := add_le e2 e4
      have l : ((n + 1 : Nat) : Rat) * ((w - z) * z ^ n) * z + (w - z) * z ^ (n + 1) = (((n + 1 : Nat) : Rat) + 1) * ((w - z) * z ^ (n + 1)) := by rw [pz]; grind
      have r : (w ^ (n + 1) - z ^ (n + 1)) * z + (w - z) * w ^ (n + 1) = w ^ (n + 1) * w - z ^ (n + 1) * z := by grind
      rw [l, r] at key
      exact key
theorem G_sum (x : Rat) : ∀ K, (1 - x * x) * G K x = 1 - x ^ (2 * K)
  | 0 => by
    show _ * (0 : Rat) = 1 - x ^ 0
    rw [Rat.pow_zero]; grind
  | K + 1 => by
    have ih := G_sum x K
    show (1 - x * x) * (G K x + x ^ (2 * K)) = 1 - x ^ (2 * K + 1 + 1)
    rw [Rat.pow_succ, Rat.pow_succ]
    have : (1 - x * x) * (G K x + x ^ (2 * K)) = (1 - x * x) * G K x + (1 - x * x) * x ^ (2 * K) := by grind
    rw [this, ih]; grind
theorem div_le {a b c : Rat} (hc : 0 < c) (h : a ≤ c * b) : a / c ≤ b := by
  refine Classical.byContradiction fun w => ?_
  have q := Rat.mul_lt_mul_of_pos_right (Rat.not_le.mp w) hc
  have c0 : c ≠ 0 := fun z => by rw [z] at hc; exact absurd hc (by decide)
  rw [Rat.div_mul_cancel c0] at q
  grind
theorem le_div {a b c : Rat} (hc : 0 < c) (h : c * b ≤ a) : b ≤ a / c := by
  refine Classical.byContradiction fun w => ?_
  have q := Rat.mul_lt_mul_of_pos_right (Rat.not_le.mp w) hc
  have c0 : c ≠ 0 := fun z => by rw [z] at hc; exact absurd hc (by decide)
  rw [Rat.div_mul_cancel c0] at q
  grind
theorem nat_pos (n : Nat) : (0 : Rat) < ((n + 1 : Nat) : Rat) := by exact_mod_cast Nat.succ_pos n
/-- how far the series lie apart -/
theorem F_gap {z w : Rat} (hz : 0 ≤ z) (h : z ≤ w) : ∀ K, F K w - F K z ≤ 2 * ((w - z) * G K w) ∧ 2 * ((w - z) * G K z) ≤ F K w - F K z
  | 0 => by
    show (0 : Rat) - 0 ≤ 2 * ((w - z) * 0) ∧ 2 * ((w - z) * 0) ≤ (0 : Rat) - 0
    constructor <;> grind
  | K + 1 => by
    obtain ⟨i1, i2⟩ := F_gap hz h K
    obtain ⟨p1, p2⟩ := pow_gap hz h (2 * K)
    have c := nat_pos (2 * K)
    have q1 := div_le c p1
    have q2 := le_div c p2
    show F K w + 2 * (w ^ (2 * K + 1) / _) - (F K z + 2 * (z ^ (2 * K + 1) / _)) ≤ 2 * ((w - z) * (G K w + w ^ (2 * K))) ∧ 2 * ((w - z) * (G K z + z ^ (2 * K))) ≤ F K w + 2 * (w ^ (2 * K + 1) / _) - (F K z + 2 * (z ^ (2 * K + 1) / _))
    have e : (w ^ (2 * K + 1) - z ^ (2 * K + 1)) / ((2 * K + 1 : Nat) : Rat) = w ^ (2 * K + 1) / ((2 * K + 1 : Nat) : Rat) - z ^ (2 * K + 1) / ((2 * K + 1 : Nat) : Rat) := by grind
    rw [e] at q1 q2
    have e1 : (w - z) * (G K w + w ^ (2 * K)) = (w - z) * G K w + (w - z) * w ^ (2 * K) := by grind
    have e2 : (w - z) * (G K z + z ^ (2 * K)) = (w - z) * G K z + (w - z) * z ^ (2 * K) := by grind
    rw [e1, e2]
    constructor <;> grind
/-- (i - M) / (i + M) -/
def zt (M i : Rat) : Rat := (i - M) / (i + M)
theorem zt_mono {M i : Rat} (hM : 0 < M) (h : M ≤ i) : 0 ≤ zt M i ∧ zt M i ≤ zt M (i + 1) := by
  have p1 : 0 < i + M := by grind
  have p2 : 0 < i + 1 + M := by grind
  refine ⟨le_div p1 (by grind), ?_⟩
  unfold zt
  refine div_le p1 ?_
  refine Classical.byContradiction fun w => ?_
  have q := Rat.mul_lt_mul_of_pos_right (Rat.not_le.mp w) p2
  have n2 : i + 1 + M ≠ 0 := fun z => by rw [z] at p2; exact absurd p2 (by decide)
  have e : (i + M) * ((i + 1 - M) / (i + 1 + M)) * (i + 1 + M) = (i + M) * (i + 1 - M) := by grind
  rw [e] at q
  grind
theorem zt_lt {M i : Rat} (hM : 0 < M) (h : M ≤ i) : zt M i ≤ 1 := div_le (by grind) (by grind)
theorem step_hi {M i : Rat} (hM : 0 < M) (h : M ≤ i) (K : Nat) : F K (zt M (i + 1)) - F K (zt M i) ≤ 1 / i := by
  obtain ⟨z0, zw⟩ := zt_mono hM h
  have g := (F_gap z0 zw K).1
  have gs := G_sum (zt M (i + 1)) K
  have w0 := Rat.le_trans z0 zw
  have pn := pow_nn w0 (2 * K)
  have i0 : 0 < i := by grind
  have n1 : i ≠ 0 := by grind
  have n2 : i + 1 ≠ 0 := by grind
  have n3 : i + M ≠ 0 := by grind
  have n4 : i + 1 + M ≠ 0 := by grind
  obtain ⟨t, et⟩ : ∃ t, t = (i + 1 + M) / ((i + M) * (i + 1)) := ⟨_, rfl⟩
  have e : 2 * (zt M (i + 1) - zt M i) = (1 - zt M (i + 1) * zt M (i + 1)) * t := by
    rw [et]; unfold zt; grind
  have e2 : 2 * ((zt M (i + 1) - zt M i) * G K (zt M (i + 1))) = t * (1 - zt M (i + 1) ^ (2 * K)) := by
    rw [← gs]
    have : 2 * ((zt M (i + 1) - zt M i) * G K (zt M (i + 1))) = 2 * (zt M (i + 1) - zt M i) * G K (zt M (i + 1)) := by grind
    rw [this, e]; grind
  have d0 : 0 < (i + M) * (i + 1) := Rat.mul_pos (by grind) (by grind)
  have t0 : 0 ≤ t := by rw [et]; exact le_div d0 (by grind)
  have t1 : t ≤ 1 / i := by
    rw [et]
    refine div_le d0 ?_
    have : (i + M) * (i + 1) * (1 / i) = (i + 1 + M) + M / i := by grind
    rw [this]
    have := le_div i0 (show i * 0 ≤ M by grind)
    grind
  have t2 := Rat.mul_nonneg t0 pn
  rw [e2] at g
  have : t * (1 - zt M (i + 1) ^ (2 * K)) = t - t * zt M (i + 1) ^ (2 * K) := by grind
  grind
theorem step_lo {M i : Rat} (hM : 0 < M) (h : M ≤ i) (K : Nat) : (1 - zt M i ^ (2 * K)) * (1 / (i + 1)) ≤ F K (zt M (i + 1)) - F K (zt M i) := by
  obtain ⟨z0, zw⟩ := zt_mono hM h
  have g := (F_gap z0 zw K).2
  have gs := G_sum (zt M i) K
  have p1 := pow_le z0 (zt_lt hM h) (2 * K)
  have one : ∀ n : Nat, (1 : Rat) ^ n = 1 := fun n => by
    induction n with
    | zero => exact Rat.pow_zero _
    | succ n ih => rw [Rat.pow_succ, ih]; grind
  rw [one] at p1
  have i0 : 0 < i := by grind
  have n1 : i ≠ 0 := by grind
  have n2 : i + 1 ≠ 0 := by grind
  have n3 : i + M ≠ 0 := by grind
  have n4 : i + 1 + M ≠ 0 := by grind
  obtain ⟨t, et⟩ : ∃ t, t = (i + M) / ((i + 1 + M) * i) := ⟨_, rfl⟩
  have e : 2 * (zt M (i + 1) - zt M i) = (1 - zt M i * zt M i) * t := by
    rw [et]; unfold zt; grind
  have e2 : 2 * ((zt M (i + 1) - zt M i) * G K (zt M i)) = t * (1 - zt M i ^ (2 * K)) := by
    rw [← gs]
    have : 2 * ((zt M (i + 1) - zt M i) * G K (zt M i)) = 2 * (zt M (i + 1) - zt M i) * G K (zt M i) := by grind
    rw [this, e]; grind
  have d0 : 0 < (i + 1 + M) * i := Rat.mul_pos (by grind) i0
  have t1 : 1 / (i + 1) ≤ t := by
    rw [et]
    refine le_div d0 ?_
    have : (i + 1 + M) * i * (1 / (i + 1)) = (i + M) - M / (i + 1) := by grind
    rw [this]
    have := le_div (show 0 < i + 1 by grind) (show (i + 1) * 0 ≤ M by grind)
    grind
  have q := Rat.mul_le_mul_of_nonneg_left t1 (show 0 ≤ 1 - zt M i ^ (2 * K) by grind)
  rw [e2] at g
  have : t * (1 - zt M i ^ (2 * K)) = (1 - zt M i ^ (2 * K)) * t := by grind
  grind
theorem F_zero : ∀ K, F K 0 = 0
  | 0 => rfl
  | K + 1 => by
    show F K 0 + 2 * ((0 : Rat) ^ (2 * K + 1) / _) = 0
    rw [F_zero K, Rat.pow_succ]; grind
theorem zt_self (M : Rat) : zt M M = 0 := by unfold zt; grind
theorem ge1 {M : Nat} (h : 1 ≤ M) : (0 : Rat) < (M : Rat) := by exact_mod_cast h
theorem nat_le {a b : Nat} (h : a ≤ b) : (a : Rat) ≤ (b : Rat) := by exact_mod_cast h
/-- the series below, up to 1 / M -/
theorem F_hi {M : Nat} (hM : 1 ≤ M) (K : Nat) : ∀ d : Nat, F K (zt M ((M + d : Nat) : Rat)) ≤ H (M + d) - H M + 1 / (M : Rat) - 1 / ((M + d : Nat) : Rat)
  | 0 => by
    rw [Nat.add_zero, zt_self, F_zero]; grind
  | d + 1 => by
    have ih := F_hi hM K d
    have st := step_hi (ge1 hM) (nat_le (Nat.le_add_right M d)) K
    rw [← nat_succ] at st
    show F K (zt M ((M + d + 1 : Nat) : Rat)) ≤ H (M + d) + 1 / ((M + d + 1 : Nat) : Rat) - H M + 1 / (M : Rat) - 1 / ((M + d + 1 : Nat) : Rat)
    grind
/-- the series above, but for a part -/
theorem F_lo {M : Nat} (hM : 1 ≤ M) (K : Nat) (c : Rat) : ∀ d : Nat, zt M ((M + d : Nat) : Rat) ≤ c → (1 - c ^ (2 * K)) * (H (M + d) - H M) ≤ F K (zt M ((M + d : Nat) : Rat))
  | 0, _ => by
    rw [Nat.add_zero, zt_self, F_zero]; grind
  | d + 1, h => by
    have hMd := nat_le (Nat.le_add_right M d)
    obtain ⟨z0, zw⟩ := zt_mono (ge1 hM) hMd
    rw [← nat_succ] at zw
    have hc := Rat.le_trans zw h
    have ih := F_lo hM K c d hc
    have st := step_lo (ge1 hM) hMd K
    rw [← nat_succ] at st
    have pl := pow_le z0 hc (2 * K)
    have nn : (0 : Rat) ≤ 1 / ((M + d + 1 : Nat) : Rat) := le_div (nat_pos (M + d)) (by grind)
    have q := Rat.mul_le_mul_of_nonneg_right pl nn
    show (1 - c ^ (2 * K)) * (H (M + d) + 1 / ((M + d + 1 : Nat) : Rat) - H M) ≤ F K (zt M ((M + d + 1 : Nat) : Rat))
    have e1 : (1 - c ^ (2 * K)) * (H (M + d) + 1 / ((M + d + 1 : Nat) : Rat) - H M) = (1 - c ^ (2 * K)) * (H (M + d) - H M) + (1 / ((M + d + 1 : Nat) : Rat) - c ^ (2 * K) * (1 / ((M + d + 1 : Nat) : Rat))) := by grind
    have e2 : (1 - zt M ((M + d : Nat) : Rat) ^ (2 * K)) * (1 / ((M + d + 1 : Nat) : Rat)) = 1 / ((M + d + 1 : Nat) : Rat) - zt M ((M + d : Nat) : Rat) ^ (2 * K) * (1 / ((M + d + 1 : Nat) : Rat)) := by grind
    rw [e1]
    rw [e2] at st
    grind
/-- what stands for the logarithm of p / q -/
def A (p q N : Nat) : Rat := H (p * N) - H (q * N)
theorem H_le : ∀ (M d : Nat), 1 ≤ M → H (M + d) - H M ≤ (d : Rat) / (M : Rat) ∧ 0 ≤ H (M + d) - H M
  | M, 0, h => by
    rw [Nat.add_zero]
    have e : ((0 : Nat) : Rat) = 0 := rfl
    rw [e]
    constructor <;> grind
  | M, d + 1, h => by
    obtain ⟨i1, i2⟩ := H_le M d h
    have m0 := ge1 h
    have nn : (0 : Rat) ≤ 1 / ((M + d + 1 : Nat) : Rat) := le_div (nat_pos (M + d)) (by grind)
    have le : 1 / ((M + d + 1 : Nat) : Rat) ≤ 1 / (M : Rat) := div_le (nat_pos (M + d)) (by
      have h1 := nat_le (show M ≤ M + d + 1 by omega)
      have : ((M + d + 1 : Nat) : Rat) * (1 / (M : Rat)) = ((M + d + 1 : Nat) : Rat) / (M : Rat) := by grind
      rw [this]
      exact le_div m0 (by grind))
    show H (M + d) + 1 / ((M + d + 1 : Nat) : Rat) - H M ≤ ((d + 1 : Nat) : Rat) / (M : Rat) ∧ 0 ≤ H (M + d) + 1 / ((M + d + 1 : Nat) : Rat) - H M
    have e : ((d + 1 : Nat) : Rat) / (M : Rat) = (d : Rat) / (M : Rat) + 1 / (M : Rat) := by rw [nat_succ]; grind
    rw [e]
    constructor <;> grind
/-- the series and the sums of 1 / i -/
theorem A_F {p q N : Nat} (hq : 1 ≤ q) (hp : q ≤ p) (hN : 1 ≤ N) (K : Nat) :
    F K (((p : Rat) - q) / ((p : Rat) + q)) ≤ A p q N + 1 / ((q * N : Nat) : Rat) ∧ A p q N ≤ F K (((p : Rat) - q) / ((p : Rat) + q)) + (((p : Rat) - q) / ((p : Rat) + q)) ^ (2 * K) * A p q N ∧ 0 ≤ A p q N ∧ A p q N ≤ ((p : Rat) - q) / (q : Rat) := by
  have hM : 1 ≤ q * N := Nat.mul_pos hq hN
  have le : q * N ≤ p * N := Nat.mul_le_mul_right N hp
  obtain ⟨d, ed⟩ : ∃ d, p * N = q * N + d := ⟨p * N - q * N, by omega⟩
  have n0 := ge1 hN
  have q0 := ge1 hq
  have p0 : (0 : Rat) < (p : Rat) := ge1 (Nat.le_trans hq hp)
  have ez : zt ((q * N : Nat) : Rat) ((q * N + d : Nat) : Rat) = ((p : Rat) - q) / ((p : Rat) + q) := by
    rw [← ed]
    unfold zt
    rw [Rat.natCast_mul, Rat.natCast_mul]
    have a1 : (N : Rat) ≠ 0 := by grind
    have a2 : (p : Rat) + q ≠ 0 := by grind
    have a3 : (p : Rat) * N + q * N ≠ 0 := by
      have : (p : Rat) * N + q * N = ((p : Rat) + q) * N := by grind
      rw [this]
      intro w
      rcases Rat.mul_eq_zero.mp w with w | w
      · exact a2 w
      · exact a1 w
    grind
  have h1 := F_hi hM K d
  have h2 := F_lo hM K _ d Rat.le_refl
  obtain ⟨h3, h4⟩ := H_le (q * N) d hM
  rw [ez] at h1 h2
  have eA : A p q N = H (q * N + d) - H (q * N) := by unfold A; rw [ed]
  have nn : (0 : Rat) ≤ 1 / ((q * N + d : Nat) : Rat) := le_div (ge1 (show 1 ≤ q * N + d by omega)) (by grind)
  refine ⟨by rw [eA]; grind, by rw [eA]; grind, by rw [eA]; exact h4, ?_⟩
  rw [eA]
  have e5 : ((p : Rat) - q) / (q : Rat) = (d : Rat) / ((q * N : Nat) : Rat) := by
    have e6 : (p : Rat) * N = (q : Rat) * N + d := by exact_mod_cast ed
    rw [Rat.natCast_mul]
    have a1 : (N : Rat) ≠ 0 := by grind
    have a2 : (q : Rat) ≠ 0 := by grind
    have : (d : Rat) = ((p : Rat) - q) * N := by grind
    rw [this]; grind
  rw [e5]; exact h3
/-! ### a row reckoned in whole numbers -/
theorem div_lo (n : Nat) {m : Nat} (hm : 1 ≤ m) : ((n / m : Nat) : Rat) ≤ (n : Rat) / (m : Rat) ∧ (n : Rat) / (m : Rat) ≤ ((n / m : Nat) : Rat) + 1 := by
  have e : (n : Rat) = (m : Rat) * ((n / m : Nat) : Rat) + ((n % m : Nat) : Rat) := by exact_mod_cast (Nat.div_add_mod n m).symm
  have r1 : ((n % m : Nat) : Rat) ≤ (m : Rat) := nat_le (Nat.le_of_lt (Nat.mod_lt n hm))
  have r0 := nat_nn (n % m)
  have m0 := ge1 hm
  exact ⟨le_div m0 (by grind), div_le m0 (by grind)⟩
structure Rw (s : Nat) (x : Rat) (k part total : Nat) : Prop where
  lo : (part : Rat) ≤ s * x ^ (2 * k + 1)
  hi : s * x ^ (2 * k + 1) ≤ (part : Rat) + 9 / 8
  tl : 2 * (total : Rat) ≤ s * F k x
  th : s * F k x ≤ 2 * ((total : Rat) + 3 * (k : Rat))
theorem Rw.start {s a b : Nat} (hb : 1 ≤ b) : Rw s ((a : Rat) / b) 0 (s * a / b) 0 := by
  obtain ⟨h1, h2⟩ := div_lo (s * a) hb
  rw [Rat.natCast_mul] at h1 h2
  have e : (s : Rat) * ((a : Rat) / b) ^ (2 * 0 + 1) = (s : Rat) * a / b := by rw [Rat.pow_succ, Rat.pow_zero]; grind
  have z : ((0 : Nat) : Rat) = 0 := rfl
  refine ⟨by rw [e]; exact h1, by rw [e]; grind, ?_, ?_⟩
  · show 2 * ((0 : Nat) : Rat) ≤ s * 0
    rw [z]; grind
  · show (s : Rat) * 0 ≤ 2 * (((0 : Nat) : Rat) + 3 * ((0 : Nat) : Rat))
    rw [z]; grind
theorem Rw.step {s a b k part total : Nat} (hb : 1 ≤ b) (hx : 3 * a ≤ b) (h : Rw s ((a : Rat) / b) k part total) : Rw s ((a : Rat) / b) (k + 1) (part * a * a / (b * b)) (total + part / (2 * k + 1)) := by
  obtain ⟨lo, hi, tl, th⟩ := h
  obtain ⟨x, ex⟩ : ∃ x, x = (a : Rat) / b := ⟨_, rfl⟩
  rw [← ex] at lo hi tl th ⊢
  have b0 := ge1 hb
  have a0 := nat_nn a
  have x0 : 0 ≤ x := by rw [ex]; exact le_div b0 (by grind)
  have x3 : x ≤ 1 / 3 := by
    rw [ex]
    refine div_le b0 ?_
    have : ((3 * a : Nat) : Rat) ≤ (b : Rat) := nat_le hx
    rw [Rat.natCast_mul] at this
    have e3 : ((3 : Nat) : Rat) = 3 := rfl
    rw [e3] at this
    grind
  have xx : 0 ≤ x * x := Rat.mul_nonneg x0 x0
  have xx9 : x * x ≤ 1 / 9 := by
    have h1 := Rat.mul_le_mul_of_nonneg_left x3 x0
    have h2 := Rat.mul_le_mul_of_nonneg_right x3 (show (0 : Rat) ≤ 1 / 3 by decide +kernel)
    grind
  obtain ⟨d1, d2⟩ := div_lo (part * a * a) (Nat.mul_pos hb hb)
  have ed : ((part * a * a : Nat) : Rat) / ((b * b : Nat) : Rat) = (part : Rat) * (x * x) := by
    rw [ex, Rat.natCast_mul, Rat.natCast_mul, Rat.natCast_mul]
    have : (b : Rat) ≠ 0 := by grind
    grind
  rw [ed] at d1 d2
  have pe : x ^ (2 * (k + 1) + 1) = x ^ (2 * k + 1) * (x * x) := by
    rw [show 2 * (k + 1) + 1 = 2 * k + 1 + 1 + 1 by omega, Rat.pow_succ, Rat.pow_succ]; grind
  obtain ⟨P, eP⟩ : ∃ P, P = x ^ (2 * k + 1) := ⟨_, rfl⟩
  rw [← eP] at lo hi pe
  have l2 := Rat.mul_le_mul_of_nonneg_right lo xx
  have h2 := Rat.mul_le_mul_of_nonneg_right hi xx
  obtain ⟨t1, t2⟩ := div_lo part (show 1 ≤ 2 * k + 1 by omega)
  have m0 := nat_pos (2 * k)
  have m1 : (1 : Rat) ≤ ((2 * k + 1 : Nat) : Rat) := nat_le (show 1 ≤ 2 * k + 1 by omega)
  have q1 : (part : Rat) / ((2 * k + 1 : Nat) : Rat) ≤ s * P / ((2 * k + 1 : Nat) : Rat) := div_le m0 (by
    have : ((2 * k + 1 : Nat) : Rat) * (s * P / ((2 * k + 1 : Nat) : Rat)) = s * P := by
      have : ((2 * k + 1 : Nat) : Rat) ≠ 0 := by grind
      grind
    rw [this]; exact lo)
  have q2 : s * P / ((2 * k + 1 : Nat) : Rat) ≤ (part : Rat) / ((2 * k + 1 : Nat) : Rat) + 9 / 8 := div_le m0 (by
    have : ((2 * k + 1 : Nat) : Rat) * ((part : Rat) / ((2 * k + 1 : Nat) : Rat) + 9 / 8) = part + ((2 * k + 1 : Nat) : Rat) * (9 / 8) := by
      have : ((2 * k + 1 : Nat) : Rat) ≠ 0 := by grind
      grind
    rw [this]
    have := Rat.mul_le_mul_of_nonneg_right m1 (show (0 : Rat) ≤ 9 / 8 by decide +kernel)
    grind)
  have eF : (s : Rat) * F (k + 1) x = s * F k x + 2 * (s * P / ((2 * k + 1 : Nat) : Rat)) := by
    show (s : Rat) * (F k x + 2 * (x ^ (2 * k + 1) / _)) = _
    rw [← eP]; grind
  have et : ((total + part / (2 * k + 1) : Nat) : Rat) = (total : Rat) + ((part / (2 * k + 1) : Nat) : Rat) := by exact_mod_cast rfl
  refine ⟨?_, ?_, ?_, ?_⟩
  · rw [pe]
    have : (s : Rat) * (P * (x * x)) = s * P * (x * x) := by grind
    rw [this]
    exact Rat.le_trans d1 l2
  · rw [pe]
    have e1 : (s : Rat) * (P * (x * x)) = s * P * (x * x) := by grind
    have e2 : ((part : Rat) + 9 / 8) * (x * x) = (part : Rat) * (x * x) + 9 / 8 * (x * x) := by grind
    rw [e1]
    rw [e2] at h2
    grind
  · rw [eF, et]; grind
  · rw [eF, et, nat_succ]; grind
/-- what a row tells -/
theorem Rw.stop {s K total p q : Nat} (hs : 1 ≤ s) (hq : 1 ≤ q) (hp : q ≤ p) (h2 : p ≤ 2 * q) (h : Rw s (((p - q : Nat) : Rat) / ((p + q : Nat) : Rat)) K 0 total) {N : Nat} (hN : 1 ≤ N) :
    2 * (total : Rat) / s ≤ A p q N + 1 / (N : Rat) ∧ A p q N ≤ 2 * ((total : Rat) + 3 * K + 2) / s := by
  have ex : ((p - q : Nat) : Rat) / ((p + q : Nat) : Rat) = ((p : Rat) - q) / ((p : Rat) + q) := by
    have e1 : ((p - q : Nat) : Rat) = (p : Rat) - q := by
      have : ((p - q : Nat) : Rat) + q = p := by exact_mod_cast Nat.sub_add_cancel hp
      grind
    have e2 : ((p + q : Nat) : Rat) = (p : Rat) + q := by exact_mod_cast rfl
    rw [e1, e2]
  rw [ex] at h
  obtain ⟨a1, a2, a3, a4⟩ := A_F hq hp hN K
  obtain ⟨x, exx⟩ : ∃ x, x = ((p : Rat) - q) / ((p : Rat) + q) := ⟨_, rfl⟩
  rw [← exx] at h a1 a2
  obtain ⟨lo, hi, tl, th⟩ := h
  have s0 := ge1 hs
  have q0 := ge1 hq
  have n0 := ge1 hN
  have pq := nat_le hp
  have p2 : (p : Rat) ≤ 2 * q := by
    have := nat_le h2
    rw [Rat.natCast_mul] at this
    exact this
  have pp : (0 : Rat) < (p : Rat) + q := by grind
  have x0 : 0 ≤ x := by rw [exx]; exact le_div pp (by grind)
  have A3 : A p q N ≤ 3 * x := by
    refine Rat.le_trans a4 (div_le q0 ?_)
    rw [exx]
    have : (q : Rat) * (3 * (((p : Rat) - q) / ((p : Rat) + q))) = 3 * q * ((p : Rat) - q) / ((p : Rat) + q) := by grind
    rw [this]
    refine le_div pp ?_
    have := Rat.mul_le_mul_of_nonneg_right (show (p : Rat) + q ≤ 3 * q by grind) (show (0 : Rat) ≤ (p : Rat) - q by grind)
    exact this
  have pn := pow_nn x0 (2 * K)
  have tail := Rat.mul_le_mul_of_nonneg_left A3 pn
  have pe : x ^ (2 * K + 1) = x ^ (2 * K) * x := Rat.pow_succ ..
  have z : ((0 : Nat) : Rat) = 0 := rfl
  rw [z, pe] at hi
  have qN : 1 / ((q * N : Nat) : Rat) ≤ 1 / (N : Rat) := div_le (ge1 (Nat.mul_pos hq hN)) (by
    rw [Rat.natCast_mul]
    have : (q : Rat) * N * (1 / (N : Rat)) = q := by
      have : (N : Rat) ≠ 0 := by grind
      grind
    rw [this]
    exact nat_le hq)
  constructor
  · refine div_le s0 ?_
    have m := Rat.mul_le_mul_of_nonneg_left (Rat.le_trans a1 (add_le Rat.le_refl qN)) (Rat.le_of_lt s0)
    exact Rat.le_trans tl m
  · refine le_div s0 ?_
    have m := Rat.mul_le_mul_of_nonneg_left (Rat.le_trans a2 (add_le Rat.le_refl tail)) (Rat.le_of_lt s0)
    have e : (s : Rat) * (F K x + x ^ (2 * K) * (3 * x)) = s * F K x + 3 * (s * (x ^ (2 * K) * x)) := by grind
    rw [e] at m
    grind
/-- how many turns a row takes -/
theorem Rw.many {s a b k part total bits : Nat} (hb : 1 ≤ b) (hx : 3 * a ≤ b) (h : Rw s ((a : Rat) / b) k part total) (hs : s = 2 ^ bits) (hp : 1 ≤ part) : 3 * k ≤ bits := by
  have b0 := ge1 hb
  have a0 := nat_nn a
  obtain ⟨x, ex⟩ : ∃ x, x = (a : Rat) / b := ⟨_, rfl⟩
  have lo := h.lo
  rw [← ex] at lo
  have x0 : 0 ≤ x := by rw [ex]; exact le_div b0 (by grind)
  have x3 : x ≤ 1 / 3 := by
    rw [ex]
    refine div_le b0 ?_
    have : ((3 * a : Nat) : Rat) ≤ (b : Rat) := nat_le hx
    rw [Rat.natCast_mul] at this
    have e3 : ((3 : Nat) : Rat) = 3 := rfl
    rw [e3] at this
    grind
  have key : ∀ k : Nat, ((8 ^ k : Nat) : Rat) * x ^ (2 * k + 1) ≤ 1 := fun k => by
    induction k with
    | zero =>
      rw [Rat.pow_succ, Rat.pow_zero]
      have : ((8 ^ 0 : Nat) : Rat) = 1 := rfl
      rw [this]; grind
    | succ k ih =>
      have pe : x ^ (2 * (k + 1) + 1) = x ^ (2 * k + 1) * (x * x) := by
        rw [show 2 * (k + 1) + 1 = 2 * k + 1 + 1 + 1 by omega, Rat.pow_succ, Rat.pow_succ]; grind
      have xx : 0 ≤ x * x := Rat.mul_nonneg x0 x0
      have h1 := Rat.mul_le_mul_of_nonneg_left x3 x0
      have h2 := Rat.mul_le_mul_of_nonneg_right x3 (show (0 : Rat) ≤ 1 / 3 by decide +kernel)
      have m := Rat.mul_le_mul_of_nonneg_right ih (show 0 ≤ 8 * (x * x) by grind)
      have e8 : ((8 ^ (k + 1) : Nat) : Rat) = ((8 ^ k : Nat) : Rat) * 8 := by rw [Nat.pow_succ, Rat.natCast_mul]; rfl
      rw [pe, e8]
      have : ((8 ^ k : Nat) : Rat) * 8 * (x ^ (2 * k + 1) * (x * x)) = ((8 ^ k : Nat) : Rat) * x ^ (2 * k + 1) * (8 * (x * x)) := by grind
      rw [this]
      grind
  have p1 : (1 : Rat) ≤ (part : Rat) := nat_le hp
  have pn := pow_nn x0 (2 * k + 1)
  have kk := key k
  have m := Rat.mul_le_mul_of_nonneg_left kk (nat_nn s)
  have e : (s : Rat) * (((8 ^ k : Nat) : Rat) * x ^ (2 * k + 1)) = ((8 ^ k : Nat) : Rat) * (s * x ^ (2 * k + 1)) := by grind
  rw [e] at m
  have m2 := Rat.mul_le_mul_of_nonneg_left (Rat.le_trans p1 lo) (nat_nn (8 ^ k))
  have fin : ((8 ^ k : Nat) : Rat) ≤ (s : Rat) := by grind
  have fin2 : 8 ^ k ≤ s := by exact_mod_cast fin
  rw [hs, show (8 : Nat) = 2 ^ 3 by decide, ← Nat.pow_mul] at fin2
  exact (Nat.pow_le_pow_iff_right (by decide)).mp fin2
/-- the sum law costs nothing -/
theorem A_mul (p s q N : Nat) : A p q N = A p s N + A s q N := by unfold A; grind
theorem A_scale (p q c N : Nat) : A (p * c) (q * c) N = A p q (c * N) := by
  unfold A
  rw [Nat.mul_assoc, Nat.mul_assoc]
theorem A_neg (p q N : Nat) : A q p N = - A p q N := by unfold A; grind
/-- powers of two -/
theorem A_two (q N : Nat) : ∀ k, A (2 ^ k * q) q N = (List.range k).foldl (fun t j => t + A 2 1 (2 ^ j * q * N)) 0
  | 0 => by
    show A (2 ^ 0 * q) q N = 0
    unfold A
    rw [Nat.pow_zero, Nat.one_mul]; grind
  | k + 1 => by
    rw [List.range_succ, List.foldl_append, ← A_two q N k, A_mul (2 ^ (k + 1) * q) (2 ^ k * q) q N]
    show _ = A (2 ^ k * q) q N + A 2 1 (2 ^ k * q * N)
    have : A (2 ^ (k + 1) * q) (2 ^ k * q) N = A 2 1 (2 ^ k * q * N) := by
      unfold A
      congr 2
      · rw [Nat.pow_succ]; grind
      · grind
    rw [this]; grind
end M17

/-! M17n: sums of 1/i as logarithms: nearness, sum laws, spans. -/
namespace M17
def u (N : Nat) : Rat := 1 / (N : Rat)
theorem u_pos {N : Nat} (h : 1 ≤ N) : 0 < u N := by
  unfold u
  have h0 := ge1 h
  rw [Rat.div_def, Rat.one_mul]
  exact Rat.inv_pos.mpr h0
theorem u_le {N M : Nat} (h : 1 ≤ N) (g : N ≤ M) : u M ≤ u N := by
  unfold u
  have h0 := ge1 h
  have h1 := ge1 (Nat.le_trans h g)
  have h2 := nat_le g
  refine div_le h1 ?_
  have : (M : Rat) * (1 / (N : Rat)) = (M : Rat) / (N : Rat) := by grind
  rw [this]
  exact le_div h0 (by grind)
theorem arch (x : Rat) : ∃ N : Nat, 1 ≤ N ∧ x ≤ (N : Rat) := by
  refine ⟨x.ceil.toNat + 1, by omega, ?_⟩
  have h := @Rat.le_ceil x
  have h2 : x.ceil ≤ ((x.ceil.toNat + 1 : Nat) : Int) := by omega
  have h3 : (x.ceil : Rat) ≤ (((x.ceil.toNat + 1 : Nat) : Int) : Rat) := by exact_mod_cast h2
  rw [Rat.intCast_natCast] at h3
  exact Rat.le_trans h h3
/-- what is not more than any small share is not above nought -/
theorem no_share {e C : Rat} (h : ∀ N : Nat, 1 ≤ N → e ≤ C * u N) : e ≤ 0 := Classical.byContradiction fun w => by
  have e0 : 0 < e := Rat.not_le.mp w
  obtain ⟨N, n1, hN⟩ := arch (C / e + 1)
  have h1 := h N n1
  have n0 := ge1 n1
  unfold u at h1
  have h2 := Rat.mul_le_mul_of_nonneg_right h1 (Rat.le_of_lt n0)
  have n9 : (N : Rat) ≠ 0 := by grind
  have e9 : e ≠ 0 := by grind
  have h3 : C * (1 / (N : Rat)) * N = C := by grind
  rw [h3] at h2
  have h4 := Rat.mul_le_mul_of_nonneg_right hN (Rat.le_of_lt e0)
  have h5 : (C / e + 1) * e = C + e := by grind
  grind
theorem pow_small {z : Rat} (h : 0 ≤ z) (g : z ≤ 1) : ∀ n : Nat, z ^ n * (1 + n * (1 - z)) ≤ 1
  | 0 => by
    rw [Rat.pow_zero]
    show 1 * (1 + ((0 : Nat) : Rat) * (1 - z)) ≤ 1
    rw [show ((0 : Nat) : Rat) = 0 from rfl]; grind
  | n + 1 => by
    have ih := pow_small h g n
    have zn := pow_nn h n
    have n0 := nat_nn n
    have key : z * (1 + ((n + 1 : Nat) : Rat) * (1 - z)) ≤ 1 + n * (1 - z) := by
      rw [nat_succ]
      have d0 : 0 ≤ 1 - z := by grind
      have h1 := Rat.mul_nonneg (Rat.mul_nonneg d0 d0) n0
      have h2 := Rat.mul_nonneg d0 d0
      grind
    have := Rat.mul_le_mul_of_nonneg_left key zn
    rw [Rat.pow_succ]
    grind
theorem lim0 {z a b d : Rat} (h : 0 ≤ z) (g : z < 1) (hd : 0 ≤ d) (k : ∀ K : Nat, a ≤ b + z ^ K * d) : a ≤ b := by
  have p : 0 < 1 - z := by grind
  have := @no_share (a - b) (d / (1 - z)) fun N n1 => by
    have h1 := k N
    have h2 := pow_small h (Rat.le_of_lt g) N
    have n0 := ge1 n1
    have h3 : z ^ N ≤ 1 / (1 - z) * u N := by
      unfold u
      have e : 1 / (1 - z) * (1 / (N : Rat)) = 1 / ((1 - z) * N) := by grind
      rw [e]
      refine le_div (Rat.mul_pos p n0) ?_
      have := pow_nn h N
      grind
    have h4 := Rat.mul_le_mul_of_nonneg_right h3 hd
    grind
  grind
/-- near: no further apart than some share -/
def Nr (f g : Nat → Rat) : Prop := ∃ C : Rat, 0 ≤ C ∧ ∀ N, 1 ≤ N → f N - g N ≤ C * u N ∧ g N - f N ≤ C * u N
theorem Nr.refl (f : Nat → Rat) : Nr f f := ⟨0, Rat.le_refl, fun N h => by constructor <;> grind⟩
theorem Nr.of_eq {f g : Nat → Rat} (h : ∀ N, f N = g N) : Nr f g := ⟨0, Rat.le_refl, fun N _ => by rw [h N]; constructor <;> grind⟩
theorem Nr.symm {f g : Nat → Rat} : Nr f g → Nr g f := fun ⟨C, c, h⟩ => ⟨C, c, fun N n => ⟨(h N n).2, (h N n).1⟩⟩
theorem Nr.trans {f g k : Nat → Rat} : Nr f g → Nr g k → Nr f k := fun ⟨C, c, h⟩ ⟨D, d, h2⟩ => ⟨C + D, by grind, fun N n => by
  have := h N n
  have := h2 N n
  constructor <;> grind⟩
theorem Nr.add {f g f' g' : Nat → Rat} : Nr f g → Nr f' g' → Nr (fun N => f N + f' N) (fun N => g N + g' N) := fun ⟨C, c, h⟩ ⟨D, d, h2⟩ => ⟨C + D, by grind, fun N n => by
  have := h N n
  have := h2 N n
  constructor <;> grind⟩
theorem Nr.neg {f g : Nat → Rat} : Nr f g → Nr (fun N => - f N) (fun N => - g N) := fun ⟨C, c, h⟩ => ⟨C, c, fun N n => by
  have := h N n
  constructor <;> grind⟩
theorem Nr.smulp {f g : Nat → Rat} {a : Rat} (ha : 0 ≤ a) : Nr f g → Nr (fun N => a * f N) (fun N => a * g N) := fun ⟨C, c, h⟩ => ⟨a * C, Rat.mul_nonneg ha c, fun N n => by
  have h1 := Rat.mul_le_mul_of_nonneg_left (h N n).1 ha
  have h2 := Rat.mul_le_mul_of_nonneg_left (h N n).2 ha
  constructor <;> grind⟩
theorem Nr.smul {f g : Nat → Rat} (a : Rat) (h : Nr f g) : Nr (fun N => a * f N) (fun N => a * g N) := by
  by_cases ha : 0 ≤ a
  · exact h.smulp ha
  · have := (h.smulp (a := -a) (by grind)).neg
    refine (Nr.of_eq fun N => ?_).trans (this.trans (Nr.of_eq fun N => ?_))
    · show a * f N = - (- a * f N); grind
    · show - (- a * g N) = a * g N; grind
/-- held between two numbers, up to some share -/
def Ho (lo hi : Rat) (f : Nat → Rat) : Prop := ∃ C : Rat, 0 ≤ C ∧ ∀ N, 1 ≤ N → lo ≤ f N + C * u N ∧ f N ≤ hi + C * u N
theorem Ho.near {lo hi : Rat} {f g : Nat → Rat} : Ho lo hi f → Nr f g → Ho lo hi g := fun ⟨C, c, h⟩ ⟨D, d, h2⟩ => ⟨C + D, by grind, fun N n => by
  have := h N n
  have := h2 N n
  constructor <;> grind⟩
theorem Ho.add {lo hi lo' hi' : Rat} {f g : Nat → Rat} : Ho lo hi f → Ho lo' hi' g → Ho (lo + lo') (hi + hi') (fun N => f N + g N) := fun ⟨C, c, h⟩ ⟨D, d, h2⟩ => ⟨C + D, by grind, fun N n => by
  have := h N n
  have := h2 N n
  constructor <;> grind⟩
theorem Ho.const (q : Rat) : Ho q q (fun _ => q) := ⟨0, Rat.le_refl, fun N _ => by constructor <;> grind⟩
theorem Ho.pos {lo hi a : Rat} {f : Nat → Rat} (ha : 0 ≤ a) : Ho lo hi f → Ho (lo * a) (hi * a) (fun N => a * f N) := fun ⟨C, c, h⟩ => ⟨a * C, Rat.mul_nonneg ha c, fun N n => by
  have h1 := Rat.mul_le_mul_of_nonneg_left (h N n).1 ha
  have h2 := Rat.mul_le_mul_of_nonneg_left (h N n).2 ha
  constructor <;> grind⟩
theorem Ho.neg {lo hi a : Rat} {f : Nat → Rat} (ha : a ≤ 0) : Ho lo hi f → Ho (hi * a) (lo * a) (fun N => a * f N) := fun ⟨C, c, h⟩ => ⟨-a * C, Rat.mul_nonneg (by grind) c, fun N n => by
  have h1 := Rat.mul_le_mul_of_nonneg_left (h N n).1 (show 0 ≤ -a by grind)
  have h2 := Rat.mul_le_mul_of_nonneg_left (h N n).2 (show 0 ≤ -a by grind)
  constructor <;> grind⟩
theorem Ho.mono {lo hi lo' hi' : Rat} {f : Nat → Rat} (h1 : lo' ≤ lo) (h2 : hi ≤ hi') : Ho lo hi f → Ho lo' hi' f := fun ⟨C, c, h⟩ => ⟨C, c, fun N n => by
  have := h N n
  constructor <;> grind⟩
theorem Ho.meet {lo hi lo' hi' : Rat} {f : Nat → Rat} : Ho lo hi f → Ho lo' hi' f → lo ≤ hi' := fun ⟨C, c, h⟩ ⟨D, d, h2⟩ => by
  have := @no_share (lo - hi') (C + D) fun N n => by
    have := h N n
    have := h2 N n
    grind
  grind
theorem shift1 {p q c : Nat} (hq : 1 ≤ q) (hp : q ≤ p) (hc : 1 ≤ c) {N : Nat} (hN : 1 ≤ N) : A p q N - A p q (c * N) ≤ u N ∧ A p q (c * N) - A p q N ≤ u N := by
  have hM : 1 ≤ c * N := Nat.mul_pos hc hN
  have q0 := ge1 hq
  have pq := nat_le hp
  have s0 : (0 : Rat) < (p : Rat) + q := by grind
  have z0 : (0 : Rat) ≤ ((p : Rat) - q) / ((p : Rat) + q) := le_div s0 (by grind)
  have z1 : ((p : Rat) - q) / ((p : Rat) + q) < 1 := by
    rw [Rat.div_lt_iff s0]; grind
  have B0 : (0 : Rat) ≤ ((p : Rat) - q) / (q : Rat) := le_div q0 (by grind)
  have zz0 := Rat.mul_nonneg z0 z0
  have zz1 : ((p : Rat) - q) / ((p : Rat) + q) * (((p : Rat) - q) / ((p : Rat) + q)) < 1 := by
    have := Rat.mul_le_mul_of_nonneg_left (Rat.le_of_lt z1) z0
    grind
  have sq : ∀ K : Nat, (((p : Rat) - q) / ((p : Rat) + q)) ^ (2 * K) = (((p : Rat) - q) / ((p : Rat) + q) * (((p : Rat) - q) / ((p : Rat) + q))) ^ K := by
    intro K
    induction K with
    | zero => rw [Nat.mul_zero, Rat.pow_zero, Rat.pow_zero]
    | succ K ih => rw [show 2 * (K + 1) = 2 * K + 1 + 1 by omega, Rat.pow_succ, Rat.pow_succ, Rat.pow_succ, ih]; grind
  have uq : ∀ M : Nat, 1 ≤ M → 1 / ((q * M : Nat) : Rat) ≤ u M := fun M m => by
    have := u_le m (show M ≤ q * M from Nat.le_mul_of_pos_left M hq)
    exact this
  have one : ∀ M M' : Nat, 1 ≤ M → 1 ≤ M' → A p q M - A p q M' ≤ u M' := fun M M' m m' => by
    refine lim0 zz0 zz1 B0 fun K => ?_
    obtain ⟨a1, a2, a3, a4⟩ := A_F hq hp m K
    obtain ⟨b1, b2, b3, b4⟩ := A_F hq hp m' K
    rw [sq K] at a2
    have zk := pow_nn zz0 K
    have h5 := Rat.mul_le_mul_of_nonneg_left a4 zk
    have h6 := uq M' m'
    grind
  have l := u_le hN (show N ≤ c * N from Nat.le_mul_of_pos_left N hc)
  have h1 := one N (c * N) hN hM
  have h2 := one (c * N) N hM hN
  constructor <;> grind
theorem nr_shift {p q c : Nat} (hq : 1 ≤ q) (hp : 1 ≤ p) (hc : 1 ≤ c) : Nr (A p q) (fun N => A p q (c * N)) := by
  refine ⟨1, by decide, fun N n => ?_⟩
  by_cases h : q ≤ p
  · have := shift1 hq h hc n
    grind
  · have := shift1 hp (show p ≤ q by omega) hc n
    rw [A_neg p q N, A_neg p q (c * N)] at this
    constructor <;> grind
theorem nr_mul {p q p' q' : Nat} (hp : 1 ≤ p) (hq : 1 ≤ q) (hp' : 1 ≤ p') (hq' : 1 ≤ q') : Nr (A (p * p') (q * q')) (fun N => A p q N + A p' q' N) := by
  refine (Nr.of_eq fun N => ?_).trans ((nr_shift hq hp hp').symm.add (nr_shift hq' hp' hq).symm)
  rw [A_mul (p * p') (q * p') (q * q') N, A_scale p q p' N]
  rw [show A (q * p') (q * q') N = A p' q' (q * N) by rw [Nat.mul_comm q p', Nat.mul_comm q q', A_scale]]
theorem nr_cross {p q p' q' : Nat} (hp : 1 ≤ p) (hq : 1 ≤ q) (hp' : 1 ≤ p') (hq' : 1 ≤ q') (h : p * q' = p' * q) : Nr (A p q) (A p' q') := by
  refine (nr_shift hq hp hq').trans ((Nr.of_eq fun N => ?_).trans (nr_shift hq' hp' hq).symm)
  rw [← A_scale p q q' N, ← A_scale p' q' q N, h, Nat.mul_comm q q']
theorem nr_self (p : Nat) : Nr (A p p) (fun _ => 0) := Nr.of_eq fun N => by unfold A; grind
theorem nr_neg (p q : Nat) : Nr (A q p) (fun N => - A p q N) := Nr.of_eq fun N => A_neg p q N
theorem nr_pow {p q : Nat} (hp : 1 ≤ p) (hq : 1 ≤ q) : ∀ k : Nat, Nr (A (p ^ k) (q ^ k)) (fun N => (k : Rat) * A p q N)
  | 0 => (nr_self 1).trans (Nr.of_eq fun N => by
    show (0 : Rat) = ((0 : Nat) : Rat) * _
    rw [show ((0 : Nat) : Rat) = 0 from rfl]; grind)
  | k + 1 => by
    have ih := nr_pow hp hq k
    have h := nr_mul (Nat.pow_pos (n := k) hp) (Nat.pow_pos (n := k) hq) hp hq
    rw [← Nat.pow_succ, ← Nat.pow_succ] at h
    refine h.trans ((ih.add (Nr.refl _)).trans (Nr.of_eq fun N => ?_))
    show (k : Rat) * A p q N + A p q N = ((k + 1 : Nat) : Rat) * A p q N
    rw [nat_succ]; grind
/-- p / q times two to the k -/
theorem nr_halved {t b p q : Nat} {k : Int} (ht : 1 ≤ t) (hb : 1 ≤ b) (hp : 1 ≤ p) (hq : 1 ≤ q) (h : t * q * 2 ^ (-k).toNat = b * p * 2 ^ k.toNat) : Nr (A t b) (fun N => A p q N + (k : Rat) * A 2 1 N) := by
  have pa : 1 ≤ 2 ^ (-k).toNat := Nat.pow_pos (by decide)
  have pb : 1 ≤ 2 ^ k.toNat := Nat.pow_pos (by decide)
  have h1 := nr_cross ht hb (Nat.mul_pos hp pb) (Nat.mul_pos hq pa) (by rw [← Nat.mul_assoc, h, Nat.mul_assoc, Nat.mul_comm])
  have h2 := nr_mul hp hq pb pa
  have h3 : Nr (A (2 ^ k.toNat) (2 ^ (-k).toNat)) (fun N => (k : Rat) * A 2 1 N) := by
    by_cases w : 0 ≤ k
    · have e : (-k).toNat = 0 := by omega
      have e2 : ((k.toNat : Nat) : Rat) = (k : Rat) := by
        have : ((k.toNat : Nat) : Int) = k := by omega
        rw [← Rat.intCast_natCast, this]
      have := nr_pow (show 1 ≤ 2 by decide) (show 1 ≤ 1 by decide) k.toNat
      rw [e2] at this
      rw [e]; simpa using this
    · have e : k.toNat = 0 := by omega
      have e2 : (((-k).toNat : Nat) : Rat) = -(k : Rat) := by
        have : (((-k).toNat : Nat) : Int) = -k := by omega
        rw [← Rat.intCast_natCast, this, Rat.intCast_neg]
      have := nr_pow (show 1 ≤ 2 by decide) (show 1 ≤ 1 by decide) (-k).toNat
      rw [e2] at this
      rw [e]
      refine (nr_neg (2 ^ (-k).toNat) 1).trans ?_
      have t2 : Nr (A (2 ^ (-k).toNat) 1) (fun N => -(k : Rat) * A 2 1 N) := by simpa using this
      refine t2.neg.trans (Nr.of_eq fun N => ?_)
      show -(-(k : Rat) * A 2 1 N) = (k : Rat) * A 2 1 N
      grind
  exact h1.trans (h2.trans ((Nr.refl _).add h3))
end M17

/-! M17: logarithms held between two numbers. -/
namespace M17
open PySem PySem.Spec L2 VL M1 M2 M3 M14
abbrev f_scale_for : Nat := 80
abbrev f_row_held : Nat := 81
abbrev f_doubled : Nat := 82
abbrev f_halved : Nat := 83
abbrev f_stretched : Nat := 84
abbrev f_log_held : Nat := 85
abbrev f_held : Nat := 86
abbrev f_sign_of : Nat := 87
/-- scale_for: 0 width, 1 scale, 2 bits -/
def b_scale_for : Ss := ss [.asg 1 (.int 256),
  .asg 2 (.int 8),
  .whl (.cmp .gt (.bin .mul (.bin .mul (.int 2) (.bin .add (.var 2) (.int 8))) (.ix (.var 0) (.int 1))) (.bin .mul (.ix (.var 0) (.int 0)) (.var 1))) (ss [.asg 1 (.bin .mul (.var 1) (.int 256)),
  .aug 2 .add (.int 8)]),
  .ret (.var 1)]
/-- row_held: 0 z, 1 width, 2 scale, 3 part, 4 total, 5 many -/
def b_row_held : Ss := ss [.asg 2 (.call f_scale_for (.cons (.var 1) .nil)),
  .asg 3 (.bin .fdiv (.bin .mul (.var 2) (.ix (.var 0) (.int 0))) (.ix (.var 0) (.int 1))),
  .asg 4 (.int 0),
  .asg 5 (.int 0),
  .whl (.cmp .gt (.var 3) (.int 0)) (ss [.aug 4 .add (.bin .fdiv (.var 3) (.bin .add (.bin .mul (.int 2) (.var 5)) (.int 1))),
  .asg 3 (.bin .fdiv (.bin .mul (.bin .mul (.var 3) (.ix (.var 0) (.int 0))) (.ix (.var 0) (.int 0))) (.bin .mul (.ix (.var 0) (.int 1)) (.ix (.var 0) (.int 1)))),
  .aug 5 .add (.int 1)]),
  .ret (.tup (.cons (.call f_ratio (.cons (.bin .mul (.int 2) (.var 4)) (.cons (.var 2) .nil))) (.cons (.call f_ratio (.cons (.bin .mul (.int 2) (.bin .add (.bin .add (.var 4) (.bin .mul (.int 3) (.var 5))) (.int 2))) (.cons (.var 2) .nil))) .nil)))]
/-- doubled: 0 many, 1 whole, 2 turn -/
def b_doubled : Ss := ss [.asg 1 (.int 1),
  .for (.nm 2) (.rng1 (.var 0)) (ss [.asg 1 (.bin .mul (.int 2) (.var 1))]),
  .ret (.var 1)]
/-- halved: 0 r, 1 top, 2 bottom, 3 k -/
def b_halved : Ss := ss [.asgT [1, 2] (.var 0),
  .asg 3 (.bin .sub (.bits (.var 1)) (.bits (.var 2))),
  .ite (.cmp .ge (.var 3) (.int 0)) (ss [.asg 2 (.bin .mul (.var 2) (.call f_doubled (.cons (.var 3) .nil)))]) (ss [.asg 1 (.bin .mul (.var 1) (.call f_doubled (.cons (.neg (.var 3)) .nil)))]),
  .ite (.cmp .lt (.var 1) (.var 2)) (ss [.ret (.tup (.cons (.call f_ratio (.cons (.bin .mul (.int 2) (.var 1)) (.cons (.var 2) .nil))) (.cons (.bin .sub (.var 3) (.int 1)) .nil)))]) (ss []),
  .ret (.tup (.cons (.call f_ratio (.cons (.var 1) (.cons (.var 2) .nil))) (.cons (.var 3) .nil)))]
/-- stretched: 0 span, 1 c, 2 low, 3 high -/
def b_stretched : Ss := ss [.par [2, 3] (.cons (.call f_times (.cons (.ix (.var 0) (.int 0)) (.cons (.var 1) .nil))) (.cons (.call f_times (.cons (.ix (.var 0) (.int 1)) (.cons (.var 1) .nil))) .nil)),
  .ite (.tru (.call f_before (.cons (.var 3) (.cons (.var 2) .nil)))) (ss [.ret (.tup (.cons (.var 3) (.cons (.var 2) .nil)))]) (ss []),
  .ret (.tup (.cons (.var 2) (.cons (.var 3) .nil)))]
/-- log_held: 0 r, 1 width, 2 m, 3 k, 4 one, 5 own, 6 two -/
def b_log_held : Ss := ss [.asgT [2, 3] (.call f_halved (.cons (.var 0) .nil)),
  .asg 4 (.tup (.cons (.int 1) (.cons (.int 1) .nil))),
  .asg 5 (.call f_row_held (.cons (.call f_over (.cons (.call f_minus (.cons (.var 2) (.cons (.var 4) .nil))) (.cons (.call f_plus (.cons (.var 2) (.cons (.var 4) .nil))) .nil))) (.cons (.call f_times (.cons (.var 1) (.cons (.tup (.cons (.int 1) (.cons (.int 2) .nil))) .nil))) .nil))),
  .asg 6 (.call f_stretched (.cons (.call f_row_held (.cons (.tup (.cons (.int 1) (.cons (.int 3) .nil))) (.cons (.call f_over (.cons (.var 1) (.cons (.tup (.cons (.bin .mul (.int 2) (.bin .add (.blt .abs (.cons (.var 3) .nil)) (.int 1))) (.cons (.int 1) .nil))) .nil))) .nil))) (.cons (.tup (.cons (.var 3) (.cons (.int 1) .nil))) .nil))),
  .ret (.tup (.cons (.call f_plus (.cons (.ix (.var 5) (.int 0)) (.cons (.ix (.var 6) (.int 0)) .nil))) (.cons (.call f_plus (.cons (.ix (.var 5) (.int 1)) (.cons (.ix (.var 6) (.int 1)) .nil))) .nil)))]
/-- held: 0 one, 1 width, 2 low, 3 high, 4 c, 5 r, 6 size, 7 span -/
def b_held : Ss := ss [.par [2, 3] (.cons (.ix (.var 0) (.int 0)) (.cons (.ix (.var 0) (.int 0)) .nil)),
  .for (.tp [4, 5]) (.seq (.ix (.var 0) (.int 1))) (ss [.asg 6 (.call f_ratio (.cons (.blt .abs (.cons (.ix (.var 4) (.int 0)) .nil)) (.cons (.ix (.var 4) (.int 1)) .nil))),
  .asg 7 (.call f_log_held (.cons (.var 5) (.cons (.call f_over (.cons (.var 1) (.cons (.call f_times (.cons (.var 6) (.cons (.tup (.cons (.blt .len (.cons (.ix (.var 0) (.int 1)) .nil)) (.cons (.int 1) .nil))) .nil))) .nil))) .nil))),
  .asg 7 (.call f_stretched (.cons (.var 7) (.cons (.var 4) .nil))),
  .par [2, 3] (.cons (.call f_plus (.cons (.var 2) (.cons (.ix (.var 7) (.int 0)) .nil))) (.cons (.call f_plus (.cons (.var 3) (.cons (.ix (.var 7) (.int 1)) .nil))) .nil))]),
  .ret (.tup (.cons (.var 2) (.cons (.var 3) .nil)))]
/-- sign_of: 0 one, 1 width, 2 low, 3 high -/
def b_sign_of : Ss := ss [.asg 0 (.call f_settled_number (.cons (.ix (.var 0) (.int 0)) (.cons (.blt .list (.cons (.ix (.var 0) (.int 1)) .nil)) .nil))),
  .asg 1 (.tup (.cons (.int 1) (.cons (.int 1) .nil))),
  .asgT [2, 3] (.call f_held (.cons (.var 0) (.cons (.var 1) .nil))),
  .whl (.or (.chain .lt .lt (.ix (.var 2) (.int 0)) (.int 0) (.ix (.var 3) (.int 0))) (.and (.cmp .eq (.bin .mul (.ix (.var 2) (.int 0)) (.ix (.var 3) (.int 0))) (.int 0)) (.cmp .ne (.var 2) (.var 3)))) (ss [.asg 1 (.call f_over (.cons (.var 1) (.cons (.tup (.cons (.int 256) (.cons (.int 1) .nil))) .nil))),
  .asgT [2, 3] (.call f_held (.cons (.var 0) (.cons (.var 1) .nil)))]),
  .ret (.bin .sub (.blt .int (.cons (.cmp .gt (.ix (.var 2) (.int 0)) (.int 0)) .nil)) (.blt .int (.cons (.cmp .lt (.ix (.var 3) (.int 0)) (.int 0)) .nil)))]
/-- 2^(8j), fine enough for the width -/
def vScaleFor : VF := ⟨.read, fun ds q => ∃ (w : Rat) (s : Nat), ds = [dR w] ∧ 0 < w.num ∧ RB' s w ∧ s ≤ 10000 ∧ ∀ j : Nat, 8 * j ≤ s + 40 → (2 * (8 * j + 8) : Int) * w.den ≤ w.num * 2 ^ (8 * j) → q (.val (.int (2 ^ (8 * j)))) none⟩
/-- a row: the logarithm of p / q between two numbers, by x = (p - q) / (p + q) -/
def vRowHeld : VF := ⟨.read, fun ds r => ∃ (p q : Nat) (x w : Rat) (s : Nat), ds = [dR x, dR w] ∧ 1 ≤ q ∧ q ≤ p ∧ p ≤ 2 * q ∧ x = ((p - q : Nat) : Rat) / ((p + q : Nat) : Rat) ∧ RB' s x ∧ 0 < w.num ∧ RB' s w ∧ s ≤ 10000 ∧ ∀ lo hi : Rat, (∀ N, 1 ≤ N → lo ≤ A p q N + 1 / (N : Rat) ∧ A p q N ≤ hi) → lo ≤ hi → hi - lo ≤ w → RB' (s + 100) lo → RB' (s + 100) hi → r (.val (.tup [dR lo, dR hi])) none⟩
def vDoubled : VF := ⟨.read, fun ds q => ∃ k : Nat, ds = [.int k] ∧ k ≤ 100000 ∧ q (.val (.int (2 ^ k))) none⟩
def vStretched : VF := ⟨.read, fun ds q => ∃ lo hi c : Rat, ds = [.tup [dR lo, dR hi], dR c] ∧ lo ≤ hi ∧ Sz lo ∧ Sz hi ∧ Sz c ∧ Sz (lo * c) ∧ Sz (hi * c) ∧ ∀ l h : Rat, (0 ≤ c → l = lo * c ∧ h = hi * c) → (c ≤ 0 → l = hi * c ∧ h = lo * c) → q (.val (.tup [dR l, dR h])) none⟩
def vHalved : VF := ⟨.read, fun ds r => ∃ t b s : Nat, ds = [.tup [.int t, .int b]] ∧ 1 ≤ t ∧ 1 ≤ b ∧ t < 2 ^ s ∧ b < 2 ^ s ∧ s ≤ 10000 ∧ ∀ (p q d : Nat) (k : Int), 1 ≤ q → q ≤ p → p ≤ 2 * q → p < 2 ^ (2 * s + 2) → q < 2 ^ (2 * s + 2) → k.natAbs ≤ s + 1 → (t : Int) * q * 2 ^ (-k).toNat = b * p * 2 ^ k.toNat → r (.val (.tup [dR (Rat.divInt p q), .int k])) none⟩
def vLogHeld : VF := ⟨.read, fun ds r => ∃ (t b : Nat) (w : Rat) (s : Nat), ds = [.tup [.int t, .int b], dR w] ∧ 1 ≤ t ∧ 1 ≤ b ∧ t < 2 ^ s ∧ b < 2 ^ s ∧ 0 < w.num ∧ RB' s w ∧ s ≤ 2000 ∧ ∀ lo hi : Rat, Ho lo hi (A t b) → lo ≤ hi → hi - lo ≤ w → RB' (8 * s + 1000) lo → RB' (8 * s + 1000) hi → r (.val (.tup [dR lo, dR hi])) none⟩
/-- a row: c times the logarithm of top over bottom -/
abbrev Lr := Rat × Nat × Nat
def dCR (x : Lr) : VL.D := .tup [dR x.1, .tup [.int (x.2.1 : Nat), .int (x.2.2 : Nat)]]
/-- the worth of rows, up to some share -/
def lsum : List Lr → Nat → Rat
  | [], _ => 0
  | x :: l, N => x.1 * A x.2.1 x.2.2 N + lsum l N
structure Rok (s : Nat) (l : List Lr) : Prop where
  c0 : ∀ x, x ∈ l → x.1.num ≠ 0
  cs : ∀ x, x ∈ l → RB' s x.1
  ts : ∀ x, x ∈ l → 1 ≤ x.2.1 ∧ x.2.1 < 2 ^ s
  bs : ∀ x, x ∈ l → 1 ≤ x.2.2 ∧ x.2.2 < 2 ^ s
  ln : l.length ≤ 4000
def vHeld : VF := ⟨.read, fun ds r => ∃ (q w : Rat) (l : List Lr) (s : Nat), ds = [.tup [dR q, .tup (l.map dCR)], dR w] ∧ Rok s l ∧ RB' s q ∧ 0 < w.num ∧ RB' s w ∧ s ≤ 600 ∧ ∀ lo hi : Rat, Ho lo hi (fun N => q + lsum l N) → lo ≤ hi → hi - lo ≤ w → RB' 50000000 lo → RB' 50000000 hi → (l = [] → lo = q ∧ hi = q) → r (.val (.tup [dR lo, dR hi])) none⟩
noncomputable def G17 (L : Nat → VF) : Nat → VF
  | 0 => vScaleFor
  | 1 => vRowHeld
  | 2 => vDoubled
  | 3 => vHalved
  | 4 => vStretched
  | 5 => vLogHeld
  | 6 => vHeld
  | 7 => vStub
  | 8 => vStub
  | 9 => vStub
  | n + 10 => L n
variable {L : Nat → VF}
noncomputable abbrev Gv (L : Nat → VF) : Nat → VF := G1 (G2 (G3 (G14 (G17 L))))
theorem bd_mul {p q : Nat} {i j : Int} (h : i.natAbs < 2 ^ p) (g : j.natAbs < 2 ^ q) : (i * j).natAbs < 2 ^ (p + q) := by
  rw [Int.natAbs_mul, Nat.pow_add]
  rcases Nat.eq_zero_or_pos j.natAbs with z | z
  · rw [z, Nat.mul_zero]
    exact Nat.mul_pos (Nat.pow_pos (by decide)) (Nat.pow_pos (by decide))
  · exact Nat.mul_lt_mul_of_lt_of_le h (Nat.le_of_lt g) (by omega)
theorem bd_add {p : Nat} {i j : Int} (h : i.natAbs < 2 ^ p) (g : j.natAbs < 2 ^ p) : (i + j).natAbs < 2 ^ (p + 1) := by
  have := Int.natAbs_add_le i j
  rw [Nat.pow_succ]; omega
theorem bd_pow {p : Nat} {i : Int} (h : i.natAbs < 2 ^ p) : ∀ n : Nat, (i ^ n).natAbs < 2 ^ (n * p + 1)
  | 0 => by rw [Int.pow_zero, Nat.zero_mul]; decide
  | n + 1 => by
    rw [Int.pow_succ]
    have := bd_mul (bd_pow h n) h
    rwa [show n * p + 1 + p = (n + 1) * p + 1 by rw [Nat.add_mul]; omega] at this
theorem bd_up {p : Nat} {i : Int} (h : i.natAbs < 2 ^ p) (g : p ≤ 1000000) : i.natAbs < 2 ^ szN := Nat.lt_of_lt_of_le h (Nat.pow_le_pow_right (by decide) (by unfold szN; omega))
theorem mul_sz {p q : Nat} {i j : Int} (h : i.natAbs < 2 ^ p) (g : j.natAbs < 2 ^ q) (hp : p ≤ 1000000) (hq : q ≤ 1000000) : MulOk i j := sz_mul (bd_up h hp) (bd_up g hq)

theorem pow_big (s : Nat) (hs : s ≤ 10000) : ∀ t : Nat, 2 * (s + (20 + t) + 8) ≤ 2 ^ (20 + t)
  | 0 => by
    have : (2 : Nat) ^ 20 = 1048576 := by decide
    show 2 * (s + 20 + 8) ≤ 2 ^ 20
    omega
  | t + 1 => by
    have ih := pow_big s hs t
    rw [show 20 + (t + 1) = 20 + t + 1 by omega, Nat.pow_succ]
    omega
theorem pw2 (j : Nat) : ((2 : Int) ^ j).natAbs < 2 ^ (j + 1) := by
  rw [Int.natAbs_pow]
  show 2 ^ j < 2 ^ (j + 1)
  rw [Nat.pow_succ]
  have := Nat.pow_pos (n := j) (show 0 < 2 by decide)
  omega
theorem good_scale_for : Good (Gv L) b_scale_for 1 2 vScaleFor := by
  rintro ds q ⟨w, s, rfl, w0, hw, hs, hq⟩ -
  have e256 : (256 : Int) = 2 ^ 8 := by decide
  refine ⟨fun m ρ => ∃ j : Nat, ρ = [.val (dR w), .val (.int (2 ^ (8 * j))), .val (.int (8 * j : Nat))] ∧ m + 8 * j = s + 40 + 8 ∧ 8 * j ≤ s + 40, ⟨s + 40, 1, rfl, by omega, by omega⟩, ?_⟩
  rintro m _ ⟨j, rfl, hm, hj⟩
  have dn : ((w.den : Int)).natAbs < 2 ^ s := by rw [Int.natAbs_natCast]; exact hw.2
  have l1 : (2 : Int).natAbs < 2 ^ 10 := by decide
  have l2 : (((8 * j : Nat) : Int) + 8).natAbs < 2 ^ 20 := by
    have : (2 : Nat) ^ 20 = 1048576 := by decide
    omega
  have l3 := bd_mul l1 l2
  refine ⟨mul_sz l1 l2 (by decide) (by decide), _, rfl, mul_sz l3 dn (by decide) (by omega), _, rfl, mul_sz hw.1 (pw2 (8 * j)) (by omega) (by omega), fun t => ?_, fun t => ?_⟩
  · have t := of_decide_eq_true t
    have j8 : 8 * (j + 1) ≤ s + 40 := Classical.byContradiction fun w2 => by
      obtain ⟨u, eu⟩ : ∃ u, 8 * j = s + (20 + u) := ⟨8 * j - s - 20, by omega⟩
      have h1 := pow_big s hs u
      rw [show s + (20 + u) + 8 = 8 * j + 8 by omega] at h1
      have d2 : w.den ≤ 2 ^ s := Nat.le_of_lt hw.2
      have h2 := Nat.mul_le_mul h1 d2
      rw [← Nat.pow_add, show 20 + u + s = 8 * j by omega] at h2
      have h3 : (1 : Int) * 2 ^ (8 * j) ≤ w.num * 2 ^ (8 * j) := Int.mul_le_mul_of_nonneg_right (by omega) (Int.pow_nonneg (by decide))
      have h4 : ((2 * (8 * j + 8) * w.den : Nat) : Int) ≤ ((2 ^ (8 * j) : Nat) : Int) := by exact_mod_cast h2
      have e4 : ((2 * (8 * j + 8) * w.den : Nat) : Int) = 2 * (((8 * j : Nat) : Int) + 8) * (w.den : Int) := by
        rw [Int.natCast_mul, Int.natCast_mul, Int.natCast_add]; rfl
      have e5 : ((2 ^ (8 * j) : Nat) : Int) = 2 ^ (8 * j) := by rw [Int.natCast_pow]; rfl
      rw [e4, e5] at h4
      omega
    refine ⟨mul_sz (pw2 (8 * j)) (show (256 : Int).natAbs < 2 ^ 10 by decide) (by omega) (by decide), _, rfl, m - 8, by omega, j + 1, ?_, by omega, j8⟩
    have e1 : (2 : Int) ^ (8 * j) * 256 = 2 ^ (8 * (j + 1)) := by rw [show 8 * (j + 1) = 8 * j + 8 by omega, Int.pow_add]; rfl
    have e2 : ((8 * j : Nat) : Int) + 8 = ((8 * (j + 1) : Nat) : Int) := by omega
    show [Sl.val (dR w), .val (.int (2 ^ (8 * j) * 256)), .val (.int (((8 * j : Nat) : Int) + 8))] = _
    rw [e1, e2]
  · have t := of_decide_eq_false t
    refine hq j hj ?_
    have e : ((8 * j : Nat) : Int) = 8 * (j : Int) := by omega
    rw [e] at t
    omega
theorem den_mul (c : Rat) : (c.den : Rat) * c = c.num := by
  have h := Rat.num_divInt_den c
  rw [Rat.divInt_eq_div, Rat.intCast_natCast] at h
  have d : (c.den : Rat) ≠ 0 := fun z => c.den_nz (by exact_mod_cast z)
  have : (c.den : Rat) * ((c.num : Rat) / (c.den : Rat)) = c.num := by grind
  rw [h] at this
  exact this
theorem frac3 {p q : Nat} {x : Rat} (hq : 1 ≤ q) (hp : q ≤ p) (h2 : p ≤ 2 * q) (ex : x = ((p - q : Nat) : Rat) / ((p + q : Nat) : Rat)) : ∃ a : Nat, x.num = a ∧ x = (a : Rat) / (x.den : Rat) ∧ 3 * a ≤ x.den := by
  have pq0 := ge1 (show 1 ≤ p + q by omega)
  have x0 : 0 ≤ x := by rw [ex]; exact le_div pq0 (by have := nat_nn (p - q); grind)
  have n0 : 0 ≤ x.num := Rat.num_nonneg.mpr x0
  obtain ⟨a, ea⟩ : ∃ a : Nat, x.num = a := ⟨x.num.toNat, by omega⟩
  have d0 := ge1 (show 1 ≤ x.den from x.den_pos)
  have e1 : x * (x.den : Rat) = (a : Rat) := by
    have h := den_mul x
    rw [ea, Rat.intCast_natCast] at h
    rw [Rat.mul_comm]; exact h
  have e2 : x = (a : Rat) / (x.den : Rat) := by
    have : (x.den : Rat) ≠ 0 := by grind
    grind
  refine ⟨a, ea, e2, ?_⟩
  have x3 : x ≤ 1 / 3 := by
    rw [ex]
    refine div_le pq0 ?_
    have h3 : ((3 * (p - q) : Nat) : Rat) ≤ ((p + q : Nat) : Rat) := nat_le (by omega)
    rw [Rat.natCast_mul] at h3
    have e3 : ((3 : Nat) : Rat) = 3 := rfl
    rw [e3] at h3
    grind
  have h4 := Rat.mul_le_mul_of_nonneg_right x3 (Rat.le_of_lt d0)
  rw [e1] at h4
  have h5 : ((3 * a : Nat) : Rat) ≤ (x.den : Rat) := by
    rw [Rat.natCast_mul]
    have e3 : ((3 : Nat) : Rat) = 3 := rfl
    rw [e3]
    grind
  exact_mod_cast h5
theorem good_row_held : Good (Gv L) b_row_held 2 4 vRowHeld := by
  rintro ds r ⟨p, q, x, w, s, rfl, hq1, hp, h2, ex, hx, w0, hw, hs, hr⟩ -
  obtain ⟨a, ea, exa, a3⟩ := frac3 hq1 hp h2 ex
  have b1 : 1 ≤ x.den := x.den_pos
  have nb : ((x.den : Int)).natAbs < 2 ^ s := by rw [Int.natAbs_natCast]; exact hx.2
  have na : x.num.natAbs < 2 ^ s := hx.1
  refine ⟨rfl, w, s, rfl, w0, hw, hs, fun j hj hc => ⟨.inl rfl, ?_⟩⟩
  obtain ⟨S, eS⟩ : ∃ S : Nat, S = 2 ^ (8 * j) := ⟨_, rfl⟩
  have eSi : (2 : Int) ^ (8 * j) = (S : Int) := by rw [eS, Int.natCast_pow]; rfl
  rw [eSi] at hc ⊢
  have S1 : 1 ≤ S := by rw [eS]; exact Nat.pow_pos (by decide)
  have Sb : S < 2 ^ (s + 41) := by rw [eS]; exact Nat.pow_lt_pow_right (by decide) (by omega)
  have Sa : ((S : Int)).natAbs < 2 ^ (s + 41) := by rw [Int.natAbs_natCast]; exact Sb
  have d0 : (x.den : Int) ≠ 0 := by omega
  have st : (((S : Int)) * x.num).fdiv (x.den : Int) = ((S * a / x.den : Nat) : Int) := by
    rw [ea, ← Int.natCast_mul, nat_fdiv]
  refine ⟨_, rfl, mul_sz Sa na (by omega) (by omega), _, rfl, d0, ?_⟩
  rw [st]
  refine ⟨fun m ρ => ∃ part total k : Nat, ρ = [.val (dR x), .val (dR w), .val (.int S), .val (.int part), .val (.int total), .val (.int k)] ∧ m = part ∧ Rw S ((a : Rat) / (x.den : Rat)) k part total ∧ part ≤ S ∧ total ≤ k * S ∧ 3 * k ≤ 8 * j + 3, ⟨S * a / x.den, S * a / x.den, 0, 0, rfl, rfl, Rw.start b1, ?_, Nat.zero_le _, Nat.zero_le _⟩, ?_⟩
  · refine Nat.div_le_of_le_mul ?_
    rw [Nat.mul_comm]
    exact Nat.mul_le_mul_right S (by omega)
  rintro m _ ⟨part, total, k, rfl, rfl, hR, hP, hT, hk⟩
  refine ⟨fun t => ?_, fun t => ?_⟩
  · have t : (0 : Int) < (m : Int) := of_decide_eq_true t
    have k40 : k ≤ 20000 := by omega
    have mS : ((m : Int)).natAbs < 2 ^ (s + 41) := by rw [Int.natAbs_natCast]; omega
    have many := hR.many b1 a3 eS (by omega)
    have e1 : ((m : Int)).fdiv (2 * (k : Int) + 1) = ((m / (2 * k + 1) : Nat) : Int) := by
      rw [show 2 * (k : Int) + 1 = ((2 * k + 1 : Nat) : Int) by omega, nat_fdiv]
    have e2 : ((m : Int) * x.num * x.num).fdiv ((x.den : Int) * (x.den : Int)) = ((m * a * a / (x.den * x.den) : Nat) : Int) := by
      rw [ea, ← Int.natCast_mul, ← Int.natCast_mul, ← Int.natCast_mul, nat_fdiv]
    have dd0 : (x.den : Int) * (x.den : Int) ≠ 0 := Int.mul_ne_zero d0 d0
    have mul1 := bd_mul mS na
    refine ⟨_, rfl, mul_l (by decide), by omega, ?_⟩
    rw [e1]
    refine ⟨_, rfl, mul_sz mS na (by omega) (by omega), _, rfl, mul_sz mul1 na (by omega) (by omega), _, rfl, _, rfl, mul_sz nb nb (by omega) (by omega), dd0, ?_⟩
    rw [e2]
    have lt : m * a * a / (x.den * x.den) < m := by
      refine (Nat.div_lt_iff_lt_mul (Nat.mul_pos b1 b1)).mpr ?_
      have h1 : a * a < x.den * x.den := Nat.mul_lt_mul_of_lt_of_le (by omega) (by omega) (by omega)
      have h2 := Nat.mul_lt_mul_of_pos_left h1 (show 0 < m by omega)
      rw [← Nat.mul_assoc] at h2
      exact h2
    refine ⟨_, rfl, m * a * a / (x.den * x.den), lt, m * a * a / (x.den * x.den), total + m / (2 * k + 1), k + 1, ?_, rfl, hR.step b1 a3, by omega, ?_, by omega⟩
    · show [Sl.val (dR x), .val (dR w), .val (.int S), .val (.int ((m * a * a / (x.den * x.den) : Nat) : Int)), .val (.int ((total : Int) + ((m / (2 * k + 1) : Nat) : Int))), .val (.int ((k : Int) + 1))] = _
      rw [show (total : Int) + ((m / (2 * k + 1) : Nat) : Int) = ((total + m / (2 * k + 1) : Nat) : Int) by omega, show (k : Int) + 1 = ((k + 1 : Nat) : Int) by omega]
    · have := Nat.div_le_self m (2 * k + 1)
      rw [Nat.add_mul]; omega
  · have t : ¬ (0 : Int) < (m : Int) := of_decide_eq_false t
    obtain rfl : m = 0 := by omega
    have k40 : k ≤ 20000 := by omega
    have e15 : (2 : Nat) ^ 15 = 32768 := by decide
    have tb : total < 2 ^ (s + 56) := by
      have h1 : k * S ≤ 2 ^ 15 * S := Nat.mul_le_mul_right S (by omega)
      have h3 : 2 ^ 15 * S < 2 ^ 15 * 2 ^ (s + 41) := Nat.mul_lt_mul_of_pos_left Sb (by decide)
      rw [← Nat.pow_add, show 15 + (s + 41) = s + 56 by omega] at h3
      omega
    have big : 2 ^ 20 ≤ 2 ^ (s + 56) := Nat.pow_le_pow_right (by decide) (by omega)
    have e20 : (2 : Nat) ^ 20 = 1048576 := by decide
    have p2 : 2 ^ (s + 60) = 2 ^ (s + 56) * 16 := by rw [show s + 60 = s + 56 + 4 by omega, Nat.pow_add]
    have n1 : (2 * (total : Int)).natAbs < 2 ^ (s + 60) := by omega
    have n2 : (2 * ((total : Int) + 3 * (k : Int) + 2)).natAbs < 2 ^ (s + 60) := by omega
    have nS : ((S : Int)).natAbs < 2 ^ (s + 60) := Nat.lt_of_lt_of_le Sa (Nat.pow_le_pow_right (by decide) (by omega))
    have t56 : ((total : Int)).natAbs < 2 ^ (s + 60) := by omega
    have t57 : ((total : Int) + 3 * (k : Int) + 2).natAbs < 2 ^ (s + 60) := by omega
    have S0 : (0 : Int) < (S : Int) := by omega
    have s0 := ge1 S1
    have loe : Rat.divInt (2 * (total : Int)) (S : Int) = 2 * (total : Rat) / (S : Rat) := by
      rw [Rat.divInt_eq_div, Rat.intCast_mul, Rat.intCast_natCast, Rat.intCast_natCast]; rfl
    have hie : Rat.divInt (2 * ((total : Int) + 3 * (k : Int) + 2)) (S : Int) = 2 * ((total : Rat) + 3 * (k : Rat) + 2) / (S : Rat) := by
      rw [Rat.divInt_eq_div, Rat.intCast_mul, Rat.intCast_add, Rat.intCast_add, Rat.intCast_mul, Rat.intCast_natCast, Rat.intCast_natCast, Rat.intCast_natCast]; rfl
    have hR2 : Rw S (((p - q : Nat) : Rat) / ((p + q : Nat) : Rat)) k 0 total := by rw [← ex, exa]; exact hR
    have k0 := nat_nn k
    have fin := hr (Rat.divInt (2 * (total : Int)) (S : Int)) (Rat.divInt (2 * ((total : Int) + 3 * (k : Int) + 2)) (S : Int)) (fun N hN => by
      rw [loe, hie]
      exact hR2.stop S1 hq1 hp h2 hN) (by
      rw [loe, hie]
      refine div_le s0 ?_
      have : (S : Rat) * (2 * ((total : Rat) + 3 * (k : Rat) + 2) / (S : Rat)) = 2 * ((total : Rat) + 3 * (k : Rat) + 2) := by
        have : (S : Rat) ≠ 0 := by grind
        grind
      rw [this]; grind) (by
      rw [loe, hie]
      have e1 : 2 * ((total : Rat) + 3 * (k : Rat) + 2) / (S : Rat) - 2 * (total : Rat) / (S : Rat) = (6 * (k : Rat) + 4) / (S : Rat) := by grind
      rw [e1]
      refine div_le s0 ?_
      have wd := ge1 (show 1 ≤ w.den from w.den_pos)
      have we := den_mul w
      refine Classical.byContradiction fun w2 => ?_
      have q1 := Rat.mul_lt_mul_of_pos_right (Rat.not_le.mp w2) wd
      have e2 : (S : Rat) * w * (w.den : Rat) = (w.num : Rat) * S := by rw [← we]; grind
      rw [e2] at q1
      obtain ⟨V, eV⟩ : ∃ V : Int, V = 2 * (8 * (j : Int) + 8) := ⟨_, rfl⟩
      rw [← eV] at hc
      have hcR : ((V * (w.den : Int) : Int) : Rat) ≤ ((w.num * (S : Int) : Int) : Rat) := by exact_mod_cast hc
      rw [Rat.intCast_mul, Rat.intCast_mul, Rat.intCast_natCast, Rat.intCast_natCast] at hcR
      have kj : (6 * (k : Rat) + 4) ≤ (V : Rat) := by
        have : (6 * (k : Int) + 4) ≤ V := by omega
        have h9 : ((6 * (k : Int) + 4 : Int) : Rat) ≤ (V : Rat) := by exact_mod_cast this
        rw [Rat.intCast_add, Rat.intCast_mul, Rat.intCast_natCast] at h9
        exact h9
      have kj2 := Rat.mul_le_mul_of_nonneg_right kj (Rat.le_of_lt wd)
      grind) (rb_mono (rb_div n1 nS S0) (by omega)) (rb_mono (rb_div n2 nS S0) (by omega))
    refine ⟨mul_l (by decide), rfl, _, _, rfl, by omega, .inl rfl, mul_l (by decide), mul_l (by decide), rfl, _, _, rfl, by omega, .inl rfl, rfl, fin⟩
theorem good_doubled : Good (Gv L) b_doubled 1 2 vDoubled := by
  rintro ds q ⟨k, rfl, hk, hq⟩ -
  refine ⟨⟨by omega, by omega⟩, fun j ρ => ∃ s2 : Sl, ρ = [.val (.int k), .val (.int (2 ^ j)), s2] ∧ j ≤ k, ⟨_, rfl, Nat.zero_le _⟩, ?_, ?_⟩
  · rintro j d _ hd ⟨s2, rfl, _⟩
    obtain ⟨rfl, hj⟩ := rngs_at hd
    have hj : j < k := by omega
    refine ⟨mul_l (by decide), .val (.int j), ?_, hj⟩
    show [Sl.val (.int k), .val (.int (2 * 2 ^ j)), .val (.int j)] = _
    rw [Int.pow_succ, Int.mul_comm]
  · rintro _ ⟨s2, rfl, _⟩
    rw [rngs_length, Int.toNat_natCast]
    exact hq
theorem good_stretched : Good (Gv L) b_stretched 2 2 vStretched := by
  rintro ds q ⟨lo, hi, c, rfl, h, s1, s2, s3, s4, s5, hq⟩ -
  refine ⟨_, rfl, rfl, lo, c, rfl, s1, s3, .inl rfl, _, rfl, rfl, hi, c, rfl, s2, s3, .inl rfl, ?_⟩
  have pos : 0 ≤ c → lo * c ≤ hi * c := fun hc => Rat.mul_le_mul_of_nonneg_right h hc
  have neg : c ≤ 0 → hi * c ≤ lo * c := fun hc => by
    have := Rat.mul_le_mul_of_nonneg_right h (show 0 ≤ -c by grind)
    grind
  refine ⟨rfl, rfl, hi * c, lo * c, rfl, s5, s4, .inl rfl, fun t => ?_, fun t => ?_⟩
  · have t : decide ((hi * c).num * ((lo * c).den : Int) < (lo * c).num * ((hi * c).den : Int)) = true := t
    have lt : hi * c < lo * c := (Rat.lt_iff _ _).mpr (of_decide_eq_true t)
    refine ⟨rfl, hq (hi * c) (lo * c) (fun hc => ?_) fun _ => ⟨rfl, rfl⟩⟩
    have := pos hc
    grind
  · have t : decide ((hi * c).num * ((lo * c).den : Int) < (lo * c).num * ((hi * c).den : Int)) = false := t
    have lt : ¬ hi * c < lo * c := fun w => of_decide_eq_false t ((Rat.lt_iff _ _).mp w)
    refine ⟨rfl, hq (lo * c) (hi * c) (fun _ => ⟨rfl, rfl⟩) fun hc => ?_⟩
    have := neg hc
    have e : lo * c = hi * c := by grind
    exact ⟨e, e.symm⟩
theorem bits_of {t : Nat} (h : 1 ≤ t) {s : Nat} (hs : t < 2 ^ s) : ∃ l : Nat, Builtin.Int.intBits (t : Int) = l + 1 ∧ 2 ^ l ≤ t ∧ t < 2 ^ (l + 1) ∧ l + 1 ≤ s := by
  have t0 : t ≠ 0 := by omega
  have h1 := Nat.log2_self_le t0
  have h2 := @Nat.lt_log2_self t
  refine ⟨t.log2, ?_, h1, h2, ?_⟩
  · unfold Builtin.Int.intBits
    rw [if_neg (by rw [beq_iff_eq]; omega), Int.natAbs_natCast]
  · have : 2 ^ t.log2 < 2 ^ s := Nat.lt_of_le_of_lt h1 hs
    exact (Nat.pow_lt_pow_iff_right (by decide)).mp this
theorem w_bits2 {Γ : Nat → VF} {i j : Int} {n m : Nat} {x0 x3 : Sl} {rest : List S} {Q : _} (hn : Builtin.Int.intBits i = n) (hm : Builtin.Int.intBits j = m) (h : wSs Γ (ss rest) [x0, .val (.int i), .val (.int j), .val (.int ((n : Int) - (m : Int)))] Q) : wSs Γ (ss (.asg 3 (.bin .sub (.bits (.var 1)) (.bits (.var 2))) :: rest)) [x0, .val (.int i), .val (.int j), x3] Q := by
  subst hn
  subst hm
  exact h
theorem halved_tail {t b s l m : Nat} {k0 : Int} {r : R → Option (List VL.D) → Prop} (hs : s ≤ 10000) (t1 : 1 ≤ t) (b1 : 1 ≤ b) (ts : t < 2 ^ s) (bs : b < 2 ^ s) (l1 : 2 ^ l ≤ t) (l2 : t < 2 ^ (l + 1)) (l3 : l + 1 ≤ s) (m1 : 2 ^ m ≤ b) (m2 : b < 2 ^ (m + 1)) (m3 : m + 1 ≤ s) (kv : k0 = (l : Int) - (m : Int))
    (hr : ∀ (p q d : Nat) (k : Int), 1 ≤ q → q ≤ p → p ≤ 2 * q → p < 2 ^ (2 * s + 2) → q < 2 ^ (2 * s + 2) → k.natAbs ≤ s + 1 → (t : Int) * q * 2 ^ (-k).toNat = b * p * 2 ^ k.toNat → r (.val (.tup [dR (Rat.divInt p q), .int k])) none) :
    wSs (Gv L) (ss [.ite (.cmp .ge (.var 3) (.int 0)) (ss [.asg 2 (.bin .mul (.var 2) (.call f_doubled (.cons (.var 3) .nil)))]) (ss [.asg 1 (.bin .mul (.var 1) (.call f_doubled (.cons (.neg (.var 3)) .nil)))]),
  .ite (.cmp .lt (.var 1) (.var 2)) (ss [.ret (.tup (.cons (.call f_ratio (.cons (.bin .mul (.int 2) (.var 1)) (.cons (.var 2) .nil))) (.cons (.bin .sub (.var 3) (.int 1)) .nil)))]) (ss []),
  .ret (.tup (.cons (.call f_ratio (.cons (.var 1) (.cons (.var 2) .nil))) (.cons (.var 3) .nil)))]) [.val (.tup [.int (t : Int), .int (b : Int)]), .val (.int t), .val (.int b), .val (.int k0)] { nx := fun _ => r (.val .non) none, rt := fun v _ => r v none } := by
  have pS : ∀ {n : Nat}, n ≤ 2 * s + 1 → (2 : Nat) ^ n ≤ 2 ^ (2 * s + 1) := fun h => Nat.pow_le_pow_right (by decide) h
  have fin : ∀ (T B : Nat) (k : Int), 1 ≤ T → 1 ≤ B → T < 2 * B → B < 2 * T → T < 2 ^ (2 * s + 1) → B < 2 ^ (2 * s + 1) → k.natAbs ≤ s → (t : Int) * B * 2 ^ (-k).toNat = b * T * 2 ^ k.toNat → wSs (Gv L) (ss [.ite (.cmp .lt (.var 1) (.var 2)) (ss [.ret (.tup (.cons (.call f_ratio (.cons (.bin .mul (.int 2) (.var 1)) (.cons (.var 2) .nil))) (.cons (.bin .sub (.var 3) (.int 1)) .nil)))]) (ss []),
  .ret (.tup (.cons (.call f_ratio (.cons (.var 1) (.cons (.var 2) .nil))) (.cons (.var 3) .nil)))]) [.val (.tup [.int (t : Int), .int (b : Int)]), .val (.int T), .val (.int B), .val (.int k)] { nx := fun _ => r (.val .non) none, rt := fun v _ => r v none } := by
    intro T B k T1 B1 h1 h2 h3 h4 hk he
    have p2 : 2 ^ (2 * s + 2) = 2 ^ (2 * s + 1) * 2 := Nat.pow_succ ..
    refine ⟨fun h => ?_, fun h => ?_⟩
    · have h : decide ((T : Int) < (B : Int)) = true := h
      have h := of_decide_eq_true h
      refine ⟨mul_l (by decide), rfl, 2 * (T : Int), (B : Int), rfl, by omega, .inl rfl, rfl, ?_⟩
      have := hr (2 * T) B 0 (k - 1) B1 (by omega) (by omega) (by omega) (by omega) (by omega) (by
        by_cases w : 1 ≤ k
        · rw [show (-(k - 1)).toNat = 0 by omega]
          rw [show (-k).toNat = 0 by omega, show k.toNat = (k - 1).toNat + 1 by omega, Int.pow_succ] at he
          rw [Int.natCast_mul]
          grind
        · rw [show (k - 1).toNat = 0 by omega, show (-(k - 1)).toNat = (-k).toNat + 1 by omega, Int.pow_succ]
          rw [show k.toNat = 0 by omega] at he
          rw [Int.natCast_mul]
          grind)
      rw [show ((2 * T : Nat) : Int) = 2 * (T : Int) by omega] at this
      exact this
    · have h : decide ((T : Int) < (B : Int)) = false := h
      have h := of_decide_eq_false h
      exact ⟨rfl, (T : Int), (B : Int), rfl, by omega, .inl rfl, rfl, hr T B 0 k B1 (by omega) (by omega) (by omega) (by omega) (by omega) he⟩
  have tn : ((t : Int)).natAbs < 2 ^ (s + 1) := by rw [Int.natAbs_natCast, Nat.pow_succ]; omega
  have bn : ((b : Int)).natAbs < 2 ^ (s + 1) := by rw [Int.natAbs_natCast, Nat.pow_succ]; omega
  refine ⟨fun h => ?_, fun h => ?_⟩
  · have h : decide (k0 ≥ 0) = true := h
    have h := of_decide_eq_true h
    obtain ⟨d, hd⟩ : ∃ d : Nat, k0 = d := ⟨k0.toNat, by omega⟩
    have lm : l = m + d := by omega
    have b2 : b * 2 ^ d < 2 * 2 ^ l := by
      have := Nat.mul_lt_mul_of_pos_right m2 (Nat.pow_pos (n := d) (show 0 < 2 by decide))
      rw [← Nat.pow_add] at this
      rw [lm]
      have e : 2 * 2 ^ (m + d) = 2 ^ (m + 1 + d) := by rw [show m + 1 + d = m + d + 1 by omega, Nat.pow_succ]; omega
      rw [e]; exact this
    have b3 : 2 ^ l ≤ b * 2 ^ d := by
      have := Nat.mul_le_mul_right (2 ^ d) m1
      rw [← Nat.pow_add, ← lm] at this
      exact this
    have l2' : t < 2 * 2 ^ l := by rw [Nat.pow_succ] at l2; omega
    have B1 : 1 ≤ b * 2 ^ d := Nat.mul_pos b1 (Nat.pow_pos (by decide))
    have pl := pS (n := l + 1) (by omega)
    have pl2 : 2 ^ (l + 1) = 2 * 2 ^ l := by rw [Nat.pow_succ]; omega
    have psn := pS (n := s) (by omega)
    refine ⟨rfl, d, by rw [hd], by omega, .inl rfl, mul_sz bn (pw2 d) (by omega) (by omega), ?_⟩
    have e : (b : Int) * 2 ^ d = ((b * 2 ^ d : Nat) : Int) := by rw [Int.natCast_mul, Int.natCast_pow]; rfl
    rw [e]
    refine fin t (b * 2 ^ d) k0 t1 B1 (by omega) (by omega) (by omega) (by omega) (by omega) ?_
    rw [hd, show (-(d : Int)).toNat = 0 by omega, Int.toNat_natCast, Int.natCast_mul, Int.natCast_pow]
    show (t : Int) * ((b : Int) * 2 ^ d) * 2 ^ 0 = (b : Int) * t * 2 ^ d
    grind
  · have h : decide (k0 ≥ 0) = false := h
    have h := of_decide_eq_false h
    obtain ⟨d, hd⟩ : ∃ d : Nat, -k0 = d := ⟨(-k0).toNat, by omega⟩
    have lm : m = l + d := by omega
    have b2 : t * 2 ^ d < 2 * 2 ^ m := by
      have := Nat.mul_lt_mul_of_pos_right l2 (Nat.pow_pos (n := d) (show 0 < 2 by decide))
      rw [← Nat.pow_add] at this
      rw [lm]
      have e : 2 * 2 ^ (l + d) = 2 ^ (l + 1 + d) := by rw [show l + 1 + d = l + d + 1 by omega, Nat.pow_succ]; omega
      rw [e]; exact this
    have b3 : 2 ^ m ≤ t * 2 ^ d := by
      have := Nat.mul_le_mul_right (2 ^ d) l1
      rw [← Nat.pow_add, ← lm] at this
      exact this
    have m2' : b < 2 * 2 ^ m := by rw [Nat.pow_succ] at m2; omega
    have T1 : 1 ≤ t * 2 ^ d := Nat.mul_pos t1 (Nat.pow_pos (by decide))
    have pl := pS (n := m + 1) (by omega)
    have pl2 : 2 ^ (m + 1) = 2 * 2 ^ m := by rw [Nat.pow_succ]; omega
    have psn := pS (n := s) (by omega)
    refine ⟨rfl, d, by rw [hd], by omega, .inl rfl, mul_sz tn (pw2 d) (by omega) (by omega), ?_⟩
    have e : (t : Int) * 2 ^ d = ((t * 2 ^ d : Nat) : Int) := by rw [Int.natCast_mul, Int.natCast_pow]; rfl
    rw [e]
    refine fin (t * 2 ^ d) b k0 T1 b1 (by omega) (by omega) (by omega) (by omega) (by omega) ?_
    rw [hd, show k0.toNat = 0 by omega, Int.toNat_natCast, Int.natCast_mul, Int.natCast_pow]
    show (t : Int) * b * 2 ^ d = (b : Int) * ((t : Int) * 2 ^ d) * 2 ^ 0
    grind
theorem good_halved : Good (Gv L) b_halved 1 3 vHalved := by
  rintro ds r ⟨t, b, s, rfl, t1, b1, ts, bs, hs, hr⟩ -
  obtain ⟨l, el, l1, l2, l3⟩ := bits_of t1 ts
  obtain ⟨m, em, m1, m2, m3⟩ := bits_of b1 bs
  have tail := halved_tail (L := L) (l := l) (m := m) (k0 := ((l + 1 : Nat) : Int) - ((m + 1 : Nat) : Int)) hs t1 b1 ts bs l1 l2 l3 m1 m2 m3 (by omega) hr
  have all := w_bits2 (x3 := .un) el em tail
  exact ⟨rfl, all⟩
theorem num_pos {r : Rat} : 0 < r.num ↔ 0 < r := by
  rw [Rat.lt_iff]
  show _ ↔ 0 * (r.den : Int) < r.num * 1
  omega
theorem half_ex : ∃ h : Rat, VL.D.tup [.int 1, .int 2] = dR h ∧ h = 1 / 2 ∧ RB' 2 h := by
  refine ⟨1 / 2, ?_, rfl, by decide +kernel, by decide +kernel⟩
  show _ = VL.D.tup [.int (1 / 2 : Rat).num, .int ((1 / 2 : Rat).den : Nat)]
  rw [show (1 / 2 : Rat).num = 1 by decide +kernel, show (1 / 2 : Rat).den = 2 by decide +kernel]
  rfl
theorem third_ex : ∃ h : Rat, VL.D.tup [.int 1, .int 3] = dR h ∧ h = 1 / 3 ∧ RB' 2 h := by
  refine ⟨1 / 3, ?_, rfl, by decide +kernel, by decide +kernel⟩
  show _ = VL.D.tup [.int (1 / 3 : Rat).num, .int ((1 / 3 : Rat).den : Nat)]
  rw [show (1 / 3 : Rat).num = 1 by decide +kernel, show (1 / 3 : Rat).den = 3 by decide +kernel]
  rfl
theorem two_le {lo hi l h X w : Rat} (g : hi - lo ≤ X) (k : h - l ≤ X) (e : X + X = w) : hi + h - (lo + l) ≤ w := by grind
theorem small_lt {k : Int} {s : Nat} (h : k.natAbs ≤ s + 1) : k.natAbs < 2 ^ (s + 2) ∧ 2 * (k.natAbs + 1) < 2 ^ (s + 4) := by
  have h1 := @Nat.lt_two_pow_self (s + 2)
  have h2 : 2 ^ (s + 4) = 4 * 2 ^ (s + 2) := by rw [show s + 4 = s + 2 + 2 by omega, Nat.pow_add]; omega
  omega
theorem dv (a b : Nat) : Rat.divInt (a : Int) (b : Int) = (a : Rat) / (b : Rat) := by rw [Rat.divInt_eq_div, Rat.intCast_natCast, Rat.intCast_natCast]
theorem good_log_held : Good (Gv L) b_log_held 2 5 vLogHeld := by
  rintro ds r ⟨t, b0, w, s, rfl, t1, b1, ts, bs, w0, hw, hs, hr⟩ -
  refine ⟨rfl, t, b0, s, rfl, t1, b1, ts, bs, by omega, fun p q d k hq hp h2 pb qb kb he => ⟨.inl rfl, rfl, rfl, ?_⟩⟩
  have q0 := ge1 hq
  have p0 := ge1 (show 1 ≤ p by omega)
  obtain ⟨kb1, kb2⟩ := small_lt kb
  obtain ⟨m, em⟩ : ∃ m, m = Rat.divInt (p : Int) (q : Int) := ⟨_, rfl⟩
  have em2 : m = (p : Rat) / (q : Rat) := by rw [em, dv]
  rw [← em]
  have mR : RB' (2 * s + 2) m := by rw [em]; exact rb_div (by omega) (by omega) (by omega)
  have r1 : RB' 1 (1 : Rat) := ⟨by decide, by decide⟩
  obtain ⟨hf, hfd, hfe, r2⟩ := half_ex
  obtain ⟨th, thd, the, r3⟩ := third_ex
  have m1 := rb_sub mR r1
  have m2 := rb_add mR r1
  have mp : 0 < m + 1 := by
    have : 0 ≤ m := by rw [em2]; exact le_div q0 (by grind)
    grind
  have mz : (m + 1).num ≠ 0 := fun z => by rw [Rat.num_eq_zero.mp z] at mp; exact absurd mp (by decide)
  refine ⟨rfl, m, 1, rfl, sz_rb mR (by omega), sz_rb r1 (by decide), .inl rfl, rfl, m, 1, rfl, sz_rb mR (by omega), sz_rb r1 (by decide), .inl rfl, rfl, m - 1, m + 1, rfl, sz_rb m1 (by omega), sz_rb m2 (by omega), mz, .inl rfl, rfl, rfl, w, hf, congrArg (fun z => [dR w, z]) hfd, sz_rb hw (by omega), sz_rb r2 (by decide), .inl rfl, ?_⟩
  have pq0 := ge1 (show 1 ≤ p + q by omega)
  have ex : (m - 1) / (m + 1) = ((p - q : Nat) : Rat) / ((p + q : Nat) : Rat) := by
    have e1 : ((p - q : Nat) : Rat) = (p : Rat) - q := by
      have : p - q + q = p := by omega
      have e : ((p - q : Nat) : Rat) + q = p := by exact_mod_cast this
      grind
    have e2 : ((p + q : Nat) : Rat) = (p : Rat) + q := by rw [Rat.natCast_add]
    rw [e2] at pq0
    rw [e1, e2, em2]
    have a1 : (q : Rat) ≠ 0 := by grind
    have a2 : (p : Rat) + q ≠ 0 := by grind
    have a3 : (p : Rat) / q - 1 = ((p : Rat) - q) / q := by grind
    have a4 : (p : Rat) / q + 1 = ((p : Rat) + q) / q := by grind
    rw [a3, a4]
    grind
  have xR : RB' (2 * s + 4) ((m - 1) / (m + 1)) := by
    rw [ex, ← dv]
    have : 2 ^ (2 * s + 4) = 4 * 2 ^ (2 * s + 2) := by rw [show 2 * s + 4 = 2 * s + 2 + 2 by omega, Nat.pow_add]; omega
    exact rb_div (by omega) (by omega) (by omega)
  have wp : 0 < w := num_pos.mp w0
  have w2 : 0 < w * hf := Rat.mul_pos wp (by rw [hfe]; decide +kernel)
  have w2R := rb_mul hw r2
  refine ⟨rfl, p, q, (m - 1) / (m + 1), w * hf, 2 * s + 10, rfl, hq, hp, h2, ex, rb_mono xR (by omega), num_pos.mpr w2, rb_mono w2R (by omega), by omega, fun lo hi a1 a2 a3 a4 a5 => ⟨.inl rfl, ?_⟩⟩
  obtain ⟨b, eb⟩ : ∃ b : Rat, b = ((2 * ((k.natAbs : Int) + 1) : Int) : Rat) := ⟨_, rfl⟩
  have ebd : dR b = .tup [.int (2 * ((k.natAbs : Int) + 1)), .int 1] := by rw [eb]; rfl
  have ebn : b.num = 2 * ((k.natAbs : Int) + 1) := by rw [eb]; rfl
  have ebm : b.den = 1 := by rw [eb]; rfl
  have bp : 0 < b := num_pos.mp (by omega)
  have bR : RB' (s + 4) b := ⟨by rw [ebn]; omega, by rw [ebm]; exact Nat.one_lt_two_pow (by omega)⟩
  have wbe : w / b = w * Rat.divInt 1 (2 * ((k.natAbs : Int) + 1)) := by
    rw [Rat.divInt_eq_div, ← eb]
    have : b ≠ 0 := by grind
    have e1 : ((1 : Int) : Rat) = 1 := rfl
    rw [e1]; grind
  have wbR : RB' (s + (s + 4)) (w / b) := by
    rw [wbe]
    exact rb_mul hw (rb_div (by have := @Nat.lt_two_pow_self (s + 4); omega) (by omega) (by omega))
  have wb0 : 0 < w / b := by rw [Rat.div_def]; exact Rat.mul_pos wp (Rat.inv_pos.mpr bp)
  refine ⟨rfl, mul_l (by decide), rfl, rfl, w, b, by rw [ebd], sz_rb hw (by omega), sz_rb bR (by omega), by omega, .inl rfl, rfl, 2, 1, th, w / b, 2 * s + 10, congrArg (fun z => [z, dR (w / b)]) thd, by decide, by decide, by decide, by rw [the]; decide +kernel, rb_mono r3 (by omega), num_pos.mpr wb0, rb_mono wbR (by omega), by omega, fun lo2 hi2 c1 c2 c3 c4 c5 => ⟨.inl rfl, ?_⟩⟩
  obtain ⟨c, ec⟩ : ∃ c : Rat, c = (k : Rat) := ⟨_, rfl⟩
  have ecd : dR c = .tup [.int k, .int 1] := by rw [ec]; rfl
  have cR : RB' (s + 2) c := by rw [ec]; exact ⟨kb1, Nat.one_lt_two_pow (by omega)⟩
  have lR := rb_mul c4 cR
  have hR := rb_mul c5 cR
  refine ⟨rfl, rfl, lo2, hi2, c, by rw [ecd], c2, sz_rb c4 (by omega), sz_rb c5 (by omega), sz_rb cR (by omega), sz_rb lR (by omega), sz_rb hR (by omega), fun l h e1 e2 => ⟨.inl rfl, ?_⟩⟩
  have lhR : RB' (2 * s + 10 + 100 + (s + 2)) l ∧ RB' (2 * s + 10 + 100 + (s + 2)) h := by
    rcases @Rat.le_total 0 c with w9 | w9
    · obtain ⟨e3, e4⟩ := e1 w9
      rw [e3, e4]; exact ⟨lR, hR⟩
    · obtain ⟨e3, e4⟩ := e2 w9
      rw [e3, e4]; exact ⟨hR, lR⟩
  have S1 := rb_add a4 lhR.1
  have S2 := rb_add a5 lhR.2
  have H1 : Ho lo hi (A p q) := ⟨1, by decide, fun N n => by
    have := a1 N n
    have un := u_pos n
    unfold u at un ⊢
    constructor <;> grind⟩
  have H2 : Ho lo2 hi2 (A 2 1) := ⟨1, by decide, fun N n => by
    have := c1 N n
    have un := u_pos n
    unfold u at un ⊢
    constructor <;> grind⟩
  have H3 : Ho l h (fun N => c * A 2 1 N) := by
    rcases @Rat.le_total 0 c with w9 | w9
    · obtain ⟨e3, e4⟩ := e1 w9
      rw [e3, e4]; exact H2.pos w9
    · obtain ⟨e3, e4⟩ := e2 w9
      rw [e3, e4]; exact H2.neg w9
  have nr : Nr (A t b0) (fun N => A p q N + (k : Rat) * A 2 1 N) := nr_halved t1 b1 (by omega) hq (by exact_mod_cast he)
  rw [← ec] at nr
  have key := hr (lo + l) (hi + h) ((H1.add H3).near nr.symm) (by
    have : l ≤ h := by
      rcases @Rat.le_total 0 c with w9 | w9
      · obtain ⟨e3, e4⟩ := e1 w9
        rw [e3, e4]; exact Rat.mul_le_mul_of_nonneg_right c2 w9
      · obtain ⟨e3, e4⟩ := e2 w9
        rw [e3, e4]
        have := Rat.mul_le_mul_of_nonneg_right c2 (show 0 ≤ -c by grind)
        grind
    grind) (by
    have d0 : 0 ≤ hi2 - lo2 := by grind
    have hb : h - l ≤ (hi2 - lo2) * (b / 2) := by
      have be : b / 2 = (k.natAbs : Rat) + 1 := by
        have : b = 2 * ((k.natAbs : Rat) + 1) := by rw [eb, Rat.intCast_mul, Rat.intCast_add, Rat.intCast_natCast]; rfl
        rw [this]; grind
      rcases @Rat.le_total 0 c with w9 | w9
      · obtain ⟨e3, e4⟩ := e1 w9
        have ck : c = (k.natAbs : Rat) := by
          have k0 : 0 ≤ k := by rw [ec] at w9; exact_mod_cast w9
          rw [ec, ← Rat.intCast_natCast, show ((k.natAbs : Nat) : Int) = k by omega]
        have := Rat.mul_le_mul_of_nonneg_left (show c ≤ b / 2 by rw [be, ck]; grind) d0
        rw [e3, e4]; grind
      · obtain ⟨e3, e4⟩ := e2 w9
        have ck : -c = (k.natAbs : Rat) := by
          have k0 : k ≤ 0 := by rw [ec] at w9; exact_mod_cast w9
          rw [ec, ← Rat.intCast_natCast, show ((k.natAbs : Nat) : Int) = -k by omega, Rat.intCast_neg]
        have := Rat.mul_le_mul_of_nonneg_left (show -c ≤ b / 2 by rw [be, ck]; grind) d0
        rw [e3, e4]; grind
    have h9 := Rat.mul_le_mul_of_nonneg_right c3 (show 0 ≤ b / 2 by grind)
    have h8 : w / b * (b / 2) = w * hf := by
      rw [hfe]
      have : b ≠ 0 := by grind
      grind
    have h7 : w * hf + w * hf = w := by rw [hfe]; grind
    exact two_le a3 (Rat.le_trans hb (by rw [← h8]; exact h9)) h7) (rb_mono S1 (by omega)) (rb_mono S2 (by omega))
  exact ⟨_, rfl, _, rfl, rfl, lo, l, rfl, sz_rb a4 (by omega), sz_rb lhR.1 (by omega), .inl rfl, _, rfl, _, rfl, rfl, hi, h, rfl, sz_rb a5 (by omega), sz_rb lhR.2 (by omega), .inl rfl, rfl, key⟩
theorem lsum_append (a b : List Lr) (N : Nat) : lsum (a ++ b) N = lsum a N + lsum b N := by
  induction a with
  | nil => show lsum b N = 0 + lsum b N; grind
  | cons x a ih => show _ + lsum (a ++ b) N = _ + lsum a N + lsum b N; rw [ih]; grind
theorem abs_rat (c : Rat) (h : c.num ≠ 0) : ∃ a : Rat, a = Rat.divInt (c.num.natAbs : Int) (c.den : Int) ∧ 0 < a ∧ (0 ≤ c → a = c) ∧ (c ≤ 0 → a = -c) := by
  refine ⟨_, rfl, ?_⟩
  have d0 := ge1 (show 1 ≤ c.den from c.den_pos)
  have n0 := ge1 (show 1 ≤ c.num.natAbs by omega)
  have d1 : (c.den : Rat) ≠ 0 := by grind
  have e : (c.num : Rat) = c * (c.den : Rat) := by rw [← den_mul c]; grind
  rw [dv]
  refine ⟨by rw [Rat.div_def]; exact Rat.mul_pos n0 (Rat.inv_pos.mpr d0), fun w => ?_, fun w => ?_⟩
  · have c0 : 0 ≤ c.num := Rat.num_nonneg.mpr w
    have : ((c.num.natAbs : Nat) : Rat) = (c.num : Rat) := by rw [← Rat.intCast_natCast, show ((c.num.natAbs : Nat) : Int) = c.num by omega]
    rw [this, e]; grind
  · have c0 : c.num ≤ 0 := by
      have h1 : 0 ≤ -c := by grind
      have := Rat.num_nonneg.mpr h1
      rw [Rat.neg_num] at this; omega
    have : ((c.num.natAbs : Nat) : Rat) = -(c.num : Rat) := by rw [← Rat.intCast_natCast, show ((c.num.natAbs : Nat) : Int) = -c.num by omega, Rat.intCast_neg]
    rw [this, e]; grind
theorem good_held : Good (Gv L) b_held 2 6 vHeld := by
  rintro ds r ⟨q, w, l, s, rfl, hl, hq, w0, hw, hs, hr⟩ -
  have wp : 0 < w := num_pos.mp w0
  have nn := nat_nn l.length
  obtain ⟨B, eB⟩ : ∃ B, B = 17 * s + 1097 := ⟨_, rfl⟩
  refine ⟨_, rfl, _, rfl, rfl, _, rfl, fun k ρ => ∃ (lo hi : Rat) (s4 s5 s6 s7 : Sl), ρ = [.val (.tup [dR q, .tup (l.map dCR)]), .val (dR w), .val (dR lo), .val (dR hi), s4, s5, s6, s7] ∧ k ≤ l.length ∧ Ho lo hi (fun N => q + lsum (l.take k) N) ∧ lo ≤ hi ∧ hi - lo ≤ w * ((k : Rat) / (l.length : Rat)) ∧ RB' (s + k * B) lo ∧ RB' (s + k * B) hi ∧ (k = 0 → lo = q ∧ hi = q), ⟨q, q, _, _, _, _, rfl, Nat.zero_le _, ?_, Rat.le_refl, ?_, by rw [Nat.zero_mul]; exact hq, by rw [Nat.zero_mul]; exact hq, fun _ => ⟨rfl, rfl⟩⟩, ?_, ?_⟩
  · refine (Ho.const q).near (Nr.of_eq fun N => ?_)
    show q = q + 0; grind
  · rw [show ((0 : Nat) : Rat) = 0 from rfl]
    have : (0 : Rat) / (l.length : Rat) = 0 := by rw [Rat.div_def, Rat.zero_mul]
    rw [this]; grind
  · rintro k d _ hd ⟨lo, hi, s4, s5, s6, s7, rfl, hk, ho, le, wd, rl, rh, -⟩
    obtain ⟨x, ex, rfl⟩ : ∃ x, l[k]? = some x ∧ dCR x = d := by rw [List.getElem?_map] at hd; exact Option.map_eq_some_iff.mp hd
    obtain ⟨kl, ex2⟩ := List.getElem?_eq_some_iff.mp ex
    have xm : x ∈ l := by rw [← ex2]; exact List.getElem_mem kl
    obtain ⟨c, yt, yb⟩ := x
    have c0 : c.num ≠ 0 := hl.c0 _ xm
    have cs : RB' s c := hl.cs _ xm
    obtain ⟨yt0, yts⟩ : 1 ≤ yt ∧ yt < 2 ^ s := hl.ts _ xm
    obtain ⟨yb0, ybs⟩ : 1 ≤ yb ∧ yb < 2 ^ s := hl.bs _ xm
    have up : 2 ^ s ≤ 2 ^ (2 * s + 12) := Nat.pow_le_pow_right (by decide) (by omega)
    obtain ⟨a, ea, a0, ap, an⟩ := abs_rat c c0
    have aR : RB' s a := by rw [ea]; exact rb_div (by rw [Int.natAbs_natCast]; exact cs.1) (by rw [Int.natAbs_natCast]; exact cs.2) (by have := c.den_pos; omega)
    have n0 := ge1 (show 1 ≤ l.length by omega)
    obtain ⟨n, en⟩ : ∃ n : Rat, n = (l.length : Rat) := ⟨_, rfl⟩
    have end1 : dR n = .tup [.int (l.length : Nat), .int 1] := by rw [en]; rfl
    have l7 : l.length < 2 ^ 12 := Nat.lt_of_le_of_lt hl.ln (by decide)
    have nR : RB' 12 n := by rw [en]; exact ⟨l7, show 1 < 2 ^ 12 by decide⟩
    rw [← en] at n0 wd
    have an0 : 0 < a * n := Rat.mul_pos a0 n0
    have anR := rb_mul aR nR
    have wa0 : 0 < w / (a * n) := by rw [Rat.div_def]; exact Rat.mul_pos wp (Rat.inv_pos.mpr an0)
    have d0 := ge1 (show 1 ≤ c.den from c.den_pos)
    have m0 := ge1 (show 1 ≤ c.num.natAbs by omega)
    have waR : RB' (s + (s + 12)) (w / (a * n)) := by
      have e1 : w / (a * n) = w * Rat.divInt ((c.den : Nat) : Int) ((c.num.natAbs * l.length : Nat) : Int) := by
        rw [dv, ea, dv, en, Rat.natCast_mul]
        rw [en] at n0
        have : (c.den : Rat) ≠ 0 := by grind
        have : (c.num.natAbs : Rat) ≠ 0 := by grind
        have : (l.length : Rat) ≠ 0 := by grind
        grind
      rw [e1]
      have b1 : c.num.natAbs * l.length < 2 ^ (s + 12) := by
        rw [Nat.pow_add]
        exact Nat.mul_lt_mul_of_lt_of_le cs.1 (by omega) (Nat.pow_pos (by decide))
      have b2 : c.den < 2 ^ (s + 12) := Nat.lt_of_lt_of_le cs.2 (Nat.pow_le_pow_right (by decide) (by omega))
      have b3 : 0 < c.num.natAbs * l.length := Nat.mul_pos (by omega) (by omega)
      exact rb_mul hw (rb_div (by rw [Int.natAbs_natCast]; exact b2) (by rw [Int.natAbs_natCast]; exact b1) (by exact_mod_cast b3))
    have cd : (c.den : Int) ≠ 0 := by have := c.den_pos; omega
    refine ⟨rfl, _, rfl, _, rfl, rfl, (c.num.natAbs : Int), (c.den : Int), rfl, cd, .inl rfl, ?_⟩
    rw [← ea]
    refine ⟨_, rfl, rfl, rfl, a, n, by rw [end1, List.length_map], sz_rb aR (by omega), sz_rb nR (by omega), .inl rfl, rfl, w, a * n, rfl, sz_rb hw (by omega), sz_rb anR (by omega), fun z => by rw [Rat.num_eq_zero.mp z] at an0; exact absurd an0 (by decide), .inl rfl, rfl, yt, yb, w / (a * n), 2 * s + 12, rfl, yt0, yb0, by omega, by omega, num_pos.mpr wa0, rb_mono waR (by omega), by omega, fun lo2 hi2 h1 h2 h3 h4 h5 => ⟨.inl rfl, ?_⟩⟩
    have lR := rb_mul h4 cs
    have hR := rb_mul h5 cs
    refine ⟨rfl, lo2, hi2, c, rfl, h2, sz_rb h4 (by omega), sz_rb h5 (by omega), sz_rb cs (by omega), sz_rb lR (by omega), sz_rb hR (by omega), fun f g e1 e2 => ⟨.inl rfl, ?_⟩⟩
    have fgR : RB' (17 * s + 1096) f ∧ RB' (17 * s + 1096) g := by
      rcases @Rat.le_total 0 c with w9 | w9
      · obtain ⟨e3, e4⟩ := e1 w9
        rw [e3, e4]; exact ⟨rb_mono lR (by omega), rb_mono hR (by omega)⟩
      · obtain ⟨e3, e4⟩ := e2 w9
        rw [e3, e4]; exact ⟨rb_mono hR (by omega), rb_mono lR (by omega)⟩
    have H3 : Ho f g (fun N => c * A yt yb N) := by
      rcases @Rat.le_total 0 c with w9 | w9
      · obtain ⟨e3, e4⟩ := e1 w9
        rw [e3, e4]; exact h1.pos w9
      · obtain ⟨e3, e4⟩ := e2 w9
        rw [e3, e4]; exact h1.neg w9
    have fg : f ≤ g ∧ g - f ≤ w / n := by
      have hh : (hi2 - lo2) * a ≤ w / n := by
        have h9 := Rat.mul_le_mul_of_nonneg_right h3 (Rat.le_of_lt a0)
        have e9 : w / (a * n) * a = w / n := by
          have : a ≠ 0 := by grind
          have : n ≠ 0 := by grind
          grind
        rw [e9] at h9; exact h9
      rcases @Rat.le_total 0 c with w9 | w9
      · obtain ⟨e3, e4⟩ := e1 w9
        have := Rat.mul_le_mul_of_nonneg_right h2 w9
        rw [ap w9] at hh
        rw [e3, e4]; constructor <;> grind
      · obtain ⟨e3, e4⟩ := e2 w9
        have := Rat.mul_le_mul_of_nonneg_right h2 (show 0 ≤ -c by grind)
        rw [an w9] at hh
        rw [e3, e4]; constructor <;> grind
    have kB : s + k * B ≤ 46000000 := by
      have h9 := Nat.mul_le_mul (show k ≤ 4000 by have := hl.ln; omega) (show B ≤ 11297 by omega)
      omega
    have S1 := rb_add rl fgR.1
    have S2 := rb_add rh fgR.2
    have kB1 : s + (k + 1) * B = s + k * B + (17 * s + 1096) + 1 := by rw [Nat.add_mul]; omega
    refine ⟨_, rfl, rfl, lo, f, rfl, sz_rb rl (by omega), sz_rb fgR.1 (by omega), .inl rfl, _, rfl, rfl, hi, g, rfl, sz_rb rh (by omega), sz_rb fgR.2 (by omega), .inl rfl, rfl, lo + f, hi + g, _, _, _, _, rfl, kl, ?_, by grind, ?_, by rw [kB1]; exact S1, by rw [kB1]; exact S2, fun z => (by omega)⟩
    · refine (ho.add H3).near (Nr.of_eq fun N => ?_)
      show q + lsum (l.take k) N + c * A yt yb N = q + lsum (l.take (k + 1)) N
      rw [List.take_add_one, ex, lsum_append]
      show q + lsum (l.take k) N + c * A yt yb N = q + (lsum (l.take k) N + (c * A yt yb N + 0))
      grind
    · rw [← en, nat_succ]
      have e9 : w * (((k : Rat) + 1) / n) = w * ((k : Rat) / n) + w / n := by grind
      rw [e9]; grind
  · rintro _ ⟨lo, hi, s4, s5, s6, s7, rfl, -, ho, le, wd, rl, rh, hz⟩
    rw [List.length_map] at ho wd rl rh hz
    rw [List.take_length] at ho
    have kB : s + l.length * B ≤ 46000000 := by
      have h9 := Nat.mul_le_mul (show l.length ≤ 4000 by have := hl.ln; omega) (show B ≤ 11297 by omega)
      omega
    refine ⟨rfl, hr lo hi ho le ?_ (rb_mono rl (by omega)) (rb_mono rh (by omega)) fun z => hz (by rw [z]; rfl)⟩
    have : (l.length : Rat) / (l.length : Rat) ≤ 1 := by
      by_cases z : (l.length : Rat) = 0
      · rw [z]; decide +kernel
      · have : (l.length : Rat) / (l.length : Rat) = 1 := by grind
        rw [this]; exact Rat.le_refl
    have := Rat.mul_le_mul_of_nonneg_left this (Rat.le_of_lt wp)
    grind
end M17

/-! M18m: pairs of a whole number and a number over E, made coprime; additive functions; a prime's power. -/
namespace M18
open M17
abbrev Itm := Nat × Int
def S (f : Itm → Int) : List Itm → Int
  | [] => 0
  | x :: L => f x + S f L
theorem S_app (f : Itm → Int) (M : List Itm) : ∀ L, S f (L ++ M) = S f L + S f M
  | [] => by show S f M = 0 + S f M; omega
  | x :: L => by show f x + S f (L ++ M) = f x + S f L + S f M; rw [S_app f M L]; omega
theorem S_perm (f : Itm → Int) {L M : List Itm} (h : L.Perm M) : S f L = S f M := by
  induction h with
  | nil => rfl
  | cons x _ ih => show _ + _ = _ + _; rw [ih]
  | swap x y l => show f y + (f x + S f l) = f x + (f y + S f l); omega
  | trans _ _ a b => rw [a, b]
theorem S_nn {f : Itm → Int} (hf : ∀ x, 0 ≤ f x) : ∀ L, 0 ≤ S f L
  | [] => Int.le_refl 0
  | z :: L => by show 0 ≤ f z + S f L; have := hf z; have := S_nn hf L; omega
theorem S_le {f : Itm → Int} (hf : ∀ x, 0 ≤ f x) {x : Itm} : ∀ {L : List Itm}, x ∈ L → f x ≤ S f L
  | y :: L, h => by
    rcases List.mem_cons.mp h with w | w
    · subst w; show f x ≤ f x + S f L; have := S_nn hf L; omega
    · have := S_le hf (L := L) w
      show f x ≤ f y + S f L
      have := hf y; omega
theorem S_bd {f : Itm → Int} {c : Int} : ∀ {L : List Itm}, (∀ x, x ∈ L → f x ≤ c) → S f L ≤ L.length * c
  | [], _ => by show (0 : Int) ≤ ((0 : Nat) : Int) * c; simp
  | x :: L, h => by
    have h1 := h x List.mem_cons_self
    have h2 := S_bd (f := f) (c := c) (L := L) fun y hy => h y (List.mem_cons_of_mem _ hy)
    show f x + S f L ≤ ((L.length + 1 : Nat) : Int) * c
    rw [Int.natCast_add, Int.add_mul]
    show _ ≤ _ + 1 * c
    omega
/-! ### how great -/
theorem lg_mul {a b : Nat} (ha : 1 ≤ a) (hb : 1 ≤ b) : a.log2 + b.log2 ≤ (a * b).log2 := by
  have h0 : a * b ≠ 0 := Nat.ne_of_gt (Nat.mul_pos ha hb)
  rw [Nat.le_log2 h0, Nat.pow_add]
  exact Nat.mul_le_mul (Nat.log2_self_le (by omega)) (Nat.log2_self_le (by omega))
theorem lg_pos {a : Nat} (h : 2 ≤ a) : 1 ≤ a.log2 := (Nat.le_log2 (by omega)).mpr (by omega)
def om (x : Itm) : Int := (x.1.log2 : Nat)
def an (x : Itm) : Int := x.2.natAbs
def hv (x : Itm) : Int := x.2.natAbs * (x.1.log2 : Nat)
theorem om_nn (x : Itm) : 0 ≤ om x := by unfold om; omega
theorem an_nn (x : Itm) : 0 ≤ an x := by unfold an; omega
theorem hv_nn (x : Itm) : 0 ≤ hv x := by unfold hv; exact Int.mul_nonneg (by omega) (by omega)
/-! ### additive functions, up to some share -/
def Ad (f : Nat → Nat → Rat) : Prop := ∀ a b, 1 ≤ a → 1 ≤ b → Nr (f (a * b)) (fun N => f a N + f b N)
def ws (f : Nat → Nat → Rat) : List Itm → Nat → Rat
  | [], _ => 0
  | x :: L, N => (x.2 : Rat) * f x.1 N + ws f L N
theorem ws_app (f : Nat → Nat → Rat) (M : List Itm) (N : Nat) : ∀ L, ws f (L ++ M) N = ws f L N + ws f M N
  | [] => by show ws f M N = 0 + ws f M N; grind
  | x :: L => by show _ + ws f (L ++ M) N = _ + ws f L N + ws f M N; rw [ws_app f M N L]; grind
theorem ws_perm (f : Nat → Nat → Rat) (N : Nat) {L M : List Itm} (h : L.Perm M) : ws f L N = ws f M N := by
  induction h with
  | nil => rfl
  | cons x _ ih => show _ + _ = _ + _; rw [ih]
  | swap x y l => show (y.2 : Rat) * f y.1 N + ((x.2 : Rat) * f x.1 N + ws f l N) = (x.2 : Rat) * f x.1 N + ((y.2 : Rat) * f y.1 N + ws f l N); grind
  | trans _ _ a b => rw [a, b]
theorem Ad.one {f : Nat → Nat → Rat} (h : Ad f) : Nr (f 1) (fun _ => 0) := by
  have h1 := h 1 1 (by decide) (by decide)
  rw [Nat.mul_one] at h1
  have h2 := h1.add (Nr.refl (f 1)).neg
  exact ((Nr.of_eq fun N => by show (0 : Rat) = f 1 N + -f 1 N; grind).trans (h2.trans (Nr.of_eq fun N => by show f 1 N + f 1 N + -f 1 N = f 1 N; grind))).symm
/-- a base -/
structure Bs (B : List Itm) : Prop where
  nz : ∀ x, x ∈ B → x.2 ≠ 0 ∧ 2 ≤ x.1
  cp : B.Pairwise fun x y => Nat.gcd x.1 y.1 = 1
structure Iv (X : Nat) (L0 : List Itm) (T : Int) (m : Nat) (L B : List Itm) : Prop where
  bs : Bs B
  ps : ∀ x, x ∈ L → 1 ≤ x.1
  lL : ∀ x, x ∈ L → x.1 < X
  lB : ∀ x, x ∈ B → x.1 < X
  wt : ∀ f, Ad f → Nr (fun N => ws f L N + ws f B N) (ws f L0)
  hv : S hv L + S hv B ≤ T
  ab : ∀ x, x ∈ L → (x.2.natAbs : Int) ≤ T
  ms : 3 * (S om L + S om B) + L.length ≤ m
theorem ws_snoc (f : Nat → Nat → Rat) (L : List Itm) (x : Itm) (N : Nat) : ws f (L ++ [x]) N = ws f L N + (x.2 : Rat) * f x.1 N := by
  rw [ws_app]; show _ + (_ + 0) = _; grind
theorem S_snoc (f : Itm → Int) (L : List Itm) (x : Itm) : S f (L ++ [x]) = S f L + f x := by
  rw [S_app]; show _ + (f x + 0) = _; omega
theorem Iv.drop {X : Nat} {L0 : List Itm} {T : Int} {m : Nat} {L B : List Itm} {x : Itm} (h : Iv X L0 T m (L ++ [x]) B) (z : x.1 = 1 ∨ x.2 = 0) : ∃ m', m' < m ∧ Iv X L0 T m' L B := by
  have o := om_nn x
  have ms := h.ms
  have hh := h.hv
  rw [S_snoc, List.length_append] at ms
  rw [S_snoc] at hh
  have := hv_nn x
  have := S_nn om_nn L
  have := S_nn om_nn B
  have ms : 3 * (S om L + om x + S om B) + ((L.length + 1 : Nat) : Int) ≤ (m : Int) := ms
  refine ⟨3 * (S om L + S om B).toNat + L.length, by omega, h.bs, fun y hy => h.ps y (List.mem_append_left _ hy), fun y hy => h.lL y (List.mem_append_left _ hy), h.lB, fun f hf => ?_, by omega, fun y hy => h.ab y (List.mem_append_left _ hy), by omega⟩
  have w := h.wt f hf
  have z0 : Nr (fun N => (x.2 : Rat) * f x.1 N) (fun _ => 0) := by
    rcases z with z | z
    · rw [z]
      exact (hf.one.smul (x.2 : Rat)).trans (Nr.of_eq fun N => by show (x.2 : Rat) * 0 = 0; grind)
    · rw [z]
      exact Nr.of_eq fun N => by show ((0 : Int) : Rat) * _ = 0; rw [show ((0 : Int) : Rat) = 0 from rfl]; grind
  refine (Nr.of_eq fun N => ?_).trans ((((Nr.refl (fun N => ws f L N + ws f B N)).add z0.symm)).trans ((Nr.of_eq fun N => ?_).trans w))
  · show _ = ws f L N + ws f B N + 0; grind
  · show ws f L N + ws f B N + (x.2 : Rat) * f x.1 N = ws f (L ++ [x]) N + ws f B N
    rw [ws_snoc]; grind
theorem Iv.put {X : Nat} {L0 : List Itm} {T : Int} {m : Nat} {L B : List Itm} {x : Itm} (h : Iv X L0 T m (L ++ [x]) B) (z : 2 ≤ x.1) (n0 : x.2 ≠ 0) (hc : ∀ y, y ∈ B → Nat.gcd y.1 x.1 = 1) : ∃ m', m' < m ∧ Iv X L0 T m' L (B ++ [x]) := by
  have ms := h.ms
  have hh := h.hv
  rw [S_snoc] at ms hh
  rw [List.length_append] at ms
  have := S_nn om_nn L
  have := S_nn om_nn B
  have := om_nn x
  have ms : 3 * (S om L + om x + S om B) + ((L.length + 1 : Nat) : Int) ≤ (m : Int) := ms
  refine ⟨m - 1, by omega, ⟨fun y hy => ?_, ?_⟩, fun y hy => h.ps y (List.mem_append_left _ hy), fun y hy => h.lL y (List.mem_append_left _ hy), fun y hy => ?_, fun f hf => ?_, by rw [S_snoc]; omega, fun y hy => h.ab y (List.mem_append_left _ hy), by rw [S_snoc]; omega⟩
  · rcases List.mem_append.mp hy with w | w
    · exact h.bs.nz y w
    · rw [List.mem_singleton.mp w]; exact ⟨n0, z⟩
  · refine List.pairwise_append.mpr ⟨h.bs.cp, List.pairwise_singleton _ _, fun y hy y' hy' => ?_⟩
    rw [List.mem_singleton.mp hy']; exact hc y hy
  · rcases List.mem_append.mp hy with w | w
    · exact h.lB y w
    · rw [List.mem_singleton.mp w]; exact h.lL x (List.mem_append_right _ List.mem_cons_self)
  · refine (Nr.of_eq fun N => ?_).trans (h.wt f hf)
    show ws f L N + ws f (B ++ [x]) N = ws f (L ++ [x]) N + ws f B N
    rw [ws_snoc, ws_snoc]; grind
theorem er_perm : ∀ {B : List Itm} {i : Nat} (h : i < B.length), B.Perm (B[i] :: B.eraseIdx i)
  | x :: B, 0, _ => List.Perm.refl _
  | x :: B, i + 1, h => ((er_perm (B := B) (i := i) (Nat.lt_of_succ_lt_succ h)).cons x).trans (List.Perm.swap _ _ _)
theorem Iv.meet {X : Nat} {L0 : List Itm} {T : Int} {m i : Nat} {L B : List Itm} {x : Itm} (h : Iv X L0 T m (L ++ [x]) B) (hi : i < B.length) (hn : Nat.gcd (B[i]).1 x.1 ≠ 1) :
    ∃ m', m' < m ∧ Iv X L0 T m' (L ++ [(x.1 / Nat.gcd x.1 (B[i]).1, x.2)] ++ [((B[i]).1 / Nat.gcd x.1 (B[i]).1, (B[i]).2)] ++ [(Nat.gcd x.1 (B[i]).1, x.2 + (B[i]).2)]) (B.eraseIdx i) := by
  obtain ⟨y, hy⟩ : ∃ y, y = B[i] := ⟨_, rfl⟩
  rw [← hy] at hn ⊢
  have pm : B.Perm (y :: B.eraseIdx i) := by rw [hy]; exact er_perm hi
  have ym : y ∈ B := by rw [hy]; exact List.getElem_mem hi
  have xm : x ∈ L ++ [x] := List.mem_append_right _ List.mem_cons_self
  have x1 := h.ps x xm
  have xX := h.lL x xm
  have yX := h.lB y ym
  obtain ⟨y0, y2⟩ := h.bs.nz y ym
  obtain ⟨g, eg⟩ : ∃ g, g = Nat.gcd x.1 y.1 := ⟨_, rfl⟩
  rw [Nat.gcd_comm, ← eg] at hn
  rw [← eg]
  obtain ⟨a, ea⟩ : g ∣ x.1 := by rw [eg]; exact Nat.gcd_dvd_left ..
  obtain ⟨b, eb⟩ : g ∣ y.1 := by rw [eg]; exact Nat.gcd_dvd_right ..
  have g1 : 1 ≤ g := Nat.pos_of_ne_zero fun z => by rw [z, Nat.zero_mul] at ea; omega
  have g2 : 2 ≤ g := by omega
  have a1 : 1 ≤ a := Nat.pos_of_ne_zero fun z => by rw [z, Nat.mul_zero] at ea; omega
  have b1 : 1 ≤ b := Nat.pos_of_ne_zero fun z => by rw [z, Nat.mul_zero] at eb; omega
  have qa : x.1 / g = a := by rw [ea]; exact Nat.mul_div_cancel_left a g1
  have qb : y.1 / g = b := by rw [eb]; exact Nat.mul_div_cancel_left b g1
  rw [qa, qb]
  have sp : ∀ f : Itm → Int, S f B = f y + S f (B.eraseIdx i) := fun f => by rw [S_perm f pm]; rfl
  have wp : ∀ f N, ws f B N = (y.2 : Rat) * f y.1 N + ws f (B.eraseIdx i) N := fun f N => by rw [ws_perm f N pm]; rfl
  have s3 : ∀ (f : Itm → Int) (a b c : Itm), S f (L ++ [a] ++ [b] ++ [c]) = S f L + f a + f b + f c := fun f a b c => by rw [S_snoc, S_snoc, S_snoc]
  have ms := h.ms
  have hh := h.hv
  rw [S_snoc, sp, List.length_append] at ms
  rw [S_snoc, sp] at hh
  have l1 := lg_mul g1 a1
  have l2 := lg_mul g1 b1
  rw [← ea] at l1
  rw [← eb] at l2
  have lg := lg_pos g2
  have nnL := S_nn om_nn L
  have nnB := S_nn om_nn (B.eraseIdx i)
  have hL := S_nn hv_nn L
  have hB := S_nn hv_nn (B.eraseIdx i)
  have ox : om x = (x.1.log2 : Nat) := rfl
  have oy : om y = (y.1.log2 : Nat) := rfl
  have ms : 3 * (S om L + om x + (om y + S om (B.eraseIdx i))) + ((L.length + 1 : Nat) : Int) ≤ (m : Int) := ms
  have mulle : ∀ (n : Int) (i j k : Nat), i + j ≤ k → (n.natAbs : Int) * (i : Int) + (n.natAbs : Int) * (j : Int) ≤ (n.natAbs : Int) * (k : Int) := fun n i j k hk => by
    rw [← Int.mul_add]
    exact Int.mul_le_mul_of_nonneg_left (by omega) (by omega)
  have hx := mulle x.2 _ _ _ l1
  have hyy := mulle y.2 _ _ _ l2
  have tri : (((x.2 + y.2).natAbs : Nat) : Int) * (g.log2 : Int) ≤ x.2.natAbs * (g.log2 : Int) + y.2.natAbs * (g.log2 : Int) := by
    rw [← Int.add_mul]
    exact Int.mul_le_mul_of_nonneg_right (by have := Int.natAbs_add_le x.2 y.2; omega) (by omega)
  have vx : M18.hv x = (x.2.natAbs : Int) * (x.1.log2 : Int) := rfl
  have vy : M18.hv y = (y.2.natAbs : Int) * (y.1.log2 : Int) := rfl
  have hv3 : S M18.hv (L ++ [(a, x.2)] ++ [(b, y.2)] ++ [(g, x.2 + y.2)]) + S M18.hv (B.eraseIdx i) ≤ T := by
    rw [s3]
    have a1 : M18.hv (a, x.2) = x.2.natAbs * (a.log2 : Int) := rfl
    have a2 : M18.hv (b, y.2) = y.2.natAbs * (b.log2 : Int) := rfl
    have a3 : M18.hv (g, x.2 + y.2) = (((x.2 + y.2).natAbs : Nat) : Int) * (g.log2 : Int) := rfl
    rw [a1, a2, a3]
    omega
  have ax : ∀ n : Int, ∀ k : Nat, 1 ≤ k → (n.natAbs : Int) ≤ n.natAbs * (k : Int) := fun n k hk => by
    have := Int.mul_le_mul_of_nonneg_left (show (1 : Int) ≤ k by omega) (show (0 : Int) ≤ (n.natAbs : Int) by omega)
    omega
  have vx0 := hv_nn x
  have y1 : (y.2.natAbs : Int) ≤ T := by
    have h1 := ax y.2 y.1.log2 (lg_pos y2)
    omega
  have s1 : (((x.2 + y.2).natAbs : Nat) : Int) ≤ T := by
    have h1 := ax (x.2 + y.2) _ lg
    have p1 : 0 ≤ (x.2.natAbs : Int) * (a.log2 : Int) := Int.mul_nonneg (by omega) (by omega)
    have p2 : 0 ≤ (y.2.natAbs : Int) * (b.log2 : Int) := Int.mul_nonneg (by omega) (by omega)
    omega
  have aX : a < X := Nat.lt_of_le_of_lt (by rw [ea]; exact Nat.le_mul_of_pos_left a g1) xX
  have bX : b < X := Nat.lt_of_le_of_lt (by rw [eb]; exact Nat.le_mul_of_pos_left b g1) yX
  have gX : g < X := Nat.lt_of_le_of_lt (by rw [ea]; exact Nat.le_mul_of_pos_right g a1) xX
  have all : ∀ p : Itm → Prop, (∀ z, z ∈ L → p z) → p (a, x.2) → p (b, y.2) → p (g, x.2 + y.2) → ∀ z, z ∈ L ++ [(a, x.2)] ++ [(b, y.2)] ++ [(g, x.2 + y.2)] → p z := fun p h0 h1 h2 h3 z hz => by
    rcases List.mem_append.mp hz with hz | hz
    · rcases List.mem_append.mp hz with hz | hz
      · rcases List.mem_append.mp hz with hz | hz
        · exact h0 z hz
        · rw [List.mem_singleton.mp hz]; exact h1
      · rw [List.mem_singleton.mp hz]; exact h2
    · rw [List.mem_singleton.mp hz]; exact h3
  refine ⟨m - 1, by omega, ⟨fun z hz => h.bs.nz z (List.mem_of_mem_eraseIdx hz), h.bs.cp.sublist (List.eraseIdx_sublist _ _)⟩, all _ (fun z hz => h.ps z (List.mem_append_left _ hz)) a1 b1 g1, all _ (fun z hz => h.lL z (List.mem_append_left _ hz)) aX bX gX, fun z hz => h.lB z (List.mem_of_mem_eraseIdx hz), fun f hf => ?_, hv3, all _ (fun z hz => h.ab z (List.mem_append_left _ hz)) (h.ab x xm) y1 s1, ?_⟩
  · have w := h.wt f hf
    have n1 := hf g a g1 a1
    have n2 := hf g b g1 b1
    rw [← ea] at n1
    rw [← eb] at n2
    have t := (((Nr.refl (fun N => ws f L N + ws f (B.eraseIdx i) N)).add ((n1.symm.smul (x.2 : Rat)).add (n2.symm.smul (y.2 : Rat)))))
    refine (Nr.of_eq fun N => ?_).trans (t.trans ((Nr.of_eq fun N => ?_).trans w))
    · show ws f (L ++ [(a, x.2)] ++ [(b, y.2)] ++ [(g, x.2 + y.2)]) N + ws f (B.eraseIdx i) N = ws f L N + ws f (B.eraseIdx i) N + ((x.2 : Rat) * (f g N + f a N) + (y.2 : Rat) * (f g N + f b N))
      rw [ws_snoc, ws_snoc, ws_snoc, Rat.intCast_add]
      show ws f L N + (x.2 : Rat) * f a N + (y.2 : Rat) * f b N + ((x.2 : Rat) + (y.2 : Rat)) * f g N + ws f (B.eraseIdx i) N = _
      grind
    · show ws f L N + ws f (B.eraseIdx i) N + ((x.2 : Rat) * f x.1 N + (y.2 : Rat) * f y.1 N) = ws f (L ++ [x]) N + ws f B N
      rw [ws_snoc, wp]; grind
  · rw [s3]
    have o1 : om (a, x.2) = (a.log2 : Nat) := rfl
    have o2 : om (b, y.2) = (b.log2 : Nat) := rfl
    have o3 : om (g, x.2 + y.2) = (g.log2 : Nat) := rfl
    rw [o1, o2, o3]
    simp only [List.length_append, List.length_cons, List.length_nil]
    omega
/-! ### a prime's power -/
/-- a least factor is prime -/
theorem prime_ex {n : Nat} (h : 2 ≤ n) : ∃ p, 2 ≤ p ∧ p ∣ n ∧ ∀ a b, p ∣ a * b → p ∣ a ∨ p ∣ b := by
  have min : ∃ p, (2 ≤ p ∧ p ∣ n) ∧ ∀ q, q < p → ¬ (2 ≤ q ∧ q ∣ n) := by
    have key : ∀ k p, p ≤ k → (2 ≤ p ∧ p ∣ n) → ∃ p, (2 ≤ p ∧ p ∣ n) ∧ ∀ q, q < p → ¬ (2 ≤ q ∧ q ∣ n) := by
      intro k
      induction k with
      | zero => intro p hp hh; omega
      | succ k ih =>
        intro p hp hh
        by_cases c : ∃ q, q < p ∧ (2 ≤ q ∧ q ∣ n)
        · obtain ⟨q, h1, h2⟩ := c
          exact ih q (by omega) h2
        · exact ⟨p, hh, fun q hq w => c ⟨q, hq, w⟩⟩
    exact key n n (Nat.le_refl n) ⟨h, Nat.dvd_refl n⟩
  obtain ⟨p, ⟨p2, pn⟩, hm⟩ := min
  refine ⟨p, p2, pn, fun a b hab => ?_⟩
  by_cases c : Nat.gcd p a = 1
  · exact .inr (Nat.Coprime.dvd_of_dvd_mul_left c hab)
  · refine .inl ?_
    have d1 : Nat.gcd p a ∣ p := Nat.gcd_dvd_left ..
    have d0 : 0 < Nat.gcd p a := Nat.gcd_pos_of_pos_left _ (by omega)
    have le := Nat.le_of_dvd (by omega) d1
    have e : Nat.gcd p a = p := by
      refine Nat.le_antisymm le (Nat.le_of_not_lt fun lt => hm _ lt ⟨by omega, Nat.dvd_trans d1 pn⟩)
    rw [← e]; exact Nat.gcd_dvd_right ..
/-- how often p divides n, of k turns -/
def vp (p : Nat) : Nat → Nat → Nat
  | 0, _ => 0
  | k + 1, n => if p ∣ n then vp p k (n / p) + 1 else 0
theorem vp_more {p : Nat} (hp : 2 ≤ p) : ∀ k n, 1 ≤ n → n ≤ k → vp p k n = vp p (k + 1) n
  | 0, n, h, g => by omega
  | k + 1, n, h, g => by
    show (if p ∣ n then vp p k (n / p) + 1 else 0) = if p ∣ n then vp p (k + 1) (n / p) + 1 else 0
    by_cases c : p ∣ n
    · rw [if_pos c, if_pos c]
      have h1 : n / p < n := Nat.div_lt_self h hp
      have h2 : 1 ≤ n / p := Nat.div_pos (Nat.le_of_dvd h c) (by omega)
      rw [vp_more hp k (n / p) h2 (by omega)]
    · rw [if_neg c, if_neg c]
theorem vp_up {p : Nat} (hp : 2 ≤ p) {n : Nat} (h : 1 ≤ n) {k : Nat} (g : n ≤ k) : vp p k n = vp p n n := by
  induction k with
  | zero => omega
  | succ k ih =>
    by_cases c : n = k + 1
    · rw [c]
    · rw [← vp_more hp k n h (by omega), ih (by omega)]
def val (p n : Nat) : Nat := vp p n n
theorem val_no {p n : Nat} (c : ¬ p ∣ n) : val p n = 0 := by
  unfold val
  cases n with
  | zero => rfl
  | succ n => show (if p ∣ n + 1 then _ else 0) = 0; rw [if_neg c]
theorem val_mul {p : Nat} (hp : 2 ≤ p) {n : Nat} (h : 1 ≤ n) : val p (p * n) = val p n + 1 := by
  have pn : 1 ≤ p * n := Nat.mul_pos (by omega) h
  obtain ⟨k, ek⟩ : ∃ k, p * n = k + 1 := ⟨p * n - 1, by omega⟩
  have hk : n ≤ k := by
    have : 2 * n ≤ p * n := Nat.mul_le_mul_right n hp
    omega
  unfold val
  have e : vp p (p * n) (p * n) = vp p (k + 1) (p * n) := congrArg (fun t => vp p t (p * n)) ek
  rw [e]
  show (if p ∣ p * n then vp p k (p * n / p) + 1 else 0) = _
  rw [if_pos (Nat.dvd_mul_right p n), Nat.mul_div_cancel_left n (by omega : 0 < p), vp_up hp h hk]
theorem val_add {p : Nat} (hp : 2 ≤ p) (pr : ∀ a b, p ∣ a * b → p ∣ a ∨ p ∣ b) : ∀ k a b, a + b ≤ k → 1 ≤ a → 1 ≤ b → val p (a * b) = val p a + val p b := by
  intro k
  induction k with
  | zero => intro a b h1 h2 h3; omega
  | succ k ih =>
    intro a b hk ha hb
    by_cases ca : p ∣ a
    · obtain ⟨a', rfl⟩ := ca
      have a1 : 1 ≤ a' := Nat.pos_of_ne_zero fun z => by rw [z, Nat.mul_zero] at ha; omega
      have : 2 * a' ≤ p * a' := Nat.mul_le_mul_right a' hp
      rw [Nat.mul_assoc, val_mul hp (Nat.mul_pos a1 hb), val_mul hp a1, ih a' b (by omega) a1 hb]; omega
    · by_cases cb : p ∣ b
      · obtain ⟨b', rfl⟩ := cb
        have b1 : 1 ≤ b' := Nat.pos_of_ne_zero fun z => by rw [z, Nat.mul_zero] at hb; omega
        have : 2 * b' ≤ p * b' := Nat.mul_le_mul_right b' hp
        rw [Nat.mul_left_comm, val_mul hp (Nat.mul_pos ha b1), val_mul hp b1, ih a b' (by omega) ha b1]; omega
      · have cab : ¬ p ∣ a * b := fun w => by rcases pr a b w with w | w; exact ca w; exact cb w
        rw [val_no ca, val_no cb, val_no cab]
/-- a prime's power as an additive function -/
theorem ad_val {p : Nat} (hp : 2 ≤ p) (pr : ∀ a b, p ∣ a * b → p ∣ a ∨ p ∣ b) : Ad fun n _ => (val p n : Rat) := fun a b ha hb => Nr.of_eq fun N => by
  show ((val p (a * b) : Nat) : Rat) = (val p a : Rat) + (val p b : Rat)
  rw [val_add hp pr (a + b) a b (Nat.le_refl _) ha hb, Rat.natCast_add]
theorem ad_A : Ad fun n N => A n 1 N := fun a b ha hb => by
  have := nr_mul (q := 1) (q' := 1) ha (Nat.le_refl 1) hb (Nat.le_refl 1)
  exact this
theorem nr_const {a b : Rat} (h : Nr (fun _ => a) (fun _ => b)) : a = b := by
  obtain ⟨C, c0, h⟩ := h
  have h1 := @no_share (a - b) C fun N n => (h N n).1
  have h2 := @no_share (b - a) C fun N n => (h N n).2
  grind
/-- where nothing weighs nothing is left -/
theorem bs_nil {B : List Itm} (hB : Bs B) (h : ∀ f, Ad f → Nr (ws f B) (fun _ => 0)) : B = [] := by
  cases B with
  | nil => rfl
  | cons x C =>
    exfalso
    obtain ⟨n0, x2⟩ := hB.nz x List.mem_cons_self
    obtain ⟨p, p2, px, pr⟩ := prime_ex x2
    have w := h _ (ad_val p2 pr)
    obtain ⟨c1, _⟩ := List.pairwise_cons.mp hB.cp
    have zero : ∀ D : List Itm, (∀ y, y ∈ D → ¬ p ∣ y.1) → ∀ N, ws (fun n _ => (val p n : Rat)) D N = 0 := fun D => by
      induction D with
      | nil => intro _ _; rfl
      | cons y D ih =>
        intro hy N
        show (y.2 : Rat) * (val p y.1 : Rat) + ws _ D N = 0
        rw [ih (fun z hz => hy z (List.mem_cons_of_mem _ hz)), val_no (hy y List.mem_cons_self), show ((0 : Nat) : Rat) = 0 from rfl]; grind
    have zc := zero C fun y hy pd => by
      have g := c1 y hy
      have := Nat.dvd_gcd px pd
      rw [g] at this
      have := Nat.le_of_dvd (by decide) this
      omega
    have w2 : Nr (fun _ => (x.2 : Rat) * (val p x.1 : Rat)) (fun _ => 0) := by
      refine (Nr.of_eq fun N => ?_).trans w
      show _ = (x.2 : Rat) * (val p x.1 : Rat) + ws (fun n _ => (val p n : Rat)) C N
      rw [zc]; grind
    have e := nr_const w2
    have vx : 1 ≤ val p x.1 := by
      obtain ⟨k, ek⟩ := px
      have k1 : 1 ≤ k := Nat.pos_of_ne_zero fun z => by rw [z, Nat.mul_zero] at ek; omega
      rw [ek, val_mul p2 k1]; omega
    rcases Rat.mul_eq_zero.mp e with e | e
    · exact n0 (by exact_mod_cast e)
    · have : val p x.1 = 0 := by exact_mod_cast e
      omega
end M18

/-! M18: any whole numbers made coprime; the sign of a log number. -/
namespace M18
open PySem PySem.Spec L2 VL M1 M2 M3 M17
open M14 (perm_map div_zero div_add' div_neg' snoc_ex enum_any f_divisor_of G14)
abbrev f_meeting18 : Nat := 90
abbrev f_refined18 : Nat := 91
abbrev f_settled18 : Nat := 92
abbrev f_n_plus18 : Nat := 93
abbrev f_n_scaled18 : Nat := 94
abbrev f_sign_of18 : Nat := 95
/-- meeting18: 0 base, 1 whole, 2 place, 3 pair -/
def b_meeting18 : Ss := ss [.for (.tp [2, 3]) (.enum (.var 0)) (ss [.ite (.cmp .gt (.call f_divisor_of (.cons (.ix (.var 3) (.int 0)) (.cons (.var 1) .nil))) (.int 1)) (ss [.ret (.var 2)]) (ss [])]),
  .ret .non]
/-- refined18: 0 todo, 1 base, 2 whole, 3 c, 4 place, 5 other, 6 e, 7 by -/
def b_refined18 : Ss := ss [.asg 0 (.blt .list (.cons (.var 0) .nil)),
  .asg 1 (.lst .nil),
  .whl (.cmp .gt (.blt .len (.cons (.var 0) .nil)) (.int 0)) (ss [.asgT [2, 3] (.mth .pop 0 .nil),
  .ite (.or (.cmp .eq (.var 2) (.int 1)) (.cmp .eq (.var 3) (.glo (.tup [.int 0, .int 1])))) (ss [.cnt]) (ss []),
  .asg 4 (.call f_meeting18 (.cons (.var 1) (.cons (.var 2) .nil))),
  .ite (.cmp .isN (.var 4) .non) (ss [.ex (.mth .append 1 (.cons (.tup (.cons (.var 2) (.cons (.var 3) .nil))) .nil))]) (ss [.asgT [5, 6] (.mth .popAt 1 (.cons (.var 4) .nil)),
   .asg 7 (.call f_divisor_of (.cons (.var 2) (.cons (.var 5) .nil))),
   .ex (.mth .append 0 (.cons (.tup (.cons (.bin .fdiv (.var 2) (.var 7)) (.cons (.var 3) .nil))) .nil)),
   .ex (.mth .append 0 (.cons (.tup (.cons (.bin .fdiv (.var 5) (.var 7)) (.cons (.var 6) .nil))) .nil)),
   .ex (.mth .append 0 (.cons (.tup (.cons (.var 7) (.cons (.call f_plus (.cons (.var 3) (.cons (.var 6) .nil))) .nil))) .nil))])]),
  .ret (.blt .sortedP (.cons (.var 1) .nil))]
/-- settled18: 0 q, 1 rows, 2 todo, 3 c, 4 r, 5 whole -/
def b_settled18 : Ss := ss [.asg 2 (.lst .nil),
  .for (.tp [3, 4]) (.seq (.var 1)) (ss [.ex (.mth .append 2 (.cons (.tup (.cons (.ix (.var 4) (.int 0)) (.cons (.var 3) .nil))) .nil)),
  .ex (.mth .append 2 (.cons (.tup (.cons (.ix (.var 4) (.int 1)) (.cons (.call f_minus (.cons (.glo (.tup [.int 0, .int 1])) (.cons (.var 3) .nil))) .nil))) .nil))]),
  .ret (.tup (.cons (.var 0) (.cons (.blt .tuple (.cons (.lc (.tup (.cons (.var 3) (.cons (.tup (.cons (.var 5) (.cons (.int 1) .nil))) .nil))) (.tp [5, 3]) (.seq (.call f_refined18 (.cons (.var 2) .nil))) [5, 3] .no) .nil)) .nil)))]
/-- n_plus18: 0 one, 1 other -/
def b_n_plus18 : Ss := ss [.ret (.call f_settled18 (.cons (.call f_plus (.cons (.ix (.var 0) (.int 0)) (.cons (.ix (.var 1) (.int 0)) .nil))) (.cons (.bin .add (.blt .list (.cons (.ix (.var 0) (.int 1)) .nil)) (.blt .list (.cons (.ix (.var 1) (.int 1)) .nil))) .nil)))]
/-- n_scaled18: 0 one, 1 c, 2 e, 3 r -/
def b_n_scaled18 : Ss := ss [.ret (.call f_settled18 (.cons (.call f_times (.cons (.ix (.var 0) (.int 0)) (.cons (.var 1) .nil))) (.cons (.lc (.tup (.cons (.call f_times (.cons (.var 2) (.cons (.var 1) .nil))) (.cons (.var 3) .nil))) (.tp [2, 3]) (.seq (.ix (.var 0) (.int 1))) [2, 3] .no) .nil)))]
/-- sign_of18: 0 one, 1 width, 2 low, 3 high -/
def b_sign_of18 : Ss := ss [.asg 0 (.call f_settled18 (.cons (.ix (.var 0) (.int 0)) (.cons (.blt .list (.cons (.ix (.var 0) (.int 1)) .nil)) .nil))),
  .asg 1 (.tup (.cons (.int 1) (.cons (.int 1) .nil))),
  .asgT [2, 3] (.call f_held (.cons (.var 0) (.cons (.var 1) .nil))),
  .whl (.or (.chain .lt .lt (.ix (.var 2) (.int 0)) (.int 0) (.ix (.var 3) (.int 0))) (.and (.cmp .eq (.bin .mul (.ix (.var 2) (.int 0)) (.ix (.var 3) (.int 0))) (.int 0)) (.cmp .ne (.var 2) (.var 3)))) (ss [.asg 1 (.call f_over (.cons (.var 1) (.cons (.tup (.cons (.int 256) (.cons (.int 1) .nil))) .nil))),
  .asgT [2, 3] (.call f_held (.cons (.var 0) (.cons (.var 1) .nil)))]),
  .ret (.bin .sub (.blt .int (.cons (.cmp .gt (.ix (.var 2) (.int 0)) (.int 0)) .nil)) (.blt .int (.cons (.cmp .lt (.ix (.var 3) (.int 0)) (.int 0)) .nil)))]
def dI (E : Nat) (x : Itm) : VL.D := .tup [.int (x.1 : Nat), dR (Rat.divInt x.2 E)]
/-- a row: top, bottom, c -/
abbrev Rx := Nat × Nat × Int
def dW (E : Nat) (r : Rx) : VL.D := .tup [dR (Rat.divInt r.2.2 E), .tup [.int (r.1 : Nat), .int (r.2.1 : Nat)]]
def dN (E : Nat) (x : Itm) : VL.D := .tup [dR (Rat.divInt x.2 E), .tup [.int (x.1 : Nat), .int 1]]
def todo : List Rx → List Itm
  | [] => []
  | r :: R => (r.1, r.2.2) :: (r.2.1, -r.2.2) :: todo R
/-- what is settled of L -/
structure Fin (X : Nat) (L B : List Itm) : Prop where
  bs : Bs B
  up : B.Pairwise fun x y => x.1 < y.1
  wt : ∀ f, Ad f → Nr (ws f B) (ws f L)
  few : B.length ≤ 1000000
  ab : ∀ x, x ∈ B → x.2.natAbs ≤ 1000000000000000000
  lX : ∀ x, x ∈ B → x.1 < X
  hvB : S hv B ≤ S hv L + S an L
  msB : 3 * S om B ≤ 3 * S om L + L.length
/-- what may be settled -/
structure Ok (E X : Nat) (L : List Itm) : Prop where
  E0 : 0 < E
  E1 : E ≤ 1000000000000000000
  ps : ∀ x, x ∈ L → 1 ≤ x.1
  lX : ∀ x, x ∈ L → x.1 < X
  hv : S hv L + S an L ≤ 1000000000000000000
  ms : 3 * S om L + L.length ≤ 1000000
theorem Ok.ab {E X : Nat} {L : List Itm} (h : Ok E X L) : ∀ x, x ∈ L → (x.2.natAbs : Int) ≤ 1000000000000000000 := fun x hx => by
  have h1 := S_le an_nn hx
  have h2 := S_nn hv_nn L
  have h3 := h.hv
  have h4 : an x = (x.2.natAbs : Int) := rfl
  omega
def vMeeting18 : VF := ⟨.read, fun ds q => ∃ (E : Nat) (B : List Itm) (w : Nat), ds = [.lst (B.map (dI E)), .int (w : Nat)] ∧ 1 ≤ w ∧ ((∀ x, x ∈ B → Nat.gcd x.1 w = 1) → q (.val .non) none) ∧ ∀ (i : Nat) (h : i < B.length), Nat.gcd (B[i]).1 w ≠ 1 → q (.val (.int i)) none⟩
def vRefined18 : VF := ⟨.read, fun ds q => ∃ (E X : Nat) (L : List Itm), ds = [.lst (L.map (dI E))] ∧ Ok E X L ∧ ∀ B, Fin X L B → q (.fresh (B.map (dI E))) none⟩
def vSettled18 : VF := ⟨.read, fun ds q => ∃ (E X : Nat) (r : Rat) (R : List Rx), ds = [dR r, .lst (R.map (dW E))] ∧ Ok E X (todo R) ∧ ∀ B, Fin X (todo R) B → q (.val (.tup [dR r, .tup (B.map (dN E))])) none⟩
def vNPlus18 : VF := ⟨.read, fun ds q => ∃ (E X : Nat) (r s : Rat) (R M : List Rx), ds = [.tup [dR r, .tup (R.map (dW E))], .tup [dR s, .tup (M.map (dW E))]] ∧ Sz r ∧ Sz s ∧ Ok E X (todo (R ++ M)) ∧ ∀ B, Fin X (todo (R ++ M)) B → q (.val (.tup [dR (r + s), .tup (B.map (dN E))])) none⟩
def mulR (p : Int) (R : List Rx) : List Rx := R.map fun r => (r.1, r.2.1, r.2.2 * p)
def vNScaled18 : VF := ⟨.read, fun ds q => ∃ (E X : Nat) (p : Int) (r : Rat) (R : List Rx), ds = [.tup [dR r, .tup (R.map (dW E))], .tup [.int p, .int 1]] ∧ p.natAbs ≤ 1000000000000000000 ∧ Sz r ∧ Ok E X (todo R) ∧ Ok E X (todo (mulR p R)) ∧ ∀ B, Fin X (todo (mulR p R)) B → q (.val (.tup [dR (r * p), .tup (B.map (dN E))])) none⟩
/-- rows as their sums -/
def toL (E : Nat) (r : Rx) : Lr := (Rat.divInt r.2.2 E, r.1, r.2.1)
def worth (E : Nat) (R : List Rx) : Nat → Rat := lsum (R.map (toL E))
/-- away from nought by 2 ^ -t, on the side of z -/
def SgD (t : Nat) (z : Int) (g : Nat → Rat) : Prop :=
  (z = 1 ∧ ∃ d : Rat, 1 ≤ d * 2 ^ t ∧ ∃ C, 0 ≤ C ∧ ∀ N, 1 ≤ N → d ≤ g N + C * u N) ∨ (z = -1 ∧ ∃ d : Rat, 1 ≤ d * 2 ^ t ∧ ∃ C, 0 ≤ C ∧ ∀ N, 1 ≤ N → g N ≤ -d + C * u N)
theorem SgD.near {t : Nat} {z : Int} {g g' : Nat → Rat} : SgD t z g → Nr g g' → SgD t z g' := fun h ⟨D, D0, h2⟩ => by
  rcases h with ⟨e, d, hd, C, C0, hl⟩ | ⟨e, d, hd, C, C0, hl⟩
  · exact .inl ⟨e, d, hd, C + D, by grind, fun N n => by have := hl N n; have := h2 N n; grind⟩
  · exact .inr ⟨e, d, hd, C + D, by grind, fun N n => by have := hl N n; have := h2 N n; grind⟩
theorem SgD.neg {t : Nat} {z : Int} {g : Nat → Rat} : SgD t z g → SgD t (-z) (fun N => - g N) := fun h => by
  rcases h with ⟨e, d, hd, C, C0, hl⟩ | ⟨e, d, hd, C, C0, hl⟩
  · exact .inr ⟨by rw [e], d, hd, C, C0, fun N n => by have := hl N n; grind⟩
  · exact .inl ⟨by rw [e]; rfl, d, hd, C, C0, fun N n => by have := hl N n; grind⟩
/-- what sign_of may be asked: a worth away from nought, or nought altogether -/
def vSignOf18 : VF := ⟨.read, fun ds q => ∃ (E X t : Nat) (r : Rat) (R : List Rx) (z : Int), ds = [.tup [dR r, .tup (R.map (dW E))]] ∧ Ok E X (todo R) ∧ X ≤ 2 ^ 600 ∧ RB' 600 r ∧ t ≤ 580 ∧ 3 * S om (todo R) + (todo R).length ≤ 12000 ∧
  (SgD t z (fun N => r + worth E R N) ∨ (z = 0 ∧ r = 0 ∧ ∀ f, Ad f → Nr (ws f (todo R)) (fun _ => 0))) ∧ q (.val (.int z)) none⟩
noncomputable def G18 (L : Nat → VF) : Nat → VF
  | 0 => vMeeting18
  | 1 => vRefined18
  | 2 => vSettled18
  | 3 => vNPlus18
  | 4 => vNScaled18
  | 5 => vSignOf18
  | 6 => vStub
  | 7 => vStub
  | 8 => vStub
  | 9 => vStub
  | n + 10 => L n
variable {L : Nat → VF}
noncomputable abbrev Gw (L : Nat → VF) : Nat → VF := G1 (G2 (G3 (G14 (G17 (G18 L)))))
theorem good_meeting18 : Good (Gw L) b_meeting18 2 2 vMeeting18 := by
  rintro ds q ⟨E, B, e, rfl, e1, hN, hY⟩ -
  refine ⟨fun k ρ => ∃ s2 s3, ρ = [.val (.lst (B.map (dI E))), .val (.int (e : Nat)), s2, s3] ∧ ∀ x, x ∈ B.take k → Nat.gcd x.1 e = 1, ⟨_, _, rfl, fun x h => by simp at h⟩, ?_, ?_⟩
  · rintro k d _ hd ⟨s2, s3, rfl, h⟩
    obtain ⟨y, hy, rfl⟩ := enum_any hd
    rw [List.getElem?_map] at hy
    obtain ⟨x, hx, rfl⟩ := Option.map_eq_some_iff.mp hy
    obtain ⟨hk, ex⟩ := List.getElem?_eq_some_iff.mp hx
    refine ⟨rfl, _, rfl, rfl, x.1, e, rfl, .inl rfl, fun t => ?_, fun t => ?_⟩
    · have t : (1 : Int) < ((Nat.gcd x.1 e : Nat) : Int) := dec_t t
      exact hY k hk fun z => by
        rw [ex] at z
        rw [z] at t
        exact absurd t (by decide)
    · have t : ¬ (1 : Int) < ((Nat.gcd x.1 e : Nat) : Int) := dec_f t
      have p : 0 < Nat.gcd x.1 e := Nat.gcd_pos_of_pos_right _ e1
      refine ⟨_, _, rfl, fun z hz => ?_⟩
      rw [List.take_succ, hx] at hz
      rcases List.mem_append.mp hz with w | w
      · exact h z w
      · have : z = x := by simpa using w
        rw [this]
        omega
  · rintro _ ⟨s2, s3, rfl, h⟩
    rw [List.length_mapIdx, List.length_map, List.take_length] at h
    exact hN h
theorem lfs_dI (E : Nat) : ∀ B : List Itm, lfs (B.map (dI E)) = true
  | [] => rfl
  | x :: B => by show (lf (dI E x) && lfs (B.map (dI E))) = true; rw [lfs_dI E B]; rfl
theorem erase_map (E i : Nat) (B : List Itm) : (B.map (dI E)).eraseIdx i = (B.eraseIdx i).map (dI E) := by
  induction B generalizing i with
  | nil => rfl
  | cons x B ih => cases i with
    | zero => rfl
    | succ i => show dI E x :: (B.map (dI E)).eraseIdx i = dI E x :: (B.eraseIdx i).map (dI E); rw [ih]
theorem len_om : ∀ {C : List Itm}, (∀ x, x ∈ C → 2 ≤ x.1) → (C.length : Int) ≤ S om C
  | [], _ => Int.le_refl 0
  | x :: C, h => by
    have h1 := lg_pos (h x List.mem_cons_self)
    have h2 := len_om (C := C) fun y hy => h y (List.mem_cons_of_mem _ hy)
    show ((C.length + 1 : Nat) : Int) ≤ ((x.1.log2 : Nat) : Int) + S om C
    omega
theorem good_refined18 : Good (Gw L) b_refined18 1 7 vRefined18 := by
  rintro ds q ⟨E, X, L0, rfl, hO, hq⟩ -
  have E0 := hO.E0
  have E1 := hO.E1
  have hT := hO.hv
  have m6 := hO.ms
  obtain ⟨m0, em0⟩ : ∃ m0 : Nat, (m0 : Int) = 3 * S om L0 + L0.length := ⟨(3 * S om L0 + L0.length).toNat, by have := S_nn om_nn L0; omega⟩
  refine ⟨rfl, fun m ρ => ∃ (M B : List Itm) (s2 s3 s4 s5 s6 s7 : Sl), ρ = [.own (M.map (dI E)), .own (B.map (dI E)), s2, s3, s4, s5, s6, s7] ∧ Iv X L0 (S hv L0 + S an L0) m M B ∧ m ≤ m0, ⟨m0, L0, [], _, _, _, _, _, _, rfl, ⟨⟨fun x h => (by cases h), List.Pairwise.nil⟩, hO.ps, hO.lX, fun x h => (by cases h), fun f _ => Nr.of_eq fun N => by show ws f L0 N + 0 = ws f L0 N; grind, by have := S_nn an_nn L0; show S hv L0 + 0 ≤ _; omega, fun x hx => by have h1 := S_le an_nn hx; have h2 := S_nn hv_nn L0; have h4 : an x = (x.2.natAbs : Int) := rfl; omega, by show 3 * (S om L0 + 0) + _ ≤ _; omega⟩, Nat.le_refl _⟩, ?_⟩
  rintro m _ ⟨M, B, s2, s3, s4, s5, s6, s7, rfl, hI, hm⟩
  have wI := hI.ms
  have nn1 := S_nn om_nn M
  have nn2 := S_nn om_nn B
  have nh1 := S_nn hv_nn M
  have nh2 := S_nn hv_nn B
  have hhv := hI.hv
  have bB := len_om fun x hx => (hI.bs.nz x hx).2
  have bab : ∀ x, x ∈ B → (x.2.natAbs : Int) ≤ 1000000000000000000 := fun x hx => by
    have h1 := S_le hv_nn hx
    have h2 : hv x = x.2.natAbs * (x.1.log2 : Int) := rfl
    have h3 : (1 : Int) ≤ (x.1.log2 : Int) := by have := lg_pos (hI.bs.nz x hx).2; omega
    have h4 := Int.mul_le_mul_of_nonneg_left h3 (show (0 : Int) ≤ (x.2.natAbs : Int) by omega)
    omega
  refine ⟨fun t => ?_, fun t => ?_⟩
  · have t : decide ((0 : Int) < ((M.map (dI E)).length : Nat)) = true := t
    have t := of_decide_eq_true t
    rw [List.length_map] at t
    obtain ⟨M', x, rfl⟩ := snoc_ex (l := M) (by omega)
    rw [List.length_append] at wI
    simp only [List.length_cons, List.length_nil] at wI
    have xab := hI.ab x (List.mem_append_right _ (List.mem_singleton.mpr rfl))
    have rx := M14.Ok.n E0 E1 (n := x.2) (by omega)
    have el : ((M' ++ [x]).map (dI E)).getLast? = some (dI E x) := by rw [List.map_append]; simp
    have ed : ((M' ++ [x]).map (dI E)).dropLast = M'.map (dI E) := by rw [List.map_append]; simp
    refine ⟨rfl, dI E x, el, rfl, ?_⟩
    show wSs (Gw L) _ [.own ((M' ++ [x]).map (dI E)).dropLast, _, _, _, _, _, _, _] _
    rw [ed]
    refine ⟨fun g => ?_, fun g => ⟨rfl, rfl, fun g2 => ?_, fun g2 => ?_⟩⟩
    · have g : decide (((x.1 : Nat) : Int) = 1) = true := g
      have g := of_decide_eq_true g
      obtain ⟨m', h1, h2⟩ := hI.drop (.inl (by omega))
      exact ⟨fun _ => ⟨m', h1, M', B, _, _, _, _, _, _, rfl, h2, by omega⟩, fun h => (by cases h)⟩
    · have g2 : deq (dR (Rat.divInt x.2 E)) (dR 0) = true := g2
      rw [deq_dR] at g2
      obtain ⟨m', h1, h2⟩ := hI.drop (.inr ((div_zero E0).mp (of_decide_eq_true g2)))
      exact ⟨m', h1, M', B, _, _, _, _, _, _, rfl, h2, by omega⟩
    · have g : decide (((x.1 : Nat) : Int) = 1) = false := g
      have g := of_decide_eq_false g
      have g2 : deq (dR (Rat.divInt x.2 E)) (dR 0) = false := g2
      rw [deq_dR] at g2
      have x0 : x.2 ≠ 0 := fun z => of_decide_eq_false g2 ((div_zero E0).mpr z)
      have x1 : 1 ≤ x.1 := hI.ps x (List.mem_append_right _ (List.mem_singleton.mpr rfl))
      have xo : 2 ≤ x.1 := by omega
      refine ⟨rfl, E, B, x.1, rfl, x1, fun hc => ⟨.inr rfl, fun _ => ?_, fun h => (by cases h)⟩, fun i hi hn => ⟨.inr rfl, fun h => (by cases h), fun _ => ?_⟩⟩
      · obtain ⟨m', h1, h2⟩ := hI.put xo x0 hc
        exact ⟨rfl, rfl, by rw [List.length_map]; omega, m', h1, M', B ++ [x], _, _, _, _, _, _, congrArg (fun w => [Sl.own (M'.map (dI E)), .own w, .val (.int (x.1 : Nat)), .val (dR (Rat.divInt x.2 E)), .val .non, s5, s6, s7]) (show B.map (dI E) ++ [dI E x] = (B ++ [x]).map (dI E) by rw [List.map_append]; rfl), h2, by omega⟩
      · obtain ⟨m', h1, h2⟩ := hI.meet hi hn
        obtain ⟨y, hy⟩ : ∃ y, y = B[i] := ⟨_, rfl⟩
        rw [← hy] at h2
        have ym : y ∈ B := by rw [hy]; exact List.getElem_mem hi
        have ry := M14.Ok.n E0 E1 (bab y ym)
        have bi : (B.map (dI E))[i]? = some (dI E y) := by rw [List.getElem?_map, List.getElem?_eq_getElem hi, ← hy]; rfl
        have il : i < (B.map (dI E)).length := by rw [List.length_map]; exact hi
        refine ⟨rfl, ⟨by omega, by omega⟩, i, dI E y, ixN_nat il, bi, rfl, ?_⟩
        rw [erase_map]
        have np : (((Nat.gcd x.1 y.1 : Nat)) : Int) ≠ 0 := by have := Nat.gcd_pos_of_pos_left y.1 (show 0 < x.1 by omega); omega
        refine ⟨rfl, x.1, y.1, rfl, .inl rfl, ?_⟩
        have row : M'.map (dI E) ++ [.tup [.int (((x.1 : Nat) : Int).fdiv ((Nat.gcd x.1 y.1 : Nat) : Int)), dR (Rat.divInt x.2 E)]] ++ [.tup [.int (((y.1 : Nat) : Int).fdiv ((Nat.gcd x.1 y.1 : Nat) : Int)), dR (Rat.divInt y.2 E)]] ++ [.tup [.int ((Nat.gcd x.1 y.1 : Nat) : Int), dR (Rat.divInt x.2 E + Rat.divInt y.2 E)]] = (M' ++ [(x.1 / Nat.gcd x.1 y.1, x.2)] ++ [(y.1 / Nat.gcd x.1 y.1, y.2)] ++ [(Nat.gcd x.1 y.1, x.2 + y.2)]).map (dI E) := by
          rw [div_add' E0, M14.nat_fdiv, M14.nat_fdiv]
          rw [List.map_append, List.map_append, List.map_append]; rfl
        refine ⟨rfl, np, rfl, ?_, rfl, np, rfl, ?_, rfl, rfl, Rat.divInt x.2 E, Rat.divInt y.2 E, rfl, sz_of rx (by decide), sz_of ry (by decide), .inl rfl, rfl, ?_, m', h1, _, B.eraseIdx i, .val (.int (x.1 : Nat)), .val (dR (Rat.divInt x.2 E)), .val (.int (i : Nat)), .val (.int (y.1 : Nat)), .val (dR (Rat.divInt y.2 E)), .val (.int (Nat.gcd x.1 y.1 : Nat)), congrArg (fun w => [Sl.own w, .own ((B.eraseIdx i).map (dI E)), .val (.int (x.1 : Nat)), .val (dR (Rat.divInt x.2 E)), .val (.int (i : Nat)), .val (.int (y.1 : Nat)), .val (dR (Rat.divInt y.2 E)), .val (.int (Nat.gcd x.1 y.1 : Nat))]) row, h2, by omega⟩
        · rw [List.length_map]; omega
        · rw [List.length_append, List.length_map]; show M'.length + 1 < _; omega
        · rw [List.length_append, List.length_append, List.length_map]; show M'.length + 1 + 1 < _; omega
  · have t : decide ((0 : Int) < ((M.map (dI E)).length : Nat)) = false := t
    have t := of_decide_eq_false t
    rw [List.length_map] at t
    have e0 : M = [] := List.eq_nil_of_length_eq_zero (by omega)
    subst e0
    have dist : (B.map fun x : Itm => (((x.1 : Nat) : Int), dR (Rat.divInt x.2 E))).Pairwise fun p p' => p.1 ≠ p'.1 := by
      rw [List.pairwise_map]
      have := hI.bs.cp
      refine List.Pairwise.imp_of_mem (fun {x y} hx hy h z => ?_) this
      have z : ((x.1 : Nat) : Int) = ((y.1 : Nat) : Int) := z
      have zz : x.1 = y.1 := by omega
      rw [← zz, Nat.gcd_self] at h
      have := (hI.bs.nz x hx).2
      omega
    refine ⟨B.map fun x : Itm => (((x.1 : Nat) : Int), dR (Rat.divInt x.2 E)), by rw [List.map_map]; rfl, dist, fun qs hp hs => ?_⟩
    obtain ⟨B', hB', eq⟩ := perm_map hp rfl
    rw [eq, List.map_map]
    have cp' : B'.Pairwise fun x y => Nat.gcd x.1 y.1 = 1 := (hB'.pairwise_iff (fun {x y} h => by rw [Nat.gcd_comm]; exact h)).mpr hI.bs.cp
    refine hq B' ⟨⟨fun x hx => hI.bs.nz x (hB'.mem_iff.mp hx), cp'⟩, ?_, fun f hf => ?_, ?_, fun x hx => ?_, fun x hx => hI.lB x (hB'.mem_iff.mp hx), ?_, ?_⟩
    · rw [eq, List.pairwise_map] at hs
      refine (hs.and cp').imp_of_mem fun {x y} hx hy ⟨h1, h2⟩ => ?_
      have h1 : ((x.1 : Nat) : Int) ≤ ((y.1 : Nat) : Int) := h1
      refine Nat.lt_of_le_of_ne (by omega) fun zz => ?_
      rw [← zz, Nat.gcd_self] at h2
      have := (hI.bs.nz x (hB'.mem_iff.mp hx)).2
      omega
    · refine (Nr.of_eq fun N => ?_).trans (hI.wt f hf)
      show ws f B' N = 0 + ws f B N
      rw [ws_perm f N hB']; grind
    · have := hB'.length_eq
      omega
    · have := bab x (hB'.mem_iff.mp hx)
      omega
    · have e : S hv B' = S hv B := S_perm _ hB'
      have z : S hv ([] : List Itm) = 0 := rfl
      omega
    · have e : S om B' = S om B := S_perm _ hB'
      have z : S om ([] : List Itm) = 0 := rfl
      have z2 : (([] : List Itm).length : Int) = 0 := rfl
      omega
theorem todo_app (R M : List Rx) : todo (R ++ M) = todo R ++ todo M := by
  induction R with
  | nil => rfl
  | cons r R ih => show _ :: _ :: todo (R ++ M) = _; rw [ih]; rfl
theorem todo_len (R : List Rx) : (todo R).length = 2 * R.length := by
  induction R with
  | nil => rfl
  | cons r R ih => show (todo R).length + 1 + 1 = _; rw [ih, List.length_cons]; omega
theorem todo_mem {R : List Rx} {r : Rx} (h : r ∈ R) : (r.1, r.2.2) ∈ todo R ∧ (r.2.1, -r.2.2) ∈ todo R := by
  induction R with
  | nil => cases h
  | cons s R ih =>
    rcases List.mem_cons.mp h with w | w
    · subst w; exact ⟨List.mem_cons_self, List.mem_cons_of_mem _ List.mem_cons_self⟩
    · obtain ⟨h1, h2⟩ := ih w
      exact ⟨List.mem_cons_of_mem _ (List.mem_cons_of_mem _ h1), List.mem_cons_of_mem _ (List.mem_cons_of_mem _ h2)⟩
theorem good_settled18 : Good (Gw L) b_settled18 2 4 vSettled18 := by
  rintro ds q ⟨E, X, r, R, rfl, hO, hq⟩ -
  have lt : (todo R).length ≤ 1000000 := by
    have := hO.ms
    have := S_nn om_nn (todo R)
    omega
  have lR := todo_len R
  refine ⟨rfl, fun k ρ => ∃ s3 s4 : Sl, ρ = [.val (dR r), .val (.lst (R.map (dW E))), .own ((todo (R.take k)).map (dI E)), s3, s4, .un] ∧ k ≤ R.length, ⟨_, _, rfl, Nat.zero_le _⟩, ?_, ?_⟩
  · rintro k d _ hd ⟨s3, s4, rfl, _⟩
    rw [List.getElem?_map] at hd
    obtain ⟨x, hx, rfl⟩ := Option.map_eq_some_iff.mp hd
    have hk : k < R.length := (List.getElem?_eq_some_iff.mp hx).1
    have hxm := (todo_mem (List.mem_of_getElem? hx)).1
    have rx := M14.Ok.n hO.E0 hO.E1 (hO.ab _ hxm)
    have lk : (todo (R.take k)).length = 2 * k := by rw [todo_len, List.length_take]; omega
    refine ⟨rfl, rfl, _, rfl, rfl, by rw [List.length_map]; omega, rfl, _, rfl, rfl, 0, Rat.divInt x.2.2 E, rfl, sz_of (n := 1) ⟨by decide, by decide⟩ (by decide), sz_of rx (by decide), .inl rfl, rfl, ?_, .val (dR (Rat.divInt x.2.2 E)), .val (.tup [.int (x.1 : Nat), .int (x.2.1 : Nat)]), ?_, hk⟩
    · rw [List.length_append, List.length_map]; show _ + 1 < _; omega
    · have row : (todo (R.take k)).map (dI E) ++ [.tup [.int (x.1 : Nat), dR (Rat.divInt x.2.2 E)]] ++ [.tup [.int (x.2.1 : Nat), dR (0 - Rat.divInt x.2.2 E)]] = (todo (R.take (k + 1))).map (dI E) := by
        rw [div_neg', List.take_succ, hx, todo_app, List.map_append]
        show _ ++ [_] ++ [_] = _ ++ [_, _]
        rw [List.append_assoc]; rfl
      exact congrArg (fun w => [Sl.val (dR r), .val (.lst (R.map (dW E))), .own w, .val (dR (Rat.divInt x.2.2 E)), .val (.tup [.int (x.1 : Nat), .int (x.2.1 : Nat)]), .un]) row
  · rintro _ ⟨s3, s4, rfl, _⟩
    rw [List.length_map, List.take_length]
    refine ⟨rfl, E, X, todo R, rfl, hO, fun B hB => ⟨.inr (lfs_dI E B), ?_⟩⟩
    refine ⟨by rw [List.length_map]; have := hB.few; unfold Sm; omega, fun k acc ρ => acc = (B.take k).map (dN E) ∧ ρ = [.val (dR r), .val (.lst (R.map (dW E))), .own ((todo R).map (dI E)), .un, s4, .un], ⟨rfl, rfl⟩, ?_, ?_⟩
    · rintro k d acc _ hd ⟨rfl, rfl⟩
      rw [List.getElem?_map] at hd
      obtain ⟨x, hx, rfl⟩ := Option.map_eq_some_iff.mp hd
      refine ⟨rfl, fun _ => ⟨rfl, rfl, ?_, rfl⟩, fun h => (by cases h)⟩
      rw [List.take_succ, hx, List.map_append]; rfl
    · rintro acc _ ⟨rfl, rfl⟩
      rw [List.length_map, List.take_length]
      exact ⟨rfl, hq B hB⟩
theorem good_n_plus18 : Good (Gw L) b_n_plus18 2 0 vNPlus18 := by
  rintro ds q ⟨E, X, r, s, R, M, rfl, hr, hs, hO, hq⟩ -
  have lt : (todo (R ++ M)).length ≤ 1000000 := by
    have := hO.ms
    have := S_nn om_nn (todo (R ++ M))
    omega
  rw [todo_len, List.length_append] at lt
  refine ⟨_, rfl, _, rfl, rfl, r, s, rfl, hr, hs, .inl rfl, _, rfl, _, rfl, ?_, rfl, E, X, r + s, R ++ M, ?_, hO, fun B hB => ⟨.inl rfl, hq B hB⟩⟩
  · rw [List.length_map, List.length_map]; unfold Sm; omega
  · rw [List.map_append]
theorem scale1 {n p : Int} {E : Nat} : Rat.divInt n E * (p : Rat) = Rat.divInt (n * p) E := by
  rw [Rat.divInt_eq_div, Rat.divInt_eq_div, Rat.intCast_mul]; grind
theorem good_n_scaled18 : Good (Gw L) b_n_scaled18 2 2 vNScaled18 := by
  rintro ds q ⟨E, X, p, r, R, rfl, hp, hr, hO, hO2, hq⟩ -
  have lt : (todo R).length ≤ 1000000 := by
    have := hO.ms
    have := S_nn om_nn (todo R)
    omega
  rw [todo_len] at lt
  have ep : VL.D.tup [.int p, .int 1] = dR (p : Rat) := rfl
  have rc : RB' 60 (p : Rat) := ⟨Nat.lt_of_le_of_lt hp (by decide), show 1 < 2 ^ 60 by decide⟩
  rw [ep]
  refine ⟨_, rfl, rfl, r, (p : Rat), rfl, hr, sz_of rc (by decide), .inl rfl, _, rfl, ?_⟩
  refine ⟨by rw [List.length_map]; unfold Sm; omega, fun k acc ρ => acc = ((mulR p R).take k).map (dW E) ∧ ρ = [.val (.tup [dR r, .tup (R.map (dW E))]), .val (dR (p : Rat)), .un, .un], ⟨rfl, rfl⟩, ?_, ?_⟩
  · rintro k d acc _ hd ⟨rfl, rfl⟩
    rw [List.getElem?_map] at hd
    obtain ⟨x, hx, rfl⟩ := Option.map_eq_some_iff.mp hd
    have rx := M14.Ok.n hO.E0 hO.E1 (hO.ab _ (todo_mem (List.mem_of_getElem? hx)).1)
    refine ⟨rfl, fun _ => ⟨rfl, Rat.divInt x.2.2 E, (p : Rat), rfl, sz_of rx (by decide), sz_of rc (by decide), .inl rfl, rfl, ?_, rfl⟩, fun h => (by cases h)⟩
    have hx2 : (mulR p R)[k]? = some (x.1, x.2.1, x.2.2 * p) := by unfold mulR; rw [List.getElem?_map, hx]; rfl
    show _ ++ [VL.D.tup [dR (Rat.divInt x.2.2 E * (p : Rat)), .tup [.int (x.1 : Nat), .int (x.2.1 : Nat)]]] = _
    rw [scale1, List.take_succ, hx2, List.map_append]; rfl
  · rintro acc _ ⟨rfl, rfl⟩
    rw [List.length_map]
    have e : (mulR p R).take R.length = mulR p R := List.take_of_length_le (by unfold mulR; rw [List.length_map]; exact Nat.le_refl _)
    rw [e]
    exact ⟨rfl, E, X, r * (p : Rat), mulR p R, rfl, hO2, fun B hB => ⟨.inl rfl, hq B hB⟩⟩
def toN (E : Nat) (x : Itm) : Lr := (Rat.divInt x.2 E, x.1, 1)
theorem di_E (n : Int) (E : Nat) : Rat.divInt n E = 1 / (E : Rat) * (n : Rat) := by
  rw [Rat.divInt_eq_div, Rat.intCast_natCast]; grind
theorem lsum_toN (E : Nat) (N : Nat) : ∀ B : List Itm, lsum (B.map (toN E)) N = 1 / (E : Rat) * ws (fun n N => A n 1 N) B N
  | [] => by show (0 : Rat) = 1 / (E : Rat) * 0; grind
  | x :: B => by
    show Rat.divInt x.2 E * A x.1 1 N + lsum (B.map (toN E)) N = 1 / (E : Rat) * ((x.2 : Rat) * A x.1 1 N + ws (fun n N => A n 1 N) B N)
    rw [lsum_toN E N B, di_E]; grind
theorem worth_ws (E : Nat) (N : Nat) : ∀ R : List Rx, worth E R N = 1 / (E : Rat) * ws (fun n N => A n 1 N) (todo R) N
  | [] => by show (0 : Rat) = 1 / (E : Rat) * 0; grind
  | x :: R => by
    have ih := worth_ws E N R
    show Rat.divInt x.2.2 E * A x.1 x.2.1 N + worth E R N = 1 / (E : Rat) * ((x.2.2 : Rat) * A x.1 1 N + (((-x.2.2 : Int) : Rat) * A x.2.1 1 N + ws (fun n N => A n 1 N) (todo R) N))
    rw [ih, di_E, A_mul x.1 1 x.2.1 N, A_neg x.2.1 1 N, Rat.intCast_neg]; grind
theorem fin_worth {X E : Nat} {R : List Rx} {B : List Itm} (h : Fin X (todo R) B) : Nr (lsum (B.map (toN E))) (worth E R) := by
  refine (Nr.of_eq fun N => lsum_toN E N B).trans (((h.wt _ ad_A).smul (1 / (E : Rat))).trans (Nr.of_eq fun N => ?_))
  rw [worth_ws]
/-- when the loop goes on -/
def Open (lo hi : Rat) : Prop := (lo.num < 0 ∧ 0 < hi.num) ∨ (lo.num * hi.num = 0 ∧ lo ≠ hi)
theorem pos_of {d : Rat} {t : Nat} (h : 1 ≤ d * 2 ^ t) : 0 < d := Classical.byContradiction fun w => by
  have d0 : d ≤ 0 := Rat.not_lt.mp w
  have p : (0 : Rat) ≤ 2 ^ t := pow_nn (by decide) t
  have := Rat.mul_le_mul_of_nonneg_right d0 p
  grind
theorem num_le {r : Rat} : r.num ≤ 0 ↔ r ≤ 0 := by
  constructor
  · intro h
    exact Rat.not_lt.mp fun w => by have := num_pos.mpr w; omega
  · intro h
    refine Classical.byContradiction fun w => ?_
    have : 0 < r := num_pos.mp (by omega)
    grind
theorem sign_pos {lo hi w d C : Rat} {t : Nat} {g : Nat → Rat} (hd : 1 ≤ d * 2 ^ t) (hl : ∀ N, 1 ≤ N → d ≤ g N + C * u N) (ho : Ho lo hi g) (hw : hi - lo ≤ w) :
    (Open lo hi → 1 ≤ w * 2 ^ t) ∧ (¬ Open lo hi → 0 < lo.num ∧ ¬ hi.num < 0) := by
  have d0 := pos_of hd
  obtain ⟨D, D0, h⟩ := ho
  have dh : d ≤ hi := by
    have := @no_share (d - hi) (C + D) fun N n => by
      have := hl N n
      have := (h N n).2
      grind
    grind
  have h0 : 0 < hi := by grind
  have hn := num_pos.mpr h0
  constructor
  · intro o
    have l0 : lo ≤ 0 := by
      rcases o with ⟨h1, h2⟩ | ⟨h1, h2⟩
      · exact num_le.mp (by omega)
      · rcases Int.mul_eq_zero.mp h1 with z | z
        · exact num_le.mp (by omega)
        · omega
    have dw : d ≤ w := by grind
    have p : (0 : Rat) ≤ 2 ^ t := pow_nn (by decide) t
    exact Rat.le_trans hd (Rat.mul_le_mul_of_nonneg_right dw p)
  · intro o
    refine ⟨Classical.byContradiction fun v => o ?_, by omega⟩
    by_cases z : lo.num = 0
    · refine .inr ⟨by rw [z, Int.zero_mul], fun e => ?_⟩
      rw [e] at z; omega
    · exact .inl ⟨by omega, hn⟩
theorem sign_neg {lo hi w d C : Rat} {t : Nat} {g : Nat → Rat} (hd : 1 ≤ d * 2 ^ t) (hl : ∀ N, 1 ≤ N → g N ≤ -d + C * u N) (ho : Ho lo hi g) (hw : hi - lo ≤ w) :
    (Open lo hi → 1 ≤ w * 2 ^ t) ∧ (¬ Open lo hi → ¬ 0 < lo.num ∧ hi.num < 0) := by
  have d0 := pos_of hd
  obtain ⟨D, D0, h⟩ := ho
  have dh : lo ≤ -d := by
    have := @no_share (lo + d) (C + D) fun N n => by
      have := hl N n
      have := (h N n).1
      grind
    grind
  have h0 : lo ≤ 0 := by grind
  have hn : lo.num < 0 := by
    have := num_le.mpr h0
    refine Classical.byContradiction fun v => ?_
    have z : lo.num = 0 := by omega
    rw [Rat.num_eq_zero.mp z] at dh
    grind
  constructor
  · intro o
    have l0 : 0 ≤ hi := by
      rcases o with ⟨h1, h2⟩ | ⟨h1, h2⟩
      · exact Rat.num_nonneg.mp (by omega)
      · rcases Int.mul_eq_zero.mp h1 with z | z
        · omega
        · exact Rat.num_nonneg.mp (by omega)
    have dw : d ≤ w := by grind
    have p : (0 : Rat) ≤ 2 ^ t := pow_nn (by decide) t
    exact Rat.le_trans hd (Rat.mul_le_mul_of_nonneg_right dw p)
  · intro o
    refine ⟨by omega, Classical.byContradiction fun v => o ?_⟩
    by_cases z : hi.num = 0
    · refine .inr ⟨by rw [z, Int.mul_zero], fun e => ?_⟩
      rw [← e] at z; omega
    · exact .inl ⟨hn, by omega⟩
def sgn (lo hi : Rat) : Int := (if decide (0 < lo.num) = true then 1 else 0) - (if decide (hi.num < 0) = true then 1 else 0)
theorem w_step (k : Nat) : Rat.divInt 1 (256 ^ k : Nat) / 256 = Rat.divInt 1 (256 ^ (k + 1) : Nat) := by
  have p := ge1 (Nat.pow_pos (n := k) (show 0 < 256 by decide))
  rw [Rat.divInt_eq_div, Rat.divInt_eq_div, Rat.intCast_natCast, Rat.intCast_natCast, Nat.pow_succ, Rat.natCast_mul]
  have : ((256 ^ k : Nat) : Rat) ≠ 0 := by grind
  have e : ((256 : Nat) : Rat) = 256 := rfl
  rw [e, show ((1 : Int) : Rat) = 1 from rfl]
  grind
theorem w_rb {k : Nat} (h : 8 * k ≤ 588) : RB' 600 (Rat.divInt 1 (256 ^ k : Nat)) ∧ 0 < (Rat.divInt 1 (256 ^ k : Nat)).num := by
  have p : 0 < 256 ^ k := Nat.pow_pos (by decide)
  have b : 256 ^ k < 2 ^ 600 := by
    rw [show 256 = 2 ^ 8 by decide, ← Nat.pow_mul]
    exact Nat.pow_lt_pow_right (by decide) (by omega)
  have o : 1 < 2 ^ 600 := Nat.one_lt_two_pow (by decide)
  refine ⟨rb_div o (by rw [Int.natAbs_natCast]; exact b) (by exact_mod_cast p), num_pos.mpr ?_⟩
  rw [Rat.divInt_eq_div, Rat.div_def, Rat.intCast_natCast]
  have := Rat.inv_pos.mpr (ge1 p)
  rw [show ((1 : Int) : Rat) = 1 from rfl]
  grind
theorem w_le {k t : Nat} (h : 1 ≤ Rat.divInt 1 (256 ^ k : Nat) * 2 ^ t) : 8 * k ≤ t := by
  have p := ge1 (Nat.pow_pos (n := k) (show 0 < 256 by decide))
  rw [Rat.divInt_eq_div, Rat.intCast_natCast, show ((1 : Int) : Rat) = 1 from rfl] at h
  have h2 := Rat.mul_le_mul_of_nonneg_right h (Rat.le_of_lt p)
  have e : 1 / ((256 ^ k : Nat) : Rat) * 2 ^ t * ((256 ^ k : Nat) : Rat) = 2 ^ t := by
    have : ((256 ^ k : Nat) : Rat) ≠ 0 := by grind
    grind
  rw [e, Rat.one_mul] at h2
  have h3 : ((256 ^ k : Nat) : Rat) ≤ ((2 ^ t : Nat) : Rat) := by
    rw [Rat.natCast_pow 2 t]; exact h2
  have h4 : 256 ^ k ≤ 2 ^ t := by exact_mod_cast h3
  rw [show 256 = 2 ^ 8 by decide, ← Nat.pow_mul] at h4
  exact (Nat.pow_le_pow_iff_right (by decide)).mp h4
def SgI (r : Rat) (l : List Lr) (m : Nat) (ρ : En) : Prop := ∃ (k : Nat) (lo hi : Rat), ρ = [.val (.tup [dR r, .tup (l.map dCR)]), .val (dR (Rat.divInt 1 (256 ^ k : Nat))), .val (dR lo), .val (dR hi)] ∧ m + k = 600 ∧ 8 * k ≤ 588 ∧ Ho lo hi (fun N => r + lsum l N) ∧ lo ≤ hi ∧ hi - lo ≤ Rat.divInt 1 (256 ^ k : Nat) ∧ RB' 50000000 lo ∧ RB' 50000000 hi ∧ (l = [] → lo = r ∧ hi = r)
theorem good_sign_of18 : Good (Gw L) b_sign_of18 1 3 vSignOf18 := by
  rintro ds q ⟨E, X, t, r, R, z0, rfl, hO, hX, rR, ht, hlen, hw, hq⟩ -
  refine ⟨_, rfl, _, rfl, rfl, E, X, r, R, rfl, hO, fun B hB => ⟨.inl rfl, rfl, ?_⟩⟩
  obtain ⟨l, el⟩ : ∃ l, l = B.map (toN E) := ⟨_, rfl⟩
  have ed : (B.map (dN E)) = l.map dCR := by
    rw [el, List.map_map]
    exact List.map_congr_left fun x _ => rfl
  have nr : Nr (fun N => r + lsum l N) (fun N => r + worth E R N) := by rw [el]; exact (Nr.refl fun _ => r).add (fin_worth hB)
  have lok : Rok 600 l := by
    have mem : ∀ x, x ∈ l → ∃ y, y ∈ B ∧ x = toN E y := fun x hx => by
      rw [el] at hx
      obtain ⟨y, h1, h2⟩ := List.mem_map.mp hx
      exact ⟨y, h1, h2.symm⟩
    refine ⟨fun x hx => ?_, fun x hx => ?_, fun x hx => ?_, fun x hx => ?_, ?_⟩
    · obtain ⟨y, h1, rfl⟩ := mem x hx
      exact fun z => (hB.bs.nz y h1).1 ((div_zero hO.E0).mp (Rat.num_eq_zero.mp z))
    · obtain ⟨y, h1, rfl⟩ := mem x hx
      exact rb_mono (M14.Ok.n hO.E0 hO.E1 (by have := hB.ab y h1; omega)) (by decide)
    · obtain ⟨y, h1, rfl⟩ := mem x hx
      exact ⟨by have := (hB.bs.nz y h1).2; show 1 ≤ y.1; omega, Nat.lt_of_lt_of_le (hB.lX y h1) hX⟩
    · obtain ⟨y, h1, rfl⟩ := mem x hx
      exact ⟨Nat.le_refl 1, Nat.one_lt_two_pow (by decide)⟩
    · have h1 := hB.msB
      have h2 := len_om fun x hx => (hB.bs.nz x hx).2
      rw [el, List.length_map]; omega
  have key : ∀ lo hi w : Rat, Ho lo hi (fun N => r + lsum l N) → lo ≤ hi → hi - lo ≤ w → (l = [] → lo = r ∧ hi = r) → (Open lo hi → 1 ≤ w * 2 ^ t) ∧ (¬ Open lo hi → q (.val (.int (sgn lo hi))) none) := by
    intro lo hi w ho le wd hz
    rcases hw with (⟨e, d, hd, C, C0, hl⟩ | ⟨e, d, hd, C, C0, hl⟩) | ⟨e, r0, h0⟩
    · obtain ⟨k1, k2⟩ := sign_pos hd hl (ho.near nr) wd
      refine ⟨k1, fun o => ?_⟩
      obtain ⟨z1, z2⟩ := k2 o
      have : sgn lo hi = 1 := by unfold sgn; rw [decide_eq_true z1, decide_eq_false z2]; rfl
      rw [this, ← e]; exact hq
    · obtain ⟨k1, k2⟩ := sign_neg hd hl (ho.near nr) wd
      refine ⟨k1, fun o => ?_⟩
      obtain ⟨z1, z2⟩ := k2 o
      have : sgn lo hi = -1 := by unfold sgn; rw [decide_eq_false z1, decide_eq_true z2]; rfl
      rw [this, ← e]; exact hq
    · have bn : B = [] := bs_nil hB.bs fun f hf => (hB.wt f hf).trans (h0 f hf)
      obtain ⟨e1, e2⟩ := hz (by rw [el, bn]; rfl)
      rw [e1, e2, r0]
      refine ⟨fun o => ?_, fun _ => by rw [show sgn (0 : Rat) 0 = z0 from e.symm]; exact hq⟩
      rcases o with ⟨z, _⟩ | ⟨_, z⟩
      · exact absurd z (by decide)
      · exact absurd rfl z
  rw [ed]
  have e1 : VL.D.tup [.int 1, .int 1] = dR (Rat.divInt 1 (256 ^ 0 : Nat)) := by
    rw [show Rat.divInt 1 (256 ^ 0 : Nat) = 1 by decide +kernel]; rfl
  show wSs (Gw L) _ [.val (.tup [dR r, .tup (l.map dCR)]), .val (.tup [.int 1, .int 1]), .un, .un] _
  rw [e1]
  obtain ⟨b0, p0⟩ := w_rb (k := 0) (by decide)
  refine ⟨rfl, r, Rat.divInt 1 (256 ^ 0 : Nat), l, 600, rfl, lok, rR, p0, b0, by decide, fun lo hi h1 h2 h3 h4 h5 h6 => ⟨.inl rfl, rfl, ?_⟩⟩
  refine ⟨SgI r l, ⟨600, 0, lo, hi, rfl, rfl, by decide, h1, h2, h3, h4, h5, h6⟩, ?_⟩
  rintro m _ ⟨k, lo, hi, rfl, hm, hk, ho, le, wd, rl, rh, hz⟩
  obtain ⟨key1, key2⟩ := key lo hi _ ho le wd hz
  obtain ⟨bk, pk⟩ := w_rb hk
  have body : ∀ (ct bk : En → Prop) (rt : VL.R → En → Prop), Open lo hi → wSs (Gw L) (ss [.asg 1 (.call f_over (.cons (.var 1) (.cons (.tup (.cons (.int 256) (.cons (.int 1) .nil))) .nil))), .asgT [2, 3] (.call f_held (.cons (.var 0) (.cons (.var 1) .nil)))]) [.val (.tup [dR r, .tup (l.map dCR)]), .val (dR (Rat.divInt 1 (256 ^ k : Nat))), .val (dR lo), .val (dR hi)] { nx := fun ρ2 => ∃ m', m' < m ∧ SgI r l m' ρ2, ct := ct, bk := bk, rt := rt } := by
    intro ct bk rt o
    have k8 := w_le (key1 o)
    have e256 : VL.D.tup [.int 256, .int 1] = dR (256 : Rat) := rfl
    have r256 : RB' 10 (256 : Rat) := ⟨by decide, by decide⟩
    obtain ⟨b', p'⟩ := w_rb (k := k + 1) (by omega)
    refine ⟨rfl, rfl, Rat.divInt 1 (256 ^ k : Nat), 256, congrArg (fun z => [dR (Rat.divInt 1 (256 ^ k : Nat)), z]) e256, sz_rb (w_rb hk).1 (by decide), sz_rb r256 (by decide), by decide, .inl rfl, ?_⟩
    show wSs (Gw L) _ [_, .val (dR (Rat.divInt 1 (256 ^ k : Nat) / 256)), _, _] _
    rw [w_step]
    exact ⟨rfl, r, Rat.divInt 1 (256 ^ (k + 1) : Nat), l, 600, rfl, lok, rR, p', b', by decide, fun lo hi h1 h2 h3 h4 h5 h6 => ⟨.inl rfl, rfl, m - 1, by omega, k + 1, lo, hi, rfl, by omega, by omega, h1, h2, h3, h4, h5, h6⟩⟩
  have ret : ¬ Open lo hi → wSs (Gw L) (ss [.ret (.bin .sub (.blt .int (.cons (.cmp .gt (.ix (.var 2) (.int 0)) (.int 0)) .nil)) (.blt .int (.cons (.cmp .lt (.ix (.var 3) (.int 0)) (.int 0)) .nil)))]) [.val (.tup [dR r, .tup (l.map dCR)]), .val (dR (Rat.divInt 1 (256 ^ k : Nat))), .val (dR lo), .val (dR hi)] { nx := fun _ => q (.val .non) none, rt := fun v _ => q v none } := fun o => ⟨_, rfl, _, rfl, key2 o⟩
  have okl := dsh_of (okD_dR lo) (by decide)
  have okh := dsh_of (okD_dR hi) (by decide)
  have nl := sz_rb rl (by decide)
  have nh := sz_rb rh (by decide)
  have z : deq (dR lo) (dR hi) = decide (lo = hi) := deq_dR lo hi
  have o1 : ¬ (lo.num < 0 ∧ 0 < hi.num) → decide (lo.num * hi.num = 0) = true → (!deq (dR lo) (dR hi)) = true → Open lo hi := fun n1 h3 h4 => by
    rw [z] at h4
    exact .inr ⟨of_decide_eq_true h3, of_decide_eq_false (not_t h4)⟩
  have o2 : ¬ (lo.num < 0 ∧ 0 < hi.num) → (!deq (dR lo) (dR hi)) = false → ¬ Open lo hi := fun n1 h4 o => by
    rw [z] at h4
    rcases o with o | ⟨_, o⟩
    · exact n1 o
    · rw [decide_eq_false o] at h4; cases h4
  have o3 : ¬ (lo.num < 0 ∧ 0 < hi.num) → decide (lo.num * hi.num = 0) = false → ¬ Open lo hi := fun n1 h3 o => by
    rcases o with o | ⟨o, _⟩
    · exact n1 o
    · exact of_decide_eq_false h3 o
  refine ⟨_, rfl, fun h1 => ⟨_, rfl, fun h2 => ⟨fun _ => body _ _ _ (.inl ⟨of_decide_eq_true h1, of_decide_eq_true h2⟩), fun h => (by cases h)⟩, fun h2 => ⟨_, rfl, _, rfl, sz_mul nl.1 nh.1, fun h3 => ⟨okl, okh, fun h4 => body _ _ _ (o1 (fun w => of_decide_eq_false h2 w.2) h3 h4), fun h4 => ret (o2 (fun w => of_decide_eq_false h2 w.2) h4)⟩, fun h3 => ⟨fun h => (by cases h), fun _ => ret (o3 (fun w => of_decide_eq_false h2 w.2) h3)⟩⟩⟩, fun h1 => ⟨fun h => (by cases h), fun _ => ⟨_, rfl, _, rfl, sz_mul nl.1 nh.1, fun h3 => ⟨okl, okh, fun h4 => body _ _ _ (o1 (fun w => of_decide_eq_false h1 w.1) h3 h4), fun h4 => ret (o2 (fun w => of_decide_eq_false h1 w.1) h4)⟩, fun h3 => ⟨fun h => (by cases h), fun _ => ret (o3 (fun w => of_decide_eq_false h1 w.1) h3)⟩⟩⟩⟩
/-- a base as rows -/
def asR (B : List Itm) : List Rx := B.map fun x => (x.1, 1, x.2)
theorem asR_d (E : Nat) (B : List Itm) : B.map (dN E) = (asR B).map (dW E) := by
  unfold asR
  rw [List.map_map]
  exact List.map_congr_left fun x _ => rfl
theorem asR_worth {X E : Nat} {R : List Rx} {B : List Itm} (h : Fin X (todo R) B) : Nr (worth E (asR B)) (worth E R) := by
  refine (Nr.of_eq fun N => ?_).trans (fin_worth h)
  unfold worth asR
  rw [List.map_map]; rfl
theorem asR_ws {f : Nat → Nat → Rat} (hf : Ad f) : ∀ B : List Itm, Nr (ws f (todo (asR B))) (ws f B)
  | [] => Nr.refl _
  | x :: B => by
    have h := (Nr.refl (fun N => (x.2 : Rat) * f x.1 N)).add (((hf.one.smul ((-x.2 : Int) : Rat)).add (asR_ws hf B)))
    refine (Nr.of_eq fun N => ?_).trans (h.trans (Nr.of_eq fun N => ?_))
    · rfl
    · show (x.2 : Rat) * f x.1 N + (((-x.2 : Int) : Rat) * 0 + ws f B N) = (x.2 : Rat) * f x.1 N + ws f B N
      grind
theorem mulR_ws (f : Nat → Nat → Rat) (p : Int) (N : Nat) : ∀ R : List Rx, ws f (todo (mulR p R)) N = (p : Rat) * ws f (todo R) N
  | [] => by show (0 : Rat) = (p : Rat) * 0; grind
  | x :: R => by
    show ((x.2.2 * p : Int) : Rat) * f x.1 N + (((-(x.2.2 * p) : Int) : Rat) * f x.2.1 N + ws f (todo (mulR p R)) N) = (p : Rat) * ((x.2.2 : Rat) * f x.1 N + (((-x.2.2 : Int) : Rat) * f x.2.1 N + ws f (todo R) N))
    rw [mulR_ws f p N R, Rat.intCast_neg, Rat.intCast_neg, Rat.intCast_mul]; grind
theorem hv_asR : ∀ B : List Itm, S hv (todo (asR B)) = S hv B
  | [] => rfl
  | x :: B => by
    show hv x + (((-x.2).natAbs : Nat) * ((Nat.log2 1 : Nat) : Int) + S hv (todo (asR B))) = hv x + S hv B
    rw [hv_asR B, show Nat.log2 1 = 0 by decide]; simp
theorem an_asR : ∀ B : List Itm, S an (todo (asR B)) = 2 * S an B
  | [] => rfl
  | x :: B => by
    show ((x.2.natAbs : Nat) : Int) + (((-x.2).natAbs : Nat) + S an (todo (asR B))) = 2 * (((x.2.natAbs : Nat) : Int) + S an B)
    rw [an_asR B, Int.natAbs_neg]; omega
theorem om_asR : ∀ B : List Itm, S om (todo (asR B)) = S om B
  | [] => rfl
  | x :: B => by
    show om x + (((Nat.log2 1 : Nat) : Int) + S om (todo (asR B))) = om x + S om B
    rw [om_asR B, show Nat.log2 1 = 0 by decide]; simp
theorem an_hv : ∀ {B : List Itm}, (∀ x, x ∈ B → 2 ≤ x.1) → S an B ≤ S hv B
  | [], _ => Int.le_refl 0
  | x :: B, h => by
    have h1 := lg_pos (h x List.mem_cons_self)
    have h2 := an_hv (B := B) fun y hy => h y (List.mem_cons_of_mem _ hy)
    have h3 : ((x.2.natAbs : Nat) : Int) * 1 ≤ ((x.2.natAbs : Nat) : Int) * ((x.1.log2 : Nat) : Int) := Int.mul_le_mul_of_nonneg_left (by omega) (by omega)
    show ((x.2.natAbs : Nat) : Int) + S an B ≤ ((x.2.natAbs : Nat) : Int) * ((x.1.log2 : Nat) : Int) + S hv B
    omega
/-- how great a list is -/
structure Gr (L : List Itm) (h a o : Int) : Prop where
  h : S hv L ≤ h
  a : S an L ≤ a
  o : S om L ≤ o
theorem Gr.fin {X : Nat} {L B : List Itm} {h a o : Int} (g : Gr L h a o) (hB : Fin X L B) {l : Int} (hl : (L.length : Int) ≤ 3 * l) : Gr B (h + a) (h + a) (o + l) ∧ (B.length : Int) ≤ o + l := by
  have h1 := hB.hvB
  have h2 := hB.msB
  have h3 := an_hv fun x hx => (hB.bs.nz x hx).2
  have h4 := len_om fun x hx => (hB.bs.nz x hx).2
  have g1 := g.h
  have g2 := g.a
  have g3 := g.o
  exact ⟨⟨by omega, by omega, by omega⟩, by omega⟩
theorem Gr.asR {B : List Itm} {h a o : Int} (g : Gr B h a o) : Gr (todo (asR B)) h (2 * a) o := by
  refine ⟨by rw [hv_asR]; exact g.h, by rw [an_asR]; have := g.a; omega, by rw [om_asR]; exact g.o⟩
theorem Gr.app {L M : List Itm} {h a o h' a' o' : Int} (g : Gr L h a o) (g' : Gr M h' a' o') : Gr (L ++ M) (h + h') (a + a') (o + o') := by
  refine ⟨?_, ?_, ?_⟩
  · rw [S_app]; have := g.h; have := g'.h; omega
  · rw [S_app]; have := g.a; have := g'.a; omega
  · rw [S_app]; have := g.o; have := g'.o; omega
theorem asR_ps {X : Nat} {L B : List Itm} (hB : Fin X L B) (hX : 1 < X) : ∀ x, x ∈ todo (asR B) → 1 ≤ x.1 ∧ x.1 < X := by
  have key : ∀ C : List Itm, (∀ x, x ∈ C → x ∈ B) → ∀ x, x ∈ todo (asR C) → 1 ≤ x.1 ∧ x.1 < X := fun C => by
    induction C with
    | nil => intro _ x hx; cases hx
    | cons y C ih =>
      intro hC x hx
      have ym := hC y List.mem_cons_self
      rcases List.mem_cons.mp hx with w | w
      · rw [w]; exact ⟨by have := (hB.bs.nz y ym).2; show 1 ≤ y.1; omega, hB.lX y ym⟩
      · rcases List.mem_cons.mp w with w | w
        · rw [w]; exact ⟨Nat.le_refl 1, hX⟩
        · exact ih (fun z hz => hC z (List.mem_cons_of_mem _ hz)) x w
  exact key B fun x hx => hx
end M18

/-! K97: the law as terms. -/
namespace K97
open PySem PySem.Spec L2 VL M1 M2 M3 M14 M17 M18
abbrev f_law_c : Nat := 100
abbrev f_law_whole : Nat := 101
abbrev f_law_signs : Nat := 102
abbrev f_law_held : Nat := 103
abbrev f_law : Nat := 104
/-- law_c: 0 law_cell, 1 law_top -/
def b_law_c : Ss := ss [.asg 1 (.ix (.tup (.cons (.neg (.int 7)) (.cons (.neg (.int 2)) (.cons (.neg (.int 1)) (.cons (.int 1) (.cons (.int 3) (.cons (.int 8) .nil))))))) (.call f_law_draw14 (.cons (.var 0) (.cons (.int 0) (.cons (.int 6) .nil))))),
  .ite (.cmp .eq (.call f_law_draw14 (.cons (.var 0) (.cons (.int 4) (.cons (.int 4) .nil)))) (.int 0)) (ss [.asg 1 (.bin .mul (.var 1) (.bin .add (.int 1) (.bin .mod (.var 0) (.bin .pow (.int 10) (.int 11)))))]) (ss []),
  .ret (.call f_law_number14 (.cons (.var 1) (.cons (.bin .add (.int 1) (.call f_law_draw14 (.cons (.var 0) (.cons (.int 1) (.cons (.int 5) .nil))))) .nil)))]
/-- law_whole: 0 law_cell, 1 law_kind, 2 law_bottom, 3 law_turn -/
def b_law_whole : Ss := ss [.asg 2 (.int 1),
  .for (.nm 3) (.rng1 (.ix (.tup (.cons (.int 2) (.cons (.int 10) (.cons (.int 20) (.cons (.int 38) (.cons (.int 60) (.cons (.int 78) .nil))))))) (.var 1))) (ss [.asg 2 (.bin .mul (.var 2) (.int 10))]),
  .ret (.bin .add (.bin .mod (.var 0) (.var 2)) (.int 2))]
/-- law_signs: 0 law_c_here, 1 law_m, 2 law_one, 3 law_other, 4 law_sign, 5 law_minus_one, 6 law_found, 7 law_part -/
def b_law_signs : Ss := ss [.asg 2 (.tup (.cons (.tup (.cons (.int 0) (.cons (.int 1) .nil))) (.cons (.tup (.cons (.tup (.cons (.var 0) (.cons (.tup (.cons (.bin .add (.var 1) (.int 1)) (.cons (.var 1) .nil))) .nil))) .nil)) .nil))),
  .asg 3 (.tup (.cons (.tup (.cons (.int 0) (.cons (.int 1) .nil))) (.cons (.tup (.cons (.tup (.cons (.var 0) (.cons (.call f_law_number14 (.cons (.bin .add (.var 1) (.int 2)) (.cons (.bin .add (.var 1) (.int 1)) .nil))) .nil))) .nil)) .nil))),
  .asg 4 (.bin .sub (.blt .int (.cons (.cmp .gt (.ix (.var 0) (.int 0)) (.int 0)) .nil)) (.blt .int (.cons (.cmp .lt (.ix (.var 0) (.int 0)) (.int 0)) .nil))),
  .asg 5 (.call f_n_scaled18 (.cons (.var 2) (.cons (.tup (.cons (.neg (.int 1)) (.cons (.int 1) .nil))) .nil))),
  .asg 6 (.lst (.cons (.call f_sign_of18 (.cons (.var 2) .nil)) (.cons (.call f_sign_of18 (.cons (.call f_settled18 (.cons (.ix (.var 2) (.int 0)) (.cons (.blt .list (.cons (.ix (.var 2) (.int 1)) .nil)) .nil))) .nil)) .nil))),
  .ex (.mth .append 6 (.cons (.call f_sign_of18 (.cons (.call f_n_plus18 (.cons (.var 2) (.cons (.call f_n_scaled18 (.cons (.var 3) (.cons (.tup (.cons (.neg (.int 1)) (.cons (.int 1) .nil))) .nil))) .nil))) .nil)) .nil)),
  .ite (.or (.tru (.blt .any (.cons (.lc (.isi (.var 7) .bool) (.nm 7) (.seq (.var 6)) [7] .no) .nil))) (.cmp .ne (.var 6) (.lst (.cons (.var 4) (.cons (.var 4) (.cons (.var 4) .nil)))))) (ss [.ret (.bl false)]) (ss []),
  .ret (.and (.cmp .eq (.call f_sign_of18 (.cons (.var 5) .nil)) (.neg (.var 4))) (.cmp .eq (.call f_sign_of18 (.cons (.call f_n_plus18 (.cons (.var 2) (.cons (.var 5) .nil))) .nil)) (.int 0)))]
/-- law_held: 0 law_c_here, 1 law_m, 2 law_places, 3 law_bottom, 4 law_turn, 5 law_found, 6 law_ends -/
def b_law_held : Ss := ss [.asg 3 (.int 1),
  .for (.nm 4) (.rng1 (.var 2)) (ss [.asg 3 (.bin .mul (.var 3) (.int 10))]),
  .asg 5 (.call f_held (.cons (.tup (.cons (.tup (.cons (.int 0) (.cons (.int 1) .nil))) (.cons (.tup (.cons (.tup (.cons (.var 0) (.cons (.tup (.cons (.bin .add (.var 1) (.int 1)) (.cons (.var 1) .nil))) .nil))) .nil)) .nil))) (.cons (.tup (.cons (.int 1) (.cons (.var 3) .nil))) .nil))),
  .ite (.or (.not (.tru (.isi (.var 5) .tuple))) (.or (.cmp .ne (.blt .len (.cons (.var 5) .nil)) (.int 2)) (.or (.not (.tru (.call f_law_is_number14 (.cons (.ix (.var 5) (.int 0)) .nil)))) (.not (.tru (.call f_law_is_number14 (.cons (.ix (.var 5) (.int 1)) .nil))))))) (ss [.ret (.bl false)]) (ss []),
  .ite (.or (.not (.tru (.call f_law_not_above14 (.cons (.ix (.var 5) (.int 0)) (.cons (.ix (.var 5) (.int 1)) .nil))))) (.not (.tru (.call f_law_not_above14 (.cons (.ix (.var 5) (.int 1)) (.cons (.call f_law_plus14 (.cons (.ix (.var 5) (.int 0)) (.cons (.tup (.cons (.int 1) (.cons (.var 3) .nil))) .nil))) .nil)))))) (ss [.ret (.bl false)]) (ss []),
  .asg 6 (.lst (.cons (.call f_law_times14 (.cons (.var 0) (.cons (.tup (.cons (.int 1) (.cons (.bin .add (.var 1) (.int 1)) .nil))) .nil))) (.cons (.call f_law_times14 (.cons (.var 0) (.cons (.tup (.cons (.int 1) (.cons (.var 1) .nil))) .nil))) .nil))),
  .ite (.cmp .lt (.ix (.var 0) (.int 0)) (.int 0)) (ss [.ex (.mth .reverse 6 .nil)]) (ss []),
  .ret (.and (.call f_law_not_above14 (.cons (.ix (.var 5) (.int 0)) (.cons (.ix (.var 6) (.int 1)) .nil))) (.call f_law_not_above14 (.cons (.ix (.var 6) (.int 0)) (.cons (.ix (.var 5) (.int 1)) .nil))))]
/-- law: 0 law_script, 1 law_k, 2 law_cell, 3 law_c_here, 4 law_m -/
def b_law : Ss := ss [.for (.tp [1, 2]) (.enum (.bin .add (.sl (.var 0) .no (.yes (.int 1))) (.lst (.cons (.int 4) .nil)))) (ss [.asg 3 (.call f_law_c (.cons (.bin .add (.call f_law_at14 (.cons (.var 0) (.cons (.bin .add (.var 1) (.int 1)) .nil))) (.bin .mul (.int 5) (.var 1))) .nil)),
  .asg 4 (.call f_law_whole (.cons (.var 2) (.cons (.call f_law_draw14 (.cons (.bin .add (.call f_law_at14 (.cons (.var 0) (.cons (.bin .add (.var 1) (.int 2)) .nil))) (.bin .mul (.int 7) (.var 1))) (.cons (.int 2) (.cons (.int 6) .nil)))) .nil))),
  .ite (.or (.not (.tru (.call f_law_signs (.cons (.var 3) (.cons (.var 4) .nil))))) (.not (.tru (.call f_law_held (.cons (.var 3) (.cons (.var 4) (.cons (.ix (.tup (.cons (.int 0) (.cons (.int 3) (.cons (.int 12) (.cons (.int 25) (.cons (.int 39) (.cons (.int 40) .nil))))))) (.call f_law_draw14 (.cons (.var 2) (.cons (.int 3) (.cons (.int 6) .nil))))) .nil))))))) (ss [.ret (.bl false)]) (ss [])]),
  .ret (.bl true)]
def topS (i : Nat) : Stmt := PySem.Challenge.pw_backslope_k97_logarithms_near_nought.main.body.getD i (.Pass ⟨0, 0, 0, 0⟩)
def e_shared : Ent := ⟨f_shared, ⟨("shared", none), "shared", "shared", defArgs (topS 1), defBody (topS 1), defScope (topS 1), [], []⟩, ["one", "other", "rest"], ["one", "other"], b_shared, false⟩
def e_ratio : Ent := ⟨f_ratio, ⟨("ratio", none), "ratio", "ratio", defArgs (topS 2), defBody (topS 2), defScope (topS 2), [], []⟩, ["top", "bottom", "by"], ["top", "bottom"], b_ratio, false⟩
def e_plus : Ent := ⟨f_plus, ⟨("plus", none), "plus", "plus", defArgs (topS 3), defBody (topS 3), defScope (topS 3), [], []⟩, ["one", "other"], ["one", "other"], b_plus, false⟩
def e_minus : Ent := ⟨f_minus, ⟨("minus", none), "minus", "minus", defArgs (topS 4), defBody (topS 4), defScope (topS 4), [], []⟩, ["one", "other"], ["one", "other"], b_minus, false⟩
def e_times : Ent := ⟨f_times, ⟨("times", none), "times", "times", defArgs (topS 5), defBody (topS 5), defScope (topS 5), [], []⟩, ["one", "other"], ["one", "other"], b_times, false⟩
def e_over : Ent := ⟨f_over, ⟨("over", none), "over", "over", defArgs (topS 6), defBody (topS 6), defScope (topS 6), [], []⟩, ["one", "other"], ["one", "other"], b_over, false⟩
def e_before : Ent := ⟨f_before, ⟨("before", none), "before", "before", defArgs (topS 7), defBody (topS 7), defScope (topS 7), [], []⟩, ["one", "other"], ["one", "other"], b_before, false⟩
def e_divisor_of : Ent := ⟨f_divisor_of, ⟨("divisor_of", none), "divisor_of", "divisor_of", defArgs (topS 10), defBody (topS 10), defScope (topS 10), [], []⟩, ["one", "other", "rest"], ["one", "other"], b_divisor_of, false⟩
def e_meeting18 : Ent := ⟨f_meeting18, ⟨("meeting_place", none), "meeting_place", "meeting_place", defArgs (topS 11), defBody (topS 11), defScope (topS 11), [], []⟩, ["base", "whole", "place", "pair"], ["base", "whole"], b_meeting18, false⟩
def e_refined18 : Ent := ⟨f_refined18, ⟨("refined", none), "refined", "refined", defArgs (topS 12), defBody (topS 12), defScope (topS 12), [], []⟩, ["todo", "base", "whole", "c", "place", "other", "e", "by"], ["todo"], b_refined18, false⟩
def e_settled18 : Ent := ⟨f_settled18, ⟨("settled_number", none), "settled_number", "settled_number", defArgs (topS 13), defBody (topS 13), defScope (topS 13), [], []⟩, ["q", "rows", "todo", "c", "r", "whole"], ["q", "rows"], b_settled18, false⟩
def e_n_plus18 : Ent := ⟨f_n_plus18, ⟨("n_plus", none), "n_plus", "n_plus", defArgs (topS 14), defBody (topS 14), defScope (topS 14), [], []⟩, ["one", "other"], ["one", "other"], b_n_plus18, false⟩
def e_n_scaled18 : Ent := ⟨f_n_scaled18, ⟨("n_scaled", none), "n_scaled", "n_scaled", defArgs (topS 15), defBody (topS 15), defScope (topS 15), [], []⟩, ["one", "c", "e", "r"], ["one", "c"], b_n_scaled18, false⟩
def e_scale_for : Ent := ⟨f_scale_for, ⟨("scale_for", none), "scale_for", "scale_for", defArgs (topS 16), defBody (topS 16), defScope (topS 16), [], []⟩, ["width", "scale", "bits"], ["width"], b_scale_for, false⟩
def e_row_held : Ent := ⟨f_row_held, ⟨("row_held", none), "row_held", "row_held", defArgs (topS 17), defBody (topS 17), defScope (topS 17), [], []⟩, ["z", "width", "scale", "part", "total", "many"], ["z", "width"], b_row_held, false⟩
def e_doubled : Ent := ⟨f_doubled, ⟨("doubled", none), "doubled", "doubled", defArgs (topS 18), defBody (topS 18), defScope (topS 18), [], []⟩, ["many", "whole", "turn"], ["many"], b_doubled, false⟩
def e_halved : Ent := ⟨f_halved, ⟨("halved", none), "halved", "halved", defArgs (topS 19), defBody (topS 19), defScope (topS 19), [], []⟩, ["r", "top", "bottom", "k"], ["r"], b_halved, false⟩
def e_stretched : Ent := ⟨f_stretched, ⟨("stretched", none), "stretched", "stretched", defArgs (topS 20), defBody (topS 20), defScope (topS 20), [], []⟩, ["span", "c", "low", "high"], ["span", "c"], b_stretched, false⟩
def e_log_held : Ent := ⟨f_log_held, ⟨("log_held", none), "log_held", "log_held", defArgs (topS 21), defBody (topS 21), defScope (topS 21), [], []⟩, ["r", "width", "m", "k", "one", "own", "two"], ["r", "width"], b_log_held, false⟩
def e_held : Ent := ⟨f_held, ⟨("held", none), "held", "held", defArgs (topS 22), defBody (topS 22), defScope (topS 22), [], []⟩, ["one", "width", "low", "high", "c", "r", "size", "span"], ["one", "width"], b_held, false⟩
def e_sign_of18 : Ent := ⟨f_sign_of18, ⟨("sign_of", none), "sign_of", "sign_of", defArgs (topS 23), defBody (topS 23), defScope (topS 23), [], []⟩, ["one", "width", "low", "high"], ["one"], b_sign_of18, false⟩
def e_law_at14 : Ent := ⟨f_law_at14, ⟨("_law_at", none), "_law_at", "_law_at", defArgs (topS 25), defBody (topS 25), defScope (topS 25), [], []⟩, ["_law_script", "_law_k"], ["_law_script", "_law_k"], b_law_at14, false⟩
def e_law_draw14 : Ent := ⟨f_law_draw14, ⟨("_law_draw", none), "_law_draw", "_law_draw", defArgs (topS 26), defBody (topS 26), defScope (topS 26), [], []⟩, ["_law_cell", "_law_k", "_law_many", "_law_m"], ["_law_cell", "_law_k", "_law_many"], b_law_draw14, false⟩
def e_law_number14 : Ent := ⟨f_law_number14, ⟨("_law_number", none), "_law_number", "_law_number", defArgs (topS 27), defBody (topS 27), defScope (topS 27), [], []⟩, ["_law_top", "_law_bottom", "_law_one", "_law_other"], ["_law_top", "_law_bottom"], b_law_number14, false⟩
def e_law_plus14 : Ent := ⟨f_law_plus14, ⟨("_law_plus", none), "_law_plus", "_law_plus", defArgs (topS 28), defBody (topS 28), defScope (topS 28), [], []⟩, ["_law_one", "_law_other"], ["_law_one", "_law_other"], b_law_plus14, false⟩
def e_law_times14 : Ent := ⟨f_law_times14, ⟨("_law_times", none), "_law_times", "_law_times", defArgs (topS 29), defBody (topS 29), defScope (topS 29), [], []⟩, ["_law_one", "_law_other"], ["_law_one", "_law_other"], b_law_times14, false⟩
def e_law_not_above14 : Ent := ⟨f_law_not_above14, ⟨("_law_not_above", none), "_law_not_above", "_law_not_above", defArgs (topS 30), defBody (topS 30), defScope (topS 30), [], []⟩, ["_law_one", "_law_other"], ["_law_one", "_law_other"], b_law_not_above14, false⟩
def e_law_is_number14 : Ent := ⟨f_law_is_number14, ⟨("_law_is_number", none), "_law_is_number", "_law_is_number", defArgs (topS 31), defBody (topS 31), defScope (topS 31), [], []⟩, ["_law_found", "_law_part"], ["_law_found"], b_law_is_number14, false⟩
def e_law_c : Ent := ⟨f_law_c, ⟨("_law_c", none), "_law_c", "_law_c", defArgs (topS 32), defBody (topS 32), defScope (topS 32), [], []⟩, ["_law_cell", "_law_top"], ["_law_cell"], b_law_c, false⟩
def e_law_whole : Ent := ⟨f_law_whole, ⟨("_law_whole", none), "_law_whole", "_law_whole", defArgs (topS 33), defBody (topS 33), defScope (topS 33), [], []⟩, ["_law_cell", "_law_kind", "_law_bottom", "_law_turn"], ["_law_cell", "_law_kind"], b_law_whole, false⟩
def e_law_signs : Ent := ⟨f_law_signs, ⟨("_law_signs", none), "_law_signs", "_law_signs", defArgs (topS 34), defBody (topS 34), defScope (topS 34), [], []⟩, ["_law_c_here", "_law_m", "_law_one", "_law_other", "_law_sign", "_law_minus_one", "_law_found", "_law_part"], ["_law_c_here", "_law_m"], b_law_signs, false⟩
def e_law_held : Ent := ⟨f_law_held, ⟨("_law_held", none), "_law_held", "_law_held", defArgs (topS 35), defBody (topS 35), defScope (topS 35), [], []⟩, ["_law_c_here", "_law_m", "_law_places", "_law_bottom", "_law_turn", "_law_found", "_law_ends"], ["_law_c_here", "_law_m", "_law_places"], b_law_held, false⟩
def e_law : Ent := ⟨f_law, ⟨("law", none), "law", "law", defArgs (topS 36), defBody (topS 36), defScope (topS 36), [], []⟩, ["_law_script", "_law_k", "_law_cell", "_law_c_here", "_law_m"], ["_law_script"], b_law, false⟩
def tab : List Ent := [e_shared, e_ratio, e_plus, e_minus, e_times, e_over, e_before, e_divisor_of, e_meeting18, e_refined18, e_settled18, e_n_plus18, e_n_scaled18, e_scale_for, e_row_held, e_doubled, e_halved, e_stretched, e_log_held, e_held, e_sign_of18, e_law_at14, e_law_draw14, e_law_number14, e_law_plus14, e_law_times14, e_law_not_above14, e_law_is_number14, e_law_c, e_law_whole, e_law_signs, e_law_held, e_law]
def blts : List Str := ["abs", "any", "bool", "enumerate", "int", "isinstance", "len", "list", "range", "sorted", "tuple"]
def cons : List (Str × VL.D) := [("NOUGHT", .tup [.int 0, .int 1])]
set_option maxHeartbeats 0 in
theorem bnd_all : Along (fun _ e => Bnd e) 0 tab := ⟨(fun _ _ _ _ _ _ us hl => match us, hl with | [_, _], _ => rfl),
  (fun _ _ _ _ _ _ us hl => match us, hl with | [_, _], _ => rfl),
  (fun _ _ _ _ _ _ us hl => match us, hl with | [_, _], _ => rfl),
  (fun _ _ _ _ _ _ us hl => match us, hl with | [_, _], _ => rfl),
  (fun _ _ _ _ _ _ us hl => match us, hl with | [_, _], _ => rfl),
  (fun _ _ _ _ _ _ us hl => match us, hl with | [_, _], _ => rfl),
  (fun _ _ _ _ _ _ us hl => match us, hl with | [_, _], _ => rfl),
  (fun _ _ _ _ _ _ us hl => match us, hl with | [_, _], _ => rfl),
  (fun _ _ _ _ _ _ us hl => match us, hl with | [_, _], _ => rfl),
  (fun _ _ _ _ _ _ us hl => match us, hl with | [_], _ => rfl),
  (fun _ _ _ _ _ _ us hl => match us, hl with | [_, _], _ => rfl),
  (fun _ _ _ _ _ _ us hl => match us, hl with | [_, _], _ => rfl),
  (fun _ _ _ _ _ _ us hl => match us, hl with | [_, _], _ => rfl),
  (fun _ _ _ _ _ _ us hl => match us, hl with | [_], _ => rfl),
  (fun _ _ _ _ _ _ us hl => match us, hl with | [_, _], _ => rfl),
  (fun _ _ _ _ _ _ us hl => match us, hl with | [_], _ => rfl),
  (fun _ _ _ _ _ _ us hl => match us, hl with | [_], _ => rfl),
  (fun _ _ _ _ _ _ us hl => match us, hl with | [_, _], _ => rfl),
  (fun _ _ _ _ _ _ us hl => match us, hl with | [_, _], _ => rfl),
  (fun _ _ _ _ _ _ us hl => match us, hl with | [_, _], _ => rfl),
  (fun _ _ _ _ _ _ us hl => match us, hl with | [_], _ => rfl),
  (fun _ _ _ _ _ _ us hl => match us, hl with | [_, _], _ => rfl),
  (fun _ _ _ _ _ _ us hl => match us, hl with | [_, _, _], _ => rfl),
  (fun _ _ _ _ _ _ us hl => match us, hl with | [_, _], _ => rfl),
  (fun _ _ _ _ _ _ us hl => match us, hl with | [_, _], _ => rfl),
  (fun _ _ _ _ _ _ us hl => match us, hl with | [_, _], _ => rfl),
  (fun _ _ _ _ _ _ us hl => match us, hl with | [_, _], _ => rfl),
  (fun _ _ _ _ _ _ us hl => match us, hl with | [_], _ => rfl),
  (fun _ _ _ _ _ _ us hl => match us, hl with | [_], _ => rfl),
  (fun _ _ _ _ _ _ us hl => match us, hl with | [_, _], _ => rfl),
  (fun _ _ _ _ _ _ us hl => match us, hl with | [_, _], _ => rfl),
  (fun _ _ _ _ _ _ us hl => match us, hl with | [_, _, _], _ => rfl),
  (fun _ _ _ _ _ _ us hl => match us, hl with | [_], _ => rfl), trivial⟩
set_option maxHeartbeats 0 in
theorem chk_all : entB tab blts cons 0 tab = true := by decide +kernel
end K97

/-! K97: promises and why they are kept. -/
namespace K97
open PySem PySem.Spec L2 VL M1 M2 M3 M17 M18
open M14 (f_law_at14 f_law_draw14 f_law_number14 f_law_plus14 f_law_times14 f_law_not_above14 f_law_is_number14 G14)
theorem inv_mono {a b : Nat} (h : 1 ≤ a) (g : a ≤ b) : 1 / (b : Rat) ≤ 1 / (a : Rat) := u_le h g
/-- a stretch of 1/i from below -/
theorem H_ge (M : Nat) : ∀ d K : Nat, 1 ≤ M → M + d ≤ K → (d : Rat) * (1 / (K : Rat)) ≤ H (M + d) - H M
  | 0, K, _, _ => by rw [show ((0 : Nat) : Rat) = 0 from rfl, Nat.add_zero]; grind
  | d + 1, K, h, g => by
    have ih := H_ge M d K h (by omega)
    have e : H (M + (d + 1)) = H (M + d) + 1 / ((M + d + 1 : Nat) : Rat) := rfl
    have i1 := inv_mono (a := M + d + 1) (b := K) (by omega) (by omega)
    rw [e, nat_succ]; grind
/-- 1/m over 1/(m+1): the differences -/
theorem H_gap (M n : Nat) : ∀ d : Nat, 1 ≤ M → 1 ≤ n → d ≤ n → (d : Rat) * ((n : Rat) * (1 / ((M + n : Nat) : Rat) * (1 / ((M + n + n : Nat) : Rat)))) ≤ (H (M + d) - H M) - (H (M + n + d) - H (M + n))
  | 0, _, _, _ => by rw [show ((0 : Nat) : Rat) = 0 from rfl, Nat.add_zero, Nat.add_zero]; grind
  | d + 1, h, g, l => by
    have ih := H_gap M n d h g (by omega)
    have e1 : H (M + (d + 1)) = H (M + d) + 1 / ((M + d + 1 : Nat) : Rat) := rfl
    have e2 : H (M + n + (d + 1)) = H (M + n + d) + 1 / ((M + n + d + 1 : Nat) : Rat) := rfl
    have i1 := inv_mono (a := M + d + 1) (b := M + n) (by omega) (by omega)
    have i2 := inv_mono (a := M + n + d + 1) (b := M + n + n) (by omega) (by omega)
    have p1 := u_pos (show 1 ≤ M + n by omega)
    have p2 := u_pos (show 1 ≤ M + n + n by omega)
    unfold u at p1 p2
    have n0 := nat_nn n
    have a1 := ge1 (show 1 ≤ M + d + 1 by omega)
    have a2 := ge1 (show 1 ≤ M + n + d + 1 by omega)
    have e3 : 1 / ((M + d + 1 : Nat) : Rat) - 1 / ((M + n + d + 1 : Nat) : Rat) = (n : Rat) * (1 / ((M + d + 1 : Nat) : Rat) * (1 / ((M + n + d + 1 : Nat) : Rat))) := by
      have c : ((M + n + d + 1 : Nat) : Rat) = ((M + d + 1 : Nat) : Rat) + (n : Rat) := by
        rw [← Rat.natCast_add]; congr 1; omega
      have b1 : ((M + d + 1 : Nat) : Rat) ≠ 0 := by grind
      have b2 : ((M + n + d + 1 : Nat) : Rat) ≠ 0 := by grind
      have : (n : Rat) = ((M + n + d + 1 : Nat) : Rat) - ((M + d + 1 : Nat) : Rat) := by grind
      rw [this]; grind
    have s1 := Rat.mul_le_mul_of_nonneg_right i1 (Rat.le_of_lt p2)
    have q1 : 0 ≤ 1 / ((M + d + 1 : Nat) : Rat) := Rat.le_trans (Rat.le_of_lt p1) i1
    have s2 := Rat.mul_le_mul_of_nonneg_left i2 q1
    have s3 := Rat.mul_le_mul_of_nonneg_left (Rat.le_trans s1 s2) n0
    rw [e1, e2, nat_succ]
    grind
theorem A_up {m N : Nat} (hm : 1 ≤ m) (hN : 1 ≤ N) : A (m + 1) m N ≤ 1 / (m : Rat) := by
  have h := (H_le (m * N) N (Nat.mul_pos hm hN)).1
  unfold A
  rw [Nat.add_mul, Nat.one_mul]
  refine Rat.le_trans h ?_
  have m0 := ge1 hm
  have n0 := ge1 hN
  have a1 : (m : Rat) ≠ 0 := by grind
  have a2 : (N : Rat) ≠ 0 := by grind
  rw [Rat.natCast_mul]
  have : (N : Rat) / ((m : Rat) * N) = 1 / (m : Rat) := by grind
  rw [this]; exact Rat.le_refl
theorem A_dn {m N : Nat} (hm : 1 ≤ m) (hN : 1 ≤ N) : 1 / ((m + 1 : Nat) : Rat) ≤ A (m + 1) m N := by
  have h := H_ge (m * N) N ((m + 1) * N) (Nat.mul_pos hm hN) (by rw [Nat.add_mul]; omega)
  unfold A
  rw [Nat.add_mul, Nat.one_mul] at h ⊢
  refine Rat.le_trans ?_ h
  have m0 := ge1 (show 1 ≤ m + 1 by omega)
  have n0 := ge1 hN
  have a1 : ((m + 1 : Nat) : Rat) ≠ 0 := by grind
  have a2 : (N : Rat) ≠ 0 := by grind
  have e : ((m * N + N : Nat) : Rat) = ((m + 1 : Nat) : Rat) * N := by rw [← Rat.natCast_mul, Nat.add_mul, Nat.one_mul]
  rw [e]
  have : (N : Rat) * (1 / (((m + 1 : Nat) : Rat) * N)) = 1 / ((m + 1 : Nat) : Rat) := by grind
  rw [this]; exact Rat.le_refl
theorem A_gap {m N : Nat} (hm : 1 ≤ m) (hN : 1 ≤ N) : 1 / ((m + 1 : Nat) : Rat) * (1 / ((m + 2 : Nat) : Rat)) ≤ A (m + 1) m N - A (m + 2) (m + 1) N := by
  have h := H_gap (m * N) N N (Nat.mul_pos hm hN) hN (Nat.le_refl N)
  unfold A
  have e1 : (m + 1) * N = m * N + N := by rw [Nat.add_mul, Nat.one_mul]
  have e2 : (m + 2) * N = m * N + N + N := by rw [Nat.add_mul]; omega
  rw [e1, e2]
  refine Rat.le_trans ?_ h
  have m0 := ge1 (show 1 ≤ m + 1 by omega)
  have m1 := ge1 (show 1 ≤ m + 2 by omega)
  have n0 := ge1 hN
  have a1 : ((m + 1 : Nat) : Rat) ≠ 0 := by grind
  have a3 : ((m + 2 : Nat) : Rat) ≠ 0 := by grind
  have a2 : (N : Rat) ≠ 0 := by grind
  have c1 : ((m * N + N : Nat) : Rat) = ((m + 1 : Nat) : Rat) * N := by rw [← Rat.natCast_mul, e1]
  have c2 : ((m * N + N + N : Nat) : Rat) = ((m + 2 : Nat) : Rat) * N := by rw [← Rat.natCast_mul, e2]
  rw [c1, c2]
  have : (N : Rat) * ((N : Rat) * (1 / (((m + 1 : Nat) : Rat) * N) * (1 / (((m + 2 : Nat) : Rat) * N)))) = 1 / ((m + 1 : Nat) : Rat) * (1 / ((m + 2 : Nat) : Rat)) := by grind
  rw [this]; exact Rat.le_refl
/-- a number as drawn -/
structure Cd (n : Int) (b : Nat) : Prop where
  n0 : n ≠ 0
  n1 : n.natAbs ≤ 1000000000000
  b0 : 1 ≤ b
  b1 : b ≤ 5
theorem Cd.abs {n : Int} {b : Nat} (h : Cd n b) : (0 < n → 1 / 5 ≤ Rat.divInt n b) ∧ (n < 0 → Rat.divInt n b ≤ -(1 / 5)) := by
  have b0 := ge1 h.b0
  have b5 : (b : Rat) ≤ 5 := nat_le h.b1
  have b9 : (b : Rat) ≠ 0 := by grind
  have e : Rat.divInt n b = (n : Rat) / (b : Rat) := by rw [Rat.divInt_eq_div, Rat.intCast_natCast]
  constructor
  · intro p
    have p1 : (1 : Rat) ≤ (n : Rat) := by exact_mod_cast p
    rw [e]
    exact le_div b0 (by grind)
  · intro p
    have p1 : (n : Rat) ≤ -1 := by
      have h9 : n ≤ -1 := by omega
      have h8 : (n : Rat) ≤ ((-1 : Int) : Rat) := by exact_mod_cast h9
      exact h8
    rw [e]
    exact div_le b0 (by grind)
theorem Cd.num {n : Int} {b : Nat} (h : Cd n b) : (0 < (Rat.divInt n b).num ↔ 0 < n) ∧ ((Rat.divInt n b).num < 0 ↔ n < 0) := by
  obtain ⟨h1, h2⟩ := h.abs
  have n0 := h.n0
  have g1 : 0 < n → 0 < (Rat.divInt n b).num := fun p => num_pos.mpr (by have := h1 p; grind)
  have g2 : n < 0 → (Rat.divInt n b).num < 0 := fun p => by
    have := h2 p
    refine Classical.byContradiction fun w => ?_
    have : 0 ≤ Rat.divInt n b := Rat.num_nonneg.mp (by omega)
    grind
  constructor
  · refine ⟨fun p => Classical.byContradiction fun w => ?_, g1⟩
    have := g2 (by omega)
    omega
  · refine ⟨fun p => Classical.byContradiction fun w => ?_, g2⟩
    have := g1 (by omega)
    omega
/-- the sign of a number times what is above nought -/
theorem sg_of {n : Int} {b t : Nat} {f : Nat → Rat} {d : Rat} (h : Cd n b) (hd : 5 ≤ d * 2 ^ t) (hf : ∀ N, 1 ≤ N → d ≤ f N) : SgD t (sgn (Rat.divInt n b) (Rat.divInt n b)) (fun N => Rat.divInt n b * f N) := by
  obtain ⟨h1, h2⟩ := h.abs
  obtain ⟨k1, k2⟩ := h.num
  have n0 := h.n0
  have d0 : 0 < d := Classical.byContradiction fun w => by
    have d1 : d ≤ 0 := Rat.not_lt.mp w
    have p : (0 : Rat) ≤ 2 ^ t := pow_nn (by decide) t
    have := Rat.mul_le_mul_of_nonneg_right d1 p
    grind
  by_cases c : 0 < n
  · refine .inl ⟨?_, d / 5, by grind, 0, Rat.le_refl, fun N hN => ?_⟩
    · unfold sgn
      rw [decide_eq_true (k1.mpr c), decide_eq_false (fun w => by have := k2.mp w; omega)]; rfl
    · have a := hf N hN
      have b := Rat.mul_le_mul_of_nonneg_right (h1 c) (show 0 ≤ f N by grind)
      show d / 5 ≤ Rat.divInt n _ * f N + 0 * u N
      grind
  · have c2 : n < 0 := by omega
    refine .inr ⟨?_, d / 5, by grind, 0, Rat.le_refl, fun N hN => ?_⟩
    · unfold sgn
      rw [decide_eq_false (fun w => by have := k1.mp w; omega), decide_eq_true (k2.mpr c2)]; rfl
    · have a := hf N hN
      have b := Rat.mul_le_mul_of_nonneg_right (h2 c2) (show 0 ≤ f N by grind)
      show Rat.divInt n _ * f N ≤ -(d / 5) + 0 * u N
      grind
/-- the share by which the worths stay off nought -/
theorem share {m : Nat} (hm : 1 ≤ m) (hb : m + 2 < 2 ^ 263) : 5 ≤ 1 / ((m + 1 : Nat) : Rat) * (1 / ((m + 2 : Nat) : Rat)) * 2 ^ 530 ∧ 1 / ((m + 1 : Nat) : Rat) * (1 / ((m + 2 : Nat) : Rat)) ≤ 1 / ((m + 1 : Nat) : Rat) := by
  have m0 := ge1 (show 1 ≤ m + 1 by omega)
  have m1 := ge1 (show 1 ≤ m + 2 by omega)
  have a1 : ((m + 1 : Nat) : Rat) ≠ 0 := by grind
  have a3 : ((m + 2 : Nat) : Rat) ≠ 0 := by grind
  have mm := Rat.mul_pos m0 m1
  constructor
  · have e : 1 / ((m + 1 : Nat) : Rat) * (1 / ((m + 2 : Nat) : Rat)) * 2 ^ 530 = 2 ^ 530 / (((m + 1 : Nat) : Rat) * ((m + 2 : Nat) : Rat)) := by grind
    rw [e]
    refine le_div mm ?_
    have h1 : (m + 1) * (m + 2) ≤ 2 ^ 263 * 2 ^ 263 := Nat.mul_le_mul (by omega) (by omega)
    have h2 : (m + 1) * (m + 2) * 5 ≤ 2 ^ 530 := by
      have : 2 ^ 263 * 2 ^ 263 * 5 ≤ 2 ^ 530 := by decide +kernel
      exact Nat.le_trans (Nat.mul_le_mul_right 5 h1) this
    have h3 : (((m + 1) * (m + 2) * 5 : Nat) : Rat) ≤ ((2 ^ 530 : Nat) : Rat) := nat_le h2
    rw [Rat.natCast_mul, Rat.natCast_mul, Rat.natCast_pow 2 530] at h3
    exact h3
  · have i : 1 / ((m + 2 : Nat) : Rat) ≤ 1 := by
      have : ((1 : Nat) : Rat) ≤ ((m + 2 : Nat) : Rat) := nat_le (by omega)
      rw [show ((1 : Nat) : Rat) = 1 from rfl] at this
      exact div_le m1 (by grind)
    have p : 0 ≤ 1 / ((m + 1 : Nat) : Rat) := le_div m0 (by grind)
    have := Rat.mul_le_mul_of_nonneg_left i p
    grind

def v_law_c : VF := ⟨.read, fun ds r => ∃ c : Int, ds = [.int c] ∧ ∀ (n : Int) (b : Nat), Cd n b → r (.val (dR (Rat.divInt n b))) none⟩
def v_law_whole : VF := ⟨.read, fun ds r => ∃ c k : Int, ds = [.int c, .int k] ∧ 0 ≤ k ∧ k < 6 ∧ ∀ m : Nat, 2 ≤ m → m < 2 ^ 262 → r (.val (.int (m : Nat))) none⟩
def v_law_signs : VF := ⟨.read, fun ds r => ∃ (n : Int) (b m : Nat), ds = [dR (Rat.divInt n b), .int (m : Nat)] ∧ Cd n b ∧ 2 ≤ m ∧ m < 2 ^ 262 ∧ r (.val (.bl true)) none⟩
def v_law_held : VF := ⟨.read, fun ds r => ∃ (n : Int) (b m p : Nat), ds = [dR (Rat.divInt n b), .int (m : Nat), .int (p : Nat)] ∧ Cd n b ∧ 2 ≤ m ∧ m < 2 ^ 262 ∧ p ≤ 40 ∧ r (.val (.bl true)) none⟩
def v_law : VF := lawVF 63
def loc : Nat → VF
  | 0 => v_law_c
  | 1 => v_law_whole
  | 2 => v_law_signs
  | 3 => v_law_held
  | 4 => v_law
  | _ => vStub
noncomputable def ga : Nat → VF := G1 (G2 (G3 (G14 (G17 (G18 (loc))))))

theorem good_law_c : Good ga b_law_c 1 1 v_law_c := by
  rintro ds r ⟨c, rfl, hr⟩ -
  refine ⟨rfl, rfl, c, 0, 6, rfl, by decide, by decide, fun t t0 t1 => ⟨.inl rfl, ?_⟩⟩
  obtain ⟨n, hn, n0, hd⟩ : ∃ n : Int, n.natAbs ≤ 8 ∧ n ≠ 0 ∧ atI [VL.D.int (-7), .int (-2), .int (-1), .int 1, .int 3, .int 8] t = some (.int n) := by
    obtain ⟨i, rfl⟩ : ∃ i : Nat, t = i := ⟨t.toNat, by omega⟩
    have : i < 6 := by omega
    match i, this with
    | 0, _ => exact ⟨-7, by decide, by decide, rfl⟩
    | 1, _ => exact ⟨-2, by decide, by decide, rfl⟩
    | 2, _ => exact ⟨-1, by decide, by decide, rfl⟩
    | 3, _ => exact ⟨1, by decide, by decide, rfl⟩
    | 4, _ => exact ⟨3, by decide, by decide, rfl⟩
    | 5, _ => exact ⟨8, by decide, by decide, rfl⟩
  have fin : ∀ n : Int, n ≠ 0 → n.natAbs ≤ 1000000000000 → wSs ga (ss [.ret (.call f_law_number14 (.cons (.var 1) (.cons (.bin .add (.int 1) (.call f_law_draw14 (.cons (.var 0) (.cons (.int 1) (.cons (.int 5) .nil))))) .nil)))]) [.val (.int c), .val (.int n)] { nx := fun _ => r (.val .non) none, rt := fun v _ => r v none } := by
    intro n n0 n1
    refine ⟨rfl, c, 1, 5, rfl, by decide, by decide, fun w w0 w1 => ⟨.inl rfl, rfl, n, 1 + w, rfl, by omega, .inl rfl, ?_⟩⟩
    obtain ⟨b, eb⟩ : ∃ b : Nat, 1 + w = b := ⟨(1 + w).toNat, by omega⟩
    rw [eb]
    exact hr n b ⟨n0, n1, by omega, by omega⟩
  refine ⟨_, hd, rfl, c, 4, 4, rfl, by decide, by decide, fun u u0 u1 => ⟨.inl rfl, fun _ => ?_, fun _ => fin n n0 (by omega)⟩⟩
  have p11 : CPow 10 11 := ⟨by decide, by decide, by decide⟩
  obtain ⟨T, eT⟩ : ∃ T : Int, T = 1 + c.fmod (10 ^ (11 : Int).toNat) := ⟨_, rfl⟩
  have Tb : 1 ≤ T ∧ T ≤ 100000000000 := by
    have e11 : (10 : Int) ^ (11 : Int).toNat = 100000000000 := by decide
    rw [eT, e11]
    have h1 := Int.fmod_nonneg_of_pos c (show (0 : Int) < 100000000000 by decide)
    have h2 := Int.fmod_lt_of_pos c (show (0 : Int) < 100000000000 by decide)
    omega
  refine ⟨p11, by decide, mul_l (Nat.lt_of_le_of_lt hn (by decide)), ?_⟩
  have := fin (n * T) (Int.mul_ne_zero n0 (by omega)) (by
    rw [Int.natAbs_mul]
    have := Nat.mul_le_mul hn (show T.natAbs ≤ 100000000000 by omega)
    omega)
  rw [eT] at this
  exact this
theorem good_law_whole : Good ga b_law_whole 2 2 v_law_whole := by
  rintro ds r ⟨c, t, rfl, t0, t1, hr⟩ -
  obtain ⟨n, hn, hd⟩ : ∃ n : Nat, n ≤ 78 ∧ atI [VL.D.int 2, .int 10, .int 20, .int 38, .int 60, .int 78] t = some (.int (n : Nat)) := by
    obtain ⟨i, rfl⟩ : ∃ i : Nat, t = i := ⟨t.toNat, by omega⟩
    have : i < 6 := by omega
    match i, this with
    | 0, _ => exact ⟨2, by decide, rfl⟩
    | 1, _ => exact ⟨10, by decide, rfl⟩
    | 2, _ => exact ⟨20, by decide, rfl⟩
    | 3, _ => exact ⟨38, by decide, rfl⟩
    | 4, _ => exact ⟨60, by decide, rfl⟩
    | 5, _ => exact ⟨78, by decide, rfl⟩
  have pb : ∀ k, k ≤ 78 → (10 : Nat) ^ k ≤ 10 ^ 78 := fun k hk => Nat.pow_le_pow_right (by decide) hk
  have b78 : (10 : Nat) ^ 78 < 2 ^ 260 := by decide +kernel
  refine ⟨rfl, _, hd, ⟨by omega, by omega⟩, fun k ρ => ∃ s2 : Sl, ρ = [.val (.int c), .val (.int t), .val (.int (10 ^ k : Nat)), s2] ∧ k ≤ n, ⟨_, rfl, Nat.zero_le _⟩, ?_, ?_⟩
  · rintro k d _ hd ⟨s2, rfl, _⟩
    obtain ⟨rfl, hk⟩ := rngs_at hd
    have hk : k < n := by omega
    have b1 : (((10 ^ k : Nat) : Int)).natAbs < 2 ^ 260 := by
      rw [Int.natAbs_natCast]
      exact Nat.lt_of_le_of_lt (pb k (by omega)) b78
    refine ⟨M17.mul_sz b1 (show (10 : Int).natAbs < 2 ^ 10 by decide) (by decide) (by decide), .val (.int k), ?_, hk⟩
    show [Sl.val (.int c), .val (.int t), .val (.int (((10 ^ k : Nat) : Int) * 10)), .val (.int k)] = _
    rw [Nat.pow_succ, Int.natCast_mul]; rfl
  · rintro _ ⟨s2, rfl, _⟩
    rw [rngs_length, Int.toNat_natCast]
    have p : 0 < 10 ^ n := Nat.pow_pos (by decide)
    have np : ((10 ^ n : Nat) : Int) ≠ 0 := by omega
    refine ⟨np, ?_⟩
    have h1 := Int.fmod_nonneg_of_pos c (show (0 : Int) < ((10 ^ n : Nat) : Int) by omega)
    have h2 := Int.fmod_lt_of_pos c (show (0 : Int) < ((10 ^ n : Nat) : Int) by omega)
    obtain ⟨m, em⟩ : ∃ m : Nat, c.fmod ((10 ^ n : Nat) : Int) + 2 = m := ⟨(c.fmod ((10 ^ n : Nat) : Int) + 2).toNat, by omega⟩
    have := pb n hn
    show r (.val (.int (c.fmod ((10 ^ n : Nat) : Int) + 2))) none
    rw [em]
    refine hr m (by omega) ?_
    have : (2 : Nat) ^ 262 = 2 ^ 260 * 4 := by rw [show 262 = 260 + 2 by decide, Nat.pow_add]
    omega
theorem dR_inv (k : Nat) (h : 1 ≤ k) : dR (Rat.divInt 1 (k : Nat)) = .tup [.int 1, .int (k : Nat)] := by
  show VL.D.tup [.int (Rat.divInt 1 (k : Nat)).num, .int ((Rat.divInt 1 (k : Nat)).den : Nat)] = _
  rw [Rat.num_divInt, Rat.den_divInt, if_neg (by omega), Int.sign_eq_one_of_pos (by omega), Int.gcd_one]
  simp
theorem Cd.rb {n : Int} {b : Nat} (h : Cd n b) : RB' 60 (Rat.divInt n b) := rb_div (Nat.lt_of_le_of_lt h.n1 (by decide)) (by rw [Int.natAbs_natCast]; exact Nat.lt_of_le_of_lt h.b1 (by decide)) (by have := h.b0; omega)
theorem Cd.ne {n : Int} {b : Nat} (h : Cd n b) : (Rat.divInt n b).num ≠ 0 := by
  obtain ⟨h1, h2⟩ := h.num
  have := h.n0
  by_cases c : 0 < n
  · have := h1.mpr c; omega
  · have := h2.mpr (by omega); omega
theorem good_law_held : Good ga b_law_held 3 4 v_law_held := by
  rintro ds r ⟨n, b, m, p, rfl, hc, m2, mb, p40, hr⟩ -
  have pb : ∀ k, k ≤ 40 → (10 : Nat) ^ k < 2 ^ 150 := fun k hk => Nat.lt_of_le_of_lt (Nat.pow_le_pow_right (by decide) hk) (by decide)
  refine ⟨⟨by omega, by omega⟩, fun k ρ => ∃ s4 : Sl, ρ = [.val (dR (Rat.divInt n b)), .val (.int (m : Nat)), .val (.int (p : Nat)), .val (.int (10 ^ k : Nat)), s4, .un, .un] ∧ k ≤ p, ⟨_, rfl, Nat.zero_le _⟩, ?_, ?_⟩
  · rintro k d _ hd ⟨s4, rfl, _⟩
    obtain ⟨rfl, hk⟩ := rngs_at hd
    have hk : k < p := by omega
    have b1 : (((10 ^ k : Nat) : Int)).natAbs < 2 ^ 150 := by
      rw [Int.natAbs_natCast]
      exact pb k (by omega)
    refine ⟨M17.mul_sz b1 (show (10 : Int).natAbs < 2 ^ 10 by decide) (by decide) (by decide), .val (.int k), ?_, hk⟩
    show [Sl.val (dR (Rat.divInt n b)), .val (.int (m : Nat)), .val (.int (p : Nat)), .val (.int (((10 ^ k : Nat) : Int) * 10)), .val (.int k), .un, .un] = _
    rw [Nat.pow_succ, Int.natCast_mul]; rfl
  rintro _ ⟨s4, rfl, _⟩
  rw [rngs_length, Int.toNat_natCast]
  obtain ⟨c, ec⟩ : ∃ c, c = Rat.divInt n b := ⟨_, rfl⟩
  have cR : RB' 60 c := by rw [ec]; exact hc.rb
  have cne : c.num ≠ 0 := by rw [ec]; exact hc.ne
  rw [← ec]
  have P1 : 1 ≤ 10 ^ p := Nat.pow_pos (by decide)
  obtain ⟨w, ew⟩ : ∃ w, w = Rat.divInt 1 (10 ^ p : Nat) := ⟨_, rfl⟩
  have wd : VL.D.tup [.int 1, .int (10 ^ p : Nat)] = dR w := by rw [ew]; exact (dR_inv _ P1).symm
  have wR : RB' 300 w := by rw [ew]; exact rb_div (by decide) (by rw [Int.natAbs_natCast]; exact Nat.lt_of_lt_of_le (pb p p40) (Nat.pow_le_pow_right (by decide) (by decide))) (by omega)
  have wn : w.num = 1 := by
    have : dR w = .tup [.int 1, .int (10 ^ p : Nat)] := wd.symm
    injection this with h
    injection h with h
    injection h
  have rok : Rok 300 [(c, m + 1, m)] := by
    have up : (2 : Nat) ^ 262 * 4 ≤ 2 ^ 300 := by decide
    refine ⟨fun x hx => ?_, fun x hx => ?_, fun x hx => ?_, fun x hx => ?_, by show 1 ≤ 4000; decide⟩
    · rw [List.mem_singleton.mp hx]; exact cne
    · rw [List.mem_singleton.mp hx]; exact rb_mono cR (by decide)
    · rw [List.mem_singleton.mp hx]
      exact ⟨by show 1 ≤ m + 1; omega, by show m + 1 < 2 ^ 300; omega⟩
    · rw [List.mem_singleton.mp hx]
      exact ⟨by show 1 ≤ m; omega, by show m < 2 ^ 300; omega⟩
  have r0 : RB' 300 (0 : Rat) := rb_zero 300 (by decide)
  refine ⟨rfl, rfl, rfl, rfl, rfl, rfl, rfl, 0, w, [(c, m + 1, m)], 300, congrArg (fun z => [VL.D.tup [.tup [.int 0, .int 1], .tup [.tup [dR c, .tup [.int (m + 1 : Nat), .int (m : Nat)]]]], z]) wd, rok, r0, by omega, wR, by decide, fun lo hi ho le wdt rl rh _ => ⟨.inl rfl, ?_⟩⟩
  have sl := sz_rb rl (by decide)
  have sh := sz_rb rh (by decide)
  have szw := sz_rb wR (by decide)
  have slw := sz_rb (rb_add rl wR) (by decide)
  refine ⟨fun h => (by cases h), fun _ => ⟨fun h => (by cases h), fun _ => ⟨_, rfl, rfl, lo, rfl, .inl rfl, fun h => (by cases h), fun _ => ⟨_, rfl, rfl, hi, rfl, .inl rfl, fun h => (by cases h), fun _ => ?_⟩⟩⟩⟩
  have le2 : hi ≤ lo + w := by grind
  refine ⟨_, rfl, _, rfl, rfl, lo, hi, rfl, sl, sh, .inl rfl, fun h => ?_, fun _ => ⟨_, rfl, _, rfl, rfl, rfl, lo, w, congrArg (fun z => [dR lo, z]) wd, sl, szw, .inl rfl, rfl, hi, lo + w, rfl, sh, slw, .inl rfl, fun h => ?_, fun _ => ?_⟩⟩
  · have h : (!decide (lo ≤ hi)) = true := h
    rw [decide_eq_true le] at h; cases h
  · have h : (!decide (hi ≤ lo + w)) = true := h
    rw [decide_eq_true le2] at h; cases h
  obtain ⟨e1, ee1⟩ : ∃ e1, e1 = c * Rat.divInt 1 ((m : Int) + 1) := ⟨_, rfl⟩
  obtain ⟨e2, ee2⟩ : ∃ e2, e2 = c * Rat.divInt 1 (m : Int) := ⟨_, rfl⟩
  have m0 := ge1 (show 1 ≤ m by omega)
  have m10 := ge1 (show 1 ≤ m + 1 by omega)
  have up : (2 : Nat) ^ 262 * 4 ≤ 2 ^ 300 := by decide
  have x1 : e1 = c * (1 / ((m + 1 : Nat) : Rat)) := by
    rw [ee1, show (m : Int) + 1 = ((m + 1 : Nat) : Int) by omega, Rat.divInt_eq_div, Rat.intCast_natCast]; rfl
  have x2 : e2 = c * (1 / (m : Rat)) := by
    rw [ee2, Rat.divInt_eq_div, Rat.intCast_natCast]; rfl
  have R1 : RB' 360 e1 := by
    rw [ee1]
    exact rb_mul cR (rb_div (n := 300) (by decide) (by omega) (by omega))
  have R2 : RB' 360 e2 := by
    rw [ee2]
    exact rb_mul cR (rb_div (n := 300) (by decide) (by omega) (by omega))
  have mi : (m : Int) < 2 ^ 262 := by exact_mod_cast mb
  have big : (2 : Nat) ^ 300 ≤ 2 ^ szN := Nat.pow_le_pow_right (by decide) (by unfold szN; decide)
  have ho2 : Ho lo hi (fun N => c * A (m + 1) m N) := ho.near (Nr.of_eq fun N => by show 0 + (c * A (m + 1) m N + 0) = _; grind)
  have HA : Ho (1 / ((m + 1 : Nat) : Rat)) (1 / (m : Rat)) (A (m + 1) m) := ⟨0, Rat.le_refl, fun N hN => by
    have := A_up (show 1 ≤ m by omega) hN
    have := A_dn (show 1 ≤ m by omega) hN
    constructor <;> grind⟩
  have sd : (1 : Int).natAbs < 2 ^ szN := Nat.lt_of_lt_of_le (show 1 < 2 ^ 300 by decide) big
  have s1 : ((m : Int) + 1).natAbs < 2 ^ szN := Nat.lt_of_lt_of_le (show ((m : Int) + 1).natAbs < 2 ^ 300 by omega) big
  have s2 : ((m : Int)).natAbs < 2 ^ szN := Nat.lt_of_lt_of_le (show ((m : Int)).natAbs < 2 ^ 300 by omega) big
  have fin : ∀ f1 f2 : Rat, RB' 360 f1 → RB' 360 f2 → lo ≤ f2 → f1 ≤ hi → wSs ga (ss [.ret (.and (.call f_law_not_above14 (.cons (.ix (.var 5) (.int 0)) (.cons (.ix (.var 6) (.int 1)) .nil))) (.call f_law_not_above14 (.cons (.ix (.var 6) (.int 0)) (.cons (.ix (.var 5) (.int 1)) .nil))))]) [.val (dR c), .val (.int (m : Nat)), .val (.int (p : Nat)), .val (.int (10 ^ p : Nat)), s4, .val (.tup [dR lo, dR hi]), .own [dR f1, dR f2]] { nx := fun _ => r (.val .non) none, rt := fun v _ => r v none } := fun f1 f2 a1 a2 l1 l2 => by
    refine ⟨_, rfl, _, rfl, rfl, lo, f2, rfl, sl, sz_rb a2 (by decide), .inl rfl, fun _ => ⟨_, rfl, _, rfl, rfl, f1, hi, rfl, sz_rb a1 (by decide), sh, .inl rfl, ?_⟩, fun z => ?_⟩
    · rw [decide_eq_true l2]; exact hr
    · rw [decide_eq_true l1] at z; cases z
  refine ⟨rfl, rfl, .inr ⟨c, 1, (m : Int) + 1, rfl, by omega, sz_rb cR (by decide), sd, s1, .inl rfl, rfl, rfl, .inr ⟨c, 1, (m : Int), rfl, by omega, sz_rb cR (by decide), sd, s2, .inl rfl, rfl, ?_⟩⟩⟩
  rw [← ee1, ← ee2]
  refine ⟨_, rfl, fun t => ⟨rfl, ?_⟩, fun t => ?_⟩
  · have t : c.num < 0 := of_decide_eq_true t
    have cn : c ≤ 0 := num_le.mp (by omega)
    have hh := HA.neg cn
    have k1 := ho2.meet hh
    have k2 := hh.meet ho2
    exact fin e2 e1 R2 R1 (by rw [x1]; grind) (by rw [x2]; grind)
  · have t : ¬ c.num < 0 := of_decide_eq_false t
    have cn : 0 ≤ c := Rat.num_nonneg.mp (by omega)
    have hh := HA.pos cn
    have k1 := ho2.meet hh
    have k2 := hh.meet ho2
    exact fin e1 e2 R1 R2 (by rw [x2]; grind) (by rw [x1]; grind)
def dropS : Nat → Ss → Ss
  | 0, s => s
  | _ + 1, .nil => .nil
  | n + 1, .cons _ s => dropS n s
theorem lg_264 {w : Nat} (h : 1 ≤ w) (g : w < 2 ^ 264) : w.log2 ≤ 263 := by
  have := (Nat.log2_lt (k := 264) (show w ≠ 0 by omega)).mpr g
  omega
theorem gr_row {t b : Nat} {n : Int} (t1 : 1 ≤ t) (tb : t < 2 ^ 264) (b1 : 1 ≤ b) (bb : b < 2 ^ 264) (hn : n.natAbs ≤ 1000000000000) : Gr (todo [(t, b, n)]) 526000000000000 2000000000000 526 := by
  have l1 := lg_264 t1 tb
  have l2 := lg_264 b1 bb
  have m1 := Nat.mul_le_mul hn l1
  have m2 := Nat.mul_le_mul (show (-n).natAbs ≤ 1000000000000 by omega) l2
  refine ⟨?_, ?_, ?_⟩
  · show ((n.natAbs : Nat) : Int) * ((t.log2 : Nat) : Int) + ((((-n).natAbs : Nat) : Int) * ((b.log2 : Nat) : Int) + 0) ≤ _
    rw [← Int.natCast_mul, ← Int.natCast_mul]; omega
  · show ((n.natAbs : Nat) : Int) + ((((-n).natAbs : Nat) : Int) + 0) ≤ _
    omega
  · show ((t.log2 : Nat) : Int) + (((b.log2 : Nat) : Int) + 0) ≤ _
    omega
theorem ps_row {t b : Nat} {n : Int} (t1 : 1 ≤ t) (tb : t < 2 ^ 264) (b1 : 1 ≤ b) (bb : b < 2 ^ 264) : ∀ x, x ∈ todo [(t, b, n)] → 1 ≤ x.1 ∧ x.1 < 2 ^ 264 := fun x hx => by
  rcases List.mem_cons.mp hx with w | w
  · rw [w]; exact ⟨t1, tb⟩
  · rw [List.mem_singleton.mp w]; exact ⟨b1, bb⟩
theorem ok_of {E : Nat} {L : List Itm} {h a o : Int} (E0 : 1 ≤ E) (E1 : E ≤ 5) (g : Gr L h a o) (hs : h + a ≤ 1000000000000000000) (hl : 3 * o + L.length ≤ 12000) (ps : ∀ x, x ∈ L → 1 ≤ x.1 ∧ x.1 < 2 ^ 264) : Ok E (2 ^ 264) L ∧ 3 * S om L + L.length ≤ 12000 := by
  have g1 := g.h
  have g2 := g.a
  have g3 := g.o
  exact ⟨⟨by omega, by omega, fun x hx => (ps x hx).1, fun x hx => (ps x hx).2, by omega, by omega⟩, by omega⟩
theorem worth1 (E t b : Nat) (n : Int) (N : Nat) : worth E [(t, b, n)] N = Rat.divInt n E * A t b N := by
  show Rat.divInt n E * A t b N + 0 = _
  grind
theorem worth_app (E : Nat) (R M : List Rx) (N : Nat) : worth E (R ++ M) N = worth E R N + worth E M N := by
  unfold worth
  rw [List.map_append, lsum_append]
/-- what the walk needs to know -/
structure Fa (b X t : Nat) (z : Int) (R1 R2 : List Rx) : Prop where
  X600 : X ≤ 2 ^ 600
  t580 : t ≤ 580
  ok1 : Ok b X (todo R1)
  len1 : 3 * S om (todo R1) + (todo R1).length ≤ 12000
  okm1 : Ok b X (todo (mulR (-1) R1))
  ok2 : Ok b X (todo R2)
  okm2 : Ok b X (todo (mulR (-1) R2))
  one6 : ∀ B, Fin X (todo R1) B → Ok b X (todo (asR B)) ∧ 3 * S om (todo (asR B)) + (todo (asR B)).length ≤ 12000
  one5 : ∀ B, Fin X (todo (mulR (-1) R1)) B → (Ok b X (todo (asR B)) ∧ 3 * S om (todo (asR B)) + (todo (asR B)).length ≤ 12000) ∧ Ok b X (todo (R1 ++ asR B)) ∧ ∀ B', Fin X (todo (R1 ++ asR B)) B' → Ok b X (todo (asR B')) ∧ 3 * S om (todo (asR B')) + (todo (asR B')).length ≤ 12000
  one8 : ∀ B, Fin X (todo (mulR (-1) R2)) B → Ok b X (todo (R1 ++ asR B)) ∧ ∀ B', Fin X (todo (R1 ++ asR B)) B' → Ok b X (todo (asR B')) ∧ 3 * S om (todo (asR B')) + (todo (asR B')).length ≤ 12000
  S1 : SgD t z (fun N => 0 + worth b R1 N)
  S2 : ∀ B, Fin X (todo R1) B → SgD t z (fun N => 0 + worth b (asR B) N)
  S3 : ∀ B, Fin X (todo (mulR (-1) R1)) B → SgD t (-z) (fun N => 0 + worth b (asR B) N)
  S4 : ∀ B B', Fin X (todo (mulR (-1) R2)) B → Fin X (todo (R1 ++ asR B)) B' → SgD t z (fun N => 0 + worth b (asR B') N)
  S5 : ∀ B B', Fin X (todo (mulR (-1) R1)) B → Fin X (todo (R1 ++ asR B)) B' → ∀ f, Ad f → Nr (ws f (todo (asR B'))) (fun _ => 0)
theorem signs_walk {b X t : Nat} {z : Int} {R1 R2 : List Rx} {r : VL.R → Option (List VL.D) → Prop} {v0 v1 : VL.D} (F : Fa b X t z R1 R2) (hr : r (.val (.bl true)) none) :
    wSs ga (dropS 3 b_law_signs) [.val v0, .val v1, .val (.tup [dR 0, .tup (R1.map (dW b))]), .val (.tup [dR 0, .tup (R2.map (dW b))]), .val (.int z), .un, .un, .un] { nx := fun _ => r (.val .non) none, rt := fun v _ => r v none } := by
  have r0 : RB' 600 (0 : Rat) := rb_zero 600 (by decide)
  have s0 : Sz (0 : Rat) := sz_rb r0 (by decide)
  have z0 : (0 : Rat) * ((-1 : Int) : Rat) = 0 := by decide +kernel
  have z1 : (0 : Rat) + 0 = 0 := by decide +kernel
  have ok1 := F.ok1
  have ok2 := F.ok2
  have okm1 := F.okm1
  have okm2 := F.okm2
  have len1 := F.len1
  have X600 := F.X600
  have t580 := F.t580
  refine ⟨rfl, rfl, b, X, -1, 0, R1, rfl, by decide, s0, ok1, okm1, fun B5 hB5 => ⟨.inl rfl, ?_⟩⟩
  rw [z0]
  obtain ⟨⟨ok5, len5⟩, okp5, fin5⟩ := F.one5 B5 hB5
  refine ⟨rfl, b, X, t, 0, R1, z, rfl, ok1, X600, r0, t580, len1, .inl (F.S1), .inl rfl, _, rfl, _, rfl, rfl, b, X, 0, R1, rfl, ok1, fun B6 hB6 => ?_⟩
  obtain ⟨ok6, len6⟩ := F.one6 B6 hB6
  refine ⟨.inl rfl, rfl, b, X, t, 0, asR B6, z, by rw [asR_d], ok6, X600, r0, t580, len6, .inl (F.S2 B6 hB6), .inl rfl, rfl, ?_⟩
  refine ⟨rfl, rfl, rfl, b, X, -1, 0, R2, rfl, by decide, s0, ok2, okm2, fun B8 hB8 => ⟨.inl rfl, ?_⟩⟩
  rw [z0]
  obtain ⟨okp8, fin8⟩ := F.one8 B8 hB8
  refine ⟨rfl, b, X, 0, 0, R1, asR B8, by rw [asR_d], s0, s0, okp8, fun B9 hB9 => ⟨.inl rfl, ?_⟩⟩
  rw [z1]
  obtain ⟨ok9, len9⟩ := fin8 B9 hB9
  refine ⟨rfl, b, X, t, 0, asR B9, z, by rw [asR_d], ok9, X600, r0, t580, len9, .inl (F.S4 B8 B9 hB8 hB9), .inl rfl, by show 2 < 16777216; decide, ?_⟩
  have ok3 : dsh (.lst [.int z, .int z, .int z]) = true := dsh_of (okD_lst (n := 0) fun d hd => by
    have : d = .int z := by
      rcases List.mem_cons.mp hd with w | w
      · exact w
      · rcases List.mem_cons.mp w with w | w
        · exact w
        · exact List.mem_singleton.mp w
    rw [this]; exact okD_int 0 z) (by decide)
  refine ⟨by show Sm 3; unfold Sm; decide, fun k acc ρ => acc = List.replicate k (.bl false) ∧ ρ = [  .val v0, .val v1, .val (.tup [dR 0, .tup (R1.map (dW b))]), .val (.tup [dR 0, .tup (R2.map (dW b))]), .val (.int z), .val (.tup [dR 0, .tup (B5.map (dN b))]), .val (.lst [.int z, .int z, .int z]), .un], ⟨rfl, rfl⟩, ?_, ?_⟩
  · rintro k d acc _ hd ⟨rfl, rfl⟩
    have ed : d = .int z := by
      match k, hd with
      | 0, hd => cases hd; rfl
      | 1, hd => cases hd; rfl
      | 2, hd => cases hd; rfl
      | k + 3, hd => cases hd
    subst ed
    exact ⟨fun _ => ⟨(List.replicate_succ' ..).symm, rfl⟩, fun h => (by cases h)⟩
  rintro acc _ ⟨rfl, rfl⟩
  refine ⟨List.replicate 3 false, rfl, fun h => (by cases h), fun _ => ⟨rfl, ok3, ok3, fun h => ?_, fun _ => ?_⟩⟩
  · have h : (!deq (.lst [.int z, .int z, .int z]) (.lst [.int z, .int z, .int z])) = true := h
    rw [deq_self] at h; cases h
  refine ⟨rfl, b, X, t, 0, asR B5, -z, by rw [asR_d], ok5, X600, r0, t580, len5, .inl (F.S3 B5 hB5), .inl rfl, fun _ => ⟨rfl, b, X, 0, 0, R1, asR B5, by rw [asR_d], s0, s0, okp5, fun B10 hB10 => ⟨.inl rfl, ?_⟩⟩, fun h => ?_⟩
  · rw [z1]
    obtain ⟨ok10, len10⟩ := fin5 B10 hB10
    exact ⟨rfl, b, X, t, 0, asR B10, 0, by rw [asR_d], ok10, X600, r0, t580, len10, .inr ⟨rfl, rfl, F.S5 B5 B10 hB5 hB10⟩, .inl rfl, hr⟩
  · have h : decide (-z = -z) = false := h
    rw [decide_eq_true rfl] at h; cases h
theorem w_sgn {Γ : Nat → VF} {c : Rat} {x1 x2 x3 x4 x5 x6 x7 : Sl} {rest : Ss} {Q : _} (h : wSs Γ rest [.val (dR c), x1, x2, x3, .val (.int (sgn c c)), x5, x6, x7] Q) : wSs Γ (.cons (.asg 4 (.bin .sub (.blt .int (.cons (.cmp .gt (.ix (.var 0) (.int 0)) (.int 0)) .nil)) (.blt .int (.cons (.cmp .lt (.ix (.var 0) (.int 0)) (.int 0)) .nil)))) rest) [.val (dR c), x1, x2, x3, x4, x5, x6, x7] Q := ⟨_, rfl, _, rfl, h⟩
theorem good_law_signs : Good ga b_law_signs 2 6 v_law_signs := by
  rintro ds r ⟨n, b, m, rfl, hc, m2, mb, hr⟩ -
  have up : (2 : Nat) ^ 262 * 4 ≤ 2 ^ 264 := by decide
  have X600 : (2 : Nat) ^ 264 ≤ 2 ^ 600 := Nat.pow_le_pow_right (by decide) (by decide)
  have b0 := hc.b0
  have b5 := hc.b1
  have hn := hc.n1
  have r0 : RB' 600 (0 : Rat) := rb_zero 600 (by decide)
  have s0 : Sz (0 : Rat) := sz_rb r0 (by decide)
  have z0 : (0 : Rat) * ((-1 : Int) : Rat) = 0 := by decide +kernel
  have z1 : (0 : Rat) + 0 = 0 := by decide +kernel
  obtain ⟨y, ey⟩ : ∃ y, y = Rat.divInt ((m : Int) + 2) ((m : Int) + 1) := ⟨_, rfl⟩
  have yR : RB' 264 y := by rw [ey]; exact rb_div (by omega) (by omega) (by omega)
  have yp : 0 < y.num := by
    rw [num_pos, ey, Rat.divInt_eq_div, Rat.div_def]
    refine Rat.mul_pos ?_ (Rat.inv_pos.mpr ?_)
    · exact_mod_cast (show (0 : Int) < (m : Int) + 2 by omega)
    · exact_mod_cast (show (0 : Int) < (m : Int) + 1 by omega)
  obtain ⟨t2, et2⟩ : ∃ t2 : Nat, y.num = t2 := ⟨y.num.toNat, by omega⟩
  obtain ⟨b2, eb2⟩ : ∃ b2 : Nat, b2 = y.den := ⟨_, rfl⟩
  have t2p : 1 ≤ t2 := by omega
  have b2p : 1 ≤ b2 := by rw [eb2]; exact y.den_pos
  have t2b : t2 < 2 ^ 264 := by have := yR.1; rw [et2, Int.natAbs_natCast] at this; exact this
  have b2b : b2 < 2 ^ 264 := by rw [eb2]; exact yR.2
  have cross : t2 * (m + 1) = (m + 2) * b2 := by
    have h1 := den_mul y
    rw [et2, ← eb2, Rat.intCast_natCast] at h1
    have m0 := ge1 (show 1 ≤ m + 1 by omega)
    have m9 : ((m + 1 : Nat) : Rat) ≠ 0 := by grind
    have h2 : y = ((m + 2 : Nat) : Rat) / ((m + 1 : Nat) : Rat) := by
      rw [ey, show (m : Int) + 2 = ((m + 2 : Nat) : Int) by omega, show (m : Int) + 1 = ((m + 1 : Nat) : Int) by omega, dv]
    have h3 : (t2 : Rat) * ((m + 1 : Nat) : Rat) = ((m + 2 : Nat) : Rat) * (b2 : Rat) := by
      rw [← h1, h2]; grind
    rw [← Rat.natCast_mul, ← Rat.natCast_mul] at h3
    exact_mod_cast h3
  have yd : dR y = .tup [.int (t2 : Nat), .int (b2 : Nat)] := by
    show VL.D.tup [.int y.num, .int (y.den : Nat)] = _
    rw [et2, ← eb2]
  obtain ⟨c, ec⟩ : ∃ c, c = Rat.divInt n b := ⟨_, rfl⟩
  obtain ⟨z, ez⟩ : ∃ z, z = sgn c c := ⟨_, rfl⟩
  obtain ⟨R1, e1⟩ : ∃ R1 : List Rx, R1 = [(m + 1, m, n)] := ⟨_, rfl⟩
  obtain ⟨R2, e2⟩ : ∃ R2 : List Rx, R2 = [(t2, b2, n)] := ⟨_, rfl⟩
  have d1 : VL.D.tup [.tup [.int 0, .int 1], .tup [.tup [dR c, .tup [.int ((m : Int) + 1), .int (m : Nat)]]]] = .tup [dR 0, .tup (R1.map (dW b))] := by rw [e1, ec]; rfl
  have d2 : VL.D.tup [.tup [.int 0, .int 1], .tup [.tup [dR c, dR y]]] = .tup [dR 0, .tup (R2.map (dW b))] := by rw [e2, yd, ec]; rfl
  have ln1 : (todo R1).length = 2 := by rw [e1]; rfl
  have mul1 : mulR (-1) R1 = [(m + 1, m, n * -1)] := by rw [e1]; rfl
  have mul2 : mulR (-1) R2 = [(t2, b2, n * -1)] := by rw [e2]; rfl
  have g1 : Gr (todo R1) 526000000000000 2000000000000 526 := by rw [e1]; exact gr_row (by omega) (by omega) (by omega) (by omega) hn
  have p1 : ∀ x, x ∈ todo R1 → 1 ≤ x.1 ∧ x.1 < 2 ^ 264 := by rw [e1]; exact ps_row (by omega) (by omega) (by omega) (by omega)
  obtain ⟨ok1, len1⟩ := ok_of b0 b5 g1 (by decide) (by rw [ln1]; decide) p1
  obtain ⟨okm1, _⟩ := ok_of (L := todo (mulR (-1) R1)) b0 b5 (by rw [mul1]; exact gr_row (by omega) (by omega) (by omega) (by omega) (by omega)) (by decide) (by rw [mul1]; show (3 : Int) * 526 + 2 ≤ 12000; decide) (by rw [mul1]; exact ps_row (by omega) (by omega) (by omega) (by omega))
  obtain ⟨ok2, _⟩ := ok_of (L := todo R2) b0 b5 (by rw [e2]; exact gr_row t2p t2b b2p b2b hn) (by decide) (by rw [e2]; show (3 : Int) * 526 + 2 ≤ 12000; decide) (by rw [e2]; exact ps_row t2p t2b b2p b2b)
  obtain ⟨okm2, _⟩ := ok_of (L := todo (mulR (-1) R2)) b0 b5 (by rw [mul2]; exact gr_row t2p t2b b2p b2b (by omega)) (by decide) (by rw [mul2]; show (3 : Int) * 526 + 2 ≤ 12000; decide) (by rw [mul2]; exact ps_row t2p t2b b2p b2b)
  -- what is settled of one row, as rows again; and with R1 ahead
  have one : ∀ (L B : List Itm), Gr L 526000000000000 2000000000000 526 → L.length = 2 → Fin (2 ^ 264) L B → (Ok b (2 ^ 264) (todo (asR B)) ∧ 3 * S om (todo (asR B)) + (todo (asR B)).length ≤ 12000) ∧ (Ok b (2 ^ 264) (todo (R1 ++ asR B))) ∧ ∀ B' : List Itm, Fin (2 ^ 264) (todo (R1 ++ asR B)) B' → Ok b (2 ^ 264) (todo (asR B')) ∧ 3 * S om (todo (asR B')) + (todo (asR B')).length ≤ 12000 := fun L B g l hB => by
    obtain ⟨g2, lB⟩ := g.fin hB (l := 1) (by rw [l]; decide)
    have lR : (todo (asR B)).length = 2 * B.length := by rw [todo_len]; unfold asR; rw [List.length_map]
    have ps := asR_ps hB (by decide)
    refine ⟨ok_of b0 b5 g2.asR (by decide) (by rw [lR]; omega) ps, ?_⟩
    have g3 := g1.app g2.asR
    rw [← todo_app] at g3
    have l3 : (todo (R1 ++ asR B)).length = 2 + 2 * B.length := by rw [todo_app, List.length_append, ln1, lR]
    have ps3 : ∀ x, x ∈ todo (R1 ++ asR B) → 1 ≤ x.1 ∧ x.1 < 2 ^ 264 := fun x hx => by
      rw [todo_app] at hx
      rcases List.mem_append.mp hx with w | w
      · exact p1 x w
      · exact ps x w
    refine ⟨(ok_of b0 b5 g3 (by decide) (by rw [l3]; omega) ps3).1, fun B' hB' => ?_⟩
    obtain ⟨g4, lB4⟩ := g3.fin hB' (l := 352) (by rw [l3]; omega)
    have l4 : (todo (asR B')).length = 2 * B'.length := by rw [todo_len]; unfold asR; rw [List.length_map]
    exact ok_of b0 b5 g4.asR (by decide) (by rw [l4]; omega) (asR_ps hB' (by decide))
  have e263 : (2 : Nat) ^ 263 = 2 ^ 262 * 2 := by decide
  obtain ⟨sh1, sh2⟩ := share (show 1 ≤ m by omega) (show m + 2 < 2 ^ 263 by omega)
  have S1 : SgD 530 z (worth b R1) := by
    rw [ez, ec]
    refine (sg_of hc sh1 (f := A (m + 1) m) fun N hN => Rat.le_trans sh2 (A_dn (by omega) hN)).near (Nr.of_eq fun N => ?_)
    rw [e1, worth1]
  have S0 : ∀ g : Nat → Rat, SgD 530 z g → SgD 530 z (fun N => 0 + g N) := fun g h => h.near (Nr.of_eq fun N => by show g N = 0 + g N; grind)
  have S2 : ∀ B, Fin (2 ^ 264) (todo R1) B → SgD 530 z (worth b (asR B)) := fun B hB => S1.near (asR_worth hB).symm
  have S3 : ∀ B, Fin (2 ^ 264) (todo (mulR (-1) R1)) B → SgD 530 (-z) (fun N => 0 + worth b (asR B) N) := fun B hB => by
    refine S1.neg.near ((Nr.of_eq fun N => ?_).trans (((Nr.refl fun _ => (0 : Rat)).add (asR_worth hB).symm)))
    show -worth b R1 N = 0 + worth b (mulR (-1) R1) N
    rw [mul1, e1, worth1, worth1, ← scale1]
    show _ = 0 + Rat.divInt n b * ((-1 : Int) : Rat) * _
    rw [show ((-1 : Int) : Rat) = -1 from rfl]; grind
  have S4 : ∀ B B', Fin (2 ^ 264) (todo (mulR (-1) R2)) B → Fin (2 ^ 264) (todo (R1 ++ asR B)) B' → SgD 530 z (worth b (asR B')) := fun B B' hB hB' => by
    have n1 : Nr (worth b (asR B')) (fun N => worth b R1 N + worth b (mulR (-1) R2) N) := (asR_worth hB').trans ((Nr.of_eq fun N => worth_app b R1 (asR B) N).trans ((Nr.refl _).add (asR_worth hB)))
    have n2 : Nr (fun N => worth b R1 N + worth b (mulR (-1) R2) N) (fun N => Rat.divInt n b * (A (m + 1) m N - A (m + 2) (m + 1) N)) := by
      have nc := ((nr_cross t2p b2p (show 1 ≤ m + 2 by omega) (show 1 ≤ m + 1 by omega) cross).smul (-(Rat.divInt n b)))
      refine (Nr.of_eq fun N => ?_).trans (((Nr.refl (worth b R1)).add nc).trans (Nr.of_eq fun N => ?_))
      · show worth b R1 N + worth b (mulR (-1) R2) N = worth b R1 N + -(Rat.divInt n b) * A t2 b2 N
        rw [mul2, worth1, ← scale1, show ((-1 : Int) : Rat) = -1 from rfl]; grind
      · show worth b R1 N + -(Rat.divInt n b) * A (m + 2) (m + 1) N = _
        rw [e1, worth1]; grind
    rw [ez, ec]
    exact (sg_of hc sh1 (f := fun N => A (m + 1) m N - A (m + 2) (m + 1) N) fun N hN => A_gap (by omega) hN).near (n1.trans n2).symm
  have S5 : ∀ B B', Fin (2 ^ 264) (todo (mulR (-1) R1)) B → Fin (2 ^ 264) (todo (R1 ++ asR B)) B' → ∀ f, Ad f → Nr (ws f (todo (asR B'))) (fun _ => 0) := fun B B' hB hB' f hf => by
    refine (asR_ws hf B').trans ((hB'.wt f hf).trans ?_)
    rw [todo_app]
    have n1 := (asR_ws hf B).trans (hB.wt f hf)
    refine (Nr.of_eq fun N => ws_app f (todo (asR B)) N (todo R1)).trans (((Nr.refl _).add n1).trans (Nr.of_eq fun N => ?_))
    show ws f (todo R1) N + ws f (todo (mulR (-1) R1)) N = 0
    rw [mulR_ws, show ((-1 : Int) : Rat) = -1 from rfl]; grind
  rw [← ec]
  refine ⟨rfl, rfl, rfl, rfl, rfl, ?_⟩
  show wSs ga (dropS 1 b_law_signs) [.val (dR c), .val (.int (m : Nat)), .val (.tup [.tup [.int 0, .int 1], .tup [.tup [dR c, .tup [.int ((m : Int) + 1), .int (m : Nat)]]]]), .un, .un, .un, .un, .un] _
  rw [d1]
  refine ⟨rfl, rfl, (m : Int) + 2, (m : Int) + 1, rfl, by omega, .inl rfl, rfl, rfl, rfl, ?_⟩
  show wSs ga (dropS 2 b_law_signs) [.val (dR c), .val (.int (m : Nat)), .val (.tup [dR 0, .tup (R1.map (dW b))]), .val (.tup [.tup [.int 0, .int 1], .tup [.tup [dR c, dR (Rat.divInt ((m : Int) + 2) ((m : Int) + 1))]]]), .un, .un, .un, .un] _
  rw [← ey, d2]
  have fin := signs_walk (v0 := dR c) (v1 := .int (m : Nat)) (X := 2 ^ 264) (t := 530) ⟨X600, by decide, ok1, len1, okm1, ok2, okm2, fun B hB => (one _ B g1 ln1 hB).1, fun B hB => one _ B (by rw [mul1]; exact gr_row (by omega) (by omega) (by omega) (by omega) (by omega)) (by rw [mul1]; rfl) hB, fun B hB => (one _ B (by rw [mul2]; exact gr_row t2p t2b b2p b2b (by omega)) (by rw [mul2]; rfl) hB).2, S0 _ S1, fun B hB => S0 _ (S2 B hB), S3, fun B B' h1 h2 => S0 _ (S4 B B' h1 h2), S5⟩ hr
  rw [ez] at fin
  exact w_sgn fin
theorem good_law : Good ga b_law 1 4 v_law := by
  rintro ds q ⟨ns, rfl, hl, -, hq⟩ -
  obtain ⟨ms, ec, lm⟩ := M14.cut_map ns none (some 1)
  have e4 : cutD (ns.map VL.D.int) none (some 1) ++ [VL.D.int 4] = (ms ++ [4]).map VL.D.int := by rw [ec, List.map_append]; rfl
  have places : ∀ u : Int, 0 ≤ u → u < 6 → ∃ p : Nat, p ≤ 40 ∧ atI [VL.D.int 0, .int 3, .int 12, .int 25, .int 39, .int 40] u = some (.int (p : Nat)) := fun u u0 u1 => by
    obtain ⟨i, rfl⟩ : ∃ i : Nat, u = i := ⟨u.toNat, by omega⟩
    have : i < 6 := by omega
    match i, this with
    | 0, _ => exact ⟨0, by decide, rfl⟩
    | 1, _ => exact ⟨3, by decide, rfl⟩
    | 2, _ => exact ⟨12, by decide, rfl⟩
    | 3, _ => exact ⟨25, by decide, rfl⟩
    | 4, _ => exact ⟨39, by decide, rfl⟩
    | 5, _ => exact ⟨40, by decide, rfl⟩
  refine ⟨rfl, ?_, fun k ρ => ∃ s1 s2 s3 s4 : Sl, ρ = [.val (.fix (ns.map D.int)), s1, s2, s3, s4], ⟨_, _, _, _, rfl⟩, ?_, ?_⟩
  · rw [ec, List.length_map]; show Sm (ms.length + 1); unfold Sm; omega
  · rintro k d _ hd ⟨s1, s2, s3, s4, rfl⟩
    rw [e4] at hd
    obtain ⟨e, he, rfl⟩ := M14.enum_any hd
    rw [List.getElem?_map] at he
    obtain ⟨c, hc, rfl⟩ := Option.map_eq_some_iff.mp he
    refine ⟨rfl, rfl, ns, _, rfl, fun c1 => ⟨.inl rfl, mul_l (by decide), rfl, _, rfl, fun n b hcd => ⟨.inl rfl, ?_⟩⟩⟩
    refine ⟨rfl, ns, _, rfl, fun c2 => ⟨.inl rfl, mul_l (by decide), rfl, _, 2, 6, rfl, by decide, by decide, fun t t0 t1 => ⟨.inl rfl, rfl, c, t, rfl, t0, t1, fun m m2 mb => ⟨.inl rfl, ?_⟩⟩⟩⟩
    refine ⟨rfl, n, b, m, rfl, hcd, m2, mb, .inl rfl, fun h => (by cases h), fun _ => ⟨rfl, rfl, c, 3, 6, rfl, by decide, by decide, fun u u0 u1 => ⟨.inl rfl, ?_⟩⟩⟩
    obtain ⟨p, p40, hp⟩ := places u u0 u1
    exact ⟨_, hp, rfl, n, b, m, p, rfl, hcd, m2, mb, p40, .inl rfl, fun h => (by cases h), fun _ => ⟨_, _, _, _, rfl⟩⟩
  · rintro _ ⟨s1, s2, s3, s4, rfl⟩
    exact hq
end K97

/-! K97: the head, the end. -/
namespace K97
open PySem PySem.Spec L2 VL M1 M2 M3 M14 M17 M18
theorem good_along : Along (fun _ e => GoodE ga e) 0 tab := ⟨good_shared, good_ratio, good_plus, good_minus, good_times, good_over, good_before, good_divisor_of, good_meeting18, good_refined18, good_settled18, good_n_plus18, good_n_scaled18, good_scale_for, good_row_held, good_doubled, good_halved, good_stretched, good_log_held, good_held, good_sign_of18, good_law_at14, good_law_draw14, good_law_number14, good_law_plus14, good_law_times14, good_law_not_above14, good_law_is_number14, good_law_c, good_law_whole, good_law_signs, good_law_held, good_law, trivial⟩
theorem plain_all : PlainE tab := by
  intro e h
  simp only [tab, List.mem_cons, List.not_mem_nil, or_false] at h
  rcases h with rfl | rfl | rfl | rfl | rfl | rfl | rfl | rfl | rfl | rfl | rfl | rfl | rfl | rfl | rfl | rfl | rfl | rfl | rfl | rfl | rfl | rfl | rfl | rfl | rfl | rfl | rfl | rfl | rfl | rfl | rfl | rfl | rfl <;> exact ⟨rfl, rfl, rfl⟩
abbrev Rw : PySem.W.OpenRow := PySem.W.OpenLaw.row PySem.Challenge.rw_backslope_k97_logarithms_near_nought
abbrev hk : PySem.W.Hook := hookV 4 tab blts cons
def ob (s : PySem.W.SharedT) : AlV := obsV 4 tab blts cons (HandSHeadRun.getT s)
theorem ob_eq (s : PySem.W.SharedT) : ob s = hk.obs s.abs := obsV_eq (HandSHeadRun.getT_eq s)
def others : List PySem.Str := (["shared", "ratio", "plus", "minus", "times", "over", "before", "divisor_of", "meeting_place", "refined", "settled_number", "n_plus", "n_scaled", "scale_for", "row_held", "doubled", "halved", "stretched", "log_held", "held", "sign_of", "_law_at", "_law_draw", "_law_number", "_law_plus", "_law_times", "_law_not_above", "_law_is_number", "_law_c", "_law_whole"] : List PySem.Str) ++ (["_law_signs", "_law_held", "NOUGHT"] : List PySem.Str)
set_option maxHeartbeats 0 in
theorem run (w : World) : HandSHeadRun.RunEq Rw (PySem.W.view Rw.prog [36]) hk ob 3000 others w := by
  intro os
  kernel_rfl
end K97
open PySem PySem.W PySem.Calls PyProof.Rows
set_option maxHeartbeats 0 in
theorem PySem.Challenge.cw_backslope_k97_logarithms_near_nought_holds : PySem.Challenge.rw_backslope_k97_logarithms_near_nought.Holds := by
  w_on; o_law
  refine HandSHeadRun.head_any (r := K97.Rw) (q := view K97.Rw.prog [36]) (H := K97.hk) (ob := K97.ob) (M := 3000) (loose := K97.others) (d := HandSHeadRun.topDef K97.Rw.prog 36) (kwd := []) K97.ob_eq
    (by kernel_rfl) (fun s => by kernel_rfl) K97.run (by kernel_rfl) (by kernel_rfl) (by kernel_rfl) (by rfl) (by first | assumption | decide +kernel) (by decide +kernel) ⟨rfl, rfl, rfl, rfl, rfl, by decide +kernel⟩ ?hw ?hc
  case hw => w_witness2
  case hc =>
    exact VL.law_end (l := PySem.Challenge.rw_backslope_k97_logarithms_near_nought) (n := 63) (L := 32) (x := "_law_script") (e := K97.e_law) (Γ := K97.ga) rfl (by decide) (by kernel_rfl) ⟨rfl, by decide, by decide⟩ (by kernel_rfl) (by kernel_rfl) K97.plain_all (VL.entB_ok K97.chk_all K97.bnd_all) (fun j e h => K97.good_along.at j e h) rfl (by kernel_rfl) rfl rfl

