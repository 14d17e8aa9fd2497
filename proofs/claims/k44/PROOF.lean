import PyProof.Rows.All
import Wide.All
import OpenK.AllK
import Wide.FinOn
import HandS.NoneIn
import HandS.ForMost
import HandS.Wide
import HandS.SortInts
import HandS.WideBits
import HandS.IsInst
import HandS.Text
import HandS.TupAny
import HandS.Deep
import HandS.TupMul
import HandS.SortRule
import HandS.More
import HandS.Walk
import HandS.Rev
import HandS.Zip
import KE.GoesMore
import KE.GoesEnum
import PyProof.LongRange
import HandS.Style
import HandS.Defaults
import HandS.HeadHook2
import HandS.HeadEnd
import HandS.EndBits
import HandS.Head0
import HandS.Head1
import HandS.Head2
import HandS.HeadHook1
import PySem.Challenge.RW_backslope_k44_joined_then_parted
set_option Elab.async false
set_option linter.all false
set_option maxRecDepth 100000
/-! VL1: values as data, how they lie in the abstract heap. -/
namespace VL
open PySem PySem.Spec PyProof.Rows L2

/-- data: what a value is worth -/
inductive D where
  | non | bl (b : Bool) | int (i : Int) | str (s : Str) | tup (ds : List D) | lst (ds : List D) | fix (ds : List D)

/-- a list that may be read only -/
def FixAt (K : PySem.W.Frag) (H : Hp) (a : Addr) (xs : List V) : Prop :=
  (∃ o, H a = some (.frz o (.lst xs))) ∨
    ∃ (o : Obj) (its : Array Value) (n : Nat), K.lookup a = some o ∧ o.cls = .type "list" ∧ o.dict = none ∧ o.data = .seq its n ∧ its.size ≤ sizeLine ∧ Vals xs its.toList

mutual
def Rep (K : PySem.W.Frag) (H : Hp) (av : Addr → Prop) : D → V → Prop
  | .non, v => v = .non
  | .bl b, v => v = .bl b
  | .int i, v => v = .int i
  | .str s, v => v = .str s
  | .tup ds, v => ∃ a xs, v = .ref a ∧ SqT K H a xs ∧ Reps K H av ds xs
  | .lst ds, v => ∃ a xs, v = .ref a ∧ H a = some (.lst xs) ∧ ¬ av a ∧ Reps K H av ds xs
  | .fix ds, v => ∃ a xs, v = .ref a ∧ FixAt K H a xs ∧ Reps K H av ds xs
def Reps (K : PySem.W.Frag) (H : Hp) (av : Addr → Prop) : List D → List V → Prop
  | [], vs => vs = []
  | d :: ds, vs => ∃ v r, vs = v :: r ∧ Rep K H av d v ∧ Reps K H av ds r
end

/-- what may change: the lists at av -/
structure Ext (av : Addr → Prop) (H H' : Hp) : Prop where
  keep : ∀ a o, H a = some o → ¬ av a → H' a = some o
  other : ∀ a o, H a = some o → (∀ xs, o ≠ .lst xs) → H' a = some o
  there : ∀ a o, H a = some o → ∃ o', H' a = some o'

theorem Ext.refl (av : Addr → Prop) (H : Hp) : Ext av H H := ⟨fun _ _ h _ => h, fun _ _ h _ => h, fun _ o h => ⟨o, h⟩⟩
theorem Ext.trans {av : Addr → Prop} {H H1 H2 : Hp} (a : Ext av H H1) (b : Ext av H1 H2) : Ext av H H2 :=
  ⟨fun c o h n => b.keep c o (a.keep c o h n) n, fun c o h n => b.other c o (a.other c o h n) n, fun c o h => let ⟨o', h'⟩ := a.there c o h; b.there c o' h'⟩
theorem Ext.mono {av av' : Addr → Prop} {H H' : Hp} (a : Ext av H H') (h : ∀ b, av b → av' b) : Ext av' H H' :=
  ⟨fun c o e n => a.keep c o e fun z => n (h c z), a.other, a.there⟩
theorem Ext.new {av : Addr → Prop} {H : Hp} {p : Addr} {o : HO} (h : H p = none) : Ext av H (upd H p o) := by
  have k : ∀ a u, H a = some u → upd H p o a = some u := fun a u e => by rw [upd_ne (ne_of_none e h)]; exact e
  exact ⟨fun a u e _ => k a u e, fun a u e _ => k a u e, fun a u e => ⟨u, k a u e⟩⟩
theorem Ext.free {av : Addr → Prop} {H H' : Hp} (e : Ext av H H') {a : Addr} (h : H' a = none) : H a = none := by
  cases q : H a with
  | none => rfl
  | some o =>
    obtain ⟨o', h'⟩ := e.there a o q
    rw [h] at h'; cases h'
theorem Ext.same {H H' : Hp} (e : Ext (fun _ => False) H H') : Same H H' := fun a o h => e.keep a o h fun z => z
theorem Ext.of_same {av : Addr → Prop} {H H' : Hp} (e : Same H H') : Ext av H H' := ⟨fun a o h _ => e a o h, fun a o h _ => e a o h, fun a o h => ⟨o, e a o h⟩⟩

section
variable {K : PySem.W.Frag} {H H' : Hp} {av av' : Addr → Prop}
theorem Ext.tup (e : Ext av H H') {a : Addr} {xs : List V} (h : SqT K H a xs) : SqT K H' a xs := by
  rcases h with (h | ⟨o, h⟩) | h
  · exact .inl (.inl (e.other _ _ h fun _ z => nomatch z))
  · exact .inl (.inr ⟨o, e.other _ _ h fun _ z => nomatch z⟩)
  · exact .inr h
theorem FixAt.ext {a : Addr} {xs : List V} (h : FixAt K H a xs) (e : Ext av H H') : FixAt K H' a xs := by
  rcases h with ⟨o, h⟩ | h
  · exact .inl ⟨o, e.other _ _ h fun _ z => nomatch z⟩
  · exact .inr h
theorem FixAt.seq {a : Addr} {xs : List V} (h : FixAt K H a xs) : SqL K H a xs := by
  rcases h with ⟨o, h⟩ | h
  · exact .inl (.inr ⟨o, h⟩)
  · exact .inr h
mutual
theorem Rep.ext (e : Ext av H H') : ∀ {d : D} {v : V}, Rep K H av d v → Rep K H' av d v
  | .non, _, h => h
  | .bl _, _, h => h
  | .int _, _, h => h
  | .str _, _, h => h
  | .tup ds, v, h => by
    unfold Rep at h ⊢
    obtain ⟨a, xs, rfl, h1, h2⟩ := h
    exact ⟨a, xs, rfl, e.tup h1, Reps.ext e h2⟩
  | .lst ds, v, h => by
    unfold Rep at h ⊢
    obtain ⟨a, xs, rfl, h1, hn, h2⟩ := h
    exact ⟨a, xs, rfl, e.keep _ _ h1 hn, hn, Reps.ext e h2⟩
  | .fix ds, v, h => by
    unfold Rep at h ⊢
    obtain ⟨a, xs, rfl, h1, h2⟩ := h
    exact ⟨a, xs, rfl, h1.ext e, Reps.ext e h2⟩
theorem Reps.ext (e : Ext av H H') : ∀ {ds : List D} {vs : List V}, Reps K H av ds vs → Reps K H' av ds vs
  | [], _, h => h
  | d :: ds, vs, h => by
    unfold Reps at h ⊢
    obtain ⟨v, r, rfl, h1, h2⟩ := h
    exact ⟨v, r, rfl, Rep.ext e h1, Reps.ext e h2⟩
end
mutual
/-- other addresses avoided -/
theorem Rep.wk (f : ∀ b, H b ≠ none → av' b → av b) : ∀ {d : D} {v : V}, Rep K H av d v → Rep K H av' d v
  | .non, _, h => h
  | .bl _, _, h => h
  | .int _, _, h => h
  | .str _, _, h => h
  | .tup ds, v, h => by
    unfold Rep at h ⊢
    obtain ⟨a, xs, rfl, h1, h2⟩ := h
    exact ⟨a, xs, rfl, h1, Reps.wk f h2⟩
  | .lst ds, v, h => by
    unfold Rep at h ⊢
    obtain ⟨a, xs, rfl, h1, hn, h2⟩ := h
    exact ⟨a, xs, rfl, h1, fun z => hn (f a (by rw [h1]; exact fun z => nomatch z) z), Reps.wk f h2⟩
  | .fix ds, v, h => by
    unfold Rep at h ⊢
    obtain ⟨a, xs, rfl, h1, h2⟩ := h
    exact ⟨a, xs, rfl, h1, Reps.wk f h2⟩
theorem Reps.wk (f : ∀ b, H b ≠ none → av' b → av b) : ∀ {ds : List D} {vs : List V}, Reps K H av ds vs → Reps K H av' ds vs
  | [], _, h => h
  | d :: ds, vs, h => by
    unfold Reps at h ⊢
    obtain ⟨v, r, rfl, h1, h2⟩ := h
    exact ⟨v, r, rfl, Rep.wk f h1, Reps.wk f h2⟩
end
theorem Reps.length : ∀ {ds : List D} {vs : List V}, Reps K H av ds vs → vs.length = ds.length
  | [], _, h => by unfold Reps at h; rw [h]; rfl
  | d :: ds, vs, h => by
    unfold Reps at h
    obtain ⟨v, r, rfl, _, h2⟩ := h
    rw [List.length_cons, List.length_cons, Reps.length h2]
theorem Reps.nil : Reps K H av [] [] := rfl
theorem Reps.cons {d : D} {v : V} {ds : List D} {vs : List V} (h : Rep K H av d v) (r : Reps K H av ds vs) : Reps K H av (d :: ds) (v :: vs) := by
  unfold Reps; exact ⟨v, vs, rfl, h, r⟩
theorem Reps.append : ∀ {ds es : List D} {vs ws : List V}, Reps K H av ds vs → Reps K H av es ws → Reps K H av (ds ++ es) (vs ++ ws)
  | [], _, _, _, h, r => by unfold Reps at h; subst h; exact r
  | d :: ds, es, vs, ws, h, r => by
    unfold Reps at h
    obtain ⟨v, r', rfl, h1, h2⟩ := h
    exact Reps.cons h1 (Reps.append h2 r)
theorem Reps.get : ∀ {ds : List D} {vs : List V} {i : Nat} {d : D}, Reps K H av ds vs → ds[i]? = some d → ∃ v, vs[i]? = some v ∧ Rep K H av d v
  | [], _, _, _, _, e => by simp at e
  | d :: ds, vs, i, d', h, e => by
    unfold Reps at h
    obtain ⟨v, r, rfl, h1, h2⟩ := h
    cases i with
    | zero => simp at e; subst e; exact ⟨v, rfl, h1⟩
    | succ i => exact Reps.get (i := i) h2 (by simpa using e)
theorem Reps.get' : ∀ {ds : List D} {vs : List V} {i : Nat} {v : V}, Reps K H av ds vs → vs[i]? = some v → ∃ d, ds[i]? = some d ∧ Rep K H av d v
  | [], vs, _, _, h, e => by unfold Reps at h; subst h; simp at e
  | d :: ds, vs, i, v', h, e => by
    unfold Reps at h
    obtain ⟨v, r, rfl, h1, h2⟩ := h
    cases i with
    | zero => simp at e; subst e; exact ⟨d, rfl, h1⟩
    | succ i => exact Reps.get' (i := i) h2 (by simpa using e)
theorem Reps.set {d : D} {v : V} (r : Rep K H av d v) : ∀ {ds : List D} {vs : List V} (i : Nat), Reps K H av ds vs → Reps K H av (ds.set i d) (vs.set i v)
  | [], vs, _, h => by unfold Reps at h; subst h; exact Reps.nil
  | d' :: ds, vs, i, h => by
    unfold Reps at h
    obtain ⟨v', r', rfl, h1, h2⟩ := h
    cases i with
    | zero => exact Reps.cons r h2
    | succ i => exact Reps.cons h1 (Reps.set r i h2)
theorem Reps.take : ∀ {ds : List D} {vs : List V} (n : Nat), Reps K H av ds vs → Reps K H av (ds.take n) (vs.take n)
  | [], vs, n, h => by unfold Reps at h; subst h; simp; exact Reps.nil
  | d :: ds, vs, n, h => by
    unfold Reps at h
    obtain ⟨v, r, rfl, h1, h2⟩ := h
    cases n with
    | zero => exact Reps.nil
    | succ n => exact Reps.cons h1 (Reps.take n h2)
theorem Reps.drop : ∀ {ds : List D} {vs : List V} (n : Nat), Reps K H av ds vs → Reps K H av (ds.drop n) (vs.drop n)
  | [], vs, n, h => by unfold Reps at h; subst h; simp; exact Reps.nil
  | d :: ds, vs, n, h => by
    cases n with
    | zero => exact h
    | succ n =>
      unfold Reps at h
      obtain ⟨v, r, rfl, h1, h2⟩ := h
      exact Reps.drop n h2
theorem Reps.reverse : ∀ {ds : List D} {vs : List V}, Reps K H av ds vs → Reps K H av ds.reverse vs.reverse
  | [], vs, h => by unfold Reps at h; subst h; exact Reps.nil
  | d :: ds, vs, h => by
    unfold Reps at h
    obtain ⟨v, r, rfl, h1, h2⟩ := h
    rw [List.reverse_cons, List.reverse_cons]
    exact Reps.append (Reps.reverse h2) (Reps.cons h1 Reps.nil)
theorem Reps.rep {ds : List D} {vs : List V} (h : Reps K H av ds vs) : ∀ k : Nat, Reps K H av (List.replicate k ds).flatten (List.replicate k vs).flatten
  | 0 => Reps.nil
  | k + 1 => by
    rw [List.replicate_succ, List.replicate_succ, List.flatten_cons, List.flatten_cons]
    exact Reps.append h (Reps.rep h k)
theorem Reps.ints {ns : List Int} : Reps K H av (ns.map D.int) (ns.map V.int) := by
  induction ns with
  | nil => exact Reps.nil
  | cons n ns ih => exact Reps.cons (by unfold Rep; rfl) ih
theorem Reps.of_ints : ∀ {ns : List Int} {vs : List V}, Reps K H av (ns.map D.int) vs → vs = ns.map V.int
  | [], vs, h => h
  | n :: ns, vs, h => by
    rw [List.map_cons] at h
    unfold Reps at h
    obtain ⟨v, r, rfl, h1, h2⟩ := h
    unfold Rep at h1
    rw [h1, Reps.of_ints h2]; rfl
end

mutual
/-- no list within: stable whatever is written -/
def lf : D → Bool
  | .lst _ => false
  | .tup ds => lfs ds
  | .fix ds => lfs ds
  | _ => true
def lfs : List D → Bool
  | [] => true
  | d :: ds => lf d && lfs ds
end
mutual
theorem Rep.lf_av {K : PySem.W.Frag} {H : Hp} {av av' : Addr → Prop} : ∀ {d : D} {v : V}, lf d = true → Rep K H av d v → Rep K H av' d v
  | .non, _, _, h => h
  | .bl _, _, _, h => h
  | .int _, _, _, h => h
  | .str _, _, _, h => h
  | .tup ds, v, l, h => by
    unfold Rep at h ⊢
    obtain ⟨a, xs, rfl, h1, h2⟩ := h
    unfold lf at l
    exact ⟨a, xs, rfl, h1, Reps.lf_av l h2⟩
  | .lst ds, v, l, h => by unfold lf at l; cases l
  | .fix ds, v, l, h => by
    unfold Rep at h ⊢
    obtain ⟨a, xs, rfl, h1, h2⟩ := h
    unfold lf at l
    exact ⟨a, xs, rfl, h1, Reps.lf_av l h2⟩
theorem Reps.lf_av {K : PySem.W.Frag} {H : Hp} {av av' : Addr → Prop} : ∀ {ds : List D} {vs : List V}, lfs ds = true → Reps K H av ds vs → Reps K H av' ds vs
  | [], _, _, h => h
  | d :: ds, vs, l, h => by
    unfold Reps at h ⊢
    obtain ⟨v, r, rfl, h1, h2⟩ := h
    unfold lfs at l
    obtain ⟨l1, l2⟩ := Bool.and_eq_true_iff.mp l
    exact ⟨v, r, rfl, Rep.lf_av l1 h1, Reps.lf_av l2 h2⟩
end
end VL

/-! VL2: slots, results, the readings lifted to data. -/
namespace VL
open PySem PySem.Spec L2

/-- a slot: not known, a value, a list that this def may write, the list handed in that it may write -/
inductive Sl where
  | un | val (d : D) | own (ds : List D) | par (ds : List D)
abbrev En := List Sl
/-- a result: a value, the list of a slot, a new list -/
inductive R where
  | val (d : D) | slot (i : Nat) | fresh (ds : List D)
abbrev As := Nat → Option Addr
def ownA (as : As) (b : Addr) : Prop := ∃ i, as i = some b
/-- what stands fast in a def's run: the written part, the heap at the entry, the list handed in, the list given, what callers may write -/
structure Fr where
  K : PySem.W.Frag
  H0 : Hp
  m : Option Addr
  g : Option Addr
  ex : Addr → Prop
  kp : List (D × V)
/-- to be avoided by values -/
def Fr.av (F : Fr) (as : As) (b : Addr) : Prop := F.ex b ∨ ownA as b ∨ F.m = some b
/-- may change here -/
def Fr.mu (F : Fr) (as : As) (b : Addr) : Prop := ownA as b ∨ F.m = some b
/-- may have changed since the entry -/
def Fr.ch (F : Fr) (b : Addr) : Prop := F.m = some b ∨ F.g = some b
def Fr.with (F : Fr) (b : Addr) : Fr := { F with ex := fun c => F.ex c ∨ c = b }

def SlAt (F : Fr) (H : Hp) (as : As) (i : Nat) (x : Option (Option V)) : Sl → Prop
  | .un => as i = none
  | .val d => as i = none ∧ ∃ v, x = some (some v) ∧ Rep F.K H (F.av as) d v
  | .own ds => ∃ b xs, as i = some b ∧ (F.H0 b = none ∨ F.g = some b) ∧ x = some (some (.ref b)) ∧ H b = some (.lst xs) ∧ Reps F.K H (F.av as) ds xs
  | .par ds => ∃ b xs, as i = some b ∧ F.m = some b ∧ x = some (some (.ref b)) ∧ H b = some (.lst xs) ∧ Reps F.K H (F.av as) ds xs
structure ER (F : Fr) (as : As) (σ : L2.St) (H : Hp) (ρ : En) : Prop where
  len : ρ.length = σ.length
  inj : ∀ i j b, as i = some b → as j = some b → i = j
  nex : ∀ i b, as i = some b → ¬ F.ex b
  sl : ∀ i, SlAt F H as i σ[i]? (ρ[i]?.getD .un)
  old : Ext F.ch F.H0 H
  own : ∀ i b, as i = some b → F.H0 b = none ∨ F.g = some b ∨ F.m = some b
  exo : ∀ b, F.ex b ∨ F.m = some b → H b ≠ none
  mok : ∀ b, F.m = some b → F.H0 b ≠ none ∧ F.g ≠ some b
  kept : ∀ p ∈ F.kp, Rep F.K H (F.av as) p.1 p.2
/-- the own lists become fewer -/
def Le (as' as : As) : Prop := ∀ i b, as' i = some b → as i = some b
theorem Le.refl (as : As) : Le as as := fun _ _ h => h
theorem Le.trans {a b c : As} (h : Le a b) (h' : Le b c) : Le a c := fun i x e => h' i x (h i x e)

section
variable {F : Fr} {as as' as1 as2 : As} {σ : L2.St} {H H' H1 H2 : Hp} {ρ ρ' : En}
theorem Le.av (h : Le as' as) {b : Addr} (z : F.av as' b) : F.av as b := by
  rcases z with z | ⟨i, e⟩ | z
  · exact .inl z
  · exact .inr (.inl ⟨i, h i b e⟩)
  · exact .inr (.inr z)
theorem Le.mu (h : Le as' as) {b : Addr} (z : F.mu as' b) : F.mu as b := by
  rcases z with ⟨i, e⟩ | z
  · exact .inl ⟨i, h i b e⟩
  · exact .inr z
theorem mu_av {b : Addr} (z : F.mu as b) : F.av as b := z.elim (fun z => .inr (.inl z)) fun z => .inr (.inr z)

/-- a result, just come: H ahead of the expression, H' behind -/
def RP (F : Fr) (as : As) (σ : L2.St) (H H' : Hp) (ρ' : En) : R → V → Prop
  | .val d, v => Rep F.K H' (F.av as) d v
  | .slot i, v => ∃ b, as i = some b ∧ v = .ref b
  | .fresh ds, v => ∃ b xs, v = .ref b ∧ H b = none ∧ ¬ F.av as b ∧ H' b = some (.lst xs) ∧ Reps F.K H' ((F.with b).av as) ds xs ∧ ER (F.with b) as σ H' ρ'
/-- a result that waits -/
def RW (F : Fr) (as : As) (H : Hp) : R → V → Prop
  | .val d, v => Rep F.K H (F.av as) d v
  | .slot i, v => ∃ b, as i = some b ∧ v = .ref b
  | .fresh ds, v => Rep F.K H (F.av as) (.lst ds) v
theorem with_av {b c : Addr} (z : F.av as c) : (F.with b).av as c := by
  rcases z with z | z | z
  · exact .inl (.inl z)
  · exact .inr (.inl z)
  · exact .inr (.inr z)
theorem of_with {b c : Addr} (z : (F.with b).av as c) : F.av as c ∨ c = b := by
  rcases z with (z | z) | z | z
  · exact .inl (.inl z)
  · exact .inr z
  · exact .inl (.inr (.inl z))
  · exact .inl (.inr (.inr z))
theorem ER.unwith {b : Addr} (h : ER (F.with b) as σ H ρ) : ER F as σ H ρ := by
  refine ⟨h.len, h.inj, fun i c e z => h.nex i c e (.inl z), fun i => ?_, h.old, h.own, fun c z => h.exo c (z.elim (fun z => .inl (.inl z)) .inr), h.mok, fun p hp => Rep.wk (fun _ _ z => with_av z) (h.kept p hp)⟩
  have q := h.sl i
  cases e : ρ[i]?.getD .un with
  | un => rw [e] at q; exact q
  | val d =>
    rw [e] at q
    obtain ⟨q1, v, q2, q3⟩ := q
    exact ⟨q1, v, q2, Rep.wk (fun _ _ z => with_av z) q3⟩
  | own ds =>
    rw [e] at q
    obtain ⟨c, xs, q1, q2, q3, q4, q5⟩ := q
    exact ⟨c, xs, q1, q2, q3, q4, Reps.wk (fun _ _ z => with_av z) q5⟩
  | par ds =>
    rw [e] at q
    obtain ⟨c, xs, q1, q2, q3, q4, q5⟩ := q
    exact ⟨c, xs, q1, q2, q3, q4, Reps.wk (fun _ _ z => with_av z) q5⟩
theorem ER.fresh (h : ER F as σ H ρ) {a : Addr} (n : H a = none) : F.H0 a = none := h.old.free n
/-- an own list is there -/
theorem ER.list (h : ER F as σ H ρ) {i : Nat} {ds : List D} (e : ρ[i]?.getD .un = .own ds ∨ ρ[i]?.getD .un = .par ds) :
    ∃ b xs, as i = some b ∧ σ[i]? = some (some (.ref b)) ∧ H b = some (.lst xs) ∧ Reps F.K H (F.av as) ds xs := by
  have q := h.sl i
  rcases e with e | e <;> rw [e] at q
  · obtain ⟨b, xs, q1, _, q3, q4, q5⟩ := q
    exact ⟨b, xs, q1, q3, q4, q5⟩
  · obtain ⟨b, xs, q1, _, q3, q4, q5⟩ := q
    exact ⟨b, xs, q1, q3, q4, q5⟩

theorem RP.wait {r : R} {v : V} (h : RP F as σ H H' ρ' r v) : RW F as H' r v := by
  cases r with
  | val d => exact h
  | slot i => exact h
  | fresh ds =>
    obtain ⟨b, xs, rfl, _, h1, h2, h3, h4⟩ := h
    show Rep F.K H' (F.av as) (.lst ds) (.ref b)
    unfold Rep
    exact ⟨b, xs, rfl, h2, h1, Reps.wk (fun _ _ z => with_av z) h3⟩
theorem RW.step {r : R} {v : V} (h : RW F as1 H1 r v) (l : Le as2 as1) (e : Ext (F.mu as1) H1 H2) : (∃ i b, r = .slot i ∧ as1 i = some b ∧ v = .ref b) ∨ RW F as2 H2 r v := by
  have e' : Ext (F.av as1) H1 H2 := e.mono fun _ => mu_av
  cases r with
  | val d => exact .inr (Rep.wk (fun _ _ z => l.av z) (Rep.ext e' h))
  | slot i =>
    obtain ⟨b, h1, h2⟩ := h
    exact .inl ⟨i, b, rfl, h1, h2⟩
  | fresh ds => exact .inr (Rep.wk (fun _ _ z => l.av z) (Rep.ext e' (show Rep F.K H1 (F.av as1) (.lst ds) v from h)))
/-- a result read -/
def rd (r : R) (ρ : En) : Option D :=
  match r with
  | .val d => some d
  | .fresh ds => some (.lst ds)
  | .slot i => match ρ[i]?.getD .un with
    | .own ds => some (.lst ds)
    | .par ds => some (.lst ds)
    | _ => none
/-- what was read: a value that avoids what may be written, or a list of ours -/
def Got (F : Fr) (as : As) (H : Hp) (d : D) (v : V) : Prop :=
  Rep F.K H (F.av as) d v ∨ ∃ ds b xs, d = .lst ds ∧ v = .ref b ∧ H b = some (.lst xs) ∧ Reps F.K H (F.av as) ds xs ∧ ownA as b
theorem got_of {r : R} {v : V} {d : D} (E : ER F as2 σ H2 ρ) (l : Le as2 as1) (w : RW F as1 H1 r v) (e : Ext (F.mu as1) H1 H2) (q : rd r ρ = some d) : Got F as2 H2 d v := by
  have e' : Ext (F.av as1) H1 H2 := e.mono fun _ => mu_av
  cases r with
  | val d' =>
    cases q
    exact .inl (Rep.wk (fun _ _ z => l.av z) (Rep.ext e' w))
  | fresh ds =>
    cases q
    exact .inl (Rep.wk (fun _ _ z => l.av z) (Rep.ext e' (show Rep F.K H1 (F.av as1) (.lst ds) v from w)))
  | slot i =>
    obtain ⟨b, h1, rfl⟩ := w
    have go : ∀ ds, (ρ[i]?.getD .un = .own ds ∨ ρ[i]?.getD .un = .par ds) → Got F as2 H2 (.lst ds) (.ref b) := fun ds z => by
      obtain ⟨c, xs, a1, a2, a3, a4⟩ := E.list z
      have := l i c a1
      rw [h1] at this; cases this
      exact .inr ⟨ds, b, xs, rfl, rfl, a3, a4, i, a1⟩
    unfold rd at q
    cases z : ρ[i]?.getD .un with
    | un => simp only [z] at q; cases q
    | val _ => simp only [z] at q; cases q
    | own ds => simp only [z] at q; cases q; exact go ds (.inl z)
    | par ds => simp only [z] at q; cases q; exact go ds (.inr z)
theorem Got.rep {d : D} {v : V} (g : Got F as H d v) : Rep F.K H (fun _ => False) d v := by
  rcases g with g | ⟨ds, b, xs, rfl, rfl, h1, h2, _⟩
  · exact Rep.wk (fun _ _ z => z.elim) g
  · unfold Rep
    exact ⟨b, xs, rfl, h1, fun z => z, Reps.wk (fun _ _ z => z.elim) h2⟩
theorem Got.lst {ds : List D} {v : V} (g : Got F as H (.lst ds) v) : ∃ b xs, v = .ref b ∧ H b = some (.lst xs) ∧ Reps F.K H (F.av as) ds xs := by
  rcases g with g | ⟨ds', b, xs, h, rfl, h1, h2, _⟩
  · unfold Rep at g
    obtain ⟨b, xs, rfl, h1, _, h2⟩ := g
    exact ⟨b, xs, rfl, h1, h2⟩
  · cases h
    exact ⟨b, xs, rfl, h1, h2⟩
theorem Got.fix {ds : List D} {v : V} (g : Got F as H (.fix ds) v) : ∃ b xs, v = .ref b ∧ SqL F.K H b xs ∧ Reps F.K H (F.av as) ds xs := by
  rcases g with g | ⟨ds', b, xs, h, _⟩
  · unfold Rep at g
    obtain ⟨b, xs, rfl, h1, h2⟩ := g
    exact ⟨b, xs, rfl, h1.seq, h2⟩
  · cases h
theorem Got.tup {ds : List D} {v : V} (g : Got F as H (.tup ds) v) : ∃ b xs, v = .ref b ∧ SqT F.K H b xs ∧ Reps F.K H (F.av as) ds xs := by
  rcases g with g | ⟨ds', b, xs, h, _⟩
  · unfold Rep at g
    exact g
  · cases h
theorem Got.int {i : Int} {v : V} (g : Got F as H (.int i) v) : v = .int i := by
  rcases g with g | ⟨ds', b, xs, h, _⟩
  · unfold Rep at g; exact g
  · cases h
theorem Got.bl {i : Bool} {v : V} (g : Got F as H (.bl i) v) : v = .bl i := by
  rcases g with g | ⟨ds', b, xs, h, _⟩
  · unfold Rep at g; exact g
  · cases h
theorem Got.non {v : V} (g : Got F as H .non v) : v = .non := by
  rcases g with g | ⟨ds', b, xs, h, _⟩
  · unfold Rep at g; exact g
  · cases h
theorem Got.str {i : Str} {v : V} (g : Got F as H (.str i) v) : v = .str i := by
  rcases g with g | ⟨ds', b, xs, h, _⟩
  · unfold Rep at g; exact g
  · cases h

/-! ### the readings lifted -/
abbrev WE := En → (R → En → Prop) → Prop
abbrev WA := En → (List R → En → Prop) → Prop
abbrev WT := En → (Bool → En → Prop) → Prop
structure VEnds where
  nx : En → Prop
  rt : R → En → Prop
  bk : En → Prop := fun _ => False
  ct : En → Prop := fun _ => False
abbrev WS := En → VEnds → Prop

/-- all that is behind an expression: new own lists, new heap -/
structure Aft (F : Fr) (as as' : As) (σ : L2.St) (H H' : Hp) (ρ' : En) : Prop where
  le : Le as' as
  er : ER F as' σ H' ρ'
  ext : Ext (F.mu as) H H'
theorem Aft.refl (E : ER F as σ H ρ) : Aft F as as σ H H ρ := ⟨Le.refl as, E, Ext.refl _ _⟩
theorem Aft.trans {ρ1 ρ2 : En} (a : Aft F as as1 σ H H1 ρ1) (b : Aft F as1 as2 σ H1 H2 ρ2) : Aft F as as2 σ H H2 ρ2 :=
  ⟨b.le.trans a.le, b.er, a.ext.trans (b.ext.mono fun _ z => a.le.mu z)⟩
def lE (F : Fr) (w : WE) : TE := fun σ H Q => ∃ as ρ Q', ER F as σ H ρ ∧ w ρ Q' ∧ ∀ as' r ρ' v H', Aft F as as' σ H H' ρ' → RP F as' σ H H' ρ' r v → Q' r ρ' → Q v H'
def lT (F : Fr) (w : WT) : TT := fun σ H Q => ∃ as ρ Q', ER F as σ H ρ ∧ w ρ Q' ∧ ∀ as' b ρ' H', Aft F as as' σ H H' ρ' → Q' b ρ' → Q b H'
/-- waiting results, all of them as they stand at the end -/
def RWs (F : Fr) (as : As) (H : Hp) : List R → List V → Prop
  | [], vs => vs = []
  | r :: rs, vs => ∃ v vr, vs = v :: vr ∧ (∃ as0 H0, Le as as0 ∧ Ext (F.mu as0) H0 H ∧ RW F as0 H0 r v) ∧ RWs F as H rs vr
def lA (F : Fr) (w : WA) : TA := fun σ H Q => ∃ as ρ Q', ER F as σ H ρ ∧ w ρ Q' ∧ ∀ as' rs ρ' vs H', Aft F as as' σ H H' ρ' → RWs F as' H' rs vs → Q' rs ρ' → Q vs H'
/-- a result handed back -/
def RB (F : Fr) (as : As) (H : Hp) (ρ : En) : R → V → Prop
  | .val d, v => Rep F.K H (F.av as) d v
  | .slot _, _ => False
  | .fresh ds, v => ∃ b xs, v = .ref b ∧ (F.H0 b = none ∨ F.g = some b) ∧ H b = some (.lst xs) ∧ Reps F.K H (fun c => F.av as c ∨ c = b) ds xs ∧
    ∀ (i : Nat) (ds' : List D), ρ[i]?.getD .un = .par ds' → ∃ a ys, as i = some a ∧ H a = some (.lst ys) ∧ Reps F.K H (fun c => F.av as c ∨ c = b) ds' ys
def lS (F : Fr) (w : WS) : TS := fun D σ H => ∃ as ρ E, ER F as σ H ρ ∧ w ρ E ∧
  (∀ as' ρ' σ' H', ER F as' σ' H' ρ' → E.nx ρ' → D.nx σ' H') ∧ (∀ as' ρ' σ' H', ER F as' σ' H' ρ' → E.bk ρ' → D.bk σ' H') ∧ (∀ as' ρ' σ' H', ER F as' σ' H' ρ' → E.ct ρ' → D.ct σ' H') ∧
  ∀ as' ρ' σ' H' r v, ER F as' σ' H' ρ' → RB F as' H' ρ' r v → E.rt r ρ' → D.rt v H'
end
section
variable {X : Cx} {e : Expr} {t t' : TE}
theorem pe_mono (h : PE X e t) (m : ∀ σ H Q, t' σ H Q → t σ H Q) : PE X e t' := ⟨fun pins s σ H Q I q => h.run pins s σ H Q I (m σ H Q q)⟩
theorem pt_mono {t t' : TT} (h : PT X e t) (m : ∀ σ H Q, t' σ H Q → t σ H Q) : PT X e t' := ⟨fun pins s σ H Q I q => h.run pins s σ H Q I (m σ H Q q)⟩
theorem pa_mono {es : List Expr} {t t' : TA} (h : PA X es t) (m : ∀ σ H Q, t' σ H Q → t σ H Q) : PA X es t' := ⟨fun pos pins s σ H Q I q => h.run pos pins s σ H Q I (m σ H Q q)⟩
theorem ps_mono {st : Stmt} {t t' : TS} (h : PS X st t) (m : ∀ D σ H, t' D σ H → t D σ H) : PS X st t' := ⟨fun pins s σ H D I q => h.run pins s σ H D I (m D σ H q)⟩
theorem pss_mono {st : List Stmt} {t t' : TS} (h : PSs X st t) (m : ∀ D σ H, t' D σ H → t D σ H) : PSs X st t' := ⟨fun pins s σ H D I q => h.run pins s σ H D I (m D σ H q)⟩
end
/-- an expression, a test, arguments, statements keep their data reading -/
abbrev VE (X : Cx) (F : Fr) (e : Expr) (w : WE) : Prop := PE X e (lE F w)
abbrev VT (X : Cx) (F : Fr) (e : Expr) (w : WT) : Prop := PT X e (lT F w)
abbrev VA (X : Cx) (F : Fr) (es : List Expr) (w : WA) : Prop := PA X es (lA F w)
abbrev VS (X : Cx) (F : Fr) (s : Stmt) (w : WS) : Prop := PS X s (lS F w)
abbrev VSs (X : Cx) (F : Fr) (s : List Stmt) (w : WS) : Prop := PSs X s (lS F w)
end VL

/-! VL3: a small language and its weakest preconditions over data. -/
namespace VL
open PySem PySem.Spec L2

inductive Op where
  | add | sub | mul | fdiv | mod | pow | shl | shr
  deriving DecidableEq
inductive Cm where
  | eq | ne | lt | le | gt | ge | isN | notN | isin | notin
  deriving DecidableEq
inductive Bf where
  | len | abs | max2 | min2 | int | list | tuple | any | all | str | sum | bool | sorted | sortedP
  deriving DecidableEq
inductive Ty where
  | int | bool | tuple | list | str
  deriving DecidableEq
inductive Mt where
  | append | extend | pop | insert | reverse | popAt
  deriving DecidableEq
inductive Tg where
  | nm (i : Nat) | tp (is : List Nat) | tq (i : Nat) (is : List Nat)
mutual
inductive E where
  | var (i : Nat) | glo (d : D) | non | bl (b : Bool) | int (i : Int) | str (s : Str)
  | tup (es : Es) | lst (es : Es)
  | bin (o : Op) (a b : E) | neg (a : E)
  | cmp (c : Cm) (a b : E) | chain (c d : Cm) (a b e : E)
  | and (a b : E) | or (a b : E) | not (a : E) | ite (c : T) (a b : E)
  | call (f : Nat) (es : Es) | blt (f : Bf) (es : Es) | isi (a : E) (t : Ty) | bits (a : E)
  | mth (m : Mt) (i : Nat) (es : Es)
  | ix (a i : E) | sl (a : E) (lo hi : Po) | join (z : Str) (b : E) | slk (a : E) (lo st : Po)
  | lc (elt : E) (tg : Tg) (it : It) (own : List Nat) (cs : Tc)
inductive Es where
  | nil | cons (e : E) (es : Es)
inductive T where
  | cmp (c : Cm) (a b : E) | chain (c d : Cm) (a b e : E) | and (a b : T) | or (a b : T) | not (a : T) | tru (a : E)
inductive Tc where
  | no | yes (t : T)
inductive Po where
  | no | yes (e : E)
inductive It where
  | seq (e : E) | rng1 (a : E) | rng2 (a b : E) | rng2L (a b : E) | rng3 (a b c : E) | rev (e : E) | enum (e : E) | zip (a b : E) | own (j : Nat)
end
mutual
inductive S where
  | asg (i : Nat) (e : E) | asgT (is : List Nat) (e : E) | par (is : List Nat) (es : Es)
  | asgX (i : Nat) (x y e : E)
  | sub (i : Nat) (ix e : E) | aug (i : Nat) (o : Op) (e : E) | augS (i : Nat) (ix : E) (o : Op) (e : E)
  | ex (e : E) | ret (e : E) | ret0 | ite (c : T) (a b : Ss) | whl (c : T) (b : Ss) | for (tg : Tg) (it : It) (b : Ss)
  | pass | brk | cnt
inductive Ss where
  | nil | cons (s : S) (ss : Ss)
end

/-! ### data -/
mutual
def toP : D → PyData
  | .non => .none
  | .bl b => .bool b
  | .int i => .int i
  | .str s => .str s
  | .tup ds => .tuple (toPs ds)
  | .lst ds => .list (toPs ds)
  | .fix ds => .list (toPs ds)
def toPs : List D → List PyData
  | [] => []
  | d :: ds => toP d :: toPs ds
end
def deq (x y : D) : Bool := PyData.eqv (toP x) (toP y)
def dsh (x : D) : Bool := SeqAt.shaped (toP x)
/-- small lengths -/
def Sm (n : Nat) : Prop := n ≤ 16777216
def MulOk (i j : Int) : Prop := IntMulOk i j
/-- the branch of a test -/
def br (c : Bool) (A B : Prop) : Prop := (c = true → A) ∧ (c = false → B)

def op2 (o : Op) (x y : D) (k : R → Prop) : Prop :=
  match o, x, y with
  | .add, .int i, .int j => k (.val (.int (i + j)))
  | .sub, .int i, .int j => k (.val (.int (i - j)))
  | .mul, .int i, .int j => MulOk i j ∧ k (.val (.int (i * j)))
  | .fdiv, .int i, .int j => j ≠ 0 ∧ k (.val (.int (i.fdiv j)))
  | .mod, .int i, .int j => j ≠ 0 ∧ k (.val (.int (i.fmod j)))
  | .pow, .int i, .int j => CPow i j ∧ k (.val (.int (i ^ j.toNat)))
  | .shl, .int i, .int j => CShl i j ∧ k (.val (.int (i * 2 ^ j.toNat)))
  | .shr, .int i, .int j => 0 ≤ j ∧ k (.val (.int (i / 2 ^ j.toNat)))
  | .add, .str a, .str b => Sm (a.length + b.length) ∧ k (.val (.str (a ++ b)))
  | .add, .lst a, .lst b => Sm (a.length + b.length) ∧ k (.fresh (a ++ b))
  | .mul, .lst a, .int n => Sm (a.length * n.toNat) ∧ -(2 ^ 63) ≤ n ∧ n < 2 ^ 63 ∧ k (.fresh (List.replicate n.toNat a).flatten)
  | .add, .tup a, .tup b => Sm (a.length + b.length) ∧ k (.val (.tup (a ++ b)))
  | .mul, .tup a, .int n => a ≠ [] ∧ 1 ≤ n ∧ n ≤ 1000 ∧ a.length ≤ 1000 ∧ k (.val (.tup (List.replicate n.toNat a).flatten))
  | .mul, .str a, .int n => -(2 ^ 63) ≤ n ∧ n ≤ 1 ∧ k (.val (.str (if n < 1 then Str.empty else a)))
  | _, _, _ => False
def deqC (x y : D) (k : Bool → Prop) : Prop :=
  match x, y with
  | .int i, .int j => k (decide (i = j))
  | .bl i, .bl j => k (i == j)
  | .str i, .str j => k (decide (i = j))
  | .non, .non => k true
  | .non, .int _ => k false
  | .int _, .non => k false
  | .non, .str _ => k false
  | .str _, .non => k false
  | _, _ => dsh x = true ∧ dsh y = true ∧ k (deq x y)
/-- flat data, for in -/
def flatD : D → Bool
  | .int _ => true | .bl _ => true | .str _ => true | .non => true | _ => false
def inC (x : D) (ys : List D) (k : Bool → Prop) : Prop := dsh x = true ∧ dsh (.lst ys) = true ∧ k (ys.any fun y => deq y x)
def isNon : D → Bool
  | .non => true
  | _ => false
def cmp2 (c : Cm) (x y : D) (k : Bool → Prop) : Prop :=
  match c, x, y with
  | .lt, .int i, .int j => k (decide (i < j))
  | .le, .int i, .int j => k (decide (i ≤ j))
  | .gt, .int i, .int j => k (decide (j < i))
  | .ge, .int i, .int j => k (decide (j ≤ i))
  | .eq, x, y => deqC x y k
  | .ne, x, y => deqC x y fun b => k (!b)
  | .isN, x, .non => k (isNon x)
  | .notN, x, .non => k (!isNon x)
  | .isin, x, .lst ys => inC x ys k
  | .isin, x, .fix ys => inC x ys k
  | .notin, x, .lst ys => inC x ys fun b => k (!b)
  | .notin, x, .fix ys => inC x ys fun b => k (!b)
  | _, _, _ => False
/-- truth -/
def tru (d : D) (k : Bool → Prop) : Prop :=
  match d with
  | .bl b => k b
  | .int i => k (i != 0)
  | .non => k false
  | .tup ds => k (!ds.isEmpty)
  | .lst ds => k (!ds.isEmpty)
  | .fix ds => k (!ds.isEmpty)
  | .str s => Sm s.length ∧ k ((s.length : Int) != 0)
def isTy (d : D) (t : Ty) : Bool :=
  match t, d with
  | .int, .int _ => true | .int, .bl _ => true | .bool, .bl _ => true | .tuple, .tup _ => true | .list, .lst _ => true | .list, .fix _ => true | .str, .str _ => true
  | _, _ => false
def blt (f : Bf) (ds : List D) (k : R → Prop) : Prop :=
  match f, ds with
  | .len, [.tup xs] => k (.val (.int xs.length))
  | .len, [.lst xs] => k (.val (.int xs.length))
  | .len, [.fix xs] => k (.val (.int xs.length))
  | .len, [.str s] => Sm s.length ∧ k (.val (.int s.length))
  | .abs, [.int i] => k (.val (.int (i.natAbs : Int)))
  | .max2, [.int i, .int j] => k (.val (.int (max i j)))
  | .min2, [.int i, .int j] => k (.val (.int (min i j)))
  | .int, [.int i] => k (.val (.int i))
  | .int, [.bl b] => k (.val (.int (if b then 1 else 0)))
  | .list, [.tup xs] => k (.fresh xs)
  | .list, [.lst xs] => k (.fresh xs)
  | .list, [.fix xs] => k (.fresh xs)
  | .tuple, [.tup xs] => k (.val (.tup xs))
  | .tuple, [.lst xs] => k (.val (.tup xs))
  | .tuple, [.fix xs] => k (.val (.tup xs))
  | .any, [.lst xs] => ∃ bs : List Bool, xs = bs.map D.bl ∧ k (.val (.bl (bs.any id)))
  | .all, [.lst xs] => ∃ bs : List Bool, xs = bs.map D.bl ∧ k (.val (.bl (bs.all id)))
  | .sum, [.lst xs] => ∃ bs : List Int, xs = bs.map D.int ∧ k (.val (.int bs.sum))
  | .str, [.int i] => i.natAbs.log2 < 1920 ∧ k (.val (.str (toString i)))
  | .bool, [.int i] => k (.val (.bl (i != 0)))
  | .bool, [.bl i] => k (.val (.bl i))
  | .sorted, [.lst xs] => ∃ bs : List Int, xs = bs.map D.int ∧ ∀ ys : List Int, ys.Perm bs → ys.Pairwise (· ≤ ·) → k (.fresh (ys.map D.int))
  | .sortedP, [.lst xs] => ∃ ps : List (Int × D), xs = ps.map (fun p => .tup [.int p.1, p.2]) ∧ (ps.Pairwise fun p p' => p.1 ≠ p'.1) ∧ ∀ qs : List (Int × D), qs.Perm ps → (qs.Pairwise fun p p' => p.1 ≤ p'.1) → k (.fresh (qs.map fun p => .tup [.int p.1, p.2]))
  | _, _ => False

/-! ### results and slots -/
def gt (ρ : En) (i : Nat) : Sl := ρ[i]?.getD .un
def wRd (r : R) (ρ : En) (k : D → Prop) : Prop :=
  match r with
  | .val d => k d
  | .fresh ds => k (.lst ds)
  | .slot i => match gt ρ i with
    | .own ds => k (.lst ds)
    | .par ds => k (.lst ds)
    | _ => False
def rds : List R → En → (List D → Prop) → Prop
  | [], _, k => k []
  | r :: rs, ρ, k => wRd r ρ fun d => rds rs ρ fun ds => k (d :: ds)
/-- a result as a value: a list of a slot is written no more -/
def frz1 (r : R) (ρ : En) (k : D → En → Prop) : Prop :=
  match r with
  | .val d => k d ρ
  | .fresh ds => k (.lst ds) ρ
  | .slot i => match gt ρ i with
    | .own ds => k (.lst ds) (ρ.set i (.val (.lst ds)))
    | _ => False
def frz : List R → En → (List D → En → Prop) → Prop
  | [], ρ, k => k [] ρ
  | r :: rs, ρ, k => frz1 r ρ fun d ρ1 => frz rs ρ1 fun ds ρ2 => k (d :: ds) ρ2
def isOwn : Sl → Bool
  | .own _ => true
  | .par _ => true
  | _ => false
/-- a value comes to a slot -/
def toSlot (i : Nat) (r : R) (ρ1 : En) (k : En → Prop) : Prop := match r with
  | .val d => k (ρ1.set i (.val d))
  | .fresh ds => k (ρ1.set i (.own ds))
  | .slot j => frz1 (.slot j) ρ1 fun d ρ2 => k (ρ2.set i (.val d))
def isSlot : R → Bool
  | .slot _ => true
  | _ => false
def noSlots : List R → Bool
  | [] => true
  | r :: rs => !isSlot r && noSlots rs
def lfR : R → Bool
  | .val d => lf d
  | .fresh ds => lfs ds
  | .slot _ => false
inductive Kd where
  | read | wrt | give | take | wrtB
/-- what a def promises, by data: the arguments; the wish of the result and of what the list handed in holds then -/
structure VF where
  kind : Kd
  sp : List D → (R → Option (List D) → Prop) → Prop
def callR (f : VF) (rs : List R) (ρ : En) (Q : R → En → Prop) : Prop :=
  match f.kind with
  | .read => rds rs ρ fun ds => f.sp ds fun r _ => (noSlots rs = true ∨ lfR r = true) ∧ Q r ρ
  | .take => frz rs ρ fun ds ρ2 => f.sp ds fun r _ => Q r ρ2
  | .wrt => match rs with
    | .slot i :: rest => noSlots rest = true ∧ (match gt ρ i with
      | .own ds0 => rds rest ρ fun ds => f.sp (.lst ds0 :: ds) fun r o => ∃ ds', o = some ds' ∧ Q r (ρ.set i (.own ds'))
      | .par ds0 => rds rest ρ fun ds => f.sp (.lst ds0 :: ds) fun r o => ∃ ds', o = some ds' ∧ Q r (ρ.set i (.par ds'))
      | _ => False)
    | .fresh ds0 :: rest => noSlots rest = true ∧ rds rest ρ fun ds => f.sp (.lst ds0 :: ds) fun r o => Q r ρ
    | _ => False
  | .wrtB => match rs with
    | [r0, .slot i] => noSlots [r0] = true ∧ (match gt ρ i with
      | .own ds0 => rds [r0] ρ fun ds => f.sp (.lst ds0 :: ds) fun r o => ∃ ds', o = some ds' ∧ Q r (ρ.set i (.own ds'))
      | .par ds0 => rds [r0] ρ fun ds => f.sp (.lst ds0 :: ds) fun r o => ∃ ds', o = some ds' ∧ Q r (ρ.set i (.par ds'))
      | _ => False)
    | _ => False
  | .give => match rs with
    | .slot i :: rest => noSlots rest = true ∧ (match gt ρ i with
      | .own ds0 => rds rest ρ fun ds => f.sp (.lst ds0 :: ds) fun r o => Q r (ρ.set i .un)
      | _ => False)
    | _ => False

def setAll : List Nat → List D → En → En
  | i :: is, d :: ds, ρ => setAll is ds (ρ.set i (.val d))
  | _, _, ρ => ρ
def bind (t : Tg) (d : D) (ρ : En) (k : En → Prop) : Prop :=
  match t with
  | .nm i => k (ρ.set i (.val d))
  | .tp is => match d with
    | .tup ds => ds.length = is.length ∧ k (setAll is ds ρ)
    | _ => False
  | .tq i is => match d with
    | .tup [d0, .tup ds] => ds.length = is.length ∧ k (setAll is ds (ρ.set i (.val d0)))
    | _ => False
/-- a method of a list of ours -/
def mth (m : Mt) (ds as : List D) (k : D → List D → Prop) : Prop :=
  match m, as with
  | .append, [d] => ds.length < 16777216 ∧ k .non (ds ++ [d])
  | .extend, [.lst es] => Sm (ds.length + es.length) ∧ k .non (ds ++ es)
  | .pop, [] => ∃ d, ds.getLast? = some d ∧ k d ds.dropLast
  | .reverse, [] => k .non ds.reverse
  | .insert, [.int i, d] => (0 ≤ i ∧ i < 2 ^ 63) ∧ ds.length < 16777216 ∧ k .non (ds.take i.toNat ++ d :: ds.drop i.toNat)
  | .popAt, [.int i] => (-(2 ^ 63) ≤ i ∧ i < 2 ^ 63) ∧ ∃ j d, ixN ds.length i = some j ∧ ds[j]? = some d ∧ k d (ds.eraseIdx j)
  | _, _ => False
def mthS (m : Mt) (i : Nat) (as : List D) (ρ : En) (Q : R → En → Prop) : Prop :=
  match gt ρ i with
  | .own ds => mth m ds as fun d ds' => Q (.val d) (ρ.set i (.own ds'))
  | .par ds => mth m ds as fun d ds' => Q (.val d) (ρ.set i (.par ds'))
  | _ => False
def ixD (x y : D) (k : D → Prop) : Prop :=
  match x, y with
  | .tup xs, .int i => ∃ d, atI xs i = some d ∧ k d
  | .lst xs, .int i => ∃ d, atI xs i = some d ∧ k d
  | .fix xs, .int i => ∃ d, atI xs i = some d ∧ k d
  | _, _ => False
/-- slot i's list, an item put at a place -/
def putAt (i : Nat) (y d : D) (ρ : En) (k : En → Prop) : Prop := match y with
  | .int n => match gt ρ i with
    | .own ds => ∃ j, ixN ds.length n = some j ∧ k (ρ.set i (.own (ds.set j d)))
    | .par ds => ∃ j, ixN ds.length n = some j ∧ k (ρ.set i (.par (ds.set j d)))
    | _ => False
  | _ => False
def itAt (i : Nat) (y : D) (ρ : En) (k : D → Prop) : Prop := match y with
  | .int n => match gt ρ i with
    | .own ds => ∃ d, atI ds n = some d ∧ k d
    | .par ds => ∃ d, atI ds n = some d ∧ k d
    | _ => False
  | _ => False
/-- op= of numbers and texts -/
def augD (o : Op) (x y : D) (k : D → Prop) : Prop := match o, x, y with
  | .add, .int i, .int j => k (.int (i + j))
  | .sub, .int i, .int j => k (.int (i - j))
  | .add, .str a, .str b => Sm (a.length + b.length) ∧ k (.str (a ++ b))
  | _, _, _ => False
def cutD (xs : List D) (lo hi : Option Int) : List D := (xs.drop (HT.sIx xs.length 0 lo)).take (HT.sIx xs.length xs.length hi - HT.sIx xs.length 0 lo)
def slD (x : D) (l h : Option Int) (k : R → Prop) : Prop := match x with
  | .lst xs => k (.fresh (cutD xs l h))
  | .fix xs => k (.fresh (cutD xs l h))
  | .tup xs => k (.val (.tup (cutD xs l h)))
  | .str z => Sm z.length ∧ k (.val (.str (cutS z l h)))
  | _ => False
/-- every n-th from the k-th on -/
def nthL {α : Type} (n : Nat) : Nat → List α → List α
  | _, [] => []
  | 0, x :: xs => x :: nthL n (n - 1) xs
  | k + 1, _ :: xs => nthL n k xs
def slkD (x : D) (l h : Option Int) (k : D → Prop) : Prop := match x, l, h with
  | .tup xs, some i, some n => 0 ≤ i ∧ 1 < n ∧ k (.tup (nthL n.toNat i.toNat xs))
  | _, _, _ => False
/-- x.join(y) -/
def joinD (z : Str) (y : D) (k : D → Prop) : Prop := match y with
  | .lst xs => ∃ ys : List Str, xs = ys.map D.str ∧ (ys.map (·.length)).sum + ys.length * z.length ≤ 16777216 ∧ k (.str (Txt.join z ys))
  | _ => False
def rngs (lo : Int) (n : Nat) (c : Int) : List D := (List.range n).map fun (k : Nat) => D.int (lo + (k : Int) * c)
/-- the slots of a comprehension's own names forgotten; as they were ahead of it -/
def wipeV : List Nat → En → En
  | [], ρ => ρ
  | i :: is, ρ => (wipeV is ρ).set i .un
def keepVal : Sl → Sl
  | .val d => .val d
  | _ => .un
def unwipe : List Nat → En → En → En
  | [], _, ρ => ρ
  | i :: is, ρ1, ρ => (unwipe is ρ1 ρ).set i (keepVal (gt ρ1 i))
def esLen : Es → Nat
  | .nil => 0
  | .cons _ es => esLen es + 1
section
variable (Γ : Nat → VF)
mutual
def wE : E → WE
  | .var i, ρ, Q => match gt ρ i with
    | .val d => Q (.val d) ρ
    | .own _ => Q (.slot i) ρ
    | .par _ => Q (.slot i) ρ
    | .un => False
  | .glo d, ρ, Q => Q (.val d) ρ
  | .non, ρ, Q => Q (.val .non) ρ
  | .bl b, ρ, Q => Q (.val (.bl b)) ρ
  | .int i, ρ, Q => Q (.val (.int i)) ρ
  | .str s, ρ, Q => Q (.val (.str s)) ρ
  | .tup es, ρ, Q => wA es ρ fun rs ρ1 => rs.length = esLen es ∧ frz rs ρ1 fun ds ρ2 => Q (.val (.tup ds)) ρ2
  | .lst es, ρ, Q => wA es ρ fun rs ρ1 => rs.length = esLen es ∧ frz rs ρ1 fun ds ρ2 => Q (.fresh ds) ρ2
  | .bin o a b, ρ, Q => wE a ρ fun r1 ρ1 => wE b ρ1 fun r2 ρ2 => wRd r1 ρ2 fun x => wRd r2 ρ2 fun y => op2 o x y fun r => Q r ρ2
  | .neg a, ρ, Q => wE a ρ fun r1 ρ1 => wRd r1 ρ1 fun x => match x with | .int i => Q (.val (.int (-i))) ρ1 | _ => False
  | .cmp c a b, ρ, Q => wE a ρ fun r1 ρ1 => wE b ρ1 fun r2 ρ2 => wRd r1 ρ2 fun x => wRd r2 ρ2 fun y => cmp2 c x y fun z => Q (.val (.bl z)) ρ2
  | .chain c d a b e, ρ, Q => wE a ρ fun r1 ρ1 => wE b ρ1 fun r2 ρ2 => wRd r1 ρ2 fun x => wRd r2 ρ2 fun y => cmp2 c x y fun z =>
      br z (wE e ρ2 fun r3 ρ3 => wRd r2 ρ3 fun y => wRd r3 ρ3 fun v => cmp2 d y v fun z => Q (.val (.bl z)) ρ3) (Q (.val (.bl false)) ρ2)
  | .and a b, ρ, Q => wE a ρ fun r1 ρ1 => wRd r1 ρ1 fun x => match x with | .bl c => br c (wE b ρ1 Q) (Q (.val (.bl false)) ρ1) | _ => False
  | .or a b, ρ, Q => wE a ρ fun r1 ρ1 => wRd r1 ρ1 fun x => match x with | .bl c => br c (Q (.val (.bl true)) ρ1) (wE b ρ1 Q) | _ => False
  | .not a, ρ, Q => wE a ρ fun r1 ρ1 => wRd r1 ρ1 fun x => match x with | .bl c => Q (.val (.bl (!c))) ρ1 | _ => False
  | .ite c a b, ρ, Q => wT c ρ fun z ρ1 => br z (wE a ρ1 Q) (wE b ρ1 Q)
  | .call f es, ρ, Q => wA es ρ fun rs ρ1 => rs.length = esLen es ∧ callR (Γ f) rs ρ1 Q
  | .blt f es, ρ, Q => wA es ρ fun rs ρ1 => rds rs ρ1 fun ds => blt f ds fun r => Q r ρ1
  | .isi a t, ρ, Q => wE a ρ fun r1 ρ1 => wRd r1 ρ1 fun x => Q (.val (.bl (isTy x t))) ρ1
  | .bits a, ρ, Q => wE a ρ fun r1 ρ1 => wRd r1 ρ1 fun x => match x with | .int i => Q (.val (.int (Builtin.Int.intBits i : Nat))) ρ1 | _ => False
  | .mth m i es, ρ, Q => isOwn (gt ρ i) = true ∧ wA es ρ fun rs ρ1 => frz rs ρ1 fun ds ρ2 => mthS m i ds ρ2 Q
  | .ix a i, ρ, Q => wE a ρ fun r1 ρ1 => wE i ρ1 fun r2 ρ2 => wRd r1 ρ2 fun x => wRd r2 ρ2 fun y => ixD x y fun d => Q (.val d) ρ2
  | .sl a lo hi, ρ, Q => wE a ρ fun r1 ρ1 => wP lo ρ1 fun l ρ2 => wP hi ρ2 fun h ρ3 => wRd r1 ρ3 fun x => slD x l h fun r => Q r ρ3
  | .join z b, ρ, Q => wE b ρ fun r1 ρ1 => wRd r1 ρ1 fun y => joinD z y fun d => Q (.val d) ρ1
  | .slk a lo st, ρ, Q => wE a ρ fun r1 ρ1 => wP lo ρ1 fun l ρ2 => wP st ρ2 fun h ρ3 => wRd r1 ρ3 fun x => slkD x l h fun d => Q (.val d) ρ3
  | .lc elt tg (.own j) own cs, ρ, Q => match gt ρ j with
    | .own its => Sm its.length ∧ ∃ I : Nat → List D → En → Prop, I 0 [] (wipeV own ρ) ∧ (∀ k acc ρ, I k acc ρ → gt ρ j = .own its) ∧
      (∀ k d acc ρ, its[k]? = some d → I k acc ρ → bind tg d ρ fun ρ2 => wTc cs ρ2 fun c ρ3 => br c (wE elt ρ3 fun r ρ4 => frz1 r ρ4 fun y ρ5 => I (k + 1) (acc ++ [y]) (wipeV own ρ5)) (I (k + 1) acc (wipeV own ρ3))) ∧
      ∀ acc ρ', I its.length acc ρ' → Q (.fresh acc) (unwipe own ρ ρ')
    | _ => False
  | .lc elt tg it own cs, ρ, Q => wI it ρ fun its ρ1 => Sm its.length ∧ ∃ I : Nat → List D → En → Prop, I 0 [] (wipeV own ρ1) ∧
      (∀ k d acc ρ, its[k]? = some d → I k acc ρ → bind tg d ρ fun ρ2 => wTc cs ρ2 fun c ρ3 => br c (wE elt ρ3 fun r ρ4 => frz1 r ρ4 fun y ρ5 => I (k + 1) (acc ++ [y]) (wipeV own ρ5)) (I (k + 1) acc (wipeV own ρ3))) ∧
      ∀ acc ρ, I its.length acc ρ → Q (.fresh acc) (unwipe own ρ1 ρ)
def wT : T → WT
  | .cmp c a b, ρ, Q => wE a ρ fun r1 ρ1 => wE b ρ1 fun r2 ρ2 => wRd r1 ρ2 fun x => wRd r2 ρ2 fun y => cmp2 c x y fun z => Q z ρ2
  | .chain c d a b e, ρ, Q => wE a ρ fun r1 ρ1 => wE b ρ1 fun r2 ρ2 => wRd r1 ρ2 fun x => wRd r2 ρ2 fun y => cmp2 c x y fun z =>
      br z (wE e ρ2 fun r3 ρ3 => wRd r2 ρ3 fun y => wRd r3 ρ3 fun v => cmp2 d y v fun z => Q z ρ3) (Q false ρ2)
  | .and a b, ρ, Q => wT a ρ fun c ρ1 => br c (wT b ρ1 Q) (Q false ρ1)
  | .or a b, ρ, Q => wT a ρ fun c ρ1 => br c (Q true ρ1) (wT b ρ1 Q)
  | .not a, ρ, Q => wT a ρ fun c ρ1 => Q (!c) ρ1
  | .tru e, ρ, Q => wE e ρ fun r1 ρ1 => wRd r1 ρ1 fun x => tru x fun c => Q c ρ1
def wTc : Tc → WT
  | .no, ρ, Q => Q true ρ
  | .yes c, ρ, Q => wT c ρ Q
def wP : Po → En → (Option Int → En → Prop) → Prop
  | .no, ρ, Q => Q none ρ
  | .yes e, ρ, Q => wE e ρ fun r ρ1 => match r with
    | .val (.int i) => Q (some i) ρ1
    | _ => False
def wA : Es → WA
  | .nil, ρ, Q => Q [] ρ
  | .cons e es, ρ, Q => wE e ρ fun r ρ1 => wA es ρ1 fun rs ρ2 => Q (r :: rs) ρ2
/-- what is walked -/
def wI : It → En → (List D → En → Prop) → Prop
  | .seq e, ρ, Q => wE e ρ fun r ρ1 => frz1 r ρ1 fun d ρ2 => match d with
    | .tup ds => Q ds ρ2
    | .lst ds => Q ds ρ2
    | .fix ds => Q ds ρ2
    | _ => False
  | .rng1 a, ρ, Q => wE a ρ fun r ρ1 => wRd r ρ1 fun x => match x with | .int i => (-(2 ^ 62) ≤ i ∧ i < 2 ^ 62) ∧ Q (rngs 0 i.toNat 1) ρ1 | _ => False
  | .rng2 a b, ρ, Q => wE a ρ fun r1 ρ1 => wE b ρ1 fun r2 ρ2 => wRd r1 ρ2 fun x => wRd r2 ρ2 fun y => match x, y with
    | .int i, .int j => (-(2 ^ 62) ≤ i ∧ i < 2 ^ 62 ∧ -(2 ^ 62) ≤ j ∧ j < 2 ^ 62) ∧ Q (rngs i (j - i).toNat 1) ρ2
    | _, _ => False
  | .rng2L a b, ρ, Q => wE a ρ fun r1 ρ1 => wE b ρ1 fun r2 ρ2 => wRd r1 ρ2 fun x => wRd r2 ρ2 fun y => match x, y with
    | .int i, .int j => Q (rngs i (j - i).toNat 1) ρ2
    | _, _ => False
  | .rng3 a b c, ρ, Q => wE a ρ fun r1 ρ1 => wE b ρ1 fun r2 ρ2 => wE c ρ2 fun r3 ρ3 => wRd r1 ρ3 fun x => wRd r2 ρ3 fun y => wRd r3 ρ3 fun z => match x, y, z with
    | .int i, .int j, .int c => ∃ n, RgC i j c n ∧ Q (rngs i n c) ρ3
    | _, _, _ => False
  | .rev e, ρ, Q => wE e ρ fun r ρ1 => frz1 r ρ1 fun d ρ2 => match d with
    | .tup ds => Q ds.reverse ρ2
    | .lst ds => Q ds.reverse ρ2
    | .fix ds => Q ds.reverse ρ2
    | _ => False
  | .enum e, ρ, Q => wE e ρ fun r ρ1 => frz1 r ρ1 fun d ρ2 => match d with
    | .tup ds => Q (ds.mapIdx fun i d => D.tup [.int (i : Nat), d]) ρ2
    | .lst ds => Q (ds.mapIdx fun i d => D.tup [.int (i : Nat), d]) ρ2
    | .fix ds => Q (ds.mapIdx fun i d => D.tup [.int (i : Nat), d]) ρ2
    | _ => False
  | .own _, _, _ => False
  | .zip a b, ρ, Q => wE a ρ fun r1 ρ1 => wE b ρ1 fun r2 ρ2 => frz [r1, r2] ρ2 fun ds ρ3 => match ds with
    | [.lst xs, .lst ys] => Q (List.zipWith (fun x y => D.tup [x, y]) xs ys) ρ3
    | [.tup xs, .tup ys] => Q (List.zipWith (fun x y => D.tup [x, y]) xs ys) ρ3
    | _ => False
end
mutual
def wS : S → WS
  | .asg i e, ρ, K => wE Γ e ρ fun r ρ1 => toSlot i r ρ1 K.nx
  | .asgT is e, ρ, K => wE Γ e ρ fun r ρ1 => frz1 r ρ1 fun d ρ2 => match d with
    | .tup ds => ds.length = is.length ∧ K.nx (setAll is ds ρ2)
    | .lst ds => ds.length = is.length ∧ K.nx (setAll is ds ρ2)
    | _ => False
  | .par is es, ρ, K => wA Γ es ρ fun rs ρ1 => frz rs ρ1 fun ds ρ2 => ds.length = is.length ∧ K.nx (setAll is ds ρ2)
  | .asgX i x y e, ρ, K => wE Γ e ρ fun r ρ1 => frz1 r ρ1 fun d ρ2 => match d with
    | .tup [d1, d2] => isOwn (gt ρ2 i) = true ∧ wE Γ x ρ2 fun r1 ρ3 => wRd r1 ρ3 fun y1 => putAt i y1 d1 ρ3 fun ρ4 => isOwn (gt ρ4 i) = true ∧ wE Γ y ρ4 fun r2 ρ5 => wRd r2 ρ5 fun y2 => putAt i y2 d2 ρ5 K.nx
    | _ => False
  | .sub i x e, ρ, K => wE Γ e ρ fun r ρ1 => isOwn (gt ρ1 i) = true ∧ wE Γ x ρ1 fun r2 ρ2 => frz1 r ρ2 fun d ρ3 => wRd r2 ρ3 fun y => putAt i y d ρ3 K.nx
  | .aug i o e, ρ, K => ∃ x, gt ρ i = .val x ∧ wE Γ e ρ fun r ρ1 => wRd r ρ1 fun y => augD o x y fun z => K.nx (ρ1.set i (.val z))
  | .augS i x o e, ρ, K => isOwn (gt ρ i) = true ∧ wE Γ x ρ fun r1 ρ1 => wRd r1 ρ1 fun y => itAt i y ρ1 fun d => wE Γ e ρ1 fun r2 ρ2 => wRd r2 ρ2 fun v => augD o d v fun z => putAt i y z ρ2 K.nx
  | .ex e, ρ, K => wE Γ e ρ fun _ ρ1 => K.nx ρ1
  | .ret e, ρ, K => wE Γ e ρ fun r ρ1 => match r with
    | .val d => K.rt (.val d) ρ1
    | .fresh ds => K.rt (.fresh ds) ρ1
    | .slot j => match gt ρ1 j with
      | .own ds => K.rt (.fresh ds) ρ1
      | _ => False
  | .ret0, ρ, K => K.rt (.val .non) ρ
  | .ite c a b, ρ, K => wT Γ c ρ fun z ρ1 => br z (wSs a ρ1 K) (wSs b ρ1 K)
  | .whl c b, ρ, K => ∃ I : Nat → En → Prop, (∃ m, I m ρ) ∧ ∀ m ρ, I m ρ → wT Γ c ρ fun z ρ1 =>
      br z (wSs b ρ1 { nx := fun ρ2 => ∃ m', m' < m ∧ I m' ρ2, ct := fun ρ2 => ∃ m', m' < m ∧ I m' ρ2, bk := K.nx, rt := K.rt }) (K.nx ρ1)
  | .for tg it b, ρ, K => wI Γ it ρ fun its ρ1 => ∃ I : Nat → En → Prop, I 0 ρ1 ∧
      (∀ k d ρ, its[k]? = some d → I k ρ → bind tg d ρ fun ρ2 => wSs b ρ2 { nx := I (k + 1), ct := I (k + 1), bk := K.nx, rt := K.rt }) ∧ ∀ ρ, I its.length ρ → K.nx ρ
  | .pass, ρ, K => K.nx ρ
  | .brk, ρ, K => K.bk ρ
  | .cnt, ρ, K => K.ct ρ
def wSs : Ss → WS
  | .nil, ρ, K => K.nx ρ
  | .cons s ss, ρ, K => wS s ρ { K with nx := fun ρ1 => wSs ss ρ1 K }
end
end
end VL

/-! VL4: steps of the slots' description; operators. -/
namespace VL
open PySem PySem.Spec L2
section
variable {F : Fr} {as as' as1 as2 : As} {σ : L2.St} {H H' H1 H2 : Hp} {ρ ρ' ρ1 ρ2 : En}

theorem SlAt.ext {i : Nat} {x : Option (Option V)} {s : Sl} (e : Ext (fun _ => False) H H') (h : SlAt F H as i x s) : SlAt F H' as i x s := by
  have e' : Ext (F.av as) H H' := e.mono fun _ z => z.elim
  cases s with
  | un => exact h
  | val d =>
    obtain ⟨h1, v, h2, h3⟩ := h
    exact ⟨h1, v, h2, Rep.ext e' h3⟩
  | own ds =>
    obtain ⟨b, xs, h1, h2, h3, h4, h5⟩ := h
    exact ⟨b, xs, h1, h2, h3, e.keep _ _ h4 (fun z => z), Reps.ext e' h5⟩
  | par ds =>
    obtain ⟨b, xs, h1, h2, h3, h4, h5⟩ := h
    exact ⟨b, xs, h1, h2, h3, e.keep _ _ h4 (fun z => z), Reps.ext e' h5⟩
/-- the heap grew -/
theorem ER.grow (E : ER F as σ H ρ) (e : Ext (fun _ => False) H H') : ER F as σ H' ρ :=
  ⟨E.len, E.inj, E.nex, fun i => (E.sl i).ext e, E.old.trans (e.mono fun _ z => z.elim), E.own, fun b z q => E.exo b z (e.free q), E.mok, fun p hp => Rep.ext (e.mono fun _ z => z.elim) (E.kept p hp)⟩
theorem Aft.grow (E : ER F as σ H ρ) (e : Ext (fun _ => False) H H') : Aft F as as σ H H' ρ := ⟨Le.refl _, E.grow e, e.mono fun _ z => z.elim⟩
theorem ER.notav (E : ER F as σ H ρ) {p : Addr} (n : H p = none) : ¬ F.av as p := by
  intro z
  rcases z with z | ⟨i, z⟩ | z
  · exact E.exo p (.inl z) n
  · have q := E.sl i
    cases e : ρ[i]?.getD .un with
    | un => rw [e] at q; have q' : as i = none := q; rw [q'] at z; cases z
    | val d => rw [e] at q; have q' := q.1; rw [q'] at z; cases z
    | own ds => rw [e] at q; obtain ⟨b, xs, h1, _, _, h4, _⟩ := q; rw [h1] at z; cases z; rw [n] at h4; cases h4
    | par ds => rw [e] at q; obtain ⟨b, xs, h1, _, _, h4, _⟩ := q; rw [h1] at z; cases z; rw [n] at h4; cases h4
  · exact E.exo p (.inr z) n
theorem av_with {b c : Addr} (z : (F.with b).av as c) : F.av as c ∨ c = b := of_with z
/-- the slots also avoid an address that is new -/
theorem ER.with_new (E : ER F as σ H ρ) {p : Addr} {o : HO} (n : H p = none) : ER (F.with p) as σ (upd H p o) ρ := by
  have e : Ext (fun _ => False) H (upd H p o) := Ext.new n
  have G := E.grow e
  have key : ∀ b, H b ≠ none → (F.with p).av as b → F.av as b := fun b hb z => by
    rcases av_with z with z | z
    · exact z
    · rw [z] at hb; exact absurd n hb
  have e' : Ext ((F.with p).av as) H (upd H p o) := e.mono fun _ z => z.elim
  refine ⟨E.len, E.inj, fun i b h z => ?_, fun i => ?_, G.old, E.own, fun b z => ?_, E.mok, fun p hp => Rep.ext e' (Rep.wk key (E.kept p hp))⟩
  · rcases z with z | z
    · exact E.nex i b h z
    · subst z
      exact E.notav n (.inr (.inl ⟨i, h⟩))
  · have q := E.sl i
    cases z : ρ[i]?.getD .un with
    | un => rw [z] at q; exact q
    | val d =>
      rw [z] at q
      obtain ⟨h1, v, h2, h3⟩ := q
      exact ⟨h1, v, h2, Rep.ext e' (Rep.wk key h3)⟩
    | own ds =>
      rw [z] at q
      obtain ⟨b, xs, h1, h2, h3, h4, h5⟩ := q
      exact ⟨b, xs, h1, h2, h3, e.keep _ _ h4 (fun z => z), Reps.ext e' (Reps.wk key h5)⟩
    | par ds =>
      rw [z] at q
      obtain ⟨b, xs, h1, h2, h3, h4, h5⟩ := q
      exact ⟨b, xs, h1, h2, h3, e.keep _ _ h4 (fun z => z), Reps.ext e' (Reps.wk key h5)⟩
  · rcases z with (z | z) | z
    · exact G.exo b (.inl z)
    · subst z; rw [upd_same]; exact fun z => nomatch z
    · exact G.exo b (.inr z)
theorem Reps.new (E : ER F as σ H ρ) {p : Addr} {o : HO} (n : H p = none) {ds : List D} {xs : List V} (r : Reps F.K H (F.av as) ds xs) : Reps F.K (upd H p o) ((F.with p).av as) ds xs := by
  have e' : Ext ((F.with p).av as) H (upd H p o) := Ext.new n
  refine Reps.ext e' (Reps.wk (fun b hb z => ?_) r)
  rcases av_with z with z | z
  · exact z
  · rw [z] at hb; exact absurd n hb

/-- what is to come behind an operation -/
def Fin (F : Fr) (as : As) (σ : L2.St) (H : Hp) (ρ : En) (Q : VK) (k : R → Prop) : Prop :=
  ∀ r v H', ER F as σ H' ρ → Ext (fun _ => False) H H' → RP F as σ H H' ρ r v → k r → Q v H'
theorem Fin.val {Q : VK} {k : R → Prop} (f : Fin F as σ H ρ Q k) (E : ER F as σ H ρ) {d : D} {v : V} (r : Rep F.K H (F.av as) d v) (q : k (.val d)) : Q v H :=
  f (.val d) v H E (Ext.refl _ _) r q
theorem Fin.fresh {Q : VK} {k : R → Prop} (f : Fin F as σ H ρ Q k) (E : ER F as σ H ρ) {p : Addr} (n : H p = none) {ds : List D} {xs : List V} (r : Reps F.K H (F.av as) ds xs) (q : k (.fresh ds)) : Q (.ref p) (upd H p (.lst xs)) :=
  f (.fresh ds) _ _ (E.grow (Ext.new n)) (Ext.new n) ⟨p, xs, rfl, n, E.notav n, upd_same, Reps.new E n r, E.with_new n⟩ q
theorem Fin.tup {Q : VK} {k : R → Prop} (f : Fin F as σ H ρ Q k) (E : ER F as σ H ρ) {p : Addr} (n : H p = none) {ds : List D} {xs : List V} (r : Reps F.K H (F.av as) ds xs) (q : k (.val (.tup ds))) : Q (.ref p) (upd H p (.tup xs)) :=
  f (.val (.tup ds)) _ _ (E.grow (Ext.new n)) (Ext.new n) (by
    show Rep _ _ _ (.tup ds) _
    unfold Rep
    exact ⟨p, xs, rfl, .inl (.inl upd_same), Reps.ext (Ext.new n) r⟩) q
theorem rep_int {K : PySem.W.Frag} {av : Addr → Prop} (i : Int) : Rep K H av (.int i) (.int i) := by unfold Rep; rfl
theorem rep_bl {K : PySem.W.Frag} {av : Addr → Prop} (i : Bool) : Rep K H av (.bl i) (.bl i) := by unfold Rep; rfl
theorem rep_non {K : PySem.W.Frag} {av : Addr → Prop} : Rep K H av .non .non := by unfold Rep; rfl
theorem rep_str {K : PySem.W.Frag} {av : Addr → Prop} (i : Str) : Rep K H av (.str i) (.str i) := by unfold Rep; rfl
theorem rep_tup {K : PySem.W.Frag} {av : Addr → Prop} {a : Addr} {xs : List V} {ds : List D} (h : SqT K H a xs) (r : Reps K H av ds xs) : Rep K H av (.tup ds) (.ref a) := by unfold Rep; exact ⟨a, xs, rfl, h, r⟩
end

/-- what holds of the place where a def runs -/
structure Ok (X : Cx) (F : Fr) : Prop where
  K : X.K = F.K
  calm : X.calm = true
  nd : X.N.Nodup
  room : Room 40 X.A
  seer : X.base.NoSeer
  tree : X.prog.given.tree = none
  head : ∃ env l, X.stack = env :: l ∧ env.scope.isGenerator = false ∧ env.scope.isCoroutine = false ∧ env.builtins = builtinsNs ∧ env.globals = mainGlobals
  pass : ∀ env, PassesOwn (model X.prog X.w) X.A env X.xe

section
variable {X : Cx} {F : Fr}
theorem Ok.units (O : Ok X F) : X.A.units + 65 < cLine := by have := O.room.un; omega
/-- // by any divisor but 0 -/
theorem op_fdivA (O : Ok X F) : OpR X (binaryOp .FloorDiv) (rI (fun _ j => j ≠ 0) fun i j => .int (i.fdiv j)) := by
  intro pins s σ H x y v u Q I rx ry h
  obtain ⟨i, j, rfl, rfl, hj, q⟩ := h
  obtain ⟨t, rfl⟩ := rx
  obtain ⟨t', rfl⟩ := ry
  obtain ⟨env, l, e1, e2, e3, e4, e5⟩ := O.head
  have hd := O.room.dp
  refine PyProof.Rows.floordiv_int hj ⟨.int (i.fdiv j), H, I.tok _, ⟨_, rfl⟩, q⟩ (.inr ?_)
  exact PylongRoom.of I.nolimit (by show X.A.depth + 100 < 1000; have : recursionLimit = 1000 := rfl; omega) (SeerAt.of (O.seer.keeps I.bk) O.tree (I.ok.frames.trans (congrArg some e1)) e2 e3 e4 e5)
theorem op_mulA : OpR X (binaryOp .Mult) (rI IntMulOk fun i j => .int (i * j)) := opI fun _ _ _ _ _ _ _ hc q => PyProof.Rows.mul_int q hc
end

def opP : Op → Operator
  | .add => .Add | .sub => .Sub | .mul => .Mult | .fdiv => .FloorDiv | .mod => .Mod | .pow => .Pow | .shl => .LShift | .shr => .RShift
def rStr : R2 := fun x y H Q => ∃ i j, x = .str i ∧ y = .str j ∧ i.length + j.length ≤ sizeLine ∧ Q (.str (i ++ j)) H
def rMulS : R2 := fun x y H Q => ∃ a n, x = .str a ∧ y = .int n ∧ -(2 ^ 63) ≤ n ∧ n ≤ 1 ∧ Q (.str (if n < 1 then Str.empty else a)) H
theorem op_mul_str {X : Cx} : OpR X (binaryOp .Mult) rMulS := by
  intro pins s σ H x y v u Q I rx ry h
  obtain ⟨a, n, rfl, rfl, h1, h2, q⟩ := h
  obtain ⟨t, rfl⟩ := rx
  obtain ⟨t', rfl⟩ := ry
  have no : ¬ n < 1 → ¬ (n == 1 || a.length == 0) = false := fun g => by
    have e : n = 1 := by omega
    subst e
    intro z
    rw [show ((1 : Int) == 1) = true from rfl, Bool.true_or] at z
    cases z
  refine P.mul_str (by rw [decide_eq_false (by omega), decide_eq_false (by omega)]; rfl) (fun g w => absurd w (no g)) (fun g w => absurd w (no g)) ?_
  by_cases hn : n < 1
  · rw [if_pos hn]
    rw [if_pos hn] at q
    exact ⟨by decide, .str Str.empty, H, I.tok _, ⟨_, rfl⟩, q⟩
  · rw [if_neg hn, if_pos (by cases hz : (n == 1 || a.length == 0) with | true => rfl | false => exact absurd hz (no hn))]
    rw [if_neg hn] at q
    exact ⟨.str a, H, I, ⟨_, rfl⟩, q⟩
theorem tuple_mul1 (l : Addr) (items : Array Value) (n : Nat) (dd : Option Addr) (sl : Array (Option Value)) (u : Tok) :
    Meets (Builtin.«tuple.__mul__» ⟨[.ref l, .int 1 u], []⟩) (fun _ R s => s.heap.get? l = some { cls := .type "tuple", dict := dd, data := .seq items n, slots := sl } ∧ R (.ok (.ret (Value.ref l))) s) :=
  .of_wp fun prog w A R s h => by
    obtain ⟨hp, g, d, tk, os⟩ := s
    obtain ⟨hl, h⟩ := h
    have f1 := AutoSeq1.idx_int
    wp_walk using wpAny_loadPart' hl
    repeat (first
      | (refine wpAny_ite_false (decide_eq_false (by decide)) ?_; wp_walk using wpAny_loadPart' hl)
      | (refine wpAny_ite_true (decide_eq_true (by rw [show ((1 : Int) == 1) = true from rfl, Bool.or_true])) ?_; wp_walk using wpAny_loadPart' hl))
    exact ⟨_, rfl, h⟩
def rRepT1 (K : PySem.W.Frag) : R2 := fun x y H Q => ∃ l xs, x = .ref l ∧ y = .int 1 ∧ SqT K H l xs ∧ Q (.ref l) H
theorem op_repT1 {X : Cx} : OpR X (binaryOp .Mult) (rRepT1 X.K) := by
  intro pins s σ H x y v u Q I rx ry h
  obtain ⟨l, xs, rfl, rfl, hT, q⟩ := h
  cases rx
  obtain ⟨t, rfl⟩ := ry
  obtain ⟨its, r, ⟨⟨cls, dd, data, sl⟩, ho, hc, n, hd⟩, hs⟩ := I.tuple hT
  simp only at hc hd
  subst hc hd
  refine wpAny_binaryOp_repeat_ref (T := "tuple") (U := "int") (by decide) ⟨_, ho, rfl⟩ (fun s' => typeIs_int s' 1 t) noFill_tuple_mul F.fills_int_mul F.slot_int_rmul repeat_tuple F.slot_int_index.lookup
    (call_meets F.slot_int_rmul (typeIs_int s 1 t) F.entry_int_rmul (F.args_int_rmul_2 _ _) (int_rmul_tuple 1 t l its.toArray n dd sl)
      ⟨ho, rfl, ⟨_, ho, rfl⟩, call_meets F.slot_tuple_mul ⟨_, ho, rfl⟩ F.entry_tuple_mul (F.args_tuple_mul_2 _ _) (tuple_mul1 l its.toArray n dd sl t) ⟨ho, ?_⟩⟩)
  exact ⟨.ref l, H, I, rfl, q⟩
def rOp (K : PySem.W.Frag) (o : Op) : R2 := match o with
  | .add => fun x y H Q => (rI0 (fun i j => .int (i + j))) x y H Q ∨ (rStr x y H Q ∨ (rCat x y H Q ∨ rCatA K x y H Q))
  | .sub => rI0 fun i j => .int (i - j)
  | .mul => fun x y H Q => (rI IntMulOk fun i j => .int (i * j)) x y H Q ∨ (rRep x y H Q ∨ (rMulS x y H Q ∨ (rRepT K x y H Q ∨ rRepT1 K x y H Q)))
  | .fdiv => rI (fun _ j => j ≠ 0) fun i j => .int (i.fdiv j)
  | .mod => rI (fun _ j => j ≠ 0) fun i j => .int (i.fmod j)
  | .pow => rI CPow fun i j => .int (i ^ j.toNat)
  | .shl => rI CShl fun i j => .int (i * 2 ^ j.toNat)
  | .shr => rI (fun _ j => 0 ≤ j) fun i j => .int (i / 2 ^ j.toNat)
theorem op_ok {X : Cx} {F : Fr} (O : Ok X F) (o : Op) : OpR X (binaryOp (opP o)) (rOp F.K o) := by
  have hA : OpR X (binaryOp .Add) (rCatA F.K) := O.K ▸ op_catA
  have hT : OpR X (binaryOp .Mult) (rRepT F.K) := O.K ▸ op_repT
  have hT1 : OpR X (binaryOp .Mult) (rRepT1 F.K) := O.K ▸ op_repT1
  cases o with
  | add => exact op_add.or (op_add_str.or (op_cat.or hA))
  | sub => exact op_sub
  | mul => exact op_mulA.or (op_rep.or (op_mul_str.or (hT.or hT1)))
  | fdiv => exact op_fdivA O
  | mod => exact op_modN
  | pow => exact op_pow
  | shl => exact op_shlW
  | shr => exact op_shr
section
variable {F : Fr} {as : As} {σ : L2.St} {H : Hp} {ρ : En} {x y : D} {v u : V} {Q : VK} {k : R → Prop}
theorem sm_line {n : Nat} (h : Sm n) : n ≤ sizeLine := by rw [sizeLine_eq]; exact h
theorem op2_sound (o : Op) (E : ER F as σ H ρ) (gx : Got F as H x v) (gy : Got F as H y u) (q : op2 o x y k) (f : Fin F as σ H ρ Q k) : rOp F.K o v u H Q := by
  unfold op2 at q
  split at q
  · rw [gx.int, gy.int]; exact .inl ⟨_, _, rfl, rfl, f.val E (rep_int _) q⟩
  · rw [gx.int, gy.int]; exact ⟨_, _, rfl, rfl, f.val E (rep_int _) q⟩
  · rw [gx.int, gy.int]; exact .inl ⟨_, _, rfl, rfl, q.1, f.val E (rep_int _) q.2⟩
  · rw [gx.int, gy.int]; exact ⟨_, _, rfl, rfl, q.1, f.val E (rep_int _) q.2⟩
  · rw [gx.int, gy.int]; exact ⟨_, _, rfl, rfl, q.1, f.val E (rep_int _) q.2⟩
  · rw [gx.int, gy.int]; exact ⟨_, _, rfl, rfl, q.1, f.val E (rep_int _) q.2⟩
  · rw [gx.int, gy.int]; exact ⟨_, _, rfl, rfl, q.1, f.val E (rep_int _) q.2⟩
  · rw [gx.int, gy.int]; exact ⟨_, _, rfl, rfl, q.1, f.val E (rep_int _) q.2⟩
  · rw [gx.str, gy.str]; exact .inr (.inl ⟨_, _, rfl, rfl, sm_line q.1, f.val E (rep_str _) q.2⟩)
  · obtain ⟨a, xs, rfl, ha, ra⟩ := gx.lst
    obtain ⟨b, ys, rfl, hb, rb⟩ := gy.lst
    refine .inr (.inr (.inl ⟨a, b, xs, ys, rfl, rfl, ha, hb, ?_, fun p n => f.fresh E n (ra.append rb) q.2⟩))
    rw [ra.length, rb.length]; exact sm_line q.1
  · obtain ⟨a, xs, rfl, ha, ra⟩ := gx.lst
    rw [gy.int]
    refine .inr (.inl ⟨a, _, xs, rfl, rfl, ha, q.2.1, q.2.2.1, ?_, fun p n => ?_⟩)
    · rw [ra.length]; exact sm_line q.1
    · exact f.fresh E n (ra.rep _) q.2.2.2
  · obtain ⟨a, xs, rfl, ha, ra⟩ := gx.tup
    obtain ⟨b, ys, rfl, hb, rb⟩ := gy.tup
    refine .inr (.inr (.inr ⟨a, b, xs, ys, rfl, rfl, ha, hb, ?_, fun e => ?_, fun _ e => ?_, fun _ _ p n => f.tup E n (ra.append rb) q.2⟩))
    · rw [ra.length, rb.length]; exact sm_line q.1
    · subst e
      refine f.val E (rep_tup hb (?_ : Reps _ _ _ _ ys)) q.2
      have := ra.append rb
      rwa [List.nil_append] at this
    · subst e
      refine f.val E (rep_tup ha (?_ : Reps _ _ _ _ xs)) q.2
      have := ra.append rb
      rwa [List.append_nil] at this
  · obtain ⟨a, xs, rfl, ha, ra⟩ := gx.tup
    rw [gy.int]
    obtain ⟨q0, q1, q2, q3, q⟩ := q
    rename_i ds n
    refine .inr (.inr (.inr ?_))
    by_cases h1 : n = 1
    · subst h1
      refine .inr ⟨a, xs, rfl, rfl, ha, f.val E (rep_tup ha (?_ : Reps _ _ _ _ xs)) q⟩
      rw [show (List.replicate (1 : Int).toNat ds).flatten = ds by simp]
      exact ra
    · refine .inl ⟨a, n, xs, rfl, rfl, ha, fun e => ?_, by omega, q2, by rw [ra.length]; exact q3, fun p hp => f.tup E hp (ra.rep _) q⟩
      have := ra.length
      rw [e] at this
      exact q0 (List.eq_nil_of_length_eq_zero this.symm)
  · rw [gx.str, gy.int]
    exact .inr (.inr (.inl ⟨_, _, rfl, rfl, q.1, q.2.1, f.val E (rep_str _) q.2.2⟩))
  · exact q.elim
end

/-! ### comparisons -/
mutual
theorem Rep.dp {K : PySem.W.Frag} {H : Hp} {av : Addr → Prop} : ∀ {d : D} {v : V}, Rep K H av d v → Dp K H v (toP d)
  | .non, v, h => by unfold Rep at h; subst h; exact Dp.non
  | .bl b, v, h => by unfold Rep at h; subst h; exact Dp.bl b
  | .int i, v, h => by unfold Rep at h; subst h; exact Dp.int i
  | .str i, v, h => by unfold Rep at h; subst h; exact Dp.str i
  | .tup ds, v, h => by
    unfold Rep at h
    obtain ⟨a, xs, rfl, h1, h2⟩ := h
    unfold toP
    exact Dp.tup h1 (Reps.dp h2)
  | .lst ds, v, h => by
    unfold Rep at h
    obtain ⟨a, xs, rfl, h1, _, h2⟩ := h
    unfold toP
    exact Dp.lst (.inl (.inl h1)) (Reps.dp h2)
  | .fix ds, v, h => by
    unfold Rep at h
    obtain ⟨a, xs, rfl, h1, h2⟩ := h
    unfold toP
    exact Dp.lst h1.seq (Reps.dp h2)
theorem Reps.dp {K : PySem.W.Frag} {H : Hp} {av : Addr → Prop} : ∀ {ds : List D} {vs : List V}, Reps K H av ds vs → DpAll K H vs (toPs ds)
  | [], vs, h => by unfold Reps at h; subst h; exact DpAll.nil
  | d :: ds, vs, h => by
    unfold Reps at h
    obtain ⟨v, r, rfl, h1, h2⟩ := h
    unfold toPs
    exact DpAll.cons (Rep.dp h1) (Reps.dp h2)
end
theorem Got.dp {F : Fr} {as : As} {H : Hp} {d : D} {v : V} (g : Got F as H d v) : Dp F.K H v (toP d) := Rep.dp g.rep
def cmP : Cm → CmpOp
  | .eq => .Eq | .ne => .NotEq | .lt => .Lt | .le => .LtE | .gt => .Gt | .ge => .GtE | .isN => .Is | .notN => .IsNot | .isin => .In | .notin => .NotIn
def rInT (K : PySem.W.Frag) : R2 := fun x y H Q => ∃ d ds, Dp K H x d ∧ Dp K H y (.tuple ds) ∧ SeqAt.shaped d = true ∧ SeqAt.shaped (.tuple ds) = true ∧ Q (.bl (ds.any fun z => PyData.eqv z d)) H
def rCm (K : PySem.W.Frag) (c : Cm) : R2 := match c with
  | .lt => rI0 fun i j => .bl (decide (i < j))
  | .le => rI0 fun i j => .bl (decide (i ≤ j))
  | .gt => rI0 fun i j => .bl (decide (j < i))
  | .ge => rI0 fun i j => .bl (decide (j ≤ i))
  | .eq => fun x y H Q => rEq x y H Q ∨ rEqD K x y H Q
  | .ne => fun x y H Q => rNe x y H Q ∨ rNeD K x y H Q
  | .isN => fun x y H Q => y = .non ∧ Q (.bl (decide (x = .non))) H
  | .notN => fun x y H Q => y = .non ∧ Q (.bl (!decide (x = .non))) H
  | .isin => rInD K
  | .notin => rNotInD K
theorem cm_ok {X : Cx} {F : Fr} (O : Ok X F) (c : Cm) : OpR X (compareOp (cmP c)) (rCm F.K c) := by
  have hu := O.units
  have h1 : OpR X (compareOp .Eq) (rEqD F.K) := O.K ▸ op_eqD (by omega)
  have h2 : OpR X (compareOp .NotEq) (rNeD F.K) := O.K ▸ op_neD (by omega)
  have h3 : OpR X (compareOp .In) (rInD F.K) := O.K ▸ op_inD (by omega)
  have h4 : OpR X (compareOp .NotIn) (rNotInD F.K) := O.K ▸ op_notInD (by omega)
  cases c with
  | eq => exact op_eq.or h1
  | ne => exact op_ne.or h2
  | lt => exact op_lt
  | le => exact op_le
  | gt => exact op_gt
  | ge => exact op_ge
  | isN => exact op_isN
  | notN => exact op_notN
  | isin => exact h3
  | notin => exact h4
end VL

/-! VL5: the rules of expressions over data. -/
namespace VL
open PySem PySem.Spec L2
section
variable {F : Fr} {as : As} {σ : L2.St} {H : Hp} {ρ : En} {x y : D} {v u : V} {Q : VK}
theorem toPs_any (ds : List D) (z : D) : (toPs ds).any (fun p => PyData.eqv p (toP z)) = ds.any fun y => deq y z := by
  induction ds with
  | nil => rfl
  | cons d ds ih => unfold toPs; rw [List.any_cons, List.any_cons, ih]; rfl
theorem eq_sound {k : Bool → Prop} {K : PySem.W.Frag} (hK : K = F.K) (gx : Got F as H x v) (gy : Got F as H y u) (q : deqC x y k) (f : ∀ b, k b → Q (.bl b) H) : rEq v u H Q ∨ rEqD K v u H Q := by
  unfold deqC at q
  split at q
  · rw [gx.int, gy.int]; exact .inl ⟨rfl, f _ (by rw [show decide (V.int _ = V.int _) = _ from dec_int, Bool.beq_eq_decide_eq]; exact q)⟩
  · rw [gx.bl, gy.bl]; exact .inl ⟨rfl, f _ (by rw [dec_bl]; exact q)⟩
  · rw [gx.str, gy.str]; exact .inl ⟨rfl, f _ (by rw [dec_str, Bool.beq_eq_decide_eq]; exact q)⟩
  · rw [gx.non, gy.non]; exact .inl ⟨rfl, f _ (by rw [decide_eq_true rfl]; exact q)⟩
  · rw [gx.non, gy.int]; exact .inl ⟨rfl, f _ (by rw [decide_eq_false (fun z => nomatch z)]; exact q)⟩
  · rw [gx.int, gy.non]; exact .inl ⟨rfl, f _ (by rw [decide_eq_false (fun z => nomatch z)]; exact q)⟩
  · rw [gx.non, gy.str]; exact .inl ⟨rfl, f _ (by rw [decide_eq_false (fun z => nomatch z)]; exact q)⟩
  · rw [gx.str, gy.non]; exact .inl ⟨rfl, f _ (by rw [decide_eq_false (fun z => nomatch z)]; exact q)⟩
  · exact .inr (hK ▸ ⟨toP x, toP y, gx.dp, gy.dp, q.1, q.2.1, f _ q.2.2⟩)
theorem ne_sound {k : Bool → Prop} {K : PySem.W.Frag} (hK : K = F.K) (gx : Got F as H x v) (gy : Got F as H y u) (q : deqC x y fun b => k (!b)) (f : ∀ b, k b → Q (.bl b) H) : rNe v u H Q ∨ rNeD K v u H Q := by
  rcases eq_sound (K := K) (Q := fun z H' => ∀ b, z = .bl b → Q (.bl (!b)) H') hK gx gy q (fun b hb c e => by cases e; exact f _ hb) with ⟨h1, h2⟩ | ⟨d, e, h1, h2, h3, h4, h5⟩
  · exact .inl ⟨h1, h2 _ rfl⟩
  · exact .inr ⟨d, e, h1, h2, h3, h4, h5 _ rfl⟩
theorem in_sound {k : Bool → Prop} {ys : List D} (hy : Dp F.K H u (.list (toPs ys))) (gx : Got F as H x v) (q : inC x ys k) (f : ∀ b, k b → Q (.bl b) H) : rInD F.K v u H Q :=
  ⟨toP x, toPs ys, gx.dp, hy, q.1, q.2.1, f _ (by rw [toPs_any]; exact q.2.2)⟩
theorem notin_sound {k : Bool → Prop} {ys : List D} (hy : Dp F.K H u (.list (toPs ys))) (gx : Got F as H x v) (q : inC x ys fun b => k (!b)) (f : ∀ b, k b → Q (.bl b) H) : rNotInD F.K v u H Q :=
  ⟨toP x, toPs ys, gx.dp, hy, q.1, q.2.1, f _ (by rw [toPs_any]; exact q.2.2)⟩
theorem non_iff (g : Got F as H x v) : decide (v = V.non) = isNon x := by
  have r := g.rep
  clear g
  cases x with
  | non => unfold Rep at r; rw [r]; rfl
  | bl b => unfold Rep at r; rw [r]; rfl
  | int b => unfold Rep at r; rw [r]; rfl
  | str b => unfold Rep at r; rw [r]; rfl
  | tup b => unfold Rep at r; obtain ⟨a, xs, rfl, _⟩ := r; rfl
  | lst b => unfold Rep at r; obtain ⟨a, xs, rfl, _⟩ := r; rfl
  | fix b => unfold Rep at r; obtain ⟨a, xs, rfl, _⟩ := r; rfl
theorem cmp2_sound (c : Cm) {k : Bool → Prop} (gx : Got F as H x v) (gy : Got F as H y u) (q : cmp2 c x y k) (f : ∀ b, k b → Q (.bl b) H) : rCm F.K c v u H Q := by
  unfold cmp2 at q
  split at q
  · rw [gx.int, gy.int]; exact ⟨_, _, rfl, rfl, f _ q⟩
  · rw [gx.int, gy.int]; exact ⟨_, _, rfl, rfl, f _ q⟩
  · rw [gx.int, gy.int]; exact ⟨_, _, rfl, rfl, f _ q⟩
  · rw [gx.int, gy.int]; exact ⟨_, _, rfl, rfl, f _ q⟩
  · exact eq_sound rfl gx gy q f
  · exact ne_sound rfl gx gy q f
  · refine ⟨gy.non, f _ ?_⟩
    rw [non_iff gx]
    exact q
  · refine ⟨gy.non, f _ ?_⟩
    rw [non_iff gx]
    exact q
  · exact in_sound (by have := gy.dp; unfold toP at this; exact this) gx q f
  · exact in_sound (by have := gy.dp; unfold toP at this; exact this) gx q f
  · exact notin_sound (by have := gy.dp; unfold toP at this; exact this) gx q f
  · exact notin_sound (by have := gy.dp; unfold toP at this; exact this) gx q f
  · exact q.elim
end

/-! ### reading results -/
theorem wRd_some {r : R} {ρ : En} {k : D → Prop} (h : wRd r ρ k) : ∃ d, rd r ρ = some d ∧ k d := by
  cases r with
  | val d => exact ⟨d, rfl, h⟩
  | fresh ds => exact ⟨_, rfl, h⟩
  | slot i =>
    unfold wRd gt at h
    unfold rd
    cases e : ρ[i]?.getD .un with
    | un => simp only [e] at h
    | val d => simp only [e] at h
    | own ds => simp only [e] at h ⊢; exact ⟨_, rfl, h⟩
    | par ds => simp only [e] at h ⊢; exact ⟨_, rfl, h⟩
section
variable {X : Cx} {F : Fr} {as as' as1 as2 : As} {σ : L2.St} {H H' H1 H2 : Hp} {ρ ρ' ρ1 ρ2 : En} {e a b : Expr} {wa wb : WE} {pos : Pos}
theorem RP.back {r : R} {v : V} (h : RP F as σ H1 H' ρ r v) {av : Addr → Prop} (e : Ext av H H1) : RP F as σ H H' ρ r v := by
  cases r with
  | val d => exact h
  | slot i => exact h
  | fresh ds =>
    obtain ⟨b, xs, h1, h2, h3⟩ := h
    exact ⟨b, xs, h1, e.free h2, h3⟩
/-- behind an operation of values: the whole expression is done -/
theorem fin_of {Q : VK} {Q' : R → En → Prop} (A : Aft F as as' σ H H1 ρ1) (c : ∀ as' r ρ' v H', Aft F as as' σ H H' ρ' → RP F as' σ H H' ρ' r v → Q' r ρ' → Q v H') : Fin F as' σ H1 ρ1 Q fun r => Q' r ρ1 :=
  fun r v H' E X' P q => c as' r ρ1 v H' (A.trans ⟨Le.refl _, E, X'.mono fun _ z => z.elim⟩) (P.back A.ext) q
/-- one operand -/
theorem lE1 {Q : VK} {wa : WE} {k : D → En → Prop} (E : ER F as σ H ρ) (w : wa ρ fun r ρ1 => wRd r ρ1 fun x => k x ρ1)
    (h : ∀ as1 ρ1 H1 x v, Aft F as as1 σ H H1 ρ1 → Got F as1 H1 x v → k x ρ1 → Q v H1) : lE F wa σ H Q := by
  refine ⟨as, ρ, _, E, w, fun as1 r ρ1 v H1 A P q => ?_⟩
  obtain ⟨x, e1, q⟩ := wRd_some q
  exact h as1 ρ1 H1 x v A (got_of A.er (Le.refl _) P.wait (Ext.refl _ _) e1) q
/-- two operands -/
theorem lE2 {R2 : V → V → Hp → Prop} {wa wb : WE} {k : D → D → En → Prop} (E : ER F as σ H ρ) (w : wa ρ fun r1 ρ1 => wb ρ1 fun r2 ρ2 => wRd r1 ρ2 fun x => wRd r2 ρ2 fun y => k x y ρ2)
    (h : ∀ as2 ρ2 H2 x y v u, Aft F as as2 σ H H2 ρ2 → Got F as2 H2 x v → Got F as2 H2 y u → k x y ρ2 → R2 v u H2) : lE F wa σ H fun v H1 => lE F wb σ H1 fun u H2 => R2 v u H2 := by
  refine ⟨as, ρ, _, E, w, fun as1 r1 ρ1 v H1 A1 P1 q1 => ⟨as1, ρ1, _, A1.er, q1, fun as2 r2 ρ2 u H2 A2 P2 q2 => ?_⟩⟩
  obtain ⟨x, e1, q2⟩ := wRd_some q2
  obtain ⟨y, e2, q2⟩ := wRd_some q2
  exact h as2 ρ2 H2 x y v u (A1.trans A2) (got_of A2.er A2.le P1.wait A2.ext e1) (got_of A2.er (Le.refl _) P2.wait (Ext.refl _ _) e2) q2
theorem ve_bin (O : Ok X F) (o : Op) (ha : VE X F a wa) (hb : VE X F b wb) :
    VE X F (.BinOp a (opP o) b pos) fun ρ Q => wa ρ fun r1 ρ1 => wb ρ1 fun r2 ρ2 => wRd r1 ρ2 fun x => wRd r2 ρ2 fun y => op2 o x y fun r => Q r ρ2 := by
  refine pe_mono (pe_op (op_ok O o) ha hb) fun σ H Q ⟨as, ρ, Q', E, w, c⟩ => ?_
  exact lE2 E w fun as2 ρ2 H2 x y v u A gx gy q => op2_sound o A.er gx gy q (fin_of A c)
theorem ve_var (O : Ok X F) {i : Nat} {x : Str} (hN : X.N[i]? = some x) (hv : Vis X.env.scope x) (hd : (x == ("__debug__" : Str)) = false) (hcd : (x == ("__classdict__" : Str)) = false) :
    VE X F (.Name x pos) fun ρ Q => match gt ρ i with
    | .val d => Q (.val d) ρ
    | .own _ => Q (.slot i) ρ
    | .par _ => Q (.slot i) ρ
    | .un => False := by
  refine pe_mono (pe_var hN hv hd hcd) fun σ H Q ⟨as, ρ, Q', E, w, c⟩ => ?_
  have q := E.sl i
  have w' : (match gt ρ i with | .val d => Q' (.val d) ρ | .own _ => Q' (.slot i) ρ | .par _ => Q' (.slot i) ρ | .un => False) := w
  unfold gt at w'
  cases e : ρ[i]?.getD .un with
  | un => simp only [e] at w'
  | val d =>
    simp only [e] at w'
    rw [e] at q
    obtain ⟨_, v, h1, h2⟩ := q
    exact ⟨v, h1, c as (.val d) ρ v H (Aft.refl E) h2 w'⟩
  | own ds =>
    simp only [e] at w'
    rw [e] at q
    obtain ⟨b, xs, h1, _, h3, _⟩ := q
    exact ⟨.ref b, h3, c as (.slot i) ρ _ H (Aft.refl E) ⟨b, h1, rfl⟩ w'⟩
  | par ds =>
    simp only [e] at w'
    rw [e] at q
    obtain ⟨b, xs, h1, _, h3, _⟩ := q
    exact ⟨.ref b, h3, c as (.slot i) ρ _ H (Aft.refl E) ⟨b, h1, rfl⟩ w'⟩
theorem ve_c {d : D} {v : V} (h : PE X e (tC v)) (r : ∀ H av, Rep F.K H av d v) : VE X F e fun ρ Q => Q (.val d) ρ := by
  refine pe_mono h fun σ H Q ⟨as, ρ, Q', E, w, c⟩ => ?_
  exact c as (.val d) ρ v H (Aft.refl E) (r H _) w
theorem ve_neg (ha : VE X F a wa) : VE X F (.UnaryOp .USub a pos) fun ρ Q => wa ρ fun r1 ρ1 => wRd r1 ρ1 fun x => match x with | .int i => Q (.val (.int (-i))) ρ1 | _ => False := by
  refine pe_mono (pe_un un_neg ha) fun σ H Q ⟨as, ρ, Q', E, w, c⟩ => ?_
  refine lE1 E w fun as1 ρ1 H1 x v A g q => ?_
  cases x <;> first | exact q.elim | skip
  rw [g.int]
  exact ⟨_, rfl, (fin_of A c).val A.er (rep_int _) q⟩
theorem ve_cmp (O : Ok X F) (c : Cm) (ha : VE X F a wa) (hb : VE X F b wb) (hm : behindInMarks (cmP c) b = false) :
    VE X F (.Compare a [cmP c] [b] pos) fun ρ Q => wa ρ fun r1 ρ1 => wb ρ1 fun r2 ρ2 => wRd r1 ρ2 fun x => wRd r2 ρ2 fun y => cmp2 c x y fun z => Q (.val (.bl z)) ρ2 := by
  refine pe_mono (pe_cmpR (cm_ok O c) ha hb hm) fun σ H Q ⟨as, ρ, Q', E, w, c'⟩ => ?_
  exact lE2 E w fun as2 ρ2 H2 x y v u A gx gy q => cmp2_sound c gx gy q fun z hz => (fin_of A c').val A.er (rep_bl z) hz
theorem vt_cmp (O : Ok X F) (c : Cm) (ha : VE X F a wa) (hb : VE X F b wb) (hm : behindInMarks (cmP c) b = false) :
    VT X F (.Compare a [cmP c] [b] pos) fun ρ Q => wa ρ fun r1 ρ1 => wb ρ1 fun r2 ρ2 => wRd r1 ρ2 fun x => wRd r2 ρ2 fun y => cmp2 c x y fun z => Q z ρ2 := by
  refine pt_mono (pt_cmpR (cm_ok O c) ha hb hm) fun σ H Q ⟨as, ρ, Q', E, w, c'⟩ => ?_
  exact lE2 E w fun as2 ρ2 H2 x y v u A gx gy q => cmp2_sound c gx gy q fun z hz => ⟨z, rfl, c' as2 z ρ2 H2 A hz⟩
theorem br_if {c : Bool} {A B A' B' : Prop} (h : br c A B) (ha : A → A') (hb : B → B') : if c = true then A' else B' := by
  cases c with
  | true => exact iteT (ha (h.1 rfl))
  | false => exact iteF (hb (h.2 rfl))
theorem ve_ite {c : Expr} {wc : WT} (hc : VT X F c wc) (ha : VE X F a wa) (hb : VE X F b wb) : VE X F (.IfExp c a b pos) fun ρ Q => wc ρ fun z ρ1 => br z (wa ρ1 Q) (wb ρ1 Q) := by
  refine pe_mono (pe_ifExp hc ha hb) fun σ H Q ⟨as, ρ, Q', E, w, c'⟩ => ?_
  refine ⟨as, ρ, _, E, w, fun as1 z ρ1 H1 A q => br_if q (fun q => ?_) fun q => ?_⟩
  · exact ⟨as1, ρ1, _, A.er, q, fun as2 r ρ2 v H2 A2 P q => c' as2 r ρ2 v H2 (A.trans A2) (P.back A.ext) q⟩
  · exact ⟨as1, ρ1, _, A.er, q, fun as2 r ρ2 v H2 A2 P q => c' as2 r ρ2 v H2 (A.trans A2) (P.back A.ext) q⟩
theorem ve_and {rest : List Expr} (ha : VE X F a wa) (hb : VE X F (.BoolOp .And (b :: rest) pos) wb) :
    VE X F (.BoolOp .And (a :: b :: rest) pos) fun ρ Q => wa ρ fun r1 ρ1 => wRd r1 ρ1 fun x => match x with | .bl c => br c (wb ρ1 Q) (Q (.val (.bl false)) ρ1) | _ => False := by
  refine pe_mono (pe_and ha hb) fun σ H Q ⟨as, ρ, Q', E, w, c'⟩ => ?_
  refine lE1 E w fun as1 ρ1 H1 x v A g q => ?_
  cases x <;> first | exact q.elim | skip
  rw [g.bl]
  refine ⟨_, rfl, br_if q (fun q => ?_) fun q => (fin_of A c').val A.er (rep_bl _) q⟩
  exact ⟨as1, ρ1, _, A.er, q, fun as2 r ρ2 v H2 A2 P q => c' as2 r ρ2 v H2 (A.trans A2) (P.back A.ext) q⟩
theorem ve_or {rest : List Expr} (ha : VE X F a wa) (hb : VE X F (.BoolOp .Or (b :: rest) pos) wb) :
    VE X F (.BoolOp .Or (a :: b :: rest) pos) fun ρ Q => wa ρ fun r1 ρ1 => wRd r1 ρ1 fun x => match x with | .bl c => br c (Q (.val (.bl true)) ρ1) (wb ρ1 Q) | _ => False := by
  refine pe_mono (pe_or ha hb) fun σ H Q ⟨as, ρ, Q', E, w, c'⟩ => ?_
  refine lE1 E w fun as1 ρ1 H1 x v A g q => ?_
  cases x <;> first | exact q.elim | skip
  rw [g.bl]
  refine ⟨_, rfl, br_if q (fun q => (fin_of A c').val A.er (rep_bl _) q) fun q => ?_⟩
  exact ⟨as1, ρ1, _, A.er, q, fun as2 r ρ2 v H2 A2 P q => c' as2 r ρ2 v H2 (A.trans A2) (P.back A.ext) q⟩
theorem ve_not (ha : VE X F a wa) : VE X F (.UnaryOp .Not a pos) fun ρ Q => wa ρ fun r1 ρ1 => wRd r1 ρ1 fun x => match x with | .bl c => Q (.val (.bl (!c))) ρ1 | _ => False := by
  refine pe_mono (pe_not ha) fun σ H Q ⟨as, ρ, Q', E, w, c'⟩ => ?_
  refine lE1 E w fun as1 ρ1 H1 x v A g q => ?_
  cases x <;> first | exact q.elim | skip
  rw [g.bl]
  exact ⟨_, rfl, (fin_of A c').val A.er (rep_bl _) q⟩
variable {wc wd : WT}
theorem vw_and1 (ha : VT X F a wc) : PW X (.BoolOp .And [a] pos) (lT F wc) := pw_and1 ha
theorem vw_or1 (ha : VT X F a wc) : PW X (.BoolOp .Or [a] pos) (lT F wc) := pw_or1 ha
theorem pw_mono {t t' : TT} (h : PW X e t) (m : ∀ σ H Q, t' σ H Q → t σ H Q) : PW X e t' := ⟨fun wh pins s σ H Q I q => h.run wh pins s σ H Q I (m σ H Q q)⟩
theorem vw_and {rest : List Expr} (ha : VT X F a wc) (hb : PW X (.BoolOp .And (b :: rest) pos) (lT F wd)) : PW X (.BoolOp .And (a :: b :: rest) pos) (lT F fun ρ Q => wc ρ fun c ρ1 => br c (wd ρ1 Q) (Q false ρ1)) := by
  refine pw_mono (pw_and ha hb) fun σ H Q ⟨as, ρ, Q', E, w, c'⟩ => ?_
  refine ⟨as, ρ, _, E, w, fun as1 z ρ1 H1 A q => br_if q (fun q => ?_) fun q => c' as1 false ρ1 H1 A q⟩
  exact ⟨as1, ρ1, _, A.er, q, fun as2 r ρ2 H2 A2 q => c' as2 r ρ2 H2 (A.trans A2) q⟩
theorem vw_or {rest : List Expr} (ha : VT X F a wc) (hb : PW X (.BoolOp .Or (b :: rest) pos) (lT F wd)) : PW X (.BoolOp .Or (a :: b :: rest) pos) (lT F fun ρ Q => wc ρ fun c ρ1 => br c (Q true ρ1) (wd ρ1 Q)) := by
  refine pw_mono (pw_or ha hb) fun σ H Q ⟨as, ρ, Q', E, w, c'⟩ => ?_
  refine ⟨as, ρ, _, E, w, fun as1 z ρ1 H1 A q => br_if q (fun q => c' as1 true ρ1 H1 A q) fun q => ?_⟩
  exact ⟨as1, ρ1, _, A.er, q, fun as2 r ρ2 H2 A2 q => c' as2 r ρ2 H2 (A.trans A2) q⟩
theorem vt_not (ha : VT X F a wc) : VT X F (.UnaryOp .Not a pos) fun ρ Q => wc ρ fun c ρ1 => Q (!c) ρ1 := by
  refine pt_mono (pt_not ha) fun σ H Q ⟨as, ρ, Q', E, w, c'⟩ => ?_
  exact ⟨as, ρ, _, E, w, fun as1 z ρ1 H1 A q => c' as1 _ ρ1 H1 A q⟩
theorem tru_sound {x : D} {v : V} {k : Bool → Prop} (g : Got F as H x v) (q : tru x k) : ∃ c, TruV F.K v H c ∧ k c := by
  cases x with
  | non => rw [g.non]; exact ⟨false, rfl, q⟩
  | bl b => rw [g.bl]; exact ⟨b, rfl, q⟩
  | int b => rw [g.int]; exact ⟨_, rfl, q⟩
  | str b => rw [g.str]; exact ⟨_, ⟨sm_line q.1, rfl⟩, q.2⟩
  | tup ds =>
    obtain ⟨b, xs, rfl, h1, h2⟩ := g.tup
    refine ⟨_, .inr (.inl ⟨xs, h1, rfl⟩), ?_⟩
    have := h2.length
    cases ds <;> cases xs <;> simp_all [tru]
  | lst ds =>
    obtain ⟨b, xs, rfl, h1, h2⟩ := g.lst
    refine ⟨_, .inl ⟨xs, .inl (.inl h1), rfl⟩, ?_⟩
    have := h2.length
    cases ds <;> cases xs <;> simp_all [tru]
  | fix ds =>
    obtain ⟨b, xs, rfl, h1, h2⟩ := g.fix
    refine ⟨_, .inl ⟨xs, h1, rfl⟩, ?_⟩
    have := h2.length
    cases ds <;> cases xs <;> simp_all [tru]
theorem vt_truth (O : Ok X F) (ha : VE X F a wa) (he : ∀ whole, isTrue a X.env whole = (do let v ← whole; standAt a.pos; holding [v] (truthy v))) : VT X F a fun ρ Q => wa ρ fun r1 ρ1 => wRd r1 ρ1 fun x => tru x fun c => Q c ρ1 := by
  refine pt_mono (pt_truth ha he) fun σ H Q ⟨as, ρ, Q', E, w, c'⟩ => ?_
  refine lE1 E w fun as1 ρ1 H1 x v A g q => ?_
  obtain ⟨c, h1, h2⟩ := tru_sound g q
  exact ⟨c, O.K ▸ h1, c' as1 c ρ1 H1 A h2⟩
end
end VL

/-! VL6: arguments, displays, builtins, subscripts, methods of lists. -/
namespace VL
open PySem PySem.Spec L2
section
variable {X : Cx} {F : Fr} {as as' as1 as2 : As} {σ : L2.St} {H H' H1 H2 : Hp} {ρ ρ' ρ1 ρ2 : En} {e a b : Expr} {es : List Expr} {wa wb : WE} {wl : WA} {pos : Pos}

/-- a list of a slot, written no more -/
def cutAs (as : As) (i : Nat) : As := fun j => if j = i then none else as j
theorem cut_le (as : As) (i : Nat) : Le (cutAs as i) as := fun j b h => by
  unfold cutAs at h
  split at h
  · cases h
  · exact h
theorem cut_self (as : As) (i : Nat) : cutAs as i i = none := by unfold cutAs; rw [if_pos rfl]
theorem cut_ne (as : As) {i j : Nat} (h : j ≠ i) : cutAs as i j = as j := by unfold cutAs; rw [if_neg h]
theorem gt_set (ρ : En) {i : Nat} {s : Sl} (h : i < ρ.length) : gt (ρ.set i s) i = s := by unfold gt; rw [List.getElem?_set_self h]; rfl
theorem gt_ne (ρ : En) {i j : Nat} {s : Sl} (h : j ≠ i) : gt (ρ.set i s) j = gt ρ j := by unfold gt; rw [List.getElem?_set_ne (Ne.symm h)]
theorem gt_lt {ρ : En} {i : Nat} {s : Sl} (h : gt ρ i = s) (n : s ≠ .un) : i < ρ.length := by
  unfold gt at h
  by_cases q : i < ρ.length
  · exact q
  · rw [List.getElem?_eq_none (by omega)] at h
    exact absurd h.symm n
theorem SlAt.le {i : Nat} {x : Option (Option V)} {s : Sl} (l : Le as' as) (e : as' i = as i) (h : SlAt F H as i x s) : SlAt F H as' i x s := by
  cases s with
  | un => exact e.trans h
  | val d =>
    obtain ⟨h1, v, h2, h3⟩ := h
    exact ⟨e.trans h1, v, h2, Rep.wk (fun _ _ z => l.av z) h3⟩
  | own ds =>
    obtain ⟨b, xs, h1, h2, h3, h4, h5⟩ := h
    exact ⟨b, xs, e.trans h1, h2, h3, h4, Reps.wk (fun _ _ z => l.av z) h5⟩
  | par ds =>
    obtain ⟨b, xs, h1, h2, h3, h4, h5⟩ := h
    exact ⟨b, xs, e.trans h1, h2, h3, h4, Reps.wk (fun _ _ z => l.av z) h5⟩
/-- one slot told anew, its list (if any) no longer ours -/
theorem ER.cut (E : ER F as σ H ρ) {i : Nat} {s : Sl} (h : SlAt F H (cutAs as i) i σ[i]? s) : ER F (cutAs as i) σ H (ρ.set i s) := by
  refine ⟨by rw [List.length_set]; exact E.len, fun j k b hj hk => E.inj j k b (cut_le _ _ _ _ hj) (cut_le _ _ _ _ hk), fun j b hj => E.nex j b (cut_le _ _ _ _ hj), fun j => ?_, E.old, fun j b hj => E.own j b (cut_le _ _ _ _ hj), E.exo, E.mok, fun p hp => Rep.wk (fun _ _ z => (cut_le as i).av z) (E.kept p hp)⟩
  by_cases q : j = i
  · subst q
    by_cases l : j < ρ.length
    · show SlAt F H (cutAs as j) j σ[j]? (gt (ρ.set j s) j)
      rw [gt_set ρ l]; exact h
    · rw [List.set_eq_of_length_le (by omega), List.getElem?_eq_none (show ρ.length ≤ j by omega)]
      exact cut_self as j
  · show SlAt F H (cutAs as i) j σ[j]? (gt (ρ.set i s) j)
    rw [gt_ne ρ q]
    exact (E.sl j).le (cut_le as i) (cut_ne as q)
theorem ER.frz_ (E : ER F as σ H ρ) {i : Nat} {ds : List D} (h : gt ρ i = .own ds) : ∃ b, as i = some b ∧ ER F (cutAs as i) σ H (ρ.set i (.val (.lst ds))) ∧ Rep F.K H (F.av (cutAs as i)) (.lst ds) (.ref b) := by
  have q := E.sl i
  rw [show ρ[i]?.getD .un = _ from h] at q
  obtain ⟨b, xs, h1, h2, h3, h4, h5⟩ := q
  have r : Rep F.K H (F.av (cutAs as i)) (.lst ds) (.ref b) := by
    unfold Rep
    refine ⟨b, xs, rfl, h4, fun z => ?_, Reps.wk (fun _ _ z => (cut_le as i).av z) h5⟩
    rcases z with z | ⟨j, z⟩ | z
    · exact E.nex i b h1 z
    · have e := E.inj i j b h1 (cut_le _ _ _ _ z)
      subst e
      rw [cut_self] at z; cases z
    · obtain ⟨m1, m2⟩ := E.mok b z
      rcases h2 with h2 | h2
      · exact m1 h2
      · exact m2 h2
  exact ⟨b, h1, E.cut ⟨cut_self as i, _, h3, r⟩, r⟩

/-- a result that has waited -/
def Wt (F : Fr) (as : As) (H : Hp) (r : R) (v : V) : Prop := ∃ as0 H0, Le as as0 ∧ Ext (F.mu as0) H0 H ∧ RW F as0 H0 r v
theorem RP.wt {r : R} {v : V} (h : RP F as σ H H' ρ r v) : Wt F as H' r v := ⟨as, H', Le.refl _, Ext.refl _ _, h.wait⟩
theorem Wt.step {r : R} {v : V} (h : Wt F as1 H1 r v) (l : Le as2 as1) (e : Ext (F.mu as1) H1 H2) : Wt F as2 H2 r v := by
  obtain ⟨as0, H0, l0, e0, w⟩ := h
  exact ⟨as0, H0, l.trans l0, e0.trans (e.mono fun _ z => l0.mu z), w⟩
theorem Wt.got {r : R} {v : V} {d : D} (h : Wt F as H r v) (E : ER F as σ H ρ) (q : rd r ρ = some d) : Got F as H d v := by
  obtain ⟨as0, H0, l0, e0, w⟩ := h
  exact got_of E l0 w e0 q
theorem Wt.frz {r : R} {v : V} {k : D → En → Prop} (h : Wt F as H r v) (E : ER F as σ H ρ) (q : frz1 r ρ k) : ∃ d as2 ρ2, Le as2 as ∧ ER F as2 σ H ρ2 ∧ Rep F.K H (F.av as2) d v ∧ k d ρ2 := by
  cases r with
  | val d =>
    rcases h.got E (d := d) rfl with g | ⟨ds, b, xs, h1, h2, h3, h4, h5⟩
    · exact ⟨d, as, ρ, Le.refl _, E, g, q⟩
    · obtain ⟨as0, H0, l0, e0, w⟩ := h
      exact ⟨d, as, ρ, Le.refl _, E, Rep.wk (fun _ _ z => l0.av z) (Rep.ext (e0.mono fun _ => mu_av) w), q⟩
  | fresh ds =>
    obtain ⟨as0, H0, l0, e0, w⟩ := h
    exact ⟨.lst ds, as, ρ, Le.refl _, E, Rep.wk (fun _ _ z => l0.av z) (Rep.ext (e0.mono fun _ => mu_av) (show Rep F.K H0 (F.av as0) (.lst ds) v from w)), q⟩
  | slot i =>
    obtain ⟨as0, H0, l0, e0, b0, h1, rfl⟩ := h
    unfold frz1 at q
    cases z : gt ρ i with
    | un => simp only [z] at q
    | val d => simp only [z] at q
    | par d => simp only [z] at q
    | own ds =>
      simp only [z] at q
      obtain ⟨b, g1, g2, g3⟩ := E.frz_ z
      have := l0 i b g1
      rw [h1] at this; cases this
      exact ⟨_, _, _, cut_le as i, g2, g3, q⟩

def Wts (F : Fr) (as : As) (H : Hp) : List R → List V → Prop
  | [], vs => vs = []
  | r :: rs, vs => ∃ v vr, vs = v :: vr ∧ Wt F as H r v ∧ Wts F as H rs vr
theorem Wts.step (l : Le as2 as1) (e : Ext (F.mu as1) H1 H2) : ∀ {rs : List R} {vs : List V}, Wts F as1 H1 rs vs → Wts F as2 H2 rs vs
  | [], _, h => h
  | r :: rs, _, ⟨v, vr, e1, h1, h2⟩ => ⟨v, vr, e1, h1.step l e, Wts.step l e h2⟩
theorem wts_of : ∀ {rs : List R} {vs : List V}, RWs F as H rs vs → Wts F as H rs vs
  | [], _, h => h
  | r :: rs, _, ⟨v, vr, e1, h1, h2⟩ => ⟨v, vr, e1, h1, wts_of h2⟩
theorem of_wts : ∀ {rs : List R} {vs : List V}, Wts F as H rs vs → RWs F as H rs vs
  | [], _, h => h
  | r :: rs, _, ⟨v, vr, e1, h1, h2⟩ => ⟨v, vr, e1, h1, of_wts h2⟩
theorem Wts.frz : ∀ {rs : List R} {vs : List V} {as : As} {ρ : En} {k : List D → En → Prop}, Wts F as H rs vs → ER F as σ H ρ → frz rs ρ k → ∃ ds as2 ρ2, Le as2 as ∧ ER F as2 σ H ρ2 ∧ Reps F.K H (F.av as2) ds vs ∧ k ds ρ2
  | [], _, as, ρ, k, h, E, q => ⟨[], as, ρ, Le.refl _, E, h, q⟩
  | r :: rs, _, as, ρ, k, ⟨v, vr, e1, h1, h2⟩, E, q => by
    subst e1
    obtain ⟨d, as2, ρ2, l, E2, g, q⟩ := h1.frz E q
    obtain ⟨ds, as3, ρ3, l3, E3, g3, q⟩ := Wts.frz (Wts.step l (Ext.refl _ _) h2) E2 q
    exact ⟨d :: ds, as3, ρ3, l3.trans l, E3, Reps.cons (Rep.wk (fun _ _ z => l3.av z) g) g3, q⟩
/-- all read -/
def Gots (F : Fr) (as : As) (H : Hp) : List D → List V → Prop
  | [], vs => vs = []
  | d :: ds, vs => ∃ v vr, vs = v :: vr ∧ Got F as H d v ∧ Gots F as H ds vr
theorem Wts.rds (E : ER F as σ H ρ) : ∀ {rs : List R} {vs : List V} {k : List D → Prop}, Wts F as H rs vs → rds rs ρ k → ∃ ds, Gots F as H ds vs ∧ k ds
  | [], _, k, h, q => ⟨[], h, q⟩
  | r :: rs, _, k, ⟨v, vr, e1, h1, h2⟩, q => by
    obtain ⟨d, e2, q⟩ := wRd_some q
    obtain ⟨ds, g, q⟩ := Wts.rds E h2 q
    exact ⟨d :: ds, ⟨v, vr, e1, h1.got E e2, g⟩, q⟩
theorem Gots.one {d : D} {vs : List V} (h : Gots F as H [d] vs) : ∃ v, vs = [v] ∧ Got F as H d v := by
  obtain ⟨v, vr, rfl, h1, rfl⟩ := h
  exact ⟨v, rfl, h1⟩
theorem Gots.two {d d' : D} {vs : List V} (h : Gots F as H [d, d'] vs) : ∃ v v', vs = [v, v'] ∧ Got F as H d v ∧ Got F as H d' v' := by
  obtain ⟨v, vr, rfl, h1, v', vr', rfl, h2, rfl⟩ := h
  exact ⟨v, v', rfl, h1, h2⟩

/-! ### arguments -/
theorem va_nil : VA X F [] fun ρ Q => Q [] ρ :=
  pa_mono pa_nil fun σ H Q ⟨as, ρ, Q', E, w, c⟩ => c as [] ρ [] H (Aft.refl E) rfl w
theorem va_cons (he : VE X F e wa) (hr : VA X F es wl) (hs : starEach (e :: es) X.env = (false, eval e X.env) :: starEach es X.env) : VA X F (e :: es) fun ρ Q => wa ρ fun r ρ1 => wl ρ1 fun rs ρ2 => Q (r :: rs) ρ2 := by
  refine pa_mono (pa_cons he hr hs) fun σ H Q ⟨as, ρ, Q', E, w, c⟩ => ?_
  refine ⟨as, ρ, _, E, w, fun as1 r ρ1 v H1 A1 P1 q1 => ⟨as1, ρ1, _, A1.er, q1, fun as2 rs ρ2 vs H2 A2 P2 q2 => ?_⟩⟩
  exact c as2 (r :: rs) ρ2 (v :: vs) H2 (A1.trans A2) ⟨v, vs, rfl, ⟨as1, H1, A2.le, A2.ext, P1.wait⟩, P2⟩ q2
theorem Aft.frz {ρ3 : En} {as3 : As} (A : Aft F as as1 σ H H1 ρ1) (l : Le as3 as1) (E : ER F as3 σ H1 ρ3) : Aft F as as3 σ H H1 ρ3 := ⟨l.trans A.le, E, A.ext⟩

theorem ve_tup {k1 : Nat} (h : VA X F es wl) {n : Nat} (hl : n ≤ 1000) : VE X F (.Tuple es k1 pos) fun ρ Q => wl ρ fun rs ρ1 => rs.length = n ∧ frz rs ρ1 fun ds ρ2 => Q (.val (.tup ds)) ρ2 := by
  refine pe_mono (pe_tup h) fun σ H Q ⟨as, ρ, Q', E, w, c⟩ => ?_
  refine ⟨as, ρ, _, E, w, fun as1 rs ρ1 vs H1 A W ⟨hq, q⟩ => ?_⟩
  obtain ⟨ds, as2, ρ2, l, E2, g, q⟩ := Wts.frz (wts_of W) A.er q
  have hv : vs.length = rs.length := by
    have : ∀ {rs : List R} {vs : List V}, RWs F as1 H1 rs vs → vs.length = rs.length := by
      intro rs
      induction rs with
      | nil => intro vs h; cases h; rfl
      | cons r rs ih => intro vs ⟨v, vr, e, _, h⟩; subst e; rw [List.length_cons, List.length_cons, ih h]
    exact this W
  refine ⟨by rw [hv, hq, sizeLine_eq]; omega, fun p n => ?_⟩
  exact (fin_of (A.frz l E2) c).tup E2 n g q
theorem ve_lst (h : VA X F es wl) {n : Nat} (hl : n ≤ 1000) : VE X F (.List es pos) fun ρ Q => wl ρ fun rs ρ1 => rs.length = n ∧ frz rs ρ1 fun ds ρ2 => Q (.fresh ds) ρ2 := by
  refine pe_mono (pe_lst h) fun σ H Q ⟨as, ρ, Q', E, w, c⟩ => ?_
  refine ⟨as, ρ, _, E, w, fun as1 rs ρ1 vs H1 A W ⟨hq, q⟩ => ?_⟩
  obtain ⟨ds, as2, ρ2, l, E2, g, q⟩ := Wts.frz (wts_of W) A.er q
  have hv : vs.length = rs.length := by
    have : ∀ {rs : List R} {vs : List V}, RWs F as1 H1 rs vs → vs.length = rs.length := by
      intro rs
      induction rs with
      | nil => intro vs h; cases h; rfl
      | cons r rs ih => intro vs ⟨v, vr, e, _, h⟩; subst e; rw [List.length_cons, List.length_cons, ih h]
    exact this W
  refine ⟨by rw [hv, hq, sizeLine_eq]; omega, fun p n => ?_⟩
  exact (fin_of (A.frz l E2) c).fresh E2 n g q

/-! ### subscripts and slices -/
theorem ixN_lt {n : Nat} {i : Int} {j : Nat} (h : ixN n i = some j) : j < n := (ixN_seq h).2.1
theorem Reps.at {K : PySem.W.Frag} {av : Addr → Prop} {ds : List D} {xs : List V} {i : Int} {d : D} (r : Reps K H av ds xs) (h : atI ds i = some d) : ∃ v, atI xs i = some v ∧ Rep K H av d v := by
  unfold atI at h ⊢
  rw [r.length]
  cases q : ixN ds.length i with
  | none => rw [q] at h; cases h
  | some j => rw [q] at h; exact r.get h
theorem ve_ix (O : Ok X F) (ha : VE X F a wa) (hb : VE X F b wb) (hs : PlainIx b) :
    VE X F (.Subscript a b pos) fun ρ Q => wa ρ fun r1 ρ1 => wb ρ1 fun r2 ρ2 => wRd r1 ρ2 fun x => wRd r2 ρ2 fun y => ixD x y fun d => Q (.val d) ρ2 := by
  have hr : IxR X (rIx F.K) := O.K ▸ ix_seq
  refine pe_mono (pe_ix hr ha hb hs) fun σ H Q ⟨as, ρ, Q', E, w, c⟩ => ?_
  refine lE2 E w fun as2 ρ2 H2 x y v u A gx gy q => ?_
  unfold ixD at q
  split at q
  · obtain ⟨d, q1, q2⟩ := q
    obtain ⟨p, xs, rfl, h1, h2⟩ := gx.tup
    obtain ⟨z, h3, h4⟩ := h2.at q1
    rw [gy.int]
    exact .inr (.inl ⟨p, xs, _, z, rfl, rfl, h1, h3, (fin_of A c).val A.er h4 q2⟩)
  · obtain ⟨d, q1, q2⟩ := q
    obtain ⟨p, xs, rfl, h1, h2⟩ := gx.lst
    obtain ⟨z, h3, h4⟩ := h2.at q1
    rw [gy.int]
    exact .inl ⟨p, xs, _, z, rfl, rfl, .inl (.inl h1), h3, (fin_of A c).val A.er h4 q2⟩
  · obtain ⟨d, q1, q2⟩ := q
    obtain ⟨p, xs, rfl, h1, h2⟩ := gx.fix
    obtain ⟨z, h3, h4⟩ := h2.at q1
    rw [gy.int]
    exact .inl ⟨p, xs, _, z, rfl, rfl, h1, h3, (fin_of A c).val A.er h4 q2⟩
  · exact q.elim
/-- a part of a slice -/
def lP (F : Fr) (w : En → (Option Int → En → Prop) → Prop) : TO := fun σ H Q => ∃ as ρ Q', ER F as σ H ρ ∧ w ρ Q' ∧ ∀ as' o ρ' H', Aft F as as' σ H H' ρ' → Q' o ρ' → Q o H'
theorem po_mono {o : Option Expr} {t t' : TO} (h : PO X o t) (m : ∀ σ H Q, t' σ H Q → t σ H Q) : PO X o t' := ⟨fun pins s σ H Q I q => h.run pins s σ H Q I (m σ H Q q)⟩
theorem vp_no : PO X none (lP F fun ρ Q => Q none ρ) := po_mono po_none fun σ H Q ⟨as, ρ, Q', E, w, c⟩ => c as none ρ H (Aft.refl E) w
theorem vp_yes (he : VE X F e wa) : PO X (some e) (lP F fun ρ Q => wa ρ fun r ρ1 => match r with | .val (.int i) => Q (some i) ρ1 | _ => False) := by
  refine po_mono (po_some he) fun σ H Q ⟨as, ρ, Q', E, w, c⟩ => ?_
  refine ⟨as, ρ, _, E, w, fun as1 r ρ1 v H1 A P q => ?_⟩
  split at q
  · rename_i i
    have g : v = .int i := by have : Rep F.K H1 (F.av as1) (.int i) v := P; unfold Rep at this; exact this
    exact ⟨i, g, c as1 _ ρ1 H1 A q⟩
  · exact q.elim
theorem Reps.cut {K : PySem.W.Frag} {av : Addr → Prop} {ds : List D} {xs : List V} (r : Reps K H av ds xs) (lo hi : Option Int) : Reps K H av (cutD ds lo hi) (cutV xs lo hi) := by
  unfold cutD cutV
  rw [r.length]
  exact Reps.take _ (Reps.drop _ r)
theorem ve_sl (O : Ok X F) {lo hi : Option Expr} {wl wh : En → (Option Int → En → Prop) → Prop} {p2 : Pos} (ha : VE X F a wa) (hl : PO X lo (lP F wl)) (hh : PO X hi (lP F wh)) :
    VE X F (.Subscript a (.Slice lo hi none p2) pos) fun ρ Q => wa ρ fun r1 ρ1 => wl ρ1 fun l ρ2 => wh ρ2 fun h ρ3 => wRd r1 ρ3 fun x => slD x l h fun r => Q r ρ3 := by
  have hr : SlR X (fun x l u H Q => rSlL F.K x l u H Q ∨ (rSlA F.K x l u H Q ∨ rSlS x l u H Q)) := by rw [← O.K]; exact sl_list.or (sl_tupA.or sl_str)
  refine pe_mono (pe_slice hr ha hl hh) fun σ H Q ⟨as, ρ, Q', E, w, c⟩ => ?_
  refine ⟨as, ρ, _, E, w, fun as1 r1 ρ1 v H1 A1 P1 q1 => ?_⟩
  refine ⟨as1, ρ1, _, A1.er, q1, fun as2 l ρ2 H2 A2 q2 => ?_⟩
  refine ⟨as2, ρ2, _, A2.er, q2, fun as3 h ρ3 H3 A3 q3 => ?_⟩
  obtain ⟨x, e1, q4⟩ := wRd_some q3
  have g := ((P1.wt.step A2.le A2.ext).step A3.le A3.ext).got A3.er e1
  have A := (A1.trans A2).trans A3
  unfold slD at q4
  cases x <;> first | exact q4.elim | skip
  · rw [g.str]
    exact .inr (.inr ⟨_, rfl, sm_line q4.1, (fin_of A c).val A3.er (rep_str _) q4.2⟩)
  · obtain ⟨p, xs, rfl, h1, h2⟩ := g.tup
    refine .inr (.inl ⟨p, xs, rfl, h1, fun whole => ?_, fun _ q n => (fin_of A c).tup A3.er n (h2.cut l h) q4⟩)
    refine (fin_of A c).val A3.er (d := .tup _) (rep_tup h1 ?_) q4
    have e2 := h2.cut l h
    have e3 : cutV xs l h = xs := by
      unfold cutV
      rw [whole.1, whole.2, List.drop_zero, Nat.sub_zero, List.take_length]
    rw [e3] at e2
    exact e2
  · obtain ⟨p, xs, rfl, h1, h2⟩ := g.lst
    exact .inl ⟨p, xs, rfl, .inl (.inl h1), fun q n => (fin_of A c).fresh A3.er n (h2.cut l h) q4⟩
  · obtain ⟨p, xs, rfl, h1, h2⟩ := g.fix
    exact .inl ⟨p, xs, rfl, h1, fun q n => (fin_of A c).fresh A3.er n (h2.cut l h) q4⟩
end
end VL

/-! VL6s: sorted(a list of pairs with unlike whole numbers ahead). -/
namespace VL
open PySem PySem.Spec L2 Srt SrtO
open PyProof.Rows (seqObj tuples' keyLt' keyKind' SortKind lt_int oneLt_int)
section
variable {prog : Program} {w : World} {A : Around} {s : Shared} {E : Value → Shared → Prop}
def IsF (h : Heap) (v : Value) (x : Int) (y : Value) : Prop := ∃ a o t n, v = .ref a ∧ h.get? a = some o ∧ o.cls = .type "tuple" ∧ o.data = .seq #[.int x t, y] n
theorem IsF.keeps {h h' : Heap} {v : Value} {x : Int} {y : Value} (p : IsF h v x y) (k : ∀ b o, h.get? b = some o → o.cls = .type "tuple" → h'.get? b = some o) : IsF h' v x y := by
  obtain ⟨a, o, t, n, e, ho, hc, hd⟩ := p
  exact ⟨a, o, t, n, e, k a o ho hc, hc, hd⟩
theorem swo_f (k : Value → Int) : Swo fun v u => decide (k v < k u) := by
  refine ⟨fun x y h => ?_, fun x y z h1 h2 => ?_⟩
  · have h := of_decide_eq_true h
    exact decide_eq_false (by omega)
  · have h1 := of_decide_eq_false h1
    have h2 := of_decide_eq_false h2
    exact decide_eq_false (by omega)
theorem f_cmp {vs : List Value} {k : Value → Int} {g : Value → Value} (hp : ∀ v ∈ vs, IsF s.heap v (k v) (g v)) (hd : ∀ v ∈ vs, ∀ u ∈ vs, k v = k u → v = u) : Cmp prog w A s (tuples' true) (fun p => p.1 ∈ vs) (lt2 fun v u => decide (k v < k u)) := by
  intro p q hm hm'
  have h1 := hp _ hm
  have h2 := hp _ hm'
  have h3 := hd _ hm _ hm'
  show wpAny (model prog w) A (keyLt' (tuples' true) p.1 q.1) (fun r s' => s' = s ∧ r = decide (k p.1 < k q.1)) (fun _ _ => False) s
  have h4 : k p.1 = k q.1 → g p.1 = g q.1 := fun z => by rw [h3 z]
  clear h3
  generalize k p.1 = x at h1 h4 ⊢
  generalize g p.1 = y at h1 h4 ⊢
  generalize k q.1 = x' at h2 h4 ⊢
  generalize g q.1 = y' at h2 h4 ⊢
  obtain ⟨a, o, t, n, e, ho, hc, hd⟩ := h1
  obtain ⟨a', o', t', n', e', ho', hc', hd'⟩ := h2
  rw [e, e']
  refine PySem.W.kat_lt ho hd ho' hd' ?_
  show PySem.W.KatLex prog w A true (decide (2 < 2)) _ [(.int x t, .int x' t'), (y, y')] 0 s
  refine PySem.W.kat_cons (SeqAt.EqAt.int_int x t x' t' prog w _ _ ?_)
  refine PySem.W.kat_go (fun e1 => ?_) (fun e1 => ?_)
  · have ex : x = x' := by simpa using e1
    have ey := h4 ex
    subst ey
    refine PySem.W.kat_yes (PySem.W.kat_cons (SeqAt.EqAt.same y prog w _ _ ?_))
    refine PySem.W.kat_go (fun e2 => ?_) (fun e2 => by cases e2)
    exact PySem.W.kat_yes (PySem.W.kat_nil ⟨rfl, (decide_eq_false (by omega)).symm⟩)
  · exact PySem.W.kat_no (oneLt_int ⟨rfl, rfl⟩)
theorem firsts_f {h : Heap} : ∀ {vs : List Value}, (∀ v ∈ vs, ∃ x y, IsF h v x y) → ∃ fs : List Value, PySem.W.KatTups h vs fs ∧ fs.length = vs.length ∧ ∀ f ∈ fs, ∃ x t, f = Value.int x t
  | [], _ => ⟨[], PySem.W.KatTups.nil, rfl, fun _ hm => by simp at hm⟩
  | v :: vs, hp => by
    obtain ⟨fs, h1, h2, h3⟩ := firsts_f (vs := vs) fun v' hm => hp v' (List.mem_cons_of_mem _ hm)
    obtain ⟨x, y, a, o, t, n, e, ho, hc, hd⟩ := hp v (List.mem_cons_self ..)
    subst e
    refine ⟨.int x t :: fs, PySem.W.KatTups.cons ho hc hd rfl h1, by rw [List.length_cons, List.length_cons, h2], fun f hm => ?_⟩
    rcases List.mem_cons.mp hm with rfl | hm
    · exact ⟨x, t, rfl⟩
    · exact h3 f hm
theorem f_sortable {a : Addr} {vs : List Value} {k : Value → Int} {g : Value → Value} (h0 : 0 < vs.length) (hp : ∀ v ∈ vs, IsF s.heap v (k v) (g v)) (hd : ∀ v ∈ vs, ∀ u ∈ vs, k v = k u → v = u) (ha : ∀ o, s.heap.get? a = some o → o.cls ≠ .type "tuple") : SortableO prog w A s a vs fun v u => decide (k v < k u) := by
  intro h' keep
  have hp' : ∀ v ∈ vs, IsF h' v (k v) (g v) := fun v hm => (hp v hm).keeps fun b o e c => keep b o (fun z => by subst z; exact ha o e c) e
  obtain ⟨fs, h1, h2, h3⟩ := firsts_f fun v hm => ⟨_, _, hp' v hm⟩
  refine ⟨tuples' true, fun Q E hq => ?_, f_cmp hp' hd⟩
  refine PySem.W.kat_kind (T := .type "int") h1 (by omega) (fun f hm => ?_) (by rfl) ?_
  · obtain ⟨x, t, rfl⟩ := h3 f hm
    exact PySem.W.Looks.now
  · have e : (Value.type "int" != Value.type "tuple") = true := by first | decide +kernel | rfl | decide
    rw [e]
    exact hq
theorem sorted_f {l : Addr} {vs : List Value} {k : Value → Int} {g : Value → Value} {Q : Value → Shared → Prop} (hl : s.heap.IsList l vs.toArray) (hz : vs.length ≤ sizeLine) (hp : ∀ v ∈ vs, IsF s.heap v (k v) (g v)) (hd : ∀ v ∈ vs, ∀ u ∈ vs, k v = k u → v = u)
    (h : ∀ (h' : Heap) (d : Addr) (out : List Value), Srtd (fun v u => decide (k v < k u)) out → Stb (fun v u => decide (k v < k u)) out vs → (∀ b o, s.heap.get? b = some o → h'.get? b = some o) → s.heap.objs.size ≤ d → (∃ n, h'.get? d = some (seqObj "list" out.toArray n)) → Q (.ref d) { s with heap := h' }) :
    wpAny (model prog w) A (call (.builtin "sorted") [.ref l]) Q E s := by
  refine sorted_ord (swo_f k) hl hz (fun h2 h₁ a ha kk => ?_) fun out hs hb => ?_
  · refine f_sortable (s := { s with heap := h₁ }) (by omega) (fun v hm => (hp v hm).keeps fun b o e _ => (kk b o e).2) hd fun o e => ?_
    have e' : some o = some (seqObj "list" vs.toArray 0) := e.symm.trans ha
    cases e'
    intro c
    exact absurd (Value.type.inj c) (by decide)
  · exact h _ _ out hs hb (fun b o e => PyProof.Rows.sortedAll_old e) (Nat.le_succ _) (PyProof.Rows.sortedAll_at s.heap vs out.toArray)
end
/-- sorted(pairs): the first ones are unlike whole numbers -/
def rSortedF (K : PySem.W.Frag) : List V → Hp → VK → Prop := fun vs H Q => ∃ (a : Addr) (L : List (V × Int × D)), vs = [V.ref a] ∧ SqL K H a (L.map (·.1)) ∧ (∀ e ∈ L, ∃ t y, e.1 = V.ref t ∧ SqT K H t [.int e.2.1, y]) ∧ (L.Pairwise fun e e' => e.2.1 ≠ e'.2.1) ∧
  ∀ (L' : List (V × Int × D)) p, L'.Perm L → L'.Pairwise (fun e e' => e.2.1 ≤ e'.2.1) → H p = none → Q (.ref p) (upd H p (.lst (L'.map (·.1))))
theorem pair_eq {L : List (V × Int × D)} (h : L.Pairwise fun e e' => e.2.1 ≠ e'.2.1) : ∀ e ∈ L, ∀ e' ∈ L, e.2.1 = e'.2.1 → e = e' := by
  induction L with
  | nil => intro e he; cases he
  | cons x L ih =>
    obtain ⟨h1, h2⟩ := List.pairwise_cons.mp h
    intro e he e' he' z
    rcases List.mem_cons.mp he with w | w <;> rcases List.mem_cons.mp he' with w' | w'
    · rw [w, w']
    · subst w; exact absurd z (h1 e' w')
    · subst w'; exact absurd z.symm (h1 e w)
    · exact ih h2 e w e' w' z
section
variable {X : Cx}
open Classical in
theorem cr_sortedF : CallR X (.builtin "sorted") (rSortedF X.K) := by
  intro pins s σ H vs us Q I r h
  obtain ⟨a, L, rfl, hs, hx, hdist, q⟩ := h
  obtain ⟨its, rv, hl, hz⟩ := I.list hs
  obtain ⟨u, rfl, ru⟩ := vals1 r
  obtain rfl : u = Value.ref a := ru
  obtain ⟨e1, e2⟩ := refs_back rv fun x m => by
    obtain ⟨e, he, rfl⟩ := List.mem_map.mp m
    obtain ⟨t, y, e, _⟩ := hx e he
    exact ⟨t, e⟩
  have isf : ∀ e ∈ L, ∃ t y, e.1 = V.ref t ∧ IsF s.heap (.ref t) e.2.1 y := fun e he => by
    obtain ⟨t, y, e0, ht⟩ := hx e he
    obtain ⟨its2, r2, ⟨o, ho, hc, n, hd⟩, _⟩ := I.tuple ht
    obtain ⟨u1, u2, rfl, ri, rj⟩ := vals2 r2
    obtain ⟨t1, rfl⟩ := ri
    exact ⟨t, u2, e0, t, o, t1, n, rfl, ho, hc, hd⟩
  have uniq : ∀ {v x y x' y'}, IsF s.heap v x y → IsF s.heap v x' y' → x = x' ∧ y = y' := fun {v x y x' y'} h h' => by
    obtain ⟨a, o, t, n, e, ho, hc, hd⟩ := h
    obtain ⟨a', o', t', n', e', ho', hc', hd'⟩ := h'
    rw [e] at e'; cases e'
    rw [ho] at ho'; cases ho'
    rw [hd] at hd'
    have := Data.seq.inj hd'
    have h2 := congrArg Array.toList this.1
    simp at h2
    exact ⟨h2.1.1, h2.2⟩
  have inj : ∀ e ∈ L, ∀ e' ∈ L, e.1 = e'.1 → e = e' := fun e he e' he' z => by
    obtain ⟨t, y, h1, h2⟩ := isf e he
    obtain ⟨t', y', h1', h2'⟩ := isf e' he'
    rw [h1, h1'] at z
    cases z
    exact pair_eq hdist e he e' he' (uniq h2 h2').1
  let f : V → V × Int × D := fun v => if h : ∃ e, e ∈ L ∧ e.1 = v then h.choose else (v, 0, .non)
  have ff : ∀ e ∈ L, f e.1 = e := fun e he => by
    have h : ∃ e', e' ∈ L ∧ e'.1 = e.1 := ⟨e, he, rfl⟩
    show (if h : ∃ e', e' ∈ L ∧ e'.1 = e.1 then h.choose else (e.1, 0, .non)) = e
    rw [dif_pos h]
    exact inj _ h.choose_spec.1 e he h.choose_spec.2
  have back : ∀ v ∈ its, ∃ t, v = .ref t ∧ ∃ e ∈ L, e.1 = V.ref t := fun v hv => by
    obtain ⟨t, rfl⟩ := e2 v hv
    have : V.ref t ∈ L.map (·.1) := by rw [e1]; exact List.mem_map.mpr ⟨_, hv, rfl⟩
    obtain ⟨e, he, h⟩ := List.mem_map.mp this
    exact ⟨t, rfl, e, he, h⟩
  have hp0 : ∀ v ∈ its, ∃ y, IsF s.heap v (f (backV v)).2.1 y := fun v hv => by
    obtain ⟨t, rfl, e, he, h⟩ := back v hv
    obtain ⟨t', y, h1, h2⟩ := isf e he
    rw [h] at h1
    cases h1
    refine ⟨y, ?_⟩
    show IsF s.heap (.ref t) (f (V.ref t)).2.1 y
    rw [← h, ff e he]; exact h2
  have hp : ∃ g : Value → Value, ∀ v ∈ its, IsF s.heap v (f (backV v)).2.1 (g v) := by
    refine ⟨fun v => if h : ∃ y, IsF s.heap v (f (backV v)).2.1 y then h.choose else .none, fun v hv => ?_⟩
    have h := hp0 v hv
    show IsF _ _ _ (if h : ∃ y, IsF s.heap v (f (backV v)).2.1 y then h.choose else .none)
    rw [dif_pos h]
    exact h.choose_spec
  obtain ⟨g, hp⟩ := hp
  have same : L = (L.map (·.1)).map f := by
    rw [List.map_map]
    refine (List.map_id L).symm.trans (List.map_congr_left fun e he => ?_)
    exact (ff e he).symm
  refine sorted_f (k := fun u => (f (backV u)).2.1) (g := g) hl.isList (by rw [← rv.length]; exact hz) hp (fun v hv u hu z => ?_) fun h' d out h1 h2 kp hd hn => ?_
  · obtain ⟨t, rfl, e, he, h⟩ := back v hv
    obtain ⟨t', rfl, e', he', h'⟩ := back u hu
    have z : (f (V.ref t)).2.1 = (f (V.ref t')).2.1 := z
    rw [← h, ← h', ff e he, ff e' he'] at z
    have := pair_eq hdist e he e' he' z
    subst this
    rw [h] at h'
    cases h'
    rfl
  · have h3 : ∀ u ∈ out, ∃ a, u = Value.ref a := fun u hu => e2 u (h2.perm.mem_iff.mp hu)
    obtain ⟨n, hn⟩ := hn
    have hb : (out.map backV).Perm (L.map (·.1)) := by
      rw [e1]
      exact h2.perm.map backV
    have hb2 : ((out.map backV).map f).Perm L := by
      have := hb.map f
      rwa [← same] at this
    have hf : ((out.map backV).map f).map (·.1) = out.map backV := by
      rw [List.map_map]
      refine (List.map_congr_left fun v hv => ?_).trans (List.map_id _)
      obtain ⟨e, he, h⟩ := List.mem_map.mp (hb.mem_iff.mp hv)
      show (f v).1 = v
      rw [← h, ff e he]
    have fin := q ((out.map backV).map f) d hb2 (by
      rw [List.pairwise_map, List.pairwise_map]
      refine List.Pairwise.imp (fun {x y} h => ?_) h1
      have h := of_decide_eq_false h
      show (f (backV x)).2.1 ≤ (f (backV y)).2.1
      omega) (I.hok.fresh hd)
    rw [hf] at fin
    refine ⟨.ref d, upd H d (.lst (out.map backV)), I.laid (t' := s.toks) kp hd ⟨?_, out, n, vals_back h3, hn⟩, rfl, fin⟩
    rw [hb.length_eq]
    exact hz
end
end VL

/-! VL6t: t[a::n] of a tuple. -/
namespace HT
open PySem PySem.Spec PyProof.Rows
open PySem.Builtin (Slice.sliceAdjust)
section
variable {prog : Program} {w : World} {A : Around} {s : Shared} {E : Value → Shared → Prop}
theorem adjust_nth (k n : Int) (len : Nat) (hk : 0 ≤ k) (hn : 1 < n) : Builtin.Slice.sliceAdjust (some k) none n (len : Int) = (((min k.toNat len : Nat) : Int), (len : Int)) := by
  have h1 : ¬ (n < 0) := by omega
  have h2 : ¬ (k < 0) := by omega
  unfold Builtin.Slice.sliceAdjust
  simp only [h1, h2, if_false]
  refine Prod.ext ?_ rfl
  show min k (len : Int) = _
  omega
theorem sliceApplied_nth {sl : Addr} {vl vu vs : Value} {k n : Int} {len : Nat} {Q : Int × Int × Nat → Shared → Prop} (hs : s.heap.IsSliceOf sl vl vu vs) (pl : IsPart vl (some k)) (pu : IsPart vu none) (ps : IsPart vs (some n)) (hk : 0 ≤ k) (hn : 1 < n)
    (h : Q (((min k.toNat len : Nat) : Int), n, Builtin.Slice.slicePlaces ((min k.toNat len : Nat) : Int) (len : Int) n) s) : wpAny (model prog w) A (Builtin.Slice.sliceApplied (.ref sl) (pure (len : Int))) Q E s := by
  obtain ⟨os, hos, hcs, hds⟩ := id hs
  unfold Builtin.Slice.sliceApplied Builtin.Slice.sliceFields
  refine wpAny_bind (wpAny_bind (wpAny_field hos hds (x := vl) rfl (wpAny_bind (wpAny_field hos hds (x := vu) rfl (wpAny_bind (wpAny_field hos hds (x := vs) rfl (wpAny_pure ?_)))))))
  refine wpAny_bind (slicePart_ ps ?_)
  show wpAny _ _ (if (n == 0) = true then _ else _) _ _ s
  rw [if_neg (by rw [beq_iff_eq]; omega)]
  refine wpAny_bind (slicePart_ pl (wpAny_bind (slicePart_ pu (wpAny_bind (wpAny_pure ?_)))))
  show wpAny _ _ (match Builtin.Slice.sliceAdjust (some k) none n (len : Int) with | (lo, hi) => pure (lo, n, Builtin.Slice.slicePlaces lo hi n)) _ _ s
  rw [adjust_nth k n len hk hn]
  exact wpAny_pure h
theorem places_nth (lo len n : Int) (hn : 1 < n) : len ≤ lo + (Builtin.Slice.slicePlaces lo len n : Nat) * n := by
  unfold Builtin.Slice.slicePlaces
  rw [if_pos (by omega)]
  by_cases h : lo < len
  · rw [if_pos h]
    have h1 := Int.emod_add_mul_ediv (len - lo - 1) n
    have h2 := Int.emod_lt_of_pos (len - lo - 1) (show 0 < n by omega)
    have h3 : 0 ≤ (len - lo - 1) / n := Int.ediv_nonneg (by omega) (by omega)
    rw [Int.toNat_of_nonneg (by omega), Int.add_mul, Int.mul_comm ((len - lo - 1) / n) n]
    omega
  · rw [if_neg h]
    show len ≤ lo + ((0 : Nat) : Int) * n
    omega
/-- the items picked -/
theorem pick_nth {α : Type} (n : Nat) (hn : 0 < n) : ∀ (xs : List α) (k c : Nat), xs.length ≤ k + c * n → (List.range c).filterMap (fun m => xs[k + m * n]?) = VL.nthL n k xs
  | [], k, c, h => by
    have : VL.nthL n k ([] : List α) = [] := by cases k <;> rfl
    rw [this]
    apply List.filterMap_eq_nil_iff.mpr
    intro a _; simp
  | x :: xs, k + 1, c, h => by
    show _ = VL.nthL n k xs
    rw [← pick_nth n hn xs k c (by rw [List.length_cons] at h; omega)]
    have e : (fun m => (x :: xs)[k + 1 + m * n]?) = fun m => xs[k + m * n]? := by
      funext m
      rw [show k + 1 + m * n = (k + m * n) + 1 by omega, List.getElem?_cons_succ]
    rw [e]
  | x :: xs, 0, 0, h => by rw [List.length_cons] at h; omega
  | x :: xs, 0, c + 1, h => by
    show _ = x :: VL.nthL n (n - 1) xs
    rw [← pick_nth n hn xs (n - 1) c (by rw [List.length_cons, Nat.add_mul] at h; omega), List.range_succ_eq_map, List.filterMap_cons, List.filterMap_map]
    have e : ((fun m => (x :: xs)[0 + m * n]?) ∘ Nat.succ) = fun m => xs[n - 1 + m * n]? := by
      funext m
      show (x :: xs)[0 + (m + 1) * n]? = _
      rw [show 0 + (m + 1) * n = (n - 1 + m * n) + 1 by rw [Nat.add_mul]; omega, List.getElem?_cons_succ]
    rw [e]
    have : (x :: xs)[0 + 0 * n]? = some x := by rw [Nat.zero_mul]; rfl
    rw [this]
theorem nth_len {α : Type} (n : Nat) : ∀ (xs : List α) (k : Nat), (VL.nthL n k xs).length ≤ xs.length
  | [], k => by cases k <;> exact Nat.le_refl _
  | x :: xs, 0 => by show (VL.nthL n (n - 1) xs).length + 1 ≤ xs.length + 1; have := nth_len n xs (n - 1); omega
  | x :: xs, k + 1 => by show (VL.nthL n k xs).length ≤ xs.length + 1; have := nth_len n xs k; omega
theorem nth_far {α : Type} (n : Nat) : ∀ (xs : List α) (k : Nat), xs.length ≤ k → VL.nthL n k xs = []
  | [], k, _ => by cases k <;> rfl
  | x :: xs, 0, h => by rw [List.length_cons] at h; omega
  | x :: xs, k + 1, h => nth_far n xs k (by rw [List.length_cons] at h; omega)
theorem nth_min {α : Type} (n k : Nat) (xs : List α) : VL.nthL n (min k xs.length) xs = VL.nthL n k xs := by
  by_cases h : k ≤ xs.length
  · rw [Nat.min_eq_left h]
  · rw [Nat.min_eq_right (by omega), nth_far n xs _ (Nat.le_refl _), nth_far n xs k (by omega)]
theorem getItem_tuple_nth {t sl : Addr} {items : Array Value} {vl vu vs : Value} {k n : Int} {Q : Value → Shared → Prop} (ht : IsTup s.heap t items) (hs : s.heap.IsSliceOf sl vl vu vs) (pl : IsPart vl (some k)) (pu : IsPart vu none) (ps : IsPart vs (some n)) (hk : 0 ≤ k) (hn : 1 < n)
    (h : Q (.ref s.heap.objs.size) { s with heap := s.heap.push { cls := .type "tuple", data := .seq (VL.nthL n.toNat k.toNat items.toList).toArray } })
    (hsz : items.size ≤ sizeLine) : wpAny (model prog w) A (getItem (.ref t) (.ref sl)) Q E s := by
  have htake : sizeOk (.seq (VL.nthL n.toNat k.toNat items.toList).toArray) := by
    show (VL.nthL n.toNat k.toNat items.toList).toArray.size ≤ sizeLine
    rw [List.size_toArray]
    have := nth_len n.toNat items.toList k.toNat
    rw [Array.length_toList] at this
    exact Nat.le_trans this hsz
  obtain ⟨os, hos, hcs, hds⟩ := id hs
  have hTs : s.TypeIs (.ref sl) "slice" := ⟨os, hos, hcs⟩
  unfold getItem
  try with_reducible refine wpAny_holding ?_
  first | refine wpAny_bind (wpAny_pure ?_) | skip
  refine wpAny_bind (wpAny_sequenceKey ht.typeIs (by decide) ?_)
  refine wpAny_bind (wpAny_callSpecial?_slot (name := Str.ofString "__getitem__") ht.typeIs PyProof.Rows.slot_tuple_getitem
    (wpAny_call_entry PyProof.Rows.slot_tuple_getitem ht.typeIs entry_tuple_getitem ?_ (args_tuple_getitem _ _)))
  show wpAny _ _ (Builtin.Tuple.tupleItemsOf (.ref t) >>= _) _ _ s
  refine wpAny_bind (tupleItemsOf_ ht ?_)
  refine wpAny_bind (wpAny_typeOf hTs ?_)
  rw [if_pos (by decide)]
  refine wpAny_bind (sliceApplied_nth hs pl pu ps hk hn ?_)
  have hno : ¬ ((((min k.toNat items.size : Nat) : Int) == 0 && n == 1 && Builtin.Slice.slicePlaces ((min k.toNat items.size : Nat) : Int) (items.size : Int) n == items.size) = true) := by
    intro q
    rw [Bool.and_eq_true, Bool.and_eq_true] at q
    have q1 : n = 1 := eq_of_beq q.1.2
    omega
  show wpAny _ _ (if (((min k.toNat items.size : Nat) : Int) == 0 && n == 1 && Builtin.Slice.slicePlaces ((min k.toNat items.size : Nat) : Int) (items.size : Int) n == items.size) = true then _ else _) _ _ s
  have pk : ((List.range (Builtin.Slice.slicePlaces ((min k.toNat items.size : Nat) : Int) (items.size : Int) n)).filterMap fun (m : Nat) => items[(((min k.toNat items.size : Nat) : Int) + (m : Int) * n).toNat]?).toArray = (VL.nthL n.toNat k.toNat items.toList).toArray := by
    obtain ⟨N, rfl⟩ : ∃ N : Nat, n = (N : Int) := ⟨n.toNat, by omega⟩
    have b := places_nth ((min k.toNat items.size : Nat) : Int) (items.size : Int) (N : Int) hn
    rw [← Array.length_toList] at b ⊢
    rw [Int.toNat_natCast, ← nth_min N k.toNat items.toList]
    have b' : items.toList.length ≤ min k.toNat items.toList.length + Builtin.Slice.slicePlaces ((min k.toNat items.toList.length : Nat) : Int) (items.toList.length : Int) (N : Int) * N := by
      rw [← Int.natCast_mul] at b
      omega
    rw [← pick_nth N (by omega) items.toList _ _ b']
    have e : (fun (m : Nat) => items[(((min k.toNat items.toList.length : Nat) : Int) + (m : Int) * (N : Int)).toNat]?) = fun m => items.toList[min k.toNat items.toList.length + m * N]? := by
      funext m
      rw [← Int.natCast_mul, ← Int.natCast_add, Int.toNat_natCast, Array.getElem?_toList]
    rw [e]
  rw [if_neg hno, pk]
  first
    | exact wpAny_bind (m := Builtin.Tuple.tupleExact _) (wpAny_newObj_type (wpAny_pure ⟨_, rfl, wpAny_pure h⟩) htake)
    | exact wpAny_bind (m := Builtin.Tuple.tupleExact _) (wpAny_newObj_type (wpAny_bind (wpAny_pure (wpAny_pure ⟨_, rfl, wpAny_pure h⟩))) htake)
    | exact wpAny_bind (wpAny_bind (m := Builtin.Tuple.tupleExact _) (wpAny_newObj_type (wpAny_pure (wpAny_pure ⟨_, rfl, wpAny_pure h⟩)) htake))
    | exact wpAny_bind (wpAny_bind (m := Builtin.Tuple.tupleExact _) (wpAny_newObj_type (wpAny_pure ⟨_, rfl, wpAny_pure h⟩) htake))
end
end HT
namespace VL
open PySem PySem.Spec L2 PyProof.Rows
section
variable {X : Cx} {F : Fr} {e : Expr} {te : TE} {lo : Option Expr} {st : Expr} {tl ts : TO} {wa : WE} {pos p2 : Pos}
theorem nth_vals {α β : Type} {R : α → β → Prop} (n : Nat) : ∀ {xs : List α} {ys : List β} (k : Nat), Paired R xs ys → Paired R (nthL n k xs) (nthL n k ys)
  | _, _, k, .nil => by cases k <;> exact .nil
  | _, _, 0, .cons h t => .cons h (nth_vals n (n - 1) t)
  | _, _, k + 1, .cons h t => nth_vals n k t
/-- t[lo::st] -/
theorem pe_nth (he : PE X e te) (hl : PO X lo tl) (hs : PO X (some st) ts) : PE X (.Subscript e (.Slice lo none (some st) p2) pos) fun σ H Q => te σ H fun x H1 => tl σ H1 fun l H2 => ts σ H2 fun u H3 =>
    ∃ a xs k n, x = .ref a ∧ l = some k ∧ u = some n ∧ 0 ≤ k ∧ 1 < n ∧ SqT X.K H3 a xs ∧ ∀ p, H3 p = none → Q (.ref p) (upd H3 p (.tup (nthL n.toNat k.toNat xs))) := by
  refine ⟨fun pins s σ H Q I h => ?_⟩
  refine Subscript_ (thn (he.run pins s σ H _ I h) fun v s1 ⟨x, H1, I1, r1, q1⟩ => ?_)
  refine wpAny_Slice (thn (hl.run pins s1 σ H1 _ I1 q1) fun vl s2 ⟨l, H2, I2, pl, q2⟩ => ?_)
  rw [evalPart_none]
  refine wpAny_pure ?_
  refine thn (hs.run pins s2 σ H2 _ I2 q2) fun vs s3 ⟨u, H3, I3, ps, q3⟩ => ?_
  obtain ⟨a, xs, k, n, rfl, rfl, rfl, hk, hn, hx, q⟩ := q3
  cases r1
  have I4 : Inv X pins σ H3 { s3 with heap := s3.heap.push { cls := .type "slice", data := .fields #[vl, .none, vs] } } := I3.kept (t' := s3.toks) fun b ob q => Heap.get?_push_of_some _ q
  obtain ⟨its, r, ht, hz⟩ := I4.tuple hx
  show wpAny (model X.prog X.w) X.A (subscriptTail e (.Slice lo none (some st) p2) (.ref a) (.ref s3.heap.objs.size)) (EP X pins σ Q) X.xe { s3 with heap := s3.heap.push { cls := .type "slice", data := .fields #[vl, .none, vs] } }
  refine tail_any (ops := [.ref a, .ref s3.heap.objs.size]) ht.typeIs PyProof.Rows.slot_tuple_getitem.lookup ?_ (by with_unfolding_all rfl)
  refine HT.getItem_tuple_nth ht (Heap.IsSliceOf.new ..) pl .none ps hk hn ?_ (by rw [List.size_toArray]; have := r.length; omega)
  refine ⟨.ref _, _, I4.laid (t' := s3.toks) (o := .tup (nthL n.toNat k.toNat xs)) (fun b ob q => Heap.get?_push_of_some _ q) (Nat.le_refl _) ?_, rfl, q _ (I4.hok.fresh (Nat.le_refl _))⟩
  have r2 : Vals (nthL n.toNat k.toNat xs) (nthL n.toNat k.toNat its) := nth_vals _ _ r
  refine ⟨by have := HT.nth_len n.toNat xs k.toNat; omega, _, r2, IsTup.new _ _⟩
theorem Reps.nth {K : PySem.W.Frag} {H : Hp} {av : Addr → Prop} (n : Nat) : ∀ {ds : List D} {xs : List V} (k : Nat), Reps K H av ds xs → Reps K H av (nthL n k ds) (nthL n k xs)
  | [], xs, k, h => by
    have h : xs = [] := h
    subst h
    cases k <;> exact Reps.nil
  | d :: ds, xs, 0, h => by
    unfold Reps at h
    obtain ⟨v, vr, rfl, h1, h2⟩ := h
    exact Reps.cons h1 (Reps.nth n (n - 1) h2)
  | d :: ds, xs, k + 1, h => by
    unfold Reps at h
    obtain ⟨v, vr, rfl, h1, h2⟩ := h
    exact Reps.nth n k h2
theorem ve_slk (O : Ok X F) {wl ws : En → (Option Int → En → Prop) → Prop} (ha : VE X F e wa) (hl : PO X lo (lP F wl)) (hh : PO X (some st) (lP F ws)) :
    VE X F (.Subscript e (.Slice lo none (some st) p2) pos) fun ρ Q => wa ρ fun r1 ρ1 => wl ρ1 fun l ρ2 => ws ρ2 fun h ρ3 => wRd r1 ρ3 fun x => slkD x l h fun d => Q (.val d) ρ3 := by
  refine pe_mono (pe_nth ha hl hh) fun σ H Q ⟨as, ρ, Q', E, w, c⟩ => ?_
  refine ⟨as, ρ, _, E, w, fun as1 r1 ρ1 v H1 A1 P1 q1 => ?_⟩
  refine ⟨as1, ρ1, _, A1.er, q1, fun as2 l ρ2 H2 A2 q2 => ?_⟩
  refine ⟨as2, ρ2, _, A2.er, q2, fun as3 h ρ3 H3 A3 q3 => ?_⟩
  obtain ⟨x, e1, q4⟩ := wRd_some q3
  have g := ((P1.wt.step A2.le A2.ext).step A3.le A3.ext).got A3.er e1
  have A := (A1.trans A2).trans A3
  unfold slkD at q4
  cases x <;> first | exact q4.elim | skip
  cases l <;> first | exact q4.elim | skip
  cases h <;> first | exact q4.elim | skip
  obtain ⟨h0, h1, q4⟩ := q4
  obtain ⟨p, xs, rfl, g1, g2⟩ := g.tup
  refine ⟨p, xs, _, _, rfl, rfl, rfl, h0, h1, by rw [O.K]; exact g1, fun q n => (fin_of A c).tup A3.er n (g2.nth _ _) q4⟩
end
end VL

/-! VL7: builtins, chains, isinstance, methods of lists. -/
namespace VL
open PySem PySem.Spec L2
def nmB : Bf → Str
  | .len => "len" | .abs => "abs" | .max2 => "max" | .min2 => "min" | .int => "int" | .list => "list" | .tuple => "tuple" | .any => "any" | .all => "all" | .str => "str" | .sum => "sum" | .bool => "bool" | .sorted => "sorted" | .sortedP => "sorted"
def valB : Bf → Value
  | .len => .builtin "len" | .abs => .builtin "abs" | .max2 => .builtin "max" | .min2 => .builtin "min" | .any => .builtin "any" | .all => .builtin "all" | .sum => .builtin "sum" | .sorted => .builtin "sorted" | .sortedP => .builtin "sorted"
  | .int => .type "int" | .list => .type "list" | .tuple => .type "tuple" | .str => .type "str" | .bool => .type "bool"
theorem boot_nmB (f : Bf) : bootBuiltins (nmB f) = some (valB f) := by cases f <;> decide +kernel
theorem nmB_name (f : Bf) : nmB f ≠ "__name__" := by cases f <;> decide
theorem nmB_debug (f : Bf) : (nmB f == ("__debug__" : Str)) = false := by cases f <;> decide
def rB (K : PySem.W.Frag) (f : Bf) : List V → Hp → VK → Prop := match f with
  | .len => fun xs H Q => ∃ x n, xs = [x] ∧ LenV K x H n ∧ Q (.int n) H
  | .abs => fun xs H Q => ∃ i, xs = [.int i] ∧ Q (.int (if i < 0 then -i else i)) H
  | .max2 => fun xs H Q => ∃ i j, xs = [.int i, .int j] ∧ Q (.int (if j > i then j else i)) H
  | .min2 => fun xs H Q => ∃ i j, xs = [.int i, .int j] ∧ Q (.int (if j < i then j else i)) H
  | .int => fun xs H Q => (∃ i, xs = [.int i] ∧ Q (.int i) H) ∨ ∃ k, xs = [.bl k] ∧ Q (.int (if k then 1 else 0)) H
  | .list => fun xs H Q => ∃ p ys, xs = [.ref p] ∧ (SqL K H p ys ∨ SqT K H p ys) ∧ ∀ l, H l = none → Q (.ref l) (upd H l (.lst ys))
  | .tuple => fun xs H Q => ∃ p ys, xs = [.ref p] ∧ ((SqL K H p ys ∧ ∀ l, H l = none → Q (.ref l) (upd H l (.tup ys))) ∨ (SqT K H p ys ∧ Q (.ref p) H))
  | .any => rAny K
  | .all => rAll K
  | .sum => rSum K
  | .sorted => rSortedI K
  | .sortedP => rSortedF K
  | .str => fun xs H Q => ∃ i, xs = [.int i] ∧ i.natAbs.log2 < 1920 ∧ Q (.str (toString i)) H
  | .bool => fun xs H Q => (∃ i, xs = [.int i] ∧ Q (.bl (i != 0)) H) ∨ ∃ k, xs = [.bl k] ∧ Q (.bl k) H
section
variable {X : Cx} {F : Fr} {as as' as1 as2 : As} {σ : L2.St} {H H' H1 H2 : Hp} {ρ ρ' ρ1 ρ2 : En} {e a b : Expr} {es : List Expr} {wa wb : WE} {wl : WA} {pos p : Pos}
theorem b_ok (O : Ok X F) (f : Bf) : CallR X (valB f) (rB F.K f) := by
  rw [← O.K]
  cases f with
  | len => exact call_len
  | abs => exact call_abs
  | max2 => exact call_max2 O.calm
  | min2 => exact call_min2 O.calm
  | int => exact call_int1
  | list => exact call_list_of
  | tuple => exact call_tuple_of
  | any => exact cr_any O.calm
  | all => exact cr_all O.calm
  | sum => exact cr_sum O.calm
  | str => exact call_str_int
  | bool => exact call_bool1
  | sorted => exact cr_sortedI
  | sortedP => exact cr_sortedF
theorem Reps.of_bls {K : PySem.W.Frag} {av : Addr → Prop} : ∀ {bs : List Bool} {vs : List V}, Reps K H av (bs.map D.bl) vs → vs = bs.map V.bl
  | [], vs, h => h
  | n :: ns, vs, h => by
    rw [List.map_cons] at h
    unfold Reps at h
    obtain ⟨v, r, rfl, h1, h2⟩ := h
    unfold Rep at h1
    rw [h1, Reps.of_bls h2]; rfl
theorem Reps.of_trip {K : PySem.W.Frag} {av : Addr → Prop} : ∀ {L : List (V × Int × D)}, (∀ e ∈ L, Rep K H av (.tup [.int e.2.1, e.2.2]) e.1) → Reps K H av ((L.map (·.2)).map fun p => .tup [.int p.1, p.2]) (L.map (·.1))
  | [], _ => Reps.nil
  | e :: L, h => Reps.cons (h e List.mem_cons_self) (Reps.of_trip fun e' he => h e' (List.mem_cons_of_mem _ he))
theorem Reps.trip {K : PySem.W.Frag} {av : Addr → Prop} : ∀ {ps : List (Int × D)} {vs : List V}, Reps K H av (ps.map fun p => .tup [.int p.1, p.2]) vs → ∃ L : List (V × Int × D), L.map (·.1) = vs ∧ L.map (·.2) = ps ∧ ∀ e ∈ L, Rep K H av (.tup [.int e.2.1, e.2.2]) e.1
  | [], vs, h => by
    unfold Reps at h
    exact ⟨[], h.symm, rfl, fun e he => by cases he⟩
  | p :: ps, vs, h => by
    rw [List.map_cons] at h
    unfold Reps at h
    obtain ⟨v, r, rfl, h1, h2⟩ := h
    obtain ⟨L, e1, e2, e3⟩ := Reps.trip h2
    refine ⟨(v, p) :: L, by rw [List.map_cons, e1], by rw [List.map_cons, e2], fun e he => ?_⟩
    rcases List.mem_cons.mp he with w | w
    · rw [w]; exact h1
    · exact e3 e w
theorem b_sound (f : Bf) {ds : List D} {vs : List V} {Q : VK} {k : R → Prop} (E : ER F as σ H ρ) (g : Gots F as H ds vs) (q : blt f ds k) (fin : Fin F as σ H ρ Q k) : rB F.K f vs H Q := by
  unfold blt at q
  split at q
  · obtain ⟨v, rfl, g1⟩ := g.one
    obtain ⟨b, xs, rfl, h1, h2⟩ := g1.tup
    refine ⟨_, xs.length, rfl, .inr ⟨xs, h1, rfl⟩, ?_⟩
    rw [h2.length]
    exact fin.val E (rep_int _) q
  · obtain ⟨v, rfl, g1⟩ := g.one
    obtain ⟨b, xs, rfl, h1, h2⟩ := g1.lst
    refine ⟨_, xs.length, rfl, .inl ⟨xs, .inl (.inl h1), rfl⟩, ?_⟩
    rw [h2.length]
    exact fin.val E (rep_int _) q
  · obtain ⟨v, rfl, g1⟩ := g.one
    obtain ⟨b, xs, rfl, h1, h2⟩ := g1.fix
    refine ⟨_, xs.length, rfl, .inl ⟨xs, h1, rfl⟩, ?_⟩
    rw [h2.length]
    exact fin.val E (rep_int _) q
  · obtain ⟨v, rfl, g1⟩ := g.one
    rw [g1.str]
    exact ⟨_, _, rfl, ⟨sm_line q.1, rfl⟩, fin.val E (rep_int _) q.2⟩
  · obtain ⟨v, rfl, g1⟩ := g.one
    rw [g1.int]
    refine ⟨_, rfl, ?_⟩
    rename_i i
    rw [show (if i < 0 then -i else i) = (i.natAbs : Int) by split <;> omega]
    exact fin.val E (rep_int _) q
  · obtain ⟨v, v', rfl, g1, g2⟩ := g.two
    rw [g1.int, g2.int]
    refine ⟨_, _, rfl, ?_⟩
    rename_i i j
    rw [show (if j > i then j else i) = max i j by split <;> omega]
    exact fin.val E (rep_int _) q
  · obtain ⟨v, v', rfl, g1, g2⟩ := g.two
    rw [g1.int, g2.int]
    refine ⟨_, _, rfl, ?_⟩
    rename_i i j
    rw [show (if j < i then j else i) = min i j by split <;> omega]
    exact fin.val E (rep_int _) q
  · obtain ⟨v, rfl, g1⟩ := g.one
    rw [g1.int]
    exact .inl ⟨_, rfl, fin.val E (rep_int _) q⟩
  · obtain ⟨v, rfl, g1⟩ := g.one
    rw [g1.bl]
    exact .inr ⟨_, rfl, fin.val E (rep_int _) q⟩
  · obtain ⟨v, rfl, g1⟩ := g.one
    obtain ⟨b, xs, rfl, h1, h2⟩ := g1.tup
    exact ⟨b, xs, rfl, .inr h1, fun l n => fin.fresh E n h2 q⟩
  · obtain ⟨v, rfl, g1⟩ := g.one
    obtain ⟨b, xs, rfl, h1, h2⟩ := g1.lst
    exact ⟨b, xs, rfl, .inl (.inl (.inl h1)), fun l n => fin.fresh E n h2 q⟩
  · obtain ⟨v, rfl, g1⟩ := g.one
    obtain ⟨b, xs, rfl, h1, h2⟩ := g1.fix
    exact ⟨b, xs, rfl, .inl h1, fun l n => fin.fresh E n h2 q⟩
  · obtain ⟨v, rfl, g1⟩ := g.one
    obtain ⟨b, xs, rfl, h1, h2⟩ := g1.tup
    exact ⟨b, xs, rfl, .inr ⟨h1, fin.val E (rep_tup h1 h2) q⟩⟩
  · obtain ⟨v, rfl, g1⟩ := g.one
    obtain ⟨b, xs, rfl, h1, h2⟩ := g1.lst
    exact ⟨b, xs, rfl, .inl ⟨.inl (.inl h1), fun l n => fin.tup E n h2 q⟩⟩
  · obtain ⟨v, rfl, g1⟩ := g.one
    obtain ⟨b, xs, rfl, h1, h2⟩ := g1.fix
    exact ⟨b, xs, rfl, .inl ⟨h1, fun l n => fin.tup E n h2 q⟩⟩
  · obtain ⟨v, rfl, g1⟩ := g.one
    obtain ⟨b, xs, rfl, h1, h2⟩ := g1.lst
    obtain ⟨bs, rfl, q⟩ := q
    rw [h2.of_bls] at h1
    exact ⟨b, bs, rfl, .inl (.inl h1), fin.val E (rep_bl _) q⟩
  · obtain ⟨v, rfl, g1⟩ := g.one
    obtain ⟨b, xs, rfl, h1, h2⟩ := g1.lst
    obtain ⟨bs, rfl, q⟩ := q
    rw [h2.of_bls] at h1
    exact ⟨b, bs, rfl, .inl (.inl h1), fin.val E (rep_bl _) q⟩
  · obtain ⟨v, rfl, g1⟩ := g.one
    obtain ⟨b, xs, rfl, h1, h2⟩ := g1.lst
    obtain ⟨bs, rfl, q⟩ := q
    rw [h2.of_ints] at h1
    exact ⟨b, bs, rfl, .inl (.inl h1), fin.val E (rep_int _) q⟩
  · obtain ⟨v, rfl, g1⟩ := g.one
    rw [g1.int]
    exact ⟨_, rfl, q.1, fin.val E (rep_str _) q.2⟩
  · obtain ⟨v, rfl, g1⟩ := g.one
    rw [g1.int]
    exact .inl ⟨_, rfl, fin.val E (rep_bl _) q⟩
  · obtain ⟨v, rfl, g1⟩ := g.one
    rw [g1.bl]
    exact .inr ⟨_, rfl, fin.val E (rep_bl _) q⟩
  · obtain ⟨v, rfl, g1⟩ := g.one
    obtain ⟨b, xs, rfl, h1, h2⟩ := g1.lst
    obtain ⟨bs, rfl, q⟩ := q
    rw [h2.of_ints] at h1
    exact ⟨b, bs, rfl, .inl (.inl h1), fun ns' p g1 g2 n => fin.fresh E n Reps.ints (q ns' g1 g2)⟩
  · obtain ⟨v, rfl, g1⟩ := g.one
    obtain ⟨b, xs, rfl, h1, h2⟩ := g1.lst
    obtain ⟨ps, rfl, hd, q⟩ := q
    obtain ⟨L, e1, e2, e3⟩ := h2.trip
    refine ⟨b, L, rfl, .inl (.inl (by rw [e1]; exact h1)), fun e he => ?_, ?_, fun L' p g1 g2 n => ?_⟩
    · have r := e3 e he
      unfold Rep at r
      obtain ⟨a, ys, z, h3, h4⟩ := r
      unfold Reps at h4
      obtain ⟨y1, r1, rfl, h5, h4⟩ := h4
      unfold Reps at h4
      obtain ⟨y2, r2, rfl, h6, h4⟩ := h4
      unfold Reps at h4
      subst h4
      unfold Rep at h5
      subst h5
      exact ⟨a, y2, z, h3⟩
    · rw [← e2, List.pairwise_map] at hd
      exact hd
    · refine fin.fresh E n (Reps.of_trip fun e he => e3 e (g1.mem_iff.mp he)) (q (L'.map (·.2)) ?_ ?_)
      · rw [← e2]; exact g1.map _
      · rw [List.pairwise_map]; exact g2
  · exact q.elim
theorem ve_blt (O : Ok X F) (f : Bf) (h : VA X F (e :: es) wl) (hg : Gl X (nmB f)) (hm : X.mg (nmB f) = none) (he : starEach (e :: es) X.env = (false, eval e X.env) :: starEach es X.env) (hpl : (backTo pos (starEach es X.env)).any (·.1) = false) :
    VE X F (.Call (.Name (nmB f) p) (e :: es) [] pos) fun ρ Q => wl ρ fun rs ρ1 => rds rs ρ1 fun ds => blt f ds fun r => Q r ρ1 := by
  have key : PE X (.Call (.Name (nmB f) p) (e :: es) [] pos) (tCB (rB F.K f) (lA F wl)) := by
    have b := boot_nmB f
    have c := b_ok O f
    cases f <;> first
      | exact pe_callB c hg hm b h (by decide) (by decide) he hpl
      | exact pe_callTy c hg hm b h (by decide) (by decide) he hpl
  refine pe_mono key fun σ H Q ⟨as, ρ, Q', E, w, c⟩ => ?_
  refine ⟨as, ρ, _, E, w, fun as1 rs ρ1 vs H1 A W q => ?_⟩
  obtain ⟨ds, g, q⟩ := Wts.rds A.er (wts_of W) q
  exact b_sound f A.er g q (fin_of A c)
/-! ### isinstance -/
def nmT : Ty → Str | .int => "int" | .bool => "bool" | .tuple => "tuple" | .list => "list" | .str => "str"
def tyN : Ty → String | .int => "int" | .bool => "bool" | .tuple => "tuple" | .list => "list" | .str => "str"
theorem boot_nmT (t : Ty) : bootBuiltins (nmT t) = some (.type (tyN t)) := by cases t <;> decide +kernel
inductive Dk where | non | bl | int | str | tup | lst
def kd : D → Dk | .non => .non | .bl _ => .bl | .int _ => .int | .str _ => .str | .tup _ => .tup | .lst _ => .lst | .fix _ => .lst
def kdN : Dk → String | .non => "NoneType" | .bl => "bool" | .int => "int" | .str => "str" | .tup => "tuple" | .lst => "list"
def isTyK : Dk → Ty → Bool | .int, .int => true | .bl, .int => true | .bl, .bool => true | .tup, .tuple => true | .lst, .list => true | .str, .str => true | _, _ => false
theorem isTy_eq (d : D) (t : Ty) : isTy d t = isTyK (kd d) t := by cases d <;> cases t <;> rfl
theorem kit_all (k : Dk) (t : Ty) : kitB (kdN k) (tyN t) = some (isTyK k t) := by cases k <;> cases t <;> decide +kernel
theorem isTy_kit {d : D} {v : V} (g : Got F as H d v) : TyX F.K H v (.type (kdN (kd d))) := by
  cases d with
  | non => rw [g.non]; exact .base .non
  | bl b => rw [g.bl]; exact .base (.bl b)
  | int b => rw [g.int]; exact .base (.int b)
  | str b => rw [g.str]; exact .base (.str b)
  | tup ds =>
    obtain ⟨b, xs, rfl, h1, h2⟩ := g.tup
    rcases h1 with (h1 | ⟨o, h1⟩) | ⟨o, its, n, h1, h3, _⟩
    · exact .base (.tup h1)
    · exact .fTuple h1
    · exact .kTuple h1 h3
  | lst ds =>
    obtain ⟨b, xs, rfl, h1, h2⟩ := g.lst
    exact .base (.lst h1)
  | fix ds =>
    obtain ⟨b, xs, rfl, h1, h2⟩ := g.fix
    rcases h1 with (h1 | ⟨o, h1⟩) | ⟨o, its, n, h1, h3, _⟩
    · exact .base (.lst h1)
    · exact .base (.frz h1)
    · exact .kList h1 h3
theorem ve_isi (O : Ok X F) (t : Ty) {pp : Pos} (ha : VE X F a wa) (hg : Gl X "isinstance") (hm : X.mg "isinstance" = none) (hgt : Gl X (nmT t)) (hmt : X.mg (nmT t) = none)
    (he : starEach [a, .Name (nmT t) pp] X.env = (false, eval a X.env) :: starEach [.Name (nmT t) pp] X.env) :
    VE X F (.Call (.Name "isinstance" p) [a, .Name (nmT t) pp] [] pos) fun ρ Q => wa ρ fun r1 ρ1 => wRd r1 ρ1 fun x => Q (.val (.bl (isTy x t))) ρ1 := by
  have hc : CallR X (.builtin "isinstance") (rIsi F.K) := O.K ▸ call_isi
  have hT : PE X (.Name (nmT t) pp) (tC (.ty (tyN t))) := pe_bltn hgt hmt (boot_nmT t) rfl (by cases t <;> decide) (by cases t <;> decide)
  refine pe_mono (pe_callB hc hg hm (by decide +kernel) (pa_cons ha (pa_cons hT pa_nil) he) (by decide) (by decide) he (by rfl)) fun σ H Q ⟨as, ρ, Q', E, w, c⟩ => ?_
  refine lE1 E w fun as1 ρ1 H1 x v A g q => ?_
  exact ⟨v, .ty (tyN t), .type (kdN (kd x)), .type (tyN t), isTy x t, rfl, .ty _, isTy_kit g, kit_ty (by rw [isTy_eq]; exact kit_all (kd x) t), (fin_of A c).val A.er (rep_bl _) q⟩
theorem ve_bits {ap : Pos} (ha : VE X F a wa) (hbase : attributeBase a "bit_length" X.env (eval a X.env) = eval a X.env) (hline : (ap.endLine == pos.line) = true) :
    VE X F (.Call (.Attribute a "bit_length" ap) [] [] pos) fun ρ Q => wa ρ fun r1 ρ1 => wRd r1 ρ1 fun x => match x with | .int i => Q (.val (.int (Builtin.Int.intBits i : Nat))) ρ1 | _ => False := by
  refine pe_mono (pe_bits ha hbase hline) fun σ H Q ⟨as, ρ, Q', E, w, c⟩ => ?_
  refine lE1 E w fun as1 ρ1 H1 x v A g q => ?_
  cases x <;> first | exact q.elim | skip
  rw [g.int]
  exact ⟨_, rfl, (fin_of A c).val A.er (rep_int _) q⟩
theorem Reps.of_strs {K : PySem.W.Frag} {av : Addr → Prop} : ∀ {bs : List Str} {vs : List V}, Reps K H av (bs.map D.str) vs → vs = bs.map V.str
  | [], vs, h => h
  | n :: ns, vs, h => by
    rw [List.map_cons] at h
    unfold Reps at h
    obtain ⟨v, r, rfl, h1, h2⟩ := h
    unfold Rep at h1
    rw [h1, Reps.of_strs h2]; rfl
theorem ve_join {z : Str} {j : Nat} {cp ap : Pos} (O : Ok X F) (hb : VE X F b wb) (hs : starEach [b] X.env = [(false, eval b X.env)]) (hline : (ap.endLine == pos.line) = true) :
    VE X F (.Call (.Attribute (.Constant (.str z) j cp) "join" ap) [b] [] pos) fun ρ Q => wb ρ fun r1 ρ1 => wRd r1 ρ1 fun y => joinD z y fun d => Q (.val d) ρ1 := by
  refine pe_mono (pe_join pe_str hb hs rfl hline) fun σ H Q ⟨as, ρ, Q', E, w, c⟩ => ?_
  refine ⟨⟨_, rfl⟩, ?_⟩
  refine lE1 E w fun as1 ρ1 H1 x v A g q => ?_
  unfold joinD at q
  cases x <;> first | exact q.elim | skip
  obtain ⟨ys, rfl, h1, h2⟩ := q
  obtain ⟨p, xs, rfl, g1, g2⟩ := g.lst
  rw [g2.of_strs] at g1
  exact ⟨_, p, ys, rfl, rfl, .inl (.inl (.inl g1)), h1, (fin_of A c).val A.er (rep_str _) h2⟩
/-! ### chains -/
variable {f : Expr} {wf : WE}
theorem ve_chain (O : Ok X F) (c d : Cm) (ha : VE X F a wa) (hb : VE X F b wb) (hf : VE X F f wf) (hm : lastMarks [cmP c, cmP d] [b, f] = false) :
    VE X F (.Compare a [cmP c, cmP d] [b, f] pos) fun ρ Q => wa ρ fun r1 ρ1 => wb ρ1 fun r2 ρ2 => wRd r1 ρ2 fun x => wRd r2 ρ2 fun y => cmp2 c x y fun z =>
      br z (wf ρ2 fun r3 ρ3 => wRd r2 ρ3 fun y => wRd r3 ρ3 fun v => cmp2 d y v fun z => Q (.val (.bl z)) ρ3) (Q (.val (.bl false)) ρ2) := by
  refine pe_mono (pe_chain (cm_ok O c) (cm_ok O d) ha hb hf hm) fun σ H Q ⟨as, ρ, Q', E, w, c'⟩ => ?_
  refine ⟨as, ρ, _, E, w, fun as1 r1 ρ1 v H1 A1 P1 q1 => ⟨as1, ρ1, _, A1.er, q1, fun as2 r2 ρ2 u H2 A2 P2 q2 => ?_⟩⟩
  obtain ⟨x, e1, q2⟩ := wRd_some q2
  obtain ⟨y, e2, q2⟩ := wRd_some q2
  have A := A1.trans A2
  refine cmp2_sound c ((P1.wt.step A2.le A2.ext).got A2.er e1) (P2.wt.got A2.er e2) q2 fun z hz => ⟨z, rfl, br_if hz (fun q => ?_) fun q => (fin_of A c').val A2.er (rep_bl _) q⟩
  refine ⟨as2, ρ2, _, A2.er, q, fun as3 r3 ρ3 w3 H3 A3 P3 q3 => ?_⟩
  obtain ⟨y', e3, q3⟩ := wRd_some q3
  obtain ⟨z', e4, q3⟩ := wRd_some q3
  exact cmp2_sound d ((P2.wt.step A3.le A3.ext).got A3.er e3) (P3.wt.got A3.er e4) q3 fun z hz => (fin_of (A.trans A3) c').val A3.er (rep_bl _) hz
theorem vt_chain (O : Ok X F) (c d : Cm) (ha : VE X F a wa) (hb : VE X F b wb) (hf : VE X F f wf) (hm : lastMarks [cmP c, cmP d] [b, f] = false) :
    VT X F (.Compare a [cmP c, cmP d] [b, f] pos) fun ρ Q => wa ρ fun r1 ρ1 => wb ρ1 fun r2 ρ2 => wRd r1 ρ2 fun x => wRd r2 ρ2 fun y => cmp2 c x y fun z =>
      br z (wf ρ2 fun r3 ρ3 => wRd r2 ρ3 fun y => wRd r3 ρ3 fun v => cmp2 d y v fun z => Q z ρ3) (Q false ρ2) := by
  refine pt_mono (pt_chain (cm_ok O c) (cm_ok O d) ha hb hf hm) fun σ H Q ⟨as, ρ, Q', E, w, c'⟩ => ?_
  refine ⟨as, ρ, _, E, w, fun as1 r1 ρ1 v H1 A1 P1 q1 => ⟨as1, ρ1, _, A1.er, q1, fun as2 r2 ρ2 u H2 A2 P2 q2 => ?_⟩⟩
  obtain ⟨x, e1, q2⟩ := wRd_some q2
  obtain ⟨y, e2, q2⟩ := wRd_some q2
  have A := A1.trans A2
  refine cmp2_sound c ((P1.wt.step A2.le A2.ext).got A2.er e1) (P2.wt.got A2.er e2) q2 fun z hz => ⟨z, rfl, br_if hz (fun q => ?_) fun q => ⟨false, rfl, c' as2 false ρ2 H2 A q⟩⟩
  refine ⟨as2, ρ2, _, A2.er, q, fun as3 r3 ρ3 w3 H3 A3 P3 q3 => ?_⟩
  obtain ⟨y', e3, q3⟩ := wRd_some q3
  obtain ⟨z', e4, q3⟩ := wRd_some q3
  exact cmp2_sound d ((P2.wt.step A3.le A3.ext).got A3.er e3) (P3.wt.got A3.er e4) q3 fun z hz => ⟨z, rfl, c' as3 z ρ3 H3 (A.trans A3) hz⟩

/-! ### a list of ours written -/
theorem SlAt.upd {i : Nat} {x : Option (Option V)} {s : Sl} {b : Addr} {o : HO} (e : Ext (F.av as) H (upd H b o)) (nb : as i ≠ some b) (h : SlAt F H as i x s) : SlAt F (upd H b o) as i x s := by
  cases s with
  | un => exact h
  | val d =>
    obtain ⟨h1, v, h2, h3⟩ := h
    exact ⟨h1, v, h2, Rep.ext e h3⟩
  | own ds =>
    obtain ⟨c, xs, h1, h2, h3, h4, h5⟩ := h
    have : c ≠ b := fun z => nb (by rw [h1, z])
    exact ⟨c, xs, h1, h2, h3, by rw [upd_ne this]; exact h4, Reps.ext e h5⟩
  | par ds =>
    obtain ⟨c, xs, h1, h2, h3, h4, h5⟩ := h
    have : c ≠ b := fun z => nb (by rw [h1, z])
    exact ⟨c, xs, h1, h2, h3, by rw [upd_ne this]; exact h4, Reps.ext e h5⟩
theorem ext_write {av : Addr → Prop} {b : Addr} {xs ys : List V} (hb : H b = some (.lst xs)) (ha : av b) : Ext av H (upd H b (.lst ys)) := by
  refine ⟨fun a o h n => ?_, fun a o h n => ?_, fun a o h => ?_⟩
  · rw [upd_ne (show a ≠ b from fun z => n (z ▸ ha))]; exact h
  · rw [upd_ne (show a ≠ b from fun z => by subst z; rw [hb] at h; cases h; exact n xs rfl)]; exact h
  · by_cases z : a = b
    · exact ⟨_, by rw [z, upd_same]⟩
    · exact ⟨o, by rw [upd_ne z]; exact h⟩
/-- slot i's list, at b, is now ys -/
theorem ER.write (E : ER F as σ H ρ) {i : Nat} {b : Addr} {xs ys : List V} {ds ds' : List D} (hi : as i = some b) (hb : H b = some (.lst xs)) (r : Reps F.K H (F.av as) ds' ys) :
    (gt ρ i = .own ds → ER F as σ (upd H b (.lst ys)) (ρ.set i (.own ds'))) ∧ (gt ρ i = .par ds → ER F as σ (upd H b (.lst ys)) (ρ.set i (.par ds'))) ∧ Ext (F.mu as) H (upd H b (.lst ys)) := by
  have e0 : Ext (F.mu as) H (upd H b (.lst ys)) := ext_write hb (.inl ⟨i, hi⟩)
  have e : Ext (F.av as) H (upd H b (.lst ys)) := e0.mono fun _ => mu_av
  have old : Ext F.ch F.H0 (upd H b (.lst ys)) := by
    rcases E.own i b hi with h | h | h
    · refine ⟨fun a o h1 n => ?_, fun a o h1 n => ?_, fun a o h1 => let ⟨o', h2⟩ := E.old.there a o h1; (ext_write (av := fun _ => True) hb trivial).there a o' h2⟩
      · have na : a ≠ b := fun z => by subst z; rw [h] at h1; cases h1
        rw [upd_ne na]; exact E.old.keep a o h1 n
      · have na : a ≠ b := fun z => by subst z; rw [h] at h1; cases h1
        rw [upd_ne na]; exact E.old.other a o h1 n
    · exact E.old.trans (ext_write hb (.inr h))
    · exact E.old.trans (ext_write hb (.inl h))
  have go : ∀ s : Sl, SlAt F (upd H b (.lst ys)) as i σ[i]? s → ER F as σ (upd H b (.lst ys)) (ρ.set i s) := fun s hs => by
    refine ⟨by rw [List.length_set]; exact E.len, E.inj, E.nex, fun j => ?_, old, E.own, fun c z q => E.exo c z (e.free q), E.mok, fun p hp => Rep.ext e (E.kept p hp)⟩
    by_cases q : j = i
    · subst q
      by_cases l : j < ρ.length
      · show SlAt _ _ _ j σ[j]? (gt (ρ.set j s) j)
        rw [gt_set ρ l]; exact hs
      · exfalso
        have q := E.sl j
        rw [List.getElem?_eq_none (show ρ.length ≤ j by omega)] at q
        have q' : as j = none := q
        rw [q'] at hi; cases hi
    · show SlAt _ _ _ j σ[j]? (gt (ρ.set i s) j)
      rw [gt_ne ρ q]
      exact (E.sl j).upd e fun z => q (E.inj j i b z hi)
  refine ⟨fun h => go _ ?_, fun h => go _ ?_, e0⟩
  · have q := E.sl i
    rw [show ρ[i]?.getD .un = _ from h] at q
    obtain ⟨c, xs', h1, h2, h3, h4, h5⟩ := q
    rw [hi] at h1; cases h1
    exact ⟨b, ys, hi, h2, h3, upd_same, Reps.ext e r⟩
  · have q := E.sl i
    rw [show ρ[i]?.getD .un = _ from h] at q
    obtain ⟨c, xs', h1, h2, h3, h4, h5⟩ := q
    rw [hi] at h1; cases h1
    exact ⟨b, ys, hi, h2, h3, upd_same, Reps.ext e r⟩
end
end VL

/-! VL8: methods of a list of ours; calls of defs. -/
namespace VL
open PySem PySem.Spec L2
def rM (m : Mt) : V → List V → Hp → VK → Prop := match m with
  | .append => rAppend
  | .extend => rExtend
  | .pop => rPop
  | .reverse => rReverse
  | .insert => fun x vs H Q => ∃ (l : Addr) (xs : List V) (i : Int) (y : V), x = .ref l ∧ vs = [.int i, y] ∧ H l = some (.lst xs) ∧ xs.length < sizeLine ∧ 0 ≤ i ∧ i < 2 ^ 63 ∧ Q .non (upd H l (.lst (xs.take i.toNat ++ [y] ++ xs.drop i.toNat)))
  | .popAt => rPopAt
def nmM : Mt → Str | .append => "append" | .extend => "extend" | .pop => "pop" | .reverse => "reverse" | .insert => "insert" | .popAt => "pop"
section
variable {X : Cx} {F : Fr} {as as' as1 as2 : As} {σ : L2.St} {H H' H1 H2 : Hp} {ρ ρ' ρ1 ρ2 : En} {e a b : Expr} {es : List Expr} {wa wb : WE} {wl : WA} {pos p : Pos}
theorem Reps.last {K : PySem.W.Frag} {av : Addr → Prop} {ds : List D} {xs : List V} {d : D} (r : Reps K H av ds xs) (h : ds.getLast? = some d) : (∃ v, xs[xs.length - 1]? = some v ∧ Rep K H av d v) ∧ Reps K H av ds.dropLast xs.dropLast := by
  rw [List.getLast?_eq_getElem?] at h
  refine ⟨by rw [r.length]; exact r.get h, ?_⟩
  rw [List.dropLast_eq_take, List.dropLast_eq_take, r.length]
  exact Reps.take _ r
theorem Reps.two {K : PySem.W.Frag} {av : Addr → Prop} {d d' : D} {vs : List V} (r : Reps K H av [d, d'] vs) : ∃ v v', vs = [v, v'] ∧ Rep K H av d v ∧ Rep K H av d' v' := by
  unfold Reps at r
  obtain ⟨v, r1, rfl, h1, r⟩ := r
  unfold Reps at r
  obtain ⟨v', r2, rfl, h2, r⟩ := r
  unfold Reps at r
  subst r
  exact ⟨v, v', rfl, h1, h2⟩
theorem Reps.one {K : PySem.W.Frag} {av : Addr → Prop} {d : D} {vs : List V} (r : Reps K H av [d] vs) : ∃ v, vs = [v] ∧ Rep K H av d v := by
  unfold Reps at r
  obtain ⟨v, r1, rfl, h1, r⟩ := r
  unfold Reps at r
  subst r
  exact ⟨v, rfl, h1⟩
theorem Reps.erase {K : PySem.W.Frag} {av : Addr → Prop} : ∀ {ds : List D} {vs : List V} (i : Nat), Reps K H av ds vs → Reps K H av (ds.eraseIdx i) (vs.eraseIdx i)
  | [], vs, _, h => by unfold Reps at h; subst h; exact Reps.nil
  | d' :: ds, vs, i, h => by
    unfold Reps at h
    obtain ⟨v', r', rfl, h1, h2⟩ := h
    cases i with
    | zero => exact h2
    | succ i => exact Reps.cons h1 (Reps.erase i h2)
theorem m_sound {K : PySem.W.Frag} {av : Addr → Prop} (m : Mt) {b : Addr} {xs : List V} {ds ag : List D} {vs : List V} {k : D → List D → Prop} {Q : VK} (hb : H b = some (.lst xs)) (r : Reps K H av ds xs) (ra : Reps K H av ag vs) (q : mth m ds ag k)
    (f : ∀ d v ds' ys, Rep K H av d v → Reps K H av ds' ys → k d ds' → Q v (upd H b (.lst ys))) : rM m (.ref b) vs H Q := by
  unfold mth at q
  split at q
  · obtain ⟨v, rfl, h⟩ := ra.one
    exact ⟨b, xs, v, rfl, rfl, hb, by rw [r.length, sizeLine_eq]; exact q.1, f _ _ _ _ rep_non (r.append (.cons h .nil)) q.2⟩
  · obtain ⟨v, rfl, h⟩ := ra.one
    unfold Rep at h
    obtain ⟨c, zs, rfl, h1, _, h2⟩ := h
    exact ⟨b, c, xs, zs, rfl, rfl, hb, h1, by rw [r.length, h2.length]; exact sm_line q.1, f _ _ _ _ rep_non (r.append h2) q.2⟩
  · obtain ⟨d, q1, q2⟩ := q
    unfold Reps at ra
    subst ra
    obtain ⟨⟨v, h1, h2⟩, h3⟩ := r.last q1
    exact ⟨b, xs, v, rfl, rfl, hb, h1, f _ _ _ _ h2 h3 q2⟩
  · unfold Reps at ra
    subst ra
    exact ⟨b, xs, rfl, rfl, hb, f _ _ _ _ rep_non r.reverse q⟩
  · obtain ⟨v, v', rfl, h, h'⟩ := ra.two
    unfold Rep at h
    subst h
    obtain ⟨q1, q2, q3⟩ := q
    refine ⟨b, xs, _, v', rfl, rfl, hb, by rw [r.length, sizeLine_eq]; exact q2, q1.1, q1.2, f _ _ _ _ rep_non ?_ q3⟩
    rw [List.append_assoc]
    exact (r.take _).append (Reps.cons h' (r.drop _))
  · obtain ⟨v, rfl, h⟩ := ra.one
    unfold Rep at h
    subst h
    obtain ⟨q1, j, d, q2, q3, q4⟩ := q
    obtain ⟨y, h1, h2⟩ := r.get q3
    refine ⟨b, xs, _, j, y, rfl, rfl, hb, q1.1, q1.2, by rw [r.length]; exact (ixN_seq q2).1, h1, f _ _ _ _ h2 (r.erase j) q4⟩
  · exact q.elim
/-- the reading of x.m(..) -/
theorem mth_read (O : Ok X F) (m : Mt) {i : Nat} {wl : WA} {h : VA X F es wl} {σ : L2.St} {H : Hp} {Q : VK}
    (q : lE F (fun ρ Q => isOwn (gt ρ i) = true ∧ wl ρ fun rs ρ1 => frz rs ρ1 fun ds ρ2 => mthS m i ds ρ2 Q) σ H Q) :
    tVar i σ H fun x H1 => tyV F.K "list" x H1 ∧ lA F wl σ H1 fun vs H2 => rM m x vs H2 Q := by
  obtain ⟨as, ρ, Q', E, ⟨w0, w⟩, c⟩ := q
  have ls : ∃ ds, gt ρ i = .own ds ∨ gt ρ i = .par ds := by
    cases z : gt ρ i with
    | own ds => exact ⟨ds, .inl rfl⟩
    | par ds => exact ⟨ds, .inr rfl⟩
    | un => rw [z] at w0; cases w0
    | val d => rw [z] at w0; cases w0
  obtain ⟨ds0, z⟩ := ls
  obtain ⟨b, xs0, h1, h2, h3, _⟩ := E.list z
  refine ⟨.ref b, h2, .inl ⟨rfl, xs0, .inl (.inl h3)⟩, as, ρ, _, E, w, fun as1 rs ρ1 vs H1 A W q => ?_⟩
  obtain ⟨ag, as2, ρ2, l, E2, g, q⟩ := Wts.frz (wts_of W) A.er q
  have A2 := A.frz l E2
  have fin : ∀ ds, (gt ρ2 i = .own ds ∨ gt ρ2 i = .par ds) → ∀ k, mth m ds ag k → (∀ d v ds' ys, Rep F.K H1 (F.av as2) d v → Reps F.K H1 (F.av as2) ds' ys → as2 i = some b → ∀ xs, H1 b = some (.lst xs) → k d ds' → Q v (upd H1 b (.lst ys))) → rM m (.ref b) vs H1 Q := by
    intro ds z k q f
    obtain ⟨b', xs, g1, g2, g3, g4⟩ := E2.list z
    have e := A2.le i b' g1
    rw [h1] at e
    cases e
    exact m_sound m g3 g4 g q fun d v ds' ys r1 r2 hk => f d v ds' ys r1 r2 g1 xs g3 hk
  unfold mthS at q
  cases z2 : gt ρ2 i with
  | un => simp only [z2] at q
  | val d => simp only [z2] at q
  | own ds =>
    simp only [z2] at q
    refine fin ds (.inl z2) _ q fun d v ds' ys r1 r2 hi xs hb hk => ?_
    obtain ⟨f1, _, f3⟩ := E2.write (ds := ds) hi hb r2
    exact c as2 (.val d) _ v _ (A2.trans ⟨Le.refl _, f1 z2, f3⟩) (Rep.ext (f3.mono fun _ => mu_av) r1) hk
  | par ds =>
    simp only [z2] at q
    refine fin ds (.inr z2) _ q fun d v ds' ys r1 r2 hi xs hb hk => ?_
    obtain ⟨_, f2, f3⟩ := E2.write (ds := ds) hi hb r2
    exact c as2 (.val d) _ v _ (A2.trans ⟨Le.refl _, f2 z2, f3⟩) (Rep.ext (f3.mono fun _ => mu_av) r1) hk
/-- x.m(e, ..) -/
theorem ve_mth (O : Ok X F) (m : Mt) {i : Nat} {x : Str} {px ap : Pos} (hN : X.N[i]? = some x) (hv : Vis X.env.scope x) (hd : (x == ("__debug__" : Str)) = false) (hcd : (x == ("__classdict__" : Str)) = false) (hm : m = .append ∨ m = .extend ∨ m = .insert ∨ m = .popAt)
    (h : VA X F (e :: es) wl) (hfew : ((backTo pos (starEach (e :: es) X.env)).all (fun x => !x.1) && (backToKw pos (keywordEach [] X.env)).all (fun x => x.1.isSome)
      && decide ((e :: es).length + ([] : List Keyword).length + (if ([] : List Keyword).isEmpty then 0 else 1) < 30)) = true)
    (hline : (ap.endLine == pos.line) = true) (hs : starEach (e :: es) X.env = (false, eval e X.env) :: starEach es X.env) (hplain : (backTo pos (starEach es X.env)).any (·.1) = false) :
    VE X F (.Call (.Attribute (.Name x px) (nmM m) ap) (e :: es) [] pos) fun ρ Q => isOwn (gt ρ i) = true ∧ wl ρ fun rs ρ1 => frz rs ρ1 fun ds ρ2 => mthS m i ds ρ2 Q := by
  have key : PE X (.Call (.Attribute (.Name x px) (nmM m) ap) (e :: es) [] pos) (tBM X.K "list" (rM m) (tVar i) (lA F wl)) := by
    have pvr : PE X (.Name x px) (tVar i) := pe_var hN hv hd hcd
    rcases hm with rfl | rfl | rfl | rfl
    · exact pe_bm PySem.F.plainAttrs_list PySem.F.slot_list_append PySem.F.type_list_append mt_append pvr h (by rfl) hfew hline hs hplain
    · exact pe_bm PySem.F.plainAttrs_list PySem.F.slot_list_extend PySem.F.type_list_extend mt_extend pvr h (by rfl) hfew hline hs hplain
    · exact pe_bm PySem.F.plainAttrs_list PySem.F.slot_list_insert PySem.F.type_list_insert mt_insert pvr h (by rfl) hfew hline hs hplain
    · exact pe_bm PySem.F.plainAttrs_list PySem.F.slot_list_pop PySem.F.type_list_pop mt_popAt pvr h (by rfl) hfew hline hs hplain
  refine pe_mono key fun σ H Q q => ?_
  obtain ⟨v, h1, h2, h3⟩ := mth_read (h := h) O m q
  exact ⟨v, h1, O.K ▸ h2, h3⟩
theorem ve_mth0 (O : Ok X F) (m : Mt) {i : Nat} {x : Str} {px ap : Pos} (hN : X.N[i]? = some x) (hv : Vis X.env.scope x) (hd : (x == ("__debug__" : Str)) = false) (hcd : (x == ("__classdict__" : Str)) = false) (hm : m = .pop ∨ m = .reverse)
    (hline : (ap.endLine == pos.line) = true) :
    VE X F (.Call (.Attribute (.Name x px) (nmM m) ap) [] [] pos) fun ρ Q => isOwn (gt ρ i) = true ∧ frz [] ρ fun ds ρ2 => mthS m i ds ρ2 Q := by
  have key : PE X (.Call (.Attribute (.Name x px) (nmM m) ap) [] [] pos) (tBM0 X.K "list" (rM m) (tVar i)) := by
    have pvr : PE X (.Name x px) (tVar i) := pe_var hN hv hd hcd
    rcases hm with rfl | rfl
    · exact pe_bm0 PySem.F.plainAttrs_list PySem.F.slot_list_pop PySem.F.type_list_pop mt_pop pvr (by rfl) hline
    · exact pe_bm0 PySem.F.plainAttrs_list PySem.F.slot_list_reverse PySem.F.type_list_reverse mt_reverse pvr (by rfl) hline
  refine pe_mono key fun σ H Q ⟨as, ρ, Q', E, w, c⟩ => ?_
  obtain ⟨v, h1, h2, as', ρ', Q'', E', w', c''⟩ := mth_read (h := va_nil) (wl := fun ρ Q => Q [] ρ) O m ⟨as, ρ, Q', E, w, c⟩
  refine ⟨v, h1, O.K ▸ h2, c'' as' [] ρ' [] H (Aft.refl E') rfl w'⟩

/-! ### what a def promises, over the heap -/
/-- a result, from the caller's side -/
def RQ (K : PySem.W.Frag) (av : Addr → Prop) (g : Option Addr) (H H' : Hp) : R → V → Prop
  | .val d, v => Rep K H' av d v
  | .slot _, _ => False
  | .fresh ds, v => ∃ b xs, v = .ref b ∧ (H b = none ∨ g = some b) ∧ ¬ av b ∧ H' b = some (.lst xs) ∧ Reps K H' (fun c => av c ∨ c = b) ds xs
/-- the addresses of a new list, if it is one -/
def nw : R → V → Addr → Prop
  | .fresh _, v, c => v = .ref c
  | _, _, _ => False
def spR (K : PySem.W.Frag) (f : VF) (vs : List V) (H : Hp) (Q : VK) : Prop := ∃ (ds : List D) (ex : Addr → Prop) (q : R → Option (List D) → Prop), (∀ b, ex b → H b ≠ none) ∧ Reps K H ex ds vs ∧ f.sp ds q ∧
  ∀ r v H' o, Ext (fun _ => False) H H' → RQ K ex none H H' r v → q r o → Q v H'
def spW (K : PySem.W.Frag) (f : VF) (vs : List V) (H : Hp) (Q : VK) : Prop := ∃ (a : Addr) (xs : List V) (ds0 rest : List D) (vr : List V) (ex : Addr → Prop) (q : R → Option (List D) → Prop), vs = .ref a :: vr ∧ (∀ b, ex b → H b ≠ none) ∧ ¬ ex a ∧ H a = some (.lst xs) ∧
  Reps K H (fun c => ex c ∨ c = a) ds0 xs ∧ Reps K H (fun c => ex c ∨ c = a) rest vr ∧ f.sp (.lst ds0 :: rest) q ∧
  ∀ r v H' o, Ext (fun c => c = a) H H' → RQ K (fun c => ex c ∨ c = a) none H H' r v →
    (∀ ds', o = some ds' → ∃ ys, H' a = some (.lst ys) ∧ Reps K H' (fun c => (ex c ∨ c = a) ∨ nw r v c) ds' ys) → q r o → Q v H'
def spG (K : PySem.W.Frag) (f : VF) (vs : List V) (H : Hp) (Q : VK) : Prop := ∃ (a : Addr) (xs : List V) (ds0 rest : List D) (vr : List V) (ex : Addr → Prop) (q : R → Option (List D) → Prop), vs = .ref a :: vr ∧ (∀ b, ex b → H b ≠ none) ∧ ¬ ex a ∧ H a = some (.lst xs) ∧
  Reps K H (fun c => ex c ∨ c = a) ds0 xs ∧ Reps K H (fun c => ex c ∨ c = a) rest vr ∧ f.sp (.lst ds0 :: rest) q ∧
  ∀ d v H' o, Ext (fun c => c = a) H H' → Rep K H' ex d v → q (.val d) o → Q v H'
def spOf (K : PySem.W.Frag) (n : Nat) (f : VF) : Sp := fun vs H Q _ => vs.length = n ∧ match f.kind with
  | .read => spR K f vs H Q
  | .take => spR K f vs H Q
  | .wrt => spW K f vs H Q
  | .give => spG K f vs H Q
  | .wrtB => ∃ v0 va, vs = [v0, va] ∧ spW K f [va, v0] H Q

theorem ER.go {ex' : Addr → Prop} (E : ER F as σ H ρ) (l : Le as' as) (hx : ∀ c, ex' c → F.ex c ∨ (H c = none ∧ H' c ≠ none)) {W : Addr → Prop} (e : Ext W H H') (hW : ∀ c, W c → F.av as c ∧ (F.H0 c = none ∨ F.ch c)) (hl : ρ'.length = ρ.length)
    (hs : ∀ j, (gt ρ' j = gt ρ j ∧ as' j = as j ∧ ∀ b, as j = some b → ¬ W b) ∨ SlAt { F with ex := ex' } H' as' j σ[j]? (gt ρ' j)) : ER { F with ex := ex' } as' σ H' ρ' := by
  have key : ∀ b, H b ≠ none → Fr.av { F with ex := ex' } as' b → F.av as b := fun b hb z => by
    rcases z with z | z | z
    · rcases hx b z with z | ⟨z, _⟩
      · exact .inl z
      · exact absurd z hb
    · exact .inr (.inl (let ⟨i, q⟩ := z; ⟨i, l i b q⟩))
    · exact .inr (.inr z)
  have ea : Ext (fun b => F.av as b ∨ Fr.av { F with ex := ex' } as' b) H H' := e.mono fun c z => .inl (hW c z).1
  have kb : ∀ b, H b ≠ none → (F.av as b ∨ Fr.av { F with ex := ex' } as' b) → F.av as b := fun b hb z => z.elim (fun z => z) (key b hb)
  have rep : ∀ {d : D} {v : V}, Rep F.K H (F.av as) d v → Rep F.K H' (Fr.av { F with ex := ex' } as') d v := fun r => Rep.wk (fun _ _ z => .inr z) (Rep.ext ea (Rep.wk kb r))
  have reps : ∀ {d : List D} {v : List V}, Reps F.K H (F.av as) d v → Reps F.K H' (Fr.av { F with ex := ex' } as') d v := fun r => Reps.wk (fun _ _ z => .inr z) (Reps.ext ea (Reps.wk kb r))
  have nW : ∀ a o, F.H0 a = some o → ¬ F.ch a → ¬ W a := fun a o h n z => by
    rcases (hW a z).2 with q | q
    · rw [q] at h; cases h
    · exact n q
  refine ⟨hl.trans E.len, fun i j b hi hj => E.inj i j b (l i b hi) (l j b hj), fun i b hi z => ?_, fun j => ?_, ⟨fun a o h n => e.keep a o (E.old.keep a o h n) (nW a o h n), fun a o h n => e.other a o (E.old.other a o h n) n, fun a o h => let ⟨o', h'⟩ := E.old.there a o h; e.there a o' h'⟩, fun i b hi => E.own i b (l i b hi), fun b z q => ?_, E.mok, fun p hp => rep (E.kept p hp)⟩
  · rcases hx b z with z | ⟨z, _⟩
    · exact E.nex i b (l i b hi) z
    · exact E.notav z (.inr (.inl ⟨i, l i b hi⟩))
  · rcases hs j with ⟨h1, h2, h3⟩ | h
    · show SlAt _ _ _ j σ[j]? (gt ρ' j)
      rw [h1]
      have q := E.sl j
      change SlAt F H as j σ[j]? (gt ρ j) at q
      cases z : gt ρ j with
      | un => rw [z] at q; exact h2.trans q
      | val d =>
        rw [z] at q
        obtain ⟨q1, v, q2, q3⟩ := q
        exact ⟨h2.trans q1, v, q2, rep q3⟩
      | own ds =>
        rw [z] at q
        obtain ⟨b, xs, q1, q2, q3, q4, q5⟩ := q
        exact ⟨b, xs, h2.trans q1, q2, q3, e.keep _ _ q4 (h3 b q1), reps q5⟩
      | par ds =>
        rw [z] at q
        obtain ⟨b, xs, q1, q2, q3, q4, q5⟩ := q
        exact ⟨b, xs, h2.trans q1, q2, q3, e.keep _ _ q4 (h3 b q1), reps q5⟩
    · exact h
  · rcases z with z | z
    · rcases hx b z with z | ⟨_, z⟩
      · exact E.exo b (.inl z) (e.free q)
      · exact z q
    · exact E.exo b (.inr z) (e.free q)
theorem ER.own_ch (E : ER F as σ H ρ) {i : Nat} {b : Addr} (h : as i = some b) : F.av as b ∧ (F.H0 b = none ∨ F.ch b) :=
  ⟨.inr (.inl ⟨i, h⟩), (E.own i b h).imp id fun z => z.elim .inr .inl⟩
/-- behind a call that changes nothing of ours -/
theorem ER.new_ (E : ER F as σ H ρ) {p : Addr} (n : H p = none) (e : Ext (fun _ => False) H H') (hp : H' p ≠ none) : ER (F.with p) as σ H' ρ :=
  E.go (ex' := fun c => F.ex c ∨ c = p) (Le.refl _) (fun c z => z.elim .inl fun z => .inr (z ▸ ⟨n, hp⟩)) e (fun _ z => z.elim) rfl fun j => .inl ⟨rfl, rfl, fun _ _ z => z⟩

/-! ### calls -/
variable {Γ : Nat → VF}
theorem Gots.length : ∀ {ds : List D} {vs : List V}, Gots F as H ds vs → vs.length = ds.length
  | [], vs, h => by unfold Gots at h; subst h; rfl
  | d :: ds, vs, h => by
    obtain ⟨v, vr, rfl, _, h2⟩ := h
    rw [List.length_cons, List.length_cons, Gots.length h2]
theorem Gots.reps : ∀ {ds : List D} {vs : List V}, Gots F as H ds vs → Reps F.K H (fun _ => False) ds vs
  | [], vs, h => h
  | d :: ds, vs, h => by
    obtain ⟨v, vr, rfl, h1, h2⟩ := h
    exact Reps.cons h1.rep (Gots.reps h2)
/-- read without slots: values that avoid what may be written -/
theorem Wts.rdsN (E : ER F as σ H ρ) : ∀ {rs : List R} {vs : List V} {k : List D → Prop}, Wts F as H rs vs → noSlots rs = true → VL.rds rs ρ k → ∃ ds, Reps F.K H (F.av as) ds vs ∧ k ds
  | [], _, k, h, _, q => ⟨[], h, q⟩
  | r :: rs, _, k, ⟨v, vr, e1, h1, h2⟩, hn, q => by
    subst e1
    unfold noSlots at hn
    obtain ⟨n1, n2⟩ := Bool.and_eq_true_iff.mp hn
    obtain ⟨as0, H0, l0, e0, w⟩ := h1
    cases r with
    | slot i => exact absurd n1 (fun z => nomatch z)
    | val d =>
      obtain ⟨ds, g, q⟩ := Wts.rdsN E h2 n2 q
      exact ⟨d :: ds, Reps.cons (Rep.wk (fun _ _ z => l0.av z) (Rep.ext (e0.mono fun _ => mu_av) w)) g, q⟩
    | fresh es =>
      obtain ⟨ds, g, q⟩ := Wts.rdsN E h2 n2 q
      exact ⟨.lst es :: ds, Reps.cons (Rep.wk (fun _ _ z => l0.av z) (Rep.ext (e0.mono fun _ => mu_av) (show Rep F.K H0 (F.av as0) (.lst es) v from w))) g, q⟩
theorem E_av (E : ER F as σ H ρ) : ∀ b, F.av as b → H b ≠ none := fun b z n => E.notav n z
/-- a def that may write its first argument, a slot's list -/
theorem wrt_sound (f : VF) {rest : List R} {v0 : V} {vr : List V} {Q : VK} {Q' : R → En → Prop} {i : Nat} (E : ER F as σ H ρ) (w0 : Wt F as H (.slot i) v0) (wr : Wts F as H rest vr) (hn : noSlots rest = true)
    (fin : ∀ as' r ρ' v H', Aft F as as' σ H H' ρ' → RP F as' σ H H' ρ' r v → Q' r ρ' → Q v H') (ds0 : List D) (z : gt ρ i = .own ds0 ∨ gt ρ i = .par ds0) (s : List D → Sl) (hs : ∀ d, (gt ρ i = .own ds0 → s d = .own d) ∧ (gt ρ i = .par ds0 → s d = .par d))
    (q : VL.rds rest ρ fun ds => f.sp (.lst ds0 :: ds) fun r o => ∃ ds', o = some ds' ∧ Q' r (ρ.set i (s ds'))) : spW F.K f (v0 :: vr) H Q := by
  obtain ⟨a, xs, h1, h2, h3, h4⟩ := E.list z
  obtain ⟨as0, H0, l0, e0, a', g1, g2⟩ := w0
  have := l0 i a h1
  rw [g1] at this; cases this
  obtain ⟨ds, g, q⟩ := wr.rdsN E hn q
  have ex_iff : ∀ c, ((F.av as c ∧ c ≠ a) ∨ c = a) ↔ F.av as c := fun c => ⟨fun z => z.elim (fun z => z.1) fun z => z ▸ .inr (.inl ⟨i, h1⟩), fun z => by by_cases q : c = a; exact .inr q; exact .inl ⟨z, q⟩⟩
  refine ⟨a, xs, ds0, ds, vr, fun c => F.av as c ∧ c ≠ a, _, by rw [g2], fun b z => E_av E b z.1, fun z => z.2 rfl, h3, Reps.wk (fun c _ z => (ex_iff c).mp z) h4, Reps.wk (fun c _ z => (ex_iff c).mp z) g, q, fun r v H' o e P hO ⟨ds', ho, q⟩ => ?_⟩
  obtain ⟨ys, y1, y2⟩ := hO ds' ho
  have hil : i < ρ.length := by rcases z with z | z <;> exact gt_lt z (fun z => nomatch z)
  have hmu : ∀ c, c = a → F.mu as c := fun c z => .inl ⟨i, z ▸ h1⟩
  have mk : ∀ (ex' : Addr → Prop), (∀ c, ex' c → F.ex c ∨ (H c = none ∧ H' c ≠ none)) → (∀ c, ex' c → F.ex c ∨ nw r v c) → ER { F with ex := ex' } as σ H' (ρ.set i (s ds')) := fun ex' hx hx2 => by
    refine E.go (Le.refl _) hx e (fun c z => z ▸ E.own_ch h1) (by rw [List.length_set]) fun j => ?_
    by_cases q : j = i
    · subst q
      refine .inr ?_
      rw [gt_set ρ hil]
      have q := E.sl j
      change SlAt F H as j σ[j]? (gt ρ j) at q
      have yy : Reps F.K H' (Fr.av { F with ex := ex' } as) ds' ys := Reps.wk (fun c _ z => by
        rcases z with z | z | z
        · rcases hx2 c z with z | z
          · exact .inl ((ex_iff c).mpr (.inl z))
          · exact .inr z
        · exact .inl ((ex_iff c).mpr (.inr (.inl z)))
        · exact .inl ((ex_iff c).mpr (.inr (.inr z)))) y2
      rcases z with z | z
      · rw [(hs ds').1 z]
        rw [z] at q
        obtain ⟨b, xs', q1, q2, q3, q4, q5⟩ := q
        rw [h1] at q1; cases q1
        exact ⟨a, ys, h1, q2, q3, y1, yy⟩
      · rw [(hs ds').2 z]
        rw [z] at q
        obtain ⟨b, xs', q1, q2, q3, q4, q5⟩ := q
        rw [h1] at q1; cases q1
        exact ⟨a, ys, h1, q2, q3, y1, yy⟩
    · exact .inl ⟨gt_ne ρ q, rfl, fun b hb z => q (E.inj j i b hb (z ▸ h1))⟩
  refine fin as r (ρ.set i (s ds')) v H' ⟨Le.refl _, mk F.ex (fun c z => .inl z) (fun c z => .inl z), e.mono hmu⟩ ?_ q
  cases r with
  | val d => exact Rep.wk (fun c _ z => (ex_iff c).mpr z) P
  | slot i => exact P.elim
  | fresh es =>
    obtain ⟨b, xs', k1, k2, k3, k4, k5⟩ := P
    have k2 : H b = none := k2.elim id (fun z => nomatch z)
    refine ⟨b, xs', k1, k2, fun z => k3 ((ex_iff b).mpr z), k4, Reps.wk (fun c _ z => (of_with z).elim (fun z => .inl ((ex_iff c).mpr z)) .inr) k5, ?_⟩
    exact mk (fun c => F.ex c ∨ c = b) (fun c z => z.elim .inl fun z => .inr (z ▸ ⟨k2, by rw [k4]; exact fun z => nomatch z⟩)) fun c z => z.elim .inl fun z => .inr (by rw [z]; exact k1)
theorem call_sound (O : Ok X F) (f : VF) {n : Nat} {rs : List R} {vs : List V} {Q : VK} {Q' : R → En → Prop} (E : ER F as σ H ρ) (W : Wts F as H rs vs) (hl : rs.length = n) (hnf : ∀ ds rest, f.kind = .wrt → rs ≠ .fresh ds :: rest) (q : callR f rs ρ Q')
    (fin : ∀ as' r ρ' v H', Aft F as as' σ H H' ρ' → RP F as' σ H H' ρ' r v → Q' r ρ' → Q v H') (Ex : XK) : spOf F.K n f vs H Q Ex := by
  have wl : ∀ {rs : List R} {vs : List V}, Wts F as H rs vs → vs.length = rs.length := by
    intro rs
    induction rs with
    | nil => intro vs h; cases h; rfl
    | cons r rs ih => intro vs ⟨v, vr, e, _, h⟩; subst e; rw [List.length_cons, List.length_cons, ih h]
  refine ⟨(wl W).trans hl, ?_⟩
  unfold callR at q
  cases hk : f.kind with
  | read =>
    simp only [hk] at q ⊢
    by_cases hs : noSlots rs = true
    · obtain ⟨ds, g, q⟩ := W.rdsN E hs q
      refine ⟨ds, F.av as, _, E_av E, g, q, fun r v H' o e P ⟨_, q⟩ => ?_⟩
      refine fin as r ρ v H' ⟨Le.refl _, E.grow e, e.mono fun _ z => z.elim⟩ ?_ q
      cases r with
      | val d => exact P
      | slot i => exact P.elim
      | fresh es =>
        obtain ⟨b, xs, h1, h2, h3, h4, h5⟩ := P
        have h2 : H b = none := h2.elim id (fun z => nomatch z)
        exact ⟨b, xs, h1, h2, h3, h4, Reps.wk (fun c _ z => of_with z) h5, E.new_ h2 e (by rw [h4]; exact fun z => nomatch z)⟩
    · obtain ⟨ds, g, q⟩ := W.rds E q
      refine ⟨ds, fun _ => False, _, fun _ z => z.elim, g.reps, q, fun r v H' o e P ⟨hz, q⟩ => ?_⟩
      have hf : lfR r = true := hz.elim (fun z => absurd z hs) id
      refine fin as r ρ v H' ⟨Le.refl _, E.grow e, e.mono fun _ z => z.elim⟩ ?_ q
      cases r with
      | val d => exact Rep.lf_av hf P
      | slot i => exact P.elim
      | fresh es =>
        obtain ⟨b, xs, h1, h2, h3, h4, h5⟩ := P
        have h2 : H b = none := h2.elim id (fun z => nomatch z)
        exact ⟨b, xs, h1, h2, E.notav h2, h4, Reps.lf_av hf h5, E.new_ h2 e (by rw [h4]; exact fun z => nomatch z)⟩
  | take =>
    simp only [hk] at q ⊢
    obtain ⟨ds, as2, ρ2, l, E2, g, q⟩ := W.frz E q
    refine ⟨ds, F.av as2, _, E_av E2, g, q, fun r v H' o e P q => ?_⟩
    refine fin as2 r ρ2 v H' ⟨l, E2.grow e, e.mono fun _ z => z.elim⟩ ?_ q
    cases r with
    | val d => exact P
    | slot i => exact P.elim
    | fresh es =>
      obtain ⟨b, xs, h1, h2, h3, h4, h5⟩ := P
      have h2 : H b = none := h2.elim id (fun z => nomatch z)
      exact ⟨b, xs, h1, h2, h3, h4, Reps.wk (fun c _ z => of_with z) h5, E2.new_ h2 e (by rw [h4]; exact fun z => nomatch z)⟩
  | wrt =>
    simp only [hk] at q ⊢
    cases rs with
    | nil => exact q.elim
    | cons r0 rest =>
    obtain ⟨v0, vr, rfl, w0, wr⟩ := W
    cases r0 with
    | val d => exact q.elim
    | fresh es => exact absurd rfl (hnf es rest hk)
    | slot i =>
      obtain ⟨hn, q⟩ := q
      cases z : gt ρ i with
      | un => simp only [z] at q
      | val d => simp only [z] at q
      | own ds0 =>
        simp only [z] at q
        exact wrt_sound f E w0 wr hn fin ds0 (.inl z) .own (fun d => ⟨fun _ => rfl, fun h => (by rw [z] at h; cases h)⟩) q
      | par ds0 =>
        simp only [z] at q
        exact wrt_sound f E w0 wr hn fin ds0 (.inr z) .par (fun d => ⟨fun h => (by rw [z] at h; cases h), fun _ => rfl⟩) q
  | wrtB =>
    simp only [hk] at q ⊢
    match rs, q with
    | [r0, .slot i], q =>
      obtain ⟨v0, vr, rfl, w0, wr⟩ := W
      obtain ⟨v1, vr1, rfl, w1, wr1⟩ := wr
      have wr1 : vr1 = [] := wr1
      subst wr1
      obtain ⟨hn, q⟩ := q
      refine ⟨v0, v1, rfl, ?_⟩
      have w : Wts F as H [r0] [v0] := ⟨v0, [], rfl, w0, rfl⟩
      cases z : gt ρ i with
      | un => simp only [z] at q
      | val d => simp only [z] at q
      | own ds0 =>
        simp only [z] at q
        exact wrt_sound f E w1 w hn fin ds0 (.inl z) .own (fun d => ⟨fun _ => rfl, fun h => (by rw [z] at h; cases h)⟩) q
      | par ds0 =>
        simp only [z] at q
        exact wrt_sound f E w1 w hn fin ds0 (.inr z) .par (fun d => ⟨fun h => (by rw [z] at h; cases h), fun _ => rfl⟩) q
  | give =>
    simp only [hk] at q ⊢
    cases rs with
    | nil => exact q.elim
    | cons r0 rest =>
    obtain ⟨v0, vr, rfl, w0, wr⟩ := W
    cases r0 with
    | val d => exact q.elim
    | fresh es => exact q.elim
    | slot i =>
      obtain ⟨hn, q⟩ := q
      cases z : gt ρ i with
      | un => simp only [z] at q
      | val d => simp only [z] at q
      | par d => simp only [z] at q
      | own ds0 =>
        simp only [z] at q
        obtain ⟨a, xs, h1, h2, h3, h4⟩ := E.list (.inl z)
        obtain ⟨as0, H0, l0, e0, a', g1, g2⟩ := w0
        have := l0 i a h1
        rw [g1] at this; cases this
        obtain ⟨ds, g, q⟩ := wr.rdsN E hn q
        have ex_iff : ∀ c, ((F.av as c ∧ c ≠ a) ∨ c = a) ↔ F.av as c := fun c => ⟨fun z => z.elim (fun z => z.1) fun z => z ▸ .inr (.inl ⟨i, h1⟩), fun z => by by_cases q : c = a; exact .inr q; exact .inl ⟨z, q⟩⟩
        have nm : F.m ≠ some a := fun z' => by
          have q := E.sl i
          change SlAt F H as i σ[i]? (gt ρ i) at q
          rw [z] at q
          obtain ⟨b, xs', q1, q2, q3, q4, q5⟩ := q
          rw [h1] at q1; cases q1
          obtain ⟨m1, m2⟩ := E.mok a z'
          exact q2.elim m1 m2
        have av' : ∀ c, F.av (cutAs as i) c → F.av as c ∧ c ≠ a := fun c z => by
          refine ⟨(cut_le as i).av z, fun q => ?_⟩
          subst q
          rcases z with z | ⟨j, z⟩ | z
          · exact E.nex i c h1 z
          · have := E.inj i j c h1 (cut_le as i j c z)
            subst this
            rw [cut_self] at z; cases z
          · exact nm z
        refine ⟨a, xs, ds0, ds, vr, fun c => F.av as c ∧ c ≠ a, _, by rw [g2], fun b z => E_av E b z.1, fun z => z.2 rfl, h3, Reps.wk (fun c _ z => (ex_iff c).mp z) h4, Reps.wk (fun c _ z => (ex_iff c).mp z) g, q, fun d v H' o e P q => ?_⟩
        have hil : i < ρ.length := gt_lt z (fun z => nomatch z)
        have mk : ∀ (ex' : Addr → Prop), (∀ c, ex' c → F.ex c ∨ (H c = none ∧ H' c ≠ none)) → ER { F with ex := ex' } (cutAs as i) σ H' (ρ.set i .un) := fun ex' hx => by
          refine E.go (cut_le as i) hx e (fun c z => z ▸ E.own_ch h1) (by rw [List.length_set]) fun j => ?_
          by_cases q : j = i
          · subst q
            refine .inr ?_
            rw [gt_set ρ hil]
            exact cut_self as j
          · exact .inl ⟨gt_ne ρ q, cut_ne as q, fun b hb z => q (E.inj j i b hb (z ▸ h1))⟩
        exact fin (cutAs as i) (.val d) (ρ.set i .un) v H' ⟨cut_le as i, mk F.ex (fun c z => .inl z), e.mono fun c z => .inl ⟨i, z ▸ h1⟩⟩ (Rep.wk (fun c _ z => av' c z) P) q
/-- .. its first argument a new list -/
theorem wrt_fresh (f : VF) {b : Addr} {xs : List V} {ds0 : List D} {rest : List R} {vr : List V} {Q : VK} {Q' : R → En → Prop} (E : ER (F.with b) as σ H ρ) (hb : H b = some (.lst xs)) (h0 : F.H0 b = none ∨ F.g = some b) (r0 : Reps F.K H ((F.with b).av as) ds0 xs)
    (hnb : ¬ F.av as b) (wr : Wts (F.with b) as H rest vr) (hn : noSlots rest = true)
    (fin2 : ∀ r v H', ER F as σ H' ρ → Ext (fun c => c = b) H H' → RP F as σ H H' ρ r v → Q' r ρ → Q v H')
    (q : VL.rds rest ρ fun ds => f.sp (.lst ds0 :: ds) fun r _ => Q' r ρ) : spW F.K f (.ref b :: vr) H Q := by
  obtain ⟨ds, g, q⟩ := wr.rdsN E hn q
  refine ⟨b, xs, ds0, ds, vr, F.av as, _, rfl, fun c z => E_av E c (with_av z), hnb, hb, Reps.wk (fun c _ z => ?_) r0, Reps.wk (fun c _ z => ?_) g, q, fun r v H' o e P hO q => ?_⟩
  · exact z.elim with_av fun z => .inl (.inr z)
  · exact z.elim with_av fun z => .inl (.inr z)
  have mk : ∀ (ex' : Addr → Prop), (∀ c, ex' c → (F.with b).ex c ∨ (H c = none ∧ H' c ≠ none)) → ER { F with ex := ex' } as σ H' ρ := fun ex' hx =>
    ER.go (F := F.with b) (W := fun c => c = b) E (Le.refl _) hx e (fun c z => ⟨.inl (.inr z), by subst z; exact h0.imp id .inr⟩) rfl fun j => .inl ⟨rfl, rfl, fun c hc z => E.nex j c hc (.inr z)⟩
  refine fin2 r v H' (mk F.ex fun c z => .inl (.inl z)) e ?_ q
  cases r with
  | val d => exact Rep.wk (fun c _ z => .inl z) P
  | slot i => exact P.elim
  | fresh es =>
    obtain ⟨c, xs', k1, k2, k3, k4, k5⟩ := P
    have k2 : H c = none := k2.elim id (fun z => nomatch z)
    refine ⟨c, xs', k1, k2, fun z => k3 (.inl z), k4, Reps.wk (fun c' _ z => (of_with z).elim (fun z => .inl (.inl z)) .inr) k5, ?_⟩
    exact mk (fun c' => F.ex c' ∨ c' = c) (fun c' z => z.elim (fun z => .inl (.inl z)) fun z => .inr (z ▸ ⟨k2, by rw [k4]; exact fun z => nomatch z⟩))

theorem rws_len : ∀ {rs : List R} {vs : List V}, RWs F as H rs vs → vs.length = rs.length
  | [], vs, h => by unfold RWs at h; subst h; rfl
  | r :: rs, vs, h => by
    obtain ⟨v, vr, rfl, _, h2⟩ := h
    rw [List.length_cons, List.length_cons, rws_len h2]
/-- f(e, ..) -/
theorem ve_call (O : Ok X F) (f : VF) {k : Nat} {fa : Addr} {fd : FuncData} {ps : List Str} {x : Str} (G : FnOk X.prog X.w X.K X.mg X.base CX0 k fa fd ps (spOf F.K ps.length f)) (hr : Room k X.A) (hg : Gl X x) (hm : X.mg x = some (.ref fa)) (hkp : PySem.W.keepIn X.K (.ref fa) = true)
    (hb : Binds X.K fd ps []) (hdb : (x == ("__debug__" : Str)) = false) (ha : VE X F e wa) (har : ∀ F', F'.K = F.K → VA X F' es wl) {n : Nat} (hl : n = ps.length)
    (he : starEach (e :: es) X.env = (false, eval e X.env) :: starEach es X.env) (hpl : (backTo pos (starEach es X.env)).any (·.1) = false) :
    VE X F (.Call (.Name x p) (e :: es) [] pos) fun ρ Q => wa ρ fun r ρ1 => wl ρ1 fun rs ρ2 => (r :: rs).length = n ∧ callR f (r :: rs) ρ2 Q := by
  have hR : PA X es fun σ H Q => ∃ F' : Fr, F'.K = F.K ∧ lA F' wl σ H Q := ⟨fun pos pins s σ H Q I ⟨F', h, q⟩ => (har F' h).run pos pins s σ H Q I q⟩
  refine pe_mono (pe_call G hr hg hm hkp hb .nil pass0 (pa_cons ha hR he) hdb he hpl) fun σ H Q ⟨as, ρ, Q', E, w, c⟩ => ?_
  refine ⟨as, ρ, _, E, w, fun as1 r ρ1 v H1 A1 P1 q1 => ?_⟩
  -- where nothing is to be kept apart
  have plain : (∀ ds rest, f.kind = .wrt → ∀ rs, r :: rs ≠ .fresh ds :: rest) → ∃ F' : Fr, F'.K = F.K ∧ lA F' wl σ H1 fun xs H2 => spOf F.K ps.length f ((v :: xs) ++ []) H2 Q E0 := fun hnf =>
    ⟨F, rfl, as1, ρ1, _, A1.er, q1, fun as2 rs ρ2 vs H2 A2 W ⟨hq, q2⟩ => by
      show spOf F.K ps.length f ((v :: vs) ++ []) H2 Q E0
      rw [List.append_nil]
      refine call_sound O f A2.er (rs := r :: rs) ⟨v, vs, rfl, P1.wt.step A2.le A2.ext, wts_of W⟩ ?_ (fun ds rest h => hnf ds rest h rs) q2 (fun as' r ρ' v H' A P q => c as' r ρ' v H' ((A1.trans A2).trans A) (P.back (A1.trans A2).ext) q) E0
      rw [← hl, hq]⟩
  by_cases hk : f.kind = .wrt
  · cases r with
    | val d => exact plain fun _ _ _ _ z => nomatch z
    | slot i => exact plain fun _ _ _ _ z => nomatch z
    | fresh ds0 =>
      obtain ⟨b, xs, rfl, h0, h1, h2, h3, h4⟩ := P1
      refine ⟨F.with b, rfl, as1, ρ1, _, h4, q1, fun as2 rs ρ2 vs H2 A2 W ⟨hq, q2⟩ => ?_⟩
      show spOf F.K ps.length f ((V.ref b :: vs) ++ []) H2 Q E0
      rw [List.append_nil]
      have hl2 : (V.ref b :: vs).length = ps.length := by rw [← hl, ← hq, List.length_cons, List.length_cons, rws_len W]
      refine ⟨hl2, ?_⟩
      simp only [hk]
      unfold callR at q2
      simp only [hk] at q2
      have nmu : ¬ (F.with b).mu as1 b := fun z => by
        rcases z with ⟨i, z⟩ | z
        · exact h4.nex i b z (.inr rfl)
        · exact h1 (.inr (.inr z))
      have hb2 : H2 b = some (.lst xs) := A2.ext.keep b _ h2 nmu
      have nav2 : ¬ F.av as2 b := fun z => h1 (A2.le.av (F := F) z)
      have r2 : Reps F.K H2 ((F.with b).av as2) ds0 xs := Reps.wk (fun _ _ z => A2.le.av (F := F.with b) z) (Reps.ext (A2.ext.mono fun _ z => mu_av (F := F.with b) z) h3)
      refine wrt_fresh f A2.er hb2 (.inl (E.fresh h0)) r2 nav2 (wts_of W) q2.1 (fun r v H' E' e' P q => ?_) q2.2
      have A : Aft F as as2 σ H H' ρ2 := by
        refine ⟨A2.le.trans A1.le, E', ?_⟩
        have x1 : Ext (F.mu as) H H2 := A1.ext.trans (A2.ext.mono fun c z => A1.le.mu (F := F) z)
        refine ⟨fun a o h n => ?_, fun a o h n => e'.other a o (x1.other a o h n) n, fun a o h => let ⟨o', h'⟩ := x1.there a o h; e'.there a o' h'⟩
        have g := x1.keep a o h n
        by_cases hab : a = b
        · subst hab
          rw [h0] at h; cases h
        · exact e'.keep a o g hab
      exact c as2 r ρ2 v H' A (P.back (A1.ext.trans (A2.ext.mono fun c z => A1.le.mu (F := F) z))) q
  · exact plain fun _ _ z => absurd z hk
/-- f() -/
theorem ve_call0 (O : Ok X F) (f : VF) {k : Nat} {fa : Addr} {fd : FuncData} {ps : List Str} {x : Str} (G : FnOk X.prog X.w X.K X.mg X.base CX0 k fa fd ps (spOf F.K ps.length f)) (hr : Room k X.A) (hg : Gl X x) (hm : X.mg x = some (.ref fa)) (hkp : PySem.W.keepIn X.K (.ref fa) = true)
    (hb : Binds X.K fd ps []) (hdb : (x == ("__debug__" : Str)) = false) (hl : 0 = ps.length) :
    VE X F (.Call (.Name x p) [] [] pos) fun ρ Q => ([] : List R).length = 0 ∧ callR f [] ρ Q := by
  refine pe_mono (pe_call0 G hr hg hm hkp hb .nil pass0 hdb) fun σ H Q ⟨as, ρ, Q', E, ⟨_, w⟩, c⟩ => ?_
  show spOf F.K ps.length f ([] ++ []) H Q E0
  exact call_sound O f E (rs := []) (vs := []) rfl hl (fun ds rest _ z => nomatch z) w c E0
end
end VL

/-! VL9: enumerate over a tuple. -/
namespace VL
open PySem PySem.Spec L2
set_option maxHeartbeats 1000000 in
theorem enumT_meets (t : Addr) (xs : Array Value) (n : Nat) (dd : Option Addr) (sl : Array (Option Value)) :
    Meets (Builtin.«enumerate.__new__» ⟨[.type "enumerate", .ref t], []⟩) (fun _ R s => s.heap.get? t = some { cls := .type "tuple", dict := dd, data := .seq xs n, slots := sl } ∧
      R (.ok (.ret (.ref (s.heap.push { cls := .type "tuple_iterator", data := .fields #[.ref t, .int 0 0] }).objs.size)))
        { s with heap := (s.heap.push { cls := .type "tuple_iterator", data := .fields #[.ref t, .int 0 0] }).push { cls := .type "enumerate", data := .fields #[.none, .bool false, .ref s.heap.objs.size, rawInt 0, .none, .none] } }) :=
  .of_wp fun prog w A R s hyp => by
    obtain ⟨hp, gg, dr, tok, osx⟩ := s
    obtain ⟨ht, hyp⟩ := hyp
    have hT : Heap.IsTuple (Shared.heap ⟨hp, gg, dr, tok, osx⟩) t xs := ⟨_, ht, rfl, n, rfl⟩
    have subE := sub_enumerate
    wp_walk using AutoSeq1.wpAny_loadPart' ht
    refine wpAny_stack_any fun fr => wpAny_pure ?_
    split
    · rename_i c _ _ _ _ _
      cases (c == Value.type "enumerate")
      · wp_walk using AutoSeq1.wpAny_loadPart' ht, wpAny_pyIter_tuple hT
        exact ⟨_, rfl, hyp⟩
      · wp_walk using AutoSeq1.wpAny_loadPart' ht, wpAny_pyIter_tuple hT
        exact ⟨_, rfl, hyp⟩
    · wp_walk using AutoSeq1.wpAny_loadPart' ht, wpAny_pyIter_tuple hT
      exact ⟨_, rfl, hyp⟩
theorem enumT_call {prog : Program} {w : World} {A : Around} {E : Value → Shared → Prop} {s : Shared} {t : Addr} {xs : Array Value} {Q : Value → Shared → Prop} (hT : s.heap.IsTuple t xs)
    (q : ∀ h', IsEnum h' (s.heap.objs.size + 1) s.heap.objs.size 0 .none → h'.IsTupleIter s.heap.objs.size t 0 → (∀ b o, s.heap.get? b = some o → h'.get? b = some o) → Q (.ref (s.heap.objs.size + 1)) { s with heap := h' }) :
    wpAny (model prog w) A (call (.type "enumerate") [.ref t]) Q E s := by
  obtain ⟨⟨cc, dd, dat, sl⟩, ho, e1, n, e2⟩ := hT
  obtain rfl : cc = .type "tuple" := e1
  obtain rfl : dat = .seq xs n := e2
  refine callType_new F.called_enumerate (by decide) (F.typeCall_enumerate_1 _) (F.newCall_enumerate_1 _) (fun obj => F.args_object_init_2 obj _) F.entry_enumerate_new (enumT_meets t xs n dd sl) ⟨ho, ?_⟩
  have sz : (s.heap.push { cls := .type "tuple_iterator", data := .fields #[.ref t, .int 0 0] }).objs.size = s.heap.objs.size + 1 := Heap.size_push ..
  show _ ∧ _
  rw [sz]
  have hE : IsEnum ((s.heap.push { cls := .type "tuple_iterator", data := .fields #[.ref t, .int 0 0] }).push
      { cls := .type "enumerate", data := .fields #[.none, .bool false, .ref s.heap.objs.size, rawInt 0, .none, .none] }) (s.heap.objs.size + 1) s.heap.objs.size 0 .none := by
    have g := Heap.get?_push_size (s.heap.push { cls := .type "tuple_iterator", data := .fields #[.ref t, .int 0 0] })
      (o := { cls := .type "enumerate", data := .fields #[.none, .bool false, .ref s.heap.objs.size, rawInt 0, .none, .none] }) rfl
    rw [sz] at g
    exact g
  exact ⟨⟨_, hE, rfl⟩, q _ hE ⟨_, Heap.get?_push_of_some _ (Heap.get?_push_size _ rfl), rfl, rfl⟩ fun b o y => Heap.get?_push_of_some _ (Heap.get?_push_of_some _ y)⟩

/-- the tuple at a, each item in a new pair with its place -/
def IteT (K : PySem.W.Frag) (a : Addr) : L2.It :=
  ⟨fun i H => ∃ (xs : List V) (x : V), SqT K H a xs ∧ xs[i]? = some x, fun i H v H' => ∃ T x, v = .ref T ∧ H T = none ∧ H' = upd H T (.tup [.int (i : Nat), x]) ∧ ∀ xs, SqT K H a xs → xs[i]? = some x, fun i H => ∃ xs : List V, SqT K H a xs ∧ xs.length = i⟩
theorem turn_enumT {P : Program} {w : World} {K : PySem.W.Frag} {elts : List Expr} {kk : Nat} {tpos : Pos} (a e it : Addr) :
    L2.Turn P w K (.Tuple elts kk tpos) (IteT K a) [e, it] e (fun i h => (∃ old, IsEnum h e it ((i : Nat) : Int) old) ∧ h.IsTupleIter it a i ∧ e ≠ it) where
  mem := List.mem_cons_self
  obj := fun i h st b hb => by
    obtain ⟨⟨old, he⟩, ⟨o, ho, hc, hd⟩, _⟩ := st
    rcases List.mem_cons.mp hb with z | z
    · subst z; exact ⟨_, he, fun v q => nomatch q⟩
    · rw [List.mem_singleton.mp z]; exact ⟨o, ho, fun v q => by rw [hd] at q; cases q⟩
  keep := fun i h h' st k => let ⟨⟨old, he⟩, hi, hne⟩ := st; ⟨⟨old, k e (by simp) _ he⟩, hi.at fun o q => k it (by simp) o q, hne⟩
  item := by
    intro X hP hw hK hc i pins s σ H E I hf st hg
    subst hP hw hK
    obtain ⟨⟨old, he⟩, hit, hne⟩ := st
    obtain ⟨xs, x, hq, hx⟩ := hg
    obtain ⟨its, rv, p, hz⟩ := I.tuple hq
    obtain ⟨u, hu, ru⟩ := rv.get hx
    have elt : e < s.heap.objs.size := Heap.lt_size he
    have ilt : it < s.heap.objs.size := by obtain ⟨_, q, _⟩ := hit; exact Heap.lt_size q
    have hp : s.heap.IsTuple a its.toArray := p
    have ai : a ≠ it := fun z => by
      subst z
      obtain ⟨o1, g1, g2, _⟩ := hit
      obtain ⟨o2, g3, g4, _⟩ := hp
      rw [g1] at g3; cases g3
      rw [g2] at g4; exact absurd g4 (by decide)
    have ae : a ≠ e := fun z => by
      subst z
      obtain ⟨o2, g3, g4, _⟩ := hp
      rw [show s.heap.get? a = _ from he] at g3; cases g3
      exact absurd (show Value.type "enumerate" = Value.type "tuple" from g4) (by decide)
    have lt : i < its.toArray.size := by
      have := (List.getElem?_eq_some_iff.mp hu).1
      simpa using this
    refine wpAny_pyNext_enum_itemD (Draws.tuple (A := X.A.in1) (I.ok.hd hc) it a ai its.toArray) he ⟨hit, hp⟩ lt hne (by simp [hne, Ne.symm ae]) fun x' h' tk hx' ho hst hT hsz hk => ?_
    have ex : x' = u := by
      have := hx'
      simp only [List.getElem?_toArray] at this
      rw [hu] at this
      exact (Option.some.inj this).symm
    subst ex
    obtain ⟨hit', _⟩ := hst
    refine ⟨_, rfl, wpAny_letOwnedTupleGo_enum (s := { s with heap := h', toks := tk + 1 }) ho fun h'' he' sb => ?_⟩
    have hT2 : h''.get? s.heap.objs.size = some { cls := .type "tuple", data := .seq #[.int i tk, x'] } := (sb.2 _ (Nat.ne_of_gt elt)).trans hT
    have new : ObjOk X.prog X.w (upd H s.heap.objs.size (.tup [.int (i : Nat), x])) h'' s.heap.objs.size (.tup [.int (i : Nat), x]) :=
      ⟨by show 2 ≤ sizeLine; decide, [.int i tk, x'], .cons ⟨_, rfl⟩ (.cons ru .nil), ⟨_, hT2, rfl, _, rfl⟩⟩
    have I1 : Inv X pins σ (upd H s.heap.objs.size (.tup [.int (i : Nat), x])) { s with heap := h'', toks := tk + 1 } :=
      I.turnedNew (ch := [e, it]) (fun b ob hb q => (sb.2 b (fun z => hb (by simp [z]))).trans (hk b ob (fun z => hb (by simp [z])) (fun z => hb (by simp [z])) q)) hf (Nat.le_refl _) new
    refine ⟨.ref s.heap.objs.size, _, I1, rfl, ⟨_, x, rfl, I.hok.fresh (Nat.le_refl _), rfl, fun ys hy => by rw [I.tuple_inj hy hq]; exact hx⟩, ⟨⟨x', ?_⟩, hit'.at fun o q => (sb.2 it (Ne.symm hne)).trans q, hne⟩, fun b hb => ?_⟩
    · rw [show ((i + 1 : Nat) : Int) = (i : Int) + 1 by omega]; exact he'
    · have hb' : b < s.heap.objs.size := by
        rcases List.mem_cons.mp hb with z | z
        · rw [z]; exact elt
        · rw [List.mem_singleton.mp z]; exact ilt
      rw [upd_ne (Nat.ne_of_lt hb')]
      exact (hf b hb).1
  done := by
    intro X hP hw hK hc i pins s σ H E I hf st hg
    subst hP hw hK
    obtain ⟨⟨old, he⟩, hit, hne⟩ := st
    obtain ⟨xs, hq, hx⟩ := hg
    obtain ⟨its, rv, p, hz⟩ := I.tuple hq
    obtain ⟨f0, f1, f2, f3, f4, f5⟩ := hf it (by simp)
    have hp : s.heap.IsTuple a its.toArray := p
    have ai : a ≠ it := fun z => by
      subst z
      obtain ⟨o1, g1, g2, _⟩ := hit
      obtain ⟨o2, g3, g4, _⟩ := hp
      rw [g1] at g3; cases g3
      rw [g2] at g4; exact absurd g4 (by decide)
    have hl := rv.length
    have en : its.toArray.size = i := by simp; omega
    subst hx
    refine wpAny_pyNext_enum_endD (Draws.tuple (A := X.A.in1) (I.ok.hd hc) it a ai its.toArray) he ⟨?_, hp⟩ fun h' eb => ⟨rfl, I.turned (t' := s.toks) (fun b o hb q => eb b o hb q) f0 f1 f3 f4 f5⟩
    rw [en]; exact hit
  self := fun A i s Q E st h => let ⟨⟨_, he⟩, _⟩ := st; wpAny_pyIter_enum he h
/-- enumerate(x), x a list or a tuple -/
def iEnumA (K : PySem.W.Frag) (ta : TA) : TI := fun σ H R => ta σ H fun vs H1 => ∃ a xs, vs = [.ref a] ∧ ((SqL K H1 a xs ∧ R (Ite K a) H1) ∨ (SqT K H1 a xs ∧ R (IteT K a) H1))
theorem pi_enumA {X : Cx} {e : Expr} {ta : TA} {p pos tpos : Pos} {elts : List Expr} {kk : Nat} (hg : Gl X "enumerate") (hm : X.mg "enumerate" = none) (ha : PA X [e] ta) (hs : starEach [e] X.env = [(false, eval e X.env)]) :
    PI X (.Tuple elts kk tpos) (.Call (.Name "enumerate" p) [e] [] pos) (iEnumA X.K ta) := by
  refine ⟨fun pins s σ H R I h => ?_⟩
  refine PyProof.Rows.Call_ (ld_blt I hg hm PyProof.Rows.boot_enumerate (PyProof.Rows.callWith_type1 (thn (ha.run pos pins s σ H _ I h) fun us s1 ⟨vs, H1, I1, r1, q1⟩ => ?_) hs rfl))
  obtain ⟨a, xs, ex, q1⟩ := q1
  subst ex
  obtain ⟨u, rfl, r⟩ := Vals.one r1
  cases r
  have two : ∀ b, b ∈ [s1.heap.objs.size + 1, s1.heap.objs.size] → FpOk X pins H1 b := fun b hb => by
    have le : s1.heap.objs.size ≤ b := by
      rcases List.mem_cons.mp hb with z | z
      · rw [z]; exact Nat.le_add_right _ _
      · rw [List.mem_singleton.mp z]; exact Nat.le_refl _
    exact I1.fpOk le (I1.hok.fresh le)
  rcases q1 with ⟨hq, q⟩ | ⟨hq, q⟩
  · obtain ⟨its, rv, p', hz⟩ := I1.list hq
    refine call_enumerate_list p'.isList fun h' he hit hsz hk => wpAny_pyIter_enum he ?_
    exact ⟨s1.heap.objs.size + 1, _, _, _, H1, rfl, I1.kept (t' := s1.toks) hk, turn_enum a (s1.heap.objs.size + 1) s1.heap.objs.size, ⟨⟨.none, he⟩, hit, Nat.succ_ne_self _⟩, two, q⟩
  · obtain ⟨its, rv, p', hz⟩ := I1.tuple hq
    refine enumT_call (show s1.heap.IsTuple a its.toArray from p') fun h' he hit hk => wpAny_pyIter_enum he ?_
    exact ⟨s1.heap.objs.size + 1, _, _, _, H1, rfl, I1.kept (t' := s1.toks) hk, turn_enumT a (s1.heap.objs.size + 1) s1.heap.objs.size, ⟨⟨.none, he⟩, hit, Nat.succ_ne_self _⟩, two, q⟩
theorem walk_enumT {K : PySem.W.Frag} {a : Addr} {xs : List V} : Walk (IteT K a) xs.length (fun H => SqT K H a xs) (YPair (fun i => some (.int (i : Nat))) (fun i => xs[i]?)) := by
  refine ⟨fun i _ hi q => ⟨xs, xs[i], q, by simp [hi]⟩, fun _ q => ⟨xs, q, rfl⟩, fun i H v H' _ q ⟨T, x, h1, h2, h3, h4⟩ => ?_⟩
  exact ⟨T, .int (i : Nat), x, h1, h2, h3, rfl, h4 xs q⟩
/-! ### range of great numbers -/
theorem turn_rangeL {P : Program} {w : World} {K : PySem.W.Frag} {tg : Expr} (it : Addr) (lo c : Int) (n : Nat) : Turn P w K tg (Itc lo c n) [it] it (fun i h => IsLongIter h it (lo + (i : Nat) * c) ((n : Int) - (i : Nat)) c) where
  mem := by simp
  obj := fun i h st b hb => by
    have e : b = it := by simpa using hb
    subst e
    exact ⟨_, st, fun v z => nomatch z⟩
  keep := fun i h h' st k => k it (by simp) _ st
  item := by
    intro X hP hw hK hc i pins s σ H E I hf st hg
    subst hP hw hK
    obtain ⟨f0, f1, f2, f3, f4, f5⟩ := hf it (by simp)
    have W := Walks.longrange (prog := X.prog) (w := X.w) (I.ok.hd hc) it lo c n
    refine W.item i s _ _ hg st fun v h' tk hv st' kk => ?_
    obtain ⟨t, rfl⟩ := hv
    have I1 : Inv X pins σ H { s with heap := h', toks := tk } := I.turned (fun b o hb e => kk b o (by simpa using hb) e) f0 f1 f3 f4 f5
    exact ⟨_, rfl, go_of (s := { s with heap := h', toks := tk }) (n := "longrange_iterator") st' rfl rfl (by decide) ⟨.int (lo + (i : Nat) * c), H, I1, ⟨t, rfl⟩, ⟨rfl, rfl⟩, st', fun b hb => (hf b hb).1⟩⟩
  done := by
    intro X hP hw hK hc i pins s σ H E I hf st hg
    subst hP hw hK
    obtain ⟨f0, f1, f2, f3, f4, f5⟩ := hf it (by simp)
    exact wpAny_pyNext_long_end (I.ok.hd hc) st (by have : n ≤ i := hg; omega) fun h' eb => ⟨rfl, I.turned (t' := s.toks) (fun b o hb e => eb b o hb e) f0 f1 f3 f4 f5⟩
  self := fun A i s Q E st h => wpAny_pyIter_longiter st h
theorem rsz1 (i j : Int) : Builtin.Range.rangeSize i j 1 = ((j - i).toNat : Int) := by rw [PySem.rangeSize_one]; split <;> omega
def iRng2L (ta : TA) : TI := fun σ H R => ta σ H fun vs H1 => ∃ i j : Int, vs = [.int i, .int j] ∧ R (Itc i 1 (j - i).toNat) H1
theorem pi_range2L {X : Cx} {tg a b : Expr} {ta : TA} {p pos : Pos} (hg : Gl X "range") (hm : X.mg "range" = none) (ha : PA X [a, b] ta) (hs : starEach [a, b] X.env = [(false, eval a X.env), (false, eval b X.env)]) (hs2 : starEach [b] X.env = [(false, eval b X.env)]) :
    PI X tg (.Call (.Name "range" p) [a, b] [] pos) (iRng2L ta) := by
  refine ⟨fun pins s σ H R I h => ?_⟩
  refine PyProof.Rows.Call_ (ld_blt I hg hm PyProof.Rows.boot_range (PyProof.Rows.callWith_type1 (thn (ha.run pos pins s σ H _ I h) fun us s1 ⟨vs, H1, I1, r1, q1⟩ => ?_) (by rw [hs, hs2]) (by rw [hs2]; rfl)))
  obtain ⟨i, j, e, q⟩ := q1
  subst e
  cases r1 with
  | cons r rr =>
    cases rr with
    | cons r' rr =>
      cases rr
      obtain ⟨t, rfl⟩ := r
      obtain ⟨t', rfl⟩ := r'
      refine call_range_2 ?_
      have I2 : Inv X pins σ H1 { s1 with heap := s1.heap.push { cls := .type "range", data := .fields #[.int i t, .int j t', .int 1 s1.toks] }, toks := s1.toks + 1 } := I1.kept (t' := s1.toks + 1) fun b o e => Heap.get?_push_of_some _ e
      have e1 : i + ((0 : Nat) : Int) * 1 = i := by simp
      have e2 : (((j - i).toNat : Nat) : Int) - ((0 : Nat) : Int) = Builtin.Range.rangeSize i j 1 := by rw [rsz1]; simp
      cases hc : Builtin.Range.small i j 1 with
      | true =>
        refine wpAny_pyIter_range (IsRange.new ..) hc ?_
        refine pi_one (tk := s1.toks + 1) I2 _ (turn_rangeC _ i 1 _) ?_ q
        show IsRangeIter _ _ (i + ((0 : Nat) : Int) * 1) ((((j - i).toNat : Nat) : Int) - ((0 : Nat) : Int)) 1
        rw [e1, e2]
        exact Heap.get?_push_size _ rfl
      | false =>
        refine wpAny_pyIter_longrange (IsRange.new ..) hc ?_
        refine pi_one (tk := s1.toks + 1) I2 _ (turn_rangeL _ i 1 _) ?_ q
        show IsLongIter _ _ (i + ((0 : Nat) : Int) * 1) ((((j - i).toNat : Nat) : Int) - ((0 : Nat) : Int)) 1
        rw [e1, e2]
        exact Heap.get?_push_size _ rfl
end VL

/-! VL10: what is walked. -/
namespace VL
open PySem PySem.Spec L2
open RT (ItvT pi_revA)
open RZ (ItzT pi_zipA)
def KpAt (K : PySem.W.Frag) (H : Hp) (av : Addr → Prop) (ps : List (D × V)) : Prop := ∀ p ∈ ps, Rep K H av p.1 p.2
/-- an iterator by the data that it gives, while the kept things stand -/
structure Itd (K : PySem.W.Frag) (J : L2.It) (its : List D) (ps : List (D × V)) : Prop where
  goes : ∀ i H av, i < its.length → KpAt K H av ps → J.go i H
  stops : ∀ H av, KpAt K H av ps → J.stop its.length H
  ylds : ∀ i H x H' av, i < its.length → KpAt K H av ps → J.yld i H x H' → Ext (fun _ => False) H H' ∧ ∃ d, its[i]? = some d ∧ Rep K H' av d x
def Kept (F : Fr) (ps : List (D × V)) : Fr := { F with kp := ps ++ F.kp }
def lI (F : Fr) (w : En → (List D → En → Prop) → Prop) : TI := fun σ H R => ∃ as ρ Q', ER F as σ H ρ ∧ w ρ Q' ∧
  ∀ as' its ρ' H' J ps, Aft F as as' σ H H' ρ' → ER (Kept F ps) as' σ H' ρ' → Itd F.K J its ps → Q' its ρ' → R J H'
abbrev VI (X : Cx) (F : Fr) (tg it : Expr) (w : En → (List D → En → Prop) → Prop) : Prop := PI X tg it (lI F w)
section
variable {X : Cx} {F : Fr} {as as' as1 as2 : As} {σ : L2.St} {H H' H1 H2 : Hp} {ρ ρ' ρ1 ρ2 : En} {e a b c : Expr} {es : List Expr} {wa wb wc : WE} {wl : WA} {pos p : Pos} {tg it : Expr}
theorem pi_mono {t t' : TI} (h : PI X tg it t) (m : ∀ σ H Q, t' σ H Q → t σ H Q) : PI X tg it t' := ⟨fun pins s σ H Q I q => h.run pins s σ H Q I (m σ H Q q)⟩
theorem ER.keep_ (E : ER F as σ H ρ) {ps : List (D × V)} (h : KpAt F.K H (F.av as) ps) : ER (Kept F ps) as σ H ρ :=
  ⟨E.len, E.inj, E.nex, fun i => E.sl i, E.old, E.own, E.exo, E.mok, fun p hp => (List.mem_append.mp hp).elim (h p) (E.kept p)⟩
theorem ER.unkeep {ps : List (D × V)} (E : ER (Kept F ps) as σ H ρ) : ER F as σ H ρ :=
  ⟨E.len, E.inj, E.nex, fun i => E.sl i, E.old, E.own, E.exo, E.mok, fun p hp => E.kept p (List.mem_append_right _ hp)⟩
theorem ER.kp {ps : List (D × V)} (E : ER (Kept F ps) as σ H ρ) : KpAt F.K H (F.av as) ps := fun p hp => E.kept p (List.mem_append_left _ hp)
theorem KpAt.one {K : PySem.W.Frag} {av : Addr → Prop} {d : D} {v : V} (h : Rep K H av d v) : KpAt K H av [(d, v)] := fun p hp => by
  rw [List.mem_singleton] at hp; subst hp; exact h
theorem KpAt.two {K : PySem.W.Frag} {av : Addr → Prop} {d d' : D} {v v' : V} (h : Rep K H av d v) (h' : Rep K H av d' v') : KpAt K H av [(d, v), (d', v')] := fun p hp => by
  rcases List.mem_cons.mp hp with z | z
  · subst z; exact h
  · rw [List.mem_singleton] at z; subst z; exact h'

/-- data that may be walked: its items -/
def seqOf : D → Option (List D)
  | .tup ds => some ds
  | .lst ds => some ds
  | .fix ds => some ds
  | _ => none
/-- .. at an address: a list or a tuple -/
theorem Rep.seq {K : PySem.W.Frag} {av : Addr → Prop} {d : D} {v : V} {ds : List D} (h : Rep K H av d v) (q : seqOf d = some ds) :
    ∃ a xs, v = .ref a ∧ Reps K H av ds xs ∧ ((∃ e, d = .tup e) ∧ SqT K H a xs ∨ (∀ e, d ≠ .tup e) ∧ SqL K H a xs) := by
  cases d with
  | tup e => cases q; unfold Rep at h; obtain ⟨a, xs, rfl, h1, h2⟩ := h; exact ⟨a, xs, rfl, h2, .inl ⟨⟨_, rfl⟩, h1⟩⟩
  | lst e => cases q; unfold Rep at h; obtain ⟨a, xs, rfl, h1, _, h2⟩ := h; exact ⟨a, xs, rfl, h2, .inr ⟨(fun _ z => nomatch z), .inl (.inl h1)⟩⟩
  | fix e => cases q; unfold Rep at h; obtain ⟨a, xs, rfl, h1, h2⟩ := h; exact ⟨a, xs, rfl, h2, .inr ⟨(fun _ z => nomatch z), h1.seq⟩⟩
  | non => cases q
  | bl _ => cases q
  | int _ => cases q
  | str _ => cases q
def isTup : D → Bool
  | .tup _ => true
  | _ => false
/-- the kinds: J for a list, J' for a tuple -/
def pick (d : D) (J J' : L2.It) : L2.It := if isTup d = true then J' else J
theorem repL {K : PySem.W.Frag} {av : Addr → Prop} {d : D} {a : Addr} {ds : List D} (h : Rep K H av d (.ref a)) (q : seqOf d = some ds) (n : isTup d = false) : ∃ xs, SqL K H a xs ∧ Reps K H av ds xs := by
  obtain ⟨a', xs, e, h1, h2⟩ := h.seq q
  cases e
  rcases h2 with ⟨⟨e, rfl⟩, _⟩ | ⟨_, h2⟩
  · cases n
  · exact ⟨xs, h2, h1⟩
theorem repT {K : PySem.W.Frag} {av : Addr → Prop} {d : D} {a : Addr} {ds : List D} (h : Rep K H av d (.ref a)) (q : seqOf d = some ds) (n : isTup d = true) : ∃ xs, SqT K H a xs ∧ Reps K H av ds xs := by
  obtain ⟨a', xs, e, h1, h2⟩ := h.seq q
  cases e
  rcases h2 with ⟨_, h2⟩ | ⟨h2, _⟩
  · exact ⟨xs, h2, h1⟩
  · cases d <;> first | exact absurd rfl (h2 _) | cases n
theorem Reps.item {K : PySem.W.Frag} {av : Addr → Prop} {ds : List D} {xs : List V} {i : Nat} (r : Reps K H av ds xs) (h : i < ds.length) : ∃ x, xs[i]? = some x := ⟨xs[i]'(by rw [r.length]; exact h), by rw [List.getElem?_eq_getElem]⟩
theorem itd_L {K : PySem.W.Frag} {d : D} {a : Addr} {ds : List D} (q : seqOf d = some ds) (n : isTup d = false) : Itd K (Itl K a) ds [(d, .ref a)] := by
  refine ⟨fun i H av hi k => ?_, fun H av k => ?_, fun i H x H' av hi k y => ?_⟩
  · obtain ⟨xs, h1, h2⟩ := repL (k _ (List.mem_singleton.mpr rfl)) q n
    obtain ⟨x, h3⟩ := h2.item hi
    exact ⟨xs, x, h1, h3⟩
  · obtain ⟨xs, h1, h2⟩ := repL (k _ (List.mem_singleton.mpr rfl)) q n
    exact ⟨xs, h1, Nat.le_of_eq h2.length⟩
  · obtain ⟨xs, h1, h2⟩ := repL (k _ (List.mem_singleton.mpr rfl)) q n
    obtain ⟨rfl, y⟩ := y
    exact ⟨Ext.refl _ _, h2.get' (y xs h1)⟩
theorem itd_T {K : PySem.W.Frag} {d : D} {a : Addr} {ds : List D} (q : seqOf d = some ds) (n : isTup d = true) : Itd K (Itt K a) ds [(d, .ref a)] := by
  refine ⟨fun i H av hi k => ?_, fun H av k => ?_, fun i H x H' av hi k y => ?_⟩
  · obtain ⟨xs, h1, h2⟩ := repT (k _ (List.mem_singleton.mpr rfl)) q n
    obtain ⟨x, h3⟩ := h2.item hi
    exact ⟨xs, x, h1, h3⟩
  · obtain ⟨xs, h1, h2⟩ := repT (k _ (List.mem_singleton.mpr rfl)) q n
    exact ⟨xs, h1, Nat.le_of_eq h2.length⟩
  · obtain ⟨xs, h1, h2⟩ := repT (k _ (List.mem_singleton.mpr rfl)) q n
    obtain ⟨rfl, y⟩ := y
    exact ⟨Ext.refl _ _, h2.get' (y xs h1)⟩
theorem rev_get {α : Type} (l : List α) {i : Nat} (h : i < l.length) : l.reverse[i]? = l[l.length - 1 - i]? := by
  rw [List.getElem?_reverse h]
theorem itd_vL {K : PySem.W.Frag} {d : D} {a : Addr} {ds : List D} {n : Nat} (hn : n = ds.length) (q : seqOf d = some ds) (t : isTup d = false) : Itd K (Itv K a n) ds.reverse [(d, .ref a)] := by
  subst hn
  refine ⟨fun i H av hi k => ?_, fun H av k => ?_, fun i H x H' av hi k y => ?_⟩
  · rw [List.length_reverse] at hi
    obtain ⟨xs, h1, h2⟩ := repL (k _ (List.mem_singleton.mpr rfl)) q t
    obtain ⟨x, h3⟩ := h2.item (i := ds.length - 1 - i) (by omega)
    exact ⟨hi, xs, x, h1, h3⟩
  · show ds.length ≤ ds.reverse.length
    rw [List.length_reverse]; exact Nat.le_refl _
  · rw [List.length_reverse] at hi
    obtain ⟨xs, h1, h2⟩ := repL (k _ (List.mem_singleton.mpr rfl)) q t
    obtain ⟨rfl, y⟩ := y
    rw [rev_get ds hi]
    exact ⟨Ext.refl _ _, h2.get' (y xs h1)⟩
theorem itd_vT {K : PySem.W.Frag} {d : D} {a : Addr} {ds : List D} {n : Nat} (hn : n = ds.length) (q : seqOf d = some ds) (t : isTup d = true) : Itd K (ItvT K a n) ds.reverse [(d, .ref a)] := by
  subst hn
  refine ⟨fun i H av hi k => ?_, fun H av k => ?_, fun i H x H' av hi k y => ?_⟩
  · rw [List.length_reverse] at hi
    obtain ⟨xs, h1, h2⟩ := repT (k _ (List.mem_singleton.mpr rfl)) q t
    obtain ⟨x, h3⟩ := h2.item (i := ds.length - 1 - i) (by omega)
    exact ⟨hi, xs, x, h1, h3⟩
  · show ds.length ≤ ds.reverse.length
    rw [List.length_reverse]; exact Nat.le_refl _
  · rw [List.length_reverse] at hi
    obtain ⟨xs, h1, h2⟩ := repT (k _ (List.mem_singleton.mpr rfl)) q t
    obtain ⟨rfl, y⟩ := y
    rw [rev_get ds hi]
    exact ⟨Ext.refl _ _, h2.get' (y xs h1)⟩
theorem pair_rep {K : PySem.W.Frag} {av : Addr → Prop} {T : Addr} {x y : V} {d d' : D} (n : H T = none) (h : Rep K H av d x) (h' : Rep K H av d' y) : Rep K (upd H T (.tup [x, y])) av (.tup [d, d']) (.ref T) :=
  rep_tup (.inl (.inl upd_same)) (Reps.cons (Rep.ext (Ext.new n) h) (Reps.cons (Rep.ext (Ext.new n) h') Reps.nil))
def enumD (ds : List D) : List D := ds.mapIdx fun i d => D.tup [.int (i : Nat), d]
theorem enumD_len (ds : List D) : (enumD ds).length = ds.length := by unfold enumD; simp
theorem enumD_get (ds : List D) {i : Nat} {d : D} (h : ds[i]? = some d) : (enumD ds)[i]? = some (.tup [.int (i : Nat), d]) := by unfold enumD; simp [h]
theorem itd_eL {K : PySem.W.Frag} {d : D} {a : Addr} {ds : List D} (q : seqOf d = some ds) (t : isTup d = false) : Itd K (Ite K a) (enumD ds) [(d, .ref a)] := by
  refine ⟨fun i H av hi k => ?_, fun H av k => ?_, fun i H x H' av hi k y => ?_⟩
  · rw [enumD_len] at hi
    obtain ⟨xs, h1, h2⟩ := repL (k _ (List.mem_singleton.mpr rfl)) q t
    obtain ⟨x, h3⟩ := h2.item hi
    exact ⟨xs, x, h1, h3⟩
  · obtain ⟨xs, h1, h2⟩ := repL (k _ (List.mem_singleton.mpr rfl)) q t
    exact ⟨xs, h1, by rw [enumD_len, h2.length]; exact Nat.le_refl _⟩
  · obtain ⟨xs, h1, h2⟩ := repL (k _ (List.mem_singleton.mpr rfl)) q t
    obtain ⟨T, z, rfl, n, rfl, y⟩ := y
    obtain ⟨e, g1, g2⟩ := h2.get' (y xs h1)
    exact ⟨Ext.new n, _, enumD_get ds g1, pair_rep n (rep_int _) g2⟩
theorem itd_eT {K : PySem.W.Frag} {d : D} {a : Addr} {ds : List D} (q : seqOf d = some ds) (t : isTup d = true) : Itd K (IteT K a) (enumD ds) [(d, .ref a)] := by
  refine ⟨fun i H av hi k => ?_, fun H av k => ?_, fun i H x H' av hi k y => ?_⟩
  · rw [enumD_len] at hi
    obtain ⟨xs, h1, h2⟩ := repT (k _ (List.mem_singleton.mpr rfl)) q t
    obtain ⟨x, h3⟩ := h2.item hi
    exact ⟨xs, x, h1, h3⟩
  · obtain ⟨xs, h1, h2⟩ := repT (k _ (List.mem_singleton.mpr rfl)) q t
    exact ⟨xs, h1, by rw [enumD_len, h2.length]⟩
  · obtain ⟨xs, h1, h2⟩ := repT (k _ (List.mem_singleton.mpr rfl)) q t
    obtain ⟨T, z, rfl, n, rfl, y⟩ := y
    obtain ⟨e, g1, g2⟩ := h2.get' (y xs h1)
    exact ⟨Ext.new n, _, enumD_get ds g1, pair_rep n (rep_int _) g2⟩
def zipD (xs ys : List D) : List D := List.zipWith (fun x y => D.tup [x, y]) xs ys
theorem itd_zL {K : PySem.W.Frag} {d d' : D} {a b : Addr} {ds es : List D} (q : seqOf d = some ds) (q' : seqOf d' = some es) (t : isTup d = false) (t' : isTup d' = false) : Itd K (Itz K a b) (zipD ds es) [(d, .ref a), (d', .ref b)] := by
  have two : ∀ {H : Hp} {av : Addr → Prop}, KpAt K H av [(d, .ref a), (d', .ref b)] → ∃ xs ys, SqL K H a xs ∧ Reps K H av ds xs ∧ SqL K H b ys ∧ Reps K H av es ys := fun {H av} k => by
    obtain ⟨xs, h1, h2⟩ := repL (k (d, .ref a) (by simp)) q t
    obtain ⟨ys, h3, h4⟩ := repL (k (d', .ref b) (by simp)) q' t'
    exact ⟨xs, ys, h1, h2, h3, h4⟩
  refine ⟨fun i H av hi k => ?_, fun H av k => ?_, fun i H x H' av hi k y => ?_⟩
  · obtain ⟨xs, ys, h1, h2, h3, h4⟩ := two k
    unfold zipD at hi
    rw [List.length_zipWith] at hi
    obtain ⟨x, h5⟩ := h2.item (i := i) (by omega)
    obtain ⟨y, h6⟩ := h4.item (i := i) (by omega)
    exact ⟨xs, ys, x, y, h1, h3, h5, h6⟩
  · obtain ⟨xs, ys, h1, h2, h3, h4⟩ := two k
    refine ⟨xs, ys, h1, h3, ?_⟩
    unfold zipD
    rw [List.length_zipWith, h2.length, h4.length]
    omega
  · obtain ⟨xs, ys, h1, h2, h3, h4⟩ := two k
    obtain ⟨T, z, z', rfl, n, rfl, y1, y2⟩ := y
    obtain ⟨e, g1, g2⟩ := h2.get' (y1 xs h1)
    obtain ⟨e', g3, g4⟩ := h4.get' (y2 ys h3)
    exact ⟨Ext.new n, _, by unfold zipD; rw [List.getElem?_zipWith, g1, g3], pair_rep n g2 g4⟩
theorem itd_zT {K : PySem.W.Frag} {d d' : D} {a b : Addr} {ds es : List D} (q : seqOf d = some ds) (q' : seqOf d' = some es) (t : isTup d = true) (t' : isTup d' = true) : Itd K (ItzT K a b) (zipD ds es) [(d, .ref a), (d', .ref b)] := by
  have two : ∀ {H : Hp} {av : Addr → Prop}, KpAt K H av [(d, .ref a), (d', .ref b)] → ∃ xs ys, SqT K H a xs ∧ Reps K H av ds xs ∧ SqT K H b ys ∧ Reps K H av es ys := fun {H av} k => by
    obtain ⟨xs, h1, h2⟩ := repT (k (d, .ref a) (by simp)) q t
    obtain ⟨ys, h3, h4⟩ := repT (k (d', .ref b) (by simp)) q' t'
    exact ⟨xs, ys, h1, h2, h3, h4⟩
  refine ⟨fun i H av hi k => ?_, fun H av k => ?_, fun i H x H' av hi k y => ?_⟩
  · obtain ⟨xs, ys, h1, h2, h3, h4⟩ := two k
    unfold zipD at hi
    rw [List.length_zipWith] at hi
    obtain ⟨x, h5⟩ := h2.item (i := i) (by omega)
    obtain ⟨y, h6⟩ := h4.item (i := i) (by omega)
    exact ⟨xs, ys, x, y, h1, h3, h5, h6⟩
  · obtain ⟨xs, ys, h1, h2, h3, h4⟩ := two k
    refine ⟨xs, ys, h1, h3, ?_⟩
    unfold zipD
    rw [List.length_zipWith, h2.length, h4.length]
    omega
  · obtain ⟨xs, ys, h1, h2, h3, h4⟩ := two k
    obtain ⟨T, z, z', rfl, n, rfl, y1, y2⟩ := y
    obtain ⟨e, g1, g2⟩ := h2.get' (y1 xs h1)
    obtain ⟨e', g3, g4⟩ := h4.get' (y2 ys h3)
    exact ⟨Ext.new n, _, by unfold zipD; rw [List.getElem?_zipWith, g1, g3], pair_rep n g2 g4⟩
theorem rngs_len (lo : Int) (n : Nat) (c : Int) : (rngs lo n c).length = n := by unfold rngs; simp
theorem itd_c {K : PySem.W.Frag} {lo c : Int} {n : Nat} : Itd K (Itc lo c n) (rngs lo n c) [] := by
  refine ⟨fun i H av hi k => ?_, fun H av k => ?_, fun i H x H' av hi k y => ?_⟩
  · rw [rngs_len] at hi; exact hi
  · show n ≤ _; rw [rngs_len]; exact Nat.le_refl _
  · rw [rngs_len] at hi
    obtain ⟨rfl, rfl⟩ := y
    exact ⟨Ext.refl _ _, _, by unfold rngs; rw [List.getElem?_map, List.getElem?_range hi]; rfl, rep_int _⟩
theorem itd_r {K : PySem.W.Frag} {lo : Int} {n : Nat} : Itd K (Itr lo n) (rngs lo n 1) [] := by
  refine ⟨fun i H av hi k => ?_, fun H av k => ?_, fun i H x H' av hi k y => ?_⟩
  · rw [rngs_len] at hi; exact hi
  · show n ≤ _; rw [rngs_len]; exact Nat.le_refl _
  · rw [rngs_len] at hi
    obtain ⟨rfl, rfl⟩ := y
    exact ⟨Ext.refl _ _, _, by unfold rngs; rw [List.getElem?_map, List.getElem?_range hi]; simp, rep_int _⟩

/-! ### the rules -/
def iSeqA (K : PySem.W.Frag) (tl : TE) : TI := fun σ H R => tl σ H fun x H1 => ∃ a, x = .ref a ∧ (((∃ xs, SqL K H1 a xs) ∧ R (Itl K a) H1) ∨ ((∃ xs, SqT K H1 a xs) ∧ R (Itt K a) H1))
theorem pi_seqA {l : Expr} {tl : TE} (hl : PE X l tl) : PI X tg l (iSeqA X.K tl) := by
  refine ⟨fun pins s σ H R I h => ?_⟩
  refine thn (hl.run pins s σ H _ I h) fun v s1 ⟨x, H1, I1, r1, q1⟩ => ?_
  obtain ⟨a, e, q1⟩ := q1
  subst e
  cases r1
  have fp : ∀ b, b ∈ [s1.heap.objs.size] → FpOk X pins H1 b := fun b hb => by
    rw [List.mem_singleton] at hb
    subst hb
    exact I1.fpOk (Nat.le_refl _) (I1.hok.fresh (Nat.le_refl _))
  rcases q1 with ⟨⟨xs, hq⟩, q⟩ | ⟨⟨xs, hq⟩, q⟩
  · obtain ⟨its, rv, pl, hz⟩ := I1.list hq
    refine wpAny_pyIter_list pl.isList ?_
    exact ⟨s1.heap.objs.size, _, _, _, H1, rfl, I1.kept (t' := s1.toks) fun b o e => Heap.get?_push_of_some _ e, turn_list a _, ⟨_, Heap.get?_push_size _ rfl, rfl, rfl⟩, fp, q⟩
  · obtain ⟨its, rv, pl, hz⟩ := I1.tuple hq
    refine wpAny_pyIter_tuple (show s1.heap.IsTuple a its.toArray from pl) ?_
    exact ⟨s1.heap.objs.size, _, _, _, H1, rfl, I1.kept (t' := s1.toks) fun b o e => Heap.get?_push_of_some _ e, turn_tuple a _, ⟨_, Heap.get?_push_size _ rfl, rfl, rfl⟩, fp, q⟩
/-- what a frozen result is, once more -/
theorem frz_seq {r : R} {v : V} {k : D → En → Prop} (E : ER F as σ H ρ) (P : Wt F as H r v) (q : frz1 r ρ k) : ∃ d as2 ρ2, Le as2 as ∧ ER F as2 σ H ρ2 ∧ Rep F.K H (F.av as2) d v ∧ k d ρ2 := P.frz E q
theorem vi_seq (O : Ok X F) (ha : VE X F a wa) : VI X F tg a fun ρ Q => wa ρ fun r ρ1 => frz1 r ρ1 fun d ρ2 => match d with
    | .tup ds => Q ds ρ2
    | .lst ds => Q ds ρ2
    | .fix ds => Q ds ρ2
    | _ => False := by
  have h := pi_seqA (tg := tg) ha
  rw [O.K] at h
  refine pi_mono h fun σ H R ⟨as, ρ, Q', E, w, c⟩ => ?_
  refine ⟨as, ρ, _, E, w, fun as1 r ρ1 v H1 A P q => ?_⟩
  obtain ⟨d, as2, ρ2, l, E2, g, q⟩ := P.wt.frz A.er q
  have done : ∀ ds, seqOf d = some ds → Q' ds ρ2 → ∃ a, v = .ref a ∧ (((∃ xs, SqL F.K H1 a xs) ∧ R (Itl F.K a) H1) ∨ ((∃ xs, SqT F.K H1 a xs) ∧ R (Itt F.K a) H1)) := fun ds hd qq => by
    obtain ⟨a, xs, rfl, _, h2⟩ := g.seq hd
    refine ⟨a, rfl, ?_⟩
    rcases h2 with ⟨⟨e, rfl⟩, h2⟩ | ⟨h2, h3⟩
    · exact .inr ⟨⟨xs, h2⟩, c as2 ds ρ2 H1 _ _ (A.frz l E2) (E2.keep_ (KpAt.one g)) (itd_T hd rfl) qq⟩
    · exact .inl ⟨⟨xs, h3⟩, c as2 ds ρ2 H1 _ _ (A.frz l E2) (E2.keep_ (KpAt.one g)) (itd_L hd (by cases d <;> first | rfl | exact absurd rfl (h2 _))) qq⟩
  cases d <;> first | exact q.elim | exact done _ rfl q
theorem vi_rev (O : Ok X F) (ha : VE X F a wa) (hg : Gl X "reversed") (hm : X.mg "reversed" = none) (hs : starEach [a] X.env = (false, eval a X.env) :: starEach [] X.env) :
    VI X F tg (.Call (.Name "reversed" p) [a] [] pos) fun ρ Q => wa ρ fun r ρ1 => frz1 r ρ1 fun d ρ2 => match d with
    | .tup ds => Q ds.reverse ρ2
    | .lst ds => Q ds.reverse ρ2
    | .fix ds => Q ds.reverse ρ2
    | _ => False := by
  have h := pi_revA (tg := tg) (p := p) (pos := pos) hg hm ha hs
  rw [O.K] at h
  refine pi_mono h fun σ H R ⟨as, ρ, Q', E, w, c⟩ => ?_
  refine ⟨as, ρ, _, E, w, fun as1 r ρ1 v H1 A P q => ?_⟩
  obtain ⟨d, as2, ρ2, l, E2, g, q⟩ := P.wt.frz A.er q
  have done : ∀ ds, seqOf d = some ds → Q' ds.reverse ρ2 → ∃ (a : Addr) (xs : List V), v = .ref a ∧ ((SqL F.K H1 a xs ∧ R (Itv F.K a xs.length) H1) ∨ (SqT F.K H1 a xs ∧ R (ItvT F.K a xs.length) H1)) := fun ds hd qq => by
    obtain ⟨a, xs, rfl, h1, h2⟩ := g.seq hd
    refine ⟨a, xs, rfl, ?_⟩
    rcases h2 with ⟨⟨e, rfl⟩, h2⟩ | ⟨h2, h3⟩
    · exact .inr ⟨h2, c as2 ds.reverse ρ2 H1 _ _ (A.frz l E2) (E2.keep_ (KpAt.one g)) (itd_vT h1.length hd rfl) qq⟩
    · exact .inl ⟨h3, c as2 ds.reverse ρ2 H1 _ _ (A.frz l E2) (E2.keep_ (KpAt.one g)) (itd_vL h1.length hd (by cases d <;> first | rfl | exact absurd rfl (h2 _))) qq⟩
  cases d <;> first | exact q.elim | exact done _ rfl q
theorem vi_enum (O : Ok X F) {elts : List Expr} {kk : Nat} {tpos : Pos} (ha : VE X F a wa) (hg : Gl X "enumerate") (hm : X.mg "enumerate" = none) (hs : starEach [a] X.env = [(false, eval a X.env)]) :
    VI X F (.Tuple elts kk tpos) (.Call (.Name "enumerate" p) [a] [] pos) fun ρ Q => wa ρ fun r ρ1 => frz1 r ρ1 fun d ρ2 => match d with
    | .tup ds => Q (ds.mapIdx fun i d => D.tup [.int (i : Nat), d]) ρ2
    | .lst ds => Q (ds.mapIdx fun i d => D.tup [.int (i : Nat), d]) ρ2
    | .fix ds => Q (ds.mapIdx fun i d => D.tup [.int (i : Nat), d]) ρ2
    | _ => False := by
  have h := pi_enumA (p := p) (pos := pos) (elts := elts) (kk := kk) (tpos := tpos) hg hm (pa_cons ha pa_nil hs) hs
  rw [O.K] at h
  refine pi_mono h fun σ H R ⟨as, ρ, Q', E, w, c⟩ => ?_
  refine ⟨as, ρ, _, E, w, fun as1 r ρ1 v H1 A P q => ?_⟩
  obtain ⟨d, as2, ρ2, l, E2, g, q⟩ := P.wt.frz A.er q
  have done : ∀ ds, seqOf d = some ds → Q' (enumD ds) ρ2 → ∃ a xs, [v] = [.ref a] ∧ ((SqL F.K H1 a xs ∧ R (Ite F.K a) H1) ∨ (SqT F.K H1 a xs ∧ R (IteT F.K a) H1)) := fun ds hd qq => by
    obtain ⟨a, xs, rfl, h1, h2⟩ := g.seq hd
    refine ⟨a, xs, rfl, ?_⟩
    rcases h2 with ⟨⟨e, rfl⟩, h2⟩ | ⟨h2, h3⟩
    · exact .inr ⟨h2, c as2 _ ρ2 H1 _ _ (A.frz l E2) (E2.keep_ (KpAt.one g)) (itd_eT hd rfl) qq⟩
    · exact .inl ⟨h3, c as2 _ ρ2 H1 _ _ (A.frz l E2) (E2.keep_ (KpAt.one g)) (itd_eL hd (by cases d <;> first | rfl | exact absurd rfl (h2 _))) qq⟩
  cases d <;> first | exact q.elim | exact done _ rfl q
theorem vi_rng1 (O : Ok X F) (ha : VE X F a wa) (hg : Gl X "range") (hm : X.mg "range" = none) (hs : starEach [a] X.env = [(false, eval a X.env)]) :
    VI X F tg (.Call (.Name "range" p) [a] [] pos) fun ρ Q => wa ρ fun r ρ1 => wRd r ρ1 fun x => match x with | .int i => (-(2 ^ 62) ≤ i ∧ i < 2 ^ 62) ∧ Q (rngs 0 i.toNat 1) ρ1 | _ => False := by
  refine pi_mono (pi_range1 hg hm (pa_cons ha pa_nil hs) hs) fun σ H R ⟨as, ρ, Q', E, w, c⟩ => ?_
  refine lE1 E w fun as1 ρ1 H1 x v A g q => ?_
  cases x <;> first | exact q.elim | skip
  rw [g.int]
  exact ⟨_, rfl, q.1.1, q.1.2, c as1 _ ρ1 H1 _ [] A (A.er.keep_ fun _ h => nomatch h) itd_r q.2⟩
theorem vi_rng2 (O : Ok X F) (ha : VE X F a wa) (hb : VE X F b wb) (hg : Gl X "range") (hm : X.mg "range" = none) (hs : starEach [a, b] X.env = [(false, eval a X.env), (false, eval b X.env)]) (hs2 : starEach [b] X.env = [(false, eval b X.env)]) :
    VI X F tg (.Call (.Name "range" p) [a, b] [] pos) fun ρ Q => wa ρ fun r1 ρ1 => wb ρ1 fun r2 ρ2 => wRd r1 ρ2 fun x => wRd r2 ρ2 fun y => match x, y with
    | .int i, .int j => (-(2 ^ 62) ≤ i ∧ i < 2 ^ 62 ∧ -(2 ^ 62) ≤ j ∧ j < 2 ^ 62) ∧ Q (rngs i (j - i).toNat 1) ρ2
    | _, _ => False := by
  refine pi_mono (pi_range2 hg hm (pa_cons ha (pa_cons hb pa_nil hs2) (by rw [hs, hs2])) hs hs2) fun σ H R ⟨as, ρ, Q', E, w, c⟩ => ?_
  refine lE2 E w fun as1 ρ1 H1 x y v u A gx gy q => ?_
  split at q
  · rw [gx.int, gy.int]
    exact ⟨_, _, rfl, q.1, c as1 _ ρ1 H1 _ [] A (A.er.keep_ fun _ h => nomatch h) itd_r q.2⟩
  · exact q.elim
theorem vi_rng2L (O : Ok X F) (ha : VE X F a wa) (hb : VE X F b wb) (hg : Gl X "range") (hm : X.mg "range" = none) (hs : starEach [a, b] X.env = [(false, eval a X.env), (false, eval b X.env)]) (hs2 : starEach [b] X.env = [(false, eval b X.env)]) :
    VI X F tg (.Call (.Name "range" p) [a, b] [] pos) fun ρ Q => wa ρ fun r1 ρ1 => wb ρ1 fun r2 ρ2 => wRd r1 ρ2 fun x => wRd r2 ρ2 fun y => match x, y with
    | .int i, .int j => Q (rngs i (j - i).toNat 1) ρ2
    | _, _ => False := by
  refine pi_mono (pi_range2L hg hm (pa_cons ha (pa_cons hb pa_nil hs2) (by rw [hs, hs2])) hs hs2) fun σ H R ⟨as, ρ, Q', E, w, c⟩ => ?_
  refine lE2 E w fun as1 ρ1 H1 x y v u A gx gy q => ?_
  split at q
  · rw [gx.int, gy.int]
    exact ⟨_, _, rfl, c as1 _ ρ1 H1 _ [] A (A.er.keep_ fun _ h => nomatch h) itd_c q⟩
  · exact q.elim
end
end VL

/-! VL11: zip, range with a step, comprehensions. -/
namespace VL
open PySem PySem.Spec L2
open RT (ItvT pi_revA)
open RZ (ItzT pi_zipA)
section
variable {X : Cx} {F : Fr} {as as' as1 as2 : As} {σ : L2.St} {H H' H1 H2 : Hp} {ρ ρ' ρ1 ρ2 : En} {e a b c : Expr} {es : List Expr} {wa wb wc : WE} {wl : WA} {pos p : Pos} {tg it : Expr}
theorem vi_rng3 (O : Ok X F) (ha : VE X F a wa) (hb : VE X F b wb) (hc : VE X F c wc) (hg : Gl X "range") (hm : X.mg "range" = none) (h1 : starEach [a, b, c] X.env = [(false, eval a X.env), (false, eval b X.env), (false, eval c X.env)])
    (h2 : starEach [b, c] X.env = [(false, eval b X.env), (false, eval c X.env)]) (h3 : starEach [c] X.env = [(false, eval c X.env)]) (key : ∀ ta, PA X [a, b, c] ta → PI X tg (.Call (.Name "range" p) [a, b, c] [] pos) (iRng3 ta)) :
    VI X F tg (.Call (.Name "range" p) [a, b, c] [] pos) fun ρ Q => wa ρ fun r1 ρ1 => wb ρ1 fun r2 ρ2 => wc ρ2 fun r3 ρ3 => wRd r1 ρ3 fun x => wRd r2 ρ3 fun y => wRd r3 ρ3 fun z => match x, y, z with
    | .int i, .int j, .int c => ∃ n, RgC i j c n ∧ Q (rngs i n c) ρ3
    | _, _, _ => False := by
  refine pi_mono (key _ (pa_cons ha (pa_cons hb (pa_cons hc pa_nil h3) (by rw [h2, h3])) (by rw [h1, h2]))) fun σ H R ⟨as, ρ, Q', E, w, c'⟩ => ?_
  refine ⟨as, ρ, _, E, w, fun as1 r1 ρ1 v H1 A1 P1 q1 => ⟨as1, ρ1, _, A1.er, q1, fun as2 r2 ρ2 u H2 A2 P2 q2 => ⟨as2, ρ2, _, A2.er, q2, fun as3 r3 ρ3 w3 H3 A3 P3 q3 => ?_⟩⟩⟩
  obtain ⟨x, e1, q3⟩ := wRd_some q3
  obtain ⟨y, e2, q3⟩ := wRd_some q3
  obtain ⟨z, e3, q3⟩ := wRd_some q3
  have gx := ((P1.wt.step A2.le A2.ext).step A3.le A3.ext).got A3.er e1
  have gy := (P2.wt.step A3.le A3.ext).got A3.er e2
  have gz := P3.wt.got A3.er e3
  split at q3
  · obtain ⟨n, q4, q5⟩ := q3
    rw [gx.int, gy.int, gz.int]
    exact ⟨_, _, _, n, rfl, q4, c' as3 _ ρ3 H3 _ [] ((A1.trans A2).trans A3) (A3.er.keep_ fun _ h => nomatch h) itd_c q5⟩
  · exact q3.elim
theorem vi_zip (O : Ok X F) {elts : List Expr} {kk : Nat} {tpos : Pos} (ha : VE X F a wa) (hb : VE X F b wb) (hg : Gl X "zip") (hm : X.mg "zip" = none) (hs : starEach [a, b] X.env = (false, eval a X.env) :: starEach [b] X.env) (hs2 : starEach [b] X.env = (false, eval b X.env) :: starEach [] X.env)
    (hpl : (backTo pos (starEach [b] X.env)).any (·.1) = false) :
    VI X F (.Tuple elts kk tpos) (.Call (.Name "zip" p) [a, b] [] pos) fun ρ Q => wa ρ fun r1 ρ1 => wb ρ1 fun r2 ρ2 => frz [r1, r2] ρ2 fun ds ρ3 => match ds with
    | [.lst xs, .lst ys] => Q (List.zipWith (fun x y => D.tup [x, y]) xs ys) ρ3
    | [.tup xs, .tup ys] => Q (List.zipWith (fun x y => D.tup [x, y]) xs ys) ρ3
    | _ => False := by
  have h := pi_zipA (p := p) (pos := pos) (elts := elts) (kk := kk) (tpos := tpos) hg hm (pa_cons ha (pa_cons hb pa_nil hs2) hs) hs hpl
  rw [O.K] at h
  refine pi_mono h fun σ H R ⟨as, ρ, Q', E, w, c⟩ => ?_
  refine ⟨as, ρ, _, E, w, fun as1 r1 ρ1 v H1 A1 P1 q1 => ⟨as1, ρ1, _, A1.er, q1, fun as2 r2 ρ2 u H2 A2 P2 q2 => ?_⟩⟩
  have W : Wts F as2 H2 [r1, r2] [v, u] := ⟨v, [u], rfl, P1.wt.step A2.le A2.ext, u, [], rfl, P2.wt, rfl⟩
  obtain ⟨ds, as3, ρ3, l, E3, g, q⟩ := W.frz A2.er q2
  have A := (A1.trans A2).frz l E3
  split at q
  · obtain ⟨v', u', e1, g1, g2⟩ := g.two
    cases e1
    obtain ⟨a1, xs, e1, _, h2⟩ := g1.seq rfl
    obtain ⟨a2, ys, e2, _, h3⟩ := g2.seq rfl
    subst e1 e2
    rcases h2 with ⟨⟨e, z⟩, _⟩ | ⟨_, h2⟩
    · cases z
    rcases h3 with ⟨⟨e, z⟩, _⟩ | ⟨_, h3⟩
    · cases z
    exact ⟨a1, a2, xs, ys, rfl, .inl ⟨h2, h3, c as3 _ ρ3 H2 _ _ A (E3.keep_ (KpAt.two g1 g2)) (itd_zL rfl rfl rfl rfl) q⟩⟩
  · obtain ⟨v', u', e1, g1, g2⟩ := g.two
    cases e1
    obtain ⟨a1, xs, e1, _, h2⟩ := g1.seq rfl
    obtain ⟨a2, ys, e2, _, h3⟩ := g2.seq rfl
    subst e1 e2
    rcases h2 with ⟨_, h2⟩ | ⟨z, _⟩
    · rcases h3 with ⟨_, h3⟩ | ⟨z, _⟩
      · exact ⟨a1, a2, xs, ys, rfl, .inr ⟨h2, h3, c as3 _ ρ3 H2 _ _ A (E3.keep_ (KpAt.two g1 g2)) (itd_zT rfl rfl rfl rfl) q⟩⟩
      · exact absurd rfl (z _)
    · exact absurd rfl (z _)
  · exact q.elim

/-! ### slots set -/
/-- slot i holds a value -/
theorem ER.setv (E : ER F as σ H ρ) {i : Nat} {d : D} {v : V} (hi : i < ρ.length) (r : Rep F.K H (F.av as) d v) : ER F (cutAs as i) (σ.set i (some v)) H (ρ.set i (.val d)) := by
  refine ⟨by rw [List.length_set, List.length_set]; exact E.len, fun j k b hj hk => E.inj j k b (cut_le _ _ _ _ hj) (cut_le _ _ _ _ hk), fun j b hj => E.nex j b (cut_le _ _ _ _ hj), fun j => ?_, E.old, fun j b hj => E.own j b (cut_le _ _ _ _ hj), E.exo, E.mok, fun p hp => Rep.wk (fun _ _ z => (cut_le as i).av z) (E.kept p hp)⟩
  show SlAt F H (cutAs as i) j (σ.set i (some v))[j]? (gt (ρ.set i (.val d)) j)
  by_cases q : j = i
  · subst q
    rw [gt_set ρ hi, List.getElem?_set_self (by rw [← E.len]; exact hi)]
    exact ⟨cut_self as j, v, rfl, Rep.wk (fun _ _ z => (cut_le as j).av z) r⟩
  · rw [gt_ne ρ q, List.getElem?_set_ne (Ne.symm q)]
    exact (E.sl j).le (cut_le as i) (cut_ne as q)
/-- slot i forgotten -/
theorem ER.unset (E : ER F as σ H ρ) (i : Nat) : ER F (cutAs as i) (σ.set i none) H (ρ.set i .un) := by
  refine ⟨by rw [List.length_set, List.length_set]; exact E.len, fun j k b hj hk => E.inj j k b (cut_le _ _ _ _ hj) (cut_le _ _ _ _ hk), fun j b hj => E.nex j b (cut_le _ _ _ _ hj), fun j => ?_, E.old, fun j b hj => E.own j b (cut_le _ _ _ _ hj), E.exo, E.mok, fun p hp => Rep.wk (fun _ _ z => (cut_le as i).av z) (E.kept p hp)⟩
  show SlAt F H (cutAs as i) j (σ.set i none)[j]? (gt (ρ.set i .un) j)
  by_cases q : j = i
  · subst q
    have : gt (ρ.set j .un) j = .un := by
      by_cases l : j < ρ.length
      · exact gt_set ρ l
      · unfold gt; rw [List.getElem?_eq_none (by rw [List.length_set]; omega)]; rfl
    rw [this]
    exact cut_self as j
  · rw [gt_ne ρ q, List.getElem?_set_ne (Ne.symm q)]
    exact (E.sl j).le (cut_le as i) (cut_ne as q)
def cutAll : As → List Nat → As
  | as, [] => as
  | as, i :: is => cutAs (cutAll as is) i
theorem cutAll_le (as : As) : ∀ is : List Nat, Le (cutAll as is) as
  | [] => Le.refl as
  | i :: is => (cut_le _ i).trans (cutAll_le as is)
theorem ER.wipe_ (E : ER F as σ H ρ) : ∀ is : List Nat, ER F (cutAll as is) (wipe σ is) H (wipeV is ρ)
  | [] => E
  | i :: is => (ER.wipe_ E is).unset i
theorem wipeV_len (ρ : En) : ∀ is : List Nat, (wipeV is ρ).length = ρ.length
  | [] => rfl
  | i :: is => by unfold wipeV; rw [List.length_set, wipeV_len ρ is]
theorem wipeV_gt (ρ : En) : ∀ {is : List Nat} {j : Nat}, j ∈ is → gt (wipeV is ρ) j = .un
  | i :: is, j, h => by
    unfold wipeV
    by_cases q : j = i
    · subst q
      by_cases l : j < (wipeV is ρ).length
      · exact gt_set _ l
      · unfold gt; rw [List.getElem?_eq_none (by rw [List.length_set]; omega)]; rfl
    · rw [gt_ne _ q]
      rcases List.mem_cons.mp h with z | z
      · exact absurd z q
      · exact wipeV_gt ρ z
theorem wipe_get (σ : L2.St) : ∀ {is : List Nat} {j : Nat}, j ∉ is → (wipe σ is)[j]? = σ[j]?
  | [], j, _ => rfl
  | i :: is, j, h => by
    unfold wipe
    rw [List.getElem?_set_ne (fun z => h (by subst z; exact List.mem_cons_self))]
    exact wipe_get σ fun z => h (List.mem_cons_of_mem _ z)
theorem wipe_in (σ : L2.St) : ∀ {is : List Nat} {j : Nat}, j ∈ is → j < σ.length → (wipe σ is)[j]? = some none
  | i :: is, j, h, l => by
    unfold wipe
    by_cases q : j = i
    · subst q
      rw [List.getElem?_set_self (by rw [wipe_length]; exact l)]
    · rw [List.getElem?_set_ne (Ne.symm q)]
      rcases List.mem_cons.mp h with z | z
      · exact absurd z q
      · exact wipe_in σ z l
theorem wipe_eq {σ σ' : L2.St} {is : List Nat} (hl : σ.length = σ'.length) (h : ∀ j, j ∉ is → σ[j]? = σ'[j]?) : wipe σ is = wipe σ' is := by
  apply List.ext_getElem?
  intro j
  by_cases q : j ∈ is
  · by_cases l : j < σ.length
    · rw [wipe_in σ q l, wipe_in σ' q (hl ▸ l)]
    · rw [List.getElem?_eq_none (by rw [wipe_length]; omega), List.getElem?_eq_none (by rw [wipe_length]; omega)]
  · rw [wipe_get σ q, wipe_get σ' q, h j q]
theorem unwipe_len (ρ1 ρ : En) : ∀ is : List Nat, (unwipe is ρ1 ρ).length = ρ.length
  | [] => rfl
  | i :: is => by unfold unwipe; rw [List.length_set, unwipe_len ρ1 ρ is]
theorem unwipe_out (ρ1 ρ : En) : ∀ {is : List Nat} {j : Nat}, j ∉ is → gt (unwipe is ρ1 ρ) j = gt ρ j
  | [], j, _ => rfl
  | i :: is, j, h => by
    unfold unwipe
    rw [gt_ne _ (fun z => h (by subst z; exact List.mem_cons_self))]
    exact unwipe_out ρ1 ρ fun z => h (List.mem_cons_of_mem _ z)
theorem unwipe_in (ρ1 ρ : En) : ∀ {is : List Nat} {j : Nat}, j ∈ is → j < ρ.length → gt (unwipe is ρ1 ρ) j = keepVal (gt ρ1 j)
  | i :: is, j, h, l => by
    unfold unwipe
    by_cases q : j = i
    · subst q
      exact gt_set _ (by rw [unwipe_len]; exact l)
    · rw [gt_ne _ q]
      rcases List.mem_cons.mp h with z | z
      · exact absurd z q
      · exact unwipe_in ρ1 ρ z l
/-- back among the names of the def -/
theorem ER.restore {G : Fr} {is : List Nat} (E : ER G as (wipe σ is) H ρ) (hu : ∀ j ∈ is, gt ρ j = .un) (hv : ∀ j ∈ is, ∀ d, gt ρ1 j = .val d → ∃ v, σ[j]? = some (some v) ∧ Rep G.K H (G.av as) d v) : ER G as σ H (unwipe is ρ1 ρ) := by
  have hn : ∀ j ∈ is, as j = none := fun j hj => by
    have q := E.sl j
    change SlAt G H as j _ (gt ρ j) at q
    rw [hu j hj] at q
    exact q
  refine ⟨by rw [unwipe_len, E.len, wipe_length], E.inj, E.nex, fun j => ?_, E.old, E.own, E.exo, E.mok, E.kept⟩
  show SlAt G H as j σ[j]? (gt (unwipe is ρ1 ρ) j)
  by_cases q : j ∈ is
  · by_cases l : j < ρ.length
    · rw [unwipe_in ρ1 ρ q l]
      cases z : gt ρ1 j with
      | val d =>
        obtain ⟨v, h1, h2⟩ := hv j q d z
        exact ⟨hn j q, v, h1, h2⟩
      | un => exact hn j q
      | own d => exact hn j q
      | par d => exact hn j q
    · have : gt (unwipe is ρ1 ρ) j = .un := by unfold gt; rw [List.getElem?_eq_none (by rw [unwipe_len]; omega)]; rfl
      rw [this]
      exact hn j q
  · rw [unwipe_out ρ1 ρ q]
    have z := E.sl j
    rw [wipe_get σ q] at z
    exact z

/-! ### targets -/
/-- a target: g assigns what t binds -/
structure VG (K : PySem.W.Frag) (t : Tg) (g : TG) : Prop where
  go : ∀ {F : Fr} {as : As} {σ : L2.St} {H : Hp} {ρ : En} {d : D} {v : V} {k : En → Prop} {Q : L2.St → Hp → Prop}, F.K = K → ER F as σ H ρ → Rep F.K H (F.av as) d v → bind t d ρ k →
    (∀ as' σ' ρ', Le as' as → ER F as' σ' H ρ' → σ'.length = σ.length → (∀ j, (match t with | .nm i => j ≠ i | .tp is => j ∉ is | .tq i is => j ≠ i ∧ j ∉ is) → σ'[j]? = σ[j]?) → k ρ' → Q σ' H) → g v σ H Q
theorem set_oob {α : Type} {l : List α} {i : Nat} {x : α} (h : ¬ i < l.length) : l.set i x = l := List.set_eq_of_length_le (by omega)
theorem ER.setv' (E : ER F as σ H ρ) {i : Nat} {d : D} {v : V} (r : Rep F.K H (F.av as) d v) : ∃ as', Le as' as ∧ ER F as' (σ.set i (some v)) H (ρ.set i (.val d)) := by
  by_cases h : i < ρ.length
  · exact ⟨_, cut_le as i, E.setv h r⟩
  · rw [set_oob h, set_oob (by rw [← E.len]; exact h)]
    exact ⟨as, Le.refl _, E⟩
theorem vg_nm (K : PySem.W.Frag) (i : Nat) : VG K (.nm i) (gName i) := by
  refine ⟨fun {F as σ H ρ d v k Q} hK E r q c => ?_⟩
  obtain ⟨as', l, E'⟩ := E.setv' (i := i) r
  exact c as' _ _ l E' (by rw [List.length_set]) (fun j hj => List.getElem?_set_ne (Ne.symm hj)) q
/-- several names in a row -/
def gNames : List Nat → TGs
  | [] => gNil
  | i :: is => gCons (gName i) (gNames is)
theorem names_go : ∀ {is : List Nat} {F : Fr} {as : As} {σ : L2.St} {H : Hp} {ρ : En} {ds : List D} {vs : List V} {k : En → Prop} {Q : L2.St → Hp → Prop}, ER F as σ H ρ → Reps F.K H (F.av as) ds vs → ds.length = is.length → k (setAll is ds ρ) →
    (∀ as' σ' ρ', Le as' as → ER F as' σ' H ρ' → σ'.length = σ.length → (∀ j, j ∉ is → σ'[j]? = σ[j]?) → k ρ' → Q σ' H) → gNames is vs σ H Q
  | [], F, as, σ, H, ρ, ds, vs, k, Q, E, r, hl, q, c => by
    cases ds with
    | cons d ds => cases hl
    | nil =>
      unfold Reps at r
      exact ⟨r, c as σ ρ (Le.refl _) E rfl (fun _ _ => rfl) q⟩
  | i :: is, F, as, σ, H, ρ, ds, vs, k, Q, E, r, hl, q, c => by
    cases ds with
    | nil => cases hl
    | cons d ds =>
      unfold Reps at r
      obtain ⟨v, vr, rfl, r1, r2⟩ := r
      obtain ⟨as', l, E'⟩ := E.setv' (i := i) r1
      refine ⟨v, vr, rfl, names_go (k := k) E' (Reps.wk (fun _ _ z => l.av z) r2) (by simpa using hl) q fun as2 σ2 ρ2 l2 E2 hs hj hk => ?_⟩
      refine c as2 σ2 ρ2 (l2.trans l) E2 (by rw [hs, List.length_set]) (fun j hn => ?_) hk
      rw [hj j fun z => hn (List.mem_cons_of_mem _ z), List.getElem?_set_ne fun z => hn (by subst z; exact List.mem_cons_self)]
theorem bind_tq {i : Nat} {is : List Nat} {d : D} {ρ : En} {k : En → Prop} (q : bind (.tq i is) d ρ k) : ∃ d0 es, d = .tup [d0, .tup es] ∧ es.length = is.length ∧ k (setAll is es (ρ.set i (.val d0))) := by
  unfold bind at q
  cases d <;> first | exact q.elim | skip
  rename_i ds
  cases ds with
  | nil => exact q.elim
  | cons d0 r =>
    cases r with
    | nil => exact q.elim
    | cons d1 r =>
      cases r with
      | cons _ _ => cases d1 <;> exact q.elim
      | nil =>
        cases d1 <;> first | exact q.elim | exact ⟨_, _, rfl, q.1, q.2⟩
theorem vg_tq (K : PySem.W.Frag) (i : Nat) (is : List Nat) : VG K (.tq i is) (gTup K 2 (gCons (gName i) (gCons (gTup K is.length (gNames is)) gNil))) := by
  refine ⟨fun {F as σ H ρ d v k Q} hK E r q c => ?_⟩
  obtain ⟨d0, es, rfl, ql, q⟩ := bind_tq q
  unfold Rep at r
  obtain ⟨a, xs, rfl, h1, h2⟩ := r
  obtain ⟨v, v', rfl, g1, g2⟩ := h2.two
  unfold Rep at g2
  obtain ⟨a', ys, rfl, h3, h4⟩ := g2
  obtain ⟨as', l, E'⟩ := E.setv' (i := i) g1
  have h3 : SqT K H a' ys := hK ▸ h3
  have n := names_go (k := k) (Q := fun σ' H' => ([] : List V) = [] ∧ Q σ' H') E' (Reps.wk (fun _ _ z => l.av z) h4) ql q fun as2 σ2 ρ2 l2 E2 hs hj hk => ⟨rfl, by
    refine c as2 σ2 ρ2 (l2.trans l) E2 (by rw [hs, List.length_set]) (fun j hn => ?_) hk
    rw [hj j hn.2, List.getElem?_set_ne (Ne.symm hn.1)]⟩
  exact ⟨a, _, rfl, hK ▸ h1, rfl, v, _, rfl, _, [], rfl, a', ys, rfl, h3, by rw [h4.length]; exact ql, n⟩
theorem vg_tp (K : PySem.W.Frag) (is : List Nat) : VG K (.tp is) (gTup K is.length (gNames is)) := by
  refine ⟨fun {F as σ H ρ d v k Q} hK E r q c => ?_⟩
  unfold bind at q
  cases d <;> first | exact q.elim | skip
  unfold Rep at r
  obtain ⟨a, xs, rfl, h1, h2⟩ := r
  exact ⟨a, xs, rfl, hK ▸ h1, by rw [h2.length]; exact q.1, names_go E h2 q.1 q.2 c⟩
def tgIn (t : Tg) (own : List Nat) : Prop := match t with
  | .nm i => i ∈ own
  | .tp is => ∀ i ∈ is, i ∈ own
  | .tq j is => j ∈ own ∧ ∀ i ∈ is, i ∈ own

/-! ### comprehensions -/
theorem Ok.blk {s : Shared} {scope : Scope} {cenv : Env} {fp : List Addr} (O : Ok X F) : Ok (X.blk s H scope cenv fp) F :=
  ⟨O.K, O.calm, O.nd, O.room, O.seer, O.tree, O.head, fun _ => PassesOwn.never⟩
theorem acc_write (E : ER F as σ H ρ) {D0 : Addr} {xs ys : List V} (hb : H D0 = some (.lst xs)) (hx : F.ex D0) (h0 : F.H0 D0 = none) : ER F as σ (upd H D0 (.lst ys)) ρ := by
  refine ER.go (ex' := F.ex) E (Le.refl _) (fun c z => .inl z) (W := fun c => c = D0) (ext_write hb rfl) (fun c z => z ▸ ⟨.inl hx, .inl h0⟩) rfl fun j => .inl ⟨rfl, rfl, fun b hb' z => ?_⟩
  subst z
  exact E.nex j b hb' hx
/-- the wish of a comprehension -/
def wLc (t : Tg) (own : List Nat) (wi : En → (List D → En → Prop) → Prop) (wc : WT) (we : WE) : WE := fun ρ Q => wi ρ fun its ρ1 => Sm its.length ∧ ∃ I : Nat → List D → En → Prop, I 0 [] (wipeV own ρ1) ∧
  (∀ k d acc ρ, its[k]? = some d → I k acc ρ → bind t d ρ fun ρ2 => wc ρ2 fun c ρ3 => br c (we ρ3 fun r ρ4 => frz1 r ρ4 fun y ρ5 => I (k + 1) (acc ++ [y]) (wipeV own ρ5)) (I (k + 1) acc (wipeV own ρ3))) ∧
  ∀ acc ρ, I its.length acc ρ → Q (.fresh acc) (unwipe own ρ1 ρ)
theorem lc_read {t : Tg} {g : TG} {own : List Nat} {wi : En → (List D → En → Prop) → Prop} {wc : WT} {we : WE} {Q : VK} (hvg : VG F.K t g) (hin : tgIn t own) (h : lE F (wLc t own wi wc we) σ H Q) :
    tLc (lI F wi) g (fun σ H Q => ∃ F' : Fr, F'.K = F.K ∧ lT F' wc σ H Q) (fun σ H Q => ∃ F' : Fr, F'.K = F.K ∧ lE F' we σ H Q) own σ H Q := by
  obtain ⟨as, ρ, Q', E, w, c⟩ := h
  refine ⟨as, ρ, _, E, w, fun as1 its ρ1 H1 J ps A1 Ek hJ ⟨hsm, I, i0, step, last⟩ D0 n => ?_⟩
  have E1 := A1.er
  let G : Fr := Kept (F.with D0) ps
  have h0 : F.H0 D0 = none := E1.fresh n
  have key : ∀ b, H1 b ≠ none → (F.with D0).av as1 b → F.av as1 b := fun b hb z => (of_with z).elim id fun z => absurd n (z ▸ hb)
  have kpG : ∀ {H' : Hp}, Ext (F.mu as1) H1 H' → KpAt F.K H' ((F.with D0).av as1) ps := fun {H'} e p hp => by
    have r := Ek.kp p hp
    exact Rep.wk (fun _ _ z => .inr z) (Rep.ext (e.mono (av' := fun b => F.mu as1 b ∨ (F.with D0).av as1 b) fun _ z => .inl z) (Rep.wk (fun b hb z => z.elim mu_av (key b hb)) r))
  -- what holds between two turns
  let Pv : Nat → Hp → Prop := fun i H' => ∃ as2 ρ2 acc xs, Le as2 as1 ∧ ER G as2 (wipe σ own) H' ρ2 ∧ I i acc ρ2 ∧ H' D0 = some (.lst xs) ∧ Reps F.K H' (G.av as2) acc xs ∧ acc.length ≤ i ∧ Ext (F.mu as1) H1 H' ∧ ∀ j ∈ own, gt ρ2 j = .un
  have Gd : ∀ H', (∃ av, KpAt F.K H' av ps) → True := fun _ _ => trivial
  refine lc_it (g := g) (tt := fun σ H Q => ∃ F' : Fr, F'.K = F.K ∧ lT F' wc σ H Q) (te := fun σ H Q => ∃ F' : Fr, F'.K = F.K ∧ lE F' we σ H Q) (vs := own) (σ := σ) (H1 := H1) (D := D0) (Qd := fun H' => Q (.ref D0) H') (J := J) (n := its.length) (G := fun H' => ∃ av, KpAt F.K H' av ps) (Y := J.yld) ⟨fun i H' hi ⟨av, k⟩ => hJ.goes i H' av hi k, fun H' ⟨av, k⟩ => hJ.stops H' av k, fun i H' x H'' _ _ y => y⟩ Pv ?_ ?_ ?_ ?_
  · -- the start
    have E2 : ER G as1 σ (upd H1 D0 (.lst [])) ρ1 := (E1.with_new n).keep_ (kpG (Ext.new n))
    exact ⟨cutAll as1 own, wipeV own ρ1, [], [], cutAll_le as1 own, E2.wipe_ own, i0, upd_same, Reps.nil, Nat.le_refl _, Ext.new n, fun j hj => wipeV_gt ρ1 hj⟩
  · intro i H' _ ⟨as2, ρ2, acc, xs, _, E2, _⟩
    exact ⟨_, E2.kp⟩
  · intro i x H2 H3 hi ⟨as2, ρ2, acc, xs, l2, E2, hI, hD, hR, hlen, hext, hun⟩ y
    obtain ⟨e3, d, hd, hr⟩ := hJ.ylds i H2 x H3 (G.av as2) hi E2.kp y
    have E3 : ER G as2 (wipe σ own) H3 ρ2 := E2.grow e3
    refine hvg.go (F := G) rfl E3 hr (step i d acc ρ2 hd hI) fun as4 σ4 ρ4 l4 E4 hs4 hj4 q => ?_
    have wip : wipe σ4 own = wipe σ own := by
      rw [wipe_eq (σ := σ4) (σ' := wipe σ own) (is := own) hs4 fun j hj => hj4 j ?_]
      · exact wipe_eq (by rw [wipe_length]) fun j hj => wipe_get σ hj
      · cases t with
        | nm i => exact fun z => hj (z ▸ hin)
        | tp is => exact fun z => hj (hin j z)
        | tq i is => exact ⟨fun z => hj (z ▸ hin.1), fun z => hj (hin.2 j z)⟩
    refine ⟨wip, G, rfl, as4, ρ4, _, E4, q, fun as5 cc ρ5 H5 A5 q => ?_⟩
    have toX : ∀ {as : As} {H' H'' : Hp}, Le as as1 → Ext (G.mu as) H' H'' → Ext (F.mu as1) H' H'' := fun l e => e.mono fun c z => l.mu (F := F) z
    have hD5 : H5 D0 = some (.lst xs) := by
      refine A5.ext.keep D0 _ (e3.keep D0 _ hD fun z => z) fun z => ?_
      rcases z with ⟨j, z⟩ | z
      · exact E4.nex j D0 z (.inr rfl)
      · exact (E1.mok D0 z).1 h0
    have hR5 : Reps F.K H5 (G.av as5) acc xs := by
      have r := Reps.ext (K := F.K) (av := G.av as2) (e3.mono fun _ z => z.elim) hR
      have r := Reps.wk (av' := G.av as4) (fun _ _ z => l4.av (F := G) z) r
      exact Reps.wk (fun _ _ z => A5.le.av (F := G) z) (Reps.ext (A5.ext.mono fun _ z => mu_av (F := G) z) r)
    have x5 : Ext (F.mu as1) H1 H5 := (hext.trans (e3.mono fun _ z => z.elim)).trans (toX (l4.trans l2) A5.ext)
    cases cc with
    | false =>
      refine iteF ?_
      have q := q.2 rfl
      refine ⟨cutAll as5 own, wipeV own ρ5, acc, xs, (cutAll_le as5 own).trans ((A5.le.trans l4).trans l2), ?_, q, hD5, Reps.wk (fun _ _ z => (cutAll_le as5 own).av (F := G) z) hR5, by omega, x5, fun j hj => wipeV_gt ρ5 hj⟩
      rw [← wip]
      exact A5.er.wipe_ own
    | true =>
      refine iteT ?_
      have q := q.1 rfl
      refine ⟨G, rfl, as5, ρ5, _, A5.er, q, fun as6 r ρ6 v H6 A6 P q => ?_⟩
      obtain ⟨dd, as7, ρ7, l7, E7, r7, q⟩ := P.wt.frz A6.er q
      have hD6 : H6 D0 = some (.lst xs) := by
        refine A6.ext.keep D0 _ hD5 fun z => ?_
        rcases z with ⟨j, z⟩ | z
        · exact A5.er.nex j D0 z (.inr rfl)
        · exact (E1.mok D0 z).1 h0
      have hR6 : Reps F.K H6 (G.av as7) acc xs := Reps.wk (fun _ _ z => (l7.trans A6.le).av (F := G) z) (Reps.ext (A6.ext.mono fun _ z => mu_av (F := G) z) hR5)
      have x6 : Ext (F.mu as1) H1 H6 := x5.trans (toX ((A5.le.trans l4).trans l2) A6.ext)
      have hw : Ext (fun c => c = D0) H6 (upd H6 D0 (.lst (xs ++ [v]))) := ext_write hD6 rfl
      have x7 : Ext (F.mu as1) H1 (upd H6 D0 (.lst (xs ++ [v]))) := by
        refine ⟨fun a o h z => ?_, fun a o h z => hw.other a o (x6.other a o h z) z, fun a o h => let ⟨o', h'⟩ := x6.there a o h; hw.there a o' h'⟩
        exact hw.keep a o (x6.keep a o h z) fun z => by subst z; rw [n] at h; cases h
      have E8 : ER G as7 σ4 (upd H6 D0 (.lst (xs ++ [v]))) ρ7 := acc_write E7 hD6 (.inr rfl) h0
      have gl : (fun c => c = D0) D0 → G.av as7 D0 := fun _ => .inl (.inr rfl)
      refine ⟨xs, hD6, ?_, cutAll as7 own, wipeV own ρ7, acc ++ [dd], xs ++ [v], (cutAll_le as7 own).trans ((((l7.trans A6.le).trans A5.le).trans l4).trans l2), ?_, q, upd_same, ?_, ?_, x7, fun j hj => wipeV_gt ρ7 hj⟩
      · have := hR6.length
        have h3 : its.length ≤ 16777216 := hsm
        rw [sizeLine_eq]
        omega
      · rw [← wip]
        exact E8.wipe_ own
      · refine Reps.wk (fun _ _ z => (cutAll_le as7 own).av (F := G) z) (Reps.ext (hw.mono fun c z => by rw [z]; exact gl rfl) ?_)
        exact hR6.append (Reps.cons r7 Reps.nil)
      · rw [List.length_append, List.length_singleton]; omega
  · intro H2 ⟨as2, ρ2, acc, xs, l2, E2, hI, hD, hR, hlen, hext, hun⟩
    have E3 : ER (F.with D0) as2 σ H2 (unwipe own ρ1 ρ2) := by
      refine ER.restore (E2.unkeep (F := F.with D0)) hun fun j hj d hd => ?_
      have q := E1.sl j
      change SlAt F H1 as1 j _ (gt ρ1 j) at q
      rw [hd] at q
      obtain ⟨_, v, q2, q3⟩ := q
      refine ⟨v, q2, Rep.wk (fun _ _ z => .inr (l2.av (F := F.with D0) z)) (Rep.ext (av := fun b => F.mu as1 b ∨ (F.with D0).av as1 b) (hext.mono fun _ z => .inl z) (Rep.wk (fun b hb z => z.elim mu_av (key b hb)) q3))⟩
    have A : Aft F as as2 σ H H2 (unwipe own ρ1 ρ2) := ⟨l2.trans A1.le, E3.unwith, A1.ext.trans (hext.mono fun _ z => A1.le.mu z)⟩
    exact c as2 (.fresh acc) _ (.ref D0) H2 A ⟨D0, xs, rfl, A1.ext.free n, fun z => E1.notav n (l2.av z), hD, hR, E3⟩ (last acc ρ2 hI)
/-- the wish of a comprehension over a list of ours, which stays ours -/
def wLcO (t : Tg) (own : List Nat) (j : Nat) (wc : WT) (we : WE) : WE := fun ρ Q => match gt ρ j with
  | .own its => Sm its.length ∧ ∃ I : Nat → List D → En → Prop, I 0 [] (wipeV own ρ) ∧ (∀ k acc ρ, I k acc ρ → gt ρ j = .own its) ∧
    (∀ k d acc ρ, its[k]? = some d → I k acc ρ → bind t d ρ fun ρ2 => wc ρ2 fun c ρ3 => br c (we ρ3 fun r ρ4 => frz1 r ρ4 fun y ρ5 => I (k + 1) (acc ++ [y]) (wipeV own ρ5)) (I (k + 1) acc (wipeV own ρ3))) ∧
    ∀ acc ρ', I its.length acc ρ' → Q (.fresh acc) (unwipe own ρ ρ')
  | _ => False
theorem lc_readO {t : Tg} {g : TG} {own : List Nat} {jo : Nat} {wc : WT} {we : WE} {Q : VK} (hvg : VG F.K t g) (hin : tgIn t own) (hjo : jo ∉ own) (h : lE F (wLcO t own jo wc we) σ H Q) :
    tLc (iSeqA F.K (tVar jo)) g (fun σ H Q => ∃ F' : Fr, F'.K = F.K ∧ lT F' wc σ H Q) (fun σ H Q => ∃ F' : Fr, F'.K = F.K ∧ lE F' we σ H Q) own σ H Q := by
  obtain ⟨as1, ρ1, Q', E1, w, c⟩ := h
  unfold wLcO at w
  cases zo : gt ρ1 jo with
  | un => simp only [zo] at w
  | val d => simp only [zo] at w
  | par ds => simp only [zo] at w
  | own its =>
  simp only [zo] at w
  obtain ⟨hsm, I, i0, hkeep, step, last⟩ := w
  obtain ⟨b0, xs0, q1, q2, q3, q4⟩ := E1.list (.inl zo)
  refine ⟨_, q2, b0, rfl, .inl ⟨⟨xs0, .inl (.inl q3)⟩, fun D0 n => ?_⟩⟩
  have A1 : Aft F as1 as1 σ H H ρ1 := Aft.refl E1
  let G : Fr := F.with D0
  have n2 : b0 ≠ D0 := fun z => by rw [z, n] at q3; cases q3
  -- the list that is walked, at each turn
  have here : ∀ {i : Nat} {as2 : As} {H' : Hp} {ρ2 : En} {acc : List D}, ER G as2 (wipe σ own) H' ρ2 → I i acc ρ2 → ∃ ys, SqL F.K H' b0 ys ∧ Reps F.K H' (G.av as2) its ys := fun {i as2 H' ρ2 acc} E2 hI => by
    obtain ⟨b2, ys, g1, g2, g3, g4⟩ := E2.list (.inl (hkeep i acc ρ2 hI))
    rw [wipe_get σ hjo, q2] at g2
    cases g2
    exact ⟨ys, .inl (.inl g3), g4⟩
  have h0 : F.H0 D0 = none := E1.fresh n
  have key : ∀ b, H b ≠ none → (F.with D0).av as1 b → F.av as1 b := fun b hb z => (of_with z).elim id fun z => absurd n (z ▸ hb)
  -- what holds between two turns
  let Pv : Nat → Hp → Prop := fun i H' => ∃ as2 ρ2 acc xs, Le as2 as1 ∧ ER G as2 (wipe σ own) H' ρ2 ∧ I i acc ρ2 ∧ H' D0 = some (.lst xs) ∧ Reps F.K H' (G.av as2) acc xs ∧ acc.length ≤ i ∧ Ext (F.mu as1) H H' ∧ ∀ j ∈ own, gt ρ2 j = .un
  refine lc_it (g := g) (tt := fun σ H Q => ∃ F' : Fr, F'.K = F.K ∧ lT F' wc σ H Q) (te := fun σ H Q => ∃ F' : Fr, F'.K = F.K ∧ lE F' we σ H Q) (vs := own) (σ := σ) (H1 := H) (D := D0) (Qd := fun H' => Q (.ref D0) H') (J := Itl F.K b0) (n := its.length) (G := fun H' => ∃ ys, SqL F.K H' b0 ys ∧ ys.length = its.length) (Y := (Itl F.K b0).yld) ⟨fun i H' hi ⟨ys, g1, g2⟩ => ⟨ys, ys[i]'(by omega), g1, by rw [List.getElem?_eq_getElem]⟩, fun H' ⟨ys, g1, g2⟩ => ⟨ys, g1, Nat.le_of_eq g2⟩, fun i H' x H'' _ _ y => y⟩ Pv ?_ ?_ ?_ ?_
  · -- the start
    have E2 : ER G as1 σ (upd H D0 (.lst [])) ρ1 := E1.with_new n
    exact ⟨cutAll as1 own, wipeV own ρ1, [], [], cutAll_le as1 own, E2.wipe_ own, i0, upd_same, Reps.nil, Nat.le_refl _, Ext.new n, fun j hj => wipeV_gt ρ1 hj⟩
  · intro i H' _ ⟨as2, ρ2, acc, xs, _, E2, hI, _⟩
    obtain ⟨ys, g1, g2⟩ := here E2 hI
    exact ⟨ys, g1, g2.length⟩
  · intro i x H2 H3 hi ⟨as2, ρ2, acc, xs, l2, E2, hI, hD, hR, hlen, hext, hun⟩ y
    obtain ⟨ys, g1, g2⟩ := here E2 hI
    obtain ⟨eH, yy⟩ := y
    obtain ⟨d, hd, hr2⟩ := g2.get' (yy ys g1)
    have e3 : Ext (fun _ => False) H2 H3 := by rw [eH]; exact Ext.refl _ _
    have hr : Rep F.K H3 (G.av as2) d x := by rw [eH]; exact hr2
    have E3 : ER G as2 (wipe σ own) H3 ρ2 := E2.grow e3
    refine hvg.go (F := G) rfl E3 hr (step i d acc ρ2 hd hI) fun as4 σ4 ρ4 l4 E4 hs4 hj4 q => ?_
    have wip : wipe σ4 own = wipe σ own := by
      rw [wipe_eq (σ := σ4) (σ' := wipe σ own) (is := own) hs4 fun j hj => hj4 j ?_]
      · exact wipe_eq (by rw [wipe_length]) fun j hj => wipe_get σ hj
      · cases t with
        | nm i => exact fun z => hj (z ▸ hin)
        | tp is => exact fun z => hj (hin j z)
        | tq i is => exact ⟨fun z => hj (z ▸ hin.1), fun z => hj (hin.2 j z)⟩
    refine ⟨wip, G, rfl, as4, ρ4, _, E4, q, fun as5 cc ρ5 H5 A5 q => ?_⟩
    have toX : ∀ {as : As} {H' H'' : Hp}, Le as as1 → Ext (G.mu as) H' H'' → Ext (F.mu as1) H' H'' := fun l e => e.mono fun c z => l.mu (F := F) z
    have hD5 : H5 D0 = some (.lst xs) := by
      refine A5.ext.keep D0 _ (e3.keep D0 _ hD fun z => z) fun z => ?_
      rcases z with ⟨j, z⟩ | z
      · exact E4.nex j D0 z (.inr rfl)
      · exact (E1.mok D0 z).1 h0
    have hR5 : Reps F.K H5 (G.av as5) acc xs := by
      have r := Reps.ext (K := F.K) (av := G.av as2) (e3.mono fun _ z => z.elim) hR
      have r := Reps.wk (av' := G.av as4) (fun _ _ z => l4.av (F := G) z) r
      exact Reps.wk (fun _ _ z => A5.le.av (F := G) z) (Reps.ext (A5.ext.mono fun _ z => mu_av (F := G) z) r)
    have x5 : Ext (F.mu as1) H H5 := (hext.trans (e3.mono fun _ z => z.elim)).trans (toX (l4.trans l2) A5.ext)
    cases cc with
    | false =>
      refine iteF ?_
      have q := q.2 rfl
      refine ⟨cutAll as5 own, wipeV own ρ5, acc, xs, (cutAll_le as5 own).trans ((A5.le.trans l4).trans l2), ?_, q, hD5, Reps.wk (fun _ _ z => (cutAll_le as5 own).av (F := G) z) hR5, by omega, x5, fun j hj => wipeV_gt ρ5 hj⟩
      rw [← wip]
      exact A5.er.wipe_ own
    | true =>
      refine iteT ?_
      have q := q.1 rfl
      refine ⟨G, rfl, as5, ρ5, _, A5.er, q, fun as6 r ρ6 v H6 A6 P q => ?_⟩
      obtain ⟨dd, as7, ρ7, l7, E7, r7, q⟩ := P.wt.frz A6.er q
      have hD6 : H6 D0 = some (.lst xs) := by
        refine A6.ext.keep D0 _ hD5 fun z => ?_
        rcases z with ⟨j, z⟩ | z
        · exact A5.er.nex j D0 z (.inr rfl)
        · exact (E1.mok D0 z).1 h0
      have hR6 : Reps F.K H6 (G.av as7) acc xs := Reps.wk (fun _ _ z => (l7.trans A6.le).av (F := G) z) (Reps.ext (A6.ext.mono fun _ z => mu_av (F := G) z) hR5)
      have x6 : Ext (F.mu as1) H H6 := x5.trans (toX ((A5.le.trans l4).trans l2) A6.ext)
      have hw : Ext (fun c => c = D0) H6 (upd H6 D0 (.lst (xs ++ [v]))) := ext_write hD6 rfl
      have x7 : Ext (F.mu as1) H (upd H6 D0 (.lst (xs ++ [v]))) := by
        refine ⟨fun a o h z => ?_, fun a o h z => hw.other a o (x6.other a o h z) z, fun a o h => let ⟨o', h'⟩ := x6.there a o h; hw.there a o' h'⟩
        exact hw.keep a o (x6.keep a o h z) fun z => by subst z; rw [n] at h; cases h
      have E8 : ER G as7 σ4 (upd H6 D0 (.lst (xs ++ [v]))) ρ7 := acc_write E7 hD6 (.inr rfl) h0
      have gl : (fun c => c = D0) D0 → G.av as7 D0 := fun _ => .inl (.inr rfl)
      refine ⟨xs, hD6, ?_, cutAll as7 own, wipeV own ρ7, acc ++ [dd], xs ++ [v], (cutAll_le as7 own).trans ((((l7.trans A6.le).trans A5.le).trans l4).trans l2), ?_, q, upd_same, ?_, ?_, x7, fun j hj => wipeV_gt ρ7 hj⟩
      · have := hR6.length
        have h3 : its.length ≤ 16777216 := hsm
        rw [sizeLine_eq]
        omega
      · rw [← wip]
        exact E8.wipe_ own
      · refine Reps.wk (fun _ _ z => (cutAll_le as7 own).av (F := G) z) (Reps.ext (hw.mono fun c z => by rw [z]; exact gl rfl) ?_)
        exact hR6.append (Reps.cons r7 Reps.nil)
      · rw [List.length_append, List.length_singleton]; omega
  · intro H2 ⟨as2, ρ2, acc, xs, l2, E2, hI, hD, hR, hlen, hext, hun⟩
    have E3 : ER (F.with D0) as2 σ H2 (unwipe own ρ1 ρ2) := by
      refine ER.restore (E2) hun fun j hj d hd => ?_
      have q := E1.sl j
      change SlAt F H as1 j _ (gt ρ1 j) at q
      rw [hd] at q
      obtain ⟨_, v, q2, q3⟩ := q
      refine ⟨v, q2, Rep.wk (fun _ _ z => .inr (l2.av (F := F.with D0) z)) (Rep.ext (av := fun b => F.mu as1 b ∨ (F.with D0).av as1 b) (hext.mono fun _ z => .inl z) (Rep.wk (fun b hb z => z.elim mu_av (key b hb)) q3))⟩
    have A : Aft F as1 as2 σ H H2 (unwipe own ρ1 ρ2) := ⟨l2.trans A1.le, E3.unwith, A1.ext.trans (hext.mono fun _ z => A1.le.mu z)⟩
    exact c as2 (.fresh acc) _ (.ref D0) H2 A ⟨D0, xs, rfl, A1.ext.free n, fun z => E1.notav n (l2.av z), hD, hR, E3⟩ (last acc ρ2 hI)
theorem pts_any {ifs : List Expr} {wc : WT} {F : Fr} (ht : ∀ F' : Fr, F'.K = F.K → PTs X ifs (lT F' wc)) : PTs X ifs fun σ H Q => ∃ F' : Fr, F'.K = F.K ∧ lT F' wc σ H Q := ⟨fun pins s σ H Q I ⟨F', h, q⟩ => (ht F' h).run pins s σ H Q I q⟩
theorem pe_any {e : Expr} {we : WE} {F : Fr} (he : ∀ F' : Fr, F'.K = F.K → PE X e (lE F' we)) : PE X e fun σ H Q => ∃ F' : Fr, F'.K = F.K ∧ lE F' we σ H Q := ⟨fun pins s σ H Q I ⟨F', h, q⟩ => (he F' h).run pins s σ H Q I q⟩
theorem ve_lc (O : Ok X F) {elt iter : Expr} {ifs : List Expr} {scope : Scope} {own : List (Str × Nat)} {t : Tg} {g : TG} {wi : En → (List D → En → Prop) → Prop} {wc : WT} {we : WE}
    (hi : VI X F tg iter wi) (ok : BlkOk X.N X.env.scope scope own) (hvg : VG F.K t g) (hin : tgIn t (own.map (·.2)))
    (hg : ∀ (s : Shared) (H : Hp) (C : Addr) (cl : List (Str × Addr)) (fp : List Addr), PG (X.blk s H scope (compEnvC scope cl C X.env) fp) tg g)
    (ht : ∀ (s : Shared) (H : Hp) (C : Addr) (cl : List (Str × Addr)) (fp : List Addr) (F' : Fr), F'.K = F.K → PTs (X.blk s H scope (compEnvC scope cl C X.env) fp) ifs (lT F' wc))
    (he : ∀ (s : Shared) (H : Hp) (C : Addr) (cl : List (Str × Addr)) (fp : List Addr) (F' : Fr), F'.K = F.K → VE (X.blk s H scope (compEnvC scope cl C X.env) fp) F' elt we)
    (hs : ∀ x, foldedSetIterable iter X.env x = pure x) : VE X F (.ListComp elt [⟨tg, iter, ifs, 0⟩] scope pos) (wLc t (own.map (·.2)) wi wc we) :=
  pe_mono (pe_lc O.calm O.nd hi ok hg (fun s H C cl fp => pts_any (ht s H C cl fp)) (fun s H C cl fp => pe_any (he s H C cl fp)) hs) fun σ H Q h => lc_read hvg hin h
theorem ve_lcO (O : Ok X F) {elt : Expr} {x : Str} {px : Pos} {jo : Nat} {ifs : List Expr} {scope : Scope} {own : List (Str × Nat)} {t : Tg} {g : TG} {wc : WT} {we : WE}
    (hN : X.N[jo]? = some x) (hv : Vis X.env.scope x) (hd : (x == ("__debug__" : Str)) = false) (hcd : (x == ("__classdict__" : Str)) = false) (hjo : jo ∉ own.map (·.2)) (ok : BlkOk X.N X.env.scope scope own) (hvg : VG F.K t g) (hin : tgIn t (own.map (·.2)))
    (hg : ∀ (s : Shared) (H : Hp) (C : Addr) (cl : List (Str × Addr)) (fp : List Addr), PG (X.blk s H scope (compEnvC scope cl C X.env) fp) tg g)
    (ht : ∀ (s : Shared) (H : Hp) (C : Addr) (cl : List (Str × Addr)) (fp : List Addr) (F' : Fr), F'.K = F.K → PTs (X.blk s H scope (compEnvC scope cl C X.env) fp) ifs (lT F' wc))
    (he : ∀ (s : Shared) (H : Hp) (C : Addr) (cl : List (Str × Addr)) (fp : List Addr) (F' : Fr), F'.K = F.K → VE (X.blk s H scope (compEnvC scope cl C X.env) fp) F' elt we)
    (hs : ∀ y, foldedSetIterable (.Name x px) X.env y = pure y) : VE X F (.ListComp elt [⟨tg, .Name x px, ifs, 0⟩] scope pos) (wLcO t (own.map (·.2)) jo wc we) :=
  pe_mono (pe_lc O.calm O.nd (pi_seqA (pe_var hN hv hd hcd)) ok hg (fun s H C cl fp => pts_any (ht s H C cl fp)) (fun s H C cl fp => pe_any (he s H C cl fp)) hs) fun σ H Q h => by
    rw [O.K]
    exact lc_readO hvg hin hjo h
end
end VL

/-! VL12: statements. -/
namespace VL
open PySem PySem.Spec L2
section
variable {X : Cx} {F : Fr} {as as' as1 as2 : As} {σ σ' : L2.St} {H H' H1 H2 : Hp} {ρ ρ' ρ1 ρ2 : En} {e a b c : Expr} {es : List Expr} {wa wb wc we : WE} {wl : WA} {pos p : Pos} {tg it : Expr} {st : Stmt} {sts : List Stmt} {ws wt : WS} {wb' : WT}
/-- slot i holds a new list of ours -/
theorem ER.setown {b : Addr} {ds : List D} {xs : List V} {i : Nat} (E : ER (F.with b) as σ H ρ) (h0 : F.H0 b = none) (hm : F.m ≠ some b) (hb : H b = some (.lst xs)) (r : Reps F.K H ((F.with b).av as) ds xs) (hnx : ¬ F.ex b) :
    ∃ as', ER F as' (σ.set i (some (.ref b))) H (ρ.set i (.own ds)) := by
  by_cases hi : i < ρ.length
  · let as' : As := fun j => if j = i then some b else as j
    have ai : as' i = some b := if_pos rfl
    have aj : ∀ {j : Nat}, j ≠ i → as' j = as j := fun h => if_neg h
    have av' : ∀ c, F.av as' c → (F.with b).av as c := fun c z => by
      rcases z with z | ⟨j, z⟩ | z
      · exact .inl (.inl z)
      · by_cases q : j = i
        · subst q; rw [ai] at z; cases z; exact .inl (.inr rfl)
        · rw [aj q] at z; exact .inr (.inl ⟨j, z⟩)
      · exact .inr (.inr z)
    have nb : ∀ j, as j ≠ some b := fun j h => E.nex j b h (.inr rfl)
    refine ⟨as', ⟨by rw [List.length_set, List.length_set]; exact E.len, fun j k c hj hk => ?_, fun j c hj z => ?_, fun j => ?_, E.old, fun j c hj => ?_, fun c z => E.exo c (z.elim (fun z => .inl (.inl z)) .inr), E.mok, fun p hp => Rep.wk (fun _ _ z => av' _ z) (E.kept p hp)⟩⟩
    · by_cases q : j = i
      · by_cases q' : k = i
        · rw [q, q']
        · subst q; rw [ai] at hj; cases hj; rw [aj q'] at hk; exact absurd hk (nb k)
      · by_cases q' : k = i
        · subst q'; rw [ai] at hk; cases hk; rw [aj q] at hj; exact absurd hj (nb j)
        · rw [aj q] at hj; rw [aj q'] at hk; exact E.inj j k c hj hk
    · by_cases q : j = i
      · subst q; rw [ai] at hj; cases hj; exact hnx z
      · rw [aj q] at hj; exact E.nex j c hj (.inl z)
    · show SlAt F H as' j (σ.set i (some (.ref b)))[j]? (gt (ρ.set i (.own ds)) j)
      by_cases q : j = i
      · subst q
        rw [gt_set ρ hi, List.getElem?_set_self (by rw [← E.len]; exact hi)]
        exact ⟨b, xs, ai, .inl h0, rfl, hb, Reps.wk (fun _ _ z => av' _ z) r⟩
      · rw [gt_ne ρ q, List.getElem?_set_ne (Ne.symm q)]
        have z := E.sl j
        change SlAt (F.with b) H as j _ (gt ρ j) at z
        cases s : gt ρ j with
        | un => rw [s] at z; exact (aj q).trans z
        | val d =>
          rw [s] at z
          obtain ⟨z1, v, z2, z3⟩ := z
          exact ⟨(aj q).trans z1, v, z2, Rep.wk (fun _ _ z => av' _ z) z3⟩
        | own es =>
          rw [s] at z
          obtain ⟨c, ys, z1, z2, z3, z4, z5⟩ := z
          exact ⟨c, ys, (aj q).trans z1, z2, z3, z4, Reps.wk (fun _ _ z => av' _ z) z5⟩
        | par es =>
          rw [s] at z
          obtain ⟨c, ys, z1, z2, z3, z4, z5⟩ := z
          exact ⟨c, ys, (aj q).trans z1, z2, z3, z4, Reps.wk (fun _ _ z => av' _ z) z5⟩
    · by_cases q : j = i
      · subst q; rw [ai] at hj; cases hj; exact .inl h0
      · rw [aj q] at hj; exact E.own j c hj
  · rw [set_oob hi, set_oob (by rw [← E.len]; exact hi)]
    exact ⟨as, E.unwith⟩
theorem slot_go {i : Nat} {r : R} {v : V} {k : En → Prop} {Q : L2.St → Hp → Prop} (E : ER F as σ H ρ) (A : Aft F as as1 σ H H1 ρ1) (P : RP F as1 σ H H1 ρ1 r v) (q : toSlot i r ρ1 k) (c : ∀ as' ρ' σ' H', ER F as' σ' H' ρ' → k ρ' → Q σ' H') : Q (σ.set i (some v)) H1 := by
  cases r with
  | val d =>
    obtain ⟨as', _, E'⟩ := A.er.setv' (i := i) P
    exact c as' _ _ _ E' q
  | fresh ds =>
    obtain ⟨b, xs, rfl, h0, h1, h2, h3, h4⟩ := P
    obtain ⟨as', E'⟩ := ER.setown (i := i) h4 (E.fresh h0) (fun z => h1 (.inr (.inr z))) h2 h3 (fun z => h1 (.inl z))
    exact c as' _ _ _ E' q
  | slot j =>
    obtain ⟨d, as2, ρ2, l, E2, g, q⟩ := P.wt.frz (k := fun d ρ2 => k (ρ2.set i (.val d))) A.er q
    obtain ⟨as', _, E'⟩ := E2.setv' (i := i) g
    exact c as' _ _ _ E' q
end
end VL
namespace VL
open PySem PySem.Spec L2
section
variable {X : Cx} {F : Fr} {as as' as1 as2 : As} {σ σ' : L2.St} {H H' H1 H2 : Hp} {ρ ρ' ρ1 ρ2 : En} {e a b c : Expr} {es : List Expr} {wa wb wc we wi : WE} {wl : WA} {pos p px : Pos} {tg it : Expr} {st : Stmt} {sts : List Stmt} {ws wt : WS} {wb' : WT} {i : Nat} {x : Str}
theorem vs_nil : VSs X F [] fun ρ K => K.nx ρ := pss_mono pss_nil fun D σ H ⟨as, ρ, K, E, w, c1, c2, c3, c4⟩ => c1 as ρ σ H E w
theorem vs_cons (h : VS X F st ws) (hs : VSs X F sts wt) : VSs X F (st :: sts) fun ρ K => ws ρ { K with nx := fun ρ1 => wt ρ1 K } := by
  refine pss_mono (pss_cons h hs) fun D σ H ⟨as, ρ, K, E, w, c1, c2, c3, c4⟩ => ?_
  exact ⟨as, ρ, _, E, w, fun as' ρ' σ' H' E' q => ⟨as', ρ', K, E', q, c1, c2, c3, c4⟩, c2, c3, c4⟩
theorem vs_asg (hN : X.N[i]? = some x) (hx : Loc X.env.scope x) (nd : X.N.Nodup) (he : VE X F e we) (hs : swapsWith e (some (.Name x px)) pos.line X.env = pure false) (hf : X.fn x = true ∨ X.env.scope.names.lookup x = some .local) :
    VS X F (.Assign [.Name x px] e pos) fun ρ K => we ρ fun r ρ1 => toSlot i r ρ1 K.nx := by
  refine ps_mono (ps_set nd hN hx he hs hf) fun D σ H ⟨as, ρ, K, E, w, c1, c2, c3, c4⟩ => ?_
  exact ⟨as, ρ, _, E, w, fun as1 r ρ1 v H1 A P q => slot_go E A P q c1⟩
theorem vs_asgLc (O : Ok X F) {elt iter : Expr} {ifs : List Expr} {scope : Scope} {own : List (Str × Nat)} {t : Tg} {g : TG} {wi : En → (List D → En → Prop) → Prop} {wc : WT} {we : WE} {lpos : Pos} (hN : X.N[i]? = some x) (hxl : X.env.scope.names.lookup x = some .local)
    (hsw : swapsWith (.ListComp elt [⟨tg, iter, ifs, 0⟩] scope lpos) (some (.Name x px)) pos.line X.env = pure true)
    (hi : VI X F tg iter wi) (ok : BlkOk X.N X.env.scope scope own) (hvg : VG F.K t g) (hin : tgIn t (own.map (·.2)))
    (hg : ∀ (s : Shared) (H : Hp) (C : Addr) (cl : List (Str × Addr)) (fp : List Addr), PG (X.blk s H scope (compEnvC scope cl C X.env) fp) tg g)
    (ht : ∀ (s : Shared) (H : Hp) (C : Addr) (cl : List (Str × Addr)) (fp : List Addr) (F' : Fr), F'.K = F.K → PTs (X.blk s H scope (compEnvC scope cl C X.env) fp) ifs (lT F' wc))
    (he : ∀ (s : Shared) (H : Hp) (C : Addr) (cl : List (Str × Addr)) (fp : List Addr) (F' : Fr), F'.K = F.K → VE (X.blk s H scope (compEnvC scope cl C X.env) fp) F' elt we)
    (hs : ∀ x, foldedSetIterable iter X.env x = pure x) :
    VS X F (.Assign [.Name x px] (.ListComp elt [⟨tg, iter, ifs, 0⟩] scope lpos) pos) fun ρ K => wLc t (own.map (·.2)) wi wc we ρ fun r ρ1 => toSlot i r ρ1 K.nx := by
  refine ps_mono (ps_setLc O.calm O.nd hN hxl hsw hi ok hg (fun s H C cl fp => pts_any (ht s H C cl fp)) (fun s H C cl fp => pe_any (he s H C cl fp)) hs) fun D σ H ⟨as, ρ, K, E, w, c1, c2, c3, c4⟩ => ?_
  refine lc_read hvg hin (Q := fun v H1 => gName i v σ H1 D.nx) ⟨as, ρ, _, E, w, fun as1 r ρ1 v H1 A P q => slot_go E A P q c1⟩
theorem vs_asgLcO (O : Ok X F) {elt : Expr} {y : Str} {py : Pos} {jo : Nat} {ifs : List Expr} {scope : Scope} {own : List (Str × Nat)} {t : Tg} {g : TG} {wc : WT} {we : WE} {lpos : Pos} (hN : X.N[i]? = some x) (hxl : X.env.scope.names.lookup x = some .local)
    (hsw : swapsWith (.ListComp elt [⟨tg, .Name y py, ifs, 0⟩] scope lpos) (some (.Name x px)) pos.line X.env = pure true)
    (hNj : X.N[jo]? = some y) (hv : Vis X.env.scope y) (hd : (y == ("__debug__" : Str)) = false) (hcd : (y == ("__classdict__" : Str)) = false) (hjo : jo ∉ own.map (·.2)) (ok : BlkOk X.N X.env.scope scope own) (hvg : VG F.K t g) (hin : tgIn t (own.map (·.2)))
    (hg : ∀ (s : Shared) (H : Hp) (C : Addr) (cl : List (Str × Addr)) (fp : List Addr), PG (X.blk s H scope (compEnvC scope cl C X.env) fp) tg g)
    (ht : ∀ (s : Shared) (H : Hp) (C : Addr) (cl : List (Str × Addr)) (fp : List Addr) (F' : Fr), F'.K = F.K → PTs (X.blk s H scope (compEnvC scope cl C X.env) fp) ifs (lT F' wc))
    (he : ∀ (s : Shared) (H : Hp) (C : Addr) (cl : List (Str × Addr)) (fp : List Addr) (F' : Fr), F'.K = F.K → VE (X.blk s H scope (compEnvC scope cl C X.env) fp) F' elt we)
    (hs : ∀ z, foldedSetIterable (.Name y py) X.env z = pure z) :
    VS X F (.Assign [.Name x px] (.ListComp elt [⟨tg, .Name y py, ifs, 0⟩] scope lpos) pos) fun ρ K => wLcO t (own.map (·.2)) jo wc we ρ fun r ρ1 => toSlot i r ρ1 K.nx := by
  refine ps_mono (ps_setLc O.calm O.nd hN hxl hsw (pi_seqA (pe_var hNj hv hd hcd)) ok hg (fun s H C cl fp => pts_any (ht s H C cl fp)) (fun s H C cl fp => pe_any (he s H C cl fp)) hs) fun D σ H ⟨as, ρ, K, E, w, c1, c2, c3, c4⟩ => ?_
  rw [O.K]
  refine lc_readO hvg hin hjo (Q := fun v H1 => gName i v σ H1 D.nx) ⟨as, ρ, _, E, w, fun as1 r ρ1 v H1 A P q => slot_go E A P q c1⟩
/-- several names = a tuple or a list of as many -/
def gSeq (K : PySem.W.Frag) (n : Nat) (t : TGs) : TG := fun v σ H Q => gTup K n t v σ H Q ∨ gUnl K n t v σ H Q
theorem pg_seq {es : List Expr} {k : Nat} {t : TGs} {n : Nat} (hc : X.calm = true) (h : PGs X es t) (hn : (assignEach es X.env).length = n) (hst : (assignEach es X.env).findIdx? (·.1) = none) : PG X (.Tuple es k pos) (gSeq X.K n t) := by
  refine ⟨fun pins s σ H v u Q I r hw => ?_⟩
  rcases hw with hw | hw
  · exact (pg_tup hc h hn hst).run pins s σ H v u Q I r hw
  · exact (pg_unl hc h hn hst).run pins s σ H v u Q I r hw
theorem vs_asgT {is : List Nat} {elts : List Expr} {k : Nat} {tpos : Pos} (hg : PG X (.Tuple elts k tpos) (gSeq F.K is.length (gNames is))) (he : VE X F e we) (hs : swapsWithSole [.Tuple elts k tpos] e pos.line X.env = pure false) (hw : swappedStores [.Tuple elts k tpos] e X.env = pure none)
    (h1 : (assignEach [.Tuple elts k tpos] X.env).map (·.2) = [assign (.Tuple elts k tpos) X.env]) :
    VS X F (.Assign [.Tuple elts k tpos] e pos) fun ρ K => we ρ fun r ρ1 => frz1 r ρ1 fun d ρ2 => match d with
    | .tup ds => ds.length = is.length ∧ K.nx (setAll is ds ρ2)
    | .lst ds => ds.length = is.length ∧ K.nx (setAll is ds ρ2)
    | _ => False := by
  refine ps_mono (ps_asg he hg hs hw h1) fun D σ H ⟨as, ρ, K, E, w, c1, c2, c3, c4⟩ => ?_
  refine ⟨as, ρ, _, E, w, fun as1 r ρ1 v H1 A P q => ?_⟩
  obtain ⟨d, as2, ρ2, l, E2, g, q⟩ := P.wt.frz A.er q
  by_cases hd : isTup d = true
  · have q' : bind (.tp is) d ρ2 K.nx := by cases d <;> first | exact q.elim | (cases hd; done) | exact q
    exact .inl ((vg_tp F.K is).go rfl E2 g q' fun as' σ' ρ' _ E' _ _ hk => c1 as' ρ' σ' H1 E' hk)
  · cases d <;> first | exact q.elim | exact absurd rfl hd | skip
    rename_i ds
    unfold Rep at g
    obtain ⟨a, xs, rfl, h2, _, h3⟩ := g
    exact .inr ⟨a, xs, rfl, .inl (.inl h2), by rw [h3.length]; exact q.1, names_go E2 h3 q.1 q.2 fun as' σ' ρ' _ E' _ _ hk => c1 as' ρ' σ' H1 E' hk⟩
theorem vs_par2 (O : Ok X F) {i j : Nat} {x y : Str} {py pt : Pos} {kt k2 : Nat} {pt2 : Pos} (hi : X.N[i]? = some x) (hj : X.N[j]? = some y) (hij : i ≠ j) (hx : X.env.scope.names.lookup x = some .local) (hy : X.env.scope.names.lookup y = some .local) (ha : VA X F [a, b] wl)
    (hw : swappedStores [.Tuple [.Name x px, .Name y py] kt pt] (.Tuple [a, b] k2 pt2) X.env = pure (some [x, y])) :
    VS X F (.Assign [.Tuple [.Name x px, .Name y py] kt pt] (.Tuple [a, b] k2 pt2) pos) fun ρ K => wl ρ fun rs ρ1 => frz rs ρ1 fun ds ρ2 => ds.length = 2 ∧ K.nx (setAll [i, j] ds ρ2) := by
  refine ps_mono (ps_par O.calm O.nd hi hj hij hx hy ha hw) fun D σ H ⟨as, ρ, K, E, w, c1, c2, c3, c4⟩ => ?_
  refine ⟨as, ρ, _, E, w, fun as1 rs ρ1 vs H1 A W q => ?_⟩
  obtain ⟨ds, as2, ρ2, l, E2, g, hl, q⟩ := Wts.frz (wts_of W) A.er q
  match ds, hl, g, q with
  | [d, d'], _, g, q =>
    obtain ⟨v, v', rfl, g1, g2⟩ := g.two
    obtain ⟨as3, l3, E3⟩ := E2.setv' (i := i) g1
    obtain ⟨as4, l4, E4⟩ := E3.setv' (i := j) (Rep.wk (fun _ _ z => l3.av z) g2)
    exact ⟨v, v', rfl, c1 as4 _ _ H1 E4 q⟩
theorem vs_par3 (O : Ok X F) {i j l : Nat} {x y z : Str} {py pz pt : Pos} {kt k2 : Nat} {pt2 : Pos} (hi : X.N[i]? = some x) (hj : X.N[j]? = some y) (hl : X.N[l]? = some z) (hij : i ≠ j) (hil : i ≠ l) (hjl : j ≠ l)
    (hx : X.env.scope.names.lookup x = some .local) (hy : X.env.scope.names.lookup y = some .local) (hz : X.env.scope.names.lookup z = some .local) (ha : VA X F [a, b, c] wl)
    (hw : swappedStores [.Tuple [.Name x px, .Name y py, .Name z pz] kt pt] (.Tuple [a, b, c] k2 pt2) X.env = pure (some [x, y, z])) :
    VS X F (.Assign [.Tuple [.Name x px, .Name y py, .Name z pz] kt pt] (.Tuple [a, b, c] k2 pt2) pos) fun ρ K => wl ρ fun rs ρ1 => frz rs ρ1 fun ds ρ2 => ds.length = 3 ∧ K.nx (setAll [i, j, l] ds ρ2) := by
  refine ps_mono (ps_par3 O.calm O.nd hi hj hl hij hil hjl hx hy hz ha hw) fun D σ H ⟨as, ρ, K, E, w, c1, c2, c3, c4⟩ => ?_
  refine ⟨as, ρ, _, E, w, fun as1 rs ρ1 vs H1 A W q => ?_⟩
  obtain ⟨ds, as2, ρ2, l2, E2, g, hlen, q⟩ := Wts.frz (wts_of W) A.er q
  match ds, hlen, g, q with
  | [d, d', d''], _, g, q =>
    unfold Reps at g
    obtain ⟨v, vr, rfl, g1, g⟩ := g
    obtain ⟨v', v'', rfl, g2, g3⟩ := g.two
    obtain ⟨as3, l3, E3⟩ := E2.setv' (i := i) g1
    obtain ⟨as4, l4, E4⟩ := E3.setv' (i := j) (Rep.wk (fun _ _ z => l3.av z) g2)
    obtain ⟨as5, l5, E5⟩ := E4.setv' (i := l) (Rep.wk (fun _ _ z => l3.av (l4.av z)) g3)
    exact ⟨v, v', v'', rfl, c1 as5 _ _ H1 E5 q⟩
theorem putAt_go {y d : VL.D} {iv v : V} {b : Addr} {k : En → Prop} {Q : Hp → Prop} (E : ER F as σ H ρ) (ho : σ[i]? = some (some (.ref b))) (gy : Got F as H y iv) (g : Rep F.K H (F.av as) d v) (q : putAt i y d ρ k) (c : ∀ ρ' H', ER F as σ H' ρ' → Ext (F.mu as) H H' → k ρ' → Q H') :
    rSetL (.ref b) iv v H Q := by
  unfold putAt at q
  cases y <;> first | exact q.elim | skip
  rename_i n
  rw [gy.int]
  have q : (match gt ρ i with
    | .own ds => ∃ j, ixN ds.length n = some j ∧ k (ρ.set i (.own (ds.set j d)))
    | .par ds => ∃ j, ixN ds.length n = some j ∧ k (ρ.set i (.par (ds.set j d)))
    | _ => False) := q
  cases z : gt ρ i with
  | un => simp only [z] at q
  | val d => simp only [z] at q
  | own ds =>
    simp only [z] at q
    obtain ⟨b', xs, h1, h2, h3, h4⟩ := E.list (.inl z)
    rw [ho] at h2; cases h2
    obtain ⟨j, hj, q⟩ := q
    obtain ⟨f1, _, f3⟩ := E.write (ds := ds) (ds' := ds.set j d) (ys := xs.set j v) h1 h3 (Reps.set g j h4)
    exact ⟨b, xs, n, j, rfl, rfl, h3, by rw [h4.length]; exact hj, c _ _ (f1 z) f3 q⟩
  | par ds =>
    simp only [z] at q
    obtain ⟨b', xs, h1, h2, h3, h4⟩ := E.list (.inr z)
    rw [ho] at h2; cases h2
    obtain ⟨j, hj, q⟩ := q
    obtain ⟨_, f2, f3⟩ := E.write (ds := ds) (ds' := ds.set j d) (ys := xs.set j v) h1 h3 (Reps.set g j h4)
    exact ⟨b, xs, n, j, rfl, rfl, h3, by rw [h4.length]; exact hj, c _ _ (f2 z) f3 q⟩
theorem own_addr (E : ER F as σ H ρ) (w : isOwn (gt ρ i) = true) : ∃ b, σ[i]? = some (some (.ref b)) := by
  cases z : gt ρ i with
  | own ds => obtain ⟨b, xs, h1, h2, _⟩ := E.list (.inl z); exact ⟨b, h2⟩
  | par ds => obtain ⟨b, xs, h1, h2, _⟩ := E.list (.inr z); exact ⟨b, h2⟩
  | un => rw [z] at w; cases w
  | val d => rw [z] at w; cases w
theorem vs_sub (O : Ok X F) {tpos : Pos} {ixe : Expr} {wx : WE} (hN : X.N[i]? = some x) (hv : Vis X.env.scope x) (hd : (x == ("__debug__" : Str)) = false) (hcd : (x == ("__classdict__" : Str)) = false) (he : VE X F e we) (hx : VE X F ixe wx)
    (hs : swapsWithSole [.Subscript (.Name x px) ixe tpos] e pos.line X.env = pure false) (hw : swappedStores [.Subscript (.Name x px) ixe tpos] e X.env = pure none) (h1 : (assignEach [.Subscript (.Name x px) ixe tpos] X.env).map (·.2) = [assign (.Subscript (.Name x px) ixe tpos) X.env])
    (ha : ∀ v, assign (.Subscript (.Name x px) ixe tpos) X.env v = (do
      let ov ← holding [v] (eval (.Name x px) X.env)
      let iv ← holding [v, ov] (eval ixe X.env)
      standAt tpos
      holding [v, ov, iv] (setItem ov iv v)
      release [v, ov, iv] [])) :
    VS X F (.Assign [.Subscript (.Name x px) ixe tpos] e pos) fun ρ K => we ρ fun r ρ1 => isOwn (gt ρ1 i) = true ∧ wx ρ1 fun r2 ρ2 => frz1 r ρ2 fun d ρ3 => wRd r2 ρ3 fun y => putAt i y d ρ3 K.nx := by
  refine ps_mono (ps_asg he (pg_sub (pe_var hN hv hd hcd) hx set_list ha) hs hw h1) fun D σ H ⟨as, ρ, K, E, w, c1, c2, c3, c4⟩ => ?_
  refine ⟨as, ρ, _, E, w, fun as1 r ρ1 v H1 A1 P1 ⟨ho, q1⟩ => ?_⟩
  obtain ⟨b, hb⟩ := own_addr A1.er ho
  refine ⟨.ref b, hb, as1, ρ1, _, A1.er, q1, fun as2 r2 ρ2 iv H2 A2 P2 q2 => ?_⟩
  obtain ⟨d, as3, ρ3, l3, E3, g3, q3⟩ := (P1.wt.step A2.le A2.ext).frz A2.er q2
  obtain ⟨y, e1, q3⟩ := wRd_some q3
  have gy := (P2.wt.step l3 (Ext.refl _ _)).got E3 e1
  exact putAt_go E3 hb gy g3 q3 fun ρ' H' E' _ q => c1 as3 ρ' σ H' E' q
/-- x[i], x[j] = a pair -/
theorem vs_asgX (O : Ok X F) {tp1 tp2 tpos p1 p2 : Pos} {k : Nat} {ix1 ix2 : Expr} {wx wy : WE} (hN : X.N[i]? = some x) (hv : Vis X.env.scope x) (hd : (x == ("__debug__" : Str)) = false) (hcd : (x == ("__classdict__" : Str)) = false) (he : VE X F e we) (hx : VE X F ix1 wx) (hy : VE X F ix2 wy)
    (hs : swapsWithSole [.Tuple [.Subscript (.Name x p1) ix1 tp1, .Subscript (.Name x p2) ix2 tp2] k tpos] e pos.line X.env = pure false) (hw : swappedStores [.Tuple [.Subscript (.Name x p1) ix1 tp1, .Subscript (.Name x p2) ix2 tp2] k tpos] e X.env = pure none)
    (ha : ∀ v, assign (.Subscript (.Name x p1) ix1 tp1) X.env v = (do
      let ov ← holding [v] (eval (.Name x p1) X.env)
      let iv ← holding [v, ov] (eval ix1 X.env)
      standAt tp1
      holding [v, ov, iv] (setItem ov iv v)
      release [v, ov, iv] []))
    (hb : ∀ v, assign (.Subscript (.Name x p2) ix2 tp2) X.env v = (do
      let ov ← holding [v] (eval (.Name x p2) X.env)
      let iv ← holding [v, ov] (eval ix2 X.env)
      standAt tp2
      holding [v, ov, iv] (setItem ov iv v)
      release [v, ov, iv] [])) :
    VS X F (.Assign [.Tuple [.Subscript (.Name x p1) ix1 tp1, .Subscript (.Name x p2) ix2 tp2] k tpos] e pos) fun ρ K => we ρ fun r ρ1 => frz1 r ρ1 fun d ρ2 => match d with
    | .tup [d1, d2] => isOwn (gt ρ2 i) = true ∧ wx ρ2 fun r1 ρ3 => wRd r1 ρ3 fun y1 => putAt i y1 d1 ρ3 fun ρ4 => isOwn (gt ρ4 i) = true ∧ wy ρ4 fun r2 ρ5 => wRd r2 ρ5 fun y2 => putAt i y2 d2 ρ5 K.nx
    | _ => False := by
  refine ps_mono (ps_asg he (pg_tup (n := 2) O.calm (pgs_cons (pg_sub (pe_var hN hv hd hcd) hx set_list ha) (pgs_cons (pg_sub (pe_var hN hv hd hcd) hy set_list hb) pgs_nil rfl) rfl) rfl rfl) hs hw rfl) fun D σ H ⟨as, ρ, K, E, w, c1, c2, c3, c4⟩ => ?_
  refine ⟨as, ρ, _, E, w, fun as1 r ρ1 v H1 A1 P1 q1 => ?_⟩
  obtain ⟨d, as2, ρ2, l2, E2, g2, q2⟩ := P1.wt.frz A1.er q1
  cases d <;> first | exact q2.elim | skip
  rename_i ds
  cases ds with
  | nil => exact q2.elim
  | cons d1 ds =>
  cases ds with
  | nil => exact q2.elim
  | cons d2 ds =>
  cases ds with
  | cons _ _ => exact q2.elim
  | nil =>
    obtain ⟨ho, q2⟩ := q2
    unfold Rep at g2
    obtain ⟨a, xs, rfl, h1, h2⟩ := g2
    obtain ⟨v1, v2, rfl, g1, g2⟩ := h2.two
    obtain ⟨b, hb⟩ := own_addr E2 ho
    refine ⟨a, _, rfl, by rw [O.K]; exact h1, rfl, v1, _, rfl, .ref b, hb, as2, ρ2, _, E2, q2, fun as3 r1 ρ3 iv H3 A3 P3 q3 => ?_⟩
    obtain ⟨y1, e1, q3⟩ := wRd_some q3
    have gy := P3.wt.got A3.er e1
    have r1 : Rep F.K H3 (F.av as3) d1 v1 := Rep.wk (fun _ _ z => A3.le.av z) (Rep.ext (A3.ext.mono fun _ z => mu_av z) g1)
    have r2 : Rep F.K H3 (F.av as3) d2 v2 := Rep.wk (fun _ _ z => A3.le.av z) (Rep.ext (A3.ext.mono fun _ z => mu_av z) g2)
    refine putAt_go A3.er hb gy r1 q3 fun ρ4 H4 E4 x4 q4 => ?_
    obtain ⟨ho4, q4⟩ := q4
    obtain ⟨b', hb'⟩ := own_addr E4 ho4
    have r2 : Rep F.K H4 (F.av as3) d2 v2 := Rep.ext (x4.mono fun _ z => mu_av z) r2
    refine ⟨v2, [], rfl, .ref b', hb', as3, ρ4, _, E4, q4, fun as5 r5 ρ5 iv H5 A5 P5 q5 => ?_⟩
    obtain ⟨y2, e2, q5⟩ := wRd_some q5
    have gy := P5.wt.got A5.er e2
    have r2 : Rep F.K H5 (F.av as5) d2 v2 := Rep.wk (fun _ _ z => A5.le.av z) (Rep.ext (A5.ext.mono fun _ z => mu_av z) r2)
    exact putAt_go A5.er hb' gy r2 q5 fun ρ6 H6 E6 _ q => ⟨rfl, c1 as5 ρ6 σ H6 E6 q⟩
theorem itAt_go {y : VL.D} {iv : V} {b : Addr} {k : VL.D → Prop} (E : ER F as σ H ρ) (ho : σ[i]? = some (some (.ref b))) (gy : Got F as H y iv) (q : itAt i y ρ k) :
    ∃ n d v xs, iv = .int n ∧ H b = some (.lst xs) ∧ atI xs n = some v ∧ Rep F.K H (F.av as) d v ∧ k d := by
  unfold itAt at q
  cases y <;> first | exact q.elim | skip
  rename_i n
  have q : (match gt ρ i with
    | .own ds => ∃ d, atI ds n = some d ∧ k d
    | .par ds => ∃ d, atI ds n = some d ∧ k d
    | _ => False) := q
  cases z : gt ρ i with
  | un => simp only [z] at q
  | val d => simp only [z] at q
  | own ds =>
    simp only [z] at q
    obtain ⟨b', xs, h1, h2, h3, h4⟩ := E.list (.inl z)
    rw [ho] at h2; cases h2
    obtain ⟨d, hd, q⟩ := q
    obtain ⟨v, h5, h6⟩ := h4.at hd
    exact ⟨n, d, v, xs, gy.int, h3, h5, h6, q⟩
  | par ds =>
    simp only [z] at q
    obtain ⟨b', xs, h1, h2, h3, h4⟩ := E.list (.inr z)
    rw [ho] at h2; cases h2
    obtain ⟨d, hd, q⟩ := q
    obtain ⟨v, h5, h6⟩ := h4.at hd
    exact ⟨n, d, v, xs, gy.int, h3, h5, h6, q⟩
def rAug (o : Op) : R2 := match o with
  | .add => fun x y H Q => (rI0 (fun i j => .int (i + j))) x y H Q ∨ rStr x y H Q
  | .sub => rI0 fun i j => .int (i - j)
  | _ => fun _ _ _ _ => False
theorem aug_ok (o : Op) : PIp X (opP o) (rAug o) := by
  cases o with
  | add => exact iop_add.or iop_add_str
  | sub => exact iop_sub
  | _ => exact fun _ _ _ _ _ _ _ _ _ _ _ _ h => h.elim
theorem aug_sound (o : Op) {x y : VL.D} {v u : V} {k : VL.D → Prop} {Q : VK} (gx : Got F as H x v) (gy : Got F as H y u) (q : augD o x y k) (c : ∀ z w, (∀ av, Rep F.K H av z w) → k z → Q w H) : rAug o v u H Q := by
  unfold augD at q
  split at q
  · rw [gx.int, gy.int]; exact .inl ⟨_, _, rfl, rfl, c _ _ (fun _ => rep_int _) q⟩
  · rw [gx.int, gy.int]; exact ⟨_, _, rfl, rfl, c _ _ (fun _ => rep_int _) q⟩
  · rw [gx.str, gy.str]; exact .inr ⟨_, _, rfl, rfl, sm_line q.1, c _ _ (fun _ => rep_str _) q.2⟩
  · exact q.elim
theorem vs_aug (O : Ok X F) (o : Op) (hN : X.N[i]? = some x) (hx : Loc X.env.scope x) (he : VE X F e we) (hf : X.fn x = true ∨ X.env.scope.names.lookup x = some .local) :
    VS X F (.AugAssign (.Name x px) (opP o) e pos) fun ρ K => ∃ x, gt ρ i = .val x ∧ we ρ fun r ρ1 => wRd r ρ1 fun y => augD o x y fun z => K.nx (ρ1.set i (.val z)) := by
  refine ps_mono (ps_aug O.nd hN hx he (aug_ok o) hf) fun D σ H ⟨as, ρ, K, E, ⟨d, z, w⟩, c1, c2, c3, c4⟩ => ?_
  have q := E.sl i
  change SlAt F H as i _ (gt ρ i) at q
  rw [z] at q
  obtain ⟨q1, v, q2, q3⟩ := q
  refine ⟨v, q2, as, ρ, _, E, w, fun as1 r ρ1 u H1 A P q => ?_⟩
  obtain ⟨y, e1, q⟩ := wRd_some q
  have gy := P.wt.got A.er e1
  have gx : Got F as1 H1 d v := .inl (Rep.wk (fun _ _ z => A.le.av z) (Rep.ext (A.ext.mono fun _ => mu_av) q3))
  refine aug_sound o gx gy q fun z w r hk => ?_
  obtain ⟨as', _, E'⟩ := A.er.setv' (i := i) (r (F.av as1))
  exact c1 as' _ _ H1 E' hk
theorem get_list (O : Ok X F) : PGet X (rIxL F.K) := by
  intro pins s σ H o i ov iv Q I ro ri h
  obtain ⟨p, xs, n, z, rfl, rfl, hq, he, q⟩ := h
  cases ro
  obtain ⟨t, rfl⟩ := ri
  obtain ⟨its, r, pl, hz⟩ := I.list (O.K.symm ▸ hq)
  obtain ⟨j, h1, h2, h3, h4, h5⟩ := atI_get he
  obtain ⟨w, ew, rw'⟩ := r.get h2
  have hl := r.length
  have fin : EP X pins σ Q w s := ⟨z, H, I, rw', q⟩
  have hn := line63
  by_cases h0 : 0 ≤ n
  · have hj : n.toNat = j := by
      rw [seqIndex_of h0 h5] at h1
      exact Option.some.inj h1
    exact wpAny_getItem_list pl.isList h0 (by omega) (by rw [hj]; simpa using ew) fin
  · have hj : (n + (its.toArray.size : Int)).toNat = j := by
      rw [seqIndex_neg (by omega) h4] at h1
      rw [List.size_toArray, ← hl]
      exact Option.some.inj h1
    exact wpAny_getItem_list_neg pl.isList (by omega) (by rw [List.size_toArray] <;> omega) (by omega) (by rw [hj]; simpa using ew) fin
theorem vs_augS (O : Ok X F) (o : Op) {tpos : Pos} {ixe : Expr} {wx : WE} (hN : X.N[i]? = some x) (hv : Vis X.env.scope x) (hd : (x == ("__debug__" : Str)) = false) (hcd : (x == ("__classdict__" : Str)) = false) (he : VE X F e we) (hx : VE X F ixe wx)
    (ha : ∀ ov iv new, augStore ixe ov iv new = (do holding [new, ov, iv] (setItem ov iv new); release [new, ov, iv] []; pure .next)) :
    VS X F (.AugAssign (.Subscript (.Name x px) ixe tpos) (opP o) e pos) fun ρ K => isOwn (gt ρ i) = true ∧ wx ρ fun r1 ρ1 => wRd r1 ρ1 fun y => itAt i y ρ1 fun d => we ρ1 fun r2 ρ2 => wRd r2 ρ2 fun v => augD o d v fun z => putAt i y z ρ2 K.nx := by
  refine ps_mono (ps_augS (pe_var hN hv hd hcd) hx (get_list O) he (aug_ok o) set_list ha) fun D σ H ⟨as, ρ, K, E, ⟨ho, w⟩, c1, c2, c3, c4⟩ => ?_
  obtain ⟨b, hb⟩ := own_addr E ho
  refine ⟨.ref b, hb, as, ρ, _, E, w, fun as1 r1 ρ1 iv H1 A1 P1 q1 => ?_⟩
  obtain ⟨y, e1, q1⟩ := wRd_some q1
  have gy := P1.wt.got A1.er e1
  obtain ⟨n, d, v, xs, rfl, h1, h2, h3, q2⟩ := itAt_go A1.er hb gy q1
  refine ⟨b, xs, n, v, rfl, rfl, .inl (.inl h1), h2, as1, ρ1, _, A1.er, q2, fun as2 r2 ρ2 u H2 A2 P2 q3 => ?_⟩
  obtain ⟨y2, e2, q3⟩ := wRd_some q3
  have g2 := P2.wt.got A2.er e2
  have gd : Got F as2 H2 d v := .inl (Rep.wk (fun _ _ z => A2.le.av z) (Rep.ext (A2.ext.mono fun _ => mu_av) h3))
  have gy2 : Got F as2 H2 y (.int n) := by
    have := gy.rep
    cases y with
    | int m => have e := gy.int; cases e; exact .inl (rep_int _)
    | _ => unfold Rep at this; first | (cases this; done) | (obtain ⟨_, _, z, _⟩ := this; cases z)
  refine aug_sound o gd g2 q3 fun z w r hk => ?_
  exact putAt_go A2.er hb gy2 (r _) hk fun ρ' H' E' _ q => c1 as2 ρ' σ H' E' q
theorem vs_ex (he : VE X F e we) (hs : swapsWith e none pos.line X.env = pure false) : VS X F (.Expr e pos) fun ρ K => we ρ fun _ ρ1 => K.nx ρ1 := by
  refine ps_mono (ps_expr he hs) fun D σ H ⟨as, ρ, K, E, w, c1, c2, c3, c4⟩ => ?_
  exact ⟨as, ρ, _, E, w, fun as1 r ρ1 v H1 A P q => c1 as1 ρ1 σ H1 A.er q⟩
theorem vs_ret (he : VE X F e we) : VS X F (.Return (some e) pos) fun ρ K => we ρ fun r ρ1 => match r with
    | .val d => K.rt (.val d) ρ1
    | .fresh ds => K.rt (.fresh ds) ρ1
    | .slot j => match gt ρ1 j with
      | .own ds => K.rt (.fresh ds) ρ1
      | _ => False := by
  refine ps_mono (ps_ret he) fun D σ H ⟨as, ρ, K, E, w, c1, c2, c3, c4⟩ => ?_
  refine ⟨as, ρ, _, E, w, fun as1 r ρ1 v H1 A P q => ?_⟩
  cases r with
  | val d => exact c4 as1 ρ1 σ H1 (.val d) v A.er P q
  | fresh ds =>
    obtain ⟨b, xs, rfl, h0, h1, h2, h3, h4⟩ := P
    refine c4 as1 ρ1 σ H1 (.fresh ds) _ A.er ⟨b, xs, rfl, .inl (E.fresh h0), h2, Reps.wk (fun c _ z => z.elim with_av fun z => .inl (.inr z)) h3, fun i ds' z => ?_⟩ q
    have s := h4.sl i
    rw [z] at s
    obtain ⟨a, ys, s1, _, _, s4, s5⟩ := s
    exact ⟨a, ys, s1, s4, Reps.wk (fun c _ z => z.elim with_av fun z => .inl (.inr z)) s5⟩
  | slot j =>
    obtain ⟨b, h1, rfl⟩ := P
    have q : (match gt ρ1 j with | .own ds => K.rt (.fresh ds) ρ1 | _ => False) := q
    cases z : gt ρ1 j with
    | un => simp only [z] at q
    | val d => simp only [z] at q
    | par d => simp only [z] at q
    | own ds =>
      simp only [z] at q
      have s := A.er.sl j
      change SlAt F H1 as1 j _ (gt ρ1 j) at s
      rw [z] at s
      obtain ⟨b', xs, s1, s2, s3, s4, s5⟩ := s
      rw [h1] at s1; cases s1
      refine c4 as1 ρ1 σ H1 (.fresh ds) _ A.er ⟨b, xs, rfl, s2, s4, Reps.wk (fun c _ z => z.elim id fun z => .inr (.inl ⟨j, z ▸ h1⟩)) s5, fun i ds' z => ?_⟩ q
      have s := A.er.sl i
      rw [z] at s
      obtain ⟨a, ys, s1, _, _, s4, s5⟩ := s
      exact ⟨a, ys, s1, s4, Reps.wk (fun c _ z => z.elim id fun z => .inr (.inl ⟨j, z ▸ h1⟩)) s5⟩
theorem vs_ret0 : VS X F (.Return none pos) fun ρ K => K.rt (.val .non) ρ :=
  ps_mono ps_retN fun D σ H ⟨as, ρ, K, E, w, c1, c2, c3, c4⟩ => c4 as ρ σ H (.val .non) .non E (rep_non (K := F.K) (H := H) (av := F.av as)) w
theorem vs_if {cc : Expr} {A B : List Stmt} {wa' wb'' : WS} {wc' : WT} (hc : VT X F cc wc') (ha : VSs X F A wa') (hb : VSs X F B wb'') : VS X F (.If cc A B pos) fun ρ K => wc' ρ fun z ρ1 => br z (wa' ρ1 K) (wb'' ρ1 K) := by
  refine ps_mono (ps_if hc ha hb) fun D σ H ⟨as, ρ, K, E, w, c1, c2, c3, c4⟩ => ?_
  refine ⟨as, ρ, _, E, w, fun as1 z ρ1 H1 A q => br_if q (fun q => ?_) fun q => ?_⟩
  · exact ⟨as1, ρ1, K, A.er, q, c1, c2, c3, c4⟩
  · exact ⟨as1, ρ1, K, A.er, q, c1, c2, c3, c4⟩
theorem vs_while (O : Ok X F) {cc : Expr} {B : List Stmt} {wb'' : WS} {wc' : WT} (hc : VT X F cc wc') (hb : VSs X F B wb'') :
    VS X F (.While cc B [] pos) fun ρ K => ∃ I : Nat → En → Prop, (∃ m, I m ρ) ∧ ∀ m ρ, I m ρ → wc' ρ fun z ρ1 =>
      br z (wb'' ρ1 { nx := fun ρ2 => ∃ m', m' < m ∧ I m' ρ2, ct := fun ρ2 => ∃ m', m' < m ∧ I m' ρ2, bk := K.nx, rt := K.rt }) (K.nx ρ1) := by
  refine ps_mono (ps_while (O.pass _) hc hb) fun D σ H ⟨as, ρ, K, E, ⟨I, ⟨m0, i0⟩, step⟩, c1, c2, c3, c4⟩ => ?_
  refine ⟨fun m σ H => ∃ as ρ, ER F as σ H ρ ∧ I m ρ, ⟨m0, as, ρ, E, i0⟩, fun m σ H ⟨as, ρ, E, hi⟩ => ?_⟩
  refine ⟨as, ρ, _, E, step m ρ hi, fun as1 z ρ1 H1 A q => br_if q (fun q => ?_) fun q => c1 as1 ρ1 σ H1 A.er q⟩
  refine ⟨fun σ' H' => ∃ m', m' < m ∧ ∃ as ρ, ER F as σ' H' ρ ∧ I m' ρ, fun σ' H' h => h, as1, ρ1, _, A.er, q, ?_, c1, ?_, c4⟩
  · exact fun as' ρ' σ' H' E' ⟨m', hm, hi'⟩ => ⟨m', hm, as', ρ', E', hi'⟩
  · exact fun as' ρ' σ' H' E' ⟨m', hm, hi'⟩ => ⟨m', hm, as', ρ', E', hi'⟩
theorem vs_for (O : Ok X F) {iter : Expr} {B : List Stmt} {wb'' : WS} {t : Tg} {g : TG} {wi' : En → (List VL.D → En → Prop) → Prop} (hi : VI X F tg iter wi') (hvg : VG F.K t g) (hg : PG X tg g) (hb : ∀ F' : Fr, F'.K = F.K → VSs X F' B wb'') (hs : ∀ x, foldedSetIterable iter X.env x = pure x) :
    VS X F (.For tg iter B [] pos) fun ρ K => wi' ρ fun its ρ1 => ∃ I : Nat → En → Prop, I 0 ρ1 ∧
      (∀ k d ρ, its[k]? = some d → I k ρ → bind t d ρ fun ρ2 => wb'' ρ2 { nx := I (k + 1), ct := I (k + 1), bk := K.nx, rt := K.rt }) ∧ ∀ ρ, I its.length ρ → K.nx ρ := by
  have hB : PSs X B fun D σ H => ∃ F' : Fr, F'.K = F.K ∧ lS F' wb'' D σ H := ⟨fun pins s σ H D I ⟨F', h, q⟩ => (hb F' h).run pins s σ H D I q⟩
  refine ps_mono (ps_for (O.pass _) O.calm hi hg hB hs) fun D σ H ⟨as, ρ, K, E, w, c1, c2, c3, c4⟩ => ?_
  refine ⟨as, ρ, _, E, w, fun as1 its ρ1 H1 J ps A Ek hJ ⟨I, i0, step, last⟩ => ?_⟩
  let G : Fr := Kept F ps
  refine for_it (J := J) (n := its.length) (G := fun H' => ∃ av, KpAt F.K H' av ps) (Y := J.yld) (g := g) (tb := fun D σ H => ∃ F' : Fr, F'.K = F.K ∧ lS F' wb'' D σ H) (D := D) (σ := σ) (H := H1)
    ⟨fun i H' hi ⟨av, k⟩ => hJ.goes i H' av hi k, fun H' ⟨av, k⟩ => hJ.stops H' av k, fun i H' x H'' _ _ y => y⟩ (fun i σ' H' => ∃ as ρ, ER G as σ' H' ρ ∧ I i ρ) ⟨as1, ρ1, Ek, i0⟩ ?_ ?_ ?_
  · exact fun i σ' H' _ ⟨as', ρ', E', _⟩ => ⟨_, E'.kp⟩
  · intro k v σ' H2 H3 hk ⟨as2, ρ2, E2, hI⟩ y
    obtain ⟨e3, d, hd, hr⟩ := hJ.ylds k H2 v H3 (G.av as2) hk E2.kp y
    refine hvg.go (F := G) rfl (E2.grow e3) hr (step k d ρ2 hd hI) fun as4 σ4 ρ4 l4 E4 _ _ q => ?_
    refine ⟨G, rfl, as4, ρ4, _, E4, q, fun as' ρ' σ' H' E' q => ⟨as', ρ', E', q⟩, fun as' ρ' σ' H' E' q => c1 as' ρ' σ' H' E'.unkeep q, fun as' ρ' σ' H' E' q => ⟨as', ρ', E', q⟩, fun as' ρ' σ' H' r v E' P q => ?_⟩
    exact c4 as' ρ' σ' H' r v E'.unkeep (by cases r <;> exact P) q
  · exact fun σ' H' ⟨as', ρ', E', hI⟩ => c1 as' ρ' σ' H' E'.unkeep (last ρ' hI)
theorem vs_pass : VS X F (.Pass pos) fun ρ K => K.nx ρ := ps_mono ps_pass fun D σ H ⟨as, ρ, K, E, w, c1, _⟩ => c1 as ρ σ H E w
theorem vs_brk : VS X F (.Break pos) fun ρ K => K.bk ρ := ps_mono ps_break fun D σ H ⟨as, ρ, K, E, w, _, c2, _⟩ => c2 as ρ σ H E w
theorem vs_cnt : VS X F (.Continue pos) fun ρ K => K.ct ρ := ps_mono ps_continue fun D σ H ⟨as, ρ, K, E, w, _, _, c3, _⟩ => c3 as ρ σ H E w
end
end VL

/-! VL13: a text of Python against the small language. -/
namespace VL
open PySem PySem.Spec L2
/-- where a piece of text stands: the block's names, the slots, whether it is the def itself, the defs by number (name, many parameters), the builtins that stand -/
structure Cc where
  sc : Scope
  N : List Str
  top : Bool
  fs : List (Nat × Str × Nat)
  bs : List Str
  gs : List (Str × D)
mutual
def eqD : D → D → Bool
  | .non, .non => true
  | .bl a, .bl b => a == b
  | .int a, .int b => a == b
  | .str a, .str b => a == b
  | .tup a, .tup b => eqDs a b
  | _, _ => false
def eqDs : List D → List D → Bool
  | [], [] => true
  | a :: as, b :: bs => eqD a b && eqDs as bs
  | _, _ => false
end
mutual
theorem eqD_eq : ∀ {a b : D}, eqD a b = true → a = b
  | .non, b, h => by cases b <;> first | rfl | (unfold eqD at h; cases h)
  | .bl a, b, h => by
    cases b <;> first | (unfold eqD at h; cases h; done) | skip
    unfold eqD at h
    rw [eq_of_beq h]
  | .int a, b, h => by
    cases b <;> first | (unfold eqD at h; cases h; done) | skip
    unfold eqD at h
    rw [eq_of_beq h]
  | .str a, b, h => by
    cases b <;> first | (unfold eqD at h; cases h; done) | skip
    unfold eqD at h
    rw [eq_of_beq h]
  | .tup a, b, h => by
    cases b <;> first | (unfold eqD at h; cases h; done) | skip
    unfold eqD at h
    rw [eqDs_eq h]
  | .lst a, b, h => by cases b <;> (unfold eqD at h; cases h)
  | .fix a, b, h => by cases b <;> (unfold eqD at h; cases h)
theorem eqDs_eq : ∀ {a b : List D}, eqDs a b = true → a = b
  | [], b, h => by cases b <;> first | rfl | (unfold eqDs at h; cases h)
  | x :: xs, b, h => by
    cases b with
    | nil => unfold eqDs at h; cases h
    | cons y ys =>
      unfold eqDs at h
      rw [Bool.and_eq_true] at h
      rw [eqD_eq h.1, eqDs_eq h.2]
end
def kindIs (c : Cc) (x : Str) (k : NameKind) : Bool := c.sc.names.lookup x == some k
def okName (x : Str) : Bool := !(x == ("__debug__" : Str)) && !(x == ("__classdict__" : Str))
def chkVar (c : Cc) (i : Nat) (x : Str) : Bool := (c.N[i]? == some x) && (kindIs c x .local || kindIs c x .cell || kindIs c x .free) && okName x
def chkTo (c : Cc) (i : Nat) (x : Str) : Bool := (c.N[i]? == some x) && (kindIs c x .local || (c.top && kindIs c x .cell))
def chkB (c : Cc) (x : Str) : Bool := kindIs c x .globalImplicit && c.bs.contains x
def notStar : Expr → Bool
  | .Starred .. => false
  | _ => true
def notSet : Expr → Bool
  | .Set .. => false
  | _ => true
def notSlice : Expr → Bool
  | .Slice .. => false
  | _ => true
def noComp : Expr → Bool
  | .ListComp .. => false
  | .SetComp .. => false
  | .DictComp .. => false
  | _ => true
def noBase : Expr → Bool
  | .Call (.Name _ _) [] [] _ => false
  | _ => true
def notTup : Expr → Bool
  | .Tuple .. => false
  | _ => true
def plainT : Expr → Bool
  | .UnaryOp .Not _ _ => false
  | .BoolOp .. => false
  | .IfExp .. => false
  | .Compare .. => false
  | _ => true
def chkNames (c : Cc) : List Nat → List Expr → Bool
  | [], [] => true
  | i :: is, .Name x _ :: es => chkTo c i x && chkNames c is es
  | _, _ => false
def chkG (c : Cc) : Tg → Expr → Bool
  | .nm i, .Name x _ => chkTo c i x
  | .tp is, .Tuple es _ _ => chkNames c is es
  | .tq i is, .Tuple [.Name x _, .Tuple es _ _] _ _ => chkTo c i x && chkNames c is es
  | _, _ => false
def ownN (N : List Str) (own : List Nat) : List (Str × Nat) := own.filterMap fun i => N[i]?.map fun x => (x, i)
def inner (c : Cc) (scope : Scope) : Cc := { c with sc := relS scope c.sc, top := false }
def tgOwn (t : Tg) (own : List Nat) : Bool := match t with
  | .nm i => own.contains i
  | .tp is => is.all own.contains
  | .tq i is => own.contains i && is.all own.contains
def itOwn (it : It) (own : List Nat) : Bool := match it with
  | .own j => !own.contains j
  | _ => true
mutual
def chkE (c : Cc) : E → Expr → Bool
  | .var i, .Name x _ => chkVar c i x
  | .glo d, .Name x _ => kindIs c x .globalImplicit && okName x && (c.gs.any fun p => p.1 == x && eqD p.2 d)
  | .non, .Constant .none _ _ => true
  | .bl b, .Constant (.bool b') _ _ => b == b'
  | .int i, .Constant (.int j) _ _ => i == j
  | .str s, .Constant (.str t) _ _ => s == t
  | .tup es, .Tuple xs _ _ => xs.length < 30 && chkA c es xs
  | .lst es, .List xs _ => xs.length < 30 && chkA c es xs
  | .bin o a b, .BinOp x op y _ => (op == opP o) && chkE c a x && chkE c b y
  | .neg a, .UnaryOp .USub x _ => chkE c a x
  | .cmp o a b, .Compare x [op] [y] _ => (op == cmP o) && notSet y && chkE c a x && chkE c b y
  | .chain o o' a b d, .Compare x [op, op'] [y, z] _ => (op == cmP o) && (op' == cmP o') && notSet z && chkE c a x && chkE c b y && chkE c d z
  | .and a b, .BoolOp .And (x :: y :: rest) pos => chkE c a x && (match rest with
    | [] => chkE c b y
    | _ => chkE c b (.BoolOp .And (y :: rest) pos))
  | .or a b, .BoolOp .Or (x :: y :: rest) pos => chkE c a x && (match rest with
    | [] => chkE c b y
    | _ => chkE c b (.BoolOp .Or (y :: rest) pos))
  | .not a, .UnaryOp .Not x _ => chkE c a x
  | .ite t a b, .IfExp tt x y _ => chkT c t tt && chkE c a x && chkE c b y
  | .call f es, .Call (.Name x _) (e :: xs) [] _ => kindIs c x .globalImplicit && okName x && (match c.fs.lookup f with
    | some (y, n) => (x == y) && ((e :: xs).length == n)
    | none => false) && chkA c es (e :: xs)
  | .call f .nil, .Call (.Name x _) [] [] _ => kindIs c x .globalImplicit && okName x && (match c.fs.lookup f with
    | some (y, n) => (x == y) && (n == 0)
    | none => false)
  | .blt f es, .Call (.Name x _) (e :: xs) [] _ => (x == nmB f) && chkB c x && chkA c es (e :: xs)
  | .isi a t, .Call (.Name x _) [e, .Name y _] [] _ => (x == ("isinstance" : Str)) && (y == nmT t) && chkB c x && chkB c y && notStar e && chkE c a e
  | .bits a, .Call (.Attribute e m ap) [] [] pos => (m == ("bit_length" : Str)) && noBase e && (ap.endLine == pos.line) && chkE c a e
  | .mth m i es, .Call (.Attribute (.Name x _) at' ap) xs [] pos => (at' == nmM m) && chkVar c i x && (ap.endLine == pos.line) && chkA c es xs && (match m, xs with
    | .append, _ :: _ => true
    | .extend, _ :: _ => true
    | .insert, _ :: _ => true
    | .popAt, _ :: _ => true
    | .pop, [] => true
    | .reverse, [] => true
    | _, _ => false) && xs.length < 29
  | .ix a i, .Subscript x y _ => notSlice y && chkE c a x && chkE c i y
  | .join z a, .Call (.Attribute (.Constant (.str t) _ _) m ap) [e] [] pos => (z == t) && (m == ("join" : Str)) && notStar e && (ap.endLine == pos.line) && chkE c a e
  | .sl a lo hi, .Subscript x (.Slice l h none _) _ => chkE c a x && chkP c lo l && chkP c hi h
  | .slk a lo st, .Subscript x (.Slice l none (some g) _) _ => chkE c a x && chkP c lo l && chkP c st (some g)
  | .lc elt tg it own cs, .ListComp e [⟨t, i, ifs, z⟩] scope _ => (z == 0) && chkI c it t i && notSet i && (blkC c.N c.sc scope (ownN c.N own)) && ((ownN c.N own).map (·.2) == own) && tgOwn tg own && chkG (inner c scope) tg t && chkTc (inner c scope) cs ifs && chkE (inner c scope) elt e && itOwn it own
  | _, _ => false
def chkT (c : Cc) : T → Expr → Bool
  | .cmp o a b, .Compare x [op] [y] _ => (op == cmP o) && notSet y && chkE c a x && chkE c b y
  | .chain o o' a b d, .Compare x [op, op'] [y, z] _ => (op == cmP o) && (op' == cmP o') && notSet z && chkE c a x && chkE c b y && chkE c d z
  | .and a b, .BoolOp .And (x :: y :: rest) pos => chkT c a x && (match rest with
    | [] => chkT c b y
    | _ => chkT c b (.BoolOp .And (y :: rest) pos))
  | .or a b, .BoolOp .Or (x :: y :: rest) pos => chkT c a x && (match rest with
    | [] => chkT c b y
    | _ => chkT c b (.BoolOp .Or (y :: rest) pos))
  | .not a, .UnaryOp .Not x _ => chkT c a x
  | .tru a, e => plainT e && chkE c a e
  | _, _ => false
def chkTc (c : Cc) : Tc → List Expr → Bool
  | .no, [] => true
  | .yes t, [e] => chkT c t e
  | _, _ => false
def chkP (c : Cc) : Po → Option Expr → Bool
  | .no, none => true
  | .yes a, some e => chkE c a e
  | _, _ => false
def chkA (c : Cc) : Es → List Expr → Bool
  | .nil, [] => true
  | .cons e es, x :: xs => notStar x && chkE c e x && chkA c es xs
  | _, _ => false
def chkI (c : Cc) : It → Expr → Expr → Bool
  | .seq a, _, e => chkE c a e
  | .own j, _, .Name x _ => chkVar c j x
  | .rng1 a, _, .Call (.Name x _) [e] [] _ => (x == ("range" : Str)) && chkB c x && notStar e && chkE c a e
  | .rng2 a b, _, .Call (.Name x _) [e, f] [] _ => (x == ("range" : Str)) && chkB c x && notStar e && notStar f && chkE c a e && chkE c b f
  | .rng2L a b, _, .Call (.Name x _) [e, f] [] _ => (x == ("range" : Str)) && chkB c x && notStar e && notStar f && chkE c a e && chkE c b f
  | .rng3 a b d, _, .Call (.Name x _) [e, f, g] [] _ => (x == ("range" : Str)) && chkB c x && notStar e && notStar f && notStar g && chkE c a e && chkE c b f && chkE c d g
  | .rev a, _, .Call (.Name x _) [e] [] _ => (x == ("reversed" : Str)) && chkB c x && notStar e && chkE c a e
  | .enum a, .Tuple _ _ _, .Call (.Name x _) [e] [] _ => (x == ("enumerate" : Str)) && chkB c x && notStar e && chkE c a e
  | .zip a b, .Tuple _ _ _, .Call (.Name x _) [e, f] [] _ => (x == ("zip" : Str)) && chkB c x && notStar e && notStar f && chkE c a e && chkE c b f
  | _, _, _ => false
end
/-- what swapsWith answers for a comprehension stored at a name -/
def swLc (c : Cc) (x : Str) (px : Pos) (scope : Scope) (lp : Pos) : Bool :=
  (if c.sc.kind.isAnnotationScope then ScopeKind.function else c.sc.kind) == .function && c.sc.names.lookup x == some .local && px.line == lp.line && !(scope.names.any fun (n, k) => n == x && (k == .local || k == .cell))
def parOk (c : Cc) (is : List Nat) (ts : List Expr) (vs : List Expr) : Bool :=
  c.sc.kind == .function && !(vs.all (foldedForSure 8)) && !(vs.all (constantsAlone 8)) && vs.all notStar && (match is, ts, vs with
  | [i, j], [.Name x px, .Name y py], [_, _] => (c.N[i]? == some x) && (c.N[j]? == some y) && kindIs c x .local && kindIs c y .local && (px.line == py.line) && !(x == y) && !(i == j)
  | [i, j, l], [.Name x px, .Name y py, .Name z pz], [_, _, _] => (c.N[i]? == some x) && (c.N[j]? == some y) && (c.N[l]? == some z) && kindIs c x .local && kindIs c y .local && kindIs c z .local && (px.line == py.line) && (px.line == pz.line) && !(x == y) && !(x == z) && !(y == z) && !(i == j) && !(i == l) && !(j == l)
  | _, _, _ => false)
mutual
def chkS (c : Cc) : S → Stmt → Bool
  | .asg i e, .Assign [.Name x px] v pos => chkTo c i x && chkE c e v && (noComp v || (match v with
    | .ListComp _ _ scope lp => swLc c x px scope lp || !(swLc c x px scope lp)
    | _ => false))
  | .asgT is e, .Assign [.Tuple ts _ _] v _ => chkNames c is ts && chkE c e v && notTup v
  | .par is es, .Assign [.Tuple ts _ _] (.Tuple vs _ _) _ => parOk c is ts vs && chkA c es vs
  | .asgX i x y e, .Assign [.Tuple [.Subscript (.Name n _) u _, .Subscript (.Name m _) w _] _ _] v _ => chkVar c i n && (n == m) && notSlice u && notSlice w && chkE c x u && chkE c y w && chkE c e v && noComp v
  | .sub i x e, .Assign [.Subscript (.Name n _) y _] v _ => chkVar c i n && notSlice y && chkE c x y && chkE c e v && noComp v
  | .aug i o e, .AugAssign (.Name x _) op v _ => chkTo c i x && (op == opP o) && chkE c e v
  | .augS i x o e, .AugAssign (.Subscript (.Name n _) y _) op v _ => chkVar c i n && notSlice y && (op == opP o) && chkE c x y && chkE c e v
  | .ex e, .Expr v _ => noComp v && chkE c e v
  | .ret e, .Return (some v) _ => chkE c e v
  | .ret0, .Return none _ => true
  | .ite t a b, .If e x y _ => chkT c t e && chkSs c a x && chkSs c b y
  | .whl t a, .While e x [] _ => chkT c t e && chkSs c a x
  | .for tg it b, .For t i x [] _ => chkG c tg t && chkI c it t i && notSet i && chkSs c b x
  | .pass, .Pass _ => true
  | .brk, .Break _ => true
  | .cnt, .Continue _ => true
  | _, _ => false
def chkSs (c : Cc) : Ss → List Stmt → Bool
  | .nil, [] => true
  | .cons s ss, x :: xs => chkS c s x && chkSs c ss xs
  | _, _ => false
end
end VL

/-! VL14: what is checked keeps its reading. -/
namespace VL
open PySem PySem.Spec L2
/-- the place X is as c says, and the defs by number keep their promises Γ -/
structure Xc (Γ : Nat → VF) (X : Cx) (c : Cc) : Prop where
  N : X.N = c.N
  sc : X.env.scope = c.sc
  fn : c.top = true → ∀ x, X.fn x = true
  fs : ∀ f x n, c.fs.lookup f = some (x, n) → ∃ k fa fd ps, ps.length = n ∧ FnOk X.prog X.w X.K X.mg X.base CX0 k fa fd ps (spOf X.K n (Γ f)) ∧ Room k X.A ∧ X.mg x = some (.ref fa) ∧ PySem.W.keepIn X.K (.ref fa) = true ∧ Binds X.K fd ps []
  bs : ∀ x, x ∈ c.bs → X.mg x = none
  gs : ∀ p, p ∈ c.gs → ∃ u v, X.mg p.1 = some u ∧ RelV v u ∧ ∀ H av, Rep X.K H av p.2 v
section
variable {Γ : Nat → VF} {X : Cx} {F : Fr} {c : Cc} {x : Str} {i : Nat}
theorem chkVar_ok (hX : Xc Γ X c) (h : chkVar c i x = true) : X.N[i]? = some x ∧ Vis X.env.scope x ∧ (x == ("__debug__" : Str)) = false ∧ (x == ("__classdict__" : Str)) = false := by
  unfold chkVar okName kindIs at h
  simp only [Bool.and_eq_true, Bool.or_eq_true, beq_iff_eq, Bool.not_eq_true'] at h
  obtain ⟨⟨h1, h2⟩, h3, h4⟩ := h
  refine ⟨hX.N ▸ h1, ?_, h3, h4⟩
  rw [hX.sc]
  rcases h2 with (h2 | h2) | h2
  · exact .inl h2
  · exact .inr (.inl h2)
  · exact .inr (.inr h2)
theorem chkTo_ok (hX : Xc Γ X c) (h : chkTo c i x = true) : X.N[i]? = some x ∧ Loc X.env.scope x ∧ (X.fn x = true ∨ X.env.scope.names.lookup x = some .local) := by
  unfold chkTo kindIs at h
  simp only [Bool.and_eq_true, Bool.or_eq_true, beq_iff_eq] at h
  obtain ⟨h1, h2⟩ := h
  refine ⟨hX.N ▸ h1, ?_, ?_⟩
  · rw [hX.sc]; exact h2.imp id fun z => z.2
  · rw [hX.sc]; exact h2.elim .inr fun z => .inl (hX.fn z.1 x)
theorem chkB_ok (hX : Xc Γ X c) (h : chkB c x = true) : Gl X x ∧ X.mg x = none := by
  unfold chkB kindIs at h
  simp only [Bool.and_eq_true, beq_iff_eq, List.contains_eq_mem, decide_eq_true_eq] at h
  refine ⟨?_, hX.bs x h.2⟩
  unfold Gl Env.kindOf
  rw [hX.sc]; exact h.1
theorem star_cons {e : Expr} {es : List Expr} {env : Env} (h : notStar e = true) : starEach (e :: es) env = (false, eval e env) :: starEach es env := by
  cases e <;> first | rfl | cases h
theorem plainIx {b : Expr} (h : notSlice b = true) : PlainIx b := by
  cases b <;> first | (exact fun _ _ => rfl) | cases h
theorem noMark {b : Expr} {op : CmpOp} (h : notSet b = true) : behindInMarks op b = false := by
  cases b <;> first | rfl | cases h
theorem setIter {e : Expr} {env : Env} (h : notSet e = true) : ∀ x, foldedSetIterable e env x = pure x := by
  intro x
  cases e <;> first | rfl | cases h
theorem plainT_ok {e : Expr} {env : Env} (h : plainT e = true) : ∀ whole, isTrue e env whole = (do let v ← whole; standAt e.pos; holding [v] (truthy v)) := by
  intro w
  cases e <;> first | rfl | (cases h; done) | skip
  rename_i op a p
  cases op <;> first | rfl | cases h
theorem noBase_ok {o : Expr} {attr : Str} {env : Env} {w : Sem Value} (h : noBase o = true) : attributeBase o attr env w = w := by
  unfold attributeBase
  cases o <;> first | rfl | skip
  rename_i f as ks p
  cases f <;> first | rfl | skip
  cases as <;> first | rfl | skip
  cases ks <;> first | rfl | cases h
theorem chkA_star : ∀ {es : Es} {xs : List Expr}, chkA c es xs = true → ∀ env pos, (backTo pos (starEach xs env)).any (·.1) = false ∧ (backTo pos (starEach xs env)).all (fun x => !x.1) = true
  | .nil, [], _, _, _ => ⟨rfl, rfl⟩
  | .nil, _ :: _, h, _, _ => by unfold chkA at h; cases h
  | .cons _ _, [], h, _, _ => by unfold chkA at h; cases h
  | .cons e es, x :: xs, h, env, pos => by
    unfold chkA at h
    simp only [Bool.and_eq_true] at h
    obtain ⟨h1, h2⟩ := chkA_star (es := es) (xs := xs) h.2 env pos
    rw [star_cons h.1.1]
    unfold backTo at *
    rw [List.map_cons, List.any_cons, List.all_cons, h1, h2]
    exact ⟨rfl, rfl⟩
theorem chkA_len : ∀ {es : Es} {xs : List Expr}, chkA c es xs = true → xs.length = esLen es
  | .nil, [], _ => rfl
  | .nil, _ :: _, h => by unfold chkA at h; cases h
  | .cons _ _, [], h => by unfold chkA at h; cases h
  | .cons e es, x :: xs, h => by
    unfold chkA at h
    simp only [Bool.and_eq_true] at h
    show xs.length + 1 = esLen es + 1
    rw [chkA_len h.2]
theorem Xc.inner {scope : Scope} (hX : Xc Γ X c) (s : Shared) (H : Hp) (C : Addr) (cl : List (Str × Addr)) (fp : List Addr) : Xc Γ (X.blk s H scope (compEnvC scope cl C X.env) fp) (inner c scope) := by
  refine ⟨hX.N, ?_, fun z => (by cases z), hX.fs, hX.bs, hX.gs⟩
  show relS scope X.env.scope = relS scope c.sc
  rw [hX.sc]
theorem names_pg (hX : Xc Γ X c) (nd : X.N.Nodup) : ∀ {is : List Nat} {es : List Expr}, chkNames c is es = true → PGs X es (gNames is) ∧ (assignEach es X.env).length = is.length ∧ (assignEach es X.env).findIdx? (·.1) = none
  | [], [], _ => ⟨pgs_nil, rfl, rfl⟩
  | [], _ :: _, h => by unfold chkNames at h; cases h
  | i :: is, [], h => by unfold chkNames at h; cases h
  | i :: is, e :: es, h => by
    unfold chkNames at h
    cases e <;> first | (cases h; done) | skip
    rename_i x p
    simp only [Bool.and_eq_true] at h
    obtain ⟨h1, h2, h3⟩ := names_pg hX nd (is := is) (es := es) h.2
    obtain ⟨g1, g2, g3⟩ := chkTo_ok hX h.1
    refine ⟨pgs_cons (pg_name nd g1 g2 g3) h1 (by rfl), ?_, ?_⟩
    · show (assignEach es X.env).length + 1 = is.length + 1
      rw [h2]
    · show List.findIdx? (·.1) ((false, assign (.Name x p) X.env) :: assignEach es X.env) = none
      rw [List.findIdx?_cons, h3]
      rfl
def gOf (K : PySem.W.Frag) : Tg → TG
  | .nm i => gName i
  | .tp is => gTup K is.length (gNames is)
  | .tq i is => gTup K 2 (gCons (gName i) (gCons (gTup K is.length (gNames is)) gNil))
theorem tg_pg (hX : Xc Γ X c) (O : Ok X F) : ∀ {t : Tg} {e : Expr}, chkG c t e = true → PG X e (gOf F.K t)
  | .nm i, e, h => by
    unfold chkG at h
    cases e <;> first | (cases h; done) | skip
    obtain ⟨g1, g2, g3⟩ := chkTo_ok hX h
    exact pg_name O.nd g1 g2 g3
  | .tp is, e, h => by
    unfold chkG at h
    cases e <;> first | (cases h; done) | skip
    obtain ⟨h1, h2, h3⟩ := names_pg hX O.nd h
    show PG X _ (gTup F.K is.length (gNames is))
    rw [← O.K]
    exact pg_tup O.calm h1 h2 h3
  | .tq i is, e, h => by
    unfold chkG at h
    split at h <;> try contradiction
    rename_i q
    cases q
    simp only [Bool.and_eq_true] at h
    obtain ⟨g1, g2, g3⟩ := chkTo_ok hX h.1
    obtain ⟨h1, h2, h3⟩ := names_pg hX O.nd h.2
    show PG X _ (gTup F.K 2 (gCons (gName i) (gCons (gTup F.K is.length (gNames is)) gNil)))
    rw [← O.K]
    exact pg_tup (n := 2) O.calm (pgs_cons (pg_name O.nd g1 g2 g3) (pgs_cons (pg_tup O.calm h1 h2 h3) pgs_nil rfl) rfl) rfl rfl
theorem vg_of (K : PySem.W.Frag) : ∀ t : Tg, VG K t (gOf K t)
  | .nm i => vg_nm K i
  | .tp is => vg_tp K is
  | .tq i is => vg_tq K i is
theorem tgOwn_ok {t : Tg} {own : List Nat} (h : tgOwn t own = true) : tgIn t own := by
  cases t with
  | nm i => simpa [tgOwn, tgIn] using h
  | tp is => simpa [tgOwn, tgIn] using h
  | tq i is => simpa [tgOwn, tgIn] using h
end
end VL

/-! VL15: what a checked text looks like. -/
namespace VL
open PySem PySem.Spec L2
section
variable {c : Cc} {e : Expr}
theorem inv_var {i : Nat} (h : chkE c (.var i) e = true) : ∃ x pos, e = .Name x pos ∧ chkVar c i x = true := by
  unfold chkE at h
  split at h <;> try contradiction
  rename_i q
  cases q
  exact ⟨_, _, rfl, h⟩
theorem inv_glo {d : D} (h : chkE c (.glo d) e = true) : ∃ x pos, e = .Name x pos ∧ kindIs c x .globalImplicit = true ∧ okName x = true ∧ (x, d) ∈ c.gs := by
  unfold chkE at h
  split at h <;> try contradiction
  rename_i q
  cases q
  rw [Bool.and_eq_true, Bool.and_eq_true] at h
  obtain ⟨p, h1, h2⟩ := List.any_eq_true.mp h.2
  rw [Bool.and_eq_true] at h2
  refine ⟨_, _, rfl, h.1.1, h.1.2, ?_⟩
  rw [← eq_of_beq h2.1, ← eqD_eq h2.2]
  exact h1
theorem inv_non (h : chkE c .non e = true) : ∃ j pos, e = .Constant .none j pos := by
  unfold chkE at h
  split at h <;> try contradiction
  exact ⟨_, _, rfl⟩
theorem inv_bl {b : Bool} (h : chkE c (.bl b) e = true) : ∃ j pos, e = .Constant (.bool b) j pos := by
  unfold chkE at h
  split at h <;> try contradiction
  rename_i q
  cases q
  rw [eq_of_beq h]
  exact ⟨_, _, rfl⟩
theorem inv_int {b : Int} (h : chkE c (.int b) e = true) : ∃ j pos, e = .Constant (.int b) j pos := by
  unfold chkE at h
  split at h <;> try contradiction
  rename_i q
  cases q
  rw [eq_of_beq h]
  exact ⟨_, _, rfl⟩
theorem inv_str {b : Str} (h : chkE c (.str b) e = true) : ∃ j pos, e = .Constant (.str b) j pos := by
  unfold chkE at h
  split at h <;> try contradiction
  rename_i q
  cases q
  rw [eq_of_beq h]
  exact ⟨_, _, rfl⟩
theorem inv_tup {es : Es} (h : chkE c (.tup es) e = true) : ∃ xs k pos, e = .Tuple xs k pos ∧ xs.length < 30 ∧ chkA c es xs = true := by
  unfold chkE at h
  split at h <;> try contradiction
  rename_i q
  cases q
  simp only [Bool.and_eq_true, decide_eq_true_eq] at h
  exact ⟨_, _, _, rfl, h.1, h.2⟩
theorem inv_lst {es : Es} (h : chkE c (.lst es) e = true) : ∃ xs pos, e = .List xs pos ∧ xs.length < 30 ∧ chkA c es xs = true := by
  unfold chkE at h
  split at h <;> try contradiction
  rename_i q
  cases q
  simp only [Bool.and_eq_true, decide_eq_true_eq] at h
  exact ⟨_, _, rfl, h.1, h.2⟩
theorem opP_eq {o : Operator} {p : Op} (h : (o == opP p) = true) : o = opP p := by
  cases o <;> cases p <;> first | rfl | (cases h; done)
theorem cmP_eq {o : CmpOp} {p : Cm} (h : (o == cmP p) = true) : o = cmP p := by
  cases o <;> cases p <;> first | rfl | (cases h; done)
theorem inv_bin {o : Op} {a b : E} (h : chkE c (.bin o a b) e = true) : ∃ x y pos, e = .BinOp x (opP o) y pos ∧ chkE c a x = true ∧ chkE c b y = true := by
  unfold chkE at h
  split at h <;> try contradiction
  rename_i q
  cases q
  simp only [Bool.and_eq_true] at h
  rw [opP_eq h.1.1]
  exact ⟨_, _, _, rfl, h.1.2, h.2⟩
theorem inv_neg {a : E} (h : chkE c (.neg a) e = true) : ∃ x pos, e = .UnaryOp .USub x pos ∧ chkE c a x = true := by
  unfold chkE at h
  split at h <;> try contradiction
  rename_i q
  cases q
  exact ⟨_, _, rfl, h⟩
theorem inv_not {a : E} (h : chkE c (.not a) e = true) : ∃ x pos, e = .UnaryOp .Not x pos ∧ chkE c a x = true := by
  unfold chkE at h
  split at h <;> try contradiction
  rename_i q
  cases q
  exact ⟨_, _, rfl, h⟩
theorem inv_cmp {o : Cm} {a b : E} (h : chkE c (.cmp o a b) e = true) : ∃ x y pos, e = .Compare x [cmP o] [y] pos ∧ notSet y = true ∧ chkE c a x = true ∧ chkE c b y = true := by
  unfold chkE at h
  split at h <;> try contradiction
  rename_i q
  cases q
  simp only [Bool.and_eq_true] at h
  rw [cmP_eq h.1.1.1]
  exact ⟨_, _, _, rfl, h.1.1.2, h.1.2, h.2⟩
theorem inv_chain {o o' : Cm} {a b d : E} (h : chkE c (.chain o o' a b d) e = true) : ∃ x y z pos, e = .Compare x [cmP o, cmP o'] [y, z] pos ∧ notSet z = true ∧ chkE c a x = true ∧ chkE c b y = true ∧ chkE c d z = true := by
  unfold chkE at h
  split at h <;> try contradiction
  rename_i q
  cases q
  simp only [Bool.and_eq_true] at h
  rw [cmP_eq h.1.1.1.1.1, cmP_eq h.1.1.1.1.2]
  exact ⟨_, _, _, _, rfl, h.1.1.1.2, h.1.1.2, h.1.2, h.2⟩
theorem inv_and {a b : E} (h : chkE c (.and a b) e = true) : ∃ x y rest pos, e = .BoolOp .And (x :: y :: rest) pos ∧ chkE c a x = true ∧ (rest = [] ∧ chkE c b y = true ∨ chkE c b (.BoolOp .And (y :: rest) pos) = true) := by
  unfold chkE at h
  split at h <;> try contradiction
  rename_i rest _ q
  cases q
  simp only [Bool.and_eq_true] at h
  refine ⟨_, _, _, _, rfl, h.1, ?_⟩
  cases rest with
  | nil => exact .inl ⟨rfl, h.2⟩
  | cons _ _ => exact .inr h.2
theorem inv_or {a b : E} (h : chkE c (.or a b) e = true) : ∃ x y rest pos, e = .BoolOp .Or (x :: y :: rest) pos ∧ chkE c a x = true ∧ (rest = [] ∧ chkE c b y = true ∨ chkE c b (.BoolOp .Or (y :: rest) pos) = true) := by
  unfold chkE at h
  split at h <;> try contradiction
  rename_i rest _ q
  cases q
  simp only [Bool.and_eq_true] at h
  refine ⟨_, _, _, _, rfl, h.1, ?_⟩
  cases rest with
  | nil => exact .inl ⟨rfl, h.2⟩
  | cons _ _ => exact .inr h.2
theorem inv_ite {t : T} {a b : E} (h : chkE c (.ite t a b) e = true) : ∃ tt x y pos, e = .IfExp tt x y pos ∧ chkT c t tt = true ∧ chkE c a x = true ∧ chkE c b y = true := by
  unfold chkE at h
  split at h <;> try contradiction
  rename_i q
  cases q
  simp only [Bool.and_eq_true] at h
  exact ⟨_, _, _, _, rfl, h.1.1, h.1.2, h.2⟩
theorem inv_call {f : Nat} {es : Es} (h : chkE c (.call f es) e = true) : (∃ x p e' xs pos n, e = .Call (.Name x p) (e' :: xs) [] pos ∧ kindIs c x .globalImplicit = true ∧ okName x = true ∧ c.fs.lookup f = some (x, n) ∧ (e' :: xs).length = n ∧ chkA c es (e' :: xs) = true) ∨
    (es = .nil ∧ ∃ x p pos, e = .Call (.Name x p) [] [] pos ∧ kindIs c x .globalImplicit = true ∧ okName x = true ∧ c.fs.lookup f = some (x, 0)) := by
  unfold chkE at h
  split at h <;> try contradiction
  · rename_i q
    cases q
    simp only [Bool.and_eq_true] at h
    obtain ⟨⟨⟨h1, h2⟩, h3⟩, h4⟩ := h
    split at h3 <;> try contradiction
    rename_i y n z
    simp only [Bool.and_eq_true] at h3
    rw [← eq_of_beq h3.1] at z
    exact .inl ⟨_, _, _, _, _, n, rfl, h1, h2, z, eq_of_beq h3.2, h4⟩
  · rename_i q
    cases q
    simp only [Bool.and_eq_true] at h
    obtain ⟨⟨h1, h2⟩, h3⟩ := h
    split at h3 <;> try contradiction
    rename_i y n z
    simp only [Bool.and_eq_true] at h3
    rw [← eq_of_beq h3.1, eq_of_beq h3.2] at z
    exact .inr ⟨rfl, _, _, _, rfl, h1, h2, z⟩
theorem inv_blt {f : Bf} {es : Es} (h : chkE c (.blt f es) e = true) : ∃ p e' xs pos, e = .Call (.Name (nmB f) p) (e' :: xs) [] pos ∧ chkB c (nmB f) = true ∧ chkA c es (e' :: xs) = true := by
  unfold chkE at h
  split at h <;> try contradiction
  rename_i q
  cases q
  simp only [Bool.and_eq_true] at h
  obtain ⟨⟨h1, h2⟩, h3⟩ := h
  have h1 := eq_of_beq h1
  subst h1
  exact ⟨_, _, _, _, rfl, h2, h3⟩
theorem inv_isi {a : E} {t : Ty} (h : chkE c (.isi a t) e = true) : ∃ p x pp pos, e = .Call (.Name "isinstance" p) [x, .Name (nmT t) pp] [] pos ∧ chkB c "isinstance" = true ∧ chkB c (nmT t) = true ∧ notStar x = true ∧ chkE c a x = true := by
  unfold chkE at h
  split at h <;> try contradiction
  rename_i q
  cases q
  simp only [Bool.and_eq_true] at h
  obtain ⟨⟨⟨⟨⟨h1, h2⟩, h3⟩, h4⟩, h5⟩, h6⟩ := h
  have h1 := eq_of_beq h1
  have h2 := eq_of_beq h2
  subst h1; subst h2
  exact ⟨_, _, _, _, rfl, h3, h4, h5, h6⟩
theorem inv_bits {a : E} (h : chkE c (.bits a) e = true) : ∃ x ap pos, e = .Call (.Attribute x "bit_length" ap) [] [] pos ∧ noBase x = true ∧ (ap.endLine == pos.line) = true ∧ chkE c a x = true := by
  unfold chkE at h
  split at h <;> try contradiction
  rename_i q
  cases q
  simp only [Bool.and_eq_true] at h
  obtain ⟨⟨⟨h1, h2⟩, h3⟩, h4⟩ := h
  have h1 := eq_of_beq h1
  subst h1
  exact ⟨_, _, _, rfl, h2, h3, h4⟩
theorem inv_mth {m : Mt} {i : Nat} {es : Es} (h : chkE c (.mth m i es) e = true) : ∃ x px ap xs pos, e = .Call (.Attribute (.Name x px) (nmM m) ap) xs [] pos ∧ chkVar c i x = true ∧ (ap.endLine == pos.line) = true ∧ chkA c es xs = true ∧ xs.length < 29 ∧
    ((m = .append ∨ m = .extend ∨ m = .insert ∨ m = .popAt) ∧ xs ≠ [] ∨ (m = .pop ∨ m = .reverse) ∧ xs = []) := by
  unfold chkE at h
  split at h <;> try contradiction
  rename_i xs pos q
  cases q
  simp only [Bool.and_eq_true, decide_eq_true_eq] at h
  obtain ⟨⟨⟨⟨⟨h1, h2⟩, h3⟩, h4⟩, h5⟩, h6⟩ := h
  have h1 := eq_of_beq h1
  subst h1
  refine ⟨_, _, _, _, _, rfl, h2, h3, h4, h6, ?_⟩
  cases m <;> cases xs <;> first | (cases h5; done) | (exact .inr ⟨by first | exact .inl rfl | exact .inr rfl, rfl⟩) | exact .inl ⟨by first | exact .inl rfl | exact .inr (.inl rfl) | exact .inr (.inr (.inl rfl)) | exact .inr (.inr (.inr rfl)), fun z => nomatch z⟩
theorem inv_ix {a b : E} (h : chkE c (.ix a b) e = true) : ∃ x y pos, e = .Subscript x y pos ∧ notSlice y = true ∧ chkE c a x = true ∧ chkE c b y = true := by
  unfold chkE at h
  split at h <;> try contradiction
  rename_i q
  cases q
  simp only [Bool.and_eq_true] at h
  exact ⟨_, _, _, rfl, h.1.1, h.1.2, h.2⟩
theorem inv_join {z : Str} {a : E} (h : chkE c (.join z a) e = true) : ∃ x j cp ap pos, e = .Call (.Attribute (.Constant (.str z) j cp) "join" ap) [x] [] pos ∧ notStar x = true ∧ (ap.endLine == pos.line) = true ∧ chkE c a x = true := by
  unfold chkE at h
  split at h <;> try contradiction
  rename_i q
  cases q
  simp only [Bool.and_eq_true] at h
  obtain ⟨⟨⟨⟨h1, h2⟩, h3⟩, h4⟩, h5⟩ := h
  have h1 := eq_of_beq h1
  have h2 := eq_of_beq h2
  subst h1; subst h2
  exact ⟨_, _, _, _, _, rfl, h3, h4, h5⟩
theorem inv_sl {a : E} {lo hi : Po} (h : chkE c (.sl a lo hi) e = true) : ∃ x l g p pos, e = .Subscript x (.Slice l g none p) pos ∧ chkE c a x = true ∧ chkP c lo l = true ∧ chkP c hi g = true := by
  unfold chkE at h
  split at h <;> try contradiction
  rename_i q
  cases q
  simp only [Bool.and_eq_true] at h
  exact ⟨_, _, _, _, _, rfl, h.1.1, h.1.2, h.2⟩
theorem inv_slk {a : E} {lo st : Po} (h : chkE c (.slk a lo st) e = true) : ∃ x l g p pos, e = .Subscript x (.Slice l none (some g) p) pos ∧ chkE c a x = true ∧ chkP c lo l = true ∧ chkP c st (some g) = true := by
  unfold chkE at h
  split at h <;> try contradiction
  rename_i q
  cases q
  simp only [Bool.and_eq_true] at h
  exact ⟨_, _, _, _, _, rfl, h.1.1, h.1.2, h.2⟩
theorem inv_lc {elt : E} {tg : Tg} {it : It} {own : List Nat} {cs : Tc} (h : chkE c (.lc elt tg it own cs) e = true) : ∃ x t i ifs scope pos, e = .ListComp x [⟨t, i, ifs, 0⟩] scope pos ∧ chkI c it t i = true ∧ notSet i = true ∧
    blkC c.N c.sc scope (ownN c.N own) = true ∧ (ownN c.N own).map (·.2) = own ∧ tgOwn tg own = true ∧ chkG (inner c scope) tg t = true ∧ chkTc (inner c scope) cs ifs = true ∧ chkE (inner c scope) elt x = true ∧ itOwn it own = true := by
  unfold chkE at h
  split at h <;> try contradiction
  rename_i q
  cases q
  simp only [Bool.and_eq_true] at h
  obtain ⟨⟨⟨⟨⟨⟨⟨⟨⟨h1, h2⟩, h3⟩, h4⟩, h5⟩, h6⟩, h7⟩, h8⟩, h9⟩, h10⟩ := h
  have h1 := eq_of_beq h1
  subst h1
  exact ⟨_, _, _, _, _, _, rfl, h2, h3, h4, eq_of_beq h5, h6, h7, h8, h9, h10⟩

theorem inv_tcmp {o : Cm} {a b : E} (h : chkT c (.cmp o a b) e = true) : ∃ x y pos, e = .Compare x [cmP o] [y] pos ∧ notSet y = true ∧ chkE c a x = true ∧ chkE c b y = true := by
  unfold chkT at h
  split at h <;> try contradiction
  rename_i q
  cases q
  simp only [Bool.and_eq_true] at h
  rw [cmP_eq h.1.1.1]
  exact ⟨_, _, _, rfl, h.1.1.2, h.1.2, h.2⟩
theorem inv_tchain {o o' : Cm} {a b d : E} (h : chkT c (.chain o o' a b d) e = true) : ∃ x y z pos, e = .Compare x [cmP o, cmP o'] [y, z] pos ∧ notSet z = true ∧ chkE c a x = true ∧ chkE c b y = true ∧ chkE c d z = true := by
  unfold chkT at h
  split at h <;> try contradiction
  rename_i q
  cases q
  simp only [Bool.and_eq_true] at h
  rw [cmP_eq h.1.1.1.1.1, cmP_eq h.1.1.1.1.2]
  exact ⟨_, _, _, _, rfl, h.1.1.1.2, h.1.1.2, h.1.2, h.2⟩
theorem inv_tand {a b : T} (h : chkT c (.and a b) e = true) : ∃ x y rest pos, e = .BoolOp .And (x :: y :: rest) pos ∧ chkT c a x = true ∧ (rest = [] ∧ chkT c b y = true ∨ chkT c b (.BoolOp .And (y :: rest) pos) = true) := by
  unfold chkT at h
  split at h <;> try contradiction
  rename_i rest _ q
  cases q
  simp only [Bool.and_eq_true] at h
  refine ⟨_, _, _, _, rfl, h.1, ?_⟩
  cases rest with
  | nil => exact .inl ⟨rfl, h.2⟩
  | cons _ _ => exact .inr h.2
theorem inv_tor {a b : T} (h : chkT c (.or a b) e = true) : ∃ x y rest pos, e = .BoolOp .Or (x :: y :: rest) pos ∧ chkT c a x = true ∧ (rest = [] ∧ chkT c b y = true ∨ chkT c b (.BoolOp .Or (y :: rest) pos) = true) := by
  unfold chkT at h
  split at h <;> try contradiction
  rename_i rest _ q
  cases q
  simp only [Bool.and_eq_true] at h
  refine ⟨_, _, _, _, rfl, h.1, ?_⟩
  cases rest with
  | nil => exact .inl ⟨rfl, h.2⟩
  | cons _ _ => exact .inr h.2
theorem inv_tnot {a : T} (h : chkT c (.not a) e = true) : ∃ x pos, e = .UnaryOp .Not x pos ∧ chkT c a x = true := by
  unfold chkT at h
  split at h <;> try contradiction
  rename_i q
  cases q
  exact ⟨_, _, rfl, h⟩
theorem inv_tru {a : E} (h : chkT c (.tru a) e = true) : plainT e = true ∧ chkE c a e = true := by
  unfold chkT at h
  simp only [Bool.and_eq_true] at h
  exact h
theorem inv_cons {a : E} {es : Es} {l : List Expr} (h : chkA c (.cons a es) l = true) : ∃ x xs, l = x :: xs ∧ notStar x = true ∧ chkE c a x = true ∧ chkA c es xs = true := by
  unfold chkA at h
  split at h <;> try contradiction
  rename_i q
  cases q
  simp only [Bool.and_eq_true] at h
  exact ⟨_, _, rfl, h.1.1, h.1.2, h.2⟩
theorem inv_nil {l : List Expr} (h : chkA c .nil l = true) : l = [] := by
  unfold chkA at h
  split at h <;> try contradiction
  rfl
theorem inv_tno {l : List Expr} (h : chkTc c .no l = true) : l = [] := by
  unfold chkTc at h
  split at h <;> try contradiction
  rfl
theorem inv_tyes {t : T} {l : List Expr} (h : chkTc c (.yes t) l = true) : ∃ x, l = [x] ∧ chkT c t x = true := by
  unfold chkTc at h
  split at h <;> try contradiction
  rename_i q
  cases q
  exact ⟨_, rfl, h⟩
theorem inv_pno {l : Option Expr} (h : chkP c .no l = true) : l = none := by
  unfold chkP at h
  split at h <;> try contradiction
  rfl
theorem inv_pyes {t : E} {l : Option Expr} (h : chkP c (.yes t) l = true) : ∃ x, l = some x ∧ chkE c t x = true := by
  unfold chkP at h
  split at h <;> try contradiction
  rename_i q
  cases q
  exact ⟨_, rfl, h⟩
variable {t : Expr}
theorem inv_seq {a : E} (h : chkI c (.seq a) t e = true) : chkE c a e = true := by
  unfold chkI at h
  exact h
theorem inv_own {j : Nat} (h : chkI c (.own j) t e = true) : ∃ x p, e = .Name x p ∧ chkVar c j x = true := by
  unfold chkI at h
  split at h <;> try contradiction
  rename_i q
  cases q
  exact ⟨_, _, rfl, h⟩
theorem inv_rng1 {a : E} (h : chkI c (.rng1 a) t e = true) : ∃ p x pos, e = .Call (.Name "range" p) [x] [] pos ∧ chkB c "range" = true ∧ notStar x = true ∧ chkE c a x = true := by
  unfold chkI at h
  split at h <;> try contradiction
  rename_i q
  cases q
  simp only [Bool.and_eq_true] at h
  obtain ⟨⟨⟨h1, h2⟩, h3⟩, h4⟩ := h
  have h1 := eq_of_beq h1
  subst h1
  exact ⟨_, _, _, rfl, h2, h3, h4⟩
theorem inv_rng2 {a b : E} (h : chkI c (.rng2 a b) t e = true) : ∃ p x y pos, e = .Call (.Name "range" p) [x, y] [] pos ∧ chkB c "range" = true ∧ notStar x = true ∧ notStar y = true ∧ chkE c a x = true ∧ chkE c b y = true := by
  unfold chkI at h
  split at h <;> try contradiction
  rename_i q
  cases q
  simp only [Bool.and_eq_true] at h
  obtain ⟨⟨⟨⟨⟨h1, h2⟩, h3⟩, h4⟩, h5⟩, h6⟩ := h
  have h1 := eq_of_beq h1
  subst h1
  exact ⟨_, _, _, _, rfl, h2, h3, h4, h5, h6⟩
theorem inv_rng2L {a b : E} (h : chkI c (.rng2L a b) t e = true) : ∃ p x y pos, e = .Call (.Name "range" p) [x, y] [] pos ∧ chkB c "range" = true ∧ notStar x = true ∧ notStar y = true ∧ chkE c a x = true ∧ chkE c b y = true := by
  unfold chkI at h
  split at h <;> try contradiction
  rename_i q
  cases q
  simp only [Bool.and_eq_true] at h
  obtain ⟨⟨⟨⟨⟨h1, h2⟩, h3⟩, h4⟩, h5⟩, h6⟩ := h
  have h1 := eq_of_beq h1
  subst h1
  exact ⟨_, _, _, _, rfl, h2, h3, h4, h5, h6⟩
theorem inv_rng3 {a b d : E} (h : chkI c (.rng3 a b d) t e = true) : ∃ p x y z pos, e = .Call (.Name "range" p) [x, y, z] [] pos ∧ chkB c "range" = true ∧ notStar x = true ∧ notStar y = true ∧ notStar z = true ∧ chkE c a x = true ∧ chkE c b y = true ∧ chkE c d z = true := by
  unfold chkI at h
  split at h <;> try contradiction
  rename_i q
  cases q
  simp only [Bool.and_eq_true] at h
  obtain ⟨⟨⟨⟨⟨⟨⟨h1, h2⟩, h3⟩, h4⟩, h5⟩, h6⟩, h7⟩, h8⟩ := h
  have h1 := eq_of_beq h1
  subst h1
  exact ⟨_, _, _, _, _, rfl, h2, h3, h4, h5, h6, h7, h8⟩
theorem inv_rev {a : E} (h : chkI c (.rev a) t e = true) : ∃ p x pos, e = .Call (.Name "reversed" p) [x] [] pos ∧ chkB c "reversed" = true ∧ notStar x = true ∧ chkE c a x = true := by
  unfold chkI at h
  split at h <;> try contradiction
  rename_i q
  cases q
  simp only [Bool.and_eq_true] at h
  obtain ⟨⟨⟨h1, h2⟩, h3⟩, h4⟩ := h
  have h1 := eq_of_beq h1
  subst h1
  exact ⟨_, _, _, rfl, h2, h3, h4⟩
theorem inv_enum {a : E} (h : chkI c (.enum a) t e = true) : ∃ el k tp p x pos, t = .Tuple el k tp ∧ e = .Call (.Name "enumerate" p) [x] [] pos ∧ chkB c "enumerate" = true ∧ notStar x = true ∧ chkE c a x = true := by
  unfold chkI at h
  split at h <;> try contradiction
  rename_i q
  cases q
  simp only [Bool.and_eq_true] at h
  obtain ⟨⟨⟨h1, h2⟩, h3⟩, h4⟩ := h
  have h1 := eq_of_beq h1
  subst h1
  exact ⟨_, _, _, _, _, _, rfl, rfl, h2, h3, h4⟩
theorem inv_zip {a b : E} (h : chkI c (.zip a b) t e = true) : ∃ el k tp p x y pos, t = .Tuple el k tp ∧ e = .Call (.Name "zip" p) [x, y] [] pos ∧ chkB c "zip" = true ∧ notStar x = true ∧ notStar y = true ∧ chkE c a x = true ∧ chkE c b y = true := by
  unfold chkI at h
  split at h <;> try contradiction
  rename_i q
  cases q
  simp only [Bool.and_eq_true] at h
  obtain ⟨⟨⟨⟨⟨h1, h2⟩, h3⟩, h4⟩, h5⟩, h6⟩ := h
  have h1 := eq_of_beq h1
  subst h1
  exact ⟨_, _, _, _, _, _, _, rfl, rfl, h2, h3, h4, h5, h6⟩
end
end VL

/-! VL16: a checked text keeps its reading: expressions. -/
namespace VL
open PySem PySem.Spec L2
theorem star_any {c : Cc} {es : Es} {xs : List Expr} (h : chkA c es xs = true) (env : Env) (pos : Pos) : (backTo pos (starEach xs env)).any (·.1) = false := (chkA_star h env pos).1
theorem star1 {x : Expr} {env : Env} {pos : Pos} (h : notStar x = true) : (backTo pos (starEach [x] env)).any (·.1) = false := by rw [star_cons h]; rfl
theorem star2 {x y : Expr} {env : Env} {pos : Pos} (h : notStar x = true) (g : notStar y = true) : (backTo pos (starEach [x, y] env)).any (·.1) = false := by rw [star_cons h, star_cons g]; rfl
theorem own_ok {N : List Str} {own : List Nat} (h : (ownN N own).map (·.2) = own) {P : List Nat → Prop} (p : P own) : P ((ownN N own).map (·.2)) := h.symm ▸ p
section
variable {Γ : Nat → VF}
def isPW (X : Cx) (e : Expr) (t : TT) : Prop := ∀ o xs pos, e = .BoolOp o xs pos → PW X e t
mutual
theorem chkE_ok : ∀ (e : E) {x : Expr} {X : Cx} {c : Cc} {F : Fr}, chkE c e x = true → Xc Γ X c → Ok X F → VE X F x (wE Γ e)
  | .var i, x, X, c, F, h, hX, O => by
    obtain ⟨x, pos, rfl, h⟩ := inv_var h
    obtain ⟨h1, h2, h3, h4⟩ := chkVar_ok hX h
    exact ve_var O h1 h2 h3 h4
  | .glo d, x, X, c, F, h, hX, O => by
    obtain ⟨x, pos, rfl, h1, ho, h2⟩ := inv_glo h
    obtain ⟨u, v, g1, g2, g3⟩ := hX.gs _ h2
    have hgl : Gl X x := by
      unfold Gl Env.kindOf
      rw [hX.sc]; exact eq_of_beq h1
    unfold okName at ho
    simp only [Bool.and_eq_true, Bool.not_eq_true'] at ho
    exact ve_c (pe_glob hgl g1 g2 ho.1) fun H av => O.K ▸ g3 H av
  | .non, x, X, c, F, h, hX, O => by
    obtain ⟨j, pos, rfl⟩ := inv_non h
    exact ve_c pe_non fun H av => rep_non
  | .bl b, x, X, c, F, h, hX, O => by
    obtain ⟨j, pos, rfl⟩ := inv_bl h
    exact ve_c pe_bl fun H av => rep_bl _
  | .int b, x, X, c, F, h, hX, O => by
    obtain ⟨j, pos, rfl⟩ := inv_int h
    exact ve_c pe_int fun H av => rep_int _
  | .str b, x, X, c, F, h, hX, O => by
    obtain ⟨j, pos, rfl⟩ := inv_str h
    exact ve_c pe_str fun H av => rep_str _
  | .tup es, x, X, c, F, h, hX, O => by
    obtain ⟨xs, k, pos, rfl, h1, h2⟩ := inv_tup h
    have := chkA_len h2
    exact ve_tup (chkA_ok es h2 hX O) (by omega)
  | .lst es, x, X, c, F, h, hX, O => by
    obtain ⟨xs, pos, rfl, h1, h2⟩ := inv_lst h
    have := chkA_len h2
    exact ve_lst (chkA_ok es h2 hX O) (by omega)
  | .bin o a b, x, X, c, F, h, hX, O => by
    obtain ⟨x, y, pos, rfl, h1, h2⟩ := inv_bin h
    exact ve_bin O o (chkE_ok a h1 hX O) (chkE_ok b h2 hX O)
  | .neg a, x, X, c, F, h, hX, O => by
    obtain ⟨x, pos, rfl, h1⟩ := inv_neg h
    exact ve_neg (chkE_ok a h1 hX O)
  | .cmp o a b, x, X, c, F, h, hX, O => by
    obtain ⟨x, y, pos, rfl, h0, h1, h2⟩ := inv_cmp h
    exact ve_cmp O o (chkE_ok a h1 hX O) (chkE_ok b h2 hX O) (noMark h0)
  | .chain o o' a b d, x, X, c, F, h, hX, O => by
    obtain ⟨x, y, z, pos, rfl, h0, h1, h2, h3⟩ := inv_chain h
    exact ve_chain O o o' (chkE_ok a h1 hX O) (chkE_ok b h2 hX O) (chkE_ok d h3 hX O) (noMark h0)
  | .and a b, x, X, c, F, h, hX, O => by
    obtain ⟨x, y, rest, pos, rfl, h1, h2⟩ := inv_and h
    rcases h2 with ⟨rfl, h2⟩ | h2
    · exact ve_and (chkE_ok a h1 hX O) (pe_one (chkE_ok b h2 hX O))
    · exact ve_and (chkE_ok a h1 hX O) (chkE_ok b h2 hX O)
  | .or a b, x, X, c, F, h, hX, O => by
    obtain ⟨x, y, rest, pos, rfl, h1, h2⟩ := inv_or h
    rcases h2 with ⟨rfl, h2⟩ | h2
    · exact ve_or (chkE_ok a h1 hX O) (pe_one (chkE_ok b h2 hX O))
    · exact ve_or (chkE_ok a h1 hX O) (chkE_ok b h2 hX O)
  | .not a, x, X, c, F, h, hX, O => by
    obtain ⟨x, pos, rfl, h1⟩ := inv_not h
    exact ve_not (chkE_ok a h1 hX O)
  | .ite t a b, x, X, c, F, h, hX, O => by
    obtain ⟨tt, x, y, pos, rfl, h0, h1, h2⟩ := inv_ite h
    exact ve_ite (chkT_ok t h0 hX O).1 (chkE_ok a h1 hX O) (chkE_ok b h2 hX O)
  | .call f es, x, X, c, F, h, hX, O => by
    rcases inv_call h with ⟨x, p, e', xs, pos, n, rfl, h1, h2, h3, h4, h5⟩ | ⟨rfl, x, p, pos, rfl, h1, h2, h3⟩
    · obtain ⟨k, fa, fd, ps, g1, g2, g3, g4, g5, g6⟩ := hX.fs _ _ _ h3
      have hdb : (x == ("__debug__" : Str)) = false := by
        unfold okName at h2
        simp only [Bool.and_eq_true, Bool.not_eq_true'] at h2
        exact h2.1
      have hgl : Gl X x := by
        unfold Gl Env.kindOf
        rw [hX.sc]; exact eq_of_beq h1
      have hA : ∀ F', F'.K = F.K → VA X F' (e' :: xs) (wA Γ es) := fun F' hF => chkA_ok es h5 hX ⟨O.K.trans hF.symm, O.calm, O.nd, O.room, O.seer, O.tree, O.head, O.pass⟩
      have hl := chkA_len h5
      cases es with
      | nil => exact absurd hl (by simp [esLen])
      | cons a es =>
        obtain ⟨x', xs', q, i1, i2, i3⟩ := inv_cons h5
        cases q
        have hA2 : ∀ F', F'.K = F.K → VA X F' xs (wA Γ es) := fun F' hF => chkA_ok es i3 hX ⟨O.K.trans hF.symm, O.calm, O.nd, O.room, O.seer, O.tree, O.head, O.pass⟩
        have g2' : FnOk X.prog X.w X.K X.mg X.base CX0 k fa fd ps (spOf F.K ps.length (Γ f)) := by rw [← O.K, g1]; exact g2
        have := ve_call O (Γ f) (p := p) (pos := pos) g2' g3 hgl g4 g5 g6 hdb (chkE_ok a i2 hX O) hA2 (n := esLen (.cons a es)) (by rw [g1, ← h4, ← hl]) (star_cons i1) (star_any i3 _ _)
        exact this
    · obtain ⟨k, fa, fd, ps, g1, g2, g3, g4, g5, g6⟩ := hX.fs _ _ _ h3
      have hdb : (x == ("__debug__" : Str)) = false := by
        unfold okName at h2
        simp only [Bool.and_eq_true, Bool.not_eq_true'] at h2
        exact h2.1
      have hgl : Gl X x := by
        unfold Gl Env.kindOf
        rw [hX.sc]; exact eq_of_beq h1
      have g2' : FnOk X.prog X.w X.K X.mg X.base CX0 k fa fd ps (spOf F.K ps.length (Γ f)) := by rw [← O.K, g1]; exact g2
      exact ve_call0 O (Γ f) (p := p) (pos := pos) g2' g3 hgl g4 g5 g6 hdb g1.symm
  | .blt f es, x, X, c, F, h, hX, O => by
    obtain ⟨p, e', xs, pos, rfl, h1, h2⟩ := inv_blt h
    obtain ⟨g1, g2⟩ := chkB_ok hX h1
    have hA := chkA_ok es h2 hX O
    cases es with
    | nil => cases inv_nil h2
    | cons a es =>
      obtain ⟨x', xs', q, i1, i2, i3⟩ := inv_cons h2
      cases q
      exact ve_blt O f hA g1 g2 (star_cons i1) (star_any i3 _ _)
  | .isi a t, x, X, c, F, h, hX, O => by
    obtain ⟨p, x, pp, pos, rfl, h1, h2, h3, h4⟩ := inv_isi h
    obtain ⟨g1, g2⟩ := chkB_ok hX h1
    obtain ⟨g3, g4⟩ := chkB_ok hX h2
    exact ve_isi O t (chkE_ok a h4 hX O) g1 g2 g3 g4 (star_cons h3)
  | .bits a, x, X, c, F, h, hX, O => by
    obtain ⟨x, ap, pos, rfl, h1, h2, h3⟩ := inv_bits h
    exact ve_bits (chkE_ok a h3 hX O) (noBase_ok h1) h2
  | .mth m i es, x, X, c, F, h, hX, O => by
    obtain ⟨x, px, ap, xs, pos, rfl, h1, h2, h3, h4, h5⟩ := inv_mth h
    obtain ⟨g1, g2, g3, g4⟩ := chkVar_ok hX h1
    have hA := chkA_ok es h3 hX O
    rcases h5 with ⟨hm, hn⟩ | ⟨hm, rfl⟩
    · cases es with
      | nil => exact absurd (inv_nil h3) hn
      | cons a es =>
        have hstar := (chkA_star h3 X.env pos).2
        obtain ⟨x', xs', rfl, i1, i2, i3⟩ := inv_cons h3
        refine ve_mth O m g1 g2 g3 g4 hm hA ?_ h2 (star_cons i1) (star_any i3 _ _)
        have : (x' :: xs').length + 0 + 0 < 30 := by omega
        rw [hstar]
        simp only [Bool.true_and, Bool.and_eq_true]
        exact ⟨rfl, decide_eq_true this⟩
    · cases es with
      | nil =>
        have := ve_mth0 (px := px) (ap := ap) (pos := pos) O m g1 g2 g3 g4 hm h2
        exact this
      | cons a es => obtain ⟨_, _, q, _⟩ := inv_cons h3; cases q
  | .ix a b, x, X, c, F, h, hX, O => by
    obtain ⟨x, y, pos, rfl, h0, h1, h2⟩ := inv_ix h
    exact ve_ix O (chkE_ok a h1 hX O) (chkE_ok b h2 hX O) (plainIx h0)
  | .join z a, x, X, c, F, h, hX, O => by
    obtain ⟨x, j, cp, ap, pos, rfl, h1, h2, h3⟩ := inv_join h
    exact ve_join O (chkE_ok a h3 hX O) (star_cons h1) h2
  | .slk a lo st, x, X, c, F, h, hX, O => by
    obtain ⟨x, l, g, p, pos, rfl, h0, h1, h2⟩ := inv_slk h
    exact ve_slk O (chkE_ok a h0 hX O) (chkP_ok lo h1 hX O) (chkP_ok st h2 hX O)
  | .sl a lo hi, x, X, c, F, h, hX, O => by
    obtain ⟨x, l, g, p, pos, rfl, h0, h1, h2⟩ := inv_sl h
    exact ve_sl O (chkE_ok a h0 hX O) (chkP_ok lo h1 hX O) (chkP_ok hi h2 hX O)
  | .lc elt tg it own cs, x, X, c, F, h, hX, O => by
    obtain ⟨x, t, i, ifs, scope, pos, rfl, h1, h2, h3, h4, h5, h6, h7, h8, h9⟩ := inv_lc h
    have hI := chkI_ok it h1 hX O
    have ok : BlkOk X.N X.env.scope scope (ownN c.N own) := by rw [hX.N, hX.sc]; exact blkOk_by h3
    have q := ve_lc (pos := pos) O hI ok (vg_of F.K tg) (own_ok h4 (P := tgIn tg) (tgOwn_ok h5)) (fun s H C cl fp => tg_pg (hX.inner s H C cl fp) O.blk h6)
      (fun s H C cl fp F' hF => chkTc_ok cs h7 (hX.inner s H C cl fp) (Ok.blk ⟨O.K.trans hF.symm, O.calm, O.nd, O.room, O.seer, O.tree, O.head, O.pass⟩))
      (fun s H C cl fp F' hF => chkE_ok elt h8 (hX.inner s H C cl fp) (Ok.blk ⟨O.K.trans hF.symm, O.calm, O.nd, O.room, O.seer, O.tree, O.head, O.pass⟩)) (setIter h2)
    rw [h4] at q
    cases it with
    | own j =>
      obtain ⟨y, py, rfl, hv⟩ := inv_own h1
      obtain ⟨m1, m2, m3, m4⟩ := chkVar_ok hX hv
      have hjo : j ∉ (ownN c.N own).map (·.2) := by
        rw [h4]
        unfold itOwn at h9
        simpa using h9
      have q := ve_lcO (pos := pos) O m1 m2 m3 m4 hjo ok (vg_of F.K tg) (own_ok h4 (P := tgIn tg) (tgOwn_ok h5)) (fun s H C cl fp => tg_pg (hX.inner s H C cl fp) O.blk h6)
        (fun s H C cl fp F' hF => chkTc_ok cs h7 (hX.inner s H C cl fp) (Ok.blk ⟨O.K.trans hF.symm, O.calm, O.nd, O.room, O.seer, O.tree, O.head, O.pass⟩))
        (fun s H C cl fp F' hF => chkE_ok elt h8 (hX.inner s H C cl fp) (Ok.blk ⟨O.K.trans hF.symm, O.calm, O.nd, O.room, O.seer, O.tree, O.head, O.pass⟩)) (setIter h2)
      rw [h4] at q
      exact q
    | _ => exact q
theorem chkT_ok : ∀ (e : T) {x : Expr} {X : Cx} {c : Cc} {F : Fr}, chkT c e x = true → Xc Γ X c → Ok X F → VT X F x (wT Γ e) ∧ isPW X x (lT F (wT Γ e))
  | .cmp o a b, x, X, c, F, h, hX, O => by
    obtain ⟨x, y, pos, rfl, h0, h1, h2⟩ := inv_tcmp h
    exact ⟨vt_cmp O o (chkE_ok a h1 hX O) (chkE_ok b h2 hX O) (noMark h0), fun _ _ _ z => nomatch z⟩
  | .chain o o' a b d, x, X, c, F, h, hX, O => by
    obtain ⟨x, y, z, pos, rfl, h0, h1, h2, h3⟩ := inv_tchain h
    exact ⟨vt_chain O o o' (chkE_ok a h1 hX O) (chkE_ok b h2 hX O) (chkE_ok d h3 hX O) (noMark h0), fun _ _ _ z => nomatch z⟩
  | .and a b, x, X, c, F, h, hX, O => by
    obtain ⟨x, y, rest, pos, rfl, h1, h2⟩ := inv_tand h
    have hw : PW X (.BoolOp .And (x :: y :: rest) pos) (lT F (wT Γ (.and a b))) := by
      rcases h2 with ⟨rfl, h2⟩ | h2
      · exact vw_and (chkT_ok a h1 hX O).1 (vw_and1 (chkT_ok b h2 hX O).1)
      · exact vw_and (chkT_ok a h1 hX O).1 ((chkT_ok b h2 hX O).2 _ _ _ rfl)
    exact ⟨hw.pt, fun _ _ _ z => hw⟩
  | .or a b, x, X, c, F, h, hX, O => by
    obtain ⟨x, y, rest, pos, rfl, h1, h2⟩ := inv_tor h
    have hw : PW X (.BoolOp .Or (x :: y :: rest) pos) (lT F (wT Γ (.or a b))) := by
      rcases h2 with ⟨rfl, h2⟩ | h2
      · exact vw_or (chkT_ok a h1 hX O).1 (vw_or1 (chkT_ok b h2 hX O).1)
      · exact vw_or (chkT_ok a h1 hX O).1 ((chkT_ok b h2 hX O).2 _ _ _ rfl)
    exact ⟨hw.pt, fun _ _ _ z => hw⟩
  | .not a, x, X, c, F, h, hX, O => by
    obtain ⟨x, pos, rfl, h1⟩ := inv_tnot h
    exact ⟨vt_not (chkT_ok a h1 hX O).1, fun _ _ _ z => nomatch z⟩
  | .tru a, x, X, c, F, h, hX, O => by
    obtain ⟨h1, h2⟩ := inv_tru h
    refine ⟨vt_truth O (chkE_ok a h2 hX O) (plainT_ok h1), fun _ _ _ z => ?_⟩
    subst z
    cases h1
theorem chkTc_ok : ∀ (e : Tc) {x : List Expr} {X : Cx} {c : Cc} {F : Fr}, chkTc c e x = true → Xc Γ X c → Ok X F → PTs X x (lT F (wTc Γ e))
  | .no, x, X, c, F, h, hX, O => by
    cases inv_tno h
    refine ⟨fun pins s σ H Q I hw => pts_nil.run pins s σ H Q I ?_⟩
    obtain ⟨as, ρ, Q', E, w, c'⟩ := hw
    exact c' as true ρ H (Aft.refl E) (by unfold wTc at w; exact w)
  | .yes t, x, X, c, F, h, hX, O => by
    obtain ⟨x, rfl, h⟩ := inv_tyes h
    have := pts_one (chkT_ok t h hX O).1
    exact this
theorem chkP_ok : ∀ (e : Po) {x : Option Expr} {X : Cx} {c : Cc} {F : Fr}, chkP c e x = true → Xc Γ X c → Ok X F → PO X x (lP F (wP Γ e))
  | .no, x, X, c, F, h, hX, O => by
    cases inv_pno h
    exact vp_no
  | .yes a, x, X, c, F, h, hX, O => by
    obtain ⟨x, rfl, h⟩ := inv_pyes h
    exact vp_yes (chkE_ok a h hX O)
theorem chkA_ok : ∀ (e : Es) {x : List Expr} {X : Cx} {c : Cc} {F : Fr}, chkA c e x = true → Xc Γ X c → Ok X F → VA X F x (wA Γ e)
  | .nil, x, X, c, F, h, hX, O => by
    cases inv_nil h
    exact va_nil
  | .cons a es, x, X, c, F, h, hX, O => by
    obtain ⟨x, xs, rfl, h1, h2, h3⟩ := inv_cons h
    exact va_cons (chkE_ok a h2 hX O) (chkA_ok es h3 hX O) (star_cons h1)
theorem chkI_ok : ∀ (e : It) {t x : Expr} {X : Cx} {c : Cc} {F : Fr}, chkI c e t x = true → Xc Γ X c → Ok X F → VI X F t x (wI Γ e)
  | .seq a, t, x, X, c, F, h, hX, O => by
    exact vi_seq O (chkE_ok a (inv_seq h) hX O)
  | .own j, t, x, X, c, F, h, hX, O => ⟨fun pins s σ H R I ⟨_, _, _, _, w, _⟩ => w.elim⟩
  | .rng1 a, t, x, X, c, F, h, hX, O => by
    obtain ⟨p, x, pos, rfl, h1, h2, h3⟩ := inv_rng1 h
    obtain ⟨g1, g2⟩ := chkB_ok hX h1
    exact vi_rng1 O (chkE_ok a h3 hX O) g1 g2 (star_cons h2)
  | .rng2 a b, t, x, X, c, F, h, hX, O => by
    obtain ⟨p, x, y, pos, rfl, h1, h2, h2', h3, h4⟩ := inv_rng2 h
    obtain ⟨g1, g2⟩ := chkB_ok hX h1
    exact vi_rng2 O (chkE_ok a h3 hX O) (chkE_ok b h4 hX O) g1 g2 (by rw [star_cons h2, star_cons h2']; rfl) (star_cons h2')
  | .rng2L a b, t, x, X, c, F, h, hX, O => by
    obtain ⟨p, x, y, pos, rfl, h1, h2, h2', h3, h4⟩ := inv_rng2L h
    obtain ⟨g1, g2⟩ := chkB_ok hX h1
    exact vi_rng2L O (chkE_ok a h3 hX O) (chkE_ok b h4 hX O) g1 g2 (by rw [star_cons h2, star_cons h2']; rfl) (star_cons h2')
  | .rng3 a b d, t, x, X, c, F, h, hX, O => by
    obtain ⟨p, x, y, z, pos, rfl, h1, h2, h2', h2'', h3, h4, h5⟩ := inv_rng3 h
    obtain ⟨g1, g2⟩ := chkB_ok hX h1
    exact vi_rng3 O (chkE_ok a h3 hX O) (chkE_ok b h4 hX O) (chkE_ok d h5 hX O) g1 g2 (by rw [star_cons h2, star_cons h2', star_cons h2'']; rfl) (by rw [star_cons h2', star_cons h2'']; rfl) (star_cons h2'')
      fun ta ha => pi_range3 g1 g2 ha (star_cons h2) (star2 h2' h2'')
  | .rev a, t, x, X, c, F, h, hX, O => by
    obtain ⟨p, x, pos, rfl, h1, h2, h3⟩ := inv_rev h
    obtain ⟨g1, g2⟩ := chkB_ok hX h1
    exact vi_rev O (chkE_ok a h3 hX O) g1 g2 (star_cons h2)
  | .enum a, t, x, X, c, F, h, hX, O => by
    obtain ⟨el, k, tp, p, x, pos, rfl, rfl, h1, h2, h3⟩ := inv_enum h
    obtain ⟨g1, g2⟩ := chkB_ok hX h1
    exact vi_enum O (chkE_ok a h3 hX O) g1 g2 (star_cons h2)
  | .zip a b, t, x, X, c, F, h, hX, O => by
    obtain ⟨el, k, tp, p, x, y, pos, rfl, rfl, h1, h2, h2', h3, h4⟩ := inv_zip h
    obtain ⟨g1, g2⟩ := chkB_ok hX h1
    exact vi_zip O (chkE_ok a h3 hX O) (chkE_ok b h4 hX O) g1 g2 (star_cons h2) (star_cons h2') (star1 h2')
end
end
end VL

/-! VL17: a checked text keeps its reading: statements. -/
namespace VL
open PySem PySem.Spec L2
section
variable {c : Cc} {s : Stmt}
theorem isLc {e : E} {x : Expr} {gs : List Comprehension} {scope : Scope} {pos : Pos} (h : chkE c e (.ListComp x gs scope pos) = true) : ∃ elt tg it own cs, e = .lc elt tg it own cs := by
  unfold chkE at h
  split at h <;> try contradiction
  exact ⟨_, _, _, _, _, rfl⟩
theorem inv_asg {i : Nat} {e : E} (h : chkS c (.asg i e) s = true) : ∃ x px v pos, s = .Assign [.Name x px] v pos ∧ chkTo c i x = true ∧ chkE c e v = true ∧ (noComp v = true ∨ ∃ y gs scope lp, v = .ListComp y gs scope lp) := by
  unfold chkS at h
  split at h <;> try contradiction
  rename_i v _ q
  cases q
  simp only [Bool.and_eq_true, Bool.or_eq_true] at h
  refine ⟨_, _, _, _, rfl, h.1.1, h.1.2, ?_⟩
  rcases h.2 with h | h
  · exact .inl h
  · cases v <;> first | (cases h; done) | exact .inr ⟨_, _, _, _, rfl⟩
theorem inv_asgT {is : List Nat} {e : E} (h : chkS c (.asgT is e) s = true) : ∃ ts k p v pos, s = .Assign [.Tuple ts k p] v pos ∧ chkNames c is ts = true ∧ chkE c e v = true ∧ notTup v = true := by
  unfold chkS at h
  split at h <;> try contradiction
  rename_i q
  cases q
  simp only [Bool.and_eq_true] at h
  exact ⟨_, _, _, _, _, rfl, h.1.1, h.1.2, h.2⟩
theorem inv_par {is : List Nat} {es : Es} (h : chkS c (.par is es) s = true) : ∃ ts k p vs k' p' pos, s = .Assign [.Tuple ts k p] (.Tuple vs k' p') pos ∧ parOk c is ts vs = true ∧ chkA c es vs = true := by
  unfold chkS at h
  split at h <;> try contradiction
  rename_i q
  cases q
  simp only [Bool.and_eq_true] at h
  exact ⟨_, _, _, _, _, _, _, rfl, h.1, h.2⟩
theorem inv_asgX {i : Nat} {x y e : E} (h : chkS c (.asgX i x y e) s = true) : ∃ n p1 u t1 p2 w t2 k tp v pos, s = .Assign [.Tuple [.Subscript (.Name n p1) u t1, .Subscript (.Name n p2) w t2] k tp] v pos ∧ chkVar c i n = true ∧ notSlice u = true ∧ notSlice w = true ∧ chkE c x u = true ∧ chkE c y w = true ∧ chkE c e v = true ∧ noComp v = true := by
  unfold chkS at h
  split at h <;> try contradiction
  rename_i q
  cases q
  simp only [Bool.and_eq_true] at h
  obtain ⟨⟨⟨⟨⟨⟨⟨h1, h2⟩, h3⟩, h4⟩, h5⟩, h6⟩, h7⟩, h8⟩ := h
  have h2 := eq_of_beq h2
  subst h2
  exact ⟨_, _, _, _, _, _, _, _, _, _, _, rfl, h1, h3, h4, h5, h6, h7, h8⟩
theorem noStoresX {a b s s2 : Expr} {p p2 tp : Pos} {k : Nat} {e : Expr} {env : Env} : swappedStores [.Tuple [.Subscript a s p, .Subscript b s2 p2] k tp] e env = pure none := by
  unfold swappedStores
  cases e <;> first | rfl | skip
  rename_i vs _ _
  simp only [List.length_cons, List.length_nil, List.filterMap_cons, List.filterMap_nil]
  repeat (first | rfl | split)
theorem inv_sub {i : Nat} {x e : E} (h : chkS c (.sub i x e) s = true) : ∃ n p y sp v pos, s = .Assign [.Subscript (.Name n p) y sp] v pos ∧ chkVar c i n = true ∧ notSlice y = true ∧ chkE c x y = true ∧ chkE c e v = true ∧ noComp v = true := by
  unfold chkS at h
  split at h <;> try contradiction
  rename_i q
  cases q
  simp only [Bool.and_eq_true] at h
  exact ⟨_, _, _, _, _, _, rfl, h.1.1.1.1, h.1.1.1.2, h.1.1.2, h.1.2, h.2⟩
theorem inv_aug {i : Nat} {o : Op} {e : E} (h : chkS c (.aug i o e) s = true) : ∃ x px v pos, s = .AugAssign (.Name x px) (opP o) v pos ∧ chkTo c i x = true ∧ chkE c e v = true := by
  unfold chkS at h
  split at h <;> try contradiction
  rename_i q
  cases q
  simp only [Bool.and_eq_true] at h
  rw [opP_eq h.1.2]
  exact ⟨_, _, _, _, rfl, h.1.1, h.2⟩
theorem inv_augS {i : Nat} {x : E} {o : Op} {e : E} (h : chkS c (.augS i x o e) s = true) : ∃ n p y sp v pos, s = .AugAssign (.Subscript (.Name n p) y sp) (opP o) v pos ∧ chkVar c i n = true ∧ notSlice y = true ∧ chkE c x y = true ∧ chkE c e v = true := by
  unfold chkS at h
  split at h <;> try contradiction
  rename_i q
  cases q
  simp only [Bool.and_eq_true] at h
  rw [opP_eq h.1.1.2]
  exact ⟨_, _, _, _, _, _, rfl, h.1.1.1.1, h.1.1.1.2, h.1.2, h.2⟩
theorem inv_ex {e : E} (h : chkS c (.ex e) s = true) : ∃ v pos, s = .Expr v pos ∧ noComp v = true ∧ chkE c e v = true := by
  unfold chkS at h
  split at h <;> try contradiction
  rename_i q
  cases q
  simp only [Bool.and_eq_true] at h
  exact ⟨_, _, rfl, h.1, h.2⟩
theorem inv_ret {e : E} (h : chkS c (.ret e) s = true) : ∃ v pos, s = .Return (some v) pos ∧ chkE c e v = true := by
  unfold chkS at h
  split at h <;> try contradiction
  rename_i q
  cases q
  exact ⟨_, _, rfl, h⟩
theorem inv_ret0 (h : chkS c .ret0 s = true) : ∃ pos, s = .Return none pos := by
  unfold chkS at h
  split at h <;> try contradiction
  exact ⟨_, rfl⟩
theorem inv_if {t : T} {a b : Ss} (h : chkS c (.ite t a b) s = true) : ∃ e x y pos, s = .If e x y pos ∧ chkT c t e = true ∧ chkSs c a x = true ∧ chkSs c b y = true := by
  unfold chkS at h
  split at h <;> try contradiction
  rename_i q
  cases q
  simp only [Bool.and_eq_true] at h
  exact ⟨_, _, _, _, rfl, h.1.1, h.1.2, h.2⟩
theorem inv_whl {t : T} {a : Ss} (h : chkS c (.whl t a) s = true) : ∃ e x pos, s = .While e x [] pos ∧ chkT c t e = true ∧ chkSs c a x = true := by
  unfold chkS at h
  split at h <;> try contradiction
  rename_i q
  cases q
  simp only [Bool.and_eq_true] at h
  exact ⟨_, _, _, rfl, h.1, h.2⟩
theorem inv_for {tg : Tg} {it : It} {b : Ss} (h : chkS c (.for tg it b) s = true) : ∃ t i x pos, s = .For t i x [] pos ∧ chkG c tg t = true ∧ chkI c it t i = true ∧ notSet i = true ∧ chkSs c b x = true := by
  unfold chkS at h
  split at h <;> try contradiction
  rename_i q
  cases q
  simp only [Bool.and_eq_true] at h
  exact ⟨_, _, _, _, rfl, h.1.1.1, h.1.1.2, h.1.2, h.2⟩
theorem inv_pass (h : chkS c .pass s = true) : ∃ pos, s = .Pass pos := by
  unfold chkS at h
  split at h <;> try contradiction
  exact ⟨_, rfl⟩
theorem inv_brk (h : chkS c .brk s = true) : ∃ pos, s = .Break pos := by
  unfold chkS at h
  split at h <;> try contradiction
  exact ⟨_, rfl⟩
theorem inv_cnt (h : chkS c .cnt s = true) : ∃ pos, s = .Continue pos := by
  unfold chkS at h
  split at h <;> try contradiction
  exact ⟨_, rfl⟩
theorem inv_snil {l : List Stmt} (h : chkSs c .nil l = true) : l = [] := by
  unfold chkSs at h
  split at h <;> try contradiction
  rfl
theorem inv_scons {a : S} {es : Ss} {l : List Stmt} (h : chkSs c (.cons a es) l = true) : ∃ x xs, l = x :: xs ∧ chkS c a x = true ∧ chkSs c es xs = true := by
  unfold chkSs at h
  split at h <;> try contradiction
  rename_i q
  cases q
  simp only [Bool.and_eq_true] at h
  exact ⟨_, _, rfl, h.1, h.2⟩
end
theorem noSw {e : Expr} {t : Option Expr} {n : Nat} {env : Env} (h : noComp e = true) : swapsWith e t n env = pure false := by
  cases e <;> first | rfl | cases h
theorem noStores {e : Expr} {ts : List Expr} {env : Env} (h : notTup e = true) : swappedStores ts e env = pure none := by
  unfold swappedStores
  cases e <;> first | (cases h; done) | skip
  all_goals
    (split
     · rename_i q; split at q <;> cases q <;> contradiction
     · rfl)
theorem noStores' {v b s : Expr} {p : Pos} {e : Expr} {env : Env} : swappedStores [.Subscript b s p] e env = pure none := by
  unfold swappedStores
  rfl
def starB : Expr → Bool
  | .Starred .. => true
  | _ => false
theorem star_no {a : Expr} (h : notStar a = true) : starB a = false := by
  cases a <;> first | (cases h; done) | rfl
def nmF (env : Env) (l : Nat) : Expr → Option Str
  | .Name id pos => if env.kindOf id == some .local && pos.line == l then some id else none
  | _ => none
def swGo (k st : Bool) (names : List Str) (n : Nat) (f c : Bool) : Sem (Option (List Str)) :=
  if k then pure none else if st then pure none else if names.length != n || names.eraseDups.length != names.length then pure none else if f then pure none
  else if c then (do unsupported "assign.tuple-of-constant-expressions:order-of-the-stores"; pure (some names)) else pure (some names)
theorem nmF_ok {env : Env} {l : Nat} {x : Str} {p : Pos} (h : env.scope.names.lookup x = some .local) (g : l = p.line) : nmF env l (.Name x p) = some x := by
  have kx : env.kindOf x = some .local := h
  show (if (env.kindOf x == some .local && p.line == l) = true then some x else none) = some x
  rw [kx, g, beq_self_eq_true, beq_self_eq_true]
  rfl
theorem fnb {env : Env} (hk : env.scope.kind = .function) : (env.blockKind != .function) = false := by
  unfold Env.blockKind; rw [hk]; rfl
theorem swap2 {env : Env} {a b : Expr} {x y : Str} {px py : Pos} {kt k2 : Nat} {pt p2 : Pos} (hk : env.scope.kind = .function) (hx : env.scope.names.lookup x = some .local) (hy : env.scope.names.lookup y = some .local) (hl : px.line = py.line) (hxy : x ≠ y)
    (h1 : [a, b].all (foldedForSure 8) = false) (h2 : [a, b].all (constantsAlone 8) = false) (sa : notStar a = true) (sb : notStar b = true) :
    swappedStores [.Tuple [.Name x px, .Name y py] kt pt] (.Tuple [a, b] k2 p2) env = pure (some [x, y]) := by
  have e : swappedStores [.Tuple [.Name x px, .Name y py] kt pt] (.Tuple [a, b] k2 p2) env =
    swGo (false || (env.blockKind != .function)) (starB a || (starB b || false)) ([.Name x px, .Name y py].filterMap (nmF env px.line)) 2 ([a, b].all (foldedForSure 8)) ([a, b].all (constantsAlone 8)) := rfl
  rw [e, fnb hk, star_no sa, star_no sb, List.filterMap_cons_some (nmF_ok hx rfl), List.filterMap_cons_some (nmF_ok hy hl), List.filterMap_nil, h1, h2]
  unfold swGo
  have ed : ([x, y] : List Str).eraseDups = [x, y] := by simp [List.eraseDups_cons, Ne.symm hxy]
  rw [ed]
  rfl
theorem swap3 {env : Env} {a b d : Expr} {x y z : Str} {px py pz : Pos} {kt k2 : Nat} {pt p2 : Pos} (hk : env.scope.kind = .function) (hx : env.scope.names.lookup x = some .local) (hy : env.scope.names.lookup y = some .local) (hz : env.scope.names.lookup z = some .local) (hl : px.line = py.line) (hl' : px.line = pz.line)
    (hxy : x ≠ y) (hxz : x ≠ z) (hyz : y ≠ z)
    (h1 : [a, b, d].all (foldedForSure 8) = false) (h2 : [a, b, d].all (constantsAlone 8) = false) (sa : notStar a = true) (sb : notStar b = true) (sd : notStar d = true) :
    swappedStores [.Tuple [.Name x px, .Name y py, .Name z pz] kt pt] (.Tuple [a, b, d] k2 p2) env = pure (some [x, y, z]) := by
  have e : swappedStores [.Tuple [.Name x px, .Name y py, .Name z pz] kt pt] (.Tuple [a, b, d] k2 p2) env =
    swGo (false || (env.blockKind != .function)) (starB a || (starB b || (starB d || false))) ([.Name x px, .Name y py, .Name z pz].filterMap (nmF env px.line)) 3 ([a, b, d].all (foldedForSure 8)) ([a, b, d].all (constantsAlone 8)) := rfl
  rw [e, fnb hk, star_no sa, star_no sb, star_no sd, List.filterMap_cons_some (nmF_ok hx rfl), List.filterMap_cons_some (nmF_ok hy hl), List.filterMap_cons_some (nmF_ok hz hl'), List.filterMap_nil, h1, h2]
  unfold swGo
  have ed : ([x, y, z] : List Str).eraseDups = [x, y, z] := by simp [List.eraseDups_cons, Ne.symm hxy, Ne.symm hxz, Ne.symm hyz]
  rw [ed]
  rfl
section
variable {Γ : Nat → VF}
theorem asg_ok (e : E) {i : Nat} {s : Stmt} {X : Cx} {c : Cc} {F : Fr} (h : chkS c (.asg i e) s = true) (hX : Xc Γ X c) (O : Ok X F) : VS X F s (wS Γ (.asg i e)) := by
  obtain ⟨x, px, v, pos, rfl, h1, h2, h3⟩ := inv_asg h
  obtain ⟨g1, g2, g3⟩ := chkTo_ok hX h1
  rcases h3 with h3 | ⟨y, gs, scope, lp, rfl⟩
  · exact vs_asg g1 g2 O.nd (chkE_ok e h2 hX O) (noSw h3) g3
  · by_cases sw : swapsWith (.ListComp y gs scope lp) (some (.Name x px)) pos.line X.env = pure false
    · exact vs_asg g1 g2 O.nd (chkE_ok e h2 hX O) sw g3
    · have sb : ∃ b : Bool, swapsWith (.ListComp y gs scope lp) (some (.Name x px)) pos.line X.env = pure b ∧ (b = true → X.env.scope.names.lookup x = some .local) := by
        refine ⟨_, rfl, fun z => ?_⟩
        simp only [Bool.and_eq_true] at z
        exact eq_of_beq z.1.1.2
      obtain ⟨b, e1, e2⟩ := sb
      cases b with
      | false => exact absurd e1 sw
      | true =>
        obtain ⟨elt, tg, it, own, cs, rfl⟩ := isLc h2
        obtain ⟨x', t, i', ifs, scope', pos', q, h1, h2', h3, h4, h5, h6, h7, h8, h9⟩ := inv_lc h2
        cases q
        have hI := chkI_ok it h1 hX O
        have ok : BlkOk X.N X.env.scope scope (ownN c.N own) := by rw [hX.N, hX.sc]; exact blkOk_by h3
        have q := vs_asgLc (pos := pos) O g1 (e2 rfl) e1 hI ok (vg_of F.K tg) (own_ok h4 (P := tgIn tg) (tgOwn_ok h5)) (fun s H C cl fp => tg_pg (hX.inner s H C cl fp) O.blk h6)
          (fun s H C cl fp F' hF => chkTc_ok cs h7 (hX.inner s H C cl fp) (Ok.blk ⟨O.K.trans hF.symm, O.calm, O.nd, O.room, O.seer, O.tree, O.head, O.pass⟩))
          (fun s H C cl fp F' hF => chkE_ok elt h8 (hX.inner s H C cl fp) (Ok.blk ⟨O.K.trans hF.symm, O.calm, O.nd, O.room, O.seer, O.tree, O.head, O.pass⟩)) (setIter h2')
        rw [h4] at q
        cases it with
        | own j =>
          obtain ⟨y, py, rfl, hv⟩ := inv_own h1
          obtain ⟨m1, m2, m3, m4⟩ := chkVar_ok hX hv
          have hjo : j ∉ (ownN c.N own).map (·.2) := by
            rw [h4]
            unfold itOwn at h9
            simpa using h9
          have q := vs_asgLcO (pos := pos) O g1 (e2 rfl) e1 m1 m2 m3 m4 hjo ok (vg_of F.K tg) (own_ok h4 (P := tgIn tg) (tgOwn_ok h5)) (fun s H C cl fp => tg_pg (hX.inner s H C cl fp) O.blk h6)
            (fun s H C cl fp F' hF => chkTc_ok cs h7 (hX.inner s H C cl fp) (Ok.blk ⟨O.K.trans hF.symm, O.calm, O.nd, O.room, O.seer, O.tree, O.head, O.pass⟩))
            (fun s H C cl fp F' hF => chkE_ok elt h8 (hX.inner s H C cl fp) (Ok.blk ⟨O.K.trans hF.symm, O.calm, O.nd, O.room, O.seer, O.tree, O.head, O.pass⟩)) (setIter h2')
          rw [h4] at q
          exact q
        | _ => exact q
theorem par_ok (es : Es) {is : List Nat} {s : Stmt} {X : Cx} {c : Cc} {F : Fr} (h : chkS c (.par is es) s = true) (hX : Xc Γ X c) (O : Ok X F) : VS X F s (wS Γ (.par is es)) := by
  obtain ⟨ts, k, p, vs, k', p', pos, rfl, h1, h2⟩ := inv_par h
  have hA := chkA_ok es h2 hX O
  unfold parOk at h1
  simp only [Bool.and_eq_true, Bool.not_eq_true'] at h1
  obtain ⟨⟨⟨⟨k1, k2⟩, k3⟩, k4⟩, k5⟩ := h1
  have k1 : X.env.scope.kind = .function := by
    rw [hX.sc]
    revert k1
    cases c.sc.kind <;> intro z <;> first | rfl | cases z
  split at k5
  · rename_i i j x px y py a b
    simp only [Bool.and_eq_true, Bool.not_eq_true', beq_iff_eq, beq_eq_false_iff_ne, kindIs] at k5
    obtain ⟨⟨⟨⟨⟨⟨m1, m2⟩, m3⟩, m4⟩, m5⟩, m6⟩, m7⟩ := k5
    rw [← hX.N] at m1 m2
    rw [← hX.sc] at m3 m4
    simp only [List.all_cons, List.all_nil, Bool.and_eq_true] at k4
    exact vs_par2 O m1 m2 m7 m3 m4 hA (swap2 k1 m3 m4 m5 m6 k2 k3 k4.1 k4.2.1)
  · rename_i i j l x px y py z pz a b d
    simp only [Bool.and_eq_true, Bool.not_eq_true', beq_iff_eq, beq_eq_false_iff_ne, kindIs] at k5
    obtain ⟨⟨⟨⟨⟨⟨⟨⟨⟨⟨⟨⟨⟨m1, m2⟩, m3⟩, m4⟩, m5⟩, m6⟩, m7⟩, m8⟩, m9⟩, m10⟩, m11⟩, m12⟩, m13⟩, m14⟩ := k5
    rw [← hX.N] at m1 m2 m3
    rw [← hX.sc] at m4 m5 m6
    simp only [List.all_cons, List.all_nil, Bool.and_eq_true] at k4
    exact vs_par3 O m1 m2 m3 m12 m13 m14 m4 m5 m6 hA (swap3 k1 m4 m5 m6 m7 m8 m9 m10 m11 k2 k3 k4.1 k4.2.1 k4.2.2.1)
  · cases k5
mutual
theorem chkS_ok : ∀ (e : S) {s : Stmt} {X : Cx} {c : Cc} {F : Fr}, chkS c e s = true → Xc Γ X c → Ok X F → VS X F s (wS Γ e)
  | .asg i e, s, X, c, F, h, hX, O => asg_ok e h hX O
  | .asgT is e, s, X, c, F, h, hX, O => by
    obtain ⟨ts, k, p, v, pos, rfl, h1, h2, h4⟩ := inv_asgT h
    obtain ⟨g1, g2, g3⟩ := names_pg hX O.nd h1
    have hg : PG X (.Tuple ts k p) (gSeq F.K is.length (gNames is)) := by
      rw [← O.K]
      exact pg_seq O.calm g1 g2 g3
    exact vs_asgT hg (chkE_ok e h2 hX O) (show swapsWith v (some (.Tuple ts k p)) pos.line X.env = pure false by cases v <;> rfl) (noStores h4) rfl
  | .par is es, s, X, c, F, h, hX, O => par_ok es h hX O
  | .asgX i x y e, s, X, c, F, h, hX, O => by
    obtain ⟨n, p1, u, t1, p2, w, t2, k, tp, v, pos, rfl, h1, h2, h3, h4, h5, h6, h7⟩ := inv_asgX h
    obtain ⟨g1, g2, g3, g4⟩ := chkVar_ok hX h1
    refine vs_asgX O g1 g2 g3 g4 (chkE_ok e h6 hX O) (chkE_ok x h4 hX O) (chkE_ok y h5 hX O) (show swapsWith v (some (.Tuple [.Subscript (.Name n p1) u t1, .Subscript (.Name n p2) w t2] k tp)) pos.line X.env = pure false from noSw h7) noStoresX (fun v => ?_) fun v => ?_
    · cases u <;> first | rfl | cases h2
    · cases w <;> first | rfl | cases h3
  | .sub i x e, s, X, c, F, h, hX, O => by
    obtain ⟨n, p, y, sp, v, pos, rfl, h1, h2, h3, h4, h5⟩ := inv_sub h
    obtain ⟨g1, g2, g3, g4⟩ := chkVar_ok hX h1
    refine vs_sub O g1 g2 g3 g4 (chkE_ok e h4 hX O) (chkE_ok x h3 hX O) (show swapsWith v (some (.Subscript (.Name n p) y sp)) pos.line X.env = pure false from noSw h5) (noStores' (v := v)) rfl fun v => ?_
    cases y <;> first | rfl | cases h2
  | .aug i o e, s, X, c, F, h, hX, O => by
    obtain ⟨x, px, v, pos, rfl, h1, h2⟩ := inv_aug h
    obtain ⟨g1, g2, g3⟩ := chkTo_ok hX h1
    exact vs_aug O o g1 g2 (chkE_ok e h2 hX O) g3
  | .augS i x o e, s, X, c, F, h, hX, O => by
    obtain ⟨n, p, y, sp, v, pos, rfl, h1, h2, h3, h4⟩ := inv_augS h
    obtain ⟨g1, g2, g3, g4⟩ := chkVar_ok hX h1
    refine vs_augS O o g1 g2 g3 g4 (chkE_ok e h4 hX O) (chkE_ok x h3 hX O) fun ov iv new => ?_
    cases y <;> first | rfl | cases h2
  | .ex e, s, X, c, F, h, hX, O => by
    obtain ⟨v, pos, rfl, h1, h2⟩ := inv_ex h
    exact vs_ex (chkE_ok e h2 hX O) (noSw h1)
  | .ret e, s, X, c, F, h, hX, O => by
    obtain ⟨v, pos, rfl, h2⟩ := inv_ret h
    exact vs_ret (chkE_ok e h2 hX O)
  | .ret0, s, X, c, F, h, hX, O => by
    obtain ⟨pos, rfl⟩ := inv_ret0 h
    exact vs_ret0
  | .ite t a b, s, X, c, F, h, hX, O => by
    obtain ⟨e, x, y, pos, rfl, h1, h2, h3⟩ := inv_if h
    exact vs_if (chkT_ok t h1 hX O).1 (chkSs_ok a h2 hX O) (chkSs_ok b h3 hX O)
  | .whl t a, s, X, c, F, h, hX, O => by
    obtain ⟨e, x, pos, rfl, h1, h2⟩ := inv_whl h
    exact vs_while O (chkT_ok t h1 hX O).1 (chkSs_ok a h2 hX O)
  | .for tg it b, s, X, c, F, h, hX, O => by
    obtain ⟨t, i, x, pos, rfl, h1, h2, h3, h4⟩ := inv_for h
    exact vs_for O (chkI_ok it h2 hX O) (vg_of F.K tg) (tg_pg hX O h1) (fun F' hF => chkSs_ok b h4 hX ⟨O.K.trans hF.symm, O.calm, O.nd, O.room, O.seer, O.tree, O.head, O.pass⟩) (setIter h3)
  | .pass, s, X, c, F, h, hX, O => by
    obtain ⟨pos, rfl⟩ := inv_pass h
    exact vs_pass
  | .brk, s, X, c, F, h, hX, O => by
    obtain ⟨pos, rfl⟩ := inv_brk h
    exact vs_brk
  | .cnt, s, X, c, F, h, hX, O => by
    obtain ⟨pos, rfl⟩ := inv_cnt h
    exact vs_cnt
theorem chkSs_ok : ∀ (e : Ss) {s : List Stmt} {X : Cx} {c : Cc} {F : Fr}, chkSs c e s = true → Xc Γ X c → Ok X F → VSs X F s (wSs Γ e)
  | .nil, s, X, c, F, h, hX, O => by
    cases inv_snil h
    exact vs_nil
  | .cons a ss, s, X, c, F, h, hX, O => by
    obtain ⟨x, xs, rfl, h1, h2⟩ := inv_scons h
    have q := vs_cons (chkS_ok a h1 hX O) (chkSs_ok ss h2 hX O)
    exact q
end
end
end VL

/-! VL18: defs. -/
namespace VL
open PySem PySem.Spec L2
/-- a function by number: where it stands, its slots, its parameters, its text as a term -/
structure Ent where
  id : Nat
  d : He.DefD
  N : List Str
  ps : List Str
  body : Ss
  stub : Bool := false
def Ent.x (e : Ent) : Str := e.d.at_.1
def tabF (T : List Ent) (j : Nat) : List (Nat × Str × Nat) := (T.take j).map fun e => (e.id, e.x, e.ps.length)
def ccOf (T : List Ent) (bs : List Str) (gs : List (Str × D)) (j : Nat) (e : Ent) : Cc := ⟨e.d.scope, e.N, true, tabF T j, bs, gs⟩
theorem lookup_mem {β : Type} {f : Nat} {b : β} : ∀ {l : List (Nat × β)}, l.lookup f = some b → (f, b) ∈ l
  | [], h => by cases h
  | (g, c) :: l, h => by
    rw [List.lookup_cons] at h
    cases q : (f == g) with
    | true =>
      rw [q] at h
      cases h
      rw [eq_of_beq q]
      exact List.mem_cons_self
    | false =>
      rw [q] at h
      exact List.mem_cons_of_mem _ (lookup_mem h)
theorem tabF_at {T : List Ent} {j f n : Nat} {x : Str} (h : (tabF T j).lookup f = some (x, n)) : ∃ i e, i < j ∧ T[i]? = some e ∧ f = e.id ∧ x = e.x ∧ n = e.ps.length := by
  have m := lookup_mem h
  unfold tabF at m
  obtain ⟨e, hm, q⟩ := List.mem_map.mp m
  cases q
  obtain ⟨i, hi⟩ := List.getElem?_of_mem hm
  have hl : i < j := by
    have := (List.getElem?_eq_some_iff.mp hi).1
    rw [List.length_take] at this
    omega
  rw [List.getElem?_take, if_pos hl] at hi
  exact ⟨i, e, hl, hi, rfl, rfl, rfl⟩
structure EntOk (T : List Ent) (bs : List Str) (gs : List (Str × D)) (j : Nat) (e : Ent) : Prop where
  sc : FnScope e.N e.ps e.d.scope
  bnd : ∀ (kV doc pm : Value) (an : Option Addr) (cdv ct : Value) (us : List Value), us.length = e.ps.length → bindArgs (PySem.W.fnOf e.d.name e.d.qual e.d.params e.d.body e.d.scope .none kV doc pm an cdv ct) ⟨us, []⟩ = pure (e.ps.zip us)
  chk : e.stub = false → chkSs (ccOf T bs gs j e) e.body e.d.body = true
/-- the text, as a term, keeps the promise f -/
def Good (Γ : Nat → VF) (body : Ss) (n m : Nat) (f : VF) : Prop := match f.kind with
  | .read => ∀ ds q, f.sp ds q → ds.length = n → wSs Γ body (ds.map Sl.val ++ List.replicate m .un) { nx := fun _ => q (.val .non) none, rt := fun r _ => q r none }
  | .take => ∀ ds q, f.sp ds q → ds.length = n → wSs Γ body (ds.map Sl.val ++ List.replicate m .un) { nx := fun _ => q (.val .non) none, rt := fun r _ => q r none }
  | .wrt => ∀ ds0 rest q, f.sp (.lst ds0 :: rest) q → rest.length + 1 = n →
      wSs Γ body ((Sl.par ds0 :: rest.map Sl.val) ++ List.replicate m .un) { nx := fun ρ => ∃ ds', gt ρ 0 = .par ds' ∧ q (.val .non) (some ds'), rt := fun r ρ => (∃ x : R, r = x) ∧ ∃ ds', gt ρ 0 = .par ds' ∧ q r (some ds') }
  | .give => ∀ ds0 rest q, f.sp (.lst ds0 :: rest) q → rest.length + 1 = n →
      wSs Γ body ((Sl.own ds0 :: rest.map Sl.val) ++ List.replicate m .un) { nx := fun _ => q (.val .non) none, rt := fun r _ => (∃ d, r = .val d) ∧ q r none }
  | .wrtB => ∀ ds0 d q, f.sp [.lst ds0, d] q → n = 2 →
      wSs Γ body ([Sl.val d, Sl.par ds0] ++ List.replicate m .un) { nx := fun ρ => ∃ ds', gt ρ 1 = .par ds' ∧ q (.val .non) (some ds'), rt := fun r ρ => (∃ x : R, r = x) ∧ ∃ ds', gt ρ 1 = .par ds' ∧ q r (some ds') }
/-- a stub stands for a def ahead of itself: nothing may be asked of it -/
def GoodE (Γ : Nat → VF) (e : Ent) : Prop := match e.stub with
  | true => ∀ ds q, ¬ (Γ e.id).sp ds q
  | false => Good Γ e.body e.ps.length (e.N.length - e.ps.length) (Γ e.id)
theorem spOf_none {K : PySem.W.Frag} {n : Nat} {f : VF} (h : ∀ ds q, ¬ f.sp ds q) {vs : List V} {H : Hp} {Q : VK} {E : XK} : ¬ spOf K n f vs H Q E := by
  rintro ⟨-, z⟩
  split at z
  · obtain ⟨ds, ex, q, _, _, z, _⟩ := z
    exact h _ _ z
  · obtain ⟨ds, ex, q, _, _, z, _⟩ := z
    exact h _ _ z
  · obtain ⟨a, xs, ds0, rest, vr, ex, q, _, _, _, _, _, _, z, _⟩ := z
    exact h _ _ z
  · obtain ⟨a, xs, ds0, rest, vr, ex, q, _, _, _, _, _, _, z, _⟩ := z
    exact h _ _ z
  · obtain ⟨_, _, _, a, xs, ds0, rest, vr, ex, q, _, _, _, _, _, _, z, _⟩ := z
    exact h _ _ z
theorem start_sl {F : Fr} {H : Hp} {as : As} {N : List Str} {vs : List V} {sls : List Sl} {k : Nat} (hl : sls.length = vs.length) (h : ∀ i v, vs[i]? = some v → SlAt F H as i (some (some v)) (sls[i]?.getD .un)) (hn : ∀ i, vs.length ≤ i → as i = none) (i : Nat) :
    SlAt F H as i (L2.start N vs)[i]? ((sls ++ List.replicate k .un)[i]?.getD .un) := by
  by_cases hi : i < vs.length
  · have e1 : (L2.start N vs)[i]? = some (some (vs[i]'hi)) := by
      unfold L2.start
      rw [List.getElem?_append_left (by rw [List.length_map]; exact hi), List.getElem?_map, List.getElem?_eq_getElem hi]
      rfl
    have e2 : (sls ++ List.replicate k .un)[i]? = sls[i]? := List.getElem?_append_left (by rw [hl]; exact hi)
    rw [e1, e2]
    exact h i _ (List.getElem?_eq_getElem hi)
  · have e2 : (sls ++ List.replicate k .un)[i]?.getD .un = Sl.un := by
      rw [List.getElem?_append_right (by rw [hl]; omega), List.getElem?_replicate]
      split <;> rfl
    rw [e2]
    exact hn i (by omega)
theorem start_len {N : List Str} {vs : List V} {sls : List Sl} {m : Nat} (hl : sls.length = vs.length) (hm : m = N.length - vs.length) (hN : vs.length ≤ N.length) : (sls ++ List.replicate m Sl.un).length = (L2.start N vs).length := by
  unfold L2.start
  rw [List.length_append, List.length_append, List.length_map, List.length_replicate, List.length_replicate, hl, hm]
theorem Reps.getd {K : PySem.W.Frag} {H : Hp} {av : Addr → Prop} : ∀ {ds : List D} {vs : List V} {i : Nat} {v : V}, Reps K H av ds vs → vs[i]? = some v → ∃ d, ds[i]? = some d ∧ Rep K H av d v
  | [], vs, i, v, r, h => by unfold Reps at r; subst r; cases i <;> cases h
  | d :: ds, vs, i, v, r, h => by
    unfold Reps at r
    obtain ⟨u, ur, rfl, r1, r2⟩ := r
    cases i with
    | zero => cases h; exact ⟨d, rfl, r1⟩
    | succ i =>
      have q := Reps.getd r2 (show ur[i]? = some v from h)
      exact q
section
variable {K : PySem.W.Frag} {H : Hp} {ex : Addr → Prop} {N : List Str} {vs : List V} {ds : List D}
theorem er_read {m : Nat} (hx : ∀ b, ex b → H b ≠ none) (r : Reps K H ex ds vs) (hm : m = N.length - vs.length) (hN : vs.length ≤ N.length) :
    ER ⟨K, H, none, none, ex, []⟩ (fun _ => none) (L2.start N vs) H (ds.map Sl.val ++ List.replicate m .un) := by
  have hl : (ds.map Sl.val).length = vs.length := by rw [List.length_map, r.length]
  have av : ∀ b, Fr.av ⟨K, H, none, none, ex, []⟩ (fun _ => none) b → ex b := fun b z => by
    rcases z with z | ⟨i, z⟩ | z
    · exact z
    · cases z
    · cases z
  refine ⟨start_len hl hm hN, fun i j b h => (by cases h), fun i b h => (by cases h), fun i => start_sl hl (fun i v e => ?_) (fun _ _ => rfl) i, Ext.refl _ _, fun i b h => (by cases h), fun b z => ?_, fun b z => (by cases z), fun p hp => (by cases hp)⟩
  · obtain ⟨d, e1, e2⟩ := Reps.getd r e
    rw [List.getElem?_map, e1]
    exact ⟨rfl, v, rfl, Rep.wk (fun b _ z => av b z) e2⟩
  · rcases z with z | z
    · exact hx b z
    · cases z
theorem er_first {m : Nat} {a : Addr} {xs : List V} {ds0 : List D} {s : Sl} {M G : Option Addr} (hx : ∀ b, ex b → H b ≠ none) (hna : ¬ ex a) (ha : H a = some (.lst xs)) (r0 : Reps K H (fun c => ex c ∨ c = a) ds0 xs) (r : Reps K H (fun c => ex c ∨ c = a) ds vs)
    (hm : m = N.length - (vs.length + 1)) (hN : vs.length + 1 ≤ N.length) (hs : (s = .par ds0 ∧ M = some a ∧ G = none) ∨ (s = .own ds0 ∧ M = none ∧ G = some a)) :
    ER ⟨K, H, M, G, ex, []⟩ (fun i => if i = 0 then some a else none) (L2.start N (.ref a :: vs)) H ((s :: ds.map Sl.val) ++ List.replicate m .un) := by
  have hl : (s :: ds.map Sl.val).length = (V.ref a :: vs).length := by rw [List.length_cons, List.length_map, List.length_cons, r.length]
  have as0 : ∀ {i : Nat} {b : Addr}, (if i = 0 then some a else none) = some b → i = 0 ∧ b = a := fun {i b} h => by
    by_cases q : i = 0
    · rw [if_pos q] at h; cases h; exact ⟨q, rfl⟩
    · rw [if_neg q] at h; cases h
  have av : ∀ b, Fr.av ⟨K, H, M, G, ex, []⟩ (fun i => if i = 0 then some a else none) b → ex b ∨ b = a := fun b z => by
    rcases z with z | ⟨i, z⟩ | z
    · exact .inl z
    · exact .inr (as0 z).2
    · rcases hs with ⟨_, rfl, _⟩ | ⟨_, rfl, _⟩ <;> cases z
      exact .inr rfl
  refine ⟨start_len hl hm hN, fun i j b h h' => (as0 h).1.trans (as0 h').1.symm, fun i b h z => hna ((as0 h).2 ▸ z), fun i => start_sl hl (fun i v e => ?_) (fun i hi => if_neg (by have : 0 < i := Nat.lt_of_lt_of_le (by simp) hi; omega)) i, Ext.refl _ _, fun i b h => ?_, fun b z => ?_, fun b z => ?_, fun p hp => (by cases hp)⟩
  · cases i with
    | zero =>
      cases e
      rcases hs with ⟨rfl, rfl, rfl⟩ | ⟨rfl, rfl, rfl⟩
      · exact ⟨a, xs, rfl, rfl, rfl, ha, Reps.wk (fun b _ z => av b z) r0⟩
      · exact ⟨a, xs, rfl, .inr rfl, rfl, ha, Reps.wk (fun b _ z => av b z) r0⟩
    | succ i =>
      obtain ⟨d, e1, e2⟩ := Reps.getd r (show vs[i]? = some v from e)
      have e3 : (s :: ds.map Sl.val)[i + 1]? = some (.val d) := by rw [List.getElem?_cons_succ, List.getElem?_map, e1]; rfl
      rw [e3]
      exact ⟨rfl, v, rfl, Rep.wk (fun b _ z => av b z) e2⟩
  · rcases hs with ⟨_, rfl, _⟩ | ⟨_, _, rfl⟩
    · exact .inr (.inr (congrArg some (as0 h).2.symm))
    · exact .inr (.inl (congrArg some (as0 h).2.symm))
  · rcases z with z | z
    · exact hx b z
    · rcases hs with ⟨_, rfl, _⟩ | ⟨_, rfl, _⟩ <;> cases z
      rw [ha]; exact fun z => nomatch z
  · rcases hs with ⟨_, rfl, rfl⟩ | ⟨_, rfl, rfl⟩ <;> cases z
    refine ⟨(by show H a ≠ none; rw [ha]; exact fun z => nomatch z), fun z => nomatch z⟩
theorem er_second {m : Nat} {a : Addr} {xs : List V} {ds0 : List D} {d : D} {v0 : V} (hx : ∀ b, ex b → H b ≠ none) (hna : ¬ ex a) (ha : H a = some (.lst xs)) (r0 : Reps K H (fun c => ex c ∨ c = a) ds0 xs) (r : Rep K H (fun c => ex c ∨ c = a) d v0)
    (hm : m = N.length - 2) (hN : 2 ≤ N.length) :
    ER ⟨K, H, some a, none, ex, []⟩ (fun i => if i = 1 then some a else none) (L2.start N [v0, .ref a]) H ([Sl.val d, .par ds0] ++ List.replicate m .un) := by
  have as1 : ∀ {i : Nat} {b : Addr}, (if i = 1 then some a else none) = some b → i = 1 ∧ b = a := fun {i b} h => by
    by_cases q : i = 1
    · rw [if_pos q] at h; cases h; exact ⟨q, rfl⟩
    · rw [if_neg q] at h; cases h
  have av : ∀ b, Fr.av ⟨K, H, some a, none, ex, []⟩ (fun i => if i = 1 then some a else none) b → ex b ∨ b = a := fun b z => by
    rcases z with z | ⟨i, z⟩ | z
    · exact .inl z
    · exact .inr (as1 z).2
    · cases z; exact .inr rfl
  refine ⟨start_len rfl hm hN, fun i j b h h' => (as1 h).1.trans (as1 h').1.symm, fun i b h z => hna ((as1 h).2 ▸ z), fun i => start_sl (vs := [v0, .ref a]) rfl (fun i v e => ?_) (fun i hi => if_neg (by have : 2 ≤ i := hi; omega)) i, Ext.refl _ _, fun i b h => ?_, fun b z => ?_, fun b z => ?_, fun p hp => (by cases hp)⟩
  · match i, e with
    | 0, e =>
      cases e
      exact ⟨rfl, v0, rfl, Rep.wk (fun b _ z => av b z) r⟩
    | 1, e =>
      cases e
      exact ⟨a, xs, rfl, rfl, rfl, ha, Reps.wk (fun b _ z => av b z) r0⟩
  · exact .inr (.inr (congrArg some (as1 h).2.symm))
  · rcases z with z | z
    · exact hx b z
    · cases z
      rw [ha]; exact fun z => nomatch z
  · cases z
    refine ⟨(by show H a ≠ none; rw [ha]; exact fun z => nomatch z), fun z => nomatch z⟩
end
section
variable {P : Program} {w : World} {K : PySem.W.Frag} {mg : Str → Option Value} {base : Heap} {T : List Ent} {Γ : Nat → VF} {bs : List Str} {gs : List (Str × D)}
theorem body_read {body : Ss} {n : Nat} {f : VF} {N : List Str} {vs : List V} {H : Hp} {Q : VK} (hk : f.kind = .read) (hG : Good Γ body n (N.length - n) f) (hN : n ≤ N.length) (hl : vs.length = n) (h : spR K f vs H Q) :
    ∃ F : Fr, F.K = K ∧ lS F (wSs Γ body) { nx := fun _ H' => Q .non H', rt := Q } (L2.start N vs) H := by
  obtain ⟨ds, ex, q, hx, r, hq, c⟩ := h
  unfold Good at hG
  rw [hk] at hG
  have hG : ∀ ds q, f.sp ds q → ds.length = n → wSs Γ body (ds.map Sl.val ++ List.replicate (N.length - n) .un) { nx := fun _ => q (.val .non) none, rt := fun r _ => q r none } := hG
  refine ⟨⟨K, H, none, none, ex, []⟩, rfl, fun _ => none, _, _, er_read hx r (by rw [hl]) (by omega), hG ds q hq (by rw [← hl, r.length]), fun as' ρ' σ' H' E z => ?_, fun _ _ _ _ _ z => z.elim, fun _ _ _ _ _ z => z.elim, fun as' ρ' σ' H' r v E B z => ?_⟩
  · exact c (.val .non) .non H' none (E.old.mono fun b z => by rcases z with z | z <;> cases z) (rep_non (K := K) (H := H') (av := ex)) z
  · refine c r v H' none (E.old.mono fun b z => by rcases z with z | z <;> cases z) ?_ z
    cases r with
    | val d => exact Rep.wk (fun b _ z => .inl z) (show Rep K H' (Fr.av ⟨K, H, none, none, ex, []⟩ as') d v from B)
    | slot i => exact B.elim
    | fresh ds' =>
      obtain ⟨b, xs, rfl, h0, h1, h2, _⟩ := B
      have h0 : H b = none := by
        rcases h0 with h0 | h0
        · exact h0
        · cases h0
      exact ⟨b, xs, rfl, .inl h0, fun z => hx b z h0, h1, Reps.wk (fun c _ z => z.elim (fun z => .inl (.inl z)) .inr) h2⟩
theorem body_take {body : Ss} {n : Nat} {f : VF} {N : List Str} {vs : List V} {H : Hp} {Q : VK} (hk : f.kind = .take) (hG : Good Γ body n (N.length - n) f) (hN : n ≤ N.length) (hl : vs.length = n) (h : spR K f vs H Q) :
    ∃ F : Fr, F.K = K ∧ lS F (wSs Γ body) { nx := fun _ H' => Q .non H', rt := Q } (L2.start N vs) H := by
  obtain ⟨ds, ex, q, hx, r, hq, c⟩ := h
  unfold Good at hG
  rw [hk] at hG
  have hG : ∀ ds q, f.sp ds q → ds.length = n → wSs Γ body (ds.map Sl.val ++ List.replicate (N.length - n) .un) { nx := fun _ => q (.val .non) none, rt := fun r _ => q r none } := hG
  refine ⟨⟨K, H, none, none, ex, []⟩, rfl, fun _ => none, _, _, er_read hx r (by rw [hl]) (by omega), hG ds q hq (by rw [← hl, r.length]), fun as' ρ' σ' H' E z => ?_, fun _ _ _ _ _ z => z.elim, fun _ _ _ _ _ z => z.elim, fun as' ρ' σ' H' r v E B z => ?_⟩
  · exact c (.val .non) .non H' none (E.old.mono fun b z => by rcases z with z | z <;> cases z) (rep_non (K := K) (H := H') (av := ex)) z
  · refine c r v H' none (E.old.mono fun b z => by rcases z with z | z <;> cases z) ?_ z
    cases r with
    | val d => exact Rep.wk (fun b _ z => .inl z) (show Rep K H' (Fr.av ⟨K, H, none, none, ex, []⟩ as') d v from B)
    | slot i => exact B.elim
    | fresh ds' =>
      obtain ⟨b, xs, rfl, h0, h1, h2, _⟩ := B
      have h0 : H b = none := by
        rcases h0 with h0 | h0
        · exact h0
        · cases h0
      exact ⟨b, xs, rfl, .inl h0, fun z => hx b z h0, h1, Reps.wk (fun c _ z => z.elim (fun z => .inl (.inl z)) .inr) h2⟩
theorem body_wrt {body : Ss} {n : Nat} {f : VF} {N : List Str} {vs : List V} {H : Hp} {Q : VK} (hk : f.kind = .wrt) (hG : Good Γ body n (N.length - n) f) (hN : n ≤ N.length) (hl : vs.length = n) (h : spW K f vs H Q) :
    ∃ F : Fr, F.K = K ∧ lS F (wSs Γ body) { nx := fun _ H' => Q .non H', rt := Q } (L2.start N vs) H := by
  obtain ⟨a, xs, ds0, rest, vr, ex, q, rfl, hx, hna, ha, r0, r, hq, c⟩ := h
  unfold Good at hG
  rw [hk] at hG
  have hl' : vr.length + 1 = n := hl
  have hE := er_first (N := N) (m := N.length - n) (s := .par ds0) (M := some a) (G := none) hx hna ha r0 r (by rw [hl']) (by omega) (.inl ⟨rfl, rfl, rfl⟩)
  have e1 : ∀ {as' : As} {ρ' : En} {σ' : L2.St} {H' : Hp} {ds' : List D}, ER ⟨K, H, some a, none, ex, []⟩ as' σ' H' ρ' → gt ρ' 0 = .par ds' → Ext (fun c => c = a) H H' ∧ ∃ ys, H' a = some (.lst ys) ∧ Reps K H' (fun c => (ex c ∨ c = a)) ds' ys := fun {as' ρ' σ' H' ds'} E z => by
    refine ⟨E.old.mono fun b z => by rcases z with z | z <;> cases z; rfl, ?_⟩
    have s0 := E.sl 0
    change SlAt _ H' as' 0 _ (gt ρ' 0) at s0
    rw [z] at s0
    obtain ⟨b, ys, _, hb, _, g1, g2⟩ := s0
    cases hb
    exact ⟨ys, g1, Reps.wk (fun c _ z => z.elim .inl fun z => .inr (.inr (congrArg some z.symm))) g2⟩
  refine ⟨⟨K, H, some a, none, ex, []⟩, rfl, _, _, _, hE, hG ds0 rest q hq (by rw [← hl', r.length]), fun as' ρ' σ' H' E z => ?_, fun _ _ _ _ _ z => z.elim, fun _ _ _ _ _ z => z.elim, fun as' ρ' σ' H' r v E B z => ?_⟩
  · obtain ⟨ds', z1, z2⟩ := z
    obtain ⟨g0, ys, g1, g2⟩ := e1 E z1
    exact c (.val .non) .non H' (some ds') g0 (rep_non (K := K) (H := H') (av := fun c => ex c ∨ c = a)) (fun _ e => by cases e; exact ⟨ys, g1, Reps.wk (fun c _ z => z.elim (fun z => z) fun z => z.elim) g2⟩) z2
  · obtain ⟨_, ds', z1, z2⟩ := z
    obtain ⟨g0, ys, g1, g2⟩ := e1 E z1
    cases r with
    | val d =>
      refine c (.val d) v H' (some ds') g0 ?_ (fun _ e => by cases e; exact ⟨ys, g1, Reps.wk (fun c _ z => z.elim (fun z => z) fun z => z.elim) g2⟩) z2
      exact Rep.wk (fun b _ z => z.elim .inl fun z => .inr (.inr (congrArg some z.symm))) (show Rep K H' (Fr.av ⟨K, H, some a, none, ex, []⟩ as') d v from B)
    | slot i => exact B.elim
    | fresh es =>
      obtain ⟨b, xs', rfl, h0, h1, h2, h3⟩ := B
      have h0 : H b = none := by
        rcases h0 with h0 | h0
        · exact h0
        · cases h0
      have nb : ¬ (ex b ∨ b = a) := fun z => z.elim (fun z => hx b z h0) fun z => by rw [z, ha] at h0; cases h0
      obtain ⟨a', ys', k1, k2, k3⟩ := h3 0 ds' z1
      have s0 := E.sl 0
      rw [show (ρ'[0]?.getD Sl.un) = Sl.par ds' from z1] at s0
      obtain ⟨b0, ys0, p1, p2, _, p4, _⟩ := s0
      cases p2
      rw [k1] at p1; cases p1
      rw [g1] at k2; cases k2
      refine c (.fresh es) (.ref b) H' (some ds') g0 ⟨b, xs', rfl, .inl h0, nb, h1, Reps.wk (fun c _ z => z.elim (fun z => z.elim (fun z => .inl (.inl z)) fun z => .inl (.inr (.inr (congrArg some z.symm)))) .inr) h2⟩ (fun _ e => ?_) z2
      cases e
      exact ⟨_, g1, Reps.wk (fun c _ z => z.elim (fun z => z.elim (fun z => .inl (.inl z)) fun z => .inl (.inr (.inr (congrArg some z.symm)))) fun z => .inr (by
        have z : V.ref b = V.ref c := z
        cases z; rfl)) k3⟩
theorem body_wrtB {body : Ss} {n : Nat} {f : VF} {N : List Str} {vs : List V} {H : Hp} {Q : VK} (hk : f.kind = .wrtB) (hG : Good Γ body n (N.length - n) f) (hN : n ≤ N.length) (hl : vs.length = n) (h : ∃ v0 va, vs = [v0, va] ∧ spW K f [va, v0] H Q) :
    ∃ F : Fr, F.K = K ∧ lS F (wSs Γ body) { nx := fun _ H' => Q .non H', rt := Q } (L2.start N vs) H := by
  obtain ⟨v0, va, rfl, a, xs, ds0, rest, vr, ex, q, z0, hx, hna, ha, r0, r, hq, c⟩ := h
  cases z0
  unfold Reps at r
  match rest, r, hq with
  | [d], ⟨v0', r', z0, r1, r2⟩, hq =>
  unfold Reps at r2
  subst r2
  cases z0
  unfold Good at hG
  rw [hk] at hG
  have hl' : 2 = n := hl
  have hE := er_second (N := N) (m := N.length - n) hx hna ha r0 r1 (by rw [← hl']) (by omega)
  have e1 : ∀ {as' : As} {ρ' : En} {σ' : L2.St} {H' : Hp} {ds' : List D}, ER ⟨K, H, some a, none, ex, []⟩ as' σ' H' ρ' → gt ρ' 1 = .par ds' → Ext (fun c => c = a) H H' ∧ ∃ ys, H' a = some (.lst ys) ∧ Reps K H' (fun c => (ex c ∨ c = a)) ds' ys := fun {as' ρ' σ' H' ds'} E z => by
    refine ⟨E.old.mono fun b z => by rcases z with z | z <;> cases z; rfl, ?_⟩
    have s0 := E.sl 1
    change SlAt _ H' as' 1 _ (gt ρ' 1) at s0
    rw [z] at s0
    obtain ⟨b, ys, _, hb, _, g1, g2⟩ := s0
    cases hb
    exact ⟨ys, g1, Reps.wk (fun c _ z => z.elim .inl fun z => .inr (.inr (congrArg some z.symm))) g2⟩
  refine ⟨⟨K, H, some a, none, ex, []⟩, rfl, _, _, _, hE, hG ds0 d q hq hl'.symm, fun as' ρ' σ' H' E z => ?_, fun _ _ _ _ _ z => z.elim, fun _ _ _ _ _ z => z.elim, fun as' ρ' σ' H' r v E B z => ?_⟩
  · obtain ⟨ds', z1, z2⟩ := z
    obtain ⟨g0, ys, g1, g2⟩ := e1 E z1
    exact c (.val .non) .non H' (some ds') g0 (rep_non (K := K) (H := H') (av := fun c => ex c ∨ c = a)) (fun _ e => by cases e; exact ⟨ys, g1, Reps.wk (fun c _ z => z.elim (fun z => z) fun z => z.elim) g2⟩) z2
  · obtain ⟨_, ds', z1, z2⟩ := z
    obtain ⟨g0, ys, g1, g2⟩ := e1 E z1
    cases r with
    | val d =>
      refine c (.val d) v H' (some ds') g0 ?_ (fun _ e => by cases e; exact ⟨ys, g1, Reps.wk (fun c _ z => z.elim (fun z => z) fun z => z.elim) g2⟩) z2
      exact Rep.wk (fun b _ z => z.elim .inl fun z => .inr (.inr (congrArg some z.symm))) (show Rep K H' (Fr.av ⟨K, H, some a, none, ex, []⟩ as') d v from B)
    | slot i => exact B.elim
    | fresh es =>
      obtain ⟨b, xs', rfl, h0, h1, h2, h3⟩ := B
      have h0 : H b = none := by
        rcases h0 with h0 | h0
        · exact h0
        · cases h0
      have nb : ¬ (ex b ∨ b = a) := fun z => z.elim (fun z => hx b z h0) fun z => by rw [z, ha] at h0; cases h0
      obtain ⟨a', ys', k1, k2, k3⟩ := h3 1 ds' z1
      have s0 := E.sl 1
      rw [show (ρ'[1]?.getD Sl.un) = Sl.par ds' from z1] at s0
      obtain ⟨b0, ys0, p1, p2, _, p4, _⟩ := s0
      cases p2
      rw [k1] at p1; cases p1
      rw [g1] at k2; cases k2
      refine c (.fresh es) (.ref b) H' (some ds') g0 ⟨b, xs', rfl, .inl h0, nb, h1, Reps.wk (fun c _ z => z.elim (fun z => z.elim (fun z => .inl (.inl z)) fun z => .inl (.inr (.inr (congrArg some z.symm)))) .inr) h2⟩ (fun _ e => ?_) z2
      cases e
      exact ⟨_, g1, Reps.wk (fun c _ z => z.elim (fun z => z.elim (fun z => .inl (.inl z)) fun z => .inl (.inr (.inr (congrArg some z.symm)))) fun z => .inr (by
        have z : V.ref b = V.ref c := z
        cases z; rfl)) k3⟩
theorem body_give {body : Ss} {n : Nat} {f : VF} {N : List Str} {vs : List V} {H : Hp} {Q : VK} (hk : f.kind = .give) (hG : Good Γ body n (N.length - n) f) (hN : n ≤ N.length) (hl : vs.length = n) (h : spG K f vs H Q) :
    ∃ F : Fr, F.K = K ∧ lS F (wSs Γ body) { nx := fun _ H' => Q .non H', rt := Q } (L2.start N vs) H := by
  obtain ⟨a, xs, ds0, rest, vr, ex, q, rfl, hx, hna, ha, r0, r, hq, c⟩ := h
  unfold Good at hG
  rw [hk] at hG
  have hl' : vr.length + 1 = n := hl
  have hE := er_first (N := N) (m := N.length - n) (s := .own ds0) (M := none) (G := some a) hx hna ha r0 r (by rw [hl']) (by omega) (.inr ⟨rfl, rfl, rfl⟩)
  refine ⟨⟨K, H, none, some a, ex, []⟩, rfl, _, _, _, hE, hG ds0 rest q hq (by rw [← hl', r.length]), fun as' ρ' σ' H' E z => ?_, fun _ _ _ _ _ z => z.elim, fun _ _ _ _ _ z => z.elim, fun as' ρ' σ' H' r v E B z => ?_⟩
  · exact c .non .non H' none (E.old.mono fun b z => by rcases z with z | z <;> cases z; rfl) (rep_non (K := K) (H := H') (av := ex)) z
  · obtain ⟨⟨d, rfl⟩, z2⟩ := z
    refine c d v H' none (E.old.mono fun b z => by rcases z with z | z <;> cases z; rfl) ?_ z2
    exact Rep.wk (fun b _ z => .inl z) (show Rep K H' (Fr.av ⟨K, H, none, some a, ex, []⟩ as') d v from B)
theorem body_all {body : Ss} {n : Nat} {f : VF} {N : List Str} {vs : List V} {H : Hp} {Q : VK} {E : XK} (hG : Good Γ body n (N.length - n) f) (hN : n ≤ N.length) (h : spOf K n f vs H Q E) :
    ∃ F : Fr, F.K = K ∧ lS F (wSs Γ body) { nx := fun _ H' => Q .non H', rt := Q } (L2.start N vs) H := by
  obtain ⟨hl, h⟩ := h
  cases hk : f.kind with
  | read => rw [hk] at h; exact body_read hk hG hN hl h
  | take => rw [hk] at h; exact body_take hk hG hN hl h
  | wrt => rw [hk] at h; exact body_wrt hk hG hN hl h
  | give => rw [hk] at h; exact body_give hk hG hN hl h
  | wrtB => rw [hk] at h; exact body_wrtB hk hG hN hl h
/-- THE RULE for the defs together, each by those ahead of it -/
theorem ent_ok (hb : base.NoSeer) (ht : P.given.tree = none) (hT : ∀ (j : Nat) (e : Ent), T[j]? = some e → EntOk T bs gs j e) (hG : ∀ (j : Nat) (e : Ent), T[j]? = some e → GoodE Γ e)
    (hF : ∀ (j : Nat) (e : Ent), T[j]? = some e → ∃ fd, FunD K e.d.name e.d.qual e.d.params e.d.body e.d.scope [] [] (He.fAd K e.d.at_) fd)
    (hg : ∀ (j : Nat) (e : Ent), T[j]? = some e → mg e.x = some (.ref (He.fAd K e.d.at_))) (hbs : ∀ x ∈ bs, mg x = none) (hgs : ∀ p ∈ gs, ∃ u v, mg p.1 = some u ∧ RelV v u ∧ ∀ H av, Rep K H av p.2 v) :
    ∀ (j : Nat) (e : Ent), T[j]? = some e → ∃ fd, FunD K e.d.name e.d.qual e.d.params e.d.body e.d.scope [] [] (He.fAd K e.d.at_) fd ∧ Binds K fd e.ps [] ∧ FnOk P w K mg base CX0 (41 + j) (He.fAd K e.d.at_) fd e.ps (spOf K e.ps.length (Γ e.id)) := by
  intro j
  induction j using Nat.strongRecOn with
  | ind j ih =>
    intro e he
    obtain ⟨fd, F⟩ := hF j e he
    have O := hT j e he
    have bnd : Binds K fd e.ps [] := F.bindsN O.bnd
    refine ⟨fd, F, bnd, ?_⟩
    have g := hG j e he
    unfold GoodE at g
    cases hst : e.stub with
    | true =>
      rw [hst] at g
      exact ⟨fun vs H Q E h => h.1, fun A outer s H args us vs Q E _ _ _ _ h => absurd h (spOf_none g)⟩
    | false =>
    rw [hst] at g
    have hr0 : ∀ {A : Around}, Room (40 + j) A → Room 40 A := fun h => h.mono (by omega)
    refine cast (by rw [show 41 + j = (40 + j) + 1 by omega]) (F.ok (P := P) (w := w) (mg := mg) (base := base) (CX := CX0) (N := e.N) (ps := e.ps) (k := 40 + j) (sp := spOf K e.ps.length (Γ e.id)) O.sc (fun vs H Q E h => h.1) fun cdv A outer s H vs Q E hr hsp => ?_)
    have hN : e.ps.length ≤ e.N.length := by
      have := congrArg List.length O.sc.pre
      rw [List.length_take] at this
      omega
    obtain ⟨Fr, hK, hw⟩ := body_all g hN hsp
    let X : Cx := (cxOf CX0 P w K mg base e.N e.d.qual e.d.scope (He.fAd K e.d.at_) cdv A outer s H E).nox
    have hO : Ok X Fr := ⟨hK.symm, rfl, O.sc.nd, hr0 hr, hb, ht, ⟨_, outer, rfl, O.sc.gen, O.sc.co, rfl, rfl⟩, fun env => PassesOwn.never⟩
    have hX : Xc Γ X (ccOf T bs gs j e) := by
      refine ⟨rfl, rfl, fun _ _ => rfl, fun f x n h => ?_, hbs, hgs⟩
      obtain ⟨i, e', hf, he', rfl, rfl, rfl⟩ := tabF_at h
      obtain ⟨fd', F', b', G'⟩ := ih i hf e' he'
      exact ⟨41 + i, _, fd', e'.ps, rfl, G', hr.mono (by omega), hg i e' he', F'.kp, b'⟩
    exact ⟨_, PSs.nox (chkSs_ok e.body (O.chk hst) hX hO), hw⟩
end
end VL

/-! VL19: tables, the module's data, the end of a law. -/
namespace VL
open PySem PySem.Spec L2
open PyProof.Rows (IntsAre AllBare importsNone)
/-! ### along a table -/
def Along (P : Nat → Ent → Prop) : Nat → List Ent → Prop
  | _, [] => True
  | i, e :: r => P i e ∧ Along P (i + 1) r
theorem Along.get {P : Nat → Ent → Prop} : ∀ {l : List Ent} {i j : Nat} {e : Ent}, Along P i l → l[j]? = some e → P (i + j) e
  | [], i, j, e, h, q => by cases j <;> cases q
  | a :: r, i, 0, e, h, q => by cases q; exact h.1
  | a :: r, i, j + 1, e, h, q => by
    have := Along.get h.2 (show r[j]? = some e from q)
    rw [show i + (j + 1) = i + 1 + j by omega]
    exact this
theorem Along.at {P : Nat → Ent → Prop} {l : List Ent} (h : Along P 0 l) (j : Nat) (e : Ent) (q : l[j]? = some e) : P j e := by
  have := h.get q
  rwa [Nat.zero_add] at this
def scB (N ps : List Str) (sc : Scope) : Bool := (sc.kind == .function) && !sc.isCoroutine && !sc.isGenerator && decide N.Nodup && decide (N.take ps.length = ps) && ps.all (fun x => sc.names.lookup x == some .local || sc.names.lookup x == some .cell) && sc.names.all fun y => !(y.2 == .free)
theorem kindEq {a b : NameKind} (h : (a == b) = true) : a = b := by
  cases a <;> cases b <;> first | rfl | cases h
theorem scB_ok {N ps : List Str} {sc : Scope} (h : scB N ps sc = true) : FnScope N ps sc := by
  unfold scB at h
  simp only [Bool.and_eq_true, Bool.not_eq_true', decide_eq_true_eq, List.all_eq_true, Bool.or_eq_true] at h
  obtain ⟨⟨⟨⟨⟨⟨h1, h2⟩, h3⟩, h4⟩, h5⟩, h6⟩, h7⟩ := h
  refine ⟨?_, h2, h3, h4, h5, fun x hx => ?_, fun y hy e => ?_⟩
  · revert h1
    cases sc.kind <;> intro z <;> first | rfl | cases z
  · exact (h6 x hx).imp (fun z => eq_of_beq z) fun z => eq_of_beq z
  · have := h7 y hy
    rw [e] at this
    cases this
def entB (T : List Ent) (bs : List Str) (gs : List (Str × D)) : Nat → List Ent → Bool
  | _, [] => true
  | j, e :: r => scB e.N e.ps e.d.scope && (e.stub || chkSs (ccOf T bs gs j e) e.body e.d.body) && entB T bs gs (j + 1) r
def Bnd (e : Ent) : Prop := ∀ (kV doc pm : Value) (an : Option Addr) (cdv ct : Value) (us : List Value), us.length = e.ps.length → bindArgs (PySem.W.fnOf e.d.name e.d.qual e.d.params e.d.body e.d.scope .none kV doc pm an cdv ct) ⟨us, []⟩ = pure (e.ps.zip us)
theorem entB_ok {T : List Ent} {bs : List Str} {gs : List (Str × D)} : ∀ {l : List Ent} {i : Nat}, entB T bs gs i l = true → Along (fun _ e => Bnd e) i l → Along (EntOk T bs gs) i l
  | [], _, _, _ => trivial
  | e :: r, i, h, b => by
    unfold entB at h
    simp only [Bool.and_eq_true] at h
    exact ⟨⟨scB_ok h.1.1, b.1, fun z => by have := h.1.2; rw [z, Bool.false_or] at this; exact this⟩, entB_ok h.2 b.2⟩
/-! ### the module's data -/
mutual
def repV (K : PySem.W.Frag) : D → Value → Bool
  | .non, .none => true
  | .bl b, .bool c => b == c
  | .int i, .int j _ => decide (i = j)
  | .str x, .str y _ => decide (x = y)
  | .tup ds, .ref a => (match K.lookup a with
    | some ⟨.type c, _, .seq its _, _⟩ => decide (c = "tuple") && (decide (its.size ≤ sizeLine) && repVs K ds its.toList)
    | _ => false)
  | _, _ => false
def repVs (K : PySem.W.Frag) : List D → List Value → Bool
  | [], [] => true
  | d :: ds, u :: us => repV K d u && repVs K ds us
  | _, _ => false
end
mutual
theorem repV_ok {K : PySem.W.Frag} : ∀ {d : D} {u : Value}, repV K d u = true → ∃ v, RelV v u ∧ ∀ H av, Rep K H av d v
  | .non, u, h => by
    cases u <;> first | (unfold repV at h; cases h; done) | exact ⟨.non, rfl, fun H av => rep_non⟩
  | .bl b, u, h => by
    cases u <;> first | (unfold repV at h; cases h; done) | skip
    unfold repV at h
    rw [eq_of_beq h]
    exact ⟨.bl _, rfl, fun H av => rep_bl _⟩
  | .int b, u, h => by
    cases u <;> first | (unfold repV at h; cases h; done) | skip
    unfold repV at h
    rw [of_decide_eq_true h]
    exact ⟨.int _, ⟨_, rfl⟩, fun H av => rep_int _⟩
  | .str b, u, h => by
    cases u <;> first | (unfold repV at h; cases h; done) | skip
    unfold repV at h
    rw [of_decide_eq_true h]
    exact ⟨.str _, ⟨_, rfl⟩, fun H av => rep_str _⟩
  | .tup ds, u, h => by
    cases u <;> first | (unfold repV at h; cases h; done) | skip
    rename_i a
    unfold repV at h
    split at h
    · rename_i c od its n osl q
      simp only [Bool.and_eq_true, decide_eq_true_eq] at h
      obtain ⟨h1, h2, h3⟩ := h
      obtain ⟨vs, r1, r2⟩ := repVs_ok h3
      refine ⟨.ref a, rfl, fun H av => rep_tup (.inr ⟨_, its, n, q, congrArg Value.type h1, rfl, h2, r1⟩) (r2 H av)⟩
    · cases h
  | .lst ds, u, h => by cases u <;> (unfold repV at h; cases h)
  | .fix ds, u, h => by cases u <;> (unfold repV at h; cases h)
theorem repVs_ok {K : PySem.W.Frag} : ∀ {ds : List D} {us : List Value}, repVs K ds us = true → ∃ vs, Vals vs us ∧ ∀ H av, Reps K H av ds vs
  | [], us, h => by
    cases us with
    | nil => exact ⟨[], .nil, fun H av => by unfold Reps; rfl⟩
    | cons u us => unfold repVs at h; cases h
  | d :: ds, us, h => by
    cases us with
    | nil => unfold repVs at h; cases h
    | cons u us =>
      unfold repVs at h
      rw [Bool.and_eq_true] at h
      obtain ⟨v, r1, r2⟩ := repV_ok h.1
      obtain ⟨vs, q1, q2⟩ := repVs_ok h.2
      exact ⟨v :: vs, .cons r1 q1, fun H av => by unfold Reps; exact ⟨v, vs, rfl, r2 H av, q2 H av⟩⟩
end
def cstB (K : PySem.W.Frag) (p : Str × D) : Bool := match PySem.W.nsIn K mainGlobals p.1 with
  | some (some u) => repV K p.2 u
  | _ => false
theorem cstB_ok {K : PySem.W.Frag} {h : Heap} {mg : Str → Option Value} (X : K.In h) (G : h.Ns mainGlobals mg) {p : Str × D} (c : cstB K p = true) : ∃ u v, mg p.1 = some u ∧ RelV v u ∧ ∀ H av, Rep K H av p.2 v := by
  unfold cstB at c
  cases e : PySem.W.nsIn K mainGlobals p.1 with
  | none => rw [e] at c; cases c
  | some o =>
    rw [e] at c
    cases o with
    | none => cases c
    | some u =>
      obtain ⟨v, r1, r2⟩ := repV_ok c
      exact ⟨u, v, PySem.W.mg_of X G e, r1, r2⟩
/-! ### the head's facts: the defs, the builtins that stand, the data -/
def faOf (T : List Ent) (bs : List Str) : List He.Fa := T.map (fun e => .glo e.x) ++ bs.map .free
abbrev AlV : Type := He.AlD × Bool
def obsV (n : Nat) (T : List Ent) (bs : List Str) (gs : List (Str × D)) (g : Addr → Option Obj) : AlV := (He.obsD (faOf T bs) (T.map (·.d)) (He.frG g (He.asD g n)), gs.all (cstB (He.frG g (He.asD g n))))
def SaysV (T : List Ent) (bs : List Str) (gs : List (Str × D)) (K : PySem.W.Frag) : Prop := He.SaysD (faOf T bs) (T.map (·.d)) K ∧ gs.all (cstB K) = true
def hookV (n : Nat) (T : List Ent) (bs : List Str) (gs : List (Str × D)) : PySem.W.Hook where
  α := AlV
  obs := fun s => obsV n T bs gs s.heap.get?
  val := fun _ => (He.valD (T.map (·.d)), true)
  says := fun _ h => ∃ K : PySem.W.Frag, K.In h ∧ SaysV T bs gs K
  of := fun _ s e => by
    have e1 : (obsV n T bs gs s.heap.get?).1 = He.valD (T.map (·.d)) := congrArg (fun z : AlV => z.1) e
    have e2 : (obsV n T bs gs s.heap.get?).2 = true := congrArg (fun z : AlV => z.2) e
    exact ⟨He.frG s.heap.get? (He.asD s.heap.get? n), He.frG_in, e1, e2⟩
  keeps := fun _ _ _ ⟨K, hK, c⟩ k => ⟨K, PySem.W.Frag.In.keeps hK k, c⟩
theorem obsV_eq {n : Nat} {T : List Ent} {bs : List Str} {gs : List (Str × D)} {g : Addr → Option Obj} {s : Shared} (h : ∀ a, g a = s.heap.get? a) : obsV n T bs gs g = (hookV n T bs gs).obs s := by
  have e : g = s.heap.get? := funext h
  rw [e]
  rfl
/-- each def asks for no default and stands at a name of the module -/
def PlainE (T : List Ent) : Prop := ∀ e ∈ T, e.d.dfl = [] ∧ e.d.kwd = [] ∧ e.d.at_.2 = none
section
variable {P : Program} {w : World} {K : PySem.W.Frag} {mg : Str → Option Value} {h base : Heap} {T : List Ent} {Γ : Nat → VF} {bs : List Str} {gs : List (Str × D)}
theorem says_fn (X : K.In h) (G : h.Ns mainGlobals mg) (hp : PlainE T) (c : SaysV T bs gs K) (j : Nat) (e : Ent) (he : T[j]? = some e) :
    (∃ fd, FunD K e.d.name e.d.qual e.d.params e.d.body e.d.scope [] [] (He.fAd K e.d.at_) fd) ∧ mg e.x = some (.ref (He.fAd K e.d.at_)) := by
  obtain ⟨p1, p2, p3⟩ := hp e (List.mem_of_getElem? he)
  have g := c.1.fact j (f := .glo e.x) (by
    unfold faOf
    rw [List.getElem?_append_left (by rw [List.length_map]; exact (List.getElem?_eq_some_iff.mp he).1), List.getElem?_map, he]
    rfl)
  have g2 := He.glo_ok X G g
  obtain ⟨fd, F⟩ := c.1.def_ j (d := e.d) (by rw [List.getElem?_map, he]; rfl)
  have e1 : e.d.dvs K = [] := by unfold He.DefD.dvs; rw [p1]; rfl
  have e2 : e.d.kws K = [] := by unfold He.DefD.kws; rw [p2]; rfl
  rw [e1, e2] at F
  refine ⟨⟨fd, F⟩, g2.trans ?_⟩
  unfold He.fAd
  rw [p3]
  rfl
theorem says_free (X : K.In h) (G : h.Ns mainGlobals mg) (c : SaysV T bs gs K) (x : Str) (hx : x ∈ bs) : mg x = none := by
  obtain ⟨i, hi⟩ := List.getElem?_of_mem hx
  refine He.free_ok X G (c.1.fact (T.length + i) (f := .free x) ?_)
  unfold faOf
  rw [List.getElem?_append_right (by rw [List.length_map]; omega), List.length_map, Nat.add_sub_cancel_left, List.getElem?_map, hi]
  rfl
theorem says_gs (X : K.In h) (G : h.Ns mainGlobals mg) (c : SaysV T bs gs K) (p : Str × D) (hx : p ∈ gs) : ∃ u v, mg p.1 = some u ∧ RelV v u ∧ ∀ H av, Rep K H av p.2 v :=
  cstB_ok X G (List.all_eq_true.mp c.2 p hx)
end
/-! ### the end -/
theorem seer_hid {s : Shared} {H : Hp} {a : Addr} {vs : List Value} (hN : s.heap.NoSeer) (ha : s.heap.get? a = some { cls := .type "list", data := .seq vs.toArray }) (hA : ∀ b, H b ≠ none → b = a) : (hidT s.heap H).NoSeer := by
  have keep : ∀ {b : Addr} {o : Obj}, s.heap.get? b = some o → b ≠ a → (hidT s.heap H).get? b = some o := fun {b o} e n => hidT_get e (by
    cases q : H b with
    | none => rfl
    | some u => exact absurd (hA b (by rw [q]; exact fun z => nomatch z)) n)
  have ns : ∀ {b : Addr} {m : Str → Option Value}, s.heap.Ns b m → (hidT s.heap H).Ns b m := fun {b m} ⟨o, es, ep, e, d, r⟩ => ⟨o, es, ep, keep e (fun z => by
    subst z
    rw [ha] at e
    cases e
    have d2 : Data.seq vs.toArray _ = Data.dict es ep := d
    cases d2), d, r⟩
  obtain ⟨⟨mc, q1, q2⟩, ⟨mm, q3, q4⟩, ⟨mb, q5, q6⟩, ⟨mg, bm, ob, q7, q8, q9, q10, q11⟩⟩ := hN
  refine ⟨⟨mc, ns q1, q2⟩, ⟨mm, ns q3, q4⟩, ⟨mb, ns q5, q6⟩, ⟨mg, bm, ob, ns q7, q8, keep q9 fun z => ?_, q10, q11⟩⟩
  subst z
  rw [ha] at q9
  cases q9
  have d2 : (none : Option Addr) = some builtinsNs := q11
  cases d2
/-- the law called: as the head of the kit, with what a division of great numbers asks -/
theorem end_call {P : Program} {w : World} {K : PySem.W.Frag} {mg mb : Str → Option Value} {k : Nat} {fa a : Addr} {fd : FuncData} {x : Str} {sp : Sp} {t : Shared} {us : List Value} {ns : List Int}
    (inK : K.In t.heap) (gNs : t.heap.Ns mainGlobals mg) (bNs : t.heap.Ns builtinsNs mb) (bAll : ∀ y : Str, y ≠ "__name__" → mb y = bootBuiltins y) (noLim : t.heap.NoLimit) (seer : t.heap.NoSeer) (noGen : t.gens = #[])
    (hob : t.heap.get? a = some { cls := .type "list", data := .seq us.toArray }) (hin : IntsAre us ns) (hle : ns.length ≤ sizeLine) (room : Room k callerA)
    (prom : ∀ base : Heap, K.In base → base.Ns mainGlobals mg → base.NoSeer → FnOk P w K mg base CX0 k fa fd [x] sp) (bind1 : ∀ (s : Shared) (u : Value), BindsTo s fd ⟨[u], []⟩ [(x, u)])
    (wish : ∀ H : Hp, FixAt K H a (ns.map V.int) → sp [.ref a] H (fun v _ => v = .bl true) fun _ _ _ => False) :
    codeAny (model P w) callerA (.call (.ref fa) ⟨[.ref a], []⟩) (fun r s' => r = .ok (.ret (.bool true)) ∧ OldK t.heap s'.heap ∧ s'.os = t.os ∧ AllBare s'.gens) t := by
  have valsI := vals_ints hin
  have many := hin.length
  have main : ∀ H : Hp, Only H → FixAt K H a (ns.map V.int) → HOk P w H t.heap → (∀ b, H b ≠ none → b = a) → (H a ≠ none → K.lookup a = none) →
      codeAny (model P w) callerA (.call (.ref fa) ⟨[.ref a], []⟩) (fun r s' => r = .ok (.ret (.bool true)) ∧ OldK t.heap s'.heap ∧ s'.os = t.os ∧ AllBare s'.gens) t := by
    intro H only sq okH one offK
    have stay : ∀ {b : Addr} {o : Obj}, t.heap.get? b = some o → b ≠ a → (hidT t.heap H).get? b = some o := fun {b o} e n => hidT_get e (by
      cases q : H b with
      | none => rfl
      | some u => exact absurd (one b (by rw [q]; exact fun z => nomatch z)) n)
    have isDict : ∀ {b : Addr} {m : Str → Option Value}, t.heap.Ns b m → (hidT t.heap H).Ns b m := fun {b m} ⟨o, es, ep, e, d, r⟩ => ⟨o, es, ep, stay e (fun z => by
      subst z
      rw [hob] at e
      cases e
      have d2 : Data.seq us.toArray _ = Data.dict es ep := d
      cases d2), d, r⟩
    have kIn : K.In (hidT t.heap H) := fun b o e => by
      cases q : H b with
      | none => exact hidT_get (inK b o e) q
      | some u =>
        have z := one b (by rw [q]; exact fun z => nomatch z)
        subst z
        have z2 := offK (by rw [q]; exact fun z => nomatch z)
        rw [z2] at e
        cases e
    have modK : Mod K mg (hidT t.heap H) := ⟨kIn, isDict gNs, ⟨mb, isDict bNs, bAll⟩, let ⟨mc, z1, z2⟩ := noLim; ⟨mc, isDict z1, z2⟩⟩
    have env0 : Env0 P w K mg (hidT t.heap H) callerA [] t H := ⟨rfl, modK, fun b o e => of_hidT e, Nat.le_of_eq (hidT_size _ _), trivial, fun b hb => absurd (show b ∈ ([] : List Addr) from hb) (by simp), okH, .of_eq noGen⟩
    have run := (prom _ kIn (isDict gNs) (seer_hid seer hob one)).run callerA [] t H ⟨[.ref a], []⟩ [.ref a] [.ref a] _ _ room env0 (bind1 t (.ref a)) (.cons rfl .nil) (wish H sq)
    refine codeAny_mono run fun r s' z => ?_
    cases r with
    | error e => exact False.elim z
    | ok fl =>
      cases fl with
      | ret u =>
        obtain ⟨v, H', os, bare, un, okH', rel, e⟩ := z
        have e : v = .bl true := e
        subst e
        obtain rfl : u = Value.bool true := rel
        refine ⟨rfl, OldK.of_keep fun b o eb => ?_, os, bare⟩
        cases q : H b with
        | none => exact un.keep b o eb q (by intro z; exact absurd (show b ∈ ([] : List Addr) from z) (by simp)) (by simp)
        | some hv =>
          rcases only b with z | ⟨ob, xs, z⟩
          · rw [q] at z; cases z
          · obtain ⟨e1, _⟩ := okH b _ z
            obtain ⟨e2, _⟩ := okH' b _ (un.frzs b ob _ z)
            rw [eb] at e1; cases e1
            exact e2
      | next => exact False.elim z
      | brk => exact False.elim z
      | cont => exact False.elim z
  cases q : K.lookup a with
  | some o =>
    have e := inK a o q
    rw [hob] at e
    cases e
    exact main (fun _ => none) (fun _ => .inl rfl) (.inr ⟨_, us.toArray, _, q, rfl, rfl, rfl, by rw [List.size_toArray, many]; exact hle, by simpa using valsI⟩) (fun b u z => by cases (show (none : Option HO) = some u from z)) (fun b z => absurd rfl z) fun z => absurd rfl z
  | none =>
    have at1 : ∀ {b : Addr} {u : HO}, (if b = a then some (HO.frz { cls := .type "list", data := .seq us.toArray } (.lst (ns.map V.int))) else none) = some u → b = a ∧ u = .frz { cls := .type "list", data := .seq us.toArray } (.lst (ns.map V.int)) := fun {b u} z => by
      by_cases e : b = a
      · rw [if_pos e] at z; cases z; exact ⟨e, rfl⟩
      · rw [if_neg e] at z; cases z
    refine main (fun b => if b = a then some (.frz { cls := .type "list", data := .seq us.toArray } (.lst (ns.map V.int))) else none) (fun b => ?_) (.inl ⟨{ cls := .type "list", data := .seq us.toArray }, if_pos rfl⟩) (fun b u z => ?_) (fun b z => ?_) fun _ => q
    · by_cases e : b = a
      · exact .inr ⟨_, _, if_pos e⟩
      · exact .inl (if_neg e)
    · obtain ⟨rfl, rfl⟩ := at1 z
      exact ⟨hob, by rw [List.length_map]; exact hle, us, _, valsI, hob⟩
    · by_cases e : b = a
      · exact e
      · exact absurd (if_neg e) z
/-- what a law's own number promises -/
def lawVF (n : Nat) : VF := ⟨.read, fun ds q => ∃ ns : List Int, ds = [.fix (ns.map D.int)] ∧ ns.length ≤ n ∧ (∀ z ∈ ns, Builtin.Int.intBits z ≤ 1048576) ∧ q (.val (.bl true)) none⟩
theorem reps_ints {K : PySem.W.Frag} {H : Hp} {av : Addr → Prop} : ∀ ns : List Int, Reps K H av (ns.map D.int) (ns.map V.int)
  | [] => by unfold Reps; rfl
  | n :: r => by
    show Reps K H av (D.int n :: r.map D.int) (V.int n :: r.map V.int)
    unfold Reps
    exact ⟨_, _, rfl, rep_int n, reps_ints r⟩
theorem law_end {l : PySem.W.OpenLaw} {n L : Nat} {q : Program} {loose : List Str} {XP : (Str → Option Value) → Heap → Prop} {d : DefRec} {T : List Ent} {Γ : Nat → VF} {bs : List Str} {gs : List (Str × D)} {hops : Nat} {e : Ent} {x : Str}
    (hn : l.most = some n) (hn2 : n ≤ sizeLine) (hdf : d.params.defaults = []) (hr : Room (41 + L) callerA) (ht : l.prog.given.tree = none) (hi : importsNone q = true) (hp : PlainE T) (hT : Along (EntOk T bs gs) 0 T)
    (hG : ∀ (j : Nat) (e : Ent), T[j]? = some e → GoodE Γ e) (hL : T[L]? = some e) (hx : e.x = d.name) (hps : e.ps = [x]) (hΓ : Γ e.id = lawVF n) :
    PySem.W.WalkO q loose XP (hookV hops T bs gs).says l.row.toRowW d [] (fun f vs => PySem.call f vs) := by
  refine Att.attach_callB hn hdf fun w s₀ s₁ mg mb fa o pm cd doc a vs ns G Y ho hd hcd hmg hobj hints hlen hbits hg => ?_
  obtain ⟨K, KX, c⟩ := Y
  obtain ⟨⟨fd, F⟩, g⟩ := says_fn KX G.T.g hp c L e hL
  have hfa : fa = He.fAd K e.d.at_ := by
    rw [hx, hmg] at g
    cases g
    rfl
  subst hfa
  have ok : ∀ base : Heap, base.NoSeer → ∃ fd, FunD K e.d.name e.d.qual e.d.params e.d.body e.d.scope [] [] (He.fAd K e.d.at_) fd ∧ Binds K fd e.ps [] ∧ FnOk l.prog w K mg base CX0 (41 + L) (He.fAd K e.d.at_) fd e.ps (spOf K e.ps.length (Γ e.id)) := fun base hb =>
    ent_ok hb ht (fun j e he => hT.at j e he) hG (fun j e he => (says_fn KX G.T.g hp c j e he).1) (fun j e he => (says_fn KX G.T.g hp c j e he).2) (fun x hx => says_free KX G.T.g c x hx) (fun p hp => says_gs KX G.T.g c p hp) L e hL
  have one : ∀ {fd' : FuncData}, FunD K e.d.name e.d.qual e.d.params e.d.body e.d.scope [] [] (He.fAd K e.d.at_) fd' → fd' = fd := fun {fd'} F' => by
    obtain ⟨oc, od, dV, kV, dc, pm, an, cdv, ct, osl, z1, z2, _⟩ := F.ex
    obtain ⟨oc', od', dV', kV', dc', pm', an', cdv', ct', osl', z1', z2', _⟩ := F'.ex
    rw [z2] at z2'
    cases z2'
    rfl
  refine end_call (x := x) (k := 41 + L) (fd := fd) (sp := spOf K e.ps.length (Γ e.id)) KX G.T.g G.T.b G.T.builtins G.T.nolimit (G.T.seer hi) hg hobj hints (Nat.le_trans hlen hn2) hr (fun base _ _ hb => ?_) (fun s u => ?_) fun H hS => ?_
  · obtain ⟨fd', F', _, z⟩ := ok base hb
    cases one F'
    rw [← hps]
    exact z
  · have := F.bindsA (hT.at L e hL).bnd s [u] (by rw [hps]; rfl)
    rw [hps] at this
    exact this
  · rw [hΓ, hps]
    refine ⟨rfl, [.fix (ns.map D.int)], (fun _ => False), fun r o => r = .val (.bl true), fun b z => z.elim, ?_, ⟨ns, rfl, hlen, hbits, rfl⟩, fun r v H' o _ hq hr => ?_⟩
    · unfold Reps
      exact ⟨.ref a, [], rfl, by unfold Rep; exact ⟨a, _, rfl, hS, reps_ints ns⟩, by unfold Reps; rfl⟩
    · subst hr
      have z2 : Rep K H' (fun _ => False) (.bl true) v := hq
      unfold Rep at z2
      exact z2
end VL

/-! VL20: words for texts as terms. -/
namespace VL
def ss : List S → Ss
  | [] => .nil
  | s :: r => .cons s (ss r)
end VL

/-! VL21: whole numbers, fractions as data. -/
namespace VL
open PySem PySem.Spec L2
theorem mul_ok {i j : Int} {a b : Nat} (ha : i.natAbs < 2 ^ a) (hb : j.natAbs < 2 ^ b) (h : a + b ≤ 134217728) : MulOk i j := by
  have x := PyProof.Rows.intBits_le ha
  have y := PyProof.Rows.intBits_le hb
  have z : Builtin.Int.intTooBig ((Builtin.Int.intBits i : Nat) + (Builtin.Int.intBits j : Nat) : Int) = false := by
    unfold Builtin.Int.intTooBig
    refine decide_eq_false ?_
    have e : ((bitsLine : Nat) : Int) = 134217728 := by decide
    rw [e]
    omega
  show ¬ (_ = true)
  rw [z]
  simp
theorem fmod_lt (x y : Int) (h : y ≠ 0) : (x.fmod y).natAbs < y.natAbs := by
  rcases Int.lt_or_gt_of_ne h with h1 | h1
  · have a := Int.fmod_nonneg_of_pos (-x) (b := -y) (by omega)
    have b := Int.fmod_lt_of_pos (-x) (b := -y) (by omega)
    rw [Int.neg_fmod_neg] at a b
    omega
  · have a := Int.fmod_nonneg_of_pos x h1
    have b := Int.fmod_lt_of_pos x h1
    omega
theorem gcd_step (x y : Int) : Int.gcd y (x.fmod y) = Int.gcd x y := by
  rw [Int.fmod_def, Int.gcd_sub_mul_left_right, Int.gcd_comm]
/-- a fraction as the program has it -/
def dR (r : Rat) : D := .tup [.int r.num, .int r.den]
theorem divInt_num {a b : Int} (h : b ≠ 0) : (Rat.divInt a b).num = a.fdiv (if b < 0 then -(Int.gcd a b : Int) else Int.gcd a b) := by
  have hg : ((Int.gcd a b : Nat) : Int) ∣ a := Int.gcd_dvd_left ..
  have hp : 0 < (Int.gcd a b : Int) := by
    have : Int.gcd a b ≠ 0 := fun z => h (Int.gcd_eq_zero_iff.mp z).2
    omega
  rw [Rat.num_divInt, Int.gcd_comm b a]
  split
  · rename_i hb
    rw [Int.sign_eq_neg_one_of_neg hb, Int.fdiv_eq_ediv_of_dvd (Int.neg_dvd.mpr hg), Int.ediv_neg]
    rw [Int.neg_mul, Int.one_mul, Int.neg_ediv_of_dvd hg]
  · rename_i hb
    rw [Int.sign_eq_one_of_pos (by omega), Int.one_mul, Int.fdiv_eq_ediv_of_dvd hg]
theorem divInt_den {a b : Int} (h : b ≠ 0) : ((Rat.divInt a b).den : Int) = b.fdiv (if b < 0 then -(Int.gcd a b : Int) else Int.gcd a b) := by
  have hg : ((Int.gcd a b : Nat) : Int) ∣ b := Int.gcd_dvd_right ..
  rw [Rat.den_divInt, if_neg h, Int.gcd_comm b a]
  split
  · rename_i hb
    rw [Int.fdiv_eq_ediv_of_dvd (Int.neg_dvd.mpr hg), Int.ediv_neg, Int.natCast_ediv]
    rw [show ((b.natAbs : Nat) : Int) = -b by omega, Int.neg_ediv_of_dvd hg]
  · rename_i hb
    rw [Int.fdiv_eq_ediv_of_dvd hg, Int.natCast_ediv]
    rw [show ((b.natAbs : Nat) : Int) = b by omega]
/-- a fraction of few bits -/
def RB' (n : Nat) (r : Rat) : Prop := r.num.natAbs < 2 ^ n ∧ r.den < 2 ^ n
theorem add_divInt (p r : Rat) : Rat.divInt (p.num * r.den + r.num * p.den) (p.den * r.den) = p + r := by
  rw [Rat.add_def', ← Rat.divInt_ofNat]
  congr 1
theorem sub_divInt (p r : Rat) : Rat.divInt (p.num * r.den - r.num * p.den) (p.den * r.den) = p - r := by
  rw [Rat.sub_def', ← Rat.divInt_ofNat]
  congr 1
theorem mul_divInt (p r : Rat) : Rat.divInt (p.num * r.num) (p.den * r.den) = p * r := by
  rw [Rat.mul_def', ← Rat.divInt_ofNat]
  congr 1
theorem div_divInt (p r : Rat) : Rat.divInt (p.num * r.den) (p.den * r.num) = p / r := by
  rw [Rat.div_def, Rat.inv_def]
  conv => rhs; rw [← Rat.num_divInt_den p, Rat.divInt_mul_divInt]
theorem den_ne (r : Rat) : (r.den : Int) ≠ 0 := by have := r.den_nz; omega
theorem den_p (r : Rat) : (0 : Int) < r.den := by have := r.den_pos; omega
/-- two fractions are the same -/
theorem dR_eq {a b : Int} (r : Rat) (h : b ≠ 0) (q : r.num * b = a * r.den) : r = Rat.divInt a b := by
  rw [← Rat.num_divInt_den r, Rat.divInt_eq_divInt_iff (den_ne r) h]
  exact q
theorem of_divInt {a b : Int} (h : b ≠ 0) : (Rat.divInt a b).num * b = a * (Rat.divInt a b).den := by
  have := (Rat.divInt_eq_divInt_iff (n₁ := (Rat.divInt a b).num) (n₂ := a) (den_ne (Rat.divInt a b)) h).mp (Rat.num_divInt_den _)
  exact this
end VL
namespace VL
open PySem PySem.Spec L2
theorem mul_l {i j : Int} (h : i.natAbs < 2 ^ 64) : MulOk i j := IntMulOk.of_left (PyProof.Rows.intBits_le h)
theorem mul_r {i j : Int} (h : j.natAbs < 2 ^ 64) : MulOk i j := IntMulOk.of_right (PyProof.Rows.intBits_le h)
theorem rngs_at {n k : Nat} {d : D} (h : (rngs 0 n 1)[k]? = some d) : d = .int k ∧ k < n := by
  unfold rngs at h
  rw [List.getElem?_map] at h
  by_cases hk : k < n
  · rw [List.getElem?_range hk] at h
    cases h
    refine ⟨?_, hk⟩
    show D.int (0 + (k : Int) * 1) = D.int k
    rw [Int.mul_one, Int.zero_add]
  · rw [List.getElem?_eq_none (by simp; omega)] at h
    cases h
theorem rngs_length (lo : Int) (n : Nat) (c : Int) : (rngs lo n c).length = n := by unfold rngs; simp
theorem dec_t {p : Prop} [Decidable p] (h : decide p = true) : p := of_decide_eq_true h
theorem dec_f {p : Prop} [Decidable p] (h : decide p = false) : ¬ p := of_decide_eq_false h
theorem not_t {b : Bool} (h : (!b) = true) : b = false := by cases b <;> first | rfl | cases h
theorem not_f {b : Bool} (h : (!b) = false) : b = true := by cases b <;> first | rfl | cases h
/-- 1 * 2 * .. : sizes -/
theorem abs_mul {i j : Int} {a b : Nat} (ha : i.natAbs < 2 ^ a) (hb : j.natAbs < 2 ^ b) : (i * j).natAbs < 2 ^ (a + b) := by
  rw [Int.natAbs_mul, Nat.pow_add]
  exact Nat.mul_lt_mul'' ha hb
theorem abs_add {i j : Int} {a : Nat} (ha : i.natAbs < 2 ^ a) (hb : j.natAbs < 2 ^ a) : (i + j).natAbs < 2 ^ (a + 1) := by
  rw [Nat.pow_succ]
  omega
theorem abs_sub {i j : Int} {a : Nat} (ha : i.natAbs < 2 ^ a) (hb : j.natAbs < 2 ^ a) : (i - j).natAbs < 2 ^ (a + 1) := by
  rw [Nat.pow_succ]
  omega
theorem abs_le {i : Int} {a b : Nat} (ha : i.natAbs < 2 ^ a) (h : a ≤ b) : i.natAbs < 2 ^ b := Nat.lt_of_lt_of_le ha (Nat.pow_le_pow_right (by decide) h)
theorem abs_nat {i a : Nat} (h : i < 2 ^ a) : ((i : Nat) : Int).natAbs < 2 ^ a := by simpa using h
end VL

/-! M1: numbers: shared to power; the laws' own draws. -/
namespace M1
open PySem PySem.Spec L2 VL
abbrev f_shared : Nat := 0
abbrev f_ratio : Nat := 1
abbrev f_plus : Nat := 2
abbrev f_minus : Nat := 3
abbrev f_times : Nat := 4
abbrev f_over : Nat := 5
abbrev f_before : Nat := 6
abbrev f_floor_of : Nat := 7
abbrev f_whole_power : Nat := 8
abbrev f_power0 : Nat := 9
abbrev f_power1 : Nat := 10
abbrev f_power : Nat := 11
abbrev f_law_box : Nat := 12
abbrev f_law_take : Nat := 13
abbrev f_law_lowest : Nat := 14
abbrev f_law_number : Nat := 15
abbrev f_law_is_number : Nat := 16
/-- shared: 0 one, 1 other, 2 rest -/
def b_shared : Ss := ss [.whl (.cmp .ne (.var 1) (.int 0)) (ss [.asg 2 (.bin .mod (.var 0) (.var 1)),
  .asg 0 (.var 1),
  .asg 1 (.var 2)]),
  .ret (.blt .abs (.cons (.var 0) .nil))]
/-- ratio: 0 top, 1 bottom, 2 by -/
def b_ratio : Ss := ss [.asg 2 (.call f_shared (.cons (.var 0) (.cons (.var 1) .nil))),
  .ite (.cmp .lt (.var 1) (.int 0)) (ss [.asg 2 (.neg (.var 2))]) (ss []),
  .ret (.tup (.cons (.bin .fdiv (.var 0) (.var 2)) (.cons (.bin .fdiv (.var 1) (.var 2)) .nil)))]
/-- plus: 0 one, 1 other -/
def b_plus : Ss := ss [.ret (.call f_ratio (.cons (.bin .add (.bin .mul (.ix (.var 0) (.int 0)) (.ix (.var 1) (.int 1))) (.bin .mul (.ix (.var 1) (.int 0)) (.ix (.var 0) (.int 1)))) (.cons (.bin .mul (.ix (.var 0) (.int 1)) (.ix (.var 1) (.int 1))) .nil)))]
/-- minus: 0 one, 1 other -/
def b_minus : Ss := ss [.ret (.call f_ratio (.cons (.bin .sub (.bin .mul (.ix (.var 0) (.int 0)) (.ix (.var 1) (.int 1))) (.bin .mul (.ix (.var 1) (.int 0)) (.ix (.var 0) (.int 1)))) (.cons (.bin .mul (.ix (.var 0) (.int 1)) (.ix (.var 1) (.int 1))) .nil)))]
/-- times: 0 one, 1 other -/
def b_times : Ss := ss [.ret (.call f_ratio (.cons (.bin .mul (.ix (.var 0) (.int 0)) (.ix (.var 1) (.int 0))) (.cons (.bin .mul (.ix (.var 0) (.int 1)) (.ix (.var 1) (.int 1))) .nil)))]
/-- over: 0 one, 1 other -/
def b_over : Ss := ss [.ret (.call f_ratio (.cons (.bin .mul (.ix (.var 0) (.int 0)) (.ix (.var 1) (.int 1))) (.cons (.bin .mul (.ix (.var 0) (.int 1)) (.ix (.var 1) (.int 0))) .nil)))]
/-- before: 0 one, 1 other -/
def b_before : Ss := ss [.ret (.cmp .lt (.bin .mul (.ix (.var 0) (.int 0)) (.ix (.var 1) (.int 1))) (.bin .mul (.ix (.var 1) (.int 0)) (.ix (.var 0) (.int 1))))]
/-- floor_of: 0 one -/
def b_floor_of : Ss := ss [.ret (.bin .fdiv (.ix (.var 0) (.int 0)) (.ix (.var 0) (.int 1)))]
/-- law_box: 0 law_script, 1 law_k, 2 law_cell, 3 law_plain -/
def b_law_box : Ss := ss [.asg 2 (.int 0),
  .ite (.cmp .lt (.var 1) (.blt .len (.cons (.var 0) .nil))) (ss [.asg 2 (.ix (.var 0) (.var 1))]) (ss []),
  .asg 3 (.and (.cmp .gt (.blt .len (.cons (.var 0) .nil)) (.int 0)) (.cmp .eq (.bin .mod (.ix (.var 0) (.int 0)) (.int 2)) (.int 0))),
  .ret (.lst (.cons (.bin .mul (.blt .abs (.cons (.var 2) .nil)) (.blt .int (.cons (.var 3) .nil))) (.cons (.blt .abs (.cons (.var 2) .nil)) (.cons (.bin .mul (.int 7) (.var 1)) .nil))))]
/-- law_take: 0 law_box_here, 1 law_many, 2 law_digit, 3 law_m -/
def b_law_take : Ss := ss [.ite (.cmp .gt (.ix (.var 0) (.int 0)) (.int 0)) (ss [.asg 2 (.bin .mod (.ix (.var 0) (.int 0)) (.var 1)),
  .sub 0 (.int 0) (.bin .fdiv (.ix (.var 0) (.int 0)) (.var 1)),
  .ret (.var 2)]) (ss []),
  .sub 0 (.int 2) (.bin .add (.ix (.var 0) (.int 2)) (.int 1)),
  .asg 3 (.bin .add (.bin .mod (.ix (.var 0) (.int 1)) (.int 2305843009213693951)) (.int 3)),
  .asg 3 (.bin .mod (.bin .mul (.var 3) (.bin .add (.int 48271) (.bin .mul (.ix (.var 0) (.int 2)) (.ix (.var 0) (.int 2))))) (.int 2305843009213693921)),
  .asg 3 (.bin .mod (.bin .mul (.var 3) (.bin .add (.bin .add (.bin .mod (.var 3) (.int 1000003)) (.bin .mul (.ix (.var 0) (.int 2)) (.int 69621))) (.int 11))) (.int 2305843009213693907)),
  .ret (.bin .mod (.bin .add (.bin .fdiv (.bin .mul (.var 3) (.var 3)) (.int 97)) (.bin .fdiv (.var 3) (.int 31))) (.var 1))]
/-- law_lowest: 0 law_top, 1 law_bottom, 2 law_one, 3 law_other -/
def b_law_lowest : Ss := ss [.par [2, 3] (.cons (.blt .abs (.cons (.var 0) .nil)) (.cons (.var 1) .nil)),
  .whl (.cmp .gt (.var 3) (.int 0)) (ss [.par [2, 3] (.cons (.var 3) (.cons (.bin .mod (.var 2) (.var 3)) .nil))]),
  .ret (.tup (.cons (.bin .fdiv (.var 0) (.var 2)) (.cons (.bin .fdiv (.var 1) (.var 2)) .nil)))]
/-- law_number: 0 law_box_here, 1 law_kind -/
def b_law_number : Ss := ss [.asg 1 (.call f_law_take (.cons (.var 0) (.cons (.int 5) .nil))),
  .ite (.cmp .eq (.var 1) (.int 0)) (ss [.ret (.tup (.cons (.bin .sub (.call f_law_take (.cons (.var 0) (.cons (.int 19) .nil))) (.int 9)) (.cons (.int 1) .nil)))]) (ss []),
  .ite (.cmp .eq (.var 1) (.int 1)) (ss [.ret (.call f_law_lowest (.cons (.bin .sub (.call f_law_take (.cons (.var 0) (.cons (.int 19) .nil))) (.int 9)) (.cons (.bin .add (.int 1) (.call f_law_take (.cons (.var 0) (.cons (.int 6) .nil)))) .nil)))]) (ss []),
  .ite (.cmp .eq (.var 1) (.int 2)) (ss [.ret (.call f_law_lowest (.cons (.bin .sub (.call f_law_take (.cons (.var 0) (.cons (.int 1999999999999) .nil))) (.int 999999999999)) (.cons (.bin .add (.int 1) (.call f_law_take (.cons (.var 0) (.cons (.int 999999999999) .nil)))) .nil)))]) (ss []),
  .ret (.tup (.cons (.bin .sub (.call f_law_take (.cons (.var 0) (.cons (.int 3) .nil))) (.int 1)) (.cons (.int 1) .nil)))]
/-- law_is_number: 0 law_found, 1 law_part -/
def b_law_is_number : Ss := ss [.ite (.or (.not (.tru (.isi (.var 0) .tuple))) (.cmp .ne (.blt .len (.cons (.var 0) .nil)) (.int 2))) (ss [.ret (.bl false)]) (ss []),
  .for (.nm 1) (.seq (.var 0)) (ss [.ite (.or (.not (.tru (.isi (.var 1) .int))) (.tru (.isi (.var 1) .bool))) (ss [.ret (.bl false)]) (ss [])]),
  .ret (.and (.cmp .gt (.ix (.var 0) (.int 1)) (.int 0)) (.cmp .eq (.call f_law_lowest (.cons (.ix (.var 0) (.int 0)) (.cons (.ix (.var 0) (.int 1)) .nil))) (.var 0)))]
/-- whole_power: 0 one, 1 n, 2 made -/
def b_whole_power : Ss := ss [.asg 2 (.int 1),
  .whl (.cmp .gt (.var 1) (.int 0)) (ss [.ite (.cmp .eq (.bin .mod (.var 1) (.int 2)) (.int 1)) (ss [.asg 2 (.bin .mul (.var 2) (.var 0))]) (ss []),
  .asg 0 (.bin .mul (.var 0) (.var 0)),
  .asg 1 (.bin .fdiv (.var 1) (.int 2))]),
  .ret (.var 2)]
/-- power: 0 one, 1 n; f is itself -/
def b_powerF (f : Nat) : Ss := ss [.ite (.cmp .lt (.var 1) (.int 0)) (ss [.ret (.call f (.cons (.call f_ratio (.cons (.ix (.var 0) (.int 1)) (.cons (.ix (.var 0) (.int 0)) .nil))) (.cons (.neg (.var 1)) .nil)))]) (ss []),
  .ret (.tup (.cons (.call f_whole_power (.cons (.ix (.var 0) (.int 0)) (.cons (.var 1) .nil))) (.cons (.call f_whole_power (.cons (.ix (.var 0) (.int 1)) (.cons (.var 1) .nil))) .nil)))]
def b_power1 : Ss := b_powerF f_power0
def b_power : Ss := b_powerF f_power1
/-! ### promises -/
def vShared : VF := ⟨.read, fun ds q => ∃ a b : Int, ds = [.int a, .int b] ∧ q (.val (.int (Int.gcd a b))) none⟩
def vRatio : VF := ⟨.read, fun ds q => ∃ a b : Int, ds = [.int a, .int b] ∧ b ≠ 0 ∧ q (.val (dR (Rat.divInt a b))) none⟩
@[irreducible] def szN : Nat := 60000000
@[irreducible] def szM : Nat := 30000000
def Sz (r : Rat) : Prop := RB' szN r
def vOp (f : Rat → Rat → Rat) : VF := ⟨.read, fun ds q => ∃ a b : Rat, ds = [dR a, dR b] ∧ Sz a ∧ Sz b ∧ q (.val (dR (f a b))) none⟩
def vOver : VF := ⟨.read, fun ds q => ∃ a b : Rat, ds = [dR a, dR b] ∧ Sz a ∧ Sz b ∧ b.num ≠ 0 ∧ q (.val (dR (a / b))) none⟩
def vBefore : VF := ⟨.read, fun ds q => ∃ a b : Rat, ds = [dR a, dR b] ∧ Sz a ∧ Sz b ∧ q (.val (.bl (decide (a.num * b.den < b.num * a.den)))) none⟩
def vFloor : VF := ⟨.read, fun ds q => ∃ a : Rat, ds = [dR a] ∧ q (.val (.int (a.num.fdiv a.den))) none⟩
/-- a box of n draws at most -/
def Bx (n : Nat) (ds : List VL.D) : Prop := ∃ x y z : Int, ds = [.int x, .int y, .int z] ∧ 0 ≤ x ∧ 0 ≤ y ∧ 0 ≤ z ∧ z ≤ n
def vBox : VF := ⟨.read, fun ds q => ∃ (ns : List Int) (k : Nat), ds = [.fix (ns.map D.int), .int k] ∧ k ≤ 1000 ∧ ∀ b, Bx 7000 b → q (.fresh b) none⟩
def vTake : VF := ⟨.wrt, fun ds q => ∃ (n : Nat) (b : List VL.D) (m : Int), ds = [.lst b, .int m] ∧ Bx n b ∧ n ≤ 100000 ∧ 0 < m ∧ ∀ t b', 0 ≤ t → t < m → Bx (n + 1) b' → q (.val (.int t)) (some b')⟩
def vNumber : VF := ⟨.wrt, fun ds q => ∃ (n : Nat) (b : List VL.D), ds = [.lst b] ∧ Bx n b ∧ n ≤ 90000 ∧ ∀ r b', RB' 50 r → Bx (n + 3) b' → q (.val (dR r)) (some b')⟩
def vIsNumber : VF := ⟨.read, fun ds q => ∃ r : Rat, ds = [dR r] ∧ q (.val (.bl true)) none⟩
def vRatioP : VF := ⟨.read, fun ds q => ∃ a b : Int, ds = [.int a, .int b] ∧ 0 < b ∧ q (.val (dR (Rat.divInt a b))) none⟩
def vWhole : VF := ⟨.read, fun ds q => ∃ (a n : Int) (s : Nat), ds = [.int a, .int n] ∧ 0 ≤ n ∧ a.natAbs ≤ 2 ^ s ∧ s * n.toNat ≤ 60000000 ∧ q (.val (.int (a ^ n.toNat))) none⟩
def vPower1 : VF := ⟨.read, fun ds q => ∃ (a : Rat) (n : Int) (s : Nat), ds = [dR a, .int n] ∧ 0 ≤ n ∧ a.num.natAbs ≤ 2 ^ s ∧ a.den ≤ 2 ^ s ∧ s * n.toNat ≤ 60000000 ∧ q (.val (dR (a ^ n.toNat))) none⟩
def powZ (a : Rat) (n : Int) : Rat := if n < 0 then a⁻¹ ^ (-n).toNat else a ^ n.toNat
def vPower : VF := ⟨.read, fun ds q => ∃ (a : Rat) (n : Int) (s : Nat), ds = [dR a, .int n] ∧ (n < 0 → a.num ≠ 0) ∧ a.num.natAbs ≤ 2 ^ s ∧ a.den ≤ 2 ^ s ∧ s * n.natAbs ≤ 60000000 ∧ q (.val (dR (powZ a n))) none⟩
def vStub : VF := ⟨.read, fun _ _ => False⟩
def G1 (L : Nat → VF) : Nat → VF
  | 0 => vShared
  | 1 => vRatio
  | 2 => vOp (· + ·)
  | 3 => vOp (· - ·)
  | 4 => vOp (· * ·)
  | 5 => vOver
  | 6 => vBefore
  | 7 => vFloor
  | 8 => vWhole
  | 9 => vStub
  | 10 => vPower1
  | 11 => vPower
  | 12 => vBox
  | 13 => vTake
  | 14 => vRatioP
  | 15 => vNumber
  | 16 => vIsNumber
  | 17 => vStub
  | 18 => vStub
  | 19 => vStub
  | n + 20 => L n
variable {L : Nat → VF}
theorem good_shared : Good (G1 L) b_shared 2 1 vShared := by
  rintro ds q ⟨a, b, rfl, hq⟩ -
  refine ⟨fun m ρ => ∃ x y s, ρ = [.val (.int x), .val (.int y), s] ∧ y.natAbs = m ∧ Int.gcd x y = Int.gcd a b, ⟨_, a, b, _, rfl, rfl, rfl⟩, ?_⟩
  rintro m _ ⟨x, y, s, rfl, rfl, hg⟩
  refine ⟨fun h => ?_, fun h => ?_⟩
  · have h : y ≠ 0 := by simpa using h
    exact ⟨h, _, fmod_lt x y h, y, x.fmod y, _, rfl, rfl, (gcd_step x y).trans hg⟩
  · have h : y = 0 := by simpa using h
    subst h
    rw [Int.gcd_zero_right] at hg
    show q (.val (.int (x.natAbs : Int))) none
    rw [hg]; exact hq
theorem good_ratio : Good (G1 L) b_ratio 2 1 vRatio := by
  rintro ds q ⟨a, b, rfl, hb, hq⟩ -
  have hg : (Int.gcd a b : Int) ≠ 0 := fun z => hb (Int.gcd_eq_zero_iff.mp (Int.ofNat.inj z)).2
  have e1 := divInt_num (a := a) hb
  have e2 := divInt_den (a := a) hb
  refine ⟨rfl, ⟨a, b, rfl, .inl rfl, fun h => ?_, fun h => ?_⟩⟩
  · have h := dec_t h
    rw [if_pos h] at e1 e2
    refine ⟨by omega, by omega, rfl, ?_⟩
    unfold dR at hq
    rw [e1, e2] at hq
    exact hq
  · have h := dec_f h
    rw [if_neg h] at e1 e2
    refine ⟨hg, hg, rfl, ?_⟩
    unfold dR at hq
    rw [e1, e2] at hq
    exact hq
theorem sz_mul {i j : Int} (h : i.natAbs < 2 ^ szN) (g : j.natAbs < 2 ^ szN) : MulOk i j := mul_ok h g (by unfold szN; decide)
theorem good_plus : Good (G1 L) b_plus 2 0 (vOp (· + ·)) := by
  rintro ds q ⟨a, b, rfl, ⟨a1, a2⟩, ⟨b1, b2⟩, hq⟩ -
  have hq : q (.val (dR (a + b))) none := hq
  rw [← add_divInt] at hq
  exact ⟨_, rfl, _, rfl, sz_mul a1 (abs_nat b2), _, rfl, _, rfl, sz_mul b1 (abs_nat a2), _, rfl, _, rfl, sz_mul (abs_nat a2) (abs_nat b2), rfl, _, _, rfl, Int.mul_ne_zero (den_ne a) (den_ne b), .inl rfl, hq⟩
theorem good_minus : Good (G1 L) b_minus 2 0 (vOp (· - ·)) := by
  rintro ds q ⟨a, b, rfl, ⟨a1, a2⟩, ⟨b1, b2⟩, hq⟩ -
  have hq : q (.val (dR (a - b))) none := hq
  rw [← sub_divInt] at hq
  exact ⟨_, rfl, _, rfl, sz_mul a1 (abs_nat b2), _, rfl, _, rfl, sz_mul b1 (abs_nat a2), _, rfl, _, rfl, sz_mul (abs_nat a2) (abs_nat b2), rfl, _, _, rfl, Int.mul_ne_zero (den_ne a) (den_ne b), .inl rfl, hq⟩
theorem good_times : Good (G1 L) b_times 2 0 (vOp (· * ·)) := by
  rintro ds q ⟨a, b, rfl, ⟨a1, a2⟩, ⟨b1, b2⟩, hq⟩ -
  have hq : q (.val (dR (a * b))) none := hq
  rw [← mul_divInt] at hq
  exact ⟨_, rfl, _, rfl, sz_mul a1 b1, _, rfl, _, rfl, sz_mul (abs_nat a2) (abs_nat b2), rfl, _, _, rfl, Int.mul_ne_zero (den_ne a) (den_ne b), .inl rfl, hq⟩
theorem good_over : Good (G1 L) b_over 2 0 vOver := by
  rintro ds q ⟨a, b, rfl, ⟨a1, a2⟩, ⟨b1, b2⟩, h0, hq⟩ -
  rw [← div_divInt] at hq
  exact ⟨_, rfl, _, rfl, sz_mul a1 (abs_nat b2), _, rfl, _, rfl, sz_mul (abs_nat a2) b1, rfl, _, _, rfl, Int.mul_ne_zero (den_ne a) h0, .inl rfl, hq⟩
theorem good_before : Good (G1 L) b_before 2 0 vBefore := by
  rintro ds q ⟨a, b, rfl, ⟨a1, a2⟩, ⟨b1, b2⟩, hq⟩ -
  exact ⟨_, rfl, _, rfl, sz_mul a1 (abs_nat b2), _, rfl, _, rfl, sz_mul b1 (abs_nat a2), hq⟩
theorem good_floor_of : Good (G1 L) b_floor_of 1 0 vFloor := by
  rintro ds q ⟨a, rfl, hq⟩ -
  exact ⟨_, rfl, _, rfl, den_ne a, hq⟩
theorem bx_one {n : Nat} {b : List VL.D} (h : Bx n b) {m : Nat} (g : n ≤ m) : Bx m b := by
  obtain ⟨x, y, z, rfl, h1, h2, h3, h4⟩ := h
  exact ⟨x, y, z, rfl, h1, h2, h3, by omega⟩
theorem good_law_box : Good (G1 L) b_law_box 2 2 vBox := by
  rintro ds q ⟨ns, k, rfl, hk, hq⟩ -
  have lenD : ((ns.map VL.D.int).length : Int) = (ns.length : Int) := by rw [List.length_map]
  have fin : ∀ (c : Int) (z : Bool), q (.fresh [.int ((c.natAbs : Int) * (if z then 1 else 0)), .int c.natAbs, .int (7 * (k : Int))]) none := fun c z => hq _ ⟨_, _, _, rfl, by cases z <;> simp, by omega, by omega, by omega⟩
  have cell : ∀ c : Int, wSs (G1 L) (ss [.asg 3 (.and (.cmp .gt (.blt .len (.cons (.var 0) .nil)) (.int 0)) (.cmp .eq (.bin .mod (.ix (.var 0) (.int 0)) (.int 2)) (.int 0))),
      .ret (.lst (.cons (.bin .mul (.blt .abs (.cons (.var 2) .nil)) (.blt .int (.cons (.var 3) .nil))) (.cons (.blt .abs (.cons (.var 2) .nil)) (.cons (.bin .mul (.int 7) (.var 1)) .nil))))])
      [.val (.fix (ns.map D.int)), .val (.int k), .val (.int c), .un] { nx := fun _ => q (.val .non) none, rt := fun r _ => q r none } := fun c => by
    refine ⟨fun h => ?_, fun h => ?_⟩
    · have h : (0 : Int) < ((ns.map VL.D.int).length : Int) := dec_t h
      cases ns with
      | nil => simp at h
      | cons n0 nr =>
        exact ⟨.int n0, atI_nat (j := 0) rfl, by decide, mul_r (by split <;> decide), mul_l (by decide), rfl, fin c _⟩
    · exact ⟨mul_r (by decide), mul_l (by decide), rfl, fin c false⟩
  refine ⟨fun h => ?_, fun h => ?_⟩
  · have h : (k : Int) < ((ns.map VL.D.int).length : Int) := dec_t h
    have h2 : k < ns.length := by rw [lenD] at h; omega
    refine ⟨.int (ns[k]'h2), ?_, cell _⟩
    have := atI_nat (xs := ns.map D.int) (j := k) (v := .int (ns[k]'h2)) (by rw [List.getElem?_map, List.getElem?_eq_getElem h2]; rfl)
    exact this
  · exact cell 0
theorem good_law_take : Good (G1 L) b_law_take 2 2 vTake := by
  rintro ds0 rest q ⟨n, b, m, e, ⟨x, y, z, rfl, h1, h2, h3, h4⟩, hn, hm, hq⟩ -
  cases e
  have m0 : m ≠ 0 := by omega
  refine ⟨_, rfl, fun h => ?_, fun h => ?_⟩
  · have h : (0 : Int) < x := dec_t h
    refine ⟨_, rfl, m0, _, rfl, m0, rfl, 0, rfl, ⟨_, rfl⟩, _, rfl, ?_⟩
    exact hq _ _ (Int.fmod_nonneg_of_pos x hm) (Int.fmod_lt_of_pos x hm) ⟨x.fdiv m, y, z, rfl, Int.fdiv_nonneg h1 (by omega), h2, h3, by omega⟩
  · have z1 : (z + 1).natAbs < 2 ^ 64 := by have : (2 : Nat) ^ 64 = 18446744073709551616 := by decide
                                            omega
    have pos : ∀ {a k : Int}, 0 < k → 0 ≤ a.fmod k ∧ a.fmod k < k := fun hk => ⟨Int.fmod_nonneg_of_pos _ hk, Int.fmod_lt_of_pos _ hk⟩
    have e64 : (2 : Nat) ^ 64 = 18446744073709551616 := by decide
    have small : ∀ {a k : Int}, 0 < k → k < 9223372036854775807 → (a.fmod k).natAbs < 2 ^ 64 := fun {a k} hk hl => by
      have := pos (a := a) hk
      rw [e64]; omega
    have sm3 : ∀ {a : Int}, (a.fmod 2305843009213693951 + 3).natAbs < 2 ^ 64 := fun {a} => by
      have := pos (a := a) (k := 2305843009213693951) (by decide)
      rw [e64]; omega
    exact ⟨_, rfl, rfl, 2, rfl, _, rfl, by decide, _, rfl, _, rfl, mul_l z1, mul_l sm3, by decide, by decide, _, rfl, mul_l z1, mul_l (small (by decide) (by decide)), by decide,
      mul_l (small (by decide) (by decide)), by decide, by decide, m0, ⟨_, rfl⟩, _, rfl, hq _ _ (Int.fmod_nonneg_of_pos _ hm) (Int.fmod_lt_of_pos _ hm) ⟨x, y, z + 1, rfl, h1, h2, by omega, by omega⟩⟩
theorem good_law_lowest : Good (G1 L) b_law_lowest 2 2 vRatioP := by
  rintro ds q ⟨a, b, rfl, hb, hq⟩ -
  have b0 : b ≠ 0 := by omega
  have e1 := divInt_num (a := a) b0
  have e2 := divInt_den (a := a) b0
  rw [if_neg (by omega)] at e1 e2
  have hg : (Int.gcd a b : Int) ≠ 0 := fun z => b0 (Int.gcd_eq_zero_iff.mp (Int.ofNat.inj z)).2
  refine ⟨rfl, fun m ρ => ∃ x y : Int, ρ = [.val (.int a), .val (.int b), .val (.int x), .val (.int y)] ∧ y.toNat = m ∧ 0 ≤ x ∧ 0 ≤ y ∧ Int.gcd x y = Int.gcd a b, ⟨_, a.natAbs, b, rfl, rfl, by omega, by omega, ?_⟩, ?_⟩
  · simp [Int.gcd]
  rintro m _ ⟨x, y, rfl, rfl, hx, hy, h⟩
  refine ⟨fun t => ?_, fun t => ?_⟩
  · have t : 0 < y := dec_t t
    have f1 := Int.fmod_nonneg_of_pos x t
    have f2 := Int.fmod_lt_of_pos x t
    exact ⟨by omega, rfl, _, by omega, y, x.fmod y, rfl, rfl, hy, f1, (gcd_step x y).trans h⟩
  · have t : ¬ 0 < y := dec_f t
    obtain rfl : y = 0 := by omega
    rw [Int.gcd_zero_right] at h
    have hx2 : x = Int.gcd a b := by omega
    subst hx2
    unfold dR at hq
    rw [e1, e2] at hq
    exact ⟨hg, hg, rfl, hq⟩
theorem dR_int (i : Int) : dR (Rat.divInt i 1) = .tup [.int i, .int 1] := by
  have e1 := divInt_num (a := i) (b := 1) (by decide)
  have e2 := divInt_den (a := i) (b := 1) (by decide)
  rw [if_neg (by decide), Int.gcd_one] at e1 e2
  unfold dR
  rw [e1, e2]
  simp
theorem rb_div {i j : Int} {n : Nat} (hi : i.natAbs < 2 ^ n) (hj : j.natAbs < 2 ^ n) (h0 : 0 < j) : RB' n (Rat.divInt i j) := by
  have b0 : j ≠ 0 := by omega
  constructor
  · rw [Rat.num_divInt, Int.sign_eq_one_of_pos h0, Int.one_mul]
    have := Int.natAbs_ediv_le_natAbs i (Int.gcd j i)
    omega
  · rw [Rat.den_divInt, if_neg b0]
    have := Nat.div_le_self j.natAbs (Int.gcd j i)
    omega
theorem good_law_number : Good (G1 L) b_law_number 1 1 vNumber := by
  rintro ds0 rest q ⟨n, b, e, hb, hn, hq⟩ -
  cases e
  have e50 : (2 : Nat) ^ 50 = 1125899906842624 := by decide
  refine ⟨rfl, rfl, n, ds0, 5, rfl, hb, by omega, by decide, fun t b1 t1 t2 hb1 => ⟨b1, rfl, ?_⟩⟩
  refine ⟨fun h => ?_, fun _ => ⟨fun h => ?_, fun _ => ⟨fun h => ?_, fun _ => ?_⟩⟩⟩
  · refine ⟨rfl, rfl, n + 1, b1, 19, rfl, hb1, by omega, by decide, fun u b2 u1 u2 hb2 => ⟨b2, rfl, rfl, ?_⟩⟩
    have := hq (Rat.divInt (u - 9) 1) b2 (rb_div (by rw [e50]; omega) (by rw [e50]; decide) (by decide)) (bx_one hb2 (by omega))
    rw [dR_int] at this
    exact ⟨⟨_, rfl⟩, _, rfl, this⟩
  · refine ⟨rfl, rfl, n + 1, b1, 19, rfl, hb1, by omega, by decide, fun u b2 u1 u2 hb2 => ⟨b2, rfl, ?_⟩⟩
    refine ⟨rfl, rfl, n + 2, b2, 6, rfl, hb2, by omega, by decide, fun v b3 v1 v2 hb3 => ⟨b3, rfl, rfl, ?_⟩⟩
    exact ⟨_, _, rfl, by omega, .inl rfl, ⟨_, rfl⟩, _, rfl, hq _ _ (rb_div (by rw [e50]; omega) (by rw [e50]; omega) (by omega)) hb3⟩
  · refine ⟨rfl, rfl, n + 1, b1, 1999999999999, rfl, hb1, by omega, by decide, fun u b2 u1 u2 hb2 => ⟨b2, rfl, ?_⟩⟩
    refine ⟨rfl, rfl, n + 2, b2, 999999999999, rfl, hb2, by omega, by decide, fun v b3 v1 v2 hb3 => ⟨b3, rfl, rfl, ?_⟩⟩
    exact ⟨_, _, rfl, by omega, .inl rfl, ⟨_, rfl⟩, _, rfl, hq _ _ (rb_div (by rw [e50]; omega) (by rw [e50]; omega) (by omega)) hb3⟩
  · refine ⟨rfl, rfl, n + 1, b1, 3, rfl, hb1, by omega, by decide, fun u b2 u1 u2 hb2 => ⟨b2, rfl, rfl, ?_⟩⟩
    have := hq (Rat.divInt (u - 1) 1) b2 (rb_div (by rw [e50]; omega) (by rw [e50]; decide) (by decide)) (bx_one hb2 (by omega))
    rw [dR_int] at this
    exact ⟨⟨_, rfl⟩, _, rfl, this⟩
theorem shp_dR (r : Rat) : dsh (dR r) = true := rfl
theorem eqv_dR (r : Rat) : deq (dR r) (dR r) = true := by
  show PyData.eqv (.tuple [.int r.num, .int r.den]) (.tuple [.int r.num, .int r.den]) = true
  simp [PyData.eqv, PyData.eqvAll]
theorem good_law_is_number : Good (G1 L) b_law_is_number 1 1 vIsNumber := by
  rintro ds q ⟨r, rfl, hq⟩ -
  refine ⟨fun h => (by cases h), fun _ => ⟨fun h => (by cases h), fun _ => ?_⟩⟩
  refine ⟨fun k ρ => ∃ s, ρ = [.val (dR r), s], ⟨_, rfl⟩, ?_, ?_⟩
  · rintro k d _ hd ⟨s, rfl⟩
    have hd : ∃ i : Int, d = .int i := by
      match k, hd with
      | 0, hd => cases hd; exact ⟨_, rfl⟩
      | 1, hd => cases hd; exact ⟨_, rfl⟩
      | k + 2, hd => cases hd
    obtain ⟨i, rfl⟩ := hd
    exact ⟨fun h => (by cases h), fun _ => ⟨fun h => (by cases h), fun _ => ⟨_, rfl⟩⟩⟩
  · rintro _ ⟨s, rfl⟩
    have hd := den_p r
    refine ⟨_, rfl, fun h => ?_, fun h => absurd hd (dec_f h)⟩
    have h2 : deq (dR (Rat.divInt r.num r.den)) (dR r) = true := by rw [Rat.num_divInt_den]; exact eqv_dR r
    refine ⟨_, rfl, _, rfl, rfl, _, _, rfl, hd, .inl rfl, rfl, rfl, ?_⟩
    rw [h2]
    exact hq
theorem num_le {a b : Int} (h : b ≠ 0) : (Rat.divInt a b).num.natAbs ≤ a.natAbs := by
  rw [Rat.num_divInt]
  have := Int.natAbs_ediv_le_natAbs (b.sign * a) (Int.gcd b a)
  rw [Int.natAbs_mul, Int.natAbs_sign_of_ne_zero h, Nat.one_mul] at this
  exact this
theorem den_le {a b : Int} (h : b ≠ 0) : (Rat.divInt a b).den ≤ b.natAbs := by
  rw [Rat.den_divInt, if_neg h]
  exact Nat.div_le_self _ _
theorem fl (x y : Int) (h : 0 < y) : x.fdiv y * y ≤ x ∧ x < (x.fdiv y + 1) * y := by
  have a := Int.fmod_nonneg_of_pos x h
  have b := Int.fmod_lt_of_pos x h
  have c := Int.fmod_def x y
  rw [Int.add_mul, Int.one_mul, Int.mul_comm]
  omega
theorem fl_le (x y : Int) (h : 0 < y) : (x.fdiv y).natAbs ≤ x.natAbs := by
  rw [Int.fdiv_eq_ediv_of_nonneg x (by omega)]
  exact Int.natAbs_ediv_le_natAbs x y
theorem sz_of {r : Rat} {n : Nat} (h : RB' n r) (g : n ≤ 1000) : Sz r := by
  have : n ≤ szN := by unfold szN; omega
  exact ⟨abs_le h.1 this, Nat.lt_of_lt_of_le h.2 (Nat.pow_le_pow_right (by decide) this)⟩
theorem lt_szM {i : Int} {n : Nat} (h : i.natAbs < 2 ^ n) (g : n ≤ 1000) : i.natAbs < 2 ^ szM := abs_le h (by unfold szM; omega)
theorem pow_abs {a : Int} {s : Nat} (h : a.natAbs ≤ 2 ^ s) (e : Nat) : (a ^ e).natAbs < 2 ^ (s * e + 1) := by
  rw [Int.natAbs_pow, Nat.pow_succ, Nat.pow_mul]
  have := Nat.pow_le_pow_left h e
  have p : 0 < (2 ^ s) ^ e := Nat.pow_pos (Nat.pow_pos (by decide))
  omega
theorem good_whole_power : Good (G1 L) b_whole_power 2 1 vWhole := by
  rintro ds q ⟨a, n, s, rfl, hn, ha, hs, hq⟩ -
  refine ⟨fun m ρ => ∃ e d : Nat, ρ = [.val (.int (a ^ e)), .val (.int (m : Nat)), .val (.int (a ^ d))] ∧ d + e * m = n.toNat, ⟨n.toNat, 1, 0, ?_, by omega⟩, ?_⟩
  · rw [Int.pow_succ, Int.pow_zero, Int.one_mul, Int.toNat_of_nonneg hn]; rfl
  · rintro m _ ⟨e, d, rfl, hd⟩
    refine ⟨fun t => ?_, fun t => ?_⟩
    · have t : 0 < (m : Int) := dec_t t
      have m1 : 1 ≤ m := by omega
      have he : e ≤ n.toNat := by have := Nat.mul_le_mul_left e m1; omega
      have hde : d ≤ n.toNat := by omega
      have z1 : s * e ≤ 60000000 := Nat.le_trans (Nat.mul_le_mul_left s he) hs
      have z2 : s * d ≤ 60000000 := Nat.le_trans (Nat.mul_le_mul_left s hde) hs
      have sq : a ^ e * a ^ e = a ^ (2 * e) := by rw [← Int.pow_add]; congr 1; omega
      have half : (m : Int).fdiv 2 = ((m / 2 : Nat) : Int) := by rw [Int.fdiv_eq_ediv_of_nonneg _ (by decide)]; omega
      have md : (m : Int).fmod 2 = ((m % 2 : Nat) : Int) := by rw [Int.fmod_eq_emod_of_nonneg _ (by decide)]; omega
      refine ⟨by decide, fun o => ?_, fun o => ?_⟩
      · have o : (m : Int).fmod 2 = 1 := dec_t o
        have o2 : m % 2 = 1 := by omega
        refine ⟨mul_ok (pow_abs ha d) (pow_abs ha e) (by omega), mul_ok (pow_abs ha e) (pow_abs ha e) (by omega), by decide, m / 2, by omega, 2 * e, d + e, ?_, ?_⟩
        · show [Sl.val (.int (a ^ e * a ^ e)), Sl.val (.int ((m : Int).fdiv 2)), Sl.val (.int (a ^ d * a ^ e))] = _
          rw [sq, half, Int.pow_add]
        · have : e * m = 2 * e * (m / 2) + e := by
            conv => lhs; rw [← Nat.div_add_mod m 2, o2]
            rw [Nat.mul_add, Nat.mul_one, ← Nat.mul_assoc, Nat.mul_comm e 2]
          omega
      · have o : ¬ (m : Int).fmod 2 = 1 := dec_f o
        have o2 : m % 2 = 0 := by omega
        refine ⟨mul_ok (pow_abs ha e) (pow_abs ha e) (by omega), by decide, m / 2, by omega, 2 * e, d, ?_, ?_⟩
        · show [Sl.val (.int (a ^ e * a ^ e)), Sl.val (.int ((m : Int).fdiv 2)), Sl.val (.int (a ^ d))] = _
          rw [sq, half]
        · have : e * m = 2 * e * (m / 2) := by
            conv => lhs; rw [← Nat.div_add_mod m 2, o2]
            rw [Nat.add_zero, ← Nat.mul_assoc, Nat.mul_comm e 2]
          omega
    · have t : ¬ 0 < (m : Int) := dec_f t
      obtain rfl : m = 0 := by omega
      have : d = n.toNat := by omega
      subst this
      exact hq
theorem good_power1 : Good (G1 L) b_power1 2 0 vPower1 := by
  rintro ds q ⟨a, n, s, rfl, hn, h1, h2, hs, hq⟩ -
  refine ⟨fun t => absurd hn (Int.not_le.mpr (dec_t t)), fun _ => ?_⟩
  refine ⟨_, rfl, rfl, _, n, s, rfl, hn, h1, hs, .inl rfl, _, rfl, rfl, _, n, s, rfl, hn, by simpa using h2, hs, .inl rfl, rfl, ?_⟩
  have e : ((a.den ^ n.toNat : Nat) : Int) = (a.den : Int) ^ n.toNat := by simp
  unfold dR at hq
  rw [Rat.num_pow, Rat.den_pow, e] at hq
  exact hq
theorem inv_divInt (a : Rat) : Rat.divInt a.den a.num = a⁻¹ := by rw [Rat.inv_def]
theorem good_power : Good (G1 L) b_power 2 0 vPower := by
  rintro ds q ⟨a, n, s, rfl, h0, h1, h2, hs, hq⟩ -
  unfold powZ at hq
  refine ⟨fun t => ?_, fun t => ?_⟩
  · have t : n < 0 := dec_t t
    rw [if_pos t] at hq
    have hnz := h0 t
    refine ⟨_, rfl, _, rfl, rfl, _, _, rfl, hnz, .inl rfl, rfl, a⁻¹, -n, s, ?_, by omega, ?_, ?_, ?_, .inl rfl, hq⟩
    · rw [← inv_divInt]
    · rw [← inv_divInt]
      exact Nat.le_trans (num_le hnz) (by simpa using h2)
    · rw [← inv_divInt]
      exact Nat.le_trans (den_le hnz) h1
    · rw [show (-n).toNat = n.natAbs by omega]; exact hs
  · have t : ¬ n < 0 := dec_f t
    rw [if_neg t] at hq
    have hs : s * n.toNat ≤ 60000000 := by rw [show n.toNat = n.natAbs by omega]; exact hs
    have hn : 0 ≤ n := by omega
    refine ⟨_, rfl, rfl, _, n, s, rfl, hn, h1, hs, .inl rfl, _, rfl, rfl, _, n, s, rfl, hn, by simpa using h2, hs, .inl rfl, rfl, ?_⟩
    have e : ((a.den ^ n.toNat : Nat) : Int) = (a.den : Int) ^ n.toNat := by simp
    unfold dR at hq
    rw [Rat.num_pow, Rat.den_pow, e] at hq
    exact hq
theorem along_G1 : True := trivial
end M1

/-! M2: polynomials' texts, promises. -/
namespace M2
open PySem PySem.Spec L2 VL M1
abbrev f_poly : Nat := 20
abbrev f_degree : Nat := 21
abbrev f_at_power : Nat := 22
abbrev f_p_plus : Nat := 23
abbrev f_p_minus : Nat := 24
abbrev f_p_scaled : Nat := 25
abbrev f_p_times : Nat := 26
abbrev f_p_slope : Nat := 27
abbrev f_law_sum : Nat := 28
abbrev f_law_product : Nat := 29
abbrev f_law_poly_of : Nat := 30
abbrev f_law_poly : Nat := 31
abbrev f_law_is_poly : Nat := 32
abbrev f_law_added : Nat := 33
abbrev f_law_multiplied : Nat := 34
abbrev f_law_scaled : Nat := 35
/-- poly: 0 row, 1 many -/
def b_poly : Ss := ss [.asg 1 (.blt .len (.cons (.var 0) .nil)),
  .whl (.and (.cmp .gt (.var 1) (.int 0)) (.cmp .eq (.ix (.var 0) (.bin .sub (.var 1) (.int 1))) (.glo (.tup [.int 0, .int 1])))) (ss [.aug 1 .sub (.int 1)]),
  .ret (.blt .tuple (.cons (.sl (.var 0) .no (.yes (.var 1))) .nil))]
/-- degree: 0 P -/
def b_degree : Ss := ss [.ret (.bin .sub (.blt .len (.cons (.var 0) .nil)) (.int 1))]
/-- at_power: 0 P, 1 k -/
def b_at_power : Ss := ss [.ite (.cmp .lt (.var 1) (.blt .len (.cons (.var 0) .nil))) (ss [.ret (.ix (.var 0) (.var 1))]) (ss []),
  .ret (.glo (.tup [.int 0, .int 1]))]
/-- p_plus: 0 P, 1 Q, 2 k -/
def b_p_plus : Ss := ss [.ret (.call f_poly (.cons (.lc (.call f_plus (.cons (.call f_at_power (.cons (.var 0) (.cons (.var 2) .nil))) (.cons (.call f_at_power (.cons (.var 1) (.cons (.var 2) .nil))) .nil))) (.nm 2) (.rng1 (.blt .max2 (.cons (.blt .len (.cons (.var 0) .nil)) (.cons (.blt .len (.cons (.var 1) .nil)) .nil)))) [2] .no) .nil))]
/-- p_minus: 0 P, 1 Q, 2 k -/
def b_p_minus : Ss := ss [.ret (.call f_poly (.cons (.lc (.call f_minus (.cons (.call f_at_power (.cons (.var 0) (.cons (.var 2) .nil))) (.cons (.call f_at_power (.cons (.var 1) (.cons (.var 2) .nil))) .nil))) (.nm 2) (.rng1 (.blt .max2 (.cons (.blt .len (.cons (.var 0) .nil)) (.cons (.blt .len (.cons (.var 1) .nil)) .nil)))) [2] .no) .nil))]
/-- p_scaled: 0 P, 1 c, 2 one -/
def b_p_scaled : Ss := ss [.ret (.call f_poly (.cons (.lc (.call f_times (.cons (.var 2) (.cons (.var 1) .nil))) (.nm 2) (.seq (.var 0)) [2] .no) .nil))]
/-- p_times: 0 P, 1 Q, 2 row, 3 k, 4 one, 5 j, 6 other -/
def b_p_times : Ss := ss [.asg 2 (.bin .mul (.lst (.cons (.glo (.tup [.int 0, .int 1])) .nil)) (.bin .add (.blt .len (.cons (.var 0) .nil)) (.blt .len (.cons (.var 1) .nil)))),
  .for (.tp [3, 4]) (.enum (.var 0)) (ss [.for (.tp [5, 6]) (.enum (.var 1)) (ss [.sub 2 (.bin .add (.var 3) (.var 5)) (.call f_plus (.cons (.ix (.var 2) (.bin .add (.var 3) (.var 5))) (.cons (.call f_times (.cons (.var 4) (.cons (.var 6) .nil))) .nil)))])]),
  .ret (.call f_poly (.cons (.var 2) .nil))]
/-- p_slope: 0 P, 1 k -/
def b_p_slope : Ss := ss [.ret (.call f_poly (.cons (.lc (.call f_times (.cons (.tup (.cons (.var 1) (.cons (.int 1) .nil))) (.cons (.ix (.var 0) (.var 1)) .nil))) (.nm 1) (.rng2 (.int 1) (.blt .len (.cons (.var 0) .nil))) [1] .no) .nil))]
/-- law_sum: 0 law_one, 1 law_other -/
def b_law_sum : Ss := ss [.ret (.call f_law_lowest (.cons (.bin .add (.bin .mul (.ix (.var 0) (.int 0)) (.ix (.var 1) (.int 1))) (.bin .mul (.ix (.var 1) (.int 0)) (.ix (.var 0) (.int 1)))) (.cons (.bin .mul (.ix (.var 0) (.int 1)) (.ix (.var 1) (.int 1))) .nil)))]
/-- law_product: 0 law_one, 1 law_other -/
def b_law_product : Ss := ss [.ret (.call f_law_lowest (.cons (.bin .mul (.ix (.var 0) (.int 0)) (.ix (.var 1) (.int 0))) (.cons (.bin .mul (.ix (.var 0) (.int 1)) (.ix (.var 1) (.int 1))) .nil)))]
/-- law_poly_of: 0 law_row, 1 law_many -/
def b_law_poly_of : Ss := ss [.asg 1 (.blt .len (.cons (.var 0) .nil)),
  .whl (.and (.cmp .gt (.var 1) (.int 0)) (.cmp .eq (.ix (.ix (.var 0) (.bin .sub (.var 1) (.int 1))) (.int 0)) (.int 0))) (ss [.asg 1 (.bin .sub (.var 1) (.int 1))]),
  .ret (.blt .tuple (.cons (.sl (.var 0) .no (.yes (.var 1))) .nil))]
/-- law_poly: 0 law_box_here, 1 law_most, 2 law_k -/
def b_law_poly : Ss := ss [.ret (.call f_law_poly_of (.cons (.lc (.call f_law_number (.cons (.var 0) .nil)) (.nm 2) (.rng1 (.call f_law_take (.cons (.var 0) (.cons (.bin .add (.var 1) (.int 2)) .nil)))) [2] .no) .nil))]
/-- law_is_poly: 0 law_found, 1 law_one -/
def b_law_is_poly : Ss := ss [.ite (.or (.not (.tru (.isi (.var 0) .tuple))) (.not (.tru (.blt .all (.cons (.lc (.call f_law_is_number (.cons (.var 1) .nil)) (.nm 1) (.seq (.var 0)) [1] .no) .nil))))) (ss [.ret (.bl false)]) (ss []),
  .ret (.or (.cmp .eq (.blt .len (.cons (.var 0) .nil)) (.int 0)) (.cmp .ne (.ix (.ix (.var 0) (.neg (.int 1))) (.int 0)) (.int 0)))]
/-- law_added: 0 law_kp, 1 law_kq, 2 law_row, 3 law_k -/
def b_law_added : Ss := ss [.asg 2 (.lst .nil),
  .for (.nm 3) (.rng1 (.blt .max2 (.cons (.blt .len (.cons (.var 0) .nil)) (.cons (.blt .len (.cons (.var 1) .nil)) .nil)))) (ss [.ex (.mth .append 2 (.cons (.call f_law_sum (.cons (.ix (.bin .add (.blt .list (.cons (.var 0) .nil)) (.bin .mul (.lst (.cons (.tup (.cons (.int 0) (.cons (.int 1) .nil))) .nil)) (.blt .len (.cons (.var 1) .nil)))) (.var 3)) (.cons (.ix (.bin .add (.blt .list (.cons (.var 1) .nil)) (.bin .mul (.lst (.cons (.tup (.cons (.int 0) (.cons (.int 1) .nil))) .nil)) (.blt .len (.cons (.var 0) .nil)))) (.var 3)) .nil))) .nil))]),
  .ret (.call f_law_poly_of (.cons (.var 2) .nil))]
/-- law_multiplied: 0 law_kp, 1 law_kq, 2 law_row, 3 law_k, 4 law_one, 5 law_j, 6 law_other -/
def b_law_multiplied : Ss := ss [.asg 2 (.bin .mul (.lst (.cons (.tup (.cons (.int 0) (.cons (.int 1) .nil))) .nil)) (.bin .add (.blt .len (.cons (.var 0) .nil)) (.blt .len (.cons (.var 1) .nil)))),
  .for (.tp [3, 4]) (.enum (.var 0)) (ss [.for (.tp [5, 6]) (.enum (.var 1)) (ss [.sub 2 (.bin .add (.var 3) (.var 5)) (.call f_law_sum (.cons (.ix (.var 2) (.bin .add (.var 3) (.var 5))) (.cons (.call f_law_product (.cons (.var 4) (.cons (.var 6) .nil))) .nil)))])]),
  .ret (.call f_law_poly_of (.cons (.var 2) .nil))]
/-- law_scaled: 0 law_kp, 1 law_c, 2 law_one -/
def b_law_scaled : Ss := ss [.ret (.call f_law_poly_of (.cons (.lc (.call f_law_product (.cons (.var 2) (.cons (.var 1) .nil))) (.nm 2) (.seq (.var 0)) [2] .no) .nil))]
/-! ### rows of numbers -/
def co (l : List Rat) (k : Nat) : Rat := l.getD k 0
def trim : List Rat → List Rat
  | [] => []
  | a :: l => match trim l with
    | [] => if a = 0 then [] else [a]
    | b :: r => a :: b :: r
theorem co_nil (k : Nat) : co [] k = 0 := by unfold co; simp
theorem co_zero (a : Rat) (l : List Rat) : co (a :: l) 0 = a := rfl
theorem co_succ (a : Rat) (l : List Rat) (k : Nat) : co (a :: l) (k + 1) = co l k := rfl
theorem co_out {l : List Rat} {k : Nat} (h : l.length ≤ k) : co l k = 0 := by unfold co; rw [List.getD_eq_getElem?_getD, List.getElem?_eq_none h]; rfl
theorem co_in {l : List Rat} {k : Nat} (h : k < l.length) : co l k = l[k] := by unfold co; rw [List.getD_eq_getElem?_getD, List.getElem?_eq_getElem h]; rfl
theorem co_get {l : List Rat} {k : Nat} (h : k < l.length) : l[k]? = some (co l k) := by rw [co_in h, List.getElem?_eq_getElem h]
theorem trim_co : ∀ (l : List Rat) (k : Nat), co (trim l) k = co l k
  | [], k => rfl
  | a :: l, k => by
    have ih := trim_co l
    unfold trim
    cases h : trim l with
    | nil =>
      rw [h] at ih
      have z : ∀ k, co l k = 0 := fun k => by rw [← ih k, co_nil]
      dsimp only
      cases k with
      | zero =>
        rw [co_zero]
        split
        · rename_i e; rw [e, co_nil]
        · rfl
      | succ k =>
        rw [co_succ, z k]
        split
        · exact co_nil _
        · rw [co_succ, co_nil]
    | cons b r =>
      rw [h] at ih
      dsimp only
      cases k with
      | zero => rfl
      | succ k => rw [co_succ, co_succ]; exact ih k
/-- no nought at the end -/
def IsT (l : List Rat) : Prop := l = [] ∨ co l (l.length - 1) ≠ 0
theorem trim_isT : ∀ l : List Rat, IsT (trim l)
  | [] => .inl rfl
  | a :: l => by
    have ih := trim_isT l
    unfold trim
    cases h : trim l with
    | nil =>
      dsimp only
      split
      · exact .inl rfl
      · rename_i e; exact .inr e
    | cons b r =>
      rw [h] at ih
      dsimp only
      rcases ih with e | e
      · cases e
      · exact .inr e
theorem isT_ext {l m : List Rat} (hl : IsT l) (hm : IsT m) (h : ∀ k, co l k = co m k) : l = m := by
  have len : ∀ {l m : List Rat}, IsT l → (∀ k, co l k = co m k) → l.length ≤ m.length := fun {l m} hl h => by
    rcases hl with rfl | e
    · exact Nat.zero_le _
    · rcases Nat.lt_or_ge m.length l.length with g | g
      · rw [h, co_out (by omega)] at e; exact absurd rfl e
      · exact g
  have e : l.length = m.length := Nat.le_antisymm (len hl h) (len hm fun k => (h k).symm)
  refine List.ext_getElem? fun k => ?_
  by_cases g : k < l.length
  · rw [co_get g, co_get (by omega), h k]
  · rw [List.getElem?_eq_none (by omega), List.getElem?_eq_none (by omega)]
theorem take_trim {l : List Rat} {m : Nat} (hm : m ≤ l.length) (h : ∀ k, m ≤ k → co l k = 0) (h2 : m = 0 ∨ co l (m - 1) ≠ 0) : l.take m = trim l := by
  have ct : ∀ k, co (l.take m) k = if k < m then co l k else 0 := fun k => by
    unfold co
    rw [List.getD_eq_getElem?_getD, List.getElem?_take]
    split
    · rw [List.getD_eq_getElem?_getD]
    · rfl
  refine isT_ext ?_ (trim_isT l) fun k => ?_
  · rcases h2 with rfl | h2
    · exact .inl (by simp)
    · by_cases z : m = 0
      · subst z; exact .inl (by simp)
      · refine .inr ?_
        have e : (l.take m).length = m := by rw [List.length_take]; omega
        rw [e, ct, if_pos (by omega)]
        exact h2
  · rw [trim_co, ct]
    split
    · rfl
    · rw [h k (by omega)]
theorem trim_le : ∀ l : List Rat, (trim l).length ≤ l.length
  | [] => Nat.le_refl _
  | a :: l => by
    have ih := trim_le l
    unfold trim
    cases h : trim l with
    | nil =>
      dsimp only
      split
      · exact Nat.zero_le _
      · simp
    | cons b r =>
      rw [h] at ih
      dsimp only
      simp only [List.length_cons] at ih ⊢
      omega
theorem trim_id {l : List Rat} (h : IsT l) : trim l = l := isT_ext (trim_isT l) h (trim_co l)
/-- the polynomial of the first n numbers of f -/
def mk (n : Nat) (f : Nat → Rat) : List Rat := trim ((List.range n).map f)
theorem co_range (n : Nat) (f : Nat → Rat) (k : Nat) : co ((List.range n).map f) k = if k < n then f k else 0 := by
  unfold co
  rw [List.getD_eq_getElem?_getD, List.getElem?_map]
  split
  · rename_i h; rw [List.getElem?_range h]; rfl
  · rename_i h; rw [List.getElem?_eq_none (by simp; omega)]; rfl
theorem mk_co (n : Nat) (f : Nat → Rat) (k : Nat) : co (mk n f) k = if k < n then f k else 0 := by
  unfold mk; rw [trim_co, co_range]
theorem mk_isT (n : Nat) (f : Nat → Rat) : IsT (mk n f) := trim_isT _
theorem mk_len (n : Nat) (f : Nat → Rat) : (mk n f).length ≤ n := by
  have := trim_le ((List.range n).map f)
  rw [List.length_map, List.length_range] at this
  exact this
/-! ### as data -/
def dRs (l : List Rat) : List VL.D := l.map dR
def dP (l : List Rat) : VL.D := .tup (dRs l)
theorem dRs_get {l : List Rat} {k : Nat} (h : k < l.length) : (dRs l)[k]? = some (dR (co l k)) := by
  unfold dRs; rw [List.getElem?_map, co_get h]; rfl
theorem dRs_len (l : List Rat) : (dRs l).length = l.length := by unfold dRs; rw [List.length_map]
theorem dR_inj {x y : Rat} (h : dR x = dR y) : x = y := by
  unfold dR at h
  injection h with h
  injection h with h1 h2
  injection h2 with h2 h3
  injection h1 with h1
  injection h2 with h2
  exact Rat.ext h1 (Int.ofNat.inj h2)
theorem deq_int (x y : Int) : deq (.int x) (.int y) = decide (x = y) := by
  show PyData.eqv (.int x) (.int y) = _
  simp only [PyData.eqv]
  by_cases h : x = y
  · rw [h]; simp
  · simp [h]
theorem deq_dR (x y : Rat) : deq (dR x) (dR y) = decide (x = y) := by
  show PyData.eqv (.tuple [.int x.num, .int x.den]) (.tuple [.int y.num, .int y.den]) = _
  by_cases h : x = y
  · subst h; simp [PyData.eqv, PyData.eqvAll]
  · have : ¬ (x.num = y.num ∧ (x.den : Int) = y.den) := fun z => h (Rat.ext z.1 (Int.ofNat.inj z.2))
    rw [decide_eq_false h]
    simp only [PyData.eqv, PyData.eqvAll]
    by_cases g : x.num = y.num
    · have g2 : ¬ (x.den : Int) = y.den := fun z => this ⟨g, z⟩
      simp [g2]
    · simp [g]
theorem cut_to (xs : List VL.D) (m : Nat) : cutD xs none (some (m : Int)) = xs.take m := by
  unfold cutD
  rw [HT.sIx_none, HT.sIx_nat, List.drop_zero, Nat.sub_zero]
  rcases Nat.le_total m xs.length with h | h
  · rw [Nat.min_eq_left h]
  · rw [Nat.min_eq_right h, List.take_length, List.take_of_length_le h]
/-- every number of few bits -/
def PB (s : Nat) (l : List Rat) : Prop := ∀ r ∈ l, RB' s r
theorem rb_zero (s : Nat) (h : 1 ≤ s) : RB' s 0 := ⟨Nat.pow_pos (by decide), by
  show 1 < 2 ^ s
  exact Nat.one_lt_two_pow (by omega)⟩
theorem rb_mono {s t : Nat} {r : Rat} (h : RB' s r) (g : s ≤ t) : RB' t r := ⟨abs_le h.1 g, Nat.lt_of_lt_of_le h.2 (Nat.pow_le_pow_right (by decide) g)⟩
theorem pb_co {s : Nat} {l : List Rat} (h : PB s l) (hs : 1 ≤ s) (k : Nat) : RB' s (co l k) := by
  by_cases g : k < l.length
  · rw [co_in g]; exact h _ (List.getElem_mem g)
  · rw [co_out (by omega)]; exact rb_zero s hs
theorem rb_add {a b : Nat} {x y : Rat} (hx : RB' a x) (hy : RB' b y) : RB' (a + b + 1) (x + y) := by
  rw [← add_divInt]
  have n1 := abs_mul hx.1 (abs_nat hy.2)
  have n2 := abs_mul hy.1 (abs_nat hx.2)
  have n3 := abs_mul (abs_nat hx.2) (abs_nat hy.2)
  rw [Nat.add_comm b a] at n2
  have d := Int.mul_ne_zero (den_ne x) (den_ne y)
  exact ⟨Nat.lt_of_le_of_lt (num_le d) (abs_add n1 n2), Nat.lt_of_le_of_lt (den_le d) (abs_le n3 (by omega))⟩
theorem rb_mul {a b : Nat} {x y : Rat} (hx : RB' a x) (hy : RB' b y) : RB' (a + b) (x * y) := by
  rw [← mul_divInt]
  have n1 := abs_mul hx.1 hy.1
  have n3 := abs_mul (abs_nat hx.2) (abs_nat hy.2)
  have d := Int.mul_ne_zero (den_ne x) (den_ne y)
  exact ⟨Nat.lt_of_le_of_lt (num_le d) n1, Nat.lt_of_le_of_lt (den_le d) n3⟩
theorem rb_neg {a : Nat} {x : Rat} (hx : RB' a x) : RB' a (-x) := ⟨by rw [Rat.neg_num, Int.natAbs_neg]; exact hx.1, hx.2⟩
theorem rb_sub {a b : Nat} {x y : Rat} (hx : RB' a x) (hy : RB' b y) : RB' (a + b + 1) (x - y) := by
  rw [Rat.sub_eq_add_neg]
  exact rb_add hx (rb_neg hy)
theorem sz_rb {s : Nat} {r : Rat} (h : RB' s r) (g : s ≤ 60000000) : Sz r := rb_mono h (by unfold szN; exact g)
/-! ### promises -/
def Row (d : VL.D) (l : List Rat) : Prop := d = .lst (dRs l) ∨ d = .tup (dRs l)
def vPoly : VF := ⟨.read, fun ds q => ∃ d l, ds = [d] ∧ Row d l ∧ q (.val (dP (trim l))) none⟩
def vDegree : VF := ⟨.read, fun ds q => ∃ l, ds = [dP l] ∧ q (.val (.int ((l.length : Int) - 1))) none⟩
def vAtPower : VF := ⟨.read, fun ds q => ∃ (l : List Rat) (k : Nat), ds = [dP l, .int k] ∧ q (.val (dR (co l k))) none⟩
def vPOp (f : Rat → Rat → Rat) : VF := ⟨.read, fun ds q => ∃ (l m : List Rat) (s : Nat), ds = [dP l, dP m] ∧ PB s l ∧ PB s m ∧ 1 ≤ s ∧ s ≤ 60000000 ∧ l.length ≤ 1000 ∧ m.length ≤ 1000 ∧ q (.val (dP (mk (max l.length m.length) fun k => f (co l k) (co m k)))) none⟩
def vPScaled : VF := ⟨.read, fun ds q => ∃ (l : List Rat) (c : Rat) (s : Nat), ds = [dP l, dR c] ∧ PB s l ∧ RB' s c ∧ 1 ≤ s ∧ s ≤ 60000000 ∧ l.length ≤ 1000 ∧ q (.val (dP (mk l.length fun k => co l k * c))) none⟩
/-- the sums of products: the first k numbers of l -/
def cv (l m : List Rat) : Nat → Nat → Rat
  | 0, _ => 0
  | k + 1, t => cv l m k t + (if k ≤ t then co l k * co m (t - k) else 0)
def pmul (l m : List Rat) : List Rat := mk (l.length + m.length) (cv l m l.length)
/-- products and all partial sums are of few bits -/
def PTok (l m : List Rat) : Prop := ∃ S, PB S l ∧ PB S m ∧ 1 ≤ S ∧ S ≤ 60000000 ∧ (∀ i j, RB' S (co l i * co m j)) ∧ (∀ k j t, RB' S (cv l m k t + (if k ≤ t ∧ t - k < j then co l k * co m (t - k) else 0))) ∧ l.length ≤ 1000 ∧ m.length ≤ 1000
def vPTimes : VF := ⟨.read, fun ds q => ∃ (l m : List Rat), ds = [dP l, dP m] ∧ PTok l m ∧ q (.val (dP (pmul l m))) none⟩
def slope (l : List Rat) : List Rat := mk (l.length - 1) fun k => ((k + 1 : Nat) : Rat) * co l (k + 1)
def vPSlope : VF := ⟨.read, fun ds q => ∃ (l : List Rat) (s : Nat), ds = [dP l] ∧ PB s l ∧ 10 ≤ s ∧ s ≤ 60000000 ∧ l.length ≤ 1000 ∧ q (.val (dP (slope l))) none⟩
def vLawPoly : VF := ⟨.wrt, fun ds q => ∃ (n : Nat) (b : List VL.D) (m : Nat), ds = [.lst b, .int m] ∧ Bx n b ∧ n ≤ 50000 ∧ m ≤ 100 ∧ ∀ l b', PB 50 l → IsT l → l.length ≤ m + 1 → Bx (n + 1 + 3 * (m + 1)) b' → q (.val (dP l)) (some b')⟩
def vIsPoly : VF := ⟨.read, fun ds q => ∃ l, ds = [dP l] ∧ IsT l ∧ l.length ≤ 1000 ∧ q (.val (.bl true)) none⟩
def G2 (L : Nat → VF) : Nat → VF
  | 0 => vPoly
  | 1 => vDegree
  | 2 => vAtPower
  | 3 => vPOp (· + ·)
  | 4 => vPOp (· - ·)
  | 5 => vPScaled
  | 6 => vPTimes
  | 7 => vPSlope
  | 8 => vOp (· + ·)
  | 9 => vOp (· * ·)
  | 10 => vPoly
  | 11 => vLawPoly
  | 12 => vIsPoly
  | 13 => vPOp (· + ·)
  | 14 => vPTimes
  | 15 => vPScaled
  | 16 => vStub
  | 17 => vStub
  | 18 => vStub
  | 19 => vStub
  | n + 20 => L n
variable {L : Nat → VF}
abbrev Gm (L : Nat → VF) : Nat → VF := G1 (G2 L)
abbrev Kq (q : R → Option (List VL.D) → Prop) : VEnds := { nx := fun _ => q (.val .non) none, rt := fun r _ => q r none }
theorem atI_dRs {l : List Rat} {k : Nat} (h : k < l.length) : atI (dRs l) (k : Int) = some (dR (co l k)) := atI_nat (dRs_get h)
theorem good_poly : Good (Gm L) b_poly 1 1 vPoly := by
  rintro ds q ⟨d, l, rfl, hd, hq⟩ -
  have inv : ∀ d : VL.D, Row d l → (∀ m : Nat, m ≤ l.length → (∀ k, m ≤ k → co l k = 0) → wSs (Gm L) (ss [.whl (.and (.cmp .gt (.var 1) (.int 0)) (.cmp .eq (.ix (.var 0) (.bin .sub (.var 1) (.int 1))) (.glo (.tup [.int 0, .int 1])))) (ss [.aug 1 .sub (.int 1)]),
      .ret (.blt .tuple (.cons (.sl (.var 0) .no (.yes (.var 1))) .nil))]) [.val d, .val (.int m)] (Kq q)) := by
    intro d hd m hm h0
    refine ⟨fun m ρ => ρ = [.val d, .val (.int (m : Nat))] ∧ m ≤ l.length ∧ ∀ k, m ≤ k → co l k = 0, ⟨m, rfl, hm, h0⟩, ?_⟩
    rintro m _ ⟨rfl, hm, h0⟩
    have fin : (m = 0 ∨ co l (m - 1) ≠ 0) → wSs (Gm L) (ss [.ret (.blt .tuple (.cons (.sl (.var 0) .no (.yes (.var 1))) .nil))]) [.val d, .val (.int (m : Nat))] (Kq q) := fun h2 => by
      have e : VL.D.tup (cutD (dRs l) none (some (m : Int))) = dP (trim l) := by
        rw [cut_to, ← take_trim hm h0 h2]
        unfold dP dRs
        rw [List.map_take]
      rcases hd with rfl | rfl
      · show q (.val (.tup (cutD (dRs l) none (some (m : Int))))) none
        rw [e]; exact hq
      · show q (.val (.tup (cutD (dRs l) none (some (m : Int))))) none
        rw [e]; exact hq
    have e0 : VL.D.tup [.int 0, .int 1] = dR 0 := rfl
    refine ⟨fun t => ?_, fun t => ⟨fun z => (by cases z), fun _ => fin (.inl ?_)⟩⟩
    · have t : 0 < (m : Int) := dec_t t
      have m1 : m - 1 < l.length := by omega
      have at1 : atI (dRs l) ((m : Int) - 1) = some (dR (co l (m - 1))) := by
        have := atI_dRs m1
        rw [show ((m - 1 : Nat) : Int) = (m : Int) - 1 by omega] at this
        exact this
      have go : br (deq (dR (co l (m - 1))) (.tup [.int 0, .int 1])) (∃ m', m' < m ∧ ([.val d, .val (.int ((m : Int) - 1))] : En) = [.val d, .val (.int (m' : Nat))] ∧ m' ≤ l.length ∧ ∀ k, m' ≤ k → co l k = 0) (wSs (Gm L) (ss [.ret (.blt .tuple (.cons (.sl (.var 0) .no (.yes (.var 1))) .nil))]) [.val d, .val (.int (m : Nat))] (Kq q)) := by
        rw [e0, deq_dR]
        refine ⟨fun z => ?_, fun z => fin (.inr (dec_f z))⟩
        have z := dec_t z
        refine ⟨m - 1, by omega, by rw [show ((m - 1 : Nat) : Int) = (m : Int) - 1 by omega], by omega, fun k hk => ?_⟩
        by_cases e : k = m - 1
        · rw [e, z]
        · exact h0 k (by omega)
      have shp : dsh (dR (co l (m - 1))) = true := rfl
      rcases hd with rfl | rfl
      · exact ⟨_, at1, rfl, rfl, fun z => (let ⟨m', a, b, c⟩ := go.1 z; ⟨_, rfl, m', a, b, c⟩), fun z => go.2 z⟩
      · exact ⟨_, at1, rfl, rfl, fun z => (let ⟨m', a, b, c⟩ := go.1 z; ⟨_, rfl, m', a, b, c⟩), fun z => go.2 z⟩
    · have t : ¬ 0 < (m : Int) := dec_f t
      omega
  have h0 : ∀ k, l.length ≤ k → co l k = 0 := fun k hk => co_out hk
  rcases hd with rfl | rfl
  · have := inv _ (.inl rfl) l.length (Nat.le_refl _) h0
    rw [← dRs_len l] at this
    exact this
  · have := inv _ (.inr rfl) l.length (Nat.le_refl _) h0
    rw [← dRs_len l] at this
    exact this
theorem good_degree : Good (Gm L) b_degree 1 0 vDegree := by
  rintro ds q ⟨l, rfl, hq⟩ -
  rw [← dRs_len l] at hq
  exact hq
theorem good_at_power : Good (Gm L) b_at_power 2 0 vAtPower := by
  rintro ds q ⟨l, k, rfl, hq⟩ -
  refine ⟨fun t => ?_, fun t => ?_⟩
  · have t : (k : Int) < ((dRs l).length : Int) := dec_t t
    rw [dRs_len] at t
    exact ⟨_, atI_dRs (by omega), hq⟩
  · have t : ¬ (k : Int) < ((dRs l).length : Int) := dec_f t
    rw [dRs_len] at t
    rw [co_out (by omega)] at hq
    exact hq
theorem good_p_plus : Good (Gm L) b_p_plus 2 1 (vPOp (· + ·)) := by
  rintro ds q ⟨l, m, s, rfl, hl, hm, s1, s2, l1, l2, hq⟩ -
  have lenl := dRs_len l
  have lenm := dRs_len m
  have emax : (max ((dRs l).length : Int) ((dRs m).length : Int)).toNat = max l.length m.length := by rw [lenl, lenm]; omega
  refine ⟨⟨by rw [lenl, lenm]; omega, by rw [lenl, lenm]; omega⟩, ?_, fun k acc ρ => acc = dRs ((List.range k).map fun t => co l t + co m t) ∧ ρ = [.val (dP l), .val (dP m), .un], ⟨rfl, rfl⟩, ?_, ?_⟩
  · rw [rngs_length, emax]; unfold Sm; omega
  · rintro k d acc _ hd ⟨rfl, rfl⟩
    obtain ⟨rfl, hk⟩ := rngs_at hd
    refine ⟨fun _ => ?_, fun h => (by cases h)⟩
    refine ⟨rfl, l, k, rfl, .inl rfl, rfl, m, k, rfl, .inl rfl, rfl, co l k, co m k, rfl, sz_rb (pb_co hl s1 k) s2, sz_rb (pb_co hm s1 k) s2, .inl rfl, ?_, rfl⟩
    rw [List.range_succ, List.map_append]
    unfold dRs
    rw [List.map_append]
    rfl
  · rintro acc _ ⟨rfl, rfl⟩
    rw [rngs_length, emax]
    exact ⟨rfl, _, _, rfl, .inl rfl, .inl rfl, hq⟩
theorem good_p_minus : Good (Gm L) b_p_minus 2 1 (vPOp (· - ·)) := by
  rintro ds q ⟨l, m, s, rfl, hl, hm, s1, s2, l1, l2, hq⟩ -
  have lenl := dRs_len l
  have lenm := dRs_len m
  have emax : (max ((dRs l).length : Int) ((dRs m).length : Int)).toNat = max l.length m.length := by rw [lenl, lenm]; omega
  refine ⟨⟨by rw [lenl, lenm]; omega, by rw [lenl, lenm]; omega⟩, ?_, fun k acc ρ => acc = dRs ((List.range k).map fun t => co l t - co m t) ∧ ρ = [.val (dP l), .val (dP m), .un], ⟨rfl, rfl⟩, ?_, ?_⟩
  · rw [rngs_length, emax]; unfold Sm; omega
  · rintro k d acc _ hd ⟨rfl, rfl⟩
    obtain ⟨rfl, hk⟩ := rngs_at hd
    refine ⟨fun _ => ?_, fun h => (by cases h)⟩
    refine ⟨rfl, l, k, rfl, .inl rfl, rfl, m, k, rfl, .inl rfl, rfl, co l k, co m k, rfl, sz_rb (pb_co hl s1 k) s2, sz_rb (pb_co hm s1 k) s2, .inl rfl, ?_, rfl⟩
    rw [List.range_succ, List.map_append]
    unfold dRs
    rw [List.map_append]
    rfl
  · rintro acc _ ⟨rfl, rfl⟩
    rw [rngs_length, emax]
    exact ⟨rfl, _, _, rfl, .inl rfl, .inl rfl, hq⟩
theorem good_p_scaled : Good (Gm L) b_p_scaled 2 1 vPScaled := by
  rintro ds q ⟨l, c, s, rfl, hl, hc, s1, s2, l1, hq⟩ -
  have lenl := dRs_len l
  refine ⟨?_, fun k acc ρ => acc = dRs ((List.range k).map fun t => co l t * c) ∧ ρ = [.val (dP l), .val (dR c), .un], ⟨rfl, rfl⟩, ?_, ?_⟩
  · rw [lenl]; unfold Sm; omega
  · rintro k d acc _ hd ⟨rfl, rfl⟩
    have hk : k < l.length := by rw [← lenl]; exact (List.getElem?_eq_some_iff.mp hd).1
    rw [dRs_get hk] at hd
    cases hd
    refine ⟨fun _ => ?_, fun h => (by cases h)⟩
    refine ⟨rfl, co l k, c, rfl, sz_rb (pb_co hl s1 k) s2, sz_rb hc s2, .inl rfl, ?_, rfl⟩
    rw [List.range_succ, List.map_append]
    unfold dRs
    rw [List.map_append]
    rfl
  · rintro acc _ ⟨rfl, rfl⟩
    rw [lenl]
    exact ⟨rfl, _, _, rfl, .inl rfl, .inl rfl, hq⟩
theorem rngs1_at {n k : Nat} {d : VL.D} (h : (rngs 1 n 1)[k]? = some d) : d = .int (k + 1 : Nat) ∧ k < n := by
  unfold rngs at h
  rw [List.getElem?_map] at h
  by_cases hk : k < n
  · rw [List.getElem?_range hk] at h
    cases h
    refine ⟨?_, hk⟩
    show VL.D.int (1 + (k : Int) * 1) = _
    rw [Int.mul_one, Int.add_comm]; rfl
  · rw [List.getElem?_eq_none (by simp; omega)] at h
    cases h
theorem good_p_slope : Good (Gm L) b_p_slope 1 1 vPSlope := by
  rintro ds q ⟨l, s, rfl, hl, s1, s2, l1, hq⟩ -
  have lenl := dRs_len l
  have e : (((dRs l).length : Int) - 1).toNat = l.length - 1 := by rw [lenl]; omega
  refine ⟨⟨by decide, by decide, by rw [lenl]; omega, by rw [lenl]; omega⟩, ?_, fun k acc ρ => acc = dRs ((List.range k).map fun k => ((k + 1 : Nat) : Rat) * co l (k + 1)) ∧ ρ = [.val (dP l), .un], ⟨rfl, rfl⟩, ?_, ?_⟩
  · rw [rngs_length, e]; unfold Sm; omega
  · rintro k d acc _ hd ⟨rfl, rfl⟩
    obtain ⟨rfl, hk⟩ := rngs1_at hd
    rw [e] at hk
    refine ⟨fun _ => ?_, fun h => (by cases h)⟩
    have hk1 : RB' s (((k + 1 : Nat) : Rat)) := by
      have e10 : (2 : Nat) ^ 10 = 1024 := by decide
      have : k + 1 < 2 ^ s := Nat.lt_of_lt_of_le (by omega) (Nat.pow_le_pow_right (by decide) s1)
      refine ⟨?_, ?_⟩
      · exact abs_nat this
      · show 1 < 2 ^ s
        omega
    refine ⟨rfl, _, atI_dRs (k := k + 1) (by omega), rfl, ((k + 1 : Nat) : Rat), co l (k + 1), rfl, sz_rb hk1 s2, sz_rb (pb_co hl (by omega) (k + 1)) s2, .inl rfl, ?_, rfl⟩
    rw [List.range_succ, List.map_append]
    unfold dRs
    rw [List.map_append]
    rfl
  · rintro acc _ ⟨rfl, rfl⟩
    rw [rngs_length, e]
    exact ⟨rfl, _, _, rfl, .inl rfl, .inl rfl, hq⟩
theorem lfs_dRs : ∀ l : List Rat, lfs (dRs l) = true
  | [] => rfl
  | a :: l => by
    show (lf (dR a) && lfs (dRs l)) = true
    rw [lfs_dRs l]; rfl
theorem lf_dP (l : List Rat) : lfR (.val (dP l)) = true := by
  show lf (.tup (dRs l)) = true
  unfold lf
  exact lfs_dRs l
theorem ixN_nat {n j : Nat} (h : j < n) : ixN n (j : Int) = some j := by
  have hj : j < (List.replicate n (0 : Nat)).length := by simpa using h
  unfold ixN
  rw [if_pos (by omega : (0 : Int) ≤ j)]
  simp [h]
theorem co_set {l : List Rat} {i : Nat} {x : Rat} (h : i < l.length) (t : Nat) : co (l.set i x) t = if t = i then x else co l t := by
  unfold co
  rw [List.getD_eq_getElem?_getD, List.getElem?_set]
  by_cases e : i = t
  · subst e; rw [if_pos rfl, if_pos h, if_pos rfl]; rfl
  · rw [if_neg e, if_neg (Ne.symm e), List.getD_eq_getElem?_getD]
theorem dRs_set (l : List Rat) (i : Nat) (x : Rat) : (dRs l).set i (dR x) = dRs (l.set i x) := by
  unfold dRs; rw [List.map_set]
theorem co_rep (n t : Nat) : co (List.replicate n 0) t = 0 := by
  unfold co
  rw [List.getD_eq_getElem?_getD, List.getElem?_replicate]
  split <;> rfl
theorem rep_row (n : Nat) : (List.replicate n [dR 0]).flatten = dRs (List.replicate n 0) := by
  unfold dRs
  induction n with
  | zero => rfl
  | succ n ih => rw [List.replicate_succ, List.flatten_cons, ih, List.replicate_succ]; rfl
theorem enum_at {l : List Rat} {k : Nat} {d : VL.D} (h : ((dRs l).mapIdx fun i d => VL.D.tup [.int (i : Nat), d])[k]? = some d) : k < l.length ∧ d = .tup [.int k, dR (co l k)] := by
  rw [List.getElem?_mapIdx] at h
  by_cases hk : k < l.length
  · rw [dRs_get hk] at h
    cases h
    exact ⟨hk, rfl⟩
  · rw [List.getElem?_eq_none (by rw [dRs_len]; omega)] at h
    cases h
theorem cv_mk (l m : List Rat) (acc : List Rat) (h : acc.length = l.length + m.length) (c : ∀ t, co acc t = cv l m l.length t) : trim acc = pmul l m := by
  refine isT_ext (trim_isT _) (mk_isT _ _) fun t => ?_
  rw [trim_co]
  unfold pmul
  rw [mk_co]
  split
  · exact c t
  · exact co_out (by omega)
theorem good_p_times : Good (Gm L) b_p_times 2 5 vPTimes := by
  rintro ds q ⟨l, m, rfl, ⟨s, hl, hm, s1, s2, hp, hsum, l1, l2⟩, hq⟩ -
  have lenl := dRs_len l
  have lenm := dRs_len m
  have en : (((dRs l).length : Int) + ((dRs m).length : Int)).toNat = l.length + m.length := by rw [lenl, lenm]; omega
  refine ⟨rfl, by rw [en]; unfold Sm; simp only [List.length_cons, List.length_nil]; omega, by rw [lenl, lenm]; omega, by rw [lenl, lenm]; omega, ?_⟩
  have e0 : (List.replicate (((dRs l).length : Int) + ((dRs m).length : Int)).toNat [VL.D.tup [.int 0, .int 1]]).flatten = dRs (List.replicate (l.length + m.length) 0) := by
    rw [en]; exact rep_row _
  refine ⟨fun k ρ => ∃ acc s3 s4 s5 s6, ρ = [.val (dP l), .val (dP m), .own (dRs acc), s3, s4, s5, s6] ∧ acc.length = l.length + m.length ∧ (∀ t, co acc t = cv l m k t), ⟨_, .un, .un, .un, .un, congrArg (fun z => ([.val (dP l), .val (dP m), .own z, .un, .un, .un, .un] : En)) e0, by simp, fun t => co_rep _ t⟩, ?_, ?_⟩
  · rintro k d _ hd ⟨acc, s3, s4, s5, s6, rfl, hlen, hc⟩
    obtain ⟨hk, rfl⟩ := enum_at hd
    refine ⟨rfl, fun j ρ => ∃ acc s5 s6, ρ = [.val (dP l), .val (dP m), .own (dRs acc), .val (.int k), .val (dR (co l k)), s5, s6] ∧ acc.length = l.length + m.length ∧ (∀ t, co acc t = cv l m k t + (if k ≤ t ∧ t - k < j then co l k * co m (t - k) else 0)), ⟨acc, _, _, rfl, hlen, fun t => ?_⟩, ?_, ?_⟩
    · rw [if_neg (by omega), Rat.add_zero]; exact hc t
    · rintro j d _ hd ⟨acc, s5, s6, rfl, hlen, hc⟩
      obtain ⟨hj, rfl⟩ := enum_at hd
      have hkj : k + j < acc.length := by omega
      have ea : (k : Int) + (j : Int) = ((k + j : Nat) : Int) := by omega
      have at1 : atI (dRs acc) ((k : Int) + (j : Int)) = some (dR (co acc (k + j))) := by rw [ea]; exact atI_dRs hkj
      have ix1 : ixN (dRs acc).length ((k : Int) + (j : Int)) = some (k + j) := by rw [ea, dRs_len]; exact ixN_nat hkj
      have p1 := hp k j
      have o1 : RB' s (co acc (k + j)) := by rw [hc]; exact hsum k j (k + j)
      refine ⟨rfl, _, at1, rfl, _, _, rfl, sz_rb (pb_co hl s1 k) (by omega), sz_rb (pb_co hm s1 j) (by omega), .inl rfl, rfl, _, _, rfl, sz_rb o1 (by omega), sz_rb p1 (by omega), .inl rfl, rfl, k + j, ix1, acc.set (k + j) (co acc (k + j) + co l k * co m j), .val (.int j), .val (dR (co m j)), ?_, by rw [List.length_set]; exact hlen, fun t => ?_⟩
      · rw [← dRs_set]; rfl
      · rw [co_set hkj]
        by_cases e : t = k + j
        · subst e
          rw [if_pos rfl, if_pos (by omega), hc, if_neg (by omega), Rat.add_zero, show k + j - k = j by omega]
        · rw [if_neg e, hc]
          congr 1
          by_cases g : k ≤ t ∧ t - k < j
          · rw [if_pos g, if_pos (by omega)]
          · rw [if_neg g, if_neg (by omega)]
    · rintro _ ⟨acc, s5, s6, rfl, hlen, hc⟩
      rw [List.length_mapIdx, lenm] at hc
      refine ⟨acc, _, _, _, _, rfl, hlen, fun t => ?_⟩
      rw [hc]
      show _ = cv l m k t + (if k ≤ t then co l k * co m (t - k) else 0)
      congr 1
      by_cases g : k ≤ t
      · rw [if_pos g]
        by_cases g2 : t - k < m.length
        · rw [if_pos ⟨g, g2⟩]
        · rw [if_neg (by omega), co_out (show m.length ≤ t - k by omega), Rat.mul_zero]
      · rw [if_neg g, if_neg (by omega)]
  · rintro _ ⟨acc, s3, s4, s5, s6, rfl, hlen, hc⟩
    rw [List.length_mapIdx, lenl] at hc
    rw [← cv_mk l m acc hlen hc] at hq
    exact ⟨rfl, _, acc, rfl, .inl rfl, .inr (lf_dP _), hq⟩
theorem good_law_sum : Good (Gm L) b_law_sum 2 0 (vOp (· + ·)) := by
  rintro ds q ⟨a, b, rfl, ⟨a1, a2⟩, ⟨b1, b2⟩, hq⟩ -
  have hq : q (.val (dR (a + b))) none := hq
  rw [← add_divInt] at hq
  exact ⟨_, rfl, _, rfl, sz_mul a1 (abs_nat b2), _, rfl, _, rfl, sz_mul b1 (abs_nat a2), _, rfl, _, rfl, sz_mul (abs_nat a2) (abs_nat b2), rfl, _, _, rfl, Int.mul_pos (den_p a) (den_p b), .inl rfl, hq⟩
theorem good_law_product : Good (Gm L) b_law_product 2 0 (vOp (· * ·)) := by
  rintro ds q ⟨a, b, rfl, ⟨a1, a2⟩, ⟨b1, b2⟩, hq⟩ -
  have hq : q (.val (dR (a * b))) none := hq
  rw [← mul_divInt] at hq
  exact ⟨_, rfl, _, rfl, sz_mul a1 b1, _, rfl, _, rfl, sz_mul (abs_nat a2) (abs_nat b2), rfl, _, _, rfl, Int.mul_pos (den_p a) (den_p b), .inl rfl, hq⟩
theorem good_law_poly_of : Good (Gm L) b_law_poly_of 1 1 vPoly := by
  rintro ds q ⟨d, l, rfl, hd, hq⟩ -
  have inv : ∀ d : VL.D, Row d l → (∀ m : Nat, m ≤ l.length → (∀ k, m ≤ k → co l k = 0) → wSs (Gm L) (ss [.whl (.and (.cmp .gt (.var 1) (.int 0)) (.cmp .eq (.ix (.ix (.var 0) (.bin .sub (.var 1) (.int 1))) (.int 0)) (.int 0))) (ss [.asg 1 (.bin .sub (.var 1) (.int 1))]),
      .ret (.blt .tuple (.cons (.sl (.var 0) .no (.yes (.var 1))) .nil))]) [.val d, .val (.int m)] (Kq q)) := by
    intro d hd m hm h0
    refine ⟨fun m ρ => ρ = [.val d, .val (.int (m : Nat))] ∧ m ≤ l.length ∧ ∀ k, m ≤ k → co l k = 0, ⟨m, rfl, hm, h0⟩, ?_⟩
    rintro m _ ⟨rfl, hm, h0⟩
    have fin : (m = 0 ∨ co l (m - 1) ≠ 0) → wSs (Gm L) (ss [.ret (.blt .tuple (.cons (.sl (.var 0) .no (.yes (.var 1))) .nil))]) [.val d, .val (.int (m : Nat))] (Kq q) := fun h2 => by
      have e : VL.D.tup (cutD (dRs l) none (some (m : Int))) = dP (trim l) := by
        rw [cut_to, ← take_trim hm h0 h2]
        unfold dP dRs
        rw [List.map_take]
      rcases hd with rfl | rfl
      · show q (.val (.tup (cutD (dRs l) none (some (m : Int))))) none
        rw [e]; exact hq
      · show q (.val (.tup (cutD (dRs l) none (some (m : Int))))) none
        rw [e]; exact hq
    have e0 : VL.D.tup [.int 0, .int 1] = dR 0 := rfl
    refine ⟨fun t => ?_, fun t => ⟨fun z => (by cases z), fun _ => fin (.inl ?_)⟩⟩
    · have t : 0 < (m : Int) := dec_t t
      have m1 : m - 1 < l.length := by omega
      have at1 : atI (dRs l) ((m : Int) - 1) = some (dR (co l (m - 1))) := by
        have := atI_dRs m1
        rw [show ((m - 1 : Nat) : Int) = (m : Int) - 1 by omega] at this
        exact this
      have go : br (decide ((co l (m - 1)).num = 0)) (∃ m', m' < m ∧ ([.val d, .val (.int ((m : Int) - 1))] : En) = [.val d, .val (.int (m' : Nat))] ∧ m' ≤ l.length ∧ ∀ k, m' ≤ k → co l k = 0) (wSs (Gm L) (ss [.ret (.blt .tuple (.cons (.sl (.var 0) .no (.yes (.var 1))) .nil))]) [.val d, .val (.int (m : Nat))] (Kq q)) := by
        refine ⟨fun z => ?_, fun z => fin (.inr fun w => dec_f z (by rw [w]; rfl))⟩
        have z : co l (m - 1) = 0 := Rat.num_eq_zero.mp (dec_t z)
        refine ⟨m - 1, by omega, by rw [show ((m - 1 : Nat) : Int) = (m : Int) - 1 by omega], by omega, fun k hk => ?_⟩
        by_cases e : k = m - 1
        · rw [e, z]
        · exact h0 k (by omega)
      have shp : dsh (dR (co l (m - 1))) = true := rfl
      rcases hd with rfl | rfl
      · exact ⟨_, at1, _, rfl, fun z => (let ⟨m', a, b, c⟩ := go.1 z; ⟨m', a, b, c⟩), fun z => go.2 z⟩
      · exact ⟨_, at1, _, rfl, fun z => (let ⟨m', a, b, c⟩ := go.1 z; ⟨m', a, b, c⟩), fun z => go.2 z⟩
    · have t : ¬ 0 < (m : Int) := dec_f t
      omega
  have h0 : ∀ k, l.length ≤ k → co l k = 0 := fun k hk => co_out hk
  rcases hd with rfl | rfl
  · have := inv _ (.inl rfl) l.length (Nat.le_refl _) h0
    rw [← dRs_len l] at this
    exact this
  · have := inv _ (.inr rfl) l.length (Nat.le_refl _) h0
    rw [← dRs_len l] at this
    exact this
theorem good_law_multiplied : Good (Gm L) b_law_multiplied 2 5 vPTimes := by
  rintro ds q ⟨l, m, rfl, ⟨s, hl, hm, s1, s2, hp, hsum, l1, l2⟩, hq⟩ -
  have lenl := dRs_len l
  have lenm := dRs_len m
  have en : (((dRs l).length : Int) + ((dRs m).length : Int)).toNat = l.length + m.length := by rw [lenl, lenm]; omega
  refine ⟨rfl, rfl, by rw [en]; unfold Sm; simp only [List.length_cons, List.length_nil]; omega, by rw [lenl, lenm]; omega, by rw [lenl, lenm]; omega, ?_⟩
  have e0 : (List.replicate (((dRs l).length : Int) + ((dRs m).length : Int)).toNat [VL.D.tup [.int 0, .int 1]]).flatten = dRs (List.replicate (l.length + m.length) 0) := by
    rw [en]; exact rep_row _
  refine ⟨fun k ρ => ∃ acc s3 s4 s5 s6, ρ = [.val (dP l), .val (dP m), .own (dRs acc), s3, s4, s5, s6] ∧ acc.length = l.length + m.length ∧ (∀ t, co acc t = cv l m k t), ⟨_, .un, .un, .un, .un, congrArg (fun z => ([.val (dP l), .val (dP m), .own z, .un, .un, .un, .un] : En)) e0, by simp, fun t => co_rep _ t⟩, ?_, ?_⟩
  · rintro k d _ hd ⟨acc, s3, s4, s5, s6, rfl, hlen, hc⟩
    obtain ⟨hk, rfl⟩ := enum_at hd
    refine ⟨rfl, fun j ρ => ∃ acc s5 s6, ρ = [.val (dP l), .val (dP m), .own (dRs acc), .val (.int k), .val (dR (co l k)), s5, s6] ∧ acc.length = l.length + m.length ∧ (∀ t, co acc t = cv l m k t + (if k ≤ t ∧ t - k < j then co l k * co m (t - k) else 0)), ⟨acc, _, _, rfl, hlen, fun t => ?_⟩, ?_, ?_⟩
    · rw [if_neg (by omega), Rat.add_zero]; exact hc t
    · rintro j d _ hd ⟨acc, s5, s6, rfl, hlen, hc⟩
      obtain ⟨hj, rfl⟩ := enum_at hd
      have hkj : k + j < acc.length := by omega
      have ea : (k : Int) + (j : Int) = ((k + j : Nat) : Int) := by omega
      have at1 : atI (dRs acc) ((k : Int) + (j : Int)) = some (dR (co acc (k + j))) := by rw [ea]; exact atI_dRs hkj
      have ix1 : ixN (dRs acc).length ((k : Int) + (j : Int)) = some (k + j) := by rw [ea, dRs_len]; exact ixN_nat hkj
      have p1 := hp k j
      have o1 : RB' s (co acc (k + j)) := by rw [hc]; exact hsum k j (k + j)
      refine ⟨rfl, _, at1, rfl, _, _, rfl, sz_rb (pb_co hl s1 k) (by omega), sz_rb (pb_co hm s1 j) (by omega), .inl rfl, rfl, _, _, rfl, sz_rb o1 (by omega), sz_rb p1 (by omega), .inl rfl, rfl, k + j, ix1, acc.set (k + j) (co acc (k + j) + co l k * co m j), .val (.int j), .val (dR (co m j)), ?_, by rw [List.length_set]; exact hlen, fun t => ?_⟩
      · rw [← dRs_set]; rfl
      · rw [co_set hkj]
        by_cases e : t = k + j
        · subst e
          rw [if_pos rfl, if_pos (by omega), hc, if_neg (by omega), Rat.add_zero, show k + j - k = j by omega]
        · rw [if_neg e, hc]
          congr 1
          by_cases g : k ≤ t ∧ t - k < j
          · rw [if_pos g, if_pos (by omega)]
          · rw [if_neg g, if_neg (by omega)]
    · rintro _ ⟨acc, s5, s6, rfl, hlen, hc⟩
      rw [List.length_mapIdx, lenm] at hc
      refine ⟨acc, _, _, _, _, rfl, hlen, fun t => ?_⟩
      rw [hc]
      show _ = cv l m k t + (if k ≤ t then co l k * co m (t - k) else 0)
      congr 1
      by_cases g : k ≤ t
      · rw [if_pos g]
        by_cases g2 : t - k < m.length
        · rw [if_pos ⟨g, g2⟩]
        · rw [if_neg (by omega), co_out (show m.length ≤ t - k by omega), Rat.mul_zero]
      · rw [if_neg g, if_neg (by omega)]
  · rintro _ ⟨acc, s3, s4, s5, s6, rfl, hlen, hc⟩
    rw [List.length_mapIdx, lenl] at hc
    rw [← cv_mk l m acc hlen hc] at hq
    exact ⟨rfl, _, acc, rfl, .inl rfl, .inr (lf_dP _), hq⟩
theorem good_law_scaled : Good (Gm L) b_law_scaled 2 1 vPScaled := by
  rintro ds q ⟨l, c, s, rfl, hl, hc, s1, s2, l1, hq⟩ -
  have lenl := dRs_len l
  refine ⟨?_, fun k acc ρ => acc = dRs ((List.range k).map fun t => co l t * c) ∧ ρ = [.val (dP l), .val (dR c), .un], ⟨rfl, rfl⟩, ?_, ?_⟩
  · rw [lenl]; unfold Sm; omega
  · rintro k d acc _ hd ⟨rfl, rfl⟩
    have hk : k < l.length := by rw [← lenl]; exact (List.getElem?_eq_some_iff.mp hd).1
    rw [dRs_get hk] at hd
    cases hd
    refine ⟨fun _ => ?_, fun h => (by cases h)⟩
    refine ⟨rfl, co l k, c, rfl, sz_rb (pb_co hl s1 k) s2, sz_rb hc s2, .inl rfl, ?_, rfl⟩
    rw [List.range_succ, List.map_append]
    unfold dRs
    rw [List.map_append]
    rfl
  · rintro acc _ ⟨rfl, rfl⟩
    rw [lenl]
    exact ⟨rfl, _, _, rfl, .inl rfl, .inl rfl, hq⟩
theorem pb_trim {s : Nat} {l : List Rat} (h : PB s l) : PB s (trim l) := fun r hr => by
  obtain ⟨k, hk, rfl⟩ := List.getElem_of_mem hr
  have e := trim_co l k
  rw [co_in hk, co_in (Nat.lt_of_lt_of_le hk (trim_le l))] at e
  rw [e]
  exact h _ (List.getElem_mem _)
theorem good_law_poly : Good (Gm L) b_law_poly 2 1 vLawPoly := by
  rintro ds0 rest q ⟨n, b, m, e, hb, hn, hm, hq⟩ -
  cases e
  refine ⟨rfl, rfl, n, ds0, _, rfl, hb, by omega, by omega, fun t b1 t1 t2 hb1 => ⟨b1, rfl, ⟨by omega, by omega⟩, ?_⟩⟩
  refine ⟨by rw [rngs_length]; unfold Sm; omega, fun k acc ρ => ∃ b l, ρ = [.par b, .val (.int m), .un] ∧ acc = dRs l ∧ l.length = k ∧ PB 50 l ∧ Bx (n + 1 + 3 * k) b, ⟨b1, [], rfl, rfl, rfl, fun _ h => (by cases h), hb1⟩, ?_, ?_⟩
  · rintro k d acc _ hd ⟨b, l, rfl, rfl, hlen, hl, hb⟩
    obtain ⟨rfl, hk⟩ := rngs_at hd
    refine ⟨fun _ => ⟨rfl, rfl, n + 1 + 3 * k, b, rfl, hb, by omega, fun r b' hr hb' => ⟨b', rfl, b', l ++ [r], rfl, ?_, by simp [hlen], fun x hx => ?_, hb'⟩⟩, fun h => (by cases h)⟩
    · unfold dRs; rw [List.map_append]; rfl
    · rcases List.mem_append.mp hx with z | z
      · exact hl x z
      · rw [List.mem_singleton.mp z]; exact hr
  · rintro acc _ ⟨b, l, rfl, rfl, hlen, hl, hb⟩
    rw [rngs_length] at hlen hb
    refine ⟨rfl, _, l, rfl, .inl rfl, .inl rfl, ⟨_, rfl⟩, _, rfl, hq _ _ (pb_trim hl) (trim_isT l) (Nat.le_trans (trim_le l) (by omega)) (bx_one hb (by omega))⟩
theorem atI_end {l : List Rat} (h : l ≠ []) : atI (dRs l) (-1) = some (dR (co l (l.length - 1))) := by
  have e : l = l.dropLast ++ [l.getLast h] := (List.dropLast_concat_getLast h).symm
  have e2 : dRs l = dRs l.dropLast ++ [dR (l.getLast h)] := by
    conv => lhs; rw [e]
    unfold dRs; rw [List.map_append]; rfl
  have e3 : co l (l.length - 1) = l.getLast h := by
    have : l.length - 1 < l.length := by have := List.length_pos_iff.mpr h; omega
    rw [co_in this, List.getLast_eq_getElem]
  rw [e3, e2]
  exact atI_last _ _
theorem good_law_is_poly : Good (Gm L) b_law_is_poly 1 1 vIsPoly := by
  rintro ds q ⟨l, rfl, ht, hl, hq⟩ -
  have lenl := dRs_len l
  refine ⟨fun h => (by cases h), fun _ => ?_⟩
  refine ⟨by rw [lenl]; unfold Sm; omega, fun k acc ρ => acc = (List.replicate k true).map VL.D.bl ∧ ρ = [.val (dP l), .un], ⟨rfl, rfl⟩, ?_, ?_⟩
  · rintro k d acc _ hd ⟨rfl, rfl⟩
    have hk : k < l.length := by rw [← lenl]; exact (List.getElem?_eq_some_iff.mp hd).1
    rw [dRs_get hk] at hd
    cases hd
    refine ⟨fun _ => ⟨rfl, co l k, rfl, .inl rfl, ?_, rfl⟩, fun h => (by cases h)⟩
    rw [List.replicate_succ', List.map_append]; rfl
  · rintro acc _ ⟨rfl, rfl⟩
    have all1 : ∀ n, (List.replicate n true).all id = true := fun n => by simp
    refine ⟨_, rfl, fun h => ?_, fun _ => ⟨fun h => ?_, fun h => ?_⟩⟩
    · rw [all1] at h; cases h
    · exact hq
    · have h : ¬ ((dRs l).length : Int) = 0 := dec_f h
      have hne : l ≠ [] := fun z => by subst z; exact h rfl
      refine ⟨_, atI_end hne, _, rfl, ?_⟩
      have hnz : (co l (l.length - 1)).num ≠ 0 := fun z => by
        rcases ht with e | e
        · exact hne e
        · exact e (Rat.num_eq_zero.mp z)
      show q (.val (.bl (!decide _))) none
      rw [decide_eq_false hnz]
      exact hq
theorem pad_at {l m : List Rat} {k : Nat} (h : k < max l.length m.length) : atI (dRs l ++ (List.replicate ((dRs m).length : Int).toNat [dR 0]).flatten) (k : Int) = some (dR (co l k)) := by
  refine atI_nat ?_
  by_cases g : k < l.length
  · rw [List.getElem?_append_left (by rw [dRs_len]; exact g), dRs_get g]
  · rw [List.getElem?_append_right (by rw [dRs_len]; omega), rep_row, dRs_get (by rw [List.length_replicate, dRs_len, dRs_len]; omega), co_rep, co_out (by omega)]
theorem good_law_added : Good (Gm L) b_law_added 2 2 (vPOp (· + ·)) := by
  rintro ds q ⟨l, m, s, rfl, hl, hm, s1, s2, l1, l2, hq⟩ -
  have lenl := dRs_len l
  have lenm := dRs_len m
  have emax : (max ((dRs l).length : Int) ((dRs m).length : Int)).toNat = max l.length m.length := by rw [lenl, lenm]; omega
  refine ⟨rfl, ⟨by rw [lenl, lenm]; omega, by rw [lenl, lenm]; omega⟩, fun k ρ => ∃ s3, ρ = [.val (dP l), .val (dP m), .own (dRs ((List.range k).map fun t => co l t + co m t)), s3], ⟨_, rfl⟩, ?_, ?_⟩
  · rintro k d _ hd ⟨s3, rfl⟩
    obtain ⟨rfl, hk⟩ := rngs_at hd
    rw [emax] at hk
    have f1 : ∀ x : List Rat, x.length ≤ 1000 → Sm (([VL.D.tup [.int 0, .int 1]] : List VL.D).length * ((dRs x).length : Int).toNat) ∧ -(2 ^ 63) ≤ ((dRs x).length : Int) ∧ ((dRs x).length : Int) < 2 ^ 63 := fun x hx => by
      rw [dRs_len]; unfold Sm; simp only [List.length_cons, List.length_nil]
      exact ⟨by omega, by omega, by omega⟩
    have f2 : ∀ x y : List Rat, x.length ≤ 1000 → y.length ≤ 1000 → Sm ((dRs x).length + (List.replicate ((dRs y).length : Int).toNat [VL.D.tup [.int 0, .int 1]]).flatten.length) := fun x y hx hy => by
      have : (List.replicate ((dRs y).length : Int).toNat [VL.D.tup [.int 0, .int 1]]).flatten = dRs (List.replicate ((dRs y).length : Int).toNat 0) := rep_row _
      rw [this, dRs_len, dRs_len, List.length_replicate, dRs_len]; unfold Sm; omega
    obtain ⟨a1, a2, a3⟩ := f1 m l2
    obtain ⟨c1, c2, c3⟩ := f1 l l1
    refine ⟨rfl, rfl, rfl, a1, a2, a3, f2 l m l1 l2, _, pad_at hk, rfl, rfl, c1, c2, c3, f2 m l l2 l1, _, pad_at (by omega), rfl, co l k, co m k, rfl, sz_rb (pb_co hl s1 k) s2, sz_rb (pb_co hm s1 k) s2, .inl rfl, ?_, .val (.int k), ?_⟩
    · rw [dRs_len, List.length_map, List.length_range]; omega
    · rw [List.range_succ, List.map_append]
      unfold dRs
      rw [List.map_append]
      rfl
  · rintro _ ⟨s3, rfl⟩
    rw [rngs_length, emax]
    exact ⟨rfl, _, _, rfl, .inl rfl, .inr (lf_dP _), hq⟩
/-! ### data that is compared -/
def okD (n : Nat) (d : VL.D) : Prop := PyData.canLay0 (toP d) = true ∧ PyData.depth (toP d) ≤ n
def okDs (n : Nat) (ds : List VL.D) : Prop := PyData.canLayAll0 (toPs ds) = true ∧ PyData.depthAll (toPs ds) ≤ n
theorem okDs_of {n : Nat} : ∀ {ds : List VL.D}, (∀ d ∈ ds, okD n d) → okDs n ds
  | [], _ => ⟨rfl, Nat.zero_le _⟩
  | d :: ds, h => by
    have h1 := h d List.mem_cons_self
    have h2 := okDs_of (ds := ds) fun x hx => h x (List.mem_cons_of_mem _ hx)
    exact ⟨Bool.and_eq_true_iff.mpr ⟨h1.1, h2.1⟩, Nat.max_le.mpr ⟨h1.2, h2.2⟩⟩
theorem okD_tup {n : Nat} {ds : List VL.D} (h : ∀ d ∈ ds, okD n d) : okD (n + 1) (.tup ds) := ⟨(okDs_of h).1, Nat.succ_le_succ (okDs_of h).2⟩
theorem okD_lst {n : Nat} {ds : List VL.D} (h : ∀ d ∈ ds, okD n d) : okD (n + 1) (.lst ds) := ⟨(okDs_of h).1, Nat.succ_le_succ (okDs_of h).2⟩
theorem okD_int (n : Nat) (i : Int) : okD n (.int i) := ⟨rfl, Nat.zero_le _⟩
theorem okD_mono {m n : Nat} {d : VL.D} (h : okD m d) (g : m ≤ n) : okD n d := ⟨h.1, Nat.le_trans h.2 g⟩
theorem okD_dR (r : Rat) : okD 1 (dR r) := okD_tup (n := 0) fun d hd => by
  rcases List.mem_cons.mp hd with rfl | hd
  · exact okD_int _ _
  · rw [List.mem_singleton.mp hd]; exact okD_int _ _
theorem okD_dP (l : List Rat) : okD 2 (dP l) := okD_tup fun d hd => by
  obtain ⟨r, _, rfl⟩ := List.mem_map.mp hd
  exact okD_dR r
theorem dsh_of {n : Nat} {d : VL.D} (h : okD n d) (g : n ≤ 64) : dsh d = true := Bool.and_eq_true_iff.mpr ⟨h.1, decide_eq_true (Nat.le_trans h.2 g)⟩
mutual
theorem eqv_self : ∀ d : VL.D, PyData.eqv (toP d) (toP d) = true
  | .non => rfl
  | .bl b => by unfold toP PyData.eqv; exact beq_self_eq_true b
  | .int i => by unfold toP PyData.eqv; exact beq_self_eq_true i
  | .str x => by unfold toP PyData.eqv; exact beq_self_eq_true x
  | .tup ds => by unfold toP PyData.eqv; exact eqvs_self ds
  | .lst ds => by unfold toP PyData.eqv; exact eqvs_self ds
  | .fix ds => by unfold toP PyData.eqv; exact eqvs_self ds
theorem eqvs_self : ∀ ds : List VL.D, PyData.eqvAll (toPs ds) (toPs ds) = true
  | [] => by unfold toPs PyData.eqvAll; rfl
  | d :: ds => by unfold toPs PyData.eqvAll; rw [eqv_self d, eqvs_self ds]; rfl
end
theorem deq_self (d : VL.D) : deq d d = true := eqv_self d
theorem eqvs_dRs : ∀ l m : List Rat, PyData.eqvAll (toPs (dRs l)) (toPs (dRs m)) = decide (l = m)
  | [], [] => by decide
  | [], b :: m => by
    have : (toPs (dRs (b :: m))) = toP (dR b) :: toPs (dRs m) := rfl
    rw [this]; rfl
  | a :: l, [] => by
    have : (toPs (dRs (a :: l))) = toP (dR a) :: toPs (dRs l) := rfl
    rw [this]; rfl
  | a :: l, b :: m => by
    have e1 : (toPs (dRs (b :: m))) = toP (dR b) :: toPs (dRs m) := rfl
    have e2 : (toPs (dRs (a :: l))) = toP (dR a) :: toPs (dRs l) := rfl
    rw [e1, e2]
    unfold PyData.eqvAll
    rw [eqvs_dRs l m]
    have := deq_dR a b
    unfold deq at this
    rw [this]
    by_cases h : a = b
    · by_cases g : l = m
      · subst h; subst g; simp
      · rw [decide_eq_false g, decide_eq_false (fun z => g (List.cons.inj z).2), Bool.and_false]
    · rw [decide_eq_false h, decide_eq_false (fun z => h (List.cons.inj z).1), Bool.false_and]
theorem deq_dP (l m : List Rat) : deq (dP l) (dP m) = decide (l = m) := by
  show PyData.eqv (.tuple (toPs (dRs l))) (.tuple (toPs (dRs m))) = _
  unfold PyData.eqv
  exact eqvs_dRs l m
theorem pb_mk {s n : Nat} {f : Nat → Rat} (h : ∀ k, k < n → RB' s (f k)) : PB s (mk n f) := pb_trim fun r hr => by
  obtain ⟨k, hk, rfl⟩ := List.mem_map.mp hr
  exact h k (List.mem_range.mp hk)
theorem mk_ext {n m : Nat} {f g : Nat → Rat} (h : ∀ k, (if k < n then f k else 0) = if k < m then g k else 0) : mk n f = mk m g :=
  isT_ext (mk_isT _ _) (mk_isT _ _) fun k => by rw [mk_co, mk_co]; exact h k
theorem cv_succ (l m : List Rat) (n t : Nat) : cv l m (n + 1) t = cv l m n t + (if n ≤ t then co l n * co m (t - n) else 0) := rfl
theorem cv_stop {l m : List Rat} {n t : Nat} (h : l.length ≤ n) : cv l m n t = cv l m l.length t := by
  induction n with
  | zero => have : l.length = 0 := by omega
            rw [this]
  | succ n ih =>
    by_cases e : l.length = n + 1
    · rw [e]
    · rw [cv_succ, ih (by omega), co_out (show l.length ≤ n by omega), Rat.zero_mul]
      split <;> exact Rat.add_zero _
theorem rb_cv {s : Nat} {f m : List Rat} (hf : PB s f) (hm : PB s m) (s1 : 1 ≤ s) (t : Nat) : ∀ k, RB' (k * (2 * s + 2) + 1) (cv f m k t)
  | 0 => rb_zero _ (by omega)
  | k + 1 => by
    rw [cv_succ, Nat.add_mul, Nat.one_mul]
    split
    · exact rb_mono (rb_add (rb_cv hf hm s1 t k) (rb_mul (pb_co hf s1 k) (pb_co hm s1 _))) (by omega)
    · rw [Rat.add_zero]; exact rb_mono (rb_cv hf hm s1 t k) (by omega)
theorem pt_all {l m : List Rat} {s : Nat} (hl : PB s l) (hm : PB s m) (s1 : 1 ≤ s) (h : (l.length + 1) * (2 * s + 2) ≤ 60000000) (l1 : l.length ≤ 1000) (l2 : m.length ≤ 1000) : PTok l m := by
  have e : (l.length + 1) * (2 * s + 2) = l.length * (2 * s + 2) + (2 * s + 2) := by rw [Nat.add_mul, Nat.one_mul]
  refine ⟨_, fun r hr => rb_mono (hl r hr) (by omega), fun r hr => rb_mono (hm r hr) (by omega), by omega, h, fun i j => rb_mono (rb_mul (pb_co hl s1 i) (pb_co hm s1 j)) (by omega), fun k j t => ?_, l1, l2⟩
  by_cases g : k < l.length
  · have kk : k * (2 * s + 2) + (2 * s + 2) ≤ l.length * (2 * s + 2) := by
      have := Nat.mul_le_mul_right (2 * s + 2) (show k + 1 ≤ l.length by omega)
      rw [Nat.add_mul, Nat.one_mul] at this
      exact this
    split
    · exact rb_mono (rb_add (rb_cv hl hm s1 t k) (rb_mul (pb_co hl s1 k) (pb_co hm s1 _))) (by omega)
    · rw [Rat.add_zero]; exact rb_mono (rb_cv hl hm s1 t k) (by omega)
  · rw [cv_stop (by omega), co_out (show l.length ≤ k by omega), Rat.zero_mul]
    have := rb_cv hl hm s1 t l.length
    split
    · rw [Rat.add_zero]; exact rb_mono this (by omega)
    · rw [Rat.add_zero]; exact rb_mono this (by omega)
end M2

/-! M3: dividing polynomials. -/
namespace M3
open PySem PySem.Spec L2 VL M1 M2
abbrev f_p_split : Nat := 40
abbrev f_monic : Nat := 41
/-- p_split: 0 P, 1 Q, 2 rest, 3 found, 4 k, 5 by, 6 j, 7 one -/
def b_p_split : Ss := ss [.asg 2 (.blt .list (.cons (.var 0) .nil)),
  .asg 3 (.bin .mul (.lst (.cons (.glo (.tup [.int 0, .int 1])) .nil)) (.blt .max2 (.cons (.int 0) (.cons (.bin .add (.bin .sub (.blt .len (.cons (.var 0) .nil)) (.blt .len (.cons (.var 1) .nil))) (.int 1)) .nil)))),
  .for (.nm 4) (.rng3 (.bin .sub (.blt .len (.cons (.var 3) .nil)) (.int 1)) (.neg (.int 1)) (.neg (.int 1))) (ss [.asg 5 (.call f_over (.cons (.ix (.var 2) (.bin .sub (.bin .add (.var 4) (.blt .len (.cons (.var 1) .nil))) (.int 1))) (.cons (.ix (.var 1) (.neg (.int 1))) .nil))),
  .sub 3 (.var 4) (.var 5),
  .for (.tp [6, 7]) (.enum (.var 1)) (ss [.sub 2 (.bin .add (.var 4) (.var 6)) (.call f_minus (.cons (.ix (.var 2) (.bin .add (.var 4) (.var 6))) (.cons (.call f_times (.cons (.var 5) (.cons (.var 7) .nil))) .nil)))])]),
  .ret (.tup (.cons (.call f_poly (.cons (.var 3) .nil)) (.cons (.call f_poly (.cons (.var 2) .nil)) .nil)))]
/-- monic: 0 P -/
def b_monic : Ss := ss [.ite (.cmp .eq (.var 0) (.tup .nil)) (ss [.ret (.tup .nil)]) (ss []),
  .ret (.call f_p_scaled (.cons (.var 0) (.cons (.call f_over (.cons (.glo (.tup [.int 1, .int 1])) (.cons (.ix (.var 0) (.neg (.int 1))) .nil))) .nil)))]
theorem cv_congr {l l' m m' : List Rat} {t : Nat} : ∀ {n : Nat}, (∀ k, k < n → co l k = co l' k) → (∀ k, co m k = co m' k) → cv l m n t = cv l' m' n t
  | 0, _, _ => rfl
  | n + 1, h, g => by
    unfold cv
    rw [cv_congr (fun k hk => h k (by omega)) g, h n (by omega), g]
theorem cv_more {l m : List Rat} {n t : Nat} (h : l.length ≤ n) : cv l m n t = cv l m l.length t := by
  induction n with
  | zero => have : l.length = 0 := by omega
            rw [this]
  | succ n ih =>
    by_cases e : l.length = n + 1
    · rw [e]
    · rw [cv_succ, ih (by omega), co_out (show l.length ≤ n by omega), Rat.zero_mul]
      split <;> exact Rat.add_zero _
theorem cv_put {l l' m : List Rat} {k t : Nat} {b : Rat} (h0 : co l k = 0) (h : ∀ i, co l' i = if i = k then b else co l i) : ∀ n : Nat, cv l' m n t = cv l m n t + (if k < n ∧ k ≤ t then b * co m (t - k) else 0)
  | 0 => by rw [if_neg (by omega)]; exact (Rat.add_zero _).symm
  | n + 1 => by
    rw [cv_succ, cv_succ, cv_put h0 h n, h n]
    by_cases e : n = k
    · subst e
      rw [if_pos rfl, if_neg (show ¬ (n < n ∧ n ≤ t) by omega), h0]
      by_cases g : n ≤ t
      · rw [if_pos g, if_pos (by omega)]; grind
      · rw [if_neg g, if_neg (by omega)]; grind
    · rw [if_neg e]
      by_cases g : k < n ∧ k ≤ t
      · rw [if_pos g, if_pos (show k < n + 1 ∧ k ≤ t by omega)]; grind
      · rw [if_neg g, if_neg (show ¬ (k < n + 1 ∧ k ≤ t) by omega)]; grind
theorem rb_over {a b : Nat} {x y : Rat} (hx : RB' a x) (hy : RB' b y) (h0 : y.num ≠ 0) : RB' (a + b) (x / y) := by
  rw [← div_divInt]
  have n1 := abs_mul hx.1 (abs_nat hy.2)
  have n3 := abs_mul (abs_nat hx.2) hy.1
  have d := Int.mul_ne_zero (den_ne x) h0
  exact ⟨Nat.lt_of_le_of_lt (num_le d) n1, Nat.lt_of_le_of_lt (den_le d) n3⟩
/-- x is a whole number of at most B over D -/
def Ov (D B : Nat) (x : Rat) : Prop := ∃ n : Int, x = Rat.divInt n D ∧ n.natAbs ≤ B
theorem ov_zero {D B : Nat} : Ov D B 0 := ⟨0, by rw [Rat.zero_divInt], Nat.zero_le _⟩
theorem ov_mono {D B B' : Nat} {x : Rat} (h : Ov D B x) (g : B ≤ B') : Ov D B' x := let ⟨n, e, l⟩ := h; ⟨n, e, Nat.le_trans l g⟩
theorem dz {D : Nat} (h : 0 < D) : (D : Int) ≠ 0 := by omega
theorem ov_add {D B C : Nat} {x y : Rat} (hD : 0 < D) (hx : Ov D B x) (hy : Ov D C y) : Ov D (B + C) (x + y) := by
  obtain ⟨n, rfl, h1⟩ := hx
  obtain ⟨m, rfl, h2⟩ := hy
  refine ⟨n + m, ?_, Nat.le_trans (Int.natAbs_add_le n m) (Nat.add_le_add h1 h2)⟩
  rw [Rat.divInt_add_divInt _ _ (dz hD) (dz hD), ← Int.add_mul, Rat.divInt_mul_right (dz hD)]
theorem ov_mul {D E B C : Nat} {x y : Rat} (hx : Ov D B x) (hy : Ov E C y) : Ov (D * E) (B * C) (x * y) := by
  obtain ⟨n, rfl, h1⟩ := hx
  obtain ⟨m, rfl, h2⟩ := hy
  refine ⟨n * m, ?_, ?_⟩
  · rw [Rat.divInt_mul_divInt, Int.natCast_mul]
  · rw [Int.natAbs_mul]; exact Nat.mul_le_mul h1 h2
theorem ov_up {D B E : Nat} {x : Rat} (hE : 0 < E) (hx : Ov D B x) : Ov (D * E) (B * E) x := by
  obtain ⟨n, rfl, h1⟩ := hx
  refine ⟨n * E, ?_, ?_⟩
  · rw [Int.natCast_mul, Rat.divInt_mul_right (dz hE)]
  · rw [Int.natAbs_mul]; exact Nat.mul_le_mul h1 (by simp)
theorem ov_self (x : Rat) : Ov x.den x.num.natAbs x := ⟨x.num, (Rat.num_divInt_den x).symm, Nat.le_refl _⟩
theorem ov_rb {D B s : Nat} {x : Rat} (hD : 0 < D) (h : Ov D B x) (h1 : D < 2 ^ s) (h2 : B < 2 ^ s) : RB' s x := by
  obtain ⟨n, rfl, h3⟩ := h
  exact ⟨Nat.lt_of_le_of_lt (num_le (dz hD)) (by omega), Nat.lt_of_le_of_lt (den_le (dz hD)) (by simpa using h1)⟩
/-- all numbers over one D < 2^d, tops below 2^b -/
def Fb (d b : Nat) (l : List Rat) : Prop := ∃ D : Nat, 0 < D ∧ D ≤ 2 ^ d ∧ ∀ k, Ov D (2 ^ b) (co l k)
theorem fb_mono {d b d' b' : Nat} {l : List Rat} (h : Fb d b l) (h1 : d ≤ d') (h2 : b ≤ b') : Fb d' b' l := by
  obtain ⟨D, p, q, r⟩ := h
  exact ⟨D, p, Nat.le_trans q (Nat.pow_le_pow_right (by decide) h1), fun k => ov_mono (r k) (Nat.pow_le_pow_right (by decide) h2)⟩
theorem fb_of {s : Nat} : ∀ {l : List Rat}, PB s l → Fb (s * l.length) (s * (l.length + 1)) l
  | [], _ => ⟨1, by decide, Nat.one_le_two_pow, fun k => by rw [co_nil]; exact ov_zero⟩
  | a :: l, h => by
    obtain ⟨D, p, q, r⟩ := fb_of (l := l) fun x hx => h x (List.mem_cons_of_mem _ hx)
    have ha := h a List.mem_cons_self
    have pa := a.den_pos
    refine ⟨D * a.den, Nat.mul_pos p pa, ?_, fun k => ?_⟩
    · rw [List.length_cons, Nat.mul_succ, Nat.pow_add]
      exact Nat.mul_le_mul q (Nat.le_of_lt ha.2)
    · rw [List.length_cons, Nat.mul_succ s (l.length + 1), Nat.pow_add]
      cases k with
      | zero =>
        rw [co_zero]
        have := ov_up (E := D) p (ov_self a)
        rw [Nat.mul_comm a.den D, Nat.mul_comm a.num.natAbs D] at this
        refine ov_mono this (Nat.mul_le_mul (Nat.le_trans q (Nat.pow_le_pow_right (by decide) (Nat.mul_le_mul_left s (by omega)))) (Nat.le_of_lt ha.1))
      | succ k =>
        rw [co_succ]
        exact ov_mono (ov_up pa (r k)) (Nat.mul_le_mul (Nat.le_refl _) (Nat.le_of_lt ha.2))
theorem ov_cv {D E B C : Nat} {l m : List Rat} {t : Nat} (hD : 0 < D) (hE : 0 < E) (hl : ∀ k, Ov D B (co l k)) (hm : ∀ k, Ov E C (co m k)) : ∀ n, Ov (D * E) (n * (B * C)) (cv l m n t)
  | 0 => ov_mono ov_zero (Nat.zero_le _)
  | n + 1 => by
    rw [cv_succ, Nat.add_mul, Nat.one_mul]
    refine ov_add (Nat.mul_pos hD hE) (ov_cv hD hE hl hm n) ?_
    split
    · exact ov_mul (hl n) (hm _)
    · exact ov_mono ov_zero (Nat.zero_le _)
theorem lt2 (n : Nat) : n < 2 ^ n := Nat.lt_two_pow_self
theorem fb_pt {d b d' b' e : Nat} {l m : List Rat} (hl : Fb d b l) (hm : Fb d' b' m) (he : l.length < 2 ^ e) (h : d + d' + b + b' + e + 2 ≤ 60000000) (l1 : l.length ≤ 1000) (l2 : m.length ≤ 1000) : PTok l m := by
  obtain ⟨D, p, q, r⟩ := hl
  obtain ⟨E, p', q', r'⟩ := hm
  let S := d + d' + b + b' + e + 2
  have up : ∀ {x y : Nat}, x ≤ 2 ^ y → y + 1 ≤ S → x < 2 ^ S := fun {x y} h g => Nat.lt_of_le_of_lt h (Nat.pow_lt_pow_right (by decide) (by omega))
  have dd : D * E ≤ 2 ^ (d + d') := by rw [Nat.pow_add]; exact Nat.mul_le_mul q q'
  have bb : (2 : Nat) ^ b * 2 ^ b' = 2 ^ (b + b') := (Nat.pow_add _ _ _).symm
  have sum : ∀ k j t, k ≤ l.length → RB' S (cv l m k t + (if k ≤ t ∧ t - k < j then co l k * co m (t - k) else 0)) := fun k j t hk => by
    have h1 : Ov (D * E) ((k + 1) * 2 ^ (b + b')) (cv l m k t + (if k ≤ t ∧ t - k < j then co l k * co m (t - k) else 0)) := by
      rw [Nat.add_mul, Nat.one_mul, ← bb]
      refine ov_add (Nat.mul_pos p p') (ov_cv p p' r r' k) ?_
      split
      · exact ov_mul (r k) (r' _)
      · exact ov_mono ov_zero (Nat.zero_le _)
    refine ov_rb (Nat.mul_pos p p') h1 (up dd (by omega)) (up (y := e + (b + b')) ?_ (by omega))
    rw [Nat.pow_add 2 e]
    exact Nat.mul_le_mul (show k + 1 ≤ 2 ^ e by omega) (Nat.le_refl _)
  have one : ∀ {d b : Nat} {l : List Rat} {D : Nat}, 0 < D → D ≤ 2 ^ d → (∀ k, Ov D (2 ^ b) (co l k)) → d + 1 ≤ S → b + 1 ≤ S → PB S l := fun {d b l D} p q r h1 h2 x hx => by
    obtain ⟨k, hk, rfl⟩ := List.getElem_of_mem hx
    rw [← co_in hk]
    exact ov_rb p (r k) (up q h1) (up (Nat.le_refl _) h2)
  refine ⟨S, one p q r (by omega) (by omega), one p' q' r' (by omega) (by omega), by omega, h, fun i j => ov_rb (Nat.mul_pos p p') (ov_mul (r i) (r' j)) (up dd (by omega)) (up (y := b + b') (by rw [bb]; exact Nat.le_refl _) (by omega)), fun k j t => ?_, l1, l2⟩
  rcases Nat.lt_or_ge l.length k with g | g
  · have := sum l.length 0 t (Nat.le_refl _)
    rw [if_neg (by omega)] at this
    rw [cv_stop (by omega), co_out (show l.length ≤ k by omega), Rat.zero_mul]
    split <;> exact this
  · exact sum k j t g
theorem fb_pmul {d b d' b' e : Nat} {l m : List Rat} (hl : Fb d b l) (hm : Fb d' b' m) (he : l.length ≤ 2 ^ e) : Fb (d + d') (b + b' + e) (pmul l m) := by
  obtain ⟨D, p, q, r⟩ := hl
  obtain ⟨E, p', q', r'⟩ := hm
  refine ⟨D * E, Nat.mul_pos p p', by rw [Nat.pow_add]; exact Nat.mul_le_mul q q', fun k => ?_⟩
  unfold pmul
  rw [mk_co]
  split
  · refine ov_mono (ov_cv p p' r r' l.length) ?_
    rw [← Nat.pow_add, Nat.pow_add _ (b + b'), Nat.mul_comm]
    exact Nat.mul_le_mul (Nat.le_refl _) he
  · exact ov_zero
theorem ov_neg {D B : Nat} {x : Rat} (h : Ov D B x) : Ov D B (-x) := by
  obtain ⟨n, rfl, l⟩ := h
  exact ⟨-n, Rat.neg_divInt n D, by rw [Int.natAbs_neg]; exact l⟩
theorem ov_sub {D B C : Nat} {x y : Rat} (hD : 0 < D) (hx : Ov D B x) (hy : Ov D C y) : Ov D (B + C) (x - y) := by
  rw [Rat.sub_eq_add_neg]
  exact ov_add hD hx (ov_neg hy)
/-- what a division asks of sizes: l over D, m over its last number over V -/
structure Sp (l m : List Rat) (D V a s d : Nat) : Prop where
  D0 : 0 < D
  V0 : 0 < V
  Dd : D ≤ 2 ^ d
  Vs : V ≤ 2 ^ s
  hl : ∀ t, Ov D (2 ^ a) (co l t)
  hm : ∀ t, Ov V (2 ^ s) (co m t / co m (m.length - 1))
  hi : Ov V (2 ^ s) (1 / co m (m.length - 1))
  p : PB 60000000 m
  z : d + a + (l.length + 1 - m.length) * (s + 1) + 2 * s + 5 ≤ 60000000
def vPSplit : VF := ⟨.read, fun ds q => ∃ (l m : List Rat) (D V a s d : Nat), ds = [dP l, dP m] ∧ IsT m ∧ m ≠ [] ∧ l.length ≤ 1000 ∧ m.length ≤ 1000 ∧ Sp l m D V a s d ∧
  ∀ f r, IsT f → IsT r → r.length < m.length → f.length ≤ l.length + 1 - m.length → r.length ≤ l.length → (∀ t, Ov (D * V ^ (l.length + 1 - m.length)) (2 ^ (a + (l.length + 1 - m.length) * (s + 1) + s)) (co f t)) → (∀ t, Ov (D * V ^ (l.length + 1 - m.length)) (2 ^ (a + (l.length + 1 - m.length) * (s + 1))) (co r t)) → (∀ t, co l t = cv f m f.length t + co r t) → q (.val (.tup [dP f, dP r])) none⟩
def monicL (l : List Rat) : List Rat := mk l.length fun k => co l k * (1 / co l (l.length - 1))
def vMonic : VF := ⟨.read, fun ds q => ∃ (l : List Rat) (s : Nat), ds = [dP l] ∧ IsT l ∧ PB s l ∧ 1 ≤ s ∧ s + 1 ≤ 60000000 ∧ l.length ≤ 1000 ∧ q (.val (dP (monicL l))) none⟩
def G3 (L : Nat → VF) : Nat → VF
  | 0 => vPSplit
  | 1 => vMonic
  | 2 => vStub
  | 3 => vStub
  | 4 => vStub
  | 5 => vStub
  | 6 => vStub
  | 7 => vStub
  | 8 => vStub
  | 9 => vStub
  | n + 10 => L n
variable {L : Nat → VF}
abbrev Go (L : Nat → VF) : Nat → VF := G1 (G2 (G3 L))
theorem rngs_down {n k : Nat} {i : Int} {d : VL.D} (hi : i = (n : Int) - 1) (h : (rngs i n (-1))[k]? = some d) : d = .int ((n - 1 - k : Nat) : Int) ∧ k < n := by
  unfold rngs at h
  rw [List.getElem?_map] at h
  by_cases hk : k < n
  · rw [List.getElem?_range hk] at h
    cases h
    refine ⟨?_, hk⟩
    show VL.D.int (i + (k : Int) * -1) = _
    rw [hi, show (n : Int) - 1 + (k : Int) * -1 = ((n - 1 - k : Nat) : Int) by omega]
  · rw [List.getElem?_eq_none (by simp; omega)] at h
    cases h
theorem good_p_split : Good (Go L) b_p_split 2 6 vPSplit := by
  rintro ds q ⟨l, m, D, V, a, s, d, rfl, hmT, hm0, l1, l2, ⟨D0, V0, Dd, Vs, hl, hm, hi1, hpm, hz0⟩, hq⟩ -
  have lenl := dRs_len l
  have lenm := dRs_len m
  have mpos : 0 < m.length := List.length_pos_iff.mpr hm0
  let n := l.length + 1 - m.length
  have hn : n = l.length + 1 - m.length := rfl
  have hzn : d + a + n * (s + 1) + 2 * s + 5 ≤ 60000000 := hz0
  have sz1 : ∀ {i e : Nat} {x : Rat}, i ≤ n → e ≤ 59999999 → Ov (D * V ^ i) (2 ^ e) x → Sz x := fun {i e x} hi he h => by
    have h1 : V ^ i ≤ 2 ^ (s * i) := by rw [Nat.pow_mul]; exact Nat.pow_le_pow_left Vs i
    have h2 : s * i ≤ n * (s + 1) := by rw [Nat.mul_comm s i]; exact Nat.mul_le_mul hi (by omega)
    have hN : szN = 60000000 := by unfold szN; rfl
    refine ov_rb (s := szN) (Nat.mul_pos D0 (Nat.pow_pos V0)) h ?_ (Nat.pow_lt_pow_right (by decide) (by omega))
    calc D * V ^ i ≤ 2 ^ d * 2 ^ (s * i) := Nat.mul_le_mul Dd h1
      _ = 2 ^ (d + s * i) := (Nat.pow_add _ _ _).symm
      _ < 2 ^ szN := Nat.pow_lt_pow_right (by decide) (by omega)
  have lead : (co m (m.length - 1)).num ≠ 0 := fun z => by
    rcases hmT with e | e
    · exact hm0 e
    · exact e (Rat.num_eq_zero.mp z)
  have en : (max 0 (((dRs l).length : Int) - ((dRs m).length : Int) + 1)).toNat = n := by rw [lenl, lenm]; omega
  refine ⟨rfl, by rw [en]; unfold Sm; simp only [List.length_cons, List.length_nil]; omega, by rw [lenl, lenm]; omega, by rw [lenl, lenm]; omega, ?_⟩
  have e0 : (List.replicate (max 0 (((dRs l).length : Int) - ((dRs m).length : Int) + 1)).toNat [VL.D.tup [.int 0, .int 1]]).flatten = dRs (List.replicate n 0) := by
    rw [en]; exact rep_row _
  have goal : wSs (Go L) (ss [.for (.nm 4) (.rng3 (.bin .sub (.blt .len (.cons (.var 3) .nil)) (.int 1)) (.neg (.int 1)) (.neg (.int 1))) (ss [.asg 5 (.call f_over (.cons (.ix (.var 2) (.bin .sub (.bin .add (.var 4) (.blt .len (.cons (.var 1) .nil))) (.int 1))) (.cons (.ix (.var 1) (.neg (.int 1))) .nil))),
      .sub 3 (.var 4) (.var 5),
      .for (.tp [6, 7]) (.enum (.var 1)) (ss [.sub 2 (.bin .add (.var 4) (.var 6)) (.call f_minus (.cons (.ix (.var 2) (.bin .add (.var 4) (.var 6))) (.cons (.call f_times (.cons (.var 5) (.cons (.var 7) .nil))) .nil)))])]),
      .ret (.tup (.cons (.call f_poly (.cons (.var 3) .nil)) (.cons (.call f_poly (.cons (.var 2) .nil)) .nil)))])
      [.val (dP l), .val (dP m), .own (dRs l), .own (dRs (List.replicate n 0)), .un, .un, .un, .un] { nx := fun _ => q (.val .non) none, rt := fun r _ => q r none } := by
    have lr : ((dRs (List.replicate n (0 : Rat))).length : Int) = n := by rw [dRs_len, List.length_replicate]
    refine ⟨n, ?_, fun i ρ => ∃ F Rr s4 s5 s6 s7, ρ = [.val (dP l), .val (dP m), .own (dRs Rr), .own (dRs F), s4, s5, s6, s7] ∧ F.length = n ∧ Rr.length = l.length ∧ (∀ t, t < n - i → co F t = 0) ∧ (∀ t, n - i + (m.length - 1) ≤ t → co Rr t = 0) ∧ (∀ t, co l t = cv F m n t + co Rr t) ∧ (∀ t, Ov (D * V ^ i) (2 ^ (a + i * (s + 1))) (co Rr t)) ∧ ∀ t, Ov (D * V ^ i) (2 ^ (a + i * (s + 1) + s)) (co F t), ⟨List.replicate n 0, l, _, _, _, _, rfl, by simp, rfl, fun t _ => co_rep _ _, fun t ht => co_out (by omega), fun t => ?_, fun t => by rw [Nat.pow_zero, Nat.mul_one, Nat.zero_mul, Nat.add_zero]; exact hl t, fun t => by rw [co_rep]; exact ov_zero⟩, ?_, ?_⟩
    · rw [lr]
      have := RgC.neg (i := (n : Int) - 1) (j := -1) (by omega) (by omega) (by decide) (by decide)
      rw [show ((n : Int) - 1 - -1).toNat = n by omega] at this
      exact this
    · have z : ∀ k, cv (List.replicate n 0) m k t = 0 := fun k => by
        induction k with
        | zero => rfl
        | succ k ih => rw [cv_succ, ih, co_rep, Rat.zero_mul]; split <;> exact Rat.add_zero _
      rw [z, Rat.zero_add]
    · rintro i d _ hd ⟨F, Rr, s4, s5, s6, s7, rfl, hF, hR, hF0, hR0, hE, hz, hzF⟩
      obtain ⟨rfl, hi⟩ := rngs_down (n := n) (by rw [lr]) hd
      let k := n - 1 - i
      have hk : k = n - 1 - i := rfl
      have hkn : k < n := by omega
      have i1 : (i + 1) * (s + 1) = i * (s + 1) + (s + 1) := by rw [Nat.add_mul, Nat.one_mul]
      have i2 : (i + 1) * (s + 1) ≤ n * (s + 1) := Nat.mul_le_mul_right _ (by omega)
      have dv : D * V ^ (i + 1) = D * V ^ i * V := by rw [Nat.pow_succ, Nat.mul_assoc]
      have dv0 : 0 < D * V ^ i := Nat.mul_pos D0 (Nat.pow_pos V0)
      have dv1 : 0 < D * V ^ (i + 1) := Nat.mul_pos D0 (Nat.pow_pos V0)
      have hkr : k + (m.length - 1) < Rr.length := by omega
      have at1 : atI (dRs Rr) (((k : Nat) : Int) + ((dRs m).length : Int) - 1) = some (dR (co Rr (k + (m.length - 1)))) := by
        rw [lenm, show (k : Int) + (m.length : Int) - 1 = ((k + (m.length - 1) : Nat) : Int) by omega]
        exact atI_dRs hkr
      let b : Rat := co Rr (k + (m.length - 1)) / co m (m.length - 1)
      have szm : ∀ j, Sz (co m j) := fun j => sz_rb (pb_co hpm (by decide) j) (Nat.le_refl _)
      have ovb : Ov (D * V ^ (i + 1)) (2 ^ (a + i * (s + 1) + s)) b := by
        have e : b = co Rr (k + (m.length - 1)) * (1 / co m (m.length - 1)) := by
          show co Rr (k + (m.length - 1)) / co m (m.length - 1) = _
          rw [Rat.div_def, Rat.div_def, Rat.one_mul]
        rw [e, dv, Nat.pow_add 2 (a + i * (s + 1)) s]
        exact ov_mul (hz _) hi1
      have ovp : ∀ j, Ov (D * V ^ (i + 1)) (2 ^ (a + i * (s + 1) + s)) (b * co m j) := fun j => by
        have e : b * co m j = co Rr (k + (m.length - 1)) * (co m j / co m (m.length - 1)) := by
          show co Rr (k + (m.length - 1)) / co m (m.length - 1) * co m j = _
          rw [Rat.div_def, Rat.div_def]; grind
        rw [e, dv, Nat.pow_add 2 (a + i * (s + 1)) s]
        exact ov_mul (hz _) (hm j)
      have up1 : ∀ {B : Nat} {x : Rat}, Ov (D * V ^ i) (2 ^ B) x → Ov (D * V ^ (i + 1)) (2 ^ (B + s)) x := fun {B x} h => by
        rw [dv]
        refine ov_mono (ov_up V0 h) ?_
        rw [Nat.pow_add]; exact Nat.mul_le_mul_left _ Vs
      have szb : Sz b := sz1 (by omega) (by omega) ovb
      have szp : ∀ j, Sz (b * co m j) := fun j => sz1 (by omega) (by omega) (ovp j)
      have ix1 : ixN (dRs F).length ((k : Nat) : Int) = some k := by rw [dRs_len]; exact ixN_nat (by omega)
      have hb : b * co m (m.length - 1) = co Rr (k + (m.length - 1)) := Rat.div_mul_cancel fun z => lead (by rw [z]; rfl)
      have hF' : ∀ j, co (F.set k b) j = if j = k then b else co F j := fun j => co_set (by omega) j
      refine ⟨_, at1, _, atI_end hm0, rfl, _, _, rfl, sz1 (by omega) (by omega) (hz _), szm _, lead, .inl rfl, rfl, k, ix1, ?_⟩
      refine ⟨fun j ρ => ∃ R2 s6 s7, ρ = [.val (dP l), .val (dP m), .own (dRs R2), .own (dRs (F.set k b)), .val (.int (k : Nat)), .val (dR b), s6, s7] ∧ R2.length = l.length ∧ (∀ t, co R2 t = co Rr t - (if k ≤ t ∧ t - k < j then b * co m (t - k) else 0)) ∧ (∀ t, Ov (D * V ^ (i + 1)) (2 ^ (a + (i + 1) * (s + 1))) (co R2 t)) ∧ ∀ t, k + j ≤ t → Ov (D * V ^ i) (2 ^ (a + i * (s + 1))) (co R2 t), ⟨Rr, s6, s7, ?_, hR, fun t => ?_, fun t => ov_mono (up1 (hz t)) (Nat.pow_le_pow_right (by decide) (by omega)), fun t _ => hz t⟩, ?_, ?_⟩
      · rw [← dRs_set]; rfl
      · rw [if_neg (by omega)]; grind
      · rintro j d _ hd ⟨R2, s6, s7, rfl, hR2, hc, hz1, hz2⟩
        obtain ⟨hj, rfl⟩ := enum_at hd
        have hkj : k + j < R2.length := by omega
        have ea : (k : Int) + (j : Int) = ((k + j : Nat) : Int) := by omega
        have at2 : atI (dRs R2) ((k : Int) + (j : Int)) = some (dR (co R2 (k + j))) := by rw [ea]; exact atI_dRs hkj
        have ix2 : ixN (dRs R2).length ((k : Int) + (j : Int)) = some (k + j) := by rw [ea, dRs_len]; exact ixN_nat hkj
        have o1 := hz2 (k + j) (Nat.le_refl _)
        have n1 : Ov (D * V ^ (i + 1)) (2 ^ (a + (i + 1) * (s + 1))) (co R2 (k + j) - b * co m j) := by
          refine ov_mono (ov_sub dv1 (up1 o1) (ovp j)) ?_
          rw [i1, show a + (i * (s + 1) + (s + 1)) = (a + i * (s + 1) + s) + 1 by omega, Nat.pow_succ]; omega
        refine ⟨rfl, _, at2, rfl, _, _, rfl, szb, szm j, .inl rfl, rfl, _, _, rfl, sz1 (by omega) (by omega) o1, szp j, .inl rfl, rfl, k + j, ix2, R2.set (k + j) (co R2 (k + j) - b * co m j), .val (.int j), .val (dR (co m j)), ?_, by rw [List.length_set]; exact hR2, fun t => ?_, fun t => ?_, fun t ht => ?_⟩
        · rw [← dRs_set R2]; rfl
        · rw [co_set hkj]
          by_cases e : t = k + j
          · subst e
            rw [if_pos rfl, if_pos (by omega), hc, if_neg (by omega), show k + j - k = j by omega]; grind
          · rw [if_neg e, hc]
            congr 1
            by_cases g : k ≤ t ∧ t - k < j
            · rw [if_pos g, if_pos (by omega)]
            · rw [if_neg g, if_neg (by omega)]
        · rw [co_set hkj]
          split
          · exact n1
          · exact hz1 t
        · rw [co_set hkj, if_neg (by omega)]
          exact hz2 t (by omega)
      · rintro _ ⟨R2, s6, s7, rfl, hR2, hc, hz1, hz2⟩
        rw [List.length_mapIdx, lenm] at hc
        have hc' : ∀ t, co R2 t = co Rr t - (if k ≤ t then b * co m (t - k) else 0) := fun t => by
          rw [hc]
          congr 1
          by_cases g : k ≤ t
          · rw [if_pos g]
            by_cases g2 : t - k < m.length
            · rw [if_pos ⟨g, g2⟩]
            · rw [if_neg (by omega), co_out (show m.length ≤ t - k by omega), Rat.mul_zero]
          · rw [if_neg g, if_neg (by omega)]
        refine ⟨F.set k b, R2, _, _, _, _, rfl, by rw [List.length_set]; exact hF, hR2, fun t ht => ?_, fun t ht => ?_, fun t => ?_, hz1, fun t => ?_⟩
        · rw [hF', if_neg (by omega)]
          exact hF0 t (by omega)
        · rw [hc']
          by_cases e : t = k + (m.length - 1)
          · subst e
            rw [if_pos (by omega), show k + (m.length - 1) - k = m.length - 1 by omega, hb]; grind
          · rw [hR0 t (by omega)]
            split
            · rw [co_out (show m.length ≤ t - k by omega), Rat.mul_zero]; grind
            · grind
        · rw [cv_put (hF0 k (by omega)) hF' n, hc', hE t]
          by_cases g : k ≤ t
          · rw [if_pos g, if_pos (by omega)]; grind
          · rw [if_neg g, if_neg (by omega)]; grind
        · rw [hF']
          split
          · exact ov_mono ovb (Nat.pow_le_pow_right (by decide) (by omega))
          · exact ov_mono (up1 (hzF t)) (Nat.pow_le_pow_right (by decide) (by omega))
    · rintro _ ⟨F, Rr, s4, s5, s6, s7, rfl, hF, hR, hF0, hR0, hE, hz, hzF⟩
      rw [rngs_length] at hR0 hz hzF
      refine ⟨rfl, _, F, rfl, .inl rfl, .inr (lf_dP _), rfl, _, Rr, rfl, .inl rfl, .inr (lf_dP _), rfl, hq (trim F) (trim Rr) (trim_isT F) (trim_isT Rr) ?_ ?_ ?_ ?_ ?_ fun t => ?_⟩
      · rcases trim_isT Rr with e | e
        · rw [e]; exact mpos
        · rcases Nat.lt_or_ge (trim Rr).length m.length with g | g
          · exact g
          · rw [trim_co, hR0 _ (by omega)] at e; exact absurd rfl e
      · have := trim_le F; omega
      · have := trim_le Rr; omega
      · intro t; rw [trim_co]; exact hzF t
      · intro t; rw [trim_co]; exact hz t
      · rw [hE t, trim_co, ← cv_more (l := trim F) (n := n) (by have := trim_le F; omega)]
        rw [cv_congr (fun k _ => trim_co F k) (fun k => rfl)]
  rw [← e0] at goal
  exact goal
theorem good_monic : Good (Go L) b_monic 1 0 vMonic := by
  rintro ds q ⟨l, s, rfl, hT, hl, s1, s2, l1, hq⟩ -
  have ok := dsh_of (okD_dP l) (by decide)
  refine ⟨rfl, ok, rfl, fun h => ?_, fun h => ?_⟩
  · have h : deq (dP l) (dP []) = true := h
    rw [deq_dP] at h
    have h := dec_t h
    subst h
    exact ⟨rfl, hq⟩
  · have h : deq (dP l) (dP []) = false := h
    rw [deq_dP] at h
    have hne := dec_f h
    have lead : (co l (l.length - 1)).num ≠ 0 := fun z => by
      rcases hT with e | e
      · exact hne e
      · exact e (Rat.num_eq_zero.mp z)
    have rl := pb_co hl s1 (l.length - 1)
    have r1 : RB' 1 1 := ⟨by decide, by decide⟩
    have rb1 := rb_over r1 rl lead
    exact ⟨_, atI_end hne, rfl, 1, _, rfl, sz_rb r1 (by decide), sz_rb rl (by omega), lead, .inl rfl, rfl, l, _, s + 1, rfl, fun x hx => rb_mono (hl x hx) (by omega), rb_mono rb1 (by omega), by omega, by omega, l1, .inl rfl, hq⟩
theorem ov_div {x v : Int} (h : v ≠ 0) : Ov v.natAbs x.natAbs (Rat.divInt x v) := by
  rcases Int.lt_or_gt_of_ne h with g | g
  · refine ⟨-x, ?_, by rw [Int.natAbs_neg]; exact Nat.le_refl _⟩
    rw [show ((v.natAbs : Nat) : Int) = -v by omega, Rat.neg_divInt_neg]
  · refine ⟨x, ?_, Nat.le_refl _⟩
    rw [show ((v.natAbs : Nat) : Int) = v by omega]
theorem div_same {x v D : Int} (hD : D ≠ 0) : Rat.divInt x D / Rat.divInt v D = Rat.divInt x v := by
  rw [Rat.div_def, Rat.inv_divInt, Rat.divInt_mul_divInt, Int.mul_comm x D, Rat.divInt_mul_left hD]
theorem fb_lead {d b : Nat} {m : List Rat} (h : Fb d b m) {k : Nat} (h0 : co m k ≠ 0) (hdb : d ≤ b) : ∃ V, 0 < V ∧ V ≤ 2 ^ b ∧ (∀ j, Ov V (2 ^ b) (co m j / co m k)) ∧ Ov V (2 ^ b) (1 / co m k) := by
  obtain ⟨D, p, q, r⟩ := h
  obtain ⟨v, e, lv⟩ := r k
  have hv : v ≠ 0 := fun z => h0 (by rw [e, z, Rat.zero_divInt])
  refine ⟨v.natAbs, by omega, lv, fun j => ?_, ?_⟩
  · obtain ⟨x, e2, lx⟩ := r j
    rw [e, e2, div_same (dz p)]
    exact ov_mono (ov_div hv) lx
  · have one : (1 : Rat) = Rat.divInt D D := (Rat.divInt_self' (dz p)).symm
    rw [e, one, div_same (dz p)]
    refine ov_mono (ov_div hv) ?_
    have := Nat.le_trans q (Nat.pow_le_pow_right (by decide) hdb)
    simpa using this
/-- sizes of a division from the numbers' own bits -/
theorem sp_of {a0 s0 : Nat} {l m : List Rat} (hl : PB a0 l) (hm : PB s0 m) (hT : IsT m) (h0 : m ≠ []) (h : a0 * l.length + a0 * (l.length + 1) + (l.length + 1 - m.length) * (s0 * (m.length + 1) + 1) + 2 * (s0 * (m.length + 1)) + s0 + 5 ≤ 60000000) :
    ∃ D V, Sp l m D V (a0 * (l.length + 1)) (s0 * (m.length + 1)) (a0 * l.length) := by
  obtain ⟨D, p, q, r⟩ := fb_of hl
  have lead : co m (m.length - 1) ≠ 0 := by
    rcases hT with e | e
    · exact absurd e h0
    · exact e
  obtain ⟨V, v1, v2, v3, v4⟩ := fb_lead (fb_of hm) lead (Nat.mul_le_mul_left _ (by omega))
  exact ⟨D, V, p, v1, q, v2, r, v3, v4, fun x hx => rb_mono (hm x hx) (by omega), by omega⟩
end M3

/-! M4m: sizes by a common denominator; values of polynomials. -/
namespace M4
open PySem PySem.Spec L2 VL M1 M2 M3
def pw (l : List Rat) : Nat → List Rat
  | 0 => [1]
  | n + 1 => pmul (pw l n) l
/-! ### values -/
def ev : List Rat → Rat → Rat
  | [], _ => 0
  | a :: l, x => a + x * ev l x
def E (f : Nat → Rat) (x : Rat) : Nat → Rat
  | 0 => 0
  | n + 1 => E f x n + f n * x ^ n
theorem E_congr {f g : Nat → Rat} {x : Rat} : ∀ {n : Nat}, (∀ k, k < n → f k = g k) → E f x n = E g x n
  | 0, _ => rfl
  | n + 1, h => by unfold E; rw [E_congr (n := n) fun k hk => h k (by omega), h n (by omega)]
theorem E_add (f g : Nat → Rat) (x : Rat) : ∀ n, E (fun k => f k + g k) x n = E f x n + E g x n
  | 0 => by unfold E; exact (Rat.add_zero 0).symm
  | n + 1 => by unfold E; rw [E_add f g x n]; grind
theorem E_mul (a : Rat) (f : Nat → Rat) (x : Rat) : ∀ n, E (fun k => a * f k) x n = a * E f x n
  | 0 => by unfold E; exact (Rat.mul_zero a).symm
  | n + 1 => by unfold E; rw [E_mul a f x n]; grind
theorem E_shift (f : Nat → Rat) (x : Rat) : ∀ n, E f x (n + 1) = f 0 + x * E (fun k => f (k + 1)) x n
  | 0 => by unfold E E; rw [Rat.pow_zero]; grind
  | n + 1 => by
    have ih := E_shift f x n
    have e1 : E f x (n + 1 + 1) = E f x (n + 1) + f (n + 1) * x ^ (n + 1) := rfl
    have e2 : E (fun k => f (k + 1)) x (n + 1) = E (fun k => f (k + 1)) x n + f (n + 1) * x ^ n := rfl
    rw [e1, ih, e2, Rat.pow_succ]; grind
theorem E_zero {f : Nat → Rat} {x : Rat} (h : ∀ k, f k = 0) : ∀ n, E f x n = 0
  | 0 => rfl
  | n + 1 => by unfold E; rw [E_zero h n, h n]; grind
theorem ev_E : ∀ (l : List Rat) (x : Rat) (n : Nat), l.length ≤ n → E (co l) x n = ev l x
  | [], x, n, _ => E_zero co_nil n
  | a :: l, x, 0, h => by simp at h
  | a :: l, x, n + 1, h => by
    rw [E_shift]
    show co (a :: l) 0 + x * E (fun k => co l k) x n = a + x * ev l x
    rw [co_zero, ev_E l x n (by simpa using h)]
theorem ev_ext {l m : List Rat} (h : ∀ k, co l k = co m k) (x : Rat) : ev l x = ev m x := by
  rw [← ev_E l x (max l.length m.length) (by omega), ← ev_E m x (max l.length m.length) (by omega)]
  exact E_congr fun k _ => h k
theorem ev_mk (n : Nat) (f : Nat → Rat) (x : Rat) : ev (mk n f) x = E f x n := by
  rw [← ev_E (mk n f) x n (mk_len n f)]
  exact E_congr fun k hk => by rw [mk_co, if_pos hk]
theorem ev_trim (l : List Rat) (x : Rat) : ev (trim l) x = ev l x := ev_ext (trim_co l) x
def padd (l m : List Rat) : List Rat := mk (max l.length m.length) fun k => co l k + co m k
theorem co_padd (l m : List Rat) (k : Nat) : co (padd l m) k = co l k + co m k := by
  unfold padd
  rw [mk_co]
  split
  · rfl
  · rw [co_out (show l.length ≤ k by omega), co_out (show m.length ≤ k by omega)]; exact (Rat.add_zero 0).symm
theorem ev_padd (l m : List Rat) (x : Rat) : ev (padd l m) x = ev l x + ev m x := by
  unfold padd
  rw [ev_mk, E_add, ev_E l x _ (by omega), ev_E m x _ (by omega)]
theorem cv_cons (a : Rat) (l m : List Rat) (t : Nat) : ∀ n, cv (a :: l) m (n + 1) t = a * co m t + (if 1 ≤ t then cv l m n (t - 1) else 0)
  | 0 => by
    rw [cv_succ, if_pos (Nat.zero_le _), co_zero]
    show 0 + a * co m (t - 0) = a * co m t + (if 1 ≤ t then 0 else 0)
    rw [Nat.sub_zero]; split <;> grind
  | n + 1 => by
    rw [cv_succ, cv_cons a l m t n, cv_succ l m n (t - 1), co_succ]
    by_cases g : 1 ≤ t
    · rw [if_pos g, if_pos g]
      by_cases h : n + 1 ≤ t
      · rw [if_pos h, if_pos (show n ≤ t - 1 by omega), show t - (n + 1) = t - 1 - n by omega]; grind
      · rw [if_neg h, if_neg (show ¬ n ≤ t - 1 by omega)]; grind
    · rw [if_neg g, if_neg (show ¬ n + 1 ≤ t by omega), if_neg g]; grind
theorem E_cv : ∀ (l m : List Rat) (x : Rat) (N : Nat), l.length + m.length ≤ N → E (cv l m l.length) x N = ev l x * ev m x
  | [], m, x, N, _ => by
    have e : E (cv [] m 0) x N = 0 := E_zero (f := cv [] m 0) (fun _ => rfl) N
    show E (cv [] m 0) x N = 0 * ev m x
    rw [e, Rat.zero_mul]
  | a :: l, m, x, 0, h => by simp at h
  | a :: l, m, x, N + 1, h => by
    rw [List.length_cons] at h ⊢
    have e : E (cv (a :: l) m (l.length + 1)) x (N + 1) = E (fun t => a * co m t + (if 1 ≤ t then cv l m l.length (t - 1) else 0)) x (N + 1) := E_congr fun t _ => cv_cons a l m t l.length
    rw [e, E_add, E_mul, ev_E m x (N + 1) (by omega), E_shift (fun t => if 1 ≤ t then cv l m l.length (t - 1) else 0)]
    have e2 : E (fun k => if 1 ≤ k + 1 then cv l m l.length (k + 1 - 1) else 0) x N = E (cv l m l.length) x N := E_congr fun k _ => by rw [if_pos (by omega), Nat.add_sub_cancel]
    rw [e2, E_cv l m x N (by omega), if_neg (by omega)]
    show a * ev m x + (0 + x * (ev l x * ev m x)) = (a + x * ev l x) * ev m x
    grind
theorem ev_pmul (l m : List Rat) (x : Rat) : ev (pmul l m) x = ev l x * ev m x := by
  unfold pmul
  rw [ev_mk]
  exact E_cv l m x _ (Nat.le_refl _)
/-! ### P(x + c) -/
def mv (c : Rat) : List Rat → List Rat
  | [] => []
  | a :: l => padd (pmul (mv c l) [c, 1]) (trim [a])
theorem ev_mv (c x : Rat) : ∀ l, ev (mv c l) x = ev l (x + c)
  | [] => rfl
  | a :: l => by
    unfold mv
    rw [ev_padd, ev_pmul, ev_mv c x l, ev_trim]
    show ev l (x + c) * (c + x * (1 + x * 0)) + (a + x * 0) = a + (x + c) * ev l (x + c)
    grind
theorem cv_lin (f : List Rat) (c : Rat) (t : Nat) : ∀ n, cv f [c, 1] n t = (if t < n then co f t * c else 0) + (if 1 ≤ t ∧ t - 1 < n then co f (t - 1) else 0)
  | 0 => by
    rw [if_neg (by omega), if_neg (by omega)]
    exact (Rat.add_zero 0).symm
  | n + 1 => by
    rw [cv_succ, cv_lin f c t n]
    by_cases h : n ≤ t
    · rw [if_pos h]
      rcases Nat.lt_or_ge t (n + 1) with g | g
      · have e : t = n := by omega
        subst e
        rw [if_neg (by omega), if_pos (show t < t + 1 by omega), Nat.sub_self]
        show 0 + _ + co f t * c = _
        by_cases h1 : 1 ≤ t
        · rw [if_pos (by omega), if_pos (by omega)]; grind
        · rw [if_neg (by omega), if_neg (by omega)]; grind
      · rcases Nat.lt_or_ge t (n + 2) with g2 | g2
        · have e : t = n + 1 := by omega
          subst e
          rw [if_neg (by omega), if_neg (by omega), if_neg (by omega), if_pos (by omega), show n + 1 - n = 1 by omega, show n + 1 - 1 = n by omega]
          show 0 + 0 + co f n * 1 = _
          grind
        · rw [if_neg (by omega), if_neg (by omega), if_neg (by omega), if_neg (by omega), co_out (show [c, 1].length ≤ t - n by simp; omega)]; grind
    · rw [if_neg h, if_pos (show t < n by omega), if_pos (show t < n + 1 by omega)]
      by_cases h1 : 1 ≤ t
      · rw [if_pos (by omega), if_pos (by omega)]; grind
      · rw [if_neg (by omega), if_neg (by omega)]; grind
theorem isT_len {l : List Rat} {n : Nat} (h : IsT l) (z : ∀ t, n ≤ t → co l t = 0) : l.length ≤ n := by
  rcases h with e | e
  · rw [e]; exact Nat.zero_le _
  · rcases Nat.lt_or_ge n l.length with g | g
    · rw [z _ (by omega)] at e; exact absurd rfl e
    · exact g
theorem mv_isT (c : Rat) : ∀ l, IsT (mv c l)
  | [] => .inl rfl
  | a :: l => mk_isT _ _
theorem isT_tail {a : Rat} {l : List Rat} (h : IsT (a :: l)) (hl : l ≠ []) : IsT l := by
  rcases h with e | e
  · cases e
  · refine .inr ?_
    have : 0 < l.length := List.length_pos_iff.mpr hl
    rw [List.length_cons, Nat.add_sub_cancel, show l.length = (l.length - 1) + 1 by omega, co_succ] at e
    exact e
theorem mv_len (c : Rat) : ∀ l, IsT l → (mv c l).length = l.length
  | [], _ => rfl
  | a :: l, h => by
    have main : ∀ t, co (mv c (a :: l)) t = cv (mv c l) [c, 1] (mv c l).length t + co (trim [a]) t := fun t => by
      show co (padd _ _) t = _
      rw [co_padd]
      unfold pmul
      rw [mk_co]
      split
      · rfl
      · rw [cv_lin, if_neg (by simp at *; omega), if_neg (by simp at *; omega)]; grind
    have top : co (mv c (a :: l)) l.length ≠ 0 ∧ ∀ t, l.length + 1 ≤ t → co (mv c (a :: l)) t = 0 := by
      by_cases hl : l = []
      · subst hl
        have ha : a ≠ 0 := by
          rcases h with e | e
          · cases e
          · exact e
        refine ⟨?_, fun t ht => ?_⟩
        · rw [main, trim_co]
          show (0 : Rat) + a ≠ 0
          rw [Rat.zero_add]; exact ha
        · rw [main, trim_co]
          show (0 : Rat) + co [a] t = 0
          rw [co_out (by simpa using ht), Rat.add_zero]
      · have ht := isT_tail h hl
        have ih := mv_len c l ht
        have lp : 0 < l.length := List.length_pos_iff.mpr hl
        have ld : co (mv c l) (l.length - 1) ≠ 0 := by
          rcases mv_isT c l with e | e
          · rw [e] at ih; simp at ih; omega
          · rw [ih] at e; exact e
        refine ⟨?_, fun t ht => ?_⟩
        · rw [main, cv_lin, ih, if_neg (by omega), if_pos (by omega), trim_co, co_out (show [a].length ≤ l.length from lp), Rat.zero_add, Rat.add_zero]
          exact ld
        · rw [main, cv_lin, ih, if_neg (by omega), if_neg (by omega), trim_co, co_out (show [a].length ≤ t by simp; omega)]; grind
    refine Nat.le_antisymm (isT_len (mv_isT c _) top.2) ?_
    rcases Nat.lt_or_ge (mv c (a :: l)).length (l.length + 1) with g | g
    · exact absurd (co_out (show (mv c (a :: l)).length ≤ l.length by omega)) top.1
    · exact g
/-! ### sizes of these -/
theorem fb_pb {d b : Nat} {l : List Rat} (h : Fb d b l) : PB (d + b + 1) l := fun x hx => by
  obtain ⟨D, p, q, r⟩ := h
  obtain ⟨k, hk, rfl⟩ := List.getElem_of_mem hx
  rw [← co_in hk]
  exact ov_rb p (r k) (Nat.lt_of_le_of_lt q (Nat.pow_lt_pow_right (by decide) (by omega))) (Nat.pow_lt_pow_right (by decide) (by omega))
theorem fb_padd {d b d' b' : Nat} {l m : List Rat} (hl : Fb d b l) (hm : Fb d' b' m) : Fb (d + d') (b + d' + (b' + d) + 1) (padd l m) := by
  obtain ⟨D, p, q, r⟩ := hl
  obtain ⟨F, p', q', r'⟩ := hm
  refine ⟨D * F, Nat.mul_pos p p', by rw [Nat.pow_add]; exact Nat.mul_le_mul q q', fun k => ?_⟩
  rw [co_padd]
  have h1 := ov_up p' (r k)
  have h2 := ov_up p (r' k)
  rw [Nat.mul_comm F D] at h2
  have a1 : 2 ^ b * F ≤ 2 ^ (b + d' + (b' + d)) := Nat.le_trans (Nat.mul_le_mul (Nat.le_refl _) q') (by rw [← Nat.pow_add]; exact Nat.pow_le_pow_right (by decide) (by omega))
  have a2 : 2 ^ b' * D ≤ 2 ^ (b + d' + (b' + d)) := Nat.le_trans (Nat.mul_le_mul (Nat.le_refl _) q) (by rw [← Nat.pow_add]; exact Nat.pow_le_pow_right (by decide) (by omega))
  refine ov_mono (ov_add (Nat.mul_pos p p') h1 h2) ?_
  rw [Nat.pow_succ]; omega
theorem fb_pw {d b e : Nat} {l : List Rat} (h : Fb d b l) (hl : l.length ≤ 2 ^ e) : ∀ n, (∀ k, k < n → (pw l k).length ≤ 2 ^ e) → Fb (n * d) (n * (b + e)) (pw l n)
  | 0, _ => ⟨1, by decide, by simp, fun k => by
    unfold pw
    cases k with
    | zero => exact ⟨1, by decide, by simp⟩
    | succ k => rw [co_succ, co_nil]; exact ov_zero⟩
  | n + 1, g => by
    have ih := fb_pw h hl n fun k hk => g k (by omega)
    have := fb_pmul ih h (g n (by omega))
    refine fb_mono this ?_ ?_
    · rw [Nat.add_mul, Nat.one_mul]; exact Nat.le_refl _
    · rw [Nat.add_mul, Nat.one_mul]; omega
end M4

/-! M4: values, moved, powers of polynomials. -/
namespace M4
open PySem PySem.Spec L2 VL M1 M2 M3
abbrev f_p_at : Nat := 50
abbrev f_p_moved : Nat := 51
abbrev f_p_power : Nat := 52
abbrev f_law_at : Nat := 53
/-- p_at: 0 P, 1 c, 2 found, 3 one -/
def b_p_at : Ss := ss [.asg 2 (.glo (.tup [.int 0, .int 1])),
  .for (.nm 3) (.rev (.var 0)) (ss [.asg 2 (.call f_plus (.cons (.call f_times (.cons (.var 2) (.cons (.var 1) .nil))) (.cons (.var 3) .nil)))]),
  .ret (.var 2)]
/-- p_moved: 0 P, 1 c, 2 found, 3 one -/
def b_p_moved : Ss := ss [.asg 2 (.tup .nil),
  .for (.nm 3) (.rev (.var 0)) (ss [.asg 2 (.call f_p_plus (.cons (.call f_p_times (.cons (.var 2) (.cons (.call f_poly (.cons (.lst (.cons (.var 1) (.cons (.glo (.tup [.int 1, .int 1])) .nil))) .nil)) .nil))) (.cons (.call f_poly (.cons (.lst (.cons (.var 3) .nil)) .nil)) .nil)))]),
  .ret (.var 2)]
/-- p_power: 0 P, 1 n, 2 found, 3 turn -/
def b_p_power : Ss := ss [.asg 2 (.tup (.cons (.glo (.tup [.int 1, .int 1])) .nil)),
  .for (.nm 3) (.rng1 (.var 1)) (ss [.asg 2 (.call f_p_times (.cons (.var 2) (.cons (.var 0) .nil)))]),
  .ret (.var 2)]
/-- law_at: 0 law_kp, 1 law_c, 2 law_worth, 3 law_high, 4 law_one -/
def b_law_at : Ss := ss [.asg 2 (.tup (.cons (.int 0) (.cons (.int 1) .nil))),
  .asg 3 (.tup (.cons (.int 1) (.cons (.int 1) .nil))),
  .for (.nm 4) (.seq (.var 0)) (ss [.asg 2 (.call f_law_sum (.cons (.var 2) (.cons (.call f_law_product (.cons (.var 4) (.cons (.var 3) .nil))) .nil))),
  .asg 3 (.call f_law_product (.cons (.var 3) (.cons (.var 1) .nil)))]),
  .ret (.var 2)]
def vPAt : VF := ⟨.read, fun ds q => ∃ (l : List Rat) (c : Rat) (s : Nat), ds = [dP l, dR c] ∧ PB s l ∧ RB' s c ∧ 1 ≤ s ∧ (l.length + 1) * (2 * s + 2) ≤ 60000000 ∧ q (.val (dR (ev l c))) none⟩
def vPMoved : VF := ⟨.read, fun ds q => ∃ (l : List Rat) (c : Rat) (s : Nat), ds = [dP l, dR c] ∧ PB s l ∧ RB' s c ∧ 1 ≤ s ∧ l.length ≤ 400 ∧ (l.length + 2) * (l.length + 2) * (2 * s + 12) ≤ 2000000 ∧ q (.val (dP (mv c l))) none⟩
def vPPower : VF := ⟨.read, fun ds q => ∃ (l : List Rat) (n : Nat), ds = [dP l, .int n] ∧ n ≤ 100000 ∧ (∀ k, k < n → PTok (pw l k) l) ∧ q (.val (dP (pw l n))) none⟩
def vLawAt : VF := ⟨.read, fun ds q => ∃ (l : List Rat) (c : Rat) (s : Nat), ds = [dP l, dR c] ∧ PB s l ∧ RB' s c ∧ 1 ≤ s ∧ (l.length + 1) * (l.length * s + 2 * s + 3) ≤ 60000000 ∧ q (.val (dR (ev l c))) none⟩
def G4 (L : Nat → VF) : Nat → VF
  | 0 => vPAt
  | 1 => vPMoved
  | 2 => vPPower
  | 3 => vLawAt
  | 4 => vStub
  | 5 => vStub
  | 6 => vStub
  | 7 => vStub
  | 8 => vStub
  | 9 => vStub
  | n + 10 => L n
variable {L : Nat → VF}
abbrev Gp (L : Nat → VF) : Nat → VF := G1 (G2 (G3 (G4 L)))
theorem rev_at {l : List Rat} {k : Nat} {d : VL.D} (h : (dRs l).reverse[k]? = some d) : k < l.length ∧ d = dR (co l (l.length - 1 - k)) := by
  have hk : k < l.length := by
    have := (List.getElem?_eq_some_iff.mp h).1
    rw [List.length_reverse, dRs_len] at this
    exact this
  rw [List.getElem?_reverse (by rw [dRs_len]; exact hk), dRs_len, dRs_get (by omega)] at h
  cases h
  exact ⟨hk, rfl⟩
theorem drop_co {l : List Rat} {k : Nat} (h : k < l.length) : l.drop k = co l k :: l.drop (k + 1) := by
  rw [co_in h]; exact List.drop_eq_getElem_cons h
theorem pb_drop {s : Nat} {l : List Rat} (h : PB s l) (k : Nat) : PB s (l.drop k) := fun x hx => h x (List.mem_of_mem_drop hx)
theorem good_p_at : Good (Gp L) b_p_at 2 2 vPAt := by
  rintro ds q ⟨l, c, s, rfl, hl, hc, s1, hB, hq⟩ -
  have lenl := dRs_len l
  refine ⟨fun k ρ => ∃ s3, ρ = [.val (dP l), .val (dR c), .val (dR (ev (l.drop (l.length - k)) c)), s3] ∧ RB' (k * (2 * s + 1) + 1) (ev (l.drop (l.length - k)) c), ⟨.un, ?_, ?_⟩, ?_, ?_⟩
  · rw [Nat.sub_zero, List.drop_length]; rfl
  · rw [Nat.sub_zero, List.drop_length]; exact rb_zero _ (by omega)
  · rintro k d _ hd ⟨s3, rfl, hz⟩
    obtain ⟨hk, rfl⟩ := rev_at hd
    have kk : (k + 1) * (2 * s + 1) ≤ (l.length + 1) * (2 * s + 2) := Nat.mul_le_mul (by omega) (by omega)
    have k1 : (k + 1) * (2 * s + 1) = k * (2 * s + 1) + (2 * s + 1) := by rw [Nat.add_mul, Nat.one_mul]
    have ra := pb_co hl s1 (l.length - 1 - k)
    have rm := rb_mul hz hc
    have e : ev (l.drop (l.length - (k + 1))) c = ev (l.drop (l.length - k)) c * c + co l (l.length - 1 - k) := by
      rw [drop_co (show l.length - (k + 1) < l.length by omega), show l.length - (k + 1) + 1 = l.length - k by omega, show l.length - (k + 1) = l.length - 1 - k by omega]
      show co l (l.length - 1 - k) + c * _ = _
      grind
    refine ⟨rfl, _, _, rfl, sz_rb hz (by omega), sz_rb hc (by omega), .inl rfl, rfl, _, _, rfl, sz_rb rm (by omega), sz_rb ra (by omega), .inl rfl, .val (dR (co l (l.length - 1 - k))), ?_, ?_⟩
    · rw [e]; rfl
    · rw [e]; exact rb_mono (rb_add rm ra) (by omega)
  · rintro _ ⟨s3, rfl, hz⟩
    rw [List.length_reverse, lenl, Nat.sub_self, List.drop_zero]
    exact hq
theorem good_p_power : Good (Gp L) b_p_power 2 2 vPPower := by
  rintro ds q ⟨l, n, rfl, hn, hp, hq⟩ -
  refine ⟨rfl, ⟨by omega, by omega⟩, fun k ρ => ∃ s3, ρ = [.val (dP l), .val (.int n), .val (dP (pw l k)), s3], ⟨.un, rfl⟩, ?_, ?_⟩
  · rintro k d _ hd ⟨s3, rfl⟩
    obtain ⟨rfl, hk⟩ := rngs_at hd
    exact ⟨rfl, _, _, rfl, hp k (by omega), .inl rfl, .val (.int k), rfl⟩
  · rintro _ ⟨s3, rfl⟩
    rw [rngs_length, Int.toNat_natCast]
    exact hq
theorem rb_pow {s : Nat} {c : Rat} (h : RB' s c) : ∀ k, RB' (k * s + 1) (c ^ k)
  | 0 => by rw [Rat.pow_zero]; exact ⟨by simp, by show 1 < 2 ^ (0 * s + 1); simp⟩
  | k + 1 => by rw [Rat.pow_succ, Nat.add_mul, Nat.one_mul]; exact rb_mono (rb_mul (rb_pow h k) h) (by omega)
theorem good_law_at : Good (Gp L) b_law_at 2 3 vLawAt := by
  rintro ds q ⟨l, c, s, rfl, hl, hc, s1, hB, hq⟩ -
  have lenl := dRs_len l
  refine ⟨rfl, rfl, fun k ρ => ∃ s4, ρ = [.val (dP l), .val (dR c), .val (dR (E (co l) c k)), .val (dR (c ^ k)), s4] ∧ RB' (k * (l.length * s + s + 3) + 1) (E (co l) c k), ⟨.un, ?_, ?_⟩, ?_, ?_⟩
  · rw [Rat.pow_zero]; rfl
  · exact rb_zero _ (by omega)
  · rintro k d _ hd ⟨s4, rfl, hz⟩
    have hk : k < l.length := by rw [← lenl]; exact (List.getElem?_eq_some_iff.mp hd).1
    rw [dRs_get hk] at hd
    cases hd
    have kk : (k + 1) * (l.length * s + s + 3) ≤ (l.length + 1) * (l.length * s + 2 * s + 3) := Nat.mul_le_mul (by omega) (by omega)
    have k1 : (k + 1) * (l.length * s + s + 3) = k * (l.length * s + s + 3) + (l.length * s + s + 3) := by rw [Nat.add_mul, Nat.one_mul]
    have k2 : k * s ≤ l.length * s := Nat.mul_le_mul_right _ (by omega)
    have k3 : l.length * s + 2 * s + 3 ≤ (l.length + 1) * (l.length * s + 2 * s + 3) := Nat.le_mul_of_pos_left _ (by omega)
    have rp := rb_pow hc k
    have ra := pb_co hl s1 k
    have rm := rb_mul ra rp
    refine ⟨rfl, _, _, rfl, sz_rb ra (by omega), sz_rb rp (by omega), .inl rfl, rfl, _, _, rfl, sz_rb hz (by omega), sz_rb rm (by omega), .inl rfl, rfl, _, _, rfl, sz_rb rp (by omega), sz_rb hc (by omega), .inl rfl, .val (dR (co l k)), ?_, ?_⟩
    · rw [Rat.pow_succ]; rfl
    · exact rb_mono (rb_add hz rm) (by omega)
  · rintro _ ⟨s4, rfl, hz⟩
    rw [lenl, ev_E l c _ (Nat.le_refl _)]
    exact hq
theorem fb_c1 {s : Nat} {c : Rat} (h : RB' s c) : Fb s s [c, 1] := by
  refine ⟨c.den, c.den_pos, Nat.le_of_lt h.2, fun k => ?_⟩
  match k with
  | 0 => exact ov_mono (ov_self c) (Nat.le_of_lt h.1)
  | 1 => exact ⟨c.den, by rw [Rat.divInt_self' (den_ne c)]; rfl, by simpa using Nat.le_of_lt h.2⟩
  | k + 2 => rw [co_out (by simp)]; exact ov_zero
theorem fb_one {s : Nat} {a : Rat} (h : RB' s a) : Fb s s (trim [a]) := by
  refine ⟨a.den, a.den_pos, Nat.le_of_lt h.2, fun k => ?_⟩
  rw [trim_co]
  match k with
  | 0 => exact ov_mono (ov_self a) (Nat.le_of_lt h.1)
  | k + 1 => rw [co_out (by simp)]; exact ov_zero
theorem mv_le (c : Rat) : ∀ l, (mv c l).length ≤ 2 * l.length
  | [] => Nat.le_refl _
  | a :: l => by
    have h1 := mv_le c l
    have h2 : (pmul (mv c l) [c, 1]).length ≤ (mv c l).length + 2 := mk_len _ _
    have h3 := trim_le [a]
    have h4 : (mv c (a :: l)).length ≤ max (pmul (mv c l) [c, 1]).length (trim [a]).length := mk_len _ _
    simp only [List.length_cons, List.length_nil] at *
    omega
theorem mv_fb {s : Nat} {c : Rat} (hc : RB' s c) : ∀ l, PB s l → l.length ≤ 1000 → Fb (2 * s * l.length) (l.length * (2 * s * l.length + 4 * s + 12)) (mv c l)
  | [], _, _ => ⟨1, by decide, Nat.one_le_two_pow, fun k => by unfold mv; rw [co_nil]; exact ov_zero⟩
  | a :: l, h, hl => by
    rw [List.length_cons] at hl ⊢
    have ih := mv_fb hc l (fun x hx => h x (List.mem_cons_of_mem _ hx)) (by omega)
    have hm := mv_le c l
    have p := fb_pmul (e := 11) ih (fb_c1 hc) (by have : (2 : Nat) ^ 11 = 2048 := by decide
                                                  omega)
    have t := fb_padd p (fb_one (h a List.mem_cons_self))
    refine fb_mono t ?_ ?_
    · rw [Nat.mul_succ]; omega
    · have e1 : 2 * s * (l.length + 1) = 2 * s * l.length + 2 * s := Nat.mul_succ _ _
      have e2 : (l.length + 1) * (2 * s * (l.length + 1) + 4 * s + 12) = l.length * (2 * s * (l.length + 1) + 4 * s + 12) + (2 * s * (l.length + 1) + 4 * s + 12) := by rw [Nat.add_mul, Nat.one_mul]
      have e3 : l.length * (2 * s * l.length + 4 * s + 12) ≤ l.length * (2 * s * (l.length + 1) + 4 * s + 12) := Nat.mul_le_mul_left _ (by omega)
      omega
theorem trim_c1 (c : Rat) : trim [c, 1] = [c, 1] := trim_id (.inr (show (1 : Rat) ≠ 0 by decide))
theorem good_p_moved : Good (Gp L) b_p_moved 2 2 vPMoved := by
  rintro ds q ⟨l, c, s, rfl, hl, hc, s1, l9, hB, hq⟩ -
  have lenl := dRs_len l
  have bound : ∀ n, n ≤ l.length → 2 * s * n + n * (2 * s * n + 4 * s + 12) ≤ 2000000 := fun n hn => by
    have h1 : 2 * s * n ≤ 2 * s * l.length := Nat.mul_le_mul_left _ hn
    have h2 : n * (2 * s * n + 4 * s + 12) ≤ l.length * (2 * s * l.length + 4 * s + 12) := Nat.mul_le_mul hn (by omega)
    have h3 : (l.length + 2) * (l.length + 2) * (2 * s + 12) = l.length * (2 * s * l.length + 4 * s + 12) + 2 * s * l.length + (12 * (l.length * l.length) + 2 * s * l.length + 36 * l.length + 4 * (2 * s + 12)) := by grind
    omega
  refine ⟨rfl, fun k ρ => ∃ s3, ρ = [.val (dP l), .val (dR c), .val (dP (mv c (l.drop (l.length - k)))), s3], ⟨.un, ?_⟩, ?_, ?_⟩
  · rw [Nat.sub_zero, List.drop_length]; rfl
  · rintro k d _ hd ⟨s3, rfl⟩
    obtain ⟨hk, rfl⟩ := rev_at hd
    have dl : (l.drop (l.length - k)).length = k := by rw [List.length_drop]; omega
    have f1 := mv_fb hc (l.drop (l.length - k)) (pb_drop hl _) (by omega)
    rw [dl] at f1
    have bd := bound k (by omega)
    have ml := mv_le c (l.drop (l.length - k))
    rw [dl] at ml
    have e11 : (2 : Nat) ^ 11 = 2048 := by decide
    have s2 : 2 * s + 12 ≤ 2000000 := Nat.le_trans (Nat.le_mul_of_pos_left _ (Nat.mul_pos (by omega) (by omega))) hB
    have pt : PTok (mv c (l.drop (l.length - k))) (trim [c, 1]) := by
      rw [trim_c1]
      exact fb_pt (e := 11) f1 (fb_c1 hc) (by omega) (by omega) (by omega) (by simp)
    have f2 := fb_pmul (e := 11) f1 (fb_c1 hc) (by omega)
    have f3 := fb_one (pb_co hl s1 (l.length - 1 - k))
    have ra := fb_pb f3
    have rp := fb_pb f2
    have pl : (pmul (mv c (l.drop (l.length - k))) (trim [c, 1])).length ≤ 2 * k + 2 := by
      rw [trim_c1]
      exact Nat.le_trans (mk_len _ _) (by simp; omega)
    have tl := trim_le [co l (l.length - 1 - k)]
    have e : mv c (l.drop (l.length - (k + 1))) = padd (pmul (mv c (l.drop (l.length - k))) (trim [c, 1])) (trim [co l (l.length - 1 - k)]) := by
      rw [drop_co (show l.length - (k + 1) < l.length by omega), show l.length - (k + 1) + 1 = l.length - k by omega, show l.length - (k + 1) = l.length - 1 - k by omega, trim_c1]
      rfl
    let S := 2 * s * k + s + (k * (2 * s * k + 4 * s + 12) + s + 11) + 1 + (s + s + 1)
    have rp' : PB S (pmul (mv c (l.drop (l.length - k))) (trim [c, 1])) := by
      rw [trim_c1]
      exact fun x hx => rb_mono (rp x hx) (by omega)
    refine ⟨rfl, rfl, _, [c, 1], rfl, .inl rfl, .inl rfl, rfl, _, _, rfl, pt, .inl rfl, rfl, rfl, _, [co l (l.length - 1 - k)], rfl, .inl rfl, .inl rfl, rfl, _, _, S, rfl, rp', fun x hx => rb_mono (ra x hx) (by omega), by omega, by omega, by omega, by simp only [List.length_cons, List.length_nil] at tl; omega, .inl rfl, .val (dR (co l (l.length - 1 - k))), ?_⟩
    rw [e]; rfl
  · rintro _ ⟨s3, rfl⟩
    rw [List.length_reverse, lenl, Nat.sub_self, List.drop_zero]
    exact hq
end M4

/-! M5: polynomials are told by their values; a ring. -/
namespace M5
open PySem PySem.Spec L2 VL M1 M2 M3 M4
/-- divided by x - r -/
def sd (r : Rat) : List Rat → List Rat
  | [] => []
  | [_] => []
  | a :: b :: l => ev (b :: l) r :: sd r (b :: l)
theorem sd_len (r : Rat) : ∀ l, (sd r l).length = l.length - 1
  | [] => rfl
  | [_] => rfl
  | a :: b :: l => by
    have := sd_len r (b :: l)
    unfold sd
    rw [List.length_cons, this]
    simp
theorem sd_ev (r x : Rat) : ∀ l, ev l x = (x - r) * ev (sd r l) x + ev l r
  | [] => by unfold sd ev; grind
  | [a] => by
    unfold sd
    show a + x * 0 = (x - r) * 0 + (a + r * 0)
    grind
  | a :: b :: l => by
    have ih := sd_ev r x (b :: l)
    unfold sd
    show a + x * ev (b :: l) x = (x - r) * (ev (b :: l) r + x * ev (sd r (b :: l)) x) + (a + r * ev (b :: l) r)
    rw [ih]; grind
theorem ev_far : ∀ (n : Nat) (l : List Rat), l.length ≤ n → ∀ N : Nat, (∀ x : Nat, N ≤ x → ev l x = 0) → ∀ k, co l k = 0
  | 0, l, h, N, z, k => by
    have : l = [] := List.length_eq_zero_iff.mp (by omega)
    subst this; exact co_nil k
  | n + 1, [], h, N, z, k => co_nil k
  | n + 1, a :: l, h, N, z, k => by
    have hN := z N (Nat.le_refl _)
    have q0 : ∀ k, co (sd N (a :: l)) k = 0 := ev_far n (sd N (a :: l)) (by rw [sd_len]; simpa using h) (N + 1) fun x hx => by
      have e := sd_ev N x (a :: l)
      rw [z x (by omega), hN] at e
      have ne : (x : Rat) - (N : Rat) ≠ 0 := fun w => by
        have w2 : (x : Rat) = (N : Rat) := by grind
        have : x = N := by exact_mod_cast w2
        omega
      have : ((x : Rat) - (N : Rat)) * ev (sd N (a :: l)) x = 0 := by grind
      rcases Rat.mul_eq_zero.mp this with w | w
      · exact absurd w ne
      · exact w
    have all : ∀ x : Rat, ev (a :: l) x = 0 := fun x => by
      rw [sd_ev N x (a :: l), hN]
      have : ev (sd N (a :: l)) x = 0 := by
        rw [ev_ext (m := []) (fun k => by rw [q0 k, co_nil])]; rfl
      rw [this]; grind
    have a0 : a = 0 := by
      have := all 0
      change a + 0 * ev l 0 = 0 at this
      grind
    have rest : ∀ k, co l k = 0 := ev_far n l (by simpa using h) 1 fun x hx => by
      have e := all x
      change a + x * ev l x = 0 at e
      have : (x : Rat) * ev l x = 0 := by grind
      rcases Rat.mul_eq_zero.mp this with w | w
      · have : x = 0 := by exact_mod_cast w
        omega
      · exact w
    cases k with
    | zero => exact a0
    | succ k => rw [co_succ]; exact rest k
theorem ev_inj {l m : List Rat} (hl : IsT l) (hm : IsT m) (h : ∀ x, ev l x = ev m x) : l = m := by
  refine isT_ext hl hm fun k => ?_
  let d := mk (max l.length m.length) fun k => co l k - co m k
  have hd : ∀ k, co d k = co l k - co m k := fun k => by
    show co (mk _ _) k = _
    rw [mk_co]
    split
    · rfl
    · rw [co_out (show l.length ≤ k by omega), co_out (show m.length ≤ k by omega)]; grind
  have e : ∀ x, ev d x = 0 := fun x => by
    have : ev (padd d m) x = ev l x := ev_ext (fun k => by rw [co_padd, hd]; grind) x
    rw [ev_padd] at this
    have := h x
    grind
  have := ev_far d.length d (Nat.le_refl _) 0 (fun x _ => e x) k
  rw [hd] at this
  grind
/-- a polynomial -/
def Pol := { l : List Rat // IsT l }
namespace Pol
def ev (p : Pol) (x : Rat) : Rat := M4.ev p.1 x
theorem ext {p q : Pol} (h : ∀ x, ev p x = ev q x) : p = q := Subtype.ext (ev_inj p.2 q.2 h)
instance : Add Pol := ⟨fun p q => ⟨padd p.1 q.1, mk_isT _ _⟩⟩
instance : Mul Pol := ⟨fun p q => ⟨pmul p.1 q.1, mk_isT _ _⟩⟩
def cst (c : Rat) : Pol := ⟨trim [c], trim_isT _⟩
theorem ev_cst (c x : Rat) : ev (cst c) x = c := by
  show M4.ev (trim [c]) x = c
  rw [ev_trim]
  show c + x * 0 = c
  grind
theorem ev_add (p q : Pol) (x : Rat) : ev (p + q) x = ev p x + ev q x := ev_padd _ _ _
theorem ev_mul (p q : Pol) (x : Rat) : ev (p * q) x = ev p x * ev q x := ev_pmul _ _ _
instance : Neg Pol := ⟨fun p => cst (-1) * p⟩
instance : Sub Pol := ⟨fun p q => p + -q⟩
theorem ev_neg (p : Pol) (x : Rat) : ev (-p) x = - ev p x := by
  show ev (cst (-1) * p) x = _
  rw [ev_mul, ev_cst]; grind
theorem ev_sub (p q : Pol) (x : Rat) : ev (p - q) x = ev p x - ev q x := by
  show ev (p + -q) x = _
  rw [ev_add, ev_neg]; grind
def pow (p : Pol) : Nat → Pol
  | 0 => cst 1
  | n + 1 => pow p n * p
instance : HPow Pol Nat Pol := ⟨pow⟩
instance : NatCast Pol := ⟨fun n => cst n⟩
instance : IntCast Pol := ⟨fun n => cst n⟩
instance (n : Nat) : OfNat Pol n := ⟨cst n⟩
instance : SMul Nat Pol := ⟨fun n p => cst n * p⟩
instance : SMul Int Pol := ⟨fun n p => cst n * p⟩
theorem ev_nat (n : Nat) (x : Rat) : ev (OfNat.ofNat n : Pol) x = n := ev_cst _ _
theorem ev_smul (n : Nat) (p : Pol) (x : Rat) : ev (n • p) x = n * ev p x := by
  show ev (cst n * p) x = _
  rw [ev_mul, ev_cst]
theorem ev_zsmul (n : Int) (p : Pol) (x : Rat) : ev (n • p) x = n * ev p x := by
  show ev (cst n * p) x = _
  rw [ev_mul, ev_cst]
theorem ev_pow (p : Pol) (x : Rat) : ∀ n : Nat, ev (p ^ n) x = ev p x ^ n
  | 0 => by
    show ev (cst 1) x = _
    rw [ev_cst, Rat.pow_zero]
  | n + 1 => by
    have : ev (p ^ (n + 1)) x = ev (p ^ n * p) x := rfl
    rw [this, ev_mul, ev_pow p x n, Rat.pow_succ]
theorem ev_0 (x : Rat) : ev (0 : Pol) x = 0 := ev_cst _ _
theorem ev_1 (x : Rat) : ev (1 : Pol) x = 1 := ev_cst _ _
theorem ev_natc (n : Nat) (x : Rat) : ev (n : Pol) x = n := ev_cst _ _
theorem ev_intc (n : Int) (x : Rat) : ev (n : Pol) x = n := ev_cst _ _
instance : Lean.Grind.CommRing Pol where
  nsmul := inferInstance
  zsmul := inferInstance
  npow := inferInstance
  natCast := inferInstance
  intCast := inferInstance
  ofNat := inferInstance
  add_zero a := ext fun x => by rw [ev_add, ev_0]; grind
  add_comm a b := ext fun x => by rw [ev_add, ev_add]; grind
  add_assoc a b c := ext fun x => by rw [ev_add, ev_add, ev_add, ev_add]; grind
  mul_assoc a b c := ext fun x => by rw [ev_mul, ev_mul, ev_mul, ev_mul]; grind
  mul_one a := ext fun x => by rw [ev_mul, ev_1]; grind
  one_mul a := ext fun x => by rw [ev_mul, ev_1]; grind
  left_distrib a b c := ext fun x => by rw [ev_mul, ev_add, ev_add, ev_mul, ev_mul]; grind
  right_distrib a b c := ext fun x => by rw [ev_mul, ev_add, ev_add, ev_mul, ev_mul]; grind
  zero_mul a := ext fun x => by rw [ev_mul, ev_0]; grind
  mul_zero a := ext fun x => by rw [ev_mul, ev_0]; grind
  pow_zero a := ext fun x => by rw [ev_pow, ev_1, Rat.pow_zero]
  pow_succ a n := ext fun x => by rw [ev_pow, ev_mul, ev_pow, Rat.pow_succ]
  ofNat_succ n := ext fun x => by
    rw [ev_add, ev_1]
    show ev (cst ((n + 1 : Nat) : Rat)) x = ev (cst (n : Rat)) x + 1
    rw [ev_cst, ev_cst]; exact_mod_cast rfl
  neg_add_cancel a := ext fun x => by rw [ev_add, ev_neg, ev_0]; grind
  sub_eq_add_neg a b := rfl
  neg_zsmul i a := ext fun x => by rw [ev_zsmul, ev_neg, ev_zsmul, Rat.intCast_neg]; grind
  intCast_neg i := ext fun x => by rw [ev_neg, ev_intc, ev_intc, Rat.intCast_neg]
  mul_comm a b := ext fun x => by rw [ev_mul, ev_mul]; grind
end Pol
/-! ### degrees -/
theorem cv_zero {f m : List Rat} {t : Nat} : ∀ {n : Nat}, n + m.length ≤ t + 1 → cv f m n t = 0
  | 0, _ => rfl
  | n + 1, h => by
    rw [cv_succ, cv_zero (by omega), Rat.zero_add]
    split
    · rw [co_out (show m.length ≤ t - n by omega), Rat.mul_zero]
    · rfl
theorem co_pmul (f m : List Rat) (t : Nat) : co (pmul f m) t = cv f m f.length t := by
  unfold pmul
  rw [mk_co]
  split
  · rfl
  · rw [cv_zero (by omega)]
theorem isT_lead {l : List Rat} (h : IsT l) (h0 : l ≠ []) : co l (l.length - 1) ≠ 0 := by
  rcases h with e | e
  · exact absurd e h0
  · exact e
theorem pmul_top {f m : List Rat} (hf : f ≠ []) (hm : m ≠ []) : co (pmul f m) (f.length - 1 + (m.length - 1)) = co f (f.length - 1) * co m (m.length - 1) := by
  have fp : 0 < f.length := List.length_pos_iff.mpr hf
  have mp : 0 < m.length := List.length_pos_iff.mpr hm
  rw [co_pmul]
  obtain ⟨n, e⟩ : ∃ n, f.length = n + 1 := ⟨f.length - 1, by omega⟩
  rw [e, cv_succ, Nat.add_sub_cancel, cv_zero (by omega), if_pos (by omega), Nat.add_sub_cancel_left, Rat.zero_add]
theorem pmul_len_eq {f m : List Rat} (hf : IsT f) (hm : IsT m) (f0 : f ≠ []) (m0 : m ≠ []) : (pmul f m).length = f.length + m.length - 1 := by
  have fp : 0 < f.length := List.length_pos_iff.mpr f0
  have mp : 0 < m.length := List.length_pos_iff.mpr m0
  refine Nat.le_antisymm (isT_len (mk_isT _ _) fun t ht => ?_) ?_
  · have := co_pmul f m t
    rw [cv_zero (by omega)] at this
    exact this
  · rcases Nat.lt_or_ge (pmul f m).length (f.length + m.length - 1) with g | g
    · have h := pmul_top f0 m0
      rw [co_out (by omega)] at h
      rcases Rat.mul_eq_zero.mp h.symm with w | w
      · exact absurd w (isT_lead hf f0)
      · exact absurd w (isT_lead hm m0)
    · exact g
namespace Pol
def len (p : Pol) : Nat := p.1.length
def of (l : List Rat) (h : IsT l) : Pol := ⟨l, h⟩
theorem nil_iff {p : Pol} : p.1 = [] ↔ p = 0 := ⟨fun h => Subtype.ext (by rw [h]; rfl), fun h => by rw [h]; rfl⟩
theorem len_zero : len 0 = 0 := rfl
theorem len_pos {p : Pol} (h : p ≠ 0) : 0 < len p := List.length_pos_iff.mpr fun z => h (nil_iff.mp z)
theorem len_mul {p q : Pol} (hp : p ≠ 0) (hq : q ≠ 0) : len (p * q) = len p + len q - 1 := pmul_len_eq p.2 q.2 (fun z => hp (nil_iff.mp z)) fun z => hq (nil_iff.mp z)
theorem mul_ne {p q : Pol} (hp : p ≠ 0) (hq : q ≠ 0) : p * q ≠ 0 := fun z => by
  have h := len_mul hp hq
  rw [z, len_zero] at h
  have := len_pos hp
  have := len_pos hq
  omega
theorem len_add_le (p q : Pol) : len (p + q) ≤ max (len p) (len q) := mk_len _ _
def lead (p : Pol) : Rat := co p.1 (p.1.length - 1)
theorem lead_ne {p : Pol} (h : p ≠ 0) : lead p ≠ 0 := isT_lead p.2 fun z => h (nil_iff.mp z)
theorem lead_mul {p q : Pol} (hp : p ≠ 0) (hq : q ≠ 0) : lead (p * q) = lead p * lead q := by
  have h := pmul_top (f := p.1) (m := q.1) (fun z => hp (nil_iff.mp z)) fun z => hq (nil_iff.mp z)
  have e := len_mul hp hq
  have := len_pos hp
  have := len_pos hq
  have e2 : (p * q).1.length - 1 = p.1.length - 1 + (q.1.length - 1) := by
    change (p * q).1.length = p.1.length + q.1.length - 1 at e
    change 0 < p.1.length at *
    change 0 < q.1.length at *
    omega
  show co (pmul p.1 q.1) ((p * q).1.length - 1) = _
  rw [e2, h]; rfl
/-- what p_split tells -/
theorem of_split {l m f r : List Rat} (hl : IsT l) (hm : IsT m) (hf : IsT f) (hr : IsT r) (h : ∀ t, co l t = cv f m f.length t + co r t) : of l hl = of f hf * of m hm + of r hr :=
  Subtype.ext (isT_ext hl (mk_isT _ _) fun t => by
    show co l t = co (padd (pmul f m) r) t
    rw [h t, co_padd, co_pmul])
theorem eq_of_mul {a b c : Pol} (hc : c ≠ 0) (h : a * c = b * c) : a = b := by
  have e : (a - b) * c = 0 := by grind
  by_cases z : a - b = 0
  · grind
  · exact absurd e (mul_ne z hc)
theorem co_ext {p q : Pol} (h : ∀ t, co p.1 t = co q.1 t) : p = q := Subtype.ext (isT_ext p.2 q.2 h)
theorem len_one {p : Pol} (h : len p = 1) : p = cst (lead p) := by
  refine co_ext fun t => ?_
  show co p.1 t = co (trim [lead p]) t
  rw [trim_co]
  have h1 : p.1.length = 1 := h
  cases t with
  | zero =>
    show co p.1 0 = lead p
    unfold lead
    rw [h1]
  | succ t => rw [co_out (by omega), co_out (by simp)]
theorem one_ne : (1 : Pol) ≠ 0 := fun z => by
  have := congrArg (fun p => ev p 0) z
  simp only [ev_1, ev_0] at this
  exact absurd this (by decide)
/-- a greatest common factor, its last number 1 -/
structure Gcd (P Q g : Pol) : Prop where
  top : lead g = 1
  ne : g ≠ 0
  a : ∃ a, P = a * g
  b : ∃ b, Q = b * g
  uv : ∃ u v, u * P + v * Q = g
theorem Gcd.swap {P Q g : Pol} (h : Gcd P Q g) : Gcd Q P g := by
  obtain ⟨u, v, e⟩ := h.uv
  exact ⟨h.top, h.ne, h.b, h.a, v, u, by grind⟩
theorem Gcd.div {P Q g h : Pol} (hg : Gcd P Q g) (a b : Pol) (e1 : P = a * h) (e2 : Q = b * h) : ∃ c, g = c * h := by
  obtain ⟨u, v, e⟩ := hg.uv
  exact ⟨u * a + v * b, by grind⟩
theorem Gcd.uniq {P Q g h : Pol} (hg : Gcd P Q g) (hh : Gcd P Q h) : g = h := by
  obtain ⟨a, ea⟩ := hh.a
  obtain ⟨b, eb⟩ := hh.b
  obtain ⟨a', ea'⟩ := hg.a
  obtain ⟨b', eb'⟩ := hg.b
  obtain ⟨c, ec⟩ := hg.div a b ea eb
  obtain ⟨c', ec'⟩ := hh.div a' b' ea' eb'
  have one : c * c' = 1 := eq_of_mul hg.ne (by grind)
  have c0 : c ≠ 0 := fun z => hg.ne (by rw [ec, z]; grind)
  have c0' : c' ≠ 0 := fun z => hh.ne (by rw [ec', z]; grind)
  have l := len_mul c0 c0'
  rw [one] at l
  have l1 : len (1 : Pol) = 1 := by decide
  have p1 := len_pos c0
  have p2 := len_pos c0'
  have cl : len c = 1 := by omega
  have lc : lead c = 1 := by
    have := lead_mul c0 hh.ne
    rw [← ec, hg.top, hh.top] at this
    grind
  have : c = 1 := by
    rw [len_one cl, lc]; rfl
  rw [ec, this]; grind
theorem cst_mul (a b : Rat) : cst a * cst b = cst (a * b) := ext fun x => by rw [ev_mul, ev_cst, ev_cst, ev_cst]
theorem cst_one : cst 1 = 1 := rfl
theorem cst_inv {a : Rat} (h : a ≠ 0) : cst (1 / a) * cst a = 1 := by
  rw [cst_mul, show 1 / a * a = 1 by grind]; rfl
theorem co_cst_mul (c : Rat) (p : Pol) (t : Nat) : co (cst c * p).1 t = c * co p.1 t := by
  show co (pmul (trim [c]) p.1) t = _
  have e : ∀ t, co (pmul (trim [c]) p.1) t = co (mk p.1.length fun k => c * co p.1 k) t := fun t => by
    have : pmul (trim [c]) p.1 = mk p.1.length fun k => c * co p.1 k := ev_inj (mk_isT _ _) (mk_isT _ _) fun x => by
      rw [ev_pmul, ev_trim, ev_mk, E_mul, ev_E _ _ _ (Nat.le_refl _)]
      show (c + x * 0) * _ = _
      grind
    rw [this]
  rw [e, mk_co]
  split
  · rfl
  · rw [co_out (by omega), Rat.mul_zero]
/-- what monic tells -/
def mon (p : Pol) : Pol := cst (1 / lead p) * p
theorem mon_zero : mon 0 = 0 := by unfold mon; grind
theorem of_monic (l : List Rat) (h : IsT l) (h2 : IsT (monicL l)) : of (monicL l) h2 = mon (of l h) := co_ext fun t => by
  unfold mon
  rw [co_cst_mul]
  show co (monicL l) t = 1 / co l (l.length - 1) * co l t
  unfold monicL
  rw [mk_co]
  split
  · grind
  · rw [co_out (show l.length ≤ t by omega)]; grind
theorem mon_ne {p : Pol} (h : p ≠ 0) : mon p ≠ 0 := fun z => by
  have : p = cst (lead p) * mon p := by
    unfold mon
    have := cst_inv (lead_ne h)
    grind
  rw [z] at this
  exact h (by grind)
theorem mon_lead {p : Pol} (h : p ≠ 0) : lead (mon p) = 1 := by
  have c0 : cst (1 / lead p) ≠ 0 := fun z => by
    have := cst_inv (lead_ne h)
    rw [z] at this
    exact one_ne (by grind)
  unfold mon
  rw [lead_mul c0 h]
  have e : lead (cst (1 / lead p)) = 1 / lead p := by
    have hne : (1 / lead p) ≠ 0 := fun z => by
      have := lead_ne h
      have : 1 / lead p * lead p = 1 := by grind
      grind
    have ht : trim [1 / lead p] = [1 / lead p] := trim_id (.inr hne)
    show co (trim [1 / lead p]) ((trim [1 / lead p]).length - 1) = _
    rw [ht]; rfl
  rw [e]
  have := lead_ne h
  grind
/-- Euclid's way: what stands between -/
structure Eu (P Q p q : Pol) : Prop where
  hp : ∃ u v, u * P + v * Q = p
  hq : ∃ u v, u * P + v * Q = q
  hP : ∃ a b, a * p + b * q = P
  hQ : ∃ a b, a * p + b * q = Q
theorem Eu.start (P Q : Pol) : Eu P Q P Q := ⟨⟨1, 0, by grind⟩, ⟨0, 1, by grind⟩, ⟨1, 0, by grind⟩, ⟨0, 1, by grind⟩⟩
theorem Eu.step {P Q p q f r c c' : Pol} (h : Eu P Q p q) (e : p = f * q + r) (hc : c' * c = 1) : Eu P Q q (c * r) := by
  obtain ⟨u, v, e1⟩ := h.hp
  obtain ⟨w, x, e2⟩ := h.hq
  obtain ⟨a, b, e3⟩ := h.hP
  obtain ⟨a', b', e4⟩ := h.hQ
  refine ⟨⟨w, x, e2⟩, ⟨c * (u - f * w), c * (v - f * x), by grind⟩, ⟨a * f + b, a * c', by grind⟩, ⟨a' * f + b', a' * c', by grind⟩⟩
theorem Eu.step_mon {P Q p q f r : Pol} (h : Eu P Q p q) (e : p = f * q + r) : Eu P Q q (mon r) := by
  by_cases z : r = 0
  · rw [z, mon_zero]
    have := h.step (c := 1) (c' := 1) e (by grind)
    rw [z] at this
    have e2 : (1 : Pol) * 0 = 0 := by grind
    rw [e2] at this
    exact this
  · have i := cst_inv (lead_ne z)
    exact h.step (c := cst (1 / lead r)) (c' := cst (lead r)) e (by grind)
theorem Eu.stop {P Q p : Pol} (h : Eu P Q p 0) (h0 : p ≠ 0) : Gcd P Q (mon p) := by
  obtain ⟨u, v, e1⟩ := h.hp
  obtain ⟨a, b, e3⟩ := h.hP
  obtain ⟨a', b', e4⟩ := h.hQ
  have i := cst_inv (lead_ne h0)
  have e : p = cst (lead p) * mon p := by unfold mon; grind
  refine ⟨mon_lead h0, mon_ne h0, ⟨a * cst (lead p), by grind⟩, ⟨a' * cst (lead p), by grind⟩, ⟨cst (1 / lead p) * u, cst (1 / lead p) * v, ?_⟩⟩
  unfold mon
  grind
theorem Eu.both {P Q : Pol} (h : Eu P Q 0 0) : P = 0 ∧ Q = 0 := by
  obtain ⟨a, b, e3⟩ := h.hP
  obtain ⟨a', b', e4⟩ := h.hQ
  exact ⟨by grind, by grind⟩
end Pol
end M5

/-! M5s: a small solution of fewer equations than unknowns, by counting. -/
namespace M5
theorem pigeon : ∀ (M : Nat) (f : Nat → Nat), (∀ k, k ≤ M → f k < M) → ∃ i j, i < j ∧ j ≤ M ∧ f i = f j
  | 0, f, h => absurd (h 0 (Nat.le_refl _)) (by omega)
  | M + 1, f, h => by
    by_cases g : ∃ i, i ≤ M ∧ f i = f (M + 1)
    · obtain ⟨i, h1, h2⟩ := g
      exact ⟨i, M + 1, by omega, by omega, h2⟩
    · have g' : ∀ i, i ≤ M → f i ≠ f (M + 1) := fun i hi e => g ⟨i, hi, e⟩
      obtain ⟨i, j, h1, h2, h3⟩ := pigeon M (fun k => if f k = M then f (M + 1) else f k) (fun k hk => by
        have a := h k (by omega)
        have b := h (M + 1) (by omega)
        have c := g' k hk
        show (if f k = M then f (M + 1) else f k) < M
        split <;> omega)
      have a := g' i (by omega)
      have b := g' j (by omega)
      refine ⟨i, j, h1, by omega, ?_⟩
      have h3 : (if f i = M then f (M + 1) else f i) = (if f j = M then f (M + 1) else f j) := h3
      split at h3 <;> split at h3 <;> omega
def dig (B N j : Nat) : Nat := N / B ^ j % B
theorem dig_ext {B : Nat} (hB : 0 < B) : ∀ (n N1 N2 : Nat), N1 < B ^ n → N2 < B ^ n → (∀ j, j < n → dig B N1 j = dig B N2 j) → N1 = N2
  | 0, N1, N2, h1, h2, _ => by
    rw [Nat.pow_zero] at h1 h2; omega
  | n + 1, N1, N2, h1, h2, h => by
    have e0 := h 0 (by omega)
    unfold dig at e0
    rw [Nat.pow_zero, Nat.div_one, Nat.div_one] at e0
    have d : ∀ N, N < B ^ (n + 1) → N / B < B ^ n := fun N hN => by
      rw [Nat.pow_succ] at hN
      exact Nat.div_lt_of_lt_mul (by rw [Nat.mul_comm]; exact hN)
    have e1 := dig_ext hB n (N1 / B) (N2 / B) (d _ h1) (d _ h2) fun j hj => by
      have := h (j + 1) (by omega)
      unfold dig at this ⊢
      rw [Nat.pow_succ, Nat.mul_comm] at this
      rw [Nat.div_div_eq_div_mul, Nat.div_div_eq_div_mul]
      exact this
    rw [← Nat.div_add_mod N1 B, ← Nat.div_add_mod N2 B, e0, e1]
def enc (W : Nat) (y : Nat → Nat) : Nat → Nat
  | 0 => 0
  | m + 1 => enc W y m + y m * W ^ m
theorem enc_lt {W : Nat} {y : Nat → Nat} : ∀ {m : Nat}, (∀ i, i < m → y i < W) → enc W y m < W ^ m
  | 0, _ => by
    unfold enc; simp
  | m + 1, h => by
    have ih := enc_lt (m := m) fun i hi => h i (by omega)
    have := h m (by omega)
    unfold enc
    rw [Nat.pow_succ]
    have h2 : (y m + 1) * W ^ m ≤ W * W ^ m := Nat.mul_le_mul_right _ this
    rw [Nat.add_mul, Nat.one_mul] at h2
    rw [Nat.mul_comm (W ^ m)]
    omega
theorem enc_inj {W : Nat} {y z : Nat → Nat} (hW : 0 < W) : ∀ {m : Nat}, (∀ i, i < m → y i < W) → (∀ i, i < m → z i < W) → enc W y m = enc W z m → ∀ i, i < m → y i = z i
  | 0, _, _, _, i, hi => by omega
  | m + 1, hy, hz, e, i, hi => by
    have ly := enc_lt (m := m) fun i hi => hy i (by omega)
    have lz := enc_lt (m := m) fun i hi => hz i (by omega)
    have p : 0 < W ^ m := Nat.pow_pos hW
    unfold enc at e
    have e1 : y m = z m := by
      have h1 : (enc W y m + y m * W ^ m) / W ^ m = y m := by rw [Nat.add_mul_div_right _ _ p, Nat.div_eq_of_lt ly, Nat.zero_add]
      have h2 : (enc W z m + z m * W ^ m) / W ^ m = z m := by rw [Nat.add_mul_div_right _ _ p, Nat.div_eq_of_lt lz, Nat.zero_add]
      rw [← h1, ← h2, e]
    rw [e1] at e
    rcases Nat.lt_or_ge i m with g | g
    · exact enc_inj hW (fun i hi => hy i (by omega)) (fun i hi => hz i (by omega)) (by omega) i g
    · have : i = m := by omega
      subst this; exact e1
def si (f : Nat → Int) : Nat → Int
  | 0 => 0
  | n + 1 => si f n + f n
theorem si_abs {f : Nat → Int} {C : Nat} : ∀ {n : Nat}, (∀ k, k < n → (f k).natAbs ≤ C) → (si f n).natAbs ≤ n * C
  | 0, _ => by unfold si; simp
  | n + 1, h => by
    have ih := si_abs (n := n) fun k hk => h k (by omega)
    have := h n (by omega)
    unfold si
    rw [Nat.add_mul, Nat.one_mul]
    exact Nat.le_trans (Int.natAbs_add_le _ _) (by omega)
theorem si_sub (f g : Nat → Int) : ∀ n, si (fun k => f k - g k) n = si f n - si g n
  | 0 => rfl
  | n + 1 => by unfold si; rw [si_sub f g n]; omega
theorem si_congr {f g : Nat → Int} : ∀ {n : Nat}, (∀ k, k < n → f k = g k) → si f n = si g n
  | 0, _ => rfl
  | n + 1, h => by unfold si; rw [si_congr (n := n) fun k hk => h k (by omega), h n (by omega)]
/-- m equations, m + 1 unknowns -/
theorem siegel (A : Nat → Nat → Int) (K m : Nat) (hA : ∀ i j, (A i j).natAbs ≤ K) :
    ∃ x : Nat → Int, (∃ j, j < m + 1 ∧ x j ≠ 0) ∧ (∀ i, i < m → si (fun j => A i j * x j) (m + 1) = 0) ∧ ∀ j, (x j).natAbs ≤ (2 * (m + 1) * K + 1) ^ m := by
  let n := m + 1
  obtain ⟨H, hH⟩ : ∃ H, H = (2 * (m + 1) * K + 1) ^ m := ⟨_, rfl⟩
  have H1 : 1 ≤ H := by rw [hH]; exact Nat.pow_pos (by omega)
  obtain ⟨C, hC⟩ : ∃ C, C = (m + 1) * (K * H) := ⟨_, rfl⟩
  have bound : ∀ N i, (si (fun j => A i j * (dig (H + 1) N j : Int)) (m + 1)).natAbs ≤ C := fun N i => by
    rw [hC]
    refine si_abs fun k _ => ?_
    rw [Int.natAbs_mul]
    refine Nat.mul_le_mul (hA i k) ?_
    have : dig (H + 1) N k < H + 1 := Nat.mod_lt _ (by omega)
    omega
  let y : Nat → Nat → Nat := fun N i => (si (fun j => A i j * (dig (H + 1) N j : Int)) (m + 1) + C).toNat
  have yl : ∀ N i, y N i < 2 * C + 1 := fun N i => by
    have := bound N i
    show (_ : Int).toNat < _
    omega
  obtain ⟨N1, N2, hlt, hle, he⟩ := pigeon ((2 * C + 1) ^ m) (fun N => enc (2 * C + 1) (y N) m) fun k _ => enc_lt fun i _ => yl k i
  have hB : (2 * C + 1) ^ m < (H + 1) ^ (m + 1) := by
    have h1 : 2 * C + 1 ≤ (2 * (m + 1) * K + 1) * H := by
      have e : 2 * C = 2 * (m + 1) * K * H := by rw [hC]; simp only [Nat.mul_assoc]
      rw [e, Nat.add_mul, Nat.one_mul]; omega
    calc (2 * C + 1) ^ m ≤ ((2 * (m + 1) * K + 1) * H) ^ m := Nat.pow_le_pow_left h1 m
      _ = H * H ^ m := by rw [Nat.mul_pow, ← hH]
      _ = H ^ (m + 1) := by rw [Nat.pow_succ, Nat.mul_comm]
      _ < (H + 1) ^ (m + 1) := Nat.pow_lt_pow_left (by omega) (by omega)
  have ey := enc_inj (m := m) (by omega) (fun i _ => yl N1 i) (fun i _ => yl N2 i) he
  refine ⟨fun j => (dig (H + 1) N1 j : Int) - (dig (H + 1) N2 j : Int), ?_, fun i hi => ?_, fun j => ?_⟩
  · refine Classical.byContradiction fun g => ?_
    have : N1 = N2 := dig_ext (B := H + 1) (by omega) (m + 1) N1 N2 (by omega) (by omega) fun j hj => by
      refine Classical.byContradiction fun w => g ⟨j, hj, ?_⟩
      show (dig (H + 1) N1 j : Int) - (dig (H + 1) N2 j : Int) ≠ 0
      omega
    omega
  · have e1 : si (fun j => A i j * ((dig (H + 1) N1 j : Int) - (dig (H + 1) N2 j : Int))) (m + 1) = si (fun j => A i j * (dig (H + 1) N1 j : Int)) (m + 1) - si (fun j => A i j * (dig (H + 1) N2 j : Int)) (m + 1) := by
      rw [← si_sub]
      exact si_congr fun k _ => Int.mul_sub _ _ _
    show si (fun j => A i j * ((dig (H + 1) N1 j : Int) - (dig (H + 1) N2 j : Int))) (m + 1) = 0
    rw [e1]
    have h := ey i hi
    change (_ : Int).toNat = (_ : Int).toNat at h
    have b1 := bound N1 i
    have b2 := bound N2 i
    omega
  · have d1 : dig (H + 1) N1 j < H + 1 := Nat.mod_lt _ (by omega)
    have d2 : dig (H + 1) N2 j < H + 1 := Nat.mod_lt _ (by omega)
    show ((dig (H + 1) N1 j : Int) - (dig (H + 1) N2 j : Int)).natAbs ≤ _
    rw [← hH]
    omega
end M5

/-! M5e: sizes along Euclid's way. -/
namespace M5
open PySem PySem.Spec L2 VL M1 M2 M3 M4
namespace Pol
/-- whole numbers of at most K -/
def IZ (K : Nat) (p : Pol) : Prop := ∀ k, ∃ n : Int, co p.1 k = n ∧ n.natAbs ≤ K
theorem cst_zero : cst 0 = 0 := ext fun x => by rw [ev_cst, ev_0]
theorem cst_ne {c : Rat} (h : c ≠ 0) : cst c ≠ 0 := fun z => by
  have := cst_inv h
  rw [z] at this
  exact one_ne (by grind)
theorem len_cst {c : Rat} (h : c ≠ 0) : len (cst c) = 1 := by
  show (trim [c]).length = 1
  rw [trim_id (l := [c]) (.inr h)]; rfl
theorem len_cst_mul {c : Rat} (h : c ≠ 0) (p : Pol) : len (cst c * p) = len p := by
  by_cases z : p = 0
  · subst z
    rw [show cst c * 0 = 0 by grind]
  · rw [len_mul (cst_ne h) z, len_cst h]; omega
theorem co_add (p q : Pol) (t : Nat) : co (p + q).1 t = co p.1 t + co q.1 t := co_padd _ _ _
theorem co_neg (p : Pol) (t : Nat) : co (-p).1 t = - co p.1 t := by
  show co (cst (-1) * p).1 t = _
  rw [co_cst_mul]; grind
theorem co_sub (p q : Pol) (t : Nat) : co (p - q).1 t = co p.1 t - co q.1 t := by
  show co (p + -q).1 t = _
  rw [co_add, co_neg]; grind
theorem len_mul_le (p q : Pol) : len (p * q) ≤ len p + len q - 1 := by
  by_cases z : p = 0
  · subst z
    rw [show (0 : Pol) * q = 0 by grind, len_zero]; omega
  · by_cases w : q = 0
    · subst w
      rw [show p * (0 : Pol) = 0 by grind, len_zero]; omega
    · rw [len_mul z w]; exact Nat.le_refl _
theorem len_le {p : Pol} {n : Nat} (h : ∀ t, n ≤ t → co p.1 t = 0) : len p ≤ n := isT_len p.2 h
theorem co_far {p : Pol} {t : Nat} (h : len p ≤ t) : co p.1 t = 0 := co_out h
theorem len_sub_le (p q : Pol) : len (p - q) ≤ max (len p) (len q) := len_le fun t ht => by
  rw [co_sub, co_far (by omega), co_far (by omega)]; grind
theorem co_lead {p : Pol} {n : Nat} (h : len p = n + 1) : lead p = co p.1 n := by
  unfold lead
  have : p.1.length = n + 1 := h
  rw [this, Nat.add_sub_cancel]
theorem len_sub_lt {p q : Pol} (h : len q < len p) : len (p - q) = len p ∧ lead (p - q) = lead p := by
  obtain ⟨n, hn⟩ : ∃ n, len p = n + 1 := ⟨len p - 1, by omega⟩
  have p0 : p ≠ 0 := fun z => by rw [z, len_zero] at hn; omega
  have c : co (p - q).1 n = lead p := by rw [co_sub, co_far (p := q) (by omega), co_lead hn]; grind
  have l : len (p - q) = n + 1 := by
    have h1 := len_sub_le p q
    rcases Nat.lt_or_ge (len (p - q)) (n + 1) with g | g
    · rw [co_far (by omega)] at c
      exact absurd c.symm (lead_ne p0)
    · omega
  exact ⟨by omega, by rw [co_lead l, c]⟩
theorem len_neg (p : Pol) : len (-p) = len p := len_cst_mul (by decide) p
theorem len_sub_lt' {p q : Pol} (h : len p < len q) : len (p - q) = len q := by
  have e : p - q = -(q - p) := by grind
  rw [e, len_neg]
  exact (len_sub_lt h).1
theorem fb_iz {d b : Nat} {p : Pol} (h : Fb d b p.1) : ∃ D : Nat, 0 < D ∧ D ≤ 2 ^ d ∧ IZ (2 ^ b) (cst D * p) := by
  obtain ⟨D, h1, h2, h3⟩ := h
  refine ⟨D, h1, h2, fun k => ?_⟩
  obtain ⟨n, e, l⟩ := h3 k
  refine ⟨n, ?_, l⟩
  rw [co_cst_mul, e, Rat.divInt_eq_div]
  have : (D : Rat) ≠ 0 := by
    intro z
    have : D = 0 := by exact_mod_cast z
    omega
  show (D : Rat) * ((n : Rat) / ((D : Int) : Rat)) = n
  rw [Rat.intCast_natCast]
  grind
theorem iz_fb {x K : Nat} {p : Pol} (h : IZ K p) (hK : K ≤ 2 ^ x) : Fb 0 x p.1 := ⟨1, by decide, by simp, fun k => by
  obtain ⟨n, e, l⟩ := h k
  refine ⟨n, ?_, Nat.le_trans l hK⟩
  rw [e]
  show (n : Rat) = Rat.divInt n 1
  rw [Rat.divInt_eq_div]; grind⟩
theorem cv_si {l m : List Rat} {f g : Nat → Int} {t : Nat} : ∀ (n : Nat), (∀ k, k < n → co l k = f k) → (∀ k, co m k = g k) → cv l m n t = ((si (fun k => (if k ≤ t then g (t - k) else 0) * f k) n : Int) : Rat)
  | 0, _, _ => rfl
  | n + 1, hl, hm => by
    have ih := cv_si (t := t) n (fun k hk => hl k (by omega)) hm
    show _ = ((si (fun k => (if k ≤ t then g (t - k) else 0) * f k) n + (if n ≤ t then g (t - n) else 0) * f n : Int) : Rat)
    rw [cv_succ, ih, Rat.intCast_add, Rat.intCast_mul, hl n (by omega)]
    congr 1
    by_cases h : n ≤ t
    · rw [if_pos h, if_pos h, hm, Rat.mul_comm]
    · rw [if_neg h, if_neg h]
      show (0 : Rat) = 0 * _
      rw [Rat.zero_mul]
theorem si_split (f : Nat → Int) (a : Nat) : ∀ c, si f (a + c) = si f a + si (fun k => f (a + k)) c
  | 0 => by
    show si f a = si f a + 0
    omega
  | c + 1 => by
    show si f (a + c) + f (a + c) = si f a + (si (fun k => f (a + k)) c + f (a + c))
    rw [si_split f a c]; omega
theorem sieg {P Q : Pol} {K : Nat} (hP : IZ K P) (hQ : IZ K Q) (a c k0 m : Nat) (e : a + c = m + 1) (h1 : a + len P ≤ k0 + m + 1) (h2 : c + len Q ≤ k0 + m + 1) :
    ∃ u v : Pol, ¬ (u = 0 ∧ v = 0) ∧ len u ≤ a ∧ len v ≤ c ∧ len (u * P + v * Q) ≤ k0 ∧ IZ ((2 * (m + 1) * K + 1) ^ m) u ∧ IZ ((2 * (m + 1) * K + 1) ^ m) v ∧ IZ ((m + 1) * (K * (2 * (m + 1) * K + 1) ^ m)) (u * P + v * Q) := by
  let nP : Nat → Int := fun k => (hP k).choose
  let nQ : Nat → Int := fun k => (hQ k).choose
  have eP : ∀ k, co P.1 k = nP k := fun k => (hP k).choose_spec.1
  have eQ : ∀ k, co Q.1 k = nQ k := fun k => (hQ k).choose_spec.1
  have lP : ∀ k, (nP k).natAbs ≤ K := fun k => (hP k).choose_spec.2
  have lQ : ∀ k, (nQ k).natAbs ≤ K := fun k => (hQ k).choose_spec.2
  let A : Nat → Nat → Int := fun t j => if j < a then (if j ≤ t then nP (t - j) else 0) else (if j - a ≤ t then nQ (t - (j - a)) else 0)
  have hA : ∀ t j, (A t j).natAbs ≤ K := fun t j => by
    show (if j < a then (if j ≤ t then nP (t - j) else 0) else (if j - a ≤ t then nQ (t - (j - a)) else 0) : Int).natAbs ≤ K
    have z : (0 : Int).natAbs ≤ K := Nat.zero_le _
    split
    · split
      · exact lP _
      · exact z
    · split
      · exact lQ _
      · exact z
  obtain ⟨x, ⟨j0, hj0, hx0⟩, heq, hb⟩ := siegel (fun i j => A (i + k0) j) K m fun i j => hA _ _
  let u : Pol := ⟨mk a fun k => (x k : Rat), mk_isT _ _⟩
  let v : Pol := ⟨mk c fun k => (x (a + k) : Rat), mk_isT _ _⟩
  have cu : ∀ k, co u.1 k = if k < a then (x k : Rat) else 0 := fun k => mk_co _ _ _
  have cv' : ∀ k, co v.1 k = if k < c then (x (a + k) : Rat) else 0 := fun k => mk_co _ _ _
  have lu : len u ≤ a := mk_len _ _
  have lv : len v ≤ c := mk_len _ _
  have all : ∀ t, co (u * P + v * Q).1 t = ((si (fun j => A t j * x j) (m + 1) : Int) : Rat) := fun t => by
    have p1 : co (u * P).1 t = ((si (fun k => (if k ≤ t then nP (t - k) else 0) * x k) a : Int) : Rat) := by
      show co (pmul u.1 P.1) t = _
      rw [co_pmul, ← cv_more (n := a) lu]
      exact cv_si a (fun k hk => by rw [cu, if_pos hk]) eP
    have p2 : co (v * Q).1 t = ((si (fun k => (if k ≤ t then nQ (t - k) else 0) * x (a + k)) c : Int) : Rat) := by
      show co (pmul v.1 Q.1) t = _
      rw [co_pmul, ← cv_more (n := c) lv]
      exact cv_si (f := fun k => x (a + k)) c (fun k hk => by rw [cv', if_pos hk]) eQ
    rw [co_add, p1, p2, ← e, si_split, Rat.intCast_add]
    congr 2
    · exact si_congr fun k hk => by
        show _ = (if k < a then _ else _) * x k
        rw [if_pos hk]
    · refine si_congr fun k hk => ?_
      show _ = (if a + k < a then _ else if a + k - a ≤ t then nQ (t - (a + k - a)) else 0) * x (a + k)
      rw [if_neg (show ¬ a + k < a by omega), Nat.add_sub_cancel_left]
  refine ⟨u, v, ?_, lu, lv, len_le fun t ht => ?_, fun k => ?_, fun k => ?_, fun t => ?_⟩
  · rintro ⟨z1, z2⟩
    rcases Nat.lt_or_ge j0 a with g | g
    · have := cu j0
      rw [if_pos g, z1] at this
      have z : co (0 : Pol).1 j0 = 0 := co_far (by rw [len_zero]; omega)
      rw [z] at this
      exact hx0 (by exact_mod_cast this.symm)
    · have := cv' (j0 - a)
      rw [if_pos (by omega), z2, show a + (j0 - a) = j0 by omega] at this
      have z : co (0 : Pol).1 (j0 - a) = 0 := co_far (by rw [len_zero]; omega)
      rw [z] at this
      exact hx0 (by exact_mod_cast this.symm)
  · rcases Nat.lt_or_ge t (k0 + m) with g | g
    · have := heq (t - k0) (by omega)
      rw [show t - k0 + k0 = t by omega] at this
      rw [all, this]; rfl
    · have w1 := len_mul_le u P
      have w2 := len_mul_le v Q
      rw [co_add, co_far (p := u * P) (by omega), co_far (p := v * Q) (by omega)]; grind
  · rw [cu]
    split
    · exact ⟨_, rfl, hb _⟩
    · exact ⟨0, rfl, Nat.zero_le _⟩
  · rw [cv']
    split
    · exact ⟨_, rfl, hb _⟩
    · exact ⟨0, rfl, Nat.zero_le _⟩
  · refine ⟨_, all t, si_abs fun k _ => ?_⟩
    rw [Int.natAbs_mul]
    exact Nat.mul_le_mul (hA _ _) (hb _)
/-- Euclid's way with its cofactors -/
structure Rs (P Q p q u0 v0 u1 v1 : Pol) (e : Rat) : Prop where
  e0 : u0 * P + v0 * Q = p
  e1 : u1 * P + v1 * Q = q
  de : u0 * v1 - u1 * v0 = cst e
  ne : e ≠ 0
  lq : len q ≤ len p
  lpP : len p ≤ len P
  lqQ : len q ≤ len Q
  lv1 : len v1 = len P + 1 - len p
  lv0 : len v0 ≤ len v1
  ls : len q < len p ∨ len v0 < len v1
  lu1 : len u1 ≤ len Q + 1 - len p
  lu0 : len u0 ≤ len Q + 1 - len q
theorem Rs.start {P Q : Pol} (h : len Q ≤ len P) (c d : Rat) (hc : c ≠ 0) (hd : d ≠ 0) : Rs (cst (1 / c) * P) (cst (1 / d) * Q) P Q (cst c) 0 0 (cst d) (c * d) where
  e0 := by
    have := cst_inv hc
    grind
  e1 := by
    have := cst_inv hd
    grind
  de := by
    rw [cst_mul]; grind
  ne := fun z => by
    rcases Rat.mul_eq_zero.mp z with w | w
    · exact hc w
    · exact hd w
  lq := h
  lpP := by rw [len_cst_mul (by grind)]; exact Nat.le_refl _
  lqQ := by rw [len_cst_mul (by grind)]; exact Nat.le_refl _
  lv1 := by rw [len_cst_mul (by grind), len_cst hd]; omega
  lv0 := by rw [len_zero]; omega
  ls := .inr (by rw [len_zero, len_cst hd]; omega)
  lu1 := by rw [len_zero]; omega
  lu0 := by rw [len_cst_mul (by grind), len_cst hc]; omega
theorem quot_len {p q f r : Pol} (hq : q ≠ 0) (hl : len q ≤ len p) (e : p = f * q + r) (hr : len r < len q) : f ≠ 0 ∧ len f = len p + 1 - len q := by
  have f0 : f ≠ 0 := fun z => by
    have : p = r := by rw [e, z]; grind
    rw [this] at hl; omega
  refine ⟨f0, ?_⟩
  have h1 := len_mul f0 hq
  have e2 : p = f * q - (-r) := by rw [e]; grind
  have := len_pos f0
  have h2 := len_sub_lt (p := f * q) (q := -r) (by rw [len_neg]; omega)
  rw [← e2] at h2
  omega
theorem Rs.step {P Q p q u0 v0 u1 v1 f r : Pol} {e : Rat} (h : Rs P Q p q u0 v0 u1 v1 e) (hq : q ≠ 0) (he : p = f * q + r) (hr : len r < len q) (k : Rat) (hk : k ≠ 0) :
    Rs P Q q (cst k * r) u1 v1 (cst k * (u0 - f * u1)) (cst k * (v0 - f * v1)) (-(k * e)) := by
  obtain ⟨f0, fl⟩ := quot_len hq h.lq he hr
  have qp := len_pos hq
  have fp := len_pos f0
  have hlq := h.lq
  have hlv1 := h.lv1
  have hlpP := h.lpP
  have hlv0 := h.lv0
  have hls := h.ls
  have v10 : v1 ≠ 0 := fun z => by rw [z, len_zero] at hlv1; omega
  have lfv := len_mul f0 v10
  have lv : len (cst k * (v0 - f * v1)) = len P + 1 - len q := by
    rw [len_cst_mul hk, len_sub_lt' (by omega)]; omega
  refine ⟨h.e1, ?_, ?_, ?_, ?_, by omega, ?_, lv, ?_, .inl ?_, ?_, ?_⟩
  · have h0 := h.e0
    have h1 := h.e1
    have : r = p - f * q := by rw [he]; grind
    rw [this, ← h0, ← h1]; grind
  · have hd := h.de
    have e1 : u1 * (cst k * (v0 - f * v1)) - cst k * (u0 - f * u1) * v1 = -(cst k * (u0 * v1 - u1 * v0)) := by grind
    rw [e1, hd, cst_mul]
    exact ext fun x => by rw [ev_neg, ev_cst, ev_cst]
  · intro z
    have : k * e = 0 := by grind
    rcases Rat.mul_eq_zero.mp this with w | w
    · exact hk w
    · exact h.ne w
  · rw [len_cst_mul hk]; omega
  · rw [len_cst_mul hk]
    have := h.lqQ
    omega
  · rw [lv]; omega
  · rw [len_cst_mul hk]; exact hr
  · rw [len_cst_mul hk]
    have h1 := len_sub_le u0 (f * u1)
    have h2 := len_mul_le f u1
    have h3 := h.lu0
    have h4 := h.lu1
    by_cases z : u1 = 0
    · rw [z, show f * (0 : Pol) = 0 by grind, len_zero] at h1
      rw [z, show f * (0 : Pol) = 0 by grind]
      omega
    · have := len_pos z
      omega
  · rw [len_cst_mul hk]
    have h4 := h.lu1
    omega
theorem Rs.small {P Q p q u0 v0 u1 v1 : Pol} {e : Rat} {K : Nat} (h : Rs P Q p q u0 v0 u1 v1 e) (hP : IZ K P) (hQ : IZ K Q) (hl : len q < len p) (q0 : q ≠ 0) :
    ∃ (m : Nat) (k : Rat), m + 1 ≤ len P + len Q ∧ k ≠ 0 ∧ IZ ((m + 1) * (K * (2 * (m + 1) * K + 1) ^ m)) (cst k * q) ∧ IZ ((2 * (m + 1) * K + 1) ^ m) (cst k * u1) ∧ IZ ((2 * (m + 1) * K + 1) ^ m) (cst k * v1) := by
  have qp := len_pos q0
  have hlq := h.lq
  have hlv1 := h.lv1
  have hlpP := h.lpP
  have hlqQ := h.lqQ
  have hlu1 := h.lu1
  obtain ⟨u, v, nz, lu, lv, lr, z1, z2, z3⟩ := sieg hP hQ (len Q + 1 - len p) (len P + 1 - len p) (len p - 1) (len Q + 1 - len p + (len P + 1 - len p) - 1) (by omega) (by omega) (by omega)
  have Q0 : Q ≠ 0 := fun z => by rw [z, len_zero] at hlqQ; omega
  have key : Q * (u * v1 - u1 * v) = u * q - u1 * (u * P + v * Q) := by
    have h1 := h.e1
    rw [← h1]; grind
  have X0 : u * v1 - u1 * v = 0 := by
    refine Classical.byContradiction fun X => ?_
    have l1 := len_mul Q0 X
    have xp := len_pos X
    rw [key] at l1
    have l2 := len_sub_le (u * q) (u1 * (u * P + v * Q))
    have l3 := len_mul_le u q
    have l4 := len_mul_le u1 (u * P + v * Q)
    by_cases a0 : len Q + 1 - len p = 0
    · have w1 : u = 0 := Classical.byContradiction fun z => by have := len_pos z; omega
      have w2 : u1 = 0 := Classical.byContradiction fun z => by have := len_pos z; omega
      have : u * q - u1 * (u * P + v * Q) = 0 := by rw [w1, w2]; grind
      rw [this, len_zero] at l1
      omega
    · omega
  have i := cst_inv h.ne
  let w := cst (1 / e) * (u0 * v - u * v0)
  have hw1 : u = w * u1 := by
    have d := h.de
    have : cst e * u = u1 * (u0 * v - u * v0) := by rw [← d]; grind
    show u = cst (1 / e) * (u0 * v - u * v0) * u1
    grind
  have hw2 : v = w * v1 := by
    have d := h.de
    have : cst e * v = v1 * (u0 * v - u * v0) := by rw [← d]; grind
    show v = cst (1 / e) * (u0 * v - u * v0) * v1
    grind
  have w0 : w ≠ 0 := fun z => nz ⟨by rw [hw1, z]; grind, by rw [hw2, z]; grind⟩
  have v10 : v1 ≠ 0 := fun z => by rw [z, len_zero] at hlv1; omega
  have lw := len_mul w0 v10
  rw [← hw2] at lw
  have wp := len_pos w0
  have := len_pos v10
  have w1 : w = cst (lead w) := len_one (by omega)
  refine ⟨len Q + 1 - len p + (len P + 1 - len p) - 1, lead w, by omega, lead_ne w0, ?_, ?_, ?_⟩
  · rw [← w1]
    have : w * q = u * P + v * Q := by
      have h1 := h.e1
      rw [← h1, hw1, hw2]; grind
    rw [this]; exact z3
  · rw [← w1, ← hw1]; exact z1
  · rw [← w1, ← hw2]; exact z2
theorem Rs.scale {P Q p q u0 v0 u1 v1 : Pol} {e : Rat} (h : Rs P Q p q u0 v0 u1 v1 e) {c d : Rat} (hc : c ≠ 0) (hd : d ≠ 0) :
    Rs (cst c * P) (cst d * Q) p q (cst (1 / c) * u0) (cst (1 / d) * v0) (cst (1 / c) * u1) (cst (1 / d) * v1) (1 / c * (1 / d) * e) where
  e0 := by
    have i1 := cst_inv hc
    have i2 := cst_inv hd
    have := h.e0
    grind
  e1 := by
    have i1 := cst_inv hc
    have i2 := cst_inv hd
    have := h.e1
    grind
  de := by
    rw [← cst_mul, ← cst_mul, ← h.de]; grind
  ne := fun z => by
    have h1 : c * d * (1 / c * (1 / d) * e) = e := by grind
    rw [z] at h1
    exact h.ne (by grind)
  lq := h.lq
  lpP := by rw [len_cst_mul hc]; exact h.lpP
  lqQ := by rw [len_cst_mul hd]; exact h.lqQ
  lv1 := by rw [len_cst_mul hc, len_cst_mul (show 1 / d ≠ 0 by grind)]; exact h.lv1
  lv0 := by rw [len_cst_mul (show 1 / d ≠ 0 by grind), len_cst_mul (show 1 / d ≠ 0 by grind)]; exact h.lv0
  ls := by rw [len_cst_mul (show 1 / d ≠ 0 by grind), len_cst_mul (show 1 / d ≠ 0 by grind)]; exact h.ls
  lu1 := by rw [len_cst_mul hd, len_cst_mul (show 1 / c ≠ 0 by grind)]; exact h.lu1
  lu0 := by rw [len_cst_mul hd, len_cst_mul (show 1 / c ≠ 0 by grind)]; exact h.lu0
theorem lead_cst_mul (c : Rat) (p : Pol) (h : c ≠ 0) : lead (cst c * p) = c * lead p := by
  unfold lead
  have : (cst c * p).1.length = p.1.length := len_cst_mul h p
  rw [this, co_cst_mul]
/-- over the last number of another -/
theorem iz_lead {K K' D : Nat} {q u : Pol} (hq : IZ K q) (hu : IZ K' u) (q0 : q ≠ 0) (hD : 0 < D) : ∃ V : Nat, 0 < V ∧ V ≤ K ∧ (∀ t, Ov V K (co q.1 t / lead q)) ∧ ∀ t, Ov V (D * K') (D * co u.1 t / lead q) := by
  obtain ⟨w, ew, lw⟩ := hq (q.1.length - 1)
  have el : lead q = w := ew
  have w0 : w ≠ 0 := fun z => lead_ne q0 (by rw [el, z]; rfl)
  have di : ∀ n : Int, (n : Rat) / (w : Rat) = Rat.divInt n w := fun n => (Rat.divInt_eq_div n w).symm
  refine ⟨w.natAbs, by omega, lw, fun t => ?_, fun t => ?_⟩
  · obtain ⟨n, e, l⟩ := hq t
    rw [e, el, di]
    exact ov_mono (ov_div w0) l
  · obtain ⟨n, e, l⟩ := hu t
    rw [e, el, ← Rat.intCast_natCast, ← Rat.intCast_mul, di]
    refine ov_mono (ov_div w0) ?_
    rw [Int.natAbs_mul]
    exact Nat.mul_le_mul (by simp) l
/-- the bits of what Euclid's way meets -/
def Bq (N b : Nat) : Nat := N * (b + 12)
theorem bits_H {b m : Nat} (h : m + 1 ≤ 1000) : (2 * (m + 1) * 2 ^ b + 1) ^ m ≤ 2 ^ (m * (b + 12)) := by
  have h1 : 2 * (m + 1) * 2 ^ b + 1 ≤ 2 ^ (b + 12) := by
    have h2 : 2 * (m + 1) * 2 ^ b ≤ 2000 * 2 ^ b := Nat.mul_le_mul_right _ (by omega)
    have h3 : 1 ≤ 2 ^ b := Nat.one_le_two_pow
    rw [Nat.pow_add]
    have h4 : 2 ^ b * 2 ^ 12 = 4096 * 2 ^ b := by rw [Nat.mul_comm]
    omega
  calc (2 * (m + 1) * 2 ^ b + 1) ^ m ≤ (2 ^ (b + 12)) ^ m := Nat.pow_le_pow_left h1 m
    _ = 2 ^ (m * (b + 12)) := by rw [← Nat.pow_mul, Nat.mul_comm]
theorem Rs.size {P Q p q u0 v0 u1 v1 : Pol} {e : Rat} {b N : Nat} (h : Rs P Q p q u0 v0 u1 v1 e) (fP : Fb b b P.1) (fQ : Fb b b Q.1) (hN : len P + len Q ≤ N) (hN2 : N ≤ 1000) (hl : len q < len p) (q0 : q ≠ 0) :
    Fb (Bq N b) (Bq N b) (mon q).1 ∧ Fb (Bq N b + b) (Bq N b + b) (cst (1 / lead q) * u1).1 ∧ Fb (Bq N b + b) (Bq N b + b) (cst (1 / lead q) * v1).1 := by
  obtain ⟨D, D0, Db, zP⟩ := fb_iz fP
  obtain ⟨E, E0, Eb, zQ⟩ := fb_iz fQ
  have cD : (D : Rat) ≠ 0 := fun z => by
    have : D = 0 := by exact_mod_cast z
    omega
  have cE : (E : Rat) ≠ 0 := fun z => by
    have : E = 0 := by exact_mod_cast z
    omega
  obtain ⟨m, k, hm, k0, z1, z2, z3⟩ := (h.scale cD cE).small zP zQ hl q0
  rw [len_cst_mul cD, len_cst_mul cE] at hm
  have hH := bits_H (b := b) (m := m) (by omega)
  have mB : (m + 1) * (b + 12) ≤ Bq N b := Nat.mul_le_mul_right _ (by omega)
  rw [Nat.add_mul, Nat.one_mul] at mB
  have kq0 : cst k * q ≠ 0 := mul_ne (cst_ne k0) q0
  have HB : (2 * (m + 1) * 2 ^ b + 1) ^ m ≤ 2 ^ Bq N b := Nat.le_trans hH (Nat.pow_le_pow_right (by decide) (by omega))
  have KB : (m + 1) * (2 ^ b * (2 * (m + 1) * 2 ^ b + 1) ^ m) ≤ 2 ^ Bq N b := by
    have h1 : m + 1 ≤ 2 ^ 10 := by omega
    calc (m + 1) * (2 ^ b * (2 * (m + 1) * 2 ^ b + 1) ^ m) ≤ 2 ^ 10 * (2 ^ b * 2 ^ (m * (b + 12))) := Nat.mul_le_mul h1 (Nat.mul_le_mul (Nat.le_refl _) hH)
      _ = 2 ^ (10 + (b + m * (b + 12))) := by rw [Nat.pow_add 2 10, Nat.pow_add 2 b]
      _ ≤ 2 ^ Bq N b := Nat.pow_le_pow_right (by decide) (by omega)
  have ll := lead_cst_mul k q k0
  have nz : lead q ≠ 0 := lead_ne q0
  have D2 : ∀ {D : Nat}, D ≤ 2 ^ b → D * (2 * (m + 1) * 2 ^ b + 1) ^ m ≤ 2 ^ (Bq N b + b) := fun {D} Db => by
    rw [Nat.add_comm (Bq N b) b, Nat.pow_add 2 b]
    exact Nat.mul_le_mul Db HB
  have up : 2 ^ Bq N b ≤ 2 ^ (Bq N b + b) := Nat.pow_le_pow_right (by decide) (by omega)
  refine ⟨?_, ?_, ?_⟩
  · obtain ⟨V, V0, Vl, o1, _⟩ := iz_lead z1 z2 kq0 D0
    refine ⟨V, V0, Nat.le_trans Vl KB, fun t => ?_⟩
    have := o1 t
    rw [ll, co_cst_mul] at this
    unfold mon
    rw [co_cst_mul, show 1 / lead q * co q.1 t = k * co q.1 t / (k * lead q) by grind]
    exact ov_mono this KB
  · obtain ⟨V, V0, Vl, _, o1⟩ := iz_lead z1 z2 kq0 D0
    refine ⟨V, V0, Nat.le_trans Vl (Nat.le_trans KB up), fun t => ?_⟩
    have := o1 t
    rw [ll, co_cst_mul, co_cst_mul] at this
    rw [co_cst_mul, show 1 / lead q * co u1.1 t = D * (k * (1 / D * co u1.1 t)) / (k * lead q) by grind]
    exact ov_mono this (D2 Db)
  · obtain ⟨V, V0, Vl, _, o1⟩ := iz_lead z1 z3 kq0 E0
    refine ⟨V, V0, Nat.le_trans Vl (Nat.le_trans KB up), fun t => ?_⟩
    have := o1 t
    rw [ll, co_cst_mul, co_cst_mul] at this
    rw [co_cst_mul, show 1 / lead q * co v1.1 t = E * (k * (1 / E * co v1.1 t)) / (k * lead q) by grind]
    exact ov_mono this (D2 Eb)
end Pol
end M5

/-! M5f: states of Euclid's way. -/
namespace M5
open PySem PySem.Spec L2 VL M1 M2 M3 M4
theorem fbx_pb {x : Nat} {l : List Rat} (h : Fb x x l) : PB (x + 1) l := fun y hy => by
  obtain ⟨D, p, q, r⟩ := h
  obtain ⟨k, hk, rfl⟩ := List.getElem_of_mem hy
  rw [← co_in hk]
  exact ov_rb p (r k) (Nat.lt_of_le_of_lt q (Nat.pow_lt_pow_right (by decide) (by omega))) (Nat.pow_lt_pow_right (by decide) (by omega))
theorem fb_pt2 {x y e : Nat} {l m : List Rat} (hl : Fb x x l) (hm : Fb y y m) (he : l.length < 2 ^ e) (h : x + y + e + 2 ≤ 60000000) (l1 : l.length ≤ 1000) (l2 : m.length ≤ 1000) : PTok l m := by
  obtain ⟨D, p, q, r⟩ := hl
  obtain ⟨E, p', q', r'⟩ := hm
  let S := x + y + e + 2
  have up : ∀ {a b : Nat}, a ≤ 2 ^ b → b + 1 ≤ S → a < 2 ^ S := fun {a b} h g => Nat.lt_of_le_of_lt h (Nat.pow_lt_pow_right (by decide) (by omega))
  have dd : D * E ≤ 2 ^ (x + y) := by rw [Nat.pow_add]; exact Nat.mul_le_mul q q'
  have bb : (2 : Nat) ^ x * 2 ^ y = 2 ^ (x + y) := (Nat.pow_add _ _ _).symm
  have sum : ∀ k j t, k ≤ l.length → RB' S (cv l m k t + (if k ≤ t ∧ t - k < j then co l k * co m (t - k) else 0)) := fun k j t hk => by
    have h1 : Ov (D * E) ((k + 1) * 2 ^ (x + y)) (cv l m k t + (if k ≤ t ∧ t - k < j then co l k * co m (t - k) else 0)) := by
      rw [Nat.add_mul, Nat.one_mul, ← bb]
      refine ov_add (Nat.mul_pos p p') (ov_cv p p' r r' k) ?_
      split
      · exact ov_mul (r k) (r' _)
      · exact ov_mono ov_zero (Nat.zero_le _)
    refine ov_rb (Nat.mul_pos p p') h1 (up dd (by omega)) (up (b := e + (x + y)) ?_ (by omega))
    rw [Nat.pow_add 2 e]
    exact Nat.mul_le_mul (show k + 1 ≤ 2 ^ e by omega) (Nat.le_refl _)
  have one : ∀ {d : Nat} {l : List Rat} {D : Nat}, 0 < D → D ≤ 2 ^ d → (∀ k, Ov D (2 ^ d) (co l k)) → d + 1 ≤ S → PB S l := fun {d l D} p q r h1 z hz => by
    obtain ⟨k, hk, rfl⟩ := List.getElem_of_mem hz
    rw [← co_in hk]
    exact ov_rb p (r k) (up q h1) (up (Nat.le_refl _) h1)
  refine ⟨S, one p q r (by omega), one p' q' r' (by omega), by omega, h, fun i j => ov_rb (Nat.mul_pos p p') (ov_mul (r i) (r' j)) (up dd (by omega)) (up (b := x + y) (by rw [bb]; exact Nat.le_refl _) (by omega)), fun k j t => ?_, l1, l2⟩
  rcases Nat.lt_or_ge l.length k with g | g
  · have := sum l.length 0 t (Nat.le_refl _)
    rw [if_neg (by omega)] at this
    rw [cv_stop (by omega), co_out (show l.length ≤ k by omega), Rat.zero_mul]
    split <;> exact this
  · exact sum k j t g
theorem pw_mono {x y : Nat} (h : x ≤ y) : 2 ^ x ≤ 2 ^ y := Nat.pow_le_pow_right (by decide) h
namespace Pol
/-- a number but nought, of at most x bits -/
def Fs (x : Nat) (c : Rat) : Prop := ∃ n d : Int, n ≠ 0 ∧ d ≠ 0 ∧ c = Rat.divInt n d ∧ n.natAbs ≤ 2 ^ x ∧ d.natAbs ≤ 2 ^ x
theorem Fs.mono {x y : Nat} {c : Rat} (h : Fs x c) (g : x ≤ y) : Fs y c := by
  obtain ⟨n, d, h1, h2, h3, h4, h5⟩ := h
  exact ⟨n, d, h1, h2, h3, Nat.le_trans h4 (pw_mono g), Nat.le_trans h5 (pw_mono g)⟩
theorem Fs.mul {x y : Nat} {c d : Rat} (h : Fs x c) (g : Fs y d) : Fs (x + y) (c * d) := by
  obtain ⟨n, m, h1, h2, rfl, h4, h5⟩ := h
  obtain ⟨n', m', g1, g2, rfl, g4, g5⟩ := g
  refine ⟨n * n', m * m', Int.mul_ne_zero h1 g1, Int.mul_ne_zero h2 g2, Rat.divInt_mul_divInt _ _, ?_, ?_⟩
  · rw [Int.natAbs_mul, Nat.pow_add]; exact Nat.mul_le_mul h4 g4
  · rw [Int.natAbs_mul, Nat.pow_add]; exact Nat.mul_le_mul h5 g5
theorem Fs.inv {x : Nat} {c : Rat} (h : Fs x c) : Fs x (1 / c) := by
  obtain ⟨n, m, h1, h2, rfl, h4, h5⟩ := h
  exact ⟨m, n, h2, h1, by rw [Rat.div_def, Rat.inv_divInt, Rat.one_mul], h5, h4⟩
theorem Fs.ne {x : Nat} {c : Rat} (h : Fs x c) : c ≠ 0 := by
  obtain ⟨n, m, h1, h2, rfl, h4, h5⟩ := h
  intro z
  rw [Rat.divInt_eq_div] at z
  have m0 : (m : Rat) ≠ 0 := fun w => h2 (by exact_mod_cast w)
  have n0 : (n : Rat) = 0 := by
    have : (n : Rat) = n / m * m := by grind
    rw [this, z]; grind
  exact h1 (by exact_mod_cast n0)
theorem fs_co {b : Nat} {p : Pol} (h : Fb b b p.1) {k : Nat} (h0 : co p.1 k ≠ 0) : Fs b (co p.1 k) := by
  obtain ⟨D, D0, Db, o⟩ := h
  obtain ⟨n, e, l⟩ := o k
  refine ⟨n, D, fun z => h0 (by rw [e, z, Rat.zero_divInt]), dz D0, e, l, by simpa using Db⟩
theorem fs_lead {b : Nat} {p : Pol} (h : Fb b b p.1) (h0 : p ≠ 0) : Fs b (lead p) := fs_co h (lead_ne h0)
theorem Fs.fb {x y : Nat} {c : Rat} {p : Pol} (h : Fs x c) (hp : Fb y y p.1) : Fb (x + y) (x + y) (cst c * p).1 := by
  obtain ⟨n, m, h1, h2, rfl, h4, h5⟩ := h
  obtain ⟨D, D0, Db, o⟩ := hp
  refine ⟨m.natAbs * D, Nat.mul_pos (by omega) D0, by rw [Nat.pow_add]; exact Nat.mul_le_mul h5 Db, fun t => ?_⟩
  rw [co_cst_mul, Nat.pow_add]
  exact ov_mul (ov_mono (ov_div h2) h4) (o t)
theorem fs_sgn {e : Rat} (h : e = 1 ∨ e = -1) : Fs 0 e := by
  rcases h with h | h
  · exact ⟨1, 1, by decide, by decide, by rw [h]; rfl, by decide, by decide⟩
  · exact ⟨-1, 1, by decide, by decide, by rw [h]; rfl, by decide, by decide⟩
theorem Fs.rb {x : Nat} {c : Rat} (h : Fs x c) : RB' (x + 1) c := by
  obtain ⟨n, m, h1, h2, rfl, h4, h5⟩ := h
  have := Nat.pow_lt_pow_right (a := 2) (by decide) (show x < x + 1 by omega)
  exact ⟨Nat.lt_of_le_of_lt (num_le h2) (by omega), Nat.lt_of_le_of_lt (den_le h2) (by omega)⟩
theorem fb_mon {b : Nat} {p : Pol} (h : Fb b b p.1) : Fb b b (mon p).1 := by
  by_cases z : p = 0
  · rw [z, mon_zero]
    exact ⟨1, by decide, Nat.one_le_two_pow, fun t => by
      show Ov 1 _ (co [] t)
      rw [co_nil]; exact ov_zero⟩
  · obtain ⟨V, v0, vs, vm, _⟩ := fb_lead h (lead_ne z) (Nat.le_refl _)
    refine ⟨V, v0, vs, fun t => ?_⟩
    unfold mon
    rw [co_cst_mul, show 1 / lead p * co p.1 t = co p.1 t / co p.1 (p.1.length - 1) by
      show 1 / lead p * _ = _ / lead p
      grind]
    exact vm t
theorem fb_zero {d b : Nat} : Fb d b (0 : Pol).1 := ⟨1, by decide, Nat.one_le_two_pow, fun t => by
  show Ov 1 _ (co [] t)
  rw [co_nil]; exact ov_zero⟩
theorem fb_one {d b : Nat} : Fb d b (1 : Pol).1 := ⟨1, by decide, Nat.one_le_two_pow, fun t => by
  show Ov 1 _ (co [1] t)
  cases t with
  | zero => exact ⟨1, rfl, Nat.one_le_two_pow⟩
  | succ t => rw [co_succ, co_nil]; exact ov_zero⟩
theorem fb_up {x y : Nat} {l : List Rat} (h : Fb x x l) (g : x ≤ y) : Fb y y l := fb_mono h g g
theorem fb_sub {x y : Nat} {p q : Pol} (hp : Fb x x p.1) (hq : Fb y y q.1) : Fb (x + y + 1) (x + y + 1) (p - q).1 := by
  obtain ⟨D, D0, Db, o⟩ := hp
  obtain ⟨E, E0, Eb, o'⟩ := hq
  refine ⟨D * E, Nat.mul_pos D0 E0, ?_, fun t => ?_⟩
  · rw [Nat.pow_succ, Nat.pow_add]
    have := Nat.mul_le_mul Db Eb
    omega
  · rw [co_sub]
    have h1 := ov_up E0 (o t)
    have h2 := ov_up D0 (o' t)
    rw [Nat.mul_comm E D] at h2
    refine ov_mono (ov_sub (Nat.mul_pos D0 E0) h1 h2) ?_
    rw [Nat.pow_succ, Nat.pow_add]
    have a1 : 2 ^ x * E ≤ 2 ^ x * 2 ^ y := Nat.mul_le_mul_left _ Eb
    have a2 : 2 ^ y * D ≤ 2 ^ x * 2 ^ y := by rw [Nat.mul_comm]; exact Nat.mul_le_mul_right _ Db
    omega
theorem fb_mul {x y : Nat} {p q : Pol} (hp : Fb x x p.1) (hq : Fb y y q.1) (hl : len p ≤ 1000) : Fb (x + y + 10) (x + y + 10) (p * q).1 :=
  fb_mono (fb_pmul hp hq (e := 10) (Nat.le_trans hl (by decide))) (by omega) (Nat.le_refl _)
theorem mon_back {p : Pol} (h : p ≠ 0) (u : Pol) : cst (lead p) * (cst (1 / lead p) * u) = u := by
  have := cst_inv (lead_ne h)
  grind
theorem cst1 (u : Pol) : cst 1 * u = u := by rw [cst_one]; grind
/-! ### common -/
def CmI (P Q p q : Pol) (N b : Nat) : Prop := (p = P ∧ q = Q ∧ len P < len Q) ∨ (Fb (Bq N b) (Bq N b) p.1 ∧ Fb (Bq N b) (Bq N b) q.1 ∧ len p ≤ N ∧ len q ≤ len p ∧
  (q = 0 ∨ ∃ A C u0 v0 u1 v1 e, Fb b b A.1 ∧ Fb b b C.1 ∧ len A + len C ≤ N ∧ Rs A C p q u0 v0 u1 v1 e))
theorem Bq_le {N b : Nat} (h : 1 ≤ N) : b ≤ Bq N b := by
  have : 1 * (b + 12) ≤ N * (b + 12) := Nat.mul_le_mul_right _ h
  unfold Bq; omega
theorem CmI.first {P Q : Pol} {N b : Nat} (fP : Fb b b P.1) (fQ : Fb b b Q.1) (h : len Q ≤ len P) (hN : len P + len Q ≤ N) : CmI P Q P Q N b := by
  by_cases N1 : 1 ≤ N
  · have := Bq_le (b := b) N1
    refine .inr ⟨fb_up fP this, fb_up fQ this, by omega, h, .inr ⟨P, Q, 1, 0, 0, 1, 1 * 1, fP, fQ, hN, ?_⟩⟩
    have := Rs.start h 1 1 (by decide) (by decide)
    rw [show (1 : Rat) / 1 = 1 by grind, cst1, cst1] at this
    exact this
  · have p0 : P = 0 := Classical.byContradiction fun z => by have := len_pos z; omega
    have q0 : Q = 0 := Classical.byContradiction fun z => by have := len_pos z; omega
    subst p0; subst q0
    exact .inr ⟨fb_zero, fb_zero, by rw [len_zero]; omega, Nat.le_refl _, .inl rfl⟩
theorem CmI.start {P Q : Pol} {N b : Nat} (fP : Fb b b P.1) (fQ : Fb b b Q.1) (hN : len P + len Q ≤ N) : CmI P Q P Q N b := by
  rcases Nat.lt_or_ge (len P) (len Q) with g | g
  · exact .inl ⟨rfl, rfl, g⟩
  · exact CmI.first fP fQ g hN
theorem short_split {p q f r : Pol} (h : len p < len q) (e : p = f * q + r) (hr : len r < len q) : f = 0 ∧ r = p := by
  have f0 : f = 0 := Classical.byContradiction fun z => by
    have q0 : q ≠ 0 := fun w => by rw [w, len_zero] at h; omega
    have l1 := len_mul z q0
    have e2 : f * q = p - r := by rw [e]; grind
    have l2 := len_sub_le p r
    rw [← e2] at l2
    have := len_pos z
    omega
  exact ⟨f0, by rw [e, f0]; grind⟩
theorem CmI.step {P Q p q f r : Pol} {N b : Nat} (h : CmI P Q p q N b) (fP : Fb b b P.1) (fQ : Fb b b Q.1) (hN : len P + len Q ≤ N) (hN2 : N ≤ 1000) (q0 : q ≠ 0) (e : p = f * q + r) (hr : len r < len q) : CmI P Q q (mon r) N b := by
  have lm : len (mon r) ≤ len r := by
    by_cases z : r = 0
    · rw [z, mon_zero]; exact Nat.le_refl _
    · unfold mon; rw [len_cst_mul (by have := lead_ne z; grind)]; exact Nat.le_refl _
  rcases h with ⟨rfl, rfl, g⟩ | ⟨fp, fq, lp, lq, hh⟩
  · obtain ⟨_, rfl⟩ := short_split g e hr
    have h2 := CmI.first (P := q) (Q := mon r) (N := N) fQ (fb_mon fP) (by omega) (by omega)
    rcases h2 with ⟨_, _, w⟩ | w
    · omega
    · exact .inr w
  · rcases hh with z | ⟨A, C, u0, v0, u1, v1, e1, fA, fC, hAC, rs⟩
    · exact absurd z q0
    · refine .inr ⟨fq, ?_, by omega, by omega, ?_⟩
      · by_cases z : r = 0
        · rw [z, mon_zero]; exact fb_zero
        · have h1 := rs.step q0 e hr 1 (by decide)
          rw [cst1] at h1
          exact (h1.size fA fC hAC hN2 hr z).1
      · by_cases z : r = 0
        · left; rw [z, mon_zero]
        · right
          exact ⟨A, C, _, _, _, _, _, fA, fC, hAC, rs.step q0 e hr (1 / lead r) (by have := lead_ne z; grind)⟩
theorem CmI.fine {P Q p q : Pol} {N b : Nat} (h : CmI P Q p q N b) (fP : Fb b b P.1) (fQ : Fb b b Q.1) (hN : len P + len Q ≤ N) : Fb (Bq N b) (Bq N b) p.1 ∧ Fb (Bq N b) (Bq N b) q.1 ∧ len p ≤ N ∧ len q ≤ N := by
  rcases h with ⟨rfl, rfl, g⟩ | ⟨fp, fq, lp, lq, hh⟩
  · have := Bq_le (N := N) (b := b) (by omega)
    exact ⟨fb_up fP this, fb_up fQ this, by omega, by omega⟩
  · exact ⟨fp, fq, lp, by omega⟩
/-! ### bezout -/
def Nm (B b x : Nat) (p u v : Pol) : Prop := p ≠ 0 ∧ Fb B B (mon p).1 ∧ Fb (B + b) (B + b) (cst (1 / lead p) * u).1 ∧ Fb (B + b) (B + b) (cst (1 / lead p) * v).1 ∧ Fs x (lead p)
def Cb (N b : Nat) : Nat := Bq N b + 2 * b + 2
def Yb (N b : Nat) : Nat := (N + 2) * Cb N b + Bq N b + b
structure St (P Q p q u0 v0 u1 v1 : Pol) (N b : Nat) (e : Rat) : Prop where
  rs : Rs P Q p q u0 v0 u1 v1 e
  ee : e = 1 ∨ e = -1
  n0 : Nm (Bq N b) b ((len P + 2 - len p) * Cb N b) p u0 v0
  n1 : q ≠ 0 → Nm (Bq N b) b ((len P + 2 - len q) * Cb N b) q u1 v1
theorem St.start {P Q : Pol} {N b : Nat} (h : len Q ≤ len P) (fP : Fb b b P.1) (fQ : Fb b b Q.1) (P0 : P ≠ 0) (hN : len P + len Q ≤ N) : St P Q P Q 1 0 0 1 N b 1 := by
  have pp := len_pos P0
  have B1 := Bq_le (N := N) (b := b) (by omega)
  have C1 : ∀ k, 1 ≤ k → b ≤ k * Cb N b := fun k hk => by
    have : 1 * Cb N b ≤ k * Cb N b := Nat.mul_le_mul_right _ hk
    unfold Cb at this ⊢; omega
  refine ⟨?_, .inl rfl, ⟨P0, fb_up (fb_mon fP) B1, ?_, ?_, (fs_lead fP P0).mono (C1 _ (by omega))⟩, fun Q0 => ⟨Q0, fb_up (fb_mon fQ) B1, ?_, ?_, (fs_lead fQ Q0).mono (C1 _ (by omega))⟩⟩
  · have := Rs.start h 1 1 (by decide) (by decide)
    rw [show (1 : Rat) / 1 = 1 by grind, cst1, cst1, show (1 : Rat) * 1 = 1 by grind] at this
    exact this
  · exact fb_up ((fs_lead fP P0).inv.fb (fb_one (d := 0) (b := 0))) (by omega)
  · rw [show cst (1 / lead P) * (0 : Pol) = 0 by grind]; exact fb_zero
  · rw [show cst (1 / lead Q) * (0 : Pol) = 0 by grind]; exact fb_zero
  · exact fb_up ((fs_lead fQ Q0).inv.fb (fb_one (d := 0) (b := 0))) (by omega)
theorem St.step {P Q p q u0 v0 u1 v1 f r : Pol} {N b : Nat} {e : Rat} (h : St P Q p q u0 v0 u1 v1 N b e) (fP : Fb b b P.1) (fQ : Fb b b Q.1) (hN : len P + len Q ≤ N) (hN2 : N ≤ 1000) (q0 : q ≠ 0) (he : p = f * q + r) (hr : len r < len q) :
    St P Q q r u1 v1 (u0 - f * u1) (v0 - f * v1) N b (-e) := by
  have h' := h.rs.step q0 he hr 1 (by decide)
  rw [cst1, cst1, cst1, show -(1 * e) = -e by grind] at h'
  have ee : -e = 1 ∨ -e = -1 := by
    rcases h.ee with w | w
    · right; rw [w]
    · left; rw [w]; rfl
  refine ⟨h', ee, h.n1 q0, fun r0 => ?_⟩
  obtain ⟨s1, s2, s3⟩ := h'.size fP fQ hN hN2 hr r0
  refine ⟨r0, s1, s2, s3, ?_⟩
  let w := v0 - f * v1
  have hw : w = v0 - f * v1 := rfl
  have lqP := h'.lpP
  have P0 : P ≠ 0 := fun z => by
    rw [z, len_zero] at lqP
    have := len_pos q0
    omega
  have lw : len w = len P + 1 - len q := h'.lv1
  have w0 : w ≠ 0 := fun z => by rw [z, len_zero] at lw; omega
  have rel : w * q - v1 * r = cst (-e) * P := by
    have a := h'.e0
    have b := h'.e1
    have c := h'.de
    rw [← hw] at b c
    rw [← c]
    grind
  have top : lead w * lead q = -e * lead P := by
    have l1 := len_mul w0 q0
    have l2 := len_mul_le v1 r
    have l3 := h'.lv0
    rw [← hw] at l3
    have wp := len_pos w0
    have rp := len_pos r0
    have t := (len_sub_lt (p := w * q) (q := v1 * r) (by omega)).2
    rw [rel, lead_cst_mul _ _ (Fs.ne (fs_sgn ee)), lead_mul w0 q0] at t
    exact t.symm
  have inr : (1 / lead r) ≠ 0 := by have := lead_ne r0; grind
  have nw0 : cst (1 / lead r) * w ≠ 0 := mul_ne (cst_ne inr) w0
  have f1 := fs_lead s3 nw0
  rw [← hw, lead_cst_mul _ _ inr] at f1
  have f2 := (((fs_sgn ee).mul (fs_lead fP P0)).mul (h.n1 q0).2.2.2.2.inv).mul f1.inv
  have eqr : -e * lead P * (1 / lead q) * (1 / (1 / lead r * lead w)) = lead r := by
    rw [← top]
    have := lead_ne q0
    have := lead_ne r0
    have := lead_ne w0
    grind
  rw [eqr] at f2
  refine f2.mono ?_
  have h2 : (len P + 2 - len q + 1) * Cb N b ≤ (len P + 2 - len r) * Cb N b := Nat.mul_le_mul_right _ (by omega)
  rw [Nat.add_mul, Nat.one_mul] at h2
  have : Cb N b = Bq N b + 2 * b + 2 := rfl
  omega
theorem Nm.fb {N b k : Nat} {p u v : Pol} (h : Nm (Bq N b) b (k * Cb N b) p u v) (hk : k ≤ N + 2) : Fb (Yb N b) (Yb N b) p.1 ∧ Fb (Yb N b) (Yb N b) u.1 ∧ Fb (Yb N b) (Yb N b) v.1 := by
  obtain ⟨p0, m, nu, nv, s⟩ := h
  have : k * Cb N b ≤ (N + 2) * Cb N b := Nat.mul_le_mul_right _ hk
  have eY : Yb N b = (N + 2) * Cb N b + Bq N b + b := rfl
  have a := s.fb m
  have b := s.fb nu
  have c := s.fb nv
  rw [mon_back p0] at b c
  have e : cst (lead p) * mon p = p := mon_back p0 p
  rw [e] at a
  exact ⟨fb_up a (by omega), fb_up b (by omega), fb_up c (by omega)⟩
def BzI (P Q p q u0 v0 u1 v1 : Pol) (N b : Nat) : Prop := (p = P ∧ q = Q ∧ u0 = 1 ∧ v0 = 0 ∧ u1 = 0 ∧ v1 = 1 ∧ len P < len Q) ∨ (∃ e, St P Q p q u0 v0 u1 v1 N b e) ∨ ∃ e, St Q P p q v0 u0 v1 u1 N b e
theorem BzI.start {P Q : Pol} {N b : Nat} (fP : Fb b b P.1) (fQ : Fb b b Q.1) (hN : len P + len Q ≤ N) (h0 : ¬ (P = 0 ∧ Q = 0)) : BzI P Q P Q 1 0 0 1 N b := by
  rcases Nat.lt_or_ge (len P) (len Q) with g | g
  · exact .inl ⟨rfl, rfl, rfl, rfl, rfl, rfl, g⟩
  · have P0 : P ≠ 0 := fun z => h0 ⟨z, Classical.byContradiction fun w => by
      have := len_pos w
      rw [z, len_zero] at g; omega⟩
    exact .inr (.inl ⟨1, St.start g fP fQ P0 hN⟩)
theorem BzI.step {P Q p q u0 v0 u1 v1 f r : Pol} {N b : Nat} (h : BzI P Q p q u0 v0 u1 v1 N b) (fP : Fb b b P.1) (fQ : Fb b b Q.1) (hN : len P + len Q ≤ N) (hN2 : N ≤ 1000) (q0 : q ≠ 0) (he : p = f * q + r) (hr : len r < len q) :
    BzI P Q q r u1 v1 (u0 - f * u1) (v0 - f * v1) N b := by
  rcases h with ⟨rfl, rfl, rfl, rfl, rfl, rfl, g⟩ | ⟨e, h⟩ | ⟨e, h⟩
  · obtain ⟨rfl, rfl⟩ := short_split g he hr
    refine .inr (.inr ⟨1, ?_⟩)
    rw [show (1 : Pol) - 0 * 0 = 1 by grind, show (0 : Pol) - 0 * 1 = 0 by grind]
    exact St.start (by omega) fQ fP q0 (by omega)
  · exact .inr (.inl ⟨_, h.step fP fQ hN hN2 q0 he hr⟩)
  · exact .inr (.inr ⟨_, h.step fQ fP (by omega) hN2 q0 he hr⟩)
/-- what the walk needs -/
structure BzF (P Q p q u0 v0 u1 v1 : Pol) (N b : Nat) : Prop where
  fp : Fb (Yb N b) (Yb N b) p.1
  fu0 : Fb (Yb N b) (Yb N b) u0.1
  fv0 : Fb (Yb N b) (Yb N b) v0.1
  fq : q ≠ 0 → Fb (Yb N b) (Yb N b) q.1
  fu1 : q ≠ 0 → Fb (Yb N b) (Yb N b) u1.1
  fv1 : q ≠ 0 → Fb (Yb N b) (Yb N b) v1.1
  lp : len p ≤ N
  lq : len q ≤ N
  lu0 : len u0 ≤ N + 1
  lv0 : len v0 ≤ N + 1
  lu1 : len u1 ≤ N + 1
  lv1 : len v1 ≤ N + 1
theorem St.fine {P Q p q u0 v0 u1 v1 : Pol} {N b : Nat} {e : Rat} (h : St P Q p q u0 v0 u1 v1 N b e) (hN : len P + len Q ≤ N) : BzF P Q p q u0 v0 u1 v1 N b := by
  obtain ⟨a1, a2, a3⟩ := h.n0.fb (by omega)
  have r1 := h.rs.lpP
  have r2 := h.rs.lqQ
  have r3 := h.rs.lv1
  have r4 := h.rs.lv0
  have r5 := h.rs.lu1
  have r6 := h.rs.lu0
  exact ⟨a1, a2, a3, fun q0 => ((h.n1 q0).fb (by omega)).1, fun q0 => ((h.n1 q0).fb (by omega)).2.1, fun q0 => ((h.n1 q0).fb (by omega)).2.2, by omega, by omega, by omega, by omega, by omega, by omega⟩
theorem BzI.fine {P Q p q u0 v0 u1 v1 : Pol} {N b : Nat} (h : BzI P Q p q u0 v0 u1 v1 N b) (fP : Fb b b P.1) (fQ : Fb b b Q.1) (hN : len P + len Q ≤ N) : BzF P Q p q u0 v0 u1 v1 N b := by
  rcases h with ⟨rfl, rfl, rfl, rfl, rfl, rfl, g⟩ | ⟨e, h⟩ | ⟨e, h⟩
  · have B1 := Bq_le (N := N) (b := b) (by omega)
    have : b ≤ Yb N b := by unfold Yb; omega
    have l1 : len (1 : Pol) = 1 := by decide
    exact ⟨fb_up fP this, fb_one, fb_zero, fun _ => fb_up fQ this, fun _ => fb_zero, fun _ => fb_one, by omega, by omega, by omega, by rw [len_zero]; omega, by rw [len_zero]; omega, by omega⟩
  · exact h.fine hN
  · have := h.fine (by omega)
    exact ⟨this.fp, this.fv0, this.fu0, this.fq, this.fv1, this.fu1, this.lp, this.lq, this.lv0, this.lu0, this.lv1, this.lu1⟩
theorem Rs.gcd {P Q p u0 v0 u1 v1 : Pol} {e : Rat} (h : Rs P Q p 0 u0 v0 u1 v1 e) (p0 : p ≠ 0) : Gcd P Q (mon p) ∧ (cst (1 / lead p) * u0) * P + (cst (1 / lead p) * v0) * Q = mon p := by
  have a := h.e0
  have b := h.e1
  have c := h.de
  have i := cst_inv h.ne
  have eu : Eu P Q p 0 := ⟨⟨_, _, a⟩, ⟨_, _, b⟩, ⟨cst (1 / e) * v1, 0, by
    have : cst e * P = v1 * p := by rw [← c]; grind
    grind⟩, ⟨-(cst (1 / e) * u1), 0, by
    have : cst e * Q = -(u1 * p) := by rw [← c]; grind
    grind⟩⟩
  refine ⟨eu.stop p0, ?_⟩
  unfold mon
  rw [← a]; grind
/-- the end of bezout -/
theorem BzI.stop {P Q p u0 v0 u1 v1 : Pol} {N b : Nat} (h : BzI P Q p 0 u0 v0 u1 v1 N b) : p ≠ 0 ∧ Gcd P Q (mon p) ∧ (cst (1 / lead p) * u0) * P + (cst (1 / lead p) * v0) * Q = mon p ∧ Fb (Bq N b) (Bq N b) (mon p).1 ∧ Fb (Bq N b + b) (Bq N b + b) (cst (1 / lead p) * u0).1 ∧ Fb (Bq N b + b) (Bq N b + b) (cst (1 / lead p) * v0).1 := by
  rcases h with ⟨rfl, rfl, rfl, rfl, rfl, rfl, g⟩ | ⟨e, h⟩ | ⟨e, h⟩
  · rw [len_zero] at g; omega
  · obtain ⟨a, b⟩ := h.rs.gcd h.n0.1
    exact ⟨h.n0.1, a, b, h.n0.2.1, h.n0.2.2.1, h.n0.2.2.2.1⟩
  · obtain ⟨a, b⟩ := h.rs.gcd h.n0.1
    exact ⟨h.n0.1, a.swap, by rw [← b]; grind, h.n0.2.1, h.n0.2.2.2.1, h.n0.2.2.1⟩
end Pol
end M5

/-! M5d: a division and its sizes, with no program. -/
namespace M5
open PySem PySem.Spec L2 VL M1 M2 M3 M4
namespace Pol
/-- c x^n -/
def mono (c : Rat) (n : Nat) : Pol := ⟨mk (n + 1) fun k => if k = n then c else 0, mk_isT _ _⟩
theorem co_mono (c : Rat) (n k : Nat) : co (mono c n).1 k = if k = n then c else 0 := by
  show co (mk _ _) k = _
  rw [mk_co]
  by_cases h : k = n
  · rw [if_pos h, if_pos (by omega)]
  · rw [if_neg h]
    split <;> first | rw [if_neg h] | rfl
theorem len_mono_le (c : Rat) (n : Nat) : len (mono c n) ≤ n + 1 := mk_len _ _
theorem co_mul_cv (p q : Pol) {n : Nat} (h : len p ≤ n) (t : Nat) : co (p * q).1 t = cv p.1 q.1 n t := by
  show co (pmul p.1 q.1) t = _
  rw [co_pmul, cv_more h]
theorem cv_mono0 (c : Rat) (n : Nat) (m : List Rat) (t : Nat) : ∀ k, k ≤ n → cv (mono c n).1 m k t = 0
  | 0, _ => rfl
  | k + 1, h => by
    rw [cv_succ, cv_mono0 c n m t k (by omega), co_mono, if_neg (show ¬ k = n by omega), Rat.zero_mul]
    split <;> exact Rat.add_zero _
theorem co_mono_mul (c : Rat) (n : Nat) (q : Pol) (t : Nat) : co (mono c n * q).1 t = if n ≤ t then c * co q.1 (t - n) else 0 := by
  rw [co_mul_cv _ _ (len_mono_le c n), cv_succ, cv_mono0 c n _ _ n (Nat.le_refl _), co_mono, if_pos rfl, Rat.zero_add]
theorem div_ex {q : Pol} (q0 : q ≠ 0) {V s : Nat} (V0 : 0 < V) (Vs : V ≤ 2 ^ s) (hm : ∀ t, Ov V (2 ^ s) (co q.1 t / lead q)) (hi : Ov V (2 ^ s) (1 / lead q)) :
    ∀ (n : Nat) (p : Pol) (D a : Nat), 0 < D → (∀ t, Ov D (2 ^ a) (co p.1 t)) → len p ≤ n + (len q - 1) →
      ∃ f r : Pol, p = f * q + r ∧ len r < len q ∧ len f ≤ n ∧ (∀ t, Ov (D * V ^ n) (2 ^ (a + n * (s + 1))) (co r.1 t)) ∧ ∀ t, Ov (D * V ^ n) (2 ^ (a + n * (s + 1) + s)) (co f.1 t)
  | 0, p, D, a, D0, hp, hl => by
    have := len_pos q0
    refine ⟨0, p, by grind, by omega, Nat.le_refl _, fun t => ?_, fun t => ?_⟩
    · rw [Nat.pow_zero, Nat.mul_one, Nat.zero_mul, Nat.add_zero]; exact hp t
    · show Ov _ _ (co [] t)
      rw [co_nil]; exact ov_zero
  | n + 1, p, D, a, D0, hp, hl => by
    have qp := len_pos q0
    have qn := lead_ne q0
    let T := n + (len q - 1)
    let c := co p.1 T / lead q
    have hc : c = co p.1 T / lead q := rfl
    have D1 : 0 < D * V := Nat.mul_pos D0 V0
    have key : ∀ j, c * co q.1 j = co p.1 T * (co q.1 j / lead q) := fun j => by rw [hc]; grind
    have ovc : ∀ j, Ov (D * V) (2 ^ (a + s)) (c * co q.1 j) := fun j => by
      rw [key, Nat.pow_add]
      exact ov_mul (hp T) (hm j)
    have ovc1 : Ov (D * V) (2 ^ (a + s)) c := by
      rw [hc, show co p.1 T / lead q = co p.1 T * (1 / lead q) by grind, Nat.pow_add]
      exact ov_mul (hp T) hi
    have cp' : ∀ t, co (p - mono c n * q).1 t = co p.1 t - (if n ≤ t then c * co q.1 (t - n) else 0) := fun t => by rw [co_sub, co_mono_mul]
    have up : ∀ t, Ov (D * V) (2 ^ (a + s)) (co p.1 t) := fun t => by
      refine ov_mono (ov_up V0 (hp t)) ?_
      rw [Nat.pow_add]; exact Nat.mul_le_mul_left _ Vs
    have o' : ∀ t, Ov (D * V) (2 ^ (a + (s + 1))) (co (p - mono c n * q).1 t) := fun t => by
      rw [cp', show a + (s + 1) = a + s + 1 by omega, Nat.pow_succ]
      split
      · exact ov_mono (ov_sub D1 (up t) (ovc _)) (by omega)
      · exact ov_mono (ov_sub D1 (up t) ov_zero) (Nat.le_trans (Nat.le_of_eq (Nat.add_zero _)) (by omega))
    have l' : len (p - mono c n * q) ≤ n + (len q - 1) := len_le fun t ht => by
      rw [cp']
      by_cases e : t = T
      · subst e
        have : co q.1 (T - n) = lead q := by
          show co q.1 (n + (len q - 1) - n) = _
          rw [Nat.add_sub_cancel_left]; rfl
        rw [if_pos (by omega), this, hc]; grind
      · have : n + (len q - 1) = T := rfl
        rw [co_far (p := p) (by omega), if_pos (by omega), co_far (p := q) (by omega)]; grind
    obtain ⟨f, r, e, hr, hf, o1, o2⟩ := div_ex q0 V0 Vs hm hi n (p - mono c n * q) (D * V) (a + (s + 1)) D1 o' l'
    have eD : D * V ^ (n + 1) = D * V * V ^ n := by rw [Nat.pow_succ, Nat.mul_comm (V ^ n), Nat.mul_assoc]
    have eX : a + (n + 1) * (s + 1) = a + (s + 1) + n * (s + 1) := by rw [Nat.add_mul, Nat.one_mul]; omega
    refine ⟨f + mono c n, r, by grind, hr, ?_, fun t => ?_, fun t => ?_⟩
    · have h1 := len_add_le f (mono c n)
      have h2 := len_mono_le c n
      omega
    · rw [eD, eX]; exact o1 t
    · rw [eD, eX, co_add, co_mono]
      by_cases e : t = n
      · rw [if_pos e, co_far (p := f) (by omega), Rat.zero_add]
        have pv : 0 < V ^ n := Nat.pow_pos V0
        refine ov_mono (ov_up pv ovc1) ?_
        have : V ^ n ≤ 2 ^ (n * (s + 1)) := by
          have h1 : V ^ n ≤ 2 ^ (s * n) := by rw [Nat.pow_mul]; exact Nat.pow_le_pow_left Vs n
          exact Nat.le_trans h1 (pw_mono (by rw [Nat.mul_comm s n]; exact Nat.mul_le_mul_left _ (by omega)))
        calc 2 ^ (a + s) * V ^ n ≤ 2 ^ (a + s) * 2 ^ (n * (s + 1)) := Nat.mul_le_mul_left _ this
          _ = 2 ^ (a + s + n * (s + 1)) := (Nat.pow_add _ _ _).symm
          _ ≤ _ := pw_mono (by omega)
      · rw [if_neg e, Rat.add_zero]; exact o2 t
theorem div_uniq {q f r f' r' : Pol} (e : f * q + r = f' * q + r') (h : len r < len q) (h' : len r' < len q) : f = f' ∧ r = r' := by
  have q0 : q ≠ 0 := fun z => by rw [z, len_zero] at h; omega
  have e2 : (f - f') * q = r' - r := by grind
  by_cases z : f - f' = 0
  · have : f = f' := by grind
    exact ⟨this, by rw [this] at e; grind⟩
  · have l1 := len_mul z q0
    have l2 := len_sub_le r' r
    have := len_pos z
    rw [e2] at l1
    omega
/-- the bits of a quotient without a rest -/
theorem exact_fb {p q h : Pol} {x n : Nat} (e : p = h * q) (q0 : q ≠ 0) (fp : Fb x x p.1) (fq : Fb x x q.1) (hn : len p ≤ n + (len q - 1)) : Fb ((n + 2) * (x + 1)) ((n + 2) * (x + 1)) h.1 := by
  obtain ⟨D, D0, Db, o⟩ := fp
  obtain ⟨V, V0, Vb, o1, o2⟩ := fb_lead fq (lead_ne q0) (Nat.le_refl _)
  obtain ⟨f, r, e2, hr, _, _, of⟩ := div_ex q0 V0 Vb o1 o2 n p D x D0 o hn
  have qp := len_pos q0
  have : f = h := (div_uniq (q := q) (r' := 0) (by rw [← e2, e]; grind) hr (by rw [len_zero]; exact qp)).1
  subst this
  have h1 : V ^ n ≤ 2 ^ (x * n) := by rw [Nat.pow_mul]; exact Nat.pow_le_pow_left Vb n
  have h3 : x * n ≤ n * (x + 1) := by rw [Nat.mul_comm x n]; exact Nat.mul_le_mul_left _ (by omega)
  have h4 : (n + 2) * (x + 1) = n * (x + 1) + 2 * (x + 1) := Nat.add_mul _ _ _
  refine ⟨D * V ^ n, Nat.mul_pos D0 (Nat.pow_pos V0), ?_, fun t => ov_mono (of t) (pw_mono (by omega))⟩
  calc D * V ^ n ≤ 2 ^ x * 2 ^ (x * n) := Nat.mul_le_mul Db h1
    _ = 2 ^ (x + x * n) := (Nat.pow_add _ _ _).symm
    _ ≤ 2 ^ ((n + 2) * (x + 1)) := pw_mono (by omega)
end Pol
end M5

/-! M6: greatest common factors. -/
namespace M6
open PySem PySem.Spec L2 VL M1 M2 M3 M4 M5
abbrev f_common : Nat := 60
abbrev f_bezout : Nat := 61
/-- common: 0 P, 1 Q, 2 rest -/
def b_common : Ss := ss [.whl (.cmp .ne (.var 1) (.tup .nil)) (ss [.asg 2 (.ix (.call f_p_split (.cons (.var 0) (.cons (.var 1) .nil))) (.int 1)),
  .asg 0 (.var 1),
  .asg 1 (.call f_monic (.cons (.var 2) .nil))]),
  .ret (.call f_monic (.cons (.var 0) .nil))]
/-- bezout: 0 P, 1 Q, 2 here, 3 ahead, 4 by, 5 rest, 6 one, 7 other, 8 scale -/
def b_bezout : Ss := ss [.asg 2 (.tup (.cons (.var 0) (.cons (.tup (.cons (.glo (.tup [.int 1, .int 1])) .nil)) (.cons (.tup .nil) .nil)))),
  .asg 3 (.tup (.cons (.var 1) (.cons (.tup .nil) (.cons (.tup (.cons (.glo (.tup [.int 1, .int 1])) .nil)) .nil)))),
  .whl (.cmp .ne (.ix (.var 3) (.int 0)) (.tup .nil)) (ss [.asg 4 (.ix (.call f_p_split (.cons (.ix (.var 2) (.int 0)) (.cons (.ix (.var 3) (.int 0)) .nil))) (.int 0)),
  .asg 5 (.blt .tuple (.cons (.lc (.call f_p_minus (.cons (.var 6) (.cons (.call f_p_times (.cons (.var 4) (.cons (.var 7) .nil))) .nil))) (.tp [6, 7]) (.zip (.var 2) (.var 3)) [6, 7] .no) .nil)),
  .asg 2 (.var 3),
  .asg 3 (.var 5)]),
  .asg 8 (.call f_over (.cons (.glo (.tup [.int 1, .int 1])) (.cons (.ix (.ix (.var 2) (.int 0)) (.neg (.int 1))) .nil))),
  .ret (.blt .tuple (.cons (.lc (.call f_p_scaled (.cons (.var 6) (.cons (.var 8) .nil))) (.nm 6) (.seq (.var 2)) [6] .no) .nil))]
def vCommon : VF := ⟨.read, fun ds q => ∃ (P Q : Pol) (N b : Nat), ds = [dP P.1, dP Q.1] ∧ Fb b b P.1 ∧ Fb b b Q.1 ∧ Pol.len P + Pol.len Q ≤ N ∧ N ≤ 900 ∧ (N + 10) * (Pol.Bq N b + 2) ≤ 60000000 ∧
  ∀ g : Pol, (P = 0 → Q = 0 → g = 0) → (¬ (P = 0 ∧ Q = 0) → Pol.Gcd P Q g) → Fb (Pol.Bq N b) (Pol.Bq N b) g.1 → q (.val (dP g.1)) none⟩
def vBezout : VF := ⟨.read, fun ds q => ∃ (P Q : Pol) (N b : Nat), ds = [dP P.1, dP Q.1] ∧ ¬ (P = 0 ∧ Q = 0) ∧ Fb b b P.1 ∧ Fb b b Q.1 ∧ Pol.len P + Pol.len Q ≤ N ∧ N ≤ 490 ∧ (N + 10) * (Pol.Yb N b + 2) ≤ 60000000 ∧
  ∀ g u v : Pol, Pol.Gcd P Q g → u * P + v * Q = g → Fb (Pol.Bq N b) (Pol.Bq N b) g.1 → Fb (Pol.Bq N b + b) (Pol.Bq N b + b) u.1 → Fb (Pol.Bq N b + b) (Pol.Bq N b + b) v.1 →
    Pol.len u ≤ N + 1 → Pol.len v ≤ N + 1 → q (.val (.tup [dP g.1, dP u.1, dP v.1])) none⟩
def G6 (L : Nat → VF) : Nat → VF
  | 0 => vCommon
  | 1 => vBezout
  | 2 => vStub
  | 3 => vStub
  | 4 => vStub
  | 5 => vStub
  | 6 => vStub
  | 7 => vStub
  | 8 => vStub
  | 9 => vStub
  | n + 10 => L n
variable {L : Nat → VF}
abbrev Gq (L : Nat → VF) : Nat → VF := G1 (G2 (G3 (G4 (G6 L))))
/-- a division asks this of sizes -/
theorem sp_fb {x : Nat} {l m : List Rat} (hl : Fb x x l) (hm : Fb x x m) (h0 : co m (m.length - 1) ≠ 0) (z : 4 * x + (l.length + 1 - m.length) * (x + 1) + 5 ≤ 60000000) : ∃ D V, D ≤ 2 ^ x ∧ Sp l m D V x x x := by
  obtain ⟨D, D0, Db, o⟩ := hl
  obtain ⟨V, V0, Vb, o1, o2⟩ := fb_lead hm h0 (Nat.le_refl _)
  exact ⟨D, V, Db, D0, V0, Db, Vb, o, o1, o2, fun y hy => rb_mono (fbx_pb hm y hy) (by omega), by omega⟩
theorem split_fb {x n D V : Nat} {l : List Rat} {e : Nat} (h : ∀ t, Ov (D * V ^ n) (2 ^ e) (co l t)) (D0 : 0 < D) (V0 : 0 < V) (Db : D ≤ 2 ^ x) (Vb : V ≤ 2 ^ x) (he : e ≤ (n + 2) * (x + 1)) : Fb ((n + 2) * (x + 1)) ((n + 2) * (x + 1)) l := by
  refine ⟨D * V ^ n, Nat.mul_pos D0 (Nat.pow_pos V0), ?_, fun t => ov_mono (h t) (pw_mono he)⟩
  have h1 : V ^ n ≤ 2 ^ (x * n) := by rw [Nat.pow_mul]; exact Nat.pow_le_pow_left Vb n
  have h3 : x * n ≤ n * (x + 1) := by rw [Nat.mul_comm x n]; exact Nat.mul_le_mul_left _ (by omega)
  have h4 : (n + 2) * (x + 1) = n * (x + 1) + 2 * (x + 1) := Nat.add_mul _ _ _
  calc D * V ^ n ≤ 2 ^ x * 2 ^ (x * n) := Nat.mul_le_mul Db h1
    _ = 2 ^ (x + x * n) := (Nat.pow_add _ _ _).symm
    _ ≤ 2 ^ ((n + 2) * (x + 1)) := pw_mono (by omega)
theorem good_common : Good (Gq L) b_common 2 1 vCommon := by
  rintro ds w ⟨P, Q, N, b, rfl, fP, fQ, eN, hN, hz, hw⟩ -
  obtain ⟨x, ex⟩ : ∃ x, x = Pol.Bq N b := ⟨_, rfl⟩
  rw [← ex] at hz
  have hz2 : N * (x + 2) + 10 * (x + 2) ≤ 60000000 := by rw [← Nat.add_mul]; exact hz
  have hz3 : N * (x + 1) ≤ N * (x + 2) := Nat.mul_le_mul_left _ (by omega)
  refine ⟨fun m ρ => ∃ (p q : Pol) (s2 : Sl), ρ = [.val (dP p.1), .val (dP q.1), s2] ∧ Pol.Eu P Q p q ∧ Pol.CmI P Q p q N b ∧ q.1.length = m, ⟨_, P, Q, _, rfl, Pol.Eu.start P Q, Pol.CmI.start fP fQ (by omega), rfl⟩, ?_⟩
  rintro m _ ⟨p, q, s2, rfl, hE, hI, rfl⟩
  obtain ⟨fp, fq, lp, lq⟩ := hI.fine fP fQ (by omega)
  rw [← ex] at fp fq
  have okq := dsh_of (okD_dP q.1) (by decide)
  have ok0 : dsh (.tup []) = true := rfl
  refine ⟨rfl, okq, ok0, fun h => ?_, fun h => ?_⟩
  · have h : (!deq (dP q.1) (dP [])) = true := h
    rw [deq_dP] at h
    have hq : q.1 ≠ [] := dec_f (not_t h)
    have hq0 : q ≠ 0 := fun z => hq (Pol.nil_iff.mpr z)
    have qp := Pol.len_pos hq0
    have l1 : p.1.length ≤ N := lp
    have l2 : q.1.length ≤ N := lq
    have l3 : 0 < q.1.length := qp
    have hn : (p.1.length + 1 - q.1.length) * (x + 1) ≤ N * (x + 1) := Nat.mul_le_mul_right _ (by omega)
    obtain ⟨D, V, Db, hS⟩ := sp_fb fp fq (Pol.lead_ne hq0) (by omega)
    refine ⟨rfl, p.1, q.1, D, V, x, x, x, rfl, q.2, hq, by omega, by omega, hS, fun f r hf hr hrl hfl hrp of1 or1 he => ⟨.inl rfl, _, rfl, ?_⟩⟩
    have e : p = Pol.of f hf * q + Pol.of r hr := Pol.of_split p.2 q.2 hf hr he
    have em : Pol.of (monicL r) (mk_isT _ _) = Pol.mon (Pol.of r hr) := Pol.of_monic r hr _
    have h4 : (p.1.length + 1 - q.1.length + 2) * (x + 1) = (p.1.length + 1 - q.1.length) * (x + 1) + 2 * (x + 1) := Nat.add_mul _ _ _
    have fr := split_fb or1 hS.D0 hS.V0 Db hS.Vs (by omega)
    refine ⟨rfl, r, _, rfl, hr, fbx_pb fr, by omega, by omega, by omega, .inl rfl, (monicL r).length, Nat.lt_of_le_of_lt (mk_len _ _) hrl, q, Pol.mon (Pol.of r hr), .val (dP r), ?_, hE.step_mon e, hI.step fP fQ (by omega) (by omega) hq0 e hrl, ?_⟩
    · rw [← em]; rfl
    · rw [← em]; rfl
  · have h : (!deq (dP q.1) (dP [])) = false := h
    rw [deq_dP] at h
    have hq : q = 0 := Pol.nil_iff.mp (dec_t (not_f h))
    subst hq
    have l1 : p.1.length ≤ N := lp
    have em : Pol.of (monicL p.1) (mk_isT _ _) = Pol.mon p := Pol.of_monic p.1 p.2 _
    have fin := hw (Pol.mon p) (fun h1 h2 => ?_) (fun hne => ?_) (by rw [← ex]; exact Pol.fb_mon fp)
    · rw [← em] at fin
      exact ⟨rfl, p.1, _, rfl, p.2, fbx_pb fp, by omega, by omega, by omega, .inl rfl, fin⟩
    · obtain ⟨u, v, e⟩ := hE.hp
      have : p = 0 := by rw [h1, h2] at e; grind
      rw [this, Pol.mon_zero]
    · by_cases hp : p = 0
      · subst hp; exact absurd hE.both hne
      · exact hE.stop hp
theorem sub_eq (p q : Pol) : mk (max p.1.length q.1.length) (fun k => co p.1 k - co q.1 k) = (p - q).1 :=
  isT_ext (mk_isT _ _) (p - q).2 fun k => by
    rw [Pol.co_sub, mk_co]
    split
    · rfl
    · rw [co_out (show p.1.length ≤ k by omega), co_out (show q.1.length ≤ k by omega)]; grind
theorem scaled_eq (p : Pol) (c : Rat) : mk p.1.length (fun k => co p.1 k * c) = (Pol.cst c * p).1 :=
  isT_ext (mk_isT _ _) (Pol.cst c * p).2 fun k => by
    rw [Pol.co_cst_mul, mk_co]
    split
    · grind
    · rw [co_out (show p.1.length ≤ k by omega)]; grind
theorem good_bezout : Good (Gq L) b_bezout 2 7 vBezout := by
  rintro ds w ⟨P, Q, N, b, rfl, h0, fP, fQ, eN, hN, hz, hw⟩ -
  obtain ⟨x, ex⟩ : ∃ x, x = Pol.Yb N b := ⟨_, rfl⟩
  rw [← ex] at hz
  have hz2 : N * (x + 2) + 10 * (x + 2) ≤ 60000000 := by rw [← Nat.add_mul]; exact hz
  have hz3 : N * (x + 1) ≤ N * (x + 2) := Nat.mul_le_mul_left _ (by omega)
  refine ⟨rfl, rfl, rfl, rfl, rfl, rfl, fun m ρ => ∃ (p q u0 v0 u1 v1 : Pol) (s4 s5 s8 : Sl), ρ = [.val (dP P.1), .val (dP Q.1), .val (.tup [dP p.1, dP u0.1, dP v0.1]), .val (.tup [dP q.1, dP u1.1, dP v1.1]), s4, s5, .un, .un, s8] ∧ Pol.BzI P Q p q u0 v0 u1 v1 N b ∧ q.1.length = m, ⟨_, P, Q, 1, 0, 0, 1, _, _, _, rfl, Pol.BzI.start fP fQ (by omega) h0, rfl⟩, ?_⟩
  rintro m _ ⟨p, q, u0, v0, u1, v1, s4, s5, s8, rfl, hI, rfl⟩
  have hF := hI.fine fP fQ (by omega)
  have okq := dsh_of (okD_dP q.1) (by decide)
  have ok0 : dsh (.tup []) = true := rfl
  refine ⟨_, rfl, rfl, okq, ok0, fun h => ?_, fun h => ?_⟩
  · have h : (!deq (dP q.1) (dP [])) = true := h
    rw [deq_dP] at h
    have hq : q.1 ≠ [] := dec_f (not_t h)
    have hq0 : q ≠ 0 := fun z => hq (Pol.nil_iff.mpr z)
    have fp := hF.fp
    have fq := hF.fq hq0
    have fu0 := hF.fu0
    have fv0 := hF.fv0
    have fu1 := hF.fu1 hq0
    have fv1 := hF.fv1 hq0
    rw [← ex] at fp fq fu0 fv0 fu1 fv1
    have l1 : p.1.length ≤ N := hF.lp
    have l2 : q.1.length ≤ N := hF.lq
    have l3 : 0 < q.1.length := Pol.len_pos hq0
    have hn : (p.1.length + 1 - q.1.length) * (x + 1) ≤ N * (x + 1) := Nat.mul_le_mul_right _ (by omega)
    obtain ⟨D, V, Db, hS⟩ := sp_fb fp fq (Pol.lead_ne hq0) (by omega)
    refine ⟨_, rfl, _, rfl, rfl, p.1, q.1, D, V, x, x, x, rfl, q.2, hq, by omega, by omega, hS, fun f0 r0 hf hr hrl hfl hrp of1 or1 he => ⟨.inl rfl, _, rfl, ?_⟩⟩
    obtain ⟨f, ef⟩ : ∃ f : Pol, f0 = f.1 := ⟨⟨f0, hf⟩, rfl⟩
    obtain ⟨r, er⟩ : ∃ r : Pol, r0 = r.1 := ⟨⟨r0, hr⟩, rfl⟩
    subst ef
    subst er
    have e : p = f * q + r := Pol.of_split p.2 q.2 f.2 r.2 he
    have h4 : (p.1.length + 1 - q.1.length + 2) * (x + 1) = (p.1.length + 1 - q.1.length) * (x + 1) + 2 * (x + 1) := Nat.add_mul _ _ _
    have ff := split_fb of1 hS.D0 hS.V0 Db hS.Vs (by omega)
    obtain ⟨y, ey⟩ : ∃ y, y = (p.1.length + 1 - q.1.length + 2) * (x + 1) := ⟨_, rfl⟩
    rw [← ey] at ff h4
    have fl : f.1.length ≤ 901 := by omega
    have hI2 := hI.step fP fQ (by omega) (by omega) hq0 e hrl
    have er : r = p - f * q := by rw [e]; grind
    rw [er] at hI2 hrl
    -- the three
    have one : ∀ (a c : Pol), Fb x x a.1 → Fb x x c.1 → a.1.length ≤ 1000 → c.1.length ≤ 1000 → (f * c).1.length ≤ 1000 → PTok f.1 c.1 ∧ PB 60000000 a.1 ∧ PB 60000000 (pmul f.1 c.1) := fun a c ha hc _ lc lp => by
      have pt := fb_pt2 (e := 10) ff hc (by omega) (by omega) (by omega) lc
      have pb := fbx_pb (Pol.fb_mul ff hc (show f.1.length ≤ 1000 by omega))
      exact ⟨pt, fun z hz => rb_mono (fbx_pb ha z hz) (by omega), fun z hz => rb_mono (pb z hz) (by omega)⟩
    have ll : ∀ c : Pol, (f * c).1.length ≤ f.1.length + c.1.length - 1 := Pol.len_mul_le f
    have m1 : u0.1.length ≤ N + 1 := hF.lu0
    have m2 : v0.1.length ≤ N + 1 := hF.lv0
    have m3 : u1.1.length ≤ N + 1 := hF.lu1
    have m4 : v1.1.length ≤ N + 1 := hF.lv1
    have q1 := ll q
    have q2 := ll u1
    have q3 := ll v1
    refine ⟨(by unfold Sm; exact (by decide : 3 ≤ 16777216)), fun k acc ρ => acc = [dP (p - f * q).1, dP (u0 - f * u1).1, dP (v0 - f * v1).1].take k ∧ ρ = [.val (dP P.1), .val (dP Q.1), .val (.tup [dP p.1, dP u0.1, dP v0.1]), .val (.tup [dP q.1, dP u1.1, dP v1.1]), .val (dP f.1), s5, .un, .un, s8], ⟨rfl, rfl⟩, ?_, ?_⟩
    · rintro k d acc _ hd ⟨rfl, rfl⟩
      match k, hd with
      | 0, hd =>
        cases hd
        obtain ⟨a1, a2, a3⟩ := one p q fp fq (by omega) (by omega) (by omega)
        have l4 : (pmul f.1 q.1).length ≤ 1000 := by have : (f * q).1.length ≤ 1000 := by omega
                                                     exact this
        refine ⟨rfl, fun _ => ?_, fun h => (by cases h)⟩
        refine ⟨rfl, f.1, q.1, rfl, a1, .inl rfl, rfl, p.1, pmul f.1 q.1, 60000000, rfl, a2, a3, by decide, by decide, by omega, l4, .inl rfl, ?_, rfl⟩
        exact congrArg (fun z => List.take 0 [dP (p - f * q).1, dP (u0 - f * u1).1, dP (v0 - f * v1).1] ++ [dP z]) (sub_eq p (f * q))
      | 1, hd =>
        cases hd
        obtain ⟨a1, a2, a3⟩ := one u0 u1 fu0 fu1 (by omega) (by omega) (by omega)
        have l4 : (pmul f.1 u1.1).length ≤ 1000 := by have : (f * u1).1.length ≤ 1000 := by omega
                                                      exact this
        refine ⟨rfl, fun _ => ?_, fun h => (by cases h)⟩
        refine ⟨rfl, f.1, u1.1, rfl, a1, .inl rfl, rfl, u0.1, pmul f.1 u1.1, 60000000, rfl, a2, a3, by decide, by decide, by omega, l4, .inl rfl, ?_, rfl⟩
        exact congrArg (fun z => List.take 1 [dP (p - f * q).1, dP (u0 - f * u1).1, dP (v0 - f * v1).1] ++ [dP z]) (sub_eq u0 (f * u1))
      | 2, hd =>
        cases hd
        obtain ⟨a1, a2, a3⟩ := one v0 v1 fv0 fv1 (by omega) (by omega) (by omega)
        have l4 : (pmul f.1 v1.1).length ≤ 1000 := by have : (f * v1).1.length ≤ 1000 := by omega
                                                      exact this
        refine ⟨rfl, fun _ => ?_, fun h => (by cases h)⟩
        refine ⟨rfl, f.1, v1.1, rfl, a1, .inl rfl, rfl, v0.1, pmul f.1 v1.1, 60000000, rfl, a2, a3, by decide, by decide, by omega, l4, .inl rfl, ?_, rfl⟩
        exact congrArg (fun z => List.take 2 [dP (p - f * q).1, dP (u0 - f * u1).1, dP (v0 - f * v1).1] ++ [dP z]) (sub_eq v0 (f * v1))
    · rintro acc _ ⟨rfl, rfl⟩
      exact ⟨_, hrl, q, p - f * q, u1, v1, u0 - f * u1, v0 - f * v1, _, _, _, rfl, hI2, rfl⟩
  · have h : (!deq (dP q.1) (dP [])) = false := h
    rw [deq_dP] at h
    have hq : q = 0 := Pol.nil_iff.mp (dec_t (not_f h))
    subst hq
    obtain ⟨p0, hG, he, s1, s2, s3⟩ := hI.stop
    have fp := hF.fp
    have fu0 := hF.fu0
    have fv0 := hF.fv0
    rw [← ex] at fp fu0 fv0
    have l1 : p.1.length ≤ N := hF.lp
    have l2 : u0.1.length ≤ N + 1 := hF.lu0
    have l3 : v0.1.length ≤ N + 1 := hF.lv0
    have fl := Pol.fs_lead fp p0
    have rl := fl.rb
    have ri := fl.inv.rb
    have rlead : (co p.1 (p.1.length - 1)).num ≠ 0 := fun z => Pol.lead_ne p0 (Rat.num_eq_zero.mp z)
    have r1 : RB' 1 1 := ⟨by decide, by decide⟩
    have pb : ∀ {a : Pol}, Fb x x a.1 → PB (x + 1) a.1 := fun h => fbx_pb h
    have lc : ∀ c : Pol, Pol.len (Pol.cst (1 / Pol.lead p) * c) = Pol.len c := fun c => Pol.len_cst_mul fl.inv.ne c
    have fin := hw (Pol.mon p) (Pol.cst (1 / Pol.lead p) * u0) (Pol.cst (1 / Pol.lead p) * v0) hG he s1 s2 s3 (by rw [lc]; exact l2) (by rw [lc]; exact l3)
    have pne : p.1 ≠ [] := fun z => p0 (Pol.nil_iff.mp z)
    refine ⟨_, rfl, _, atI_end pne, rfl, 1, _, rfl, sz_rb r1 (by decide), sz_rb rl (by omega), rlead, .inl rfl, (by unfold Sm; exact (by decide : 3 ≤ 16777216)), fun k acc ρ => acc = [dP (Pol.mon p).1, dP (Pol.cst (1 / Pol.lead p) * u0).1, dP (Pol.cst (1 / Pol.lead p) * v0).1].take k ∧ ρ = [.val (dP P.1), .val (dP Q.1), .val (.tup [dP p.1, dP u0.1, dP v0.1]), .val (.tup [dP (0 : Pol).1, dP u1.1, dP v1.1]), s4, s5, .un, .un, .val (dR (1 / Pol.lead p))], ⟨rfl, rfl⟩, ?_, ?_⟩
    · rintro k d acc _ hd ⟨rfl, rfl⟩
      match k, hd with
      | 0, hd =>
        cases hd
        refine ⟨fun _ => ?_, fun h => (by cases h)⟩
        refine ⟨rfl, p.1, 1 / Pol.lead p, x + 1, rfl, pb fp, ri, by omega, by omega, by omega, .inl rfl, ?_, rfl⟩
        exact congrArg (fun z => List.take 0 [dP (Pol.mon p).1, dP (Pol.cst (1 / Pol.lead p) * u0).1, dP (Pol.cst (1 / Pol.lead p) * v0).1] ++ [dP z]) (scaled_eq p (1 / Pol.lead p))
      | 1, hd =>
        cases hd
        refine ⟨fun _ => ?_, fun h => (by cases h)⟩
        refine ⟨rfl, u0.1, 1 / Pol.lead p, x + 1, rfl, pb fu0, ri, by omega, by omega, by omega, .inl rfl, ?_, rfl⟩
        exact congrArg (fun z => List.take 1 [dP (Pol.mon p).1, dP (Pol.cst (1 / Pol.lead p) * u0).1, dP (Pol.cst (1 / Pol.lead p) * v0).1] ++ [dP z]) (scaled_eq u0 (1 / Pol.lead p))
      | 2, hd =>
        cases hd
        refine ⟨fun _ => ?_, fun h => (by cases h)⟩
        refine ⟨rfl, v0.1, 1 / Pol.lead p, x + 1, rfl, pb fv0, ri, by omega, by omega, by omega, .inl rfl, ?_, rfl⟩
        exact congrArg (fun z => List.take 2 [dP (Pol.mon p).1, dP (Pol.cst (1 / Pol.lead p) * u0).1, dP (Pol.cst (1 / Pol.lead p) * v0).1] ++ [dP z]) (scaled_eq v0 (1 / Pol.lead p))
    · rintro acc _ ⟨rfl, rfl⟩
      exact fin
end M6

/-! M5g: factors of whole polynomials are whole and small. -/
namespace M5
open PySem PySem.Spec L2 VL M1 M2 M3 M4
theorem least_of {p : Nat → Prop} : ∀ n, p n → ∃ m, p m ∧ ∀ k, k < m → ¬ p k := fun n => by
  induction n using Nat.strongRecOn with
  | ind n ih =>
    intro h
    by_cases g : ∃ k, k < n ∧ p k
    · obtain ⟨k, hk, pk⟩ := g
      exact ih k hk pk
    · exact ⟨n, h, fun k hk pk => g ⟨k, hk, pk⟩⟩
def Prime (p : Nat) : Prop := 1 < p ∧ ∀ d, d ∣ p → d = 1 ∨ d = p
theorem prime_in : ∀ n : Nat, 1 < n → ∃ p, Prime p ∧ p ∣ n := fun n => by
  induction n using Nat.strongRecOn with
  | ind n ih =>
    intro h
    by_cases g : ∃ d, d ∣ n ∧ d ≠ 1 ∧ d ≠ n
    · obtain ⟨d, hd, d1, dn⟩ := g
      have d0 : 0 < d := Nat.pos_of_dvd_of_pos hd (by omega)
      have := Nat.le_of_dvd (by omega) hd
      obtain ⟨p, hp, pd⟩ := ih d (by omega) (by omega)
      exact ⟨p, hp, Nat.dvd_trans pd hd⟩
    · exact ⟨n, ⟨h, fun d hd => Classical.byContradiction fun w => g ⟨d, hd, fun z => w (.inl z), fun z => w (.inr z)⟩⟩, Nat.dvd_refl n⟩
theorem Prime.mul {p : Nat} (h : Prime p) {a b : Int} (hd : (p : Int) ∣ a * b) : (p : Int) ∣ a ∨ (p : Int) ∣ b := by
  have hd' : p ∣ a.natAbs * b.natAbs := by
    rw [← Int.natAbs_mul]
    exact Int.ofNat_dvd_left.mp hd
  rcases h.2 (Nat.gcd p a.natAbs) (Nat.gcd_dvd_left _ _) with g | g
  · right
    exact Int.ofNat_dvd_left.mpr (Nat.Coprime.dvd_of_dvd_mul_left (show Nat.Coprime p a.natAbs from g) hd')
  · left
    exact Int.ofNat_dvd_left.mpr (g ▸ Nat.gcd_dvd_right p a.natAbs)
theorem si_dvd {p : Int} {f : Nat → Int} {i : Nat} : ∀ n, (∀ a, a < n → a ≠ i → p ∣ f a) → p ∣ si f n → i < n → p ∣ f i
  | 0, _, _, h => by omega
  | n + 1, hf, hs, hi => by
    have hs : p ∣ si f n + f n := hs
    by_cases e : n = i
    · subst e
      have all : ∀ m, m ≤ n → p ∣ si f m := fun m => by
        induction m with
        | zero => intro _; exact Int.dvd_zero p
        | succ m ih => intro hm; exact Int.dvd_add (ih (by omega)) (hf m (by omega) (by omega))
      exact (Int.dvd_add_right (all n (Nat.le_refl n))).mp hs
    · exact si_dvd n (fun a ha hne => hf a (by omega) hne) ((Int.dvd_add_left (hf n (by omega) e)).mp hs) (by omega)
namespace Pol
/-- the k-th number of a whole polynomial -/
def zc (p : Pol) (k : Nat) : Int := (co p.1 k).num
def Zp (p : Pol) : Prop := ∀ k, co p.1 k = (zc p k : Rat)
theorem zp_of {p : Pol} (h : ∀ k, ∃ n : Int, co p.1 k = n) : Zp p := fun k => by
  obtain ⟨n, e⟩ := h k
  unfold zc
  rw [e]; rfl
theorem IZ.zp {K : Nat} {p : Pol} (h : IZ K p) : Zp p := zp_of fun k => (h k).imp fun n e => e.1
theorem IZ.le {K : Nat} {p : Pol} (h : IZ K p) (k : Nat) : (zc p k).natAbs ≤ K := by
  obtain ⟨n, e, l⟩ := h k
  unfold zc
  rw [e]; exact l
theorem zp_iz {K : Nat} {p : Pol} (h : Zp p) (l : ∀ k, (zc p k).natAbs ≤ K) : IZ K p := fun k => ⟨_, h k, l k⟩
theorem Zp.mul {p q : Pol} (hp : Zp p) (hq : Zp q) : Zp (p * q) := zp_of fun t => by
  refine ⟨si (fun k => (if k ≤ t then zc q (t - k) else 0) * zc p k) (len p), ?_⟩
  rw [co_mul_cv p q (Nat.le_refl _)]
  exact cv_si (f := zc p) (g := zc q) _ (fun k _ => hp k) hq
theorem zc_mul {p q : Pol} (hp : Zp p) (hq : Zp q) (t : Nat) : zc (p * q) t = si (fun k => (if k ≤ t then zc q (t - k) else 0) * zc p k) (len p) := by
  have h1 : co (p * q).1 t = ((si (fun k => (if k ≤ t then zc q (t - k) else 0) * zc p k) (len p) : Int) : Rat) := by
    rw [co_mul_cv p q (Nat.le_refl _)]
    exact cv_si (f := zc p) (g := zc q) _ (fun k _ => hp k) hq
  have h2 := (hp.mul hq) t
  rw [h1] at h2
  exact_mod_cast h2.symm
theorem zc_cst {p : Pol} (n : Int) (hp : Zp p) (t : Nat) : Zp (cst n * p) ∧ zc (cst n * p) t = n * zc p t := by
  have h : ∀ t, co (cst n * p).1 t = ((n * zc p t : Int) : Rat) := fun t => by rw [co_cst_mul, hp t, Rat.intCast_mul]
  have z := zp_of (p := cst n * p) fun k => ⟨_, h k⟩
  refine ⟨z, ?_⟩
  have h2 := z t
  rw [h t] at h2
  exact_mod_cast h2.symm
theorem zc_far {p : Pol} {k : Nat} (h : len p ≤ k) : zc p k = 0 := by
  unfold zc
  rw [co_far h]; rfl
/-- no prime is in all its numbers -/
def Prim (p : Pol) : Prop := Zp p ∧ ∀ r, Prime r → ∃ i, ¬ (r : Int) ∣ zc p i
theorem div_all {p : Pol} {r : Nat} (hp : Zp p) (r0 : 0 < r) (h : ∀ i, (r : Int) ∣ zc p i) : Zp (cst (1 / r) * p) := zp_of fun k => by
  obtain ⟨n, e⟩ := h k
  refine ⟨n, ?_⟩
  have : (r : Rat) ≠ 0 := fun z => by
    have : r = 0 := by exact_mod_cast z
    omega
  rw [co_cst_mul, hp k, e, Rat.intCast_mul, Rat.intCast_natCast]
  grind
theorem gauss {g k P : Pol} (hg : Prim g) (hP : Zp P) (e : P = g * k) : ∀ t : Nat, 0 < t → Zp (cst t * k) → Zp k := fun t => by
  induction t using Nat.strongRecOn with
  | ind t ih =>
    intro t0 hK
    by_cases t1 : t = 1
    · subst t1
      have e1 : (cst ((1 : Nat) : Rat)) * k = k := cst1 k
      rw [e1] at hK
      exact hK
    obtain ⟨r, hr, rt⟩ := prime_in t (by omega)
    have r1 := hr.1
    have alld : ∀ j, (r : Int) ∣ zc (cst t * k) j := by
      refine fun j => Classical.byContradiction fun nj => ?_
      obtain ⟨j, nj, hj⟩ := least_of (p := fun j => ¬ (r : Int) ∣ zc (cst t * k) j) j nj
      obtain ⟨i, ni⟩ := hg.2 r hr
      obtain ⟨i, ni, hi⟩ := least_of (p := fun i => ¬ (r : Int) ∣ zc g i) i ni
      have il : i < len g := Classical.byContradiction fun w => ni (by rw [zc_far (by omega)]; exact Int.dvd_zero _)
      have e2 : cst (t : Int) * P = g * (cst t * k) := by
        rw [e, Rat.intCast_natCast]; grind
      have s := zc_mul hg.1 hK (i + j)
      rw [← e2, (zc_cst (t : Int) hP (i + j)).2] at s
      have ds : (r : Int) ∣ si (fun a => (if a ≤ i + j then zc (cst t * k) (i + j - a) else 0) * zc g a) (len g) := by
        rw [← s]
        exact Int.dvd_mul_of_dvd_left (Int.natCast_dvd_natCast.mpr rt)
      have d1 := si_dvd (i := i) _ (fun a ha hne => by
        rcases Nat.lt_or_ge a i with w | w
        · have := hi a w
          exact Int.dvd_mul_of_dvd_right (Classical.byContradiction this)
        · refine Int.dvd_mul_of_dvd_left ?_
          split
          · exact Classical.byContradiction (hj (i + j - a) (by omega))
          · exact Int.dvd_zero _) ds il
      rw [if_pos (by omega), Nat.add_sub_cancel_left] at d1
      rcases hr.mul d1 with w | w
      · exact nj w
      · exact ni w
    obtain ⟨s, hs⟩ := rt
    have s0 : 0 < s := Nat.pos_of_ne_zero fun z => by rw [z] at hs; omega
    have st : s < t := by
      have : 2 * s ≤ r * s := Nat.mul_le_mul_right _ (by omega)
      omega
    refine ih s st s0 ?_
    have := div_all hK (by omega) alld
    have e3 : cst (1 / r) * (cst t * k) = cst s * k := by
      have e4 : cst (1 / (r : Rat)) * cst (t : Rat) = cst (s : Rat) := by
        rw [cst_mul, hs]
        have : (r : Rat) ≠ 0 := fun z => by
          have : r = 0 := by exact_mod_cast z
          omega
        rw [Rat.natCast_mul]
        congr 1
        grind
      grind
    rw [e3] at this
    exact this
theorem prim_of {g : Pol} (g0 : g ≠ 0) : ∀ (n : Nat) (a : Rat), a ≠ 0 → Zp (cst a * g) → (zc (cst a * g) (len g - 1)).natAbs = n → ∃ b : Rat, b ≠ 0 ∧ Prim (cst b * g) := fun n => by
  induction n using Nat.strongRecOn with
  | ind n ih =>
    intro a a0 hz hn
    by_cases w : ∀ r, Prime r → ∃ i, ¬ (r : Int) ∣ zc (cst a * g) i
    · exact ⟨a, a0, hz, w⟩
    · obtain ⟨r, hr⟩ := Classical.not_forall.mp w
      obtain ⟨hr, ni⟩ := Classical.not_imp.mp hr
      have alld : ∀ i, (r : Int) ∣ zc (cst a * g) i := fun i => Classical.byContradiction fun z => ni ⟨i, z⟩
      have r1 := hr.1
      have rr : (r : Rat) ≠ 0 := fun z => by
        have : r = 0 := by exact_mod_cast z
        omega
      have z2 := div_all hz (by omega) alld
      have e3 : cst (1 / r) * (cst a * g) = cst (1 / r * a) * g := by
        rw [← cst_mul]; grind
      rw [e3] at z2
      have b0 : 1 / (r : Rat) * a ≠ 0 := by
        intro z
        have : (r : Rat) * (1 / (r : Rat) * a) = a := by grind
        rw [z] at this
        exact a0 (by grind)
      have lead0 : zc (cst (1 / r * a) * g) (len g - 1) ≠ 0 := fun z => by
        have h1 := z2 (len g - 1)
        rw [z] at h1
        have h2 : co (cst (1 / r * a) * g).1 (len g - 1) = lead (cst (1 / r * a) * g) := by
          have : (cst (1 / r * a) * g).1.length = len g := len_cst_mul b0 g
          unfold lead; rw [this]
        rw [h2] at h1
        exact lead_ne (mul_ne (cst_ne b0) g0) h1
      have hm : zc (cst a * g) (len g - 1) = r * zc (cst (1 / r * a) * g) (len g - 1) := by
        have h1 := hz (len g - 1)
        have h2 := z2 (len g - 1)
        rw [co_cst_mul] at h1 h2
        have h3 : ((zc (cst a * g) (len g - 1) : Int) : Rat) = ((r * zc (cst (1 / r * a) * g) (len g - 1) : Int) : Rat) := by
          rw [Rat.intCast_mul, ← h1, ← h2, Rat.intCast_natCast]
          grind
        exact_mod_cast h3
      refine ih _ ?_ _ b0 z2 rfl
      rw [← hn, hm, Int.natAbs_mul]
      have p1 : 0 < (zc (cst (1 / r * a) * g) (len g - 1)).natAbs := by omega
      have : 2 * (zc (cst (1 / r * a) * g) (len g - 1)).natAbs ≤ (r : Int).natAbs * (zc (cst (1 / r * a) * g) (len g - 1)).natAbs := Nat.mul_le_mul_right _ (by omega)
      omega
theorem pb_any : ∀ l : List Rat, ∃ s, PB s l
  | [] => ⟨0, fun x hx => (by cases hx)⟩
  | a :: l => by
    obtain ⟨s, h⟩ := pb_any l
    refine ⟨s + a.num.natAbs + a.den, fun x hx => ?_⟩
    rcases List.mem_cons.mp hx with e | e
    · subst e
      have h1 := Nat.lt_of_lt_of_le (lt2 x.num.natAbs) (pw_mono (show x.num.natAbs ≤ s + x.num.natAbs + x.den by omega))
      have h2 := Nat.lt_of_lt_of_le (lt2 x.den) (pw_mono (show x.den ≤ s + x.num.natAbs + x.den by omega))
      exact ⟨h1, h2⟩
    · exact rb_mono (h x e) (by omega)
/-- some whole multiple -/
theorem some_zp (p : Pol) : ∃ n : Nat, 0 < n ∧ Zp (cst n * p) := by
  obtain ⟨s, hs⟩ := pb_any p.1
  have := fb_of hs
  obtain ⟨D, D0, _, z⟩ := fb_iz this
  exact ⟨D, D0, z.zp⟩
theorem prim_ex {g : Pol} (g0 : g ≠ 0) : ∃ b : Rat, b ≠ 0 ∧ Prim (cst b * g) := by
  obtain ⟨n, n0, z⟩ := some_zp g
  exact prim_of g0 _ n (fun w => by have : n = 0 := by exact_mod_cast w
                                    omega) z rfl
end Pol
end M5

/-! M5h: a bound for the factors of a whole polynomial, by its worths at whole places. -/
namespace M5
open PySem PySem.Spec L2 VL M1 M2 M3 M4
def evI : List Int → Int → Int
  | [], _ => 0
  | a :: l, x => a + x * evI l x
theorem evI_le {K R : Nat} {x : Int} (hx : x.natAbs ≤ R) : ∀ l : List Int, (∀ c, c ∈ l → c.natAbs ≤ K) → (evI l x).natAbs ≤ K * (R + 1) ^ l.length
  | [], _ => by
    unfold evI; simp
  | a :: l, h => by
    have ih := evI_le hx l fun c hc => h c (List.mem_cons_of_mem _ hc)
    have ha := h a List.mem_cons_self
    unfold evI
    have h1 : (x * evI l x).natAbs ≤ R * (K * (R + 1) ^ l.length) := by
      rw [Int.natAbs_mul]; exact Nat.mul_le_mul hx ih
    have h2 : K ≤ K * (R + 1) ^ l.length := Nat.le_mul_of_pos_right _ (Nat.pow_pos (by omega))
    have h3 : K * (R + 1) ^ (a :: l).length = R * (K * (R + 1) ^ l.length) + K * (R + 1) ^ l.length := by
      rw [List.length_cons, Nat.pow_succ, ← Nat.mul_assoc, Nat.mul_comm (K * (R + 1) ^ l.length), Nat.add_mul, Nat.one_mul]
    have := Int.natAbs_add_le a (x * evI l x)
    omega
def sdI (r : Int) : List Int → List Int
  | [] => []
  | [_] => []
  | _ :: b :: l => evI (b :: l) r :: sdI r (b :: l)
theorem sdI_len (r : Int) : ∀ l, (sdI r l).length = l.length - 1
  | [] => rfl
  | [_] => rfl
  | a :: b :: l => by
    have := sdI_len r (b :: l)
    unfold sdI
    rw [List.length_cons, this]
    simp
theorem sdI_ev (r x : Int) : ∀ l, evI l x = (x - r) * evI (sdI r l) x + evI l r
  | [] => by unfold sdI evI; grind
  | [a] => by
    unfold sdI
    show a + x * 0 = (x - r) * 0 + (a + r * 0)
    grind
  | a :: b :: l => by
    have ih := sdI_ev r x (b :: l)
    unfold sdI
    show a + x * evI (b :: l) x = (x - r) * (evI (b :: l) r + x * evI (sdI r (b :: l)) x) + (a + r * evI (b :: l) r)
    rw [ih]; grind
theorem sdI_coef {r : Int} {R Q W : Nat} (hr : r.natAbs ≤ R) (hQ : Q ≤ W) : ∀ l : List Int, (∀ q, q ∈ sdI r l → q.natAbs ≤ Q) → (evI l r).natAbs ≤ W → ∀ c, c ∈ l → c.natAbs ≤ W + R * W
  | [], _, _, c, hc => by cases hc
  | [a], _, h, c, hc => by
    have e : c = a := by simpa using hc
    subst e
    have : evI [c] r = c := by
      show c + r * 0 = c
      grind
    rw [this] at h
    omega
  | a :: b :: l, hq, h, c, hc => by
    have q0 : (evI (b :: l) r).natAbs ≤ Q := hq _ (by unfold sdI; exact List.mem_cons_self)
    rcases List.mem_cons.mp hc with e | e
    · subst e
      have e1 : evI (c :: b :: l) r = c + r * evI (b :: l) r := rfl
      have e2 : c = evI (c :: b :: l) r - r * evI (b :: l) r := by rw [e1]; omega
      have h1 : (r * evI (b :: l) r).natAbs ≤ R * W := by
        rw [Int.natAbs_mul]; exact Nat.mul_le_mul hr (by omega)
      omega
    · exact sdI_coef hr hQ (b :: l) (fun q hq2 => hq q (by unfold sdI; exact List.mem_cons_of_mem _ hq2)) (by omega) c e
theorem interp {R : Nat} : ∀ (m : Nat) (l pts : List Int) (V : Nat), l.length ≤ m → pts.Nodup → m ≤ pts.length → (∀ x, x ∈ pts → x.natAbs ≤ R ∧ (evI l x).natAbs ≤ V) → ∀ c, c ∈ l → c.natAbs ≤ V * (2 * R + 3) ^ m
  | 0, l, pts, V, hl, _, _, _, c, hc => by
    have : l = [] := List.length_eq_zero_iff.mp (by omega)
    subst this; cases hc
  | m + 1, l, [], V, hl, _, hp, _, c, hc => by simp at hp
  | m + 1, l, r :: pts, V, hl, hn, hp, hV, c, hc => by
    have hr := hV r List.mem_cons_self
    obtain ⟨hn1, hn2⟩ := List.nodup_cons.mp hn
    have ih := interp m (sdI r l) pts (2 * V) (by rw [sdI_len]; omega) hn2 (by simpa using hp) fun x hx => by
      have h1 := hV x (List.mem_cons_of_mem _ hx)
      refine ⟨h1.1, ?_⟩
      have e := sdI_ev r x l
      have ne : x - r ≠ 0 := fun z => hn1 (by
        have : x = r := by omega
        exact this ▸ hx)
      have h2 : ((x - r) * evI (sdI r l) x).natAbs ≤ 2 * V := by
        have : (x - r) * evI (sdI r l) x = evI l x - evI l r := by omega
        rw [this]
        have := hr.2
        omega
      rw [Int.natAbs_mul] at h2
      have h3 : 1 * (evI (sdI r l) x).natAbs ≤ (x - r).natAbs * (evI (sdI r l) x).natAbs := Nat.mul_le_mul_right _ (by omega)
      omega
    have one : 1 ≤ (2 * R + 3) ^ m := Nat.pow_pos (by omega)
    have hW : V ≤ 2 * V * (2 * R + 3) ^ m := by
      have : 2 * V * 1 ≤ 2 * V * (2 * R + 3) ^ m := Nat.mul_le_mul_left _ one
      omega
    have := sdI_coef (Q := 2 * V * (2 * R + 3) ^ m) (W := 2 * V * (2 * R + 3) ^ m) hr.1 (Nat.le_refl _) l ih (by have := hr.2; omega) c hc
    refine Nat.le_trans this ?_
    have e2 : 2 * V * (2 * R + 3) ^ m + R * (2 * V * (2 * R + 3) ^ m) = V * ((2 * R + 2) * (2 * R + 3) ^ m) := by grind
    rw [e2]
    refine Nat.mul_le_mul_left _ ?_
    rw [Nat.pow_succ, Nat.mul_comm ((2 * R + 3) ^ m)]
    exact Nat.mul_le_mul_right _ (by omega)
theorem roots_le : ∀ (n : Nat) (f pts : List Int), f.length ≤ n → (∃ c, c ∈ f ∧ c ≠ 0) → pts.Nodup → (∀ x, x ∈ pts → evI f x = 0) → pts.length + 1 ≤ n
  | 0, f, pts, hl, ⟨c, hc, _⟩, _, _ => by
    have : f = [] := List.length_eq_zero_iff.mp (by omega)
    subst this; cases hc
  | n + 1, f, [], hl, _, _, _ => by simp
  | n + 1, f, r :: pts, hl, ⟨c, hc, c0⟩, hn, hz => by
    obtain ⟨hn1, hn2⟩ := List.nodup_cons.mp hn
    have zr := hz r List.mem_cons_self
    have nz : ∃ q, q ∈ sdI r f ∧ q ≠ 0 := Classical.byContradiction fun w => by
      have := sdI_coef (r := r) (R := r.natAbs) (Q := 0) (W := 0) (Nat.le_refl _) (Nat.le_refl _) f (fun q hq => by
        have : q = 0 := Classical.byContradiction fun z => w ⟨q, hq, z⟩
        omega) (by rw [zr]; simp) c hc
      omega
    have ih := roots_le n (sdI r f) pts (by rw [sdI_len]; omega) nz hn2 fun x hx => by
      have e := sdI_ev r x f
      rw [hz x (List.mem_cons_of_mem _ hx), zr] at e
      have ne : x - r ≠ 0 := fun z => hn1 (by
        have : x = r := by omega
        exact this ▸ hx)
      have e2 : (x - r) * evI (sdI r f) x = 0 := by omega
      rcases Int.mul_eq_zero.mp e2 with w | w
      · exact absurd w ne
      · exact w
    rw [List.length_cons]; omega
/-- enough places that are no roots -/
theorem places (f : List Int) (n R : Nat) (hl : f.length ≤ n) (h : ∃ c, c ∈ f ∧ c ≠ 0) : ∃ pts : List Int, pts.Nodup ∧ R + 2 ≤ pts.length + n ∧ ∀ x, x ∈ pts → x.natAbs ≤ R ∧ evI f x ≠ 0 := by
  let L : List Int := (List.range (R + 1)).map fun (k : Nat) => (k : Int)
  have nd : L.Nodup := by
    refine List.Pairwise.map _ ?_ (List.nodup_range (n := R + 1))
    intro a b hab z
    exact hab (by exact_mod_cast z)
  have ll : L.length = R + 1 := by simp [L]
  have z := roots_le n f (L.filter fun x => decide (evI f x = 0)) hl h (List.Pairwise.filter _ nd) fun x hx => by
    have := (List.mem_filter.mp hx).2
    exact of_decide_eq_true this
  have c1 := List.length_eq_countP_add_countP (fun x => decide (evI f x = 0)) (l := L)
  rw [List.countP_eq_length_filter, List.countP_eq_length_filter] at c1
  refine ⟨L.filter fun x => decide (¬ decide (evI f x = 0) = true), List.Pairwise.filter _ nd, by omega, fun x hx => ?_⟩
  obtain ⟨h1, h2⟩ := List.mem_filter.mp hx
  obtain ⟨k, hk, rfl⟩ := List.mem_map.mp h1
  have hk := List.mem_range.mp hk
  refine ⟨by omega, fun z => ?_⟩
  have := of_decide_eq_true h2
  exact this (decide_eq_true z)
namespace Pol
def zl (p : Pol) : List Int := p.1.map fun x => x.num
theorem ev_zl : ∀ (l : List Rat) (x : Int), (∀ a, a ∈ l → a = (a.num : Rat)) → M4.ev l x = (evI (l.map fun x => x.num) x : Rat)
  | [], x, _ => rfl
  | a :: l, x, h => by
    have ih := ev_zl l x fun b hb => h b (List.mem_cons_of_mem _ hb)
    show a + x * M4.ev l x = ((a.num + x * evI (l.map fun x => x.num) x : Int) : Rat)
    rw [ih, Rat.intCast_add, Rat.intCast_mul]
    congr 1
    exact h a List.mem_cons_self
theorem zp_mem {p : Pol} (h : Zp p) {a : Rat} (ha : a ∈ p.1) : ∃ k, k < len p ∧ a = co p.1 k ∧ a = (a.num : Rat) := by
  obtain ⟨k, hk, rfl⟩ := List.getElem_of_mem ha
  refine ⟨k, hk, (co_in hk).symm, ?_⟩
  have := h k
  unfold zc at this
  rw [co_in hk] at this
  exact this
theorem ev_zp {p : Pol} (h : Zp p) (x : Int) : ev p x = (evI (zl p) x : Rat) := ev_zl p.1 x fun a ha => (zp_mem h ha).choose_spec.2.2
theorem zl_mem {p : Pol} (h : Zp p) {K : Nat} (hK : ∀ k, (zc p k).natAbs ≤ K) : ∀ c, c ∈ zl p → c.natAbs ≤ K := fun c hc => by
  obtain ⟨a, ha, rfl⟩ := List.mem_map.mp hc
  obtain ⟨k, hk, e, _⟩ := zp_mem h ha
  have := hK k
  unfold zc at this
  rw [e]; exact this
theorem zl_co {p : Pol} {k : Nat} (hk : k < len p) : zc p k ∈ zl p := by
  refine List.mem_map.mpr ⟨co p.1 k, ?_, rfl⟩
  have h2 : k < p.1.length := hk
  rw [co_in h2]; exact List.getElem_mem h2
/-- the bits that a factor may have more -/
def cz (n : Nat) : Nat := if n ≤ 31 then 13 * n else 17 * n
theorem zdiv {P g k : Pol} {b n : Nat} (e : P = g * k) (zg : Zp g) (zk : Zp k) (P0 : P ≠ 0) (hP : IZ (2 ^ b) P) (hn : len P ≤ n) (n1 : n ≤ 100) : IZ (2 ^ (b + cz n)) k := by
  have zP := hP.zp
  have g0 : g ≠ 0 := fun z => P0 (by rw [e, z]; grind)
  have k0 : k ≠ 0 := fun z => P0 (by rw [e, z]; grind)
  have lk := len_mul g0 k0
  rw [← e] at lk
  have gp := len_pos g0
  have kp := len_pos k0
  obtain ⟨pts, nd, hl, hp⟩ := places (zl P) n (2 * n) (by unfold zl; rw [List.length_map]; exact hn) (by
    have l0 := lead_ne P0
    have pp := len_pos P0
    refine ⟨zc P (len P - 1), zl_co (by omega), fun z => l0 ?_⟩
    have := zP (len P - 1)
    rw [z] at this
    exact this)
  have hb := interp (R := 2 * n) n (zl k) pts (2 ^ b * (2 * n + 1) ^ n) (by unfold zl; rw [List.length_map]; show len k ≤ n; omega) nd (by omega) fun x hx => by
    obtain ⟨h1, h2⟩ := hp x hx
    refine ⟨h1, ?_⟩
    have h3 := evI_le h1 (zl P) (zl_mem zP hP.le)
    have h4 : evI (zl P) x = evI (zl g) x * evI (zl k) x := by
      have h5 := ev_zp zP x
      rw [e, ev_mul, ev_zp zg, ev_zp zk, ← Rat.intCast_mul] at h5
      rw [← e] at h5
      exact_mod_cast h5.symm
    have h6 : (2 * n + 1) ^ (zl P).length ≤ (2 * n + 1) ^ n := Nat.pow_le_pow_right (by omega) (by unfold zl; rw [List.length_map]; exact hn)
    have h7 := Nat.mul_le_mul_left (2 ^ b) h6
    have h8 : evI (zl g) x ≠ 0 := fun z => h2 (by rw [h4, z, Int.zero_mul])
    have h9 : (evI (zl P) x).natAbs = (evI (zl g) x).natAbs * (evI (zl k) x).natAbs := by rw [h4, Int.natAbs_mul]
    have h10 : 1 * (evI (zl k) x).natAbs ≤ (evI (zl g) x).natAbs * (evI (zl k) x).natAbs := Nat.mul_le_mul_right _ (by omega)
    omega
  have fin : 2 ^ b * (2 * n + 1) ^ n * (2 * (2 * n) + 3) ^ n ≤ 2 ^ (b + cz n) := by
    by_cases n31 : n ≤ 31
    · have a1 : (2 * n + 1) ^ n ≤ 2 ^ (6 * n) := by
        rw [Nat.pow_mul]; exact Nat.pow_le_pow_left (by omega) n
      have a2 : (2 * (2 * n) + 3) ^ n ≤ 2 ^ (7 * n) := by
        rw [Nat.pow_mul]; exact Nat.pow_le_pow_left (by omega) n
      calc 2 ^ b * (2 * n + 1) ^ n * (2 * (2 * n) + 3) ^ n ≤ 2 ^ b * 2 ^ (6 * n) * 2 ^ (7 * n) := Nat.mul_le_mul (Nat.mul_le_mul_left _ a1) a2
        _ = 2 ^ (b + 6 * n + 7 * n) := by rw [Nat.pow_add, Nat.pow_add]
        _ ≤ _ := pw_mono (by unfold cz; rw [if_pos n31]; omega)
    have a1 : (2 * n + 1) ^ n ≤ 2 ^ (8 * n) := by
      rw [Nat.pow_mul]; exact Nat.pow_le_pow_left (by omega) n
    have a2 : (2 * (2 * n) + 3) ^ n ≤ 2 ^ (9 * n) := by
      rw [Nat.pow_mul]; exact Nat.pow_le_pow_left (by omega) n
    calc 2 ^ b * (2 * n + 1) ^ n * (2 * (2 * n) + 3) ^ n ≤ 2 ^ b * 2 ^ (8 * n) * 2 ^ (9 * n) := Nat.mul_le_mul (Nat.mul_le_mul_left _ a1) a2
      _ = 2 ^ (b + 8 * n + 9 * n) := by rw [Nat.pow_add, Nat.pow_add]
      _ ≤ _ := pw_mono (by unfold cz; rw [if_neg n31]; omega)
  refine zp_iz zk fun t => ?_
  rcases Nat.lt_or_ge t (len k) with w | w
  · exact Nat.le_trans (hb _ (zl_co w)) fin
  · rw [zc_far w]; exact Nat.zero_le _
/-- both over one number below -/
def JB (b : Nat) (p q : Pol) : Prop := ∃ D : Nat, 0 < D ∧ D ≤ 2 ^ b ∧ IZ (2 ^ b) (cst D * p) ∧ IZ (2 ^ b) (cst D * q)
theorem iz_zero {K : Nat} : IZ K 0 := fun k => ⟨0, by
  rw [co_far (by rw [len_zero]; omega)]; rfl, Nat.zero_le _⟩
theorem IZ.mono {K K' : Nat} {p : Pol} (h : IZ K p) (g : K ≤ K') : IZ K' p := fun k => by
  obtain ⟨n, e, l⟩ := h k
  exact ⟨n, e, Nat.le_trans l g⟩
theorem IZ.add {K K' : Nat} {p q : Pol} (h : IZ K p) (g : IZ K' q) : IZ (K + K') (p + q) := fun k => by
  obtain ⟨n, e, l⟩ := h k
  obtain ⟨m, e', l'⟩ := g k
  exact ⟨n + m, by rw [co_add, e, e', Rat.intCast_add], Nat.le_trans (Int.natAbs_add_le n m) (Nat.add_le_add l l')⟩
theorem IZ.neg {K : Nat} {p : Pol} (h : IZ K p) : IZ K (-p) := fun k => by
  obtain ⟨n, e, l⟩ := h k
  exact ⟨-n, by rw [co_neg, e, Rat.intCast_neg], by rw [Int.natAbs_neg]; exact l⟩
theorem IZ.sub {K K' : Nat} {p q : Pol} (h : IZ K p) (g : IZ K' q) : IZ (K + K') (p - q) := h.add g.neg
theorem IZ.mul {K K' : Nat} {p q : Pol} (h : IZ K p) (g : IZ K' q) : IZ (len p * (K' * K)) (p * q) := zp_iz (h.zp.mul g.zp) fun t => by
  rw [zc_mul h.zp g.zp]
  refine si_abs fun k _ => ?_
  rw [Int.natAbs_mul]
  refine Nat.mul_le_mul ?_ (h.le k)
  split
  · exact g.le _
  · exact Nat.zero_le _
/-- the whole cofactor -/
theorem whole_cof {p h g : Pol} {b n D : Nat} {t : Rat} (e : p = h * g) (z : IZ (2 ^ b) (cst D * p)) (D0 : 0 < D) (t0 : t ≠ 0) (pg : Prim (cst t * g)) (hn : len p ≤ n) (n1 : n ≤ 100) : IZ (2 ^ (b + cz n)) (cst (D / t) * h) := by
  have cD : (D : Rat) ≠ 0 := fun z => by
    have : D = 0 := by exact_mod_cast z
    omega
  by_cases p0 : p = 0
  · have h0 : h = 0 := Classical.byContradiction fun w => by
      have g0 : g ≠ 0 := fun y => by
        rw [y, show cst t * 0 = (0 : Pol) by grind] at pg
        obtain ⟨r, hr, _⟩ := prime_in 2 (by decide)
        obtain ⟨i, hi⟩ := pg.2 r hr
        exact hi (by rw [zc_far (by rw [len_zero]; omega)]; exact Int.dvd_zero _)
      exact mul_ne w g0 (e.symm.trans p0)
    rw [h0, show cst (D / t) * 0 = (0 : Pol) by grind]; exact iz_zero
  · have e2 : cst D * p = cst t * g * (cst (D / t) * h) := by
      have : cst t * cst (D / t) = cst D := by rw [cst_mul]; congr 1; grind
      rw [e, ← this]; grind
    obtain ⟨m, m0, zm⟩ := some_zp (cst (D / t) * h)
    have zk := gauss pg z.zp e2 m m0 zm
    exact zdiv e2 pg.1 zk (mul_ne (cst_ne cD) p0) z (by rw [len_cst_mul cD]; exact hn) n1
/-- a factor, its last number one -/
theorem fac_fb {p h g : Pol} {b n : Nat} (e : p = h * g) (p0 : p ≠ 0) (fp : Fb b b p.1) (hn : len p ≤ n) (n1 : n ≤ 100) : Fb (b + cz n) (b + cz n) (mon h).1 := by
  obtain ⟨D, D0, _, z⟩ := fb_iz fp
  have cD : (D : Rat) ≠ 0 := fun z => by
    have : D = 0 := by exact_mod_cast z
    omega
  have g0 : g ≠ 0 := fun y => p0 (by rw [e, y]; grind)
  have h0 : h ≠ 0 := fun y => p0 (by rw [e, y]; grind)
  obtain ⟨t, t0, pg⟩ := prim_ex g0
  have zk := whole_cof e z D0 t0 pg hn n1
  have c0 : (D : Rat) / t ≠ 0 := by
    intro z
    have : (D : Rat) = D / t * t := by grind
    rw [z] at this
    exact cD (by grind)
  obtain ⟨V, V0, Vl, o, _⟩ := iz_lead zk zk (mul_ne (cst_ne c0) h0) (D := 1) (by decide)
  refine ⟨V, V0, Vl, fun k => ?_⟩
  have := o k
  rw [lead_cst_mul _ _ c0, co_cst_mul] at this
  have lh := lead_ne h0
  unfold mon
  rw [co_cst_mul, show 1 / lead h * co h.1 k = D / t * co h.1 k / (D / t * lead h) by grind]
  exact this
theorem jb_frac {P Q A B g : Pol} {b n : Nat} (h : JB b P Q) (eP : P = A * g) (eQ : Q = B * g) (Q0 : Q ≠ 0) (l1 : len P ≤ n) (l2 : len Q ≤ n) (n1 : n ≤ 100) : JB (b + cz n) (cst (1 / lead B) * A) (mon B) := by
  obtain ⟨D, D0, _, zP, zQ⟩ := h
  have cD : (D : Rat) ≠ 0 := fun z => by
    have : D = 0 := by exact_mod_cast z
    omega
  have g0 : g ≠ 0 := fun y => Q0 (by rw [eQ, y]; grind)
  have B0 : B ≠ 0 := fun y => Q0 (by rw [eQ, y]; grind)
  obtain ⟨t, t0, pg⟩ := prim_ex g0
  have z1 := whole_cof eP zP D0 t0 pg l1 n1
  have z2 := whole_cof eQ zQ D0 t0 pg l2 n1
  have c0 : (D : Rat) / t ≠ 0 := by
    intro z
    have : (D : Rat) = D / t * t := by grind
    rw [z] at this
    exact cD (by grind)
  have lB := lead_ne B0
  obtain ⟨w, ew, lw⟩ := z2 (len B - 1)
  have el : (D : Rat) / t * lead B = w := by
    rw [← ew, co_cst_mul]; rfl
  have w0 : w ≠ 0 := fun z => by
    rw [z] at el
    rcases Rat.mul_eq_zero.mp el with y | y
    · exact c0 y
    · exact lB y
  have sg : ∀ x : Pol, IZ (2 ^ (b + cz n)) (cst (D / t) * x) → IZ (2 ^ (b + cz n)) (cst w.natAbs * (cst (1 / lead B) * x)) := fun x hx => by
    rcases Int.lt_or_le w 0 with y | y
    · have e3 : cst w.natAbs * (cst (1 / lead B) * x) = -(cst (D / t) * x) := by
        have : ((w.natAbs : Nat) : Rat) = -(w : Rat) := by
          have : ((w.natAbs : Nat) : Int) = -w := by omega
          have h2 : (((w.natAbs : Nat) : Int) : Rat) = ((-w : Int) : Rat) := congrArg _ this
          rw [Rat.intCast_natCast, Rat.intCast_neg] at h2
          exact h2
        rw [this, ← el]
        refine co_ext fun k => ?_
        rw [co_neg, co_cst_mul, co_cst_mul, co_cst_mul]; grind
      rw [e3]; exact hx.neg
    · have e3 : cst w.natAbs * (cst (1 / lead B) * x) = cst (D / t) * x := by
        have : ((w.natAbs : Nat) : Rat) = (w : Rat) := by
          have : ((w.natAbs : Nat) : Int) = w := by omega
          have h2 : (((w.natAbs : Nat) : Int) : Rat) = (w : Rat) := congrArg _ this
          rw [Rat.intCast_natCast] at h2
          exact h2
        rw [this, ← el]
        refine co_ext fun k => ?_
        rw [co_cst_mul, co_cst_mul, co_cst_mul]; grind
      rw [e3]; exact hx
  exact ⟨w.natAbs, by omega, lw, sg A z1, sg B z2⟩
theorem JB.fb {b : Nat} {p q : Pol} (h : JB b p q) : Fb b b p.1 ∧ Fb b b q.1 := by
  obtain ⟨D, D0, Db, z1, z2⟩ := h
  have cD : (D : Rat) ≠ 0 := fun z => by
    have : D = 0 := by exact_mod_cast z
    omega
  have one : ∀ {p : Pol}, IZ (2 ^ b) (cst D * p) → Fb b b p.1 := fun {p} z => ⟨D, D0, Db, fun k => by
    obtain ⟨n, e, l⟩ := z k
    refine ⟨n, ?_, l⟩
    rw [co_cst_mul] at e
    rw [Rat.divInt_eq_div, ← e, Rat.intCast_natCast]; grind⟩
  exact ⟨one z1, one z2⟩
theorem JB.mono {b c : Nat} {p q : Pol} (h : JB b p q) (g : b ≤ c) : JB c p q := by
  obtain ⟨D, D0, Db, z1, z2⟩ := h
  exact ⟨D, D0, Nat.le_trans Db (pw_mono g), z1.mono (pw_mono g), z2.mono (pw_mono g)⟩
theorem JB.swap {b : Nat} {p q : Pol} (h : JB b p q) : JB b q p := by
  obtain ⟨D, D0, Db, z1, z2⟩ := h
  exact ⟨D, D0, Db, z2, z1⟩
theorem jb_of {b : Nat} {p : Pol} (h : Fb b b p.1) : JB b p 1 := by
  obtain ⟨D, D0, Db, z⟩ := fb_iz h
  refine ⟨D, D0, Db, z, fun k => ?_⟩
  rw [show cst D * (1 : Pol) = cst D by grind]
  show ∃ n : Int, co (trim [(D : Rat)]) k = n ∧ _
  rw [trim_co]
  cases k with
  | zero => exact ⟨D, by rw [Rat.intCast_natCast]; rfl, by simpa using Db⟩
  | succ k => exact ⟨0, by rw [co_succ, co_nil]; rfl, Nat.zero_le _⟩
theorem iz_mul2 {b c : Nat} {p q : Pol} {D E : Nat} (h : IZ (2 ^ b) (cst D * p)) (g : IZ (2 ^ c) (cst E * q)) (D0 : 0 < D) (hl : len p ≤ 1000) : IZ (2 ^ (b + c + 10)) (cst (D * E : Nat) * (p * q)) := by
  have cD : (D : Rat) ≠ 0 := fun z => by
    have : D = 0 := by exact_mod_cast z
    omega
  have e : cst (D * E : Nat) * (p * q) = cst D * p * (cst E * q) := by
    rw [Rat.natCast_mul, ← cst_mul]; grind
  rw [e]
  refine (h.mul g).mono ?_
  rw [len_cst_mul cD]
  calc len p * (2 ^ c * 2 ^ b) ≤ 2 ^ 10 * (2 ^ c * 2 ^ b) := Nat.mul_le_mul_right _ (by omega)
    _ = 2 ^ (b + c + 10) := by rw [← Nat.pow_add, ← Nat.pow_add]; congr 1; omega
theorem JB.mul {b c : Nat} {p q r s : Pol} (h : JB b p q) (g : JB c r s) (l1 : len p ≤ 1000) (l2 : len q ≤ 1000) : JB (b + c + 10) (p * r) (q * s) := by
  obtain ⟨D, D0, Db, z1, z2⟩ := h
  obtain ⟨E, E0, Eb, y1, y2⟩ := g
  refine ⟨D * E, Nat.mul_pos D0 E0, ?_, iz_mul2 z1 y1 D0 l1, iz_mul2 z2 y2 D0 l2⟩
  exact Nat.le_trans (Nat.mul_le_mul Db Eb) (by rw [← Nat.pow_add]; exact pw_mono (by omega))
theorem two_pow_add (n : Nat) : 2 ^ n + 2 ^ n = 2 ^ (n + 1) := by rw [Nat.pow_succ]; omega
theorem cst_dist (c : Rat) (p q : Pol) : cst c * (p + q) = cst c * p + cst c * q := by grind
theorem cst_dist2 (c : Rat) (p q : Pol) : cst c * (p - q) = cst c * p - cst c * q := by grind
theorem JB.add {b c : Nat} {p q r s : Pol} (h : JB b p q) (g : JB c r s) (l1 : len p ≤ 1000) (l2 : len q ≤ 1000) (l3 : len r ≤ 1000) : JB (b + c + 11) (p * s + r * q) (q * s) ∧ JB (b + c + 11) (p * s - r * q) (q * s) := by
  obtain ⟨D, D0, Db, z1, z2⟩ := h
  obtain ⟨E, E0, Eb, y1, y2⟩ := g
  have dl : D * E ≤ 2 ^ (b + c + 11) := Nat.le_trans (Nat.mul_le_mul Db Eb) (by rw [← Nat.pow_add]; exact pw_mono (by omega))
  have a := iz_mul2 z1 y2 D0 l1
  have a' := iz_mul2 y1 z2 E0 l3
  rw [Nat.mul_comm E D, show c + b + 10 = b + c + 10 by omega] at a'
  have a3 := iz_mul2 z2 y2 D0 l2
  have e := two_pow_add (b + c + 10)
  refine ⟨⟨D * E, Nat.mul_pos D0 E0, dl, ?_, a3.mono (pw_mono (by omega))⟩, ⟨D * E, Nat.mul_pos D0 E0, dl, ?_, a3.mono (pw_mono (by omega))⟩⟩
  · rw [cst_dist]; exact (a.add a').mono (Nat.le_of_eq e)
  · rw [cst_dist2]; exact (a.sub a').mono (Nat.le_of_eq e)
end Pol
end M5

/-! M7m: fractions of polynomials as a field. -/
namespace M7
open PySem PySem.Spec L2 VL M1 M2 M3 M4 M5
theorem div_any {q : Pol} (q0 : q ≠ 0) (p : Pol) : ∃ f r : Pol, p = f * q + r ∧ Pol.len r < Pol.len q := by
  obtain ⟨s, hs⟩ := Pol.pb_any p.1
  obtain ⟨s', hs'⟩ := Pol.pb_any q.1
  obtain ⟨D, D0, _, o⟩ := fb_of hs
  obtain ⟨V, V0, Vb, o1, o2⟩ := fb_lead (fb_of hs') (Pol.lead_ne q0) (Nat.mul_le_mul_left _ (by omega))
  obtain ⟨f, r, e, hr, _⟩ := Pol.div_ex q0 V0 Vb o1 o2 (Pol.len p) p D _ D0 o (by omega)
  exact ⟨f, r, e, hr⟩
theorem eu_end {P Q : Pol} : ∀ (n : Nat) (p q : Pol), Pol.len q ≤ n → Pol.Eu P Q p q → ∃ p', Pol.Eu P Q p' 0
  | 0, p, q, h, e => by
    have : q = 0 := Classical.byContradiction fun z => by have := Pol.len_pos z; omega
    subst this; exact ⟨p, e⟩
  | n + 1, p, q, h, e => by
    by_cases q0 : q = 0
    · subst q0; exact ⟨p, e⟩
    · obtain ⟨f, r, e2, hr⟩ := div_any q0 p
      have := e.step (c := 1) (c' := 1) e2 (by grind)
      rw [show (1 : Pol) * r = r by grind] at this
      exact eu_end n q r (by omega) this
theorem gcd_ex {P Q : Pol} (h : ¬ (P = 0 ∧ Q = 0)) : ∃ g, Pol.Gcd P Q g := by
  obtain ⟨p, e⟩ := eu_end _ P Q (Nat.le_refl _) (Pol.Eu.start P Q)
  have p0 : p ≠ 0 := fun z => h (by subst z; exact e.both)
  exact ⟨_, e.stop p0⟩
/-- a fraction in the told form -/
structure Fra where
  A : Pol
  B : Pol
  top : Pol.lead B = 1
  cop : Pol.Gcd A B 1
namespace Fra
theorem lead0 : Pol.lead 0 = 0 := rfl
theorem lead1 : Pol.lead 1 = 1 := rfl
theorem B0 (x : Fra) : x.B ≠ 0 := fun z => by
  have := x.top
  rw [z, lead0] at this
  exact absurd this (by decide)
theorem ext {x y : Fra} (h1 : x.A = y.A) (h2 : x.B = y.B) : x = y := by
  cases x; cases y
  cases h1; cases h2
  rfl
/-- x is P over Q -/
def Is (x : Fra) (P Q : Pol) : Prop := Q ≠ 0 ∧ x.A * Q = P * x.B
theorem self (x : Fra) : x.Is x.A x.B := ⟨x.B0, rfl⟩
theorem mon_same {p q : Pol} (hp : Pol.lead p = 1) (hq : Pol.lead q = 1) (a b : Pol) (e1 : p = a * q) (e2 : q = b * p) : p = q := by
  have p0 : p ≠ 0 := fun z => by rw [z, lead0] at hp; exact absurd hp (by decide)
  have q0 : q ≠ 0 := fun z => by rw [z, lead0] at hq; exact absurd hq (by decide)
  have a0 : a ≠ 0 := fun z => p0 (by rw [e1, z]; grind)
  have b0 : b ≠ 0 := fun z => q0 (by rw [e2, z]; grind)
  have l1 := Pol.len_mul a0 q0
  have l2 := Pol.len_mul b0 p0
  rw [← e1] at l1
  rw [← e2] at l2
  have := Pol.len_pos a0
  have := Pol.len_pos b0
  have := Pol.len_pos p0
  have := Pol.len_pos q0
  have la := Pol.lead_mul a0 q0
  rw [← e1, hp, hq] at la
  have : a = 1 := by
    rw [Pol.len_one (show Pol.len a = 1 by omega), show Pol.lead a = 1 by grind]; rfl
  rw [e1, this]; grind
theorem cross {x y : Fra} (h : x.A * y.B = y.A * x.B) : x = y := by
  have key : ∀ {x y : Fra}, x.A * y.B = y.A * x.B → ∃ c, y.B = c * x.B := fun {x y} h => by
    obtain ⟨u, v, e⟩ := x.cop.uv
    refine ⟨u * y.A + v * y.B, ?_⟩
    have : y.B = (u * x.A + v * x.B) * y.B := by rw [e]; grind
    grind
  obtain ⟨c, hc⟩ := key h
  obtain ⟨d, hd⟩ := key h.symm
  have eB : x.B = y.B := mon_same x.top y.top d c hd hc
  refine ext ?_ eB
  rw [eB] at h
  exact Pol.eq_of_mul y.B0 h
theorem Is.uniq {x y : Fra} {P Q P' Q' : Pol} (h : x.Is P Q) (g : y.Is P' Q') (e : P * Q' = P' * Q) : x = y := by
  refine cross (Pol.eq_of_mul (Pol.mul_ne h.1 g.1) ?_)
  have h1 := h.2
  have h2 := g.2
  calc x.A * y.B * (Q * Q') = x.A * Q * (y.B * Q') := by grind
    _ = P * Q' * (x.B * y.B) := by rw [h1]; grind
    _ = P' * y.B * (x.B * Q) := by rw [e]; grind
    _ = y.A * x.B * (Q * Q') := by rw [← h2]; grind
theorem Is.ratio {x : Fra} {P Q P' Q' : Pol} (h : x.Is P Q) (q0 : Q' ≠ 0) (e : P * Q' = P' * Q) : x.Is P' Q' := by
  refine ⟨q0, Pol.eq_of_mul h.1 ?_⟩
  have h1 := h.2
  calc x.A * Q' * Q = x.A * Q * Q' := by grind
    _ = P * Q' * x.B := by rw [h1]; grind
    _ = P' * x.B * Q := by rw [e]; grind
/-- from a common factor -/
def ofg (a b g : Pol) (b0 : b ≠ 0) (h : ∃ u v, u * a + v * b = 1) : Fra where
  A := Pol.cst (1 / Pol.lead b) * a
  B := Pol.mon b
  top := Pol.mon_lead b0
  cop := by
    obtain ⟨u, v, e⟩ := h
    have i := Pol.cst_inv (Pol.lead_ne b0)
    refine ⟨lead1, Pol.one_ne, ⟨Pol.cst (1 / Pol.lead b) * a, by grind⟩, ⟨Pol.mon b, by grind⟩, Pol.cst (Pol.lead b) * u, Pol.cst (Pol.lead b) * v, ?_⟩
    unfold Pol.mon
    grind
theorem cof {P Q g a b : Pol} (h : Pol.Gcd P Q g) (e1 : P = a * g) (e2 : Q = b * g) : ∃ u v, u * a + v * b = 1 := by
  obtain ⟨u, v, e⟩ := h.uv
  refine ⟨u, v, Pol.eq_of_mul h.ne ?_⟩
  rw [e1, e2] at e
  grind
theorem ofg_is {P Q g a b : Pol} (b0 : b ≠ 0) (h : ∃ u v, u * a + v * b = 1) (g0 : g ≠ 0) (e1 : P = a * g) (e2 : Q = b * g) : (ofg a b g b0 h).Is P Q := by
  refine ⟨by rw [e2]; exact Pol.mul_ne b0 g0, ?_⟩
  show Pol.cst (1 / Pol.lead b) * a * Q = P * (Pol.cst (1 / Pol.lead b) * b)
  rw [e1, e2]; grind
theorem ex (P : Pol) {Q : Pol} (q0 : Q ≠ 0) : ∃ x : Fra, x.Is P Q := by
  obtain ⟨g, hg⟩ := gcd_ex (P := P) (Q := Q) fun z => q0 z.2
  obtain ⟨a, ea⟩ := hg.a
  obtain ⟨b, eb⟩ := hg.b
  have b0 : b ≠ 0 := fun z => q0 (by rw [eb, z]; grind)
  exact ⟨_, ofg_is b0 (cof hg ea eb) hg.ne ea eb⟩
def poly (P : Pol) : Fra where
  A := P
  B := 1
  top := lead1
  cop := ⟨lead1, Pol.one_ne, ⟨P, by grind⟩, ⟨1, by grind⟩, 0, 1, by grind⟩
open Classical in
noncomputable def tf (P Q : Pol) : Fra := if h : Q ≠ 0 then (ex P h).choose else poly 0
theorem tf_is (P : Pol) {Q : Pol} (q0 : Q ≠ 0) : (tf P Q).Is P Q := by
  unfold tf
  rw [dif_pos q0]
  exact (ex P q0).choose_spec
theorem poly_is (P : Pol) : (poly P).Is P 1 := ⟨Pol.one_ne, rfl⟩
noncomputable instance : Add Fra := ⟨fun x y => tf (x.A * y.B + y.A * x.B) (x.B * y.B)⟩
noncomputable instance : Mul Fra := ⟨fun x y => tf (x.A * y.A) (x.B * y.B)⟩
noncomputable instance : Neg Fra := ⟨fun x => tf (-x.A) x.B⟩
noncomputable instance : Sub Fra := ⟨fun x y => x + -y⟩
noncomputable instance : Inv Fra := ⟨fun x => tf x.B x.A⟩
noncomputable instance : Div Fra := ⟨fun x y => x * y⁻¹⟩
instance : NatCast Fra := ⟨fun n => poly (n : Pol)⟩
instance : IntCast Fra := ⟨fun n => poly (n : Pol)⟩
instance (n : Nat) : OfNat Fra n := ⟨poly (OfNat.ofNat n)⟩
noncomputable instance : SMul Nat Fra := ⟨fun n x => (n : Fra) * x⟩
noncomputable instance : SMul Int Fra := ⟨fun n x => (n : Fra) * x⟩
noncomputable def pow (x : Fra) : Nat → Fra
  | 0 => 1
  | n + 1 => pow x n * x
noncomputable instance : HPow Fra Nat Fra := ⟨pow⟩
noncomputable def zpow (x : Fra) : Int → Fra
  | .ofNat n => pow x n
  | .negSucc n => (pow x (n + 1))⁻¹
noncomputable instance : HPow Fra Int Fra := ⟨zpow⟩
theorem Is.add {x y : Fra} {P Q P' Q' : Pol} (h : x.Is P Q) (g : y.Is P' Q') : (x + y).Is (P * Q' + P' * Q) (Q * Q') := by
  have m : (x + y).Is (x.A * y.B + y.A * x.B) (x.B * y.B) := tf_is _ (Pol.mul_ne x.B0 y.B0)
  refine m.ratio (Pol.mul_ne h.1 g.1) ?_
  have h1 := h.2
  have h2 := g.2
  calc (x.A * y.B + y.A * x.B) * (Q * Q') = x.A * Q * (y.B * Q') + y.A * Q' * (x.B * Q) := by grind
    _ = (P * Q' + P' * Q) * (x.B * y.B) := by rw [h1, h2]; grind
theorem Is.mul {x y : Fra} {P Q P' Q' : Pol} (h : x.Is P Q) (g : y.Is P' Q') : (x * y).Is (P * P') (Q * Q') := by
  have m : (x * y).Is (x.A * y.A) (x.B * y.B) := tf_is _ (Pol.mul_ne x.B0 y.B0)
  refine m.ratio (Pol.mul_ne h.1 g.1) ?_
  have h1 := h.2
  have h2 := g.2
  calc x.A * y.A * (Q * Q') = x.A * Q * (y.A * Q') := by grind
    _ = P * P' * (x.B * y.B) := by rw [h1, h2]; grind
theorem Is.neg {x : Fra} {P Q : Pol} (h : x.Is P Q) : (-x).Is (-P) Q := by
  have m : (-x).Is (-x.A) x.B := tf_is _ x.B0
  refine m.ratio h.1 ?_
  have h1 := h.2
  grind
theorem Is.sub {x y : Fra} {P Q P' Q' : Pol} (h : x.Is P Q) (g : y.Is P' Q') : (x - y).Is (P * Q' - P' * Q) (Q * Q') := by
  have := h.add g.neg
  rw [show P * Q' + -P' * Q = P * Q' - P' * Q by grind] at this
  exact this
theorem Is.inv {x : Fra} {P Q : Pol} (h : x.Is P Q) (p0 : P ≠ 0) : (x⁻¹).Is Q P := by
  have h1 := h.2
  have a0 : x.A ≠ 0 := fun z => by
    rw [z] at h1
    exact Pol.mul_ne p0 x.B0 (by rw [← h1]; grind)
  have m : (x⁻¹).Is x.B x.A := tf_is _ a0
  refine m.ratio p0 ?_
  grind
theorem Is.div {x y : Fra} {P Q P' Q' : Pol} (h : x.Is P Q) (g : y.Is P' Q') (p0 : P' ≠ 0) : (x / y).Is (P * Q') (Q * P') := h.mul (g.inv p0)
theorem Is.zero {x : Fra} {P Q : Pol} (h : x.Is P Q) (e : P = 0) : x = 0 := by
  refine h.uniq (poly_is 0) ?_
  rw [e]; grind
theorem zero_is : (0 : Fra).Is 0 1 := poly_is 0
theorem one_is : (1 : Fra).Is 1 1 := poly_is 1
theorem ofNat_add (n : Nat) : ((OfNat.ofNat (n + 1) : Pol)) = OfNat.ofNat n + 1 := Lean.Grind.Semiring.ofNat_succ n
theorem A0_iff {x : Fra} : x.A = 0 ↔ x = 0 := ⟨fun h => x.self.zero h, fun h => by rw [h]; rfl⟩
noncomputable instance : Lean.Grind.CommRing Fra where
  nsmul := inferInstance
  zsmul := inferInstance
  npow := inferInstance
  natCast := inferInstance
  intCast := inferInstance
  ofNat := inferInstance
  add_zero a := (a.self.add zero_is).uniq a.self (by grind)
  add_comm a b := (a.self.add b.self).uniq (b.self.add a.self) (by grind)
  add_assoc a b c := ((a.self.add b.self).add c.self).uniq (a.self.add (b.self.add c.self)) (by grind)
  mul_assoc a b c := ((a.self.mul b.self).mul c.self).uniq (a.self.mul (b.self.mul c.self)) (by grind)
  mul_one a := (a.self.mul one_is).uniq a.self (by grind)
  one_mul a := (one_is.mul a.self).uniq a.self (by grind)
  left_distrib a b c := (a.self.mul (b.self.add c.self)).uniq ((a.self.mul b.self).add (a.self.mul c.self)) (by grind)
  right_distrib a b c := ((a.self.add b.self).mul c.self).uniq ((a.self.mul c.self).add (b.self.mul c.self)) (by grind)
  zero_mul a := (zero_is.mul a.self).uniq zero_is (by grind)
  mul_zero a := (a.self.mul zero_is).uniq zero_is (by grind)
  pow_zero a := rfl
  pow_succ a n := rfl
  ofNat_succ n := (poly_is _).uniq ((poly_is _).add one_is) (by
    rw [ofNat_add]; grind)
  neg_add_cancel a := (a.self.neg.add a.self).uniq zero_is (by grind)
  sub_eq_add_neg a b := rfl
  neg_zsmul i a := ((poly_is _).mul a.self).uniq (((poly_is _).mul a.self).neg) (by
    rw [Lean.Grind.Ring.intCast_neg]; grind)
  intCast_neg i := (poly_is _).uniq (poly_is _).neg (by
    rw [Lean.Grind.Ring.intCast_neg])
  mul_comm a b := (a.self.mul b.self).uniq (b.self.mul a.self) (by grind)
theorem inv_zero' : (0 : Fra)⁻¹ = 0 := by
  show tf (1 : Pol) 0 = poly 0
  unfold tf
  rw [dif_neg (fun h => h rfl)]
theorem mul_inv' {a : Fra} (h : a ≠ 0) : a * a⁻¹ = 1 := by
  have a0 : a.A ≠ 0 := fun z => h (A0_iff.mp z)
  exact (a.self.mul (a.self.inv a0)).uniq one_is (by grind)
theorem one_ne' : (0 : Fra) ≠ 1 := fun h => Pol.one_ne (congrArg A h).symm
theorem inv_inv' (a : Fra) : a⁻¹⁻¹ = a := by
  by_cases h : a = 0
  · rw [h, inv_zero', inv_zero']
  · have a0 : a.A ≠ 0 := fun z => h (A0_iff.mp z)
    exact ((a.self.inv a0).inv a.B0).uniq a.self rfl
theorem inv_one' : (1 : Fra)⁻¹ = 1 := by
  have := mul_inv' (a := 1) (fun h => one_ne' h.symm)
  grind
noncomputable instance : Lean.Grind.Field Fra where
  zpow := inferInstance
  div_eq_mul_inv a b := rfl
  zero_ne_one := one_ne'
  inv_zero := inv_zero'
  mul_inv_cancel h := mul_inv' h
  zpow_zero a := rfl
  zpow_succ a n := rfl
  zpow_neg a n := by
    show zpow a (-n) = (zpow a n)⁻¹
    match n with
    | .ofNat 0 => exact inv_one'.symm
    | .ofNat (n + 1) => rfl
    | .negSucc n => exact (inv_inv' _).symm
end Fra
/-! ### slopes and moves -/
namespace P
abbrev X : Pol := Pol.mono 1 1
theorem co_X_mul (q : Pol) (t : Nat) : co (X * q).1 t = if 1 ≤ t then co q.1 (t - 1) else 0 := by
  rw [Pol.co_mono_mul]
  split
  · grind
  · rfl
theorem co_cst (a : Rat) (t : Nat) : co (Pol.cst a).1 t = if t = 0 then a else 0 := by
  show co (trim [a]) t = _
  rw [trim_co]
  cases t with
  | zero => rfl
  | succ t => rw [co_succ, co_nil, if_neg (by omega)]
theorem cons_eq {a : Rat} {l : List Rat} (h : IsT (a :: l)) : Pol.of (a :: l) h = Pol.cst a + X * Pol.of (trim l) (trim_isT l) := Pol.co_ext fun t => by
  rw [Pol.co_add, co_cst, co_X_mul]
  show co (a :: l) t = (if t = 0 then a else 0) + (if 1 ≤ t then co (trim l) (t - 1) else 0)
  rw [trim_co]
  cases t with
  | zero => rw [co_zero, if_pos rfl, if_neg (by omega)]; grind
  | succ t => rw [co_succ, if_neg (by omega), if_pos (by omega), Nat.add_sub_cancel]; grind
theorem ind {C : Pol → Prop} (h0 : C 0) (h1 : ∀ a p, C p → C (Pol.cst a + X * p)) : ∀ p, C p := by
  have : ∀ (n : Nat) (p : Pol), p.1.length ≤ n → C p := fun n => by
    induction n with
    | zero =>
      intro p hp
      have : p = 0 := Pol.nil_iff.mp (List.length_eq_zero_iff.mp (by omega))
      rw [this]; exact h0
    | succ n ih =>
      intro p hp
      obtain ⟨l, hl⟩ := p
      cases l with
      | nil => exact h0
      | cons a l =>
        have e := cons_eq hl
        show C (Pol.of (a :: l) hl)
        rw [e]
        refine h1 a _ (ih _ ?_)
        have := trim_le l
        have hp : l.length + 1 ≤ n + 1 := hp
        show (trim l).length ≤ n
        omega
  exact fun p => this _ p (Nat.le_refl _)
/-- the slope -/
def D (p : Pol) : Pol := ⟨slope p.1, mk_isT _ _⟩
theorem co_D (p : Pol) (t : Nat) : co (D p).1 t = ((t + 1 : Nat) : Rat) * co p.1 (t + 1) := by
  show co (slope p.1) t = _
  unfold slope
  rw [mk_co]
  split
  · rfl
  · rw [co_out (show p.1.length ≤ t + 1 by omega), Rat.mul_zero]
theorem len_D (p : Pol) : Pol.len (D p) ≤ Pol.len p - 1 := mk_len _ _
theorem D_add (p q : Pol) : D (p + q) = D p + D q := Pol.co_ext fun t => by
  rw [co_D, Pol.co_add, Pol.co_add, co_D, co_D]; grind
theorem D_cst (a : Rat) : D (Pol.cst a) = 0 := Pol.co_ext fun t => by
  rw [co_D, co_cst, if_neg (by omega), Pol.co_far (p := 0) (by rw [Pol.len_zero]; omega), Rat.mul_zero]
theorem D_cst_mul (a : Rat) (p : Pol) : D (Pol.cst a * p) = Pol.cst a * D p := Pol.co_ext fun t => by
  rw [co_D, Pol.co_cst_mul, Pol.co_cst_mul, co_D]; grind
theorem D_X (p : Pol) : D (X * p) = p + X * D p := Pol.co_ext fun t => by
  rw [co_D, co_X_mul, if_pos (by omega), Nat.add_sub_cancel, Pol.co_add, co_X_mul]
  cases t with
  | zero => rw [if_neg (by omega)]; grind
  | succ t =>
    rw [if_pos (by omega), Nat.add_sub_cancel, co_D, Rat.natCast_add]; grind
theorem D_zero : D 0 = 0 := rfl
theorem D_mul (p q : Pol) : D (p * q) = D p * q + p * D q := by
  revert p
  refine ind ?_ fun a p ih => ?_
  · rw [show (0 : Pol) * q = 0 by grind, D_zero]; grind
  · have e : (Pol.cst a + X * p) * q = Pol.cst a * q + X * (p * q) := by grind
    rw [e, D_add, D_add, D_cst_mul, D_X, D_X, ih, D_cst]; grind
theorem D_neg (p : Pol) : D (-p) = -D p := Pol.co_ext fun t => by
  rw [co_D, Pol.co_neg, Pol.co_neg, co_D]; grind
theorem D_sub (p q : Pol) : D (p - q) = D p - D q := Pol.co_ext fun t => by
  rw [co_D, Pol.co_sub, Pol.co_sub, co_D, co_D]; grind
theorem D_one : D 1 = 0 := D_cst 1
/-- x + c for x -/
def sh (c : Rat) (p : Pol) : Pol := ⟨mv c p.1, mv_isT c p.1⟩
theorem ev_sh (c : Rat) (p : Pol) (x : Rat) : Pol.ev (sh c p) x = Pol.ev p (x + c) := ev_mv c x p.1
theorem sh_add (c : Rat) (p q : Pol) : sh c (p + q) = sh c p + sh c q := Pol.ext fun x => by
  rw [ev_sh, Pol.ev_add, Pol.ev_add, ev_sh, ev_sh]
theorem sh_mul (c : Rat) (p q : Pol) : sh c (p * q) = sh c p * sh c q := Pol.ext fun x => by
  rw [ev_sh, Pol.ev_mul, Pol.ev_mul, ev_sh, ev_sh]
theorem sh_sub (c : Rat) (p q : Pol) : sh c (p - q) = sh c p - sh c q := Pol.ext fun x => by
  rw [ev_sh, Pol.ev_sub, Pol.ev_sub, ev_sh, ev_sh]
theorem sh_cst (c a : Rat) : sh c (Pol.cst a) = Pol.cst a := Pol.ext fun x => by
  rw [ev_sh, Pol.ev_cst, Pol.ev_cst]
theorem sh_one (c : Rat) : sh c 1 = 1 := sh_cst c 1
theorem sh_zero (c : Rat) : sh c 0 = 0 := rfl
theorem ev_X (x : Rat) : Pol.ev X x = x := by
  show M4.ev (M2.mk 2 fun k => if k = 1 then 1 else 0) x = x
  rw [ev_mk]
  show 0 + (if 0 = 1 then (1 : Rat) else 0) * x ^ 0 + (if 1 = 1 then (1 : Rat) else 0) * x ^ 1 = x
  rw [if_neg (by decide), if_pos rfl]; grind
theorem sh_X (c : Rat) : sh c X = X + Pol.cst c := Pol.ext fun x => by
  rw [ev_sh, Pol.ev_add, Pol.ev_cst, ev_X, ev_X]
theorem len_sh (c : Rat) (p : Pol) : Pol.len (sh c p) = Pol.len p := mv_len c p.1 p.2
theorem D_sh (c : Rat) (p : Pol) : D (sh c p) = sh c (D p) := by
  revert p
  refine ind rfl fun a p ih => ?_
  rw [sh_add, sh_mul, sh_cst, sh_X, D_add, D_add, D_cst, D_X, sh_add, sh_add, sh_mul, sh_X, ← ih]
  have e : (X + Pol.cst c) * sh c p = X * sh c p + Pol.cst c * sh c p := by grind
  rw [e, D_add, D_X, D_cst_mul, show sh c 0 = 0 from rfl]
  grind
theorem len_X : Pol.len X = 2 := by decide +kernel
theorem lead_X : Pol.lead X = 1 := by decide +kernel
theorem lead_sh (c : Rat) (p : Pol) : Pol.lead (sh c p) = Pol.lead p := by
  revert p
  refine ind rfl fun a p ih => ?_
  rw [sh_add, sh_mul, sh_cst, sh_X]
  by_cases h : p = 0
  · subst h
    rw [show sh c 0 = 0 from rfl, show (X + Pol.cst c) * 0 = (0 : Pol) by grind, show X * (0 : Pol) = 0 by grind]
  · have X0 : X ≠ 0 := fun z => by have := len_X; rw [z, Pol.len_zero] at this; omega
    have lc : Pol.len (Pol.cst a) ≤ 1 := trim_le [a]
    have lc2 : Pol.len (-Pol.cst c) ≤ 1 := by rw [Pol.len_neg]; exact trim_le [c]
    have key : ∀ (y q : Pol), y ≠ 0 → Pol.len y = 2 → Pol.lead y = 1 → q ≠ 0 → Pol.lead (Pol.cst a + y * q) = Pol.lead q := fun y q y0 ly ty q0 => by
      have l1 := Pol.len_mul y0 q0
      have := Pol.len_pos q0
      have e : Pol.cst a + y * q = y * q - (-Pol.cst a) := by grind
      rw [e, (Pol.len_sub_lt (by rw [Pol.len_neg]; omega)).2, Pol.lead_mul y0 q0, ty]; grind
    have hs : sh c p ≠ 0 := fun z => by
      have := len_sh c p
      rw [z, Pol.len_zero] at this
      have := Pol.len_pos h
      omega
    have exc : X + Pol.cst c = X - (-Pol.cst c) := by grind
    have l2 := Pol.len_sub_lt (p := X) (q := -Pol.cst c) (by rw [len_X]; omega)
    rw [← exc, len_X, lead_X] at l2
    rw [key _ _ (fun z => by rw [z, Pol.len_zero] at l2; omega) l2.1 l2.2 hs, key _ _ X0 len_X lead_X h, ih]
end P
namespace Fra
noncomputable def D (x : Fra) : Fra := tf (P.D x.A * x.B - x.A * P.D x.B) (x.B * x.B)
theorem D_is (x : Fra) : (D x).Is (P.D x.A * x.B - x.A * P.D x.B) (x.B * x.B) := tf_is _ (Pol.mul_ne x.B0 x.B0)
theorem Is.D {x : Fra} {A B : Pol} (h : x.Is A B) : (Fra.D x).Is (P.D A * B - A * P.D B) (B * B) := by
  refine x.D_is.ratio (Pol.mul_ne h.1 h.1) ?_
  have e := h.2
  have d := congrArg P.D e
  rw [P.D_mul, P.D_mul] at d
  have key : (P.D x.A * x.B - x.A * P.D x.B) * (B * B) = (P.D A * B - A * P.D B) * (x.B * x.B) := by
    have a1 : (P.D x.A * x.B - x.A * P.D x.B) * (B * B) = P.D x.A * B * (x.B * B) - x.A * B * (P.D x.B * B) := by grind
    have a2 : P.D x.A * B = P.D A * x.B + A * P.D x.B - x.A * P.D B := by grind
    rw [a1, a2, e]
    have a3 : x.A * P.D B * (x.B * B) = x.A * B * (P.D B * x.B) := by grind
    have a4 : (P.D A * x.B + A * P.D x.B - x.A * P.D B) * (x.B * B) = P.D A * x.B * (x.B * B) + A * P.D x.B * (x.B * B) - x.A * P.D B * (x.B * B) := by grind
    rw [a4, a3, e]
    grind
  exact key
theorem D_add (x y : Fra) : D (x + y) = D x + D y := by
  refine ((x.self.add y.self).D).uniq (x.self.D.add y.self.D) ?_
  rw [P.D_add, P.D_mul, P.D_mul, P.D_mul]; grind
theorem D_mul (x y : Fra) : D (x * y) = D x * y + x * D y := by
  refine ((x.self.mul y.self).D).uniq ((x.self.D.mul y.self).add (x.self.mul y.self.D)) ?_
  rw [P.D_mul, P.D_mul]; grind
theorem D_sub (x y : Fra) : D (x - y) = D x - D y := by
  refine ((x.self.sub y.self).D).uniq (x.self.D.sub y.self.D) ?_
  rw [P.D_sub, P.D_mul, P.D_mul, P.D_mul]; grind
theorem D_zero : D 0 = 0 := (zero_is.D).uniq zero_is (by rw [P.D_zero, P.D_one]; grind)
theorem D_div (x : Fra) {y : Fra} (h : y ≠ 0) : D (x / y) = (D x * y - x * D y) / (y * y) := by
  have y0 : y.A ≠ 0 := fun z => h (A0_iff.mp z)
  have e : x / y * y = x := by
    have := mul_inv' h
    show x * y⁻¹ * y = x
    grind
  have d := congrArg D e
  rw [D_mul] at d
  have i := mul_inv' h
  show D (x * y⁻¹) = (D x * y - x * D y) * (y * y)⁻¹
  have yy : y * y ≠ 0 := fun z => h (by
    have : y * y * y⁻¹ = y := by grind
    rw [z] at this
    grind)
  have i2 := mul_inv' yy
  have d : D (x * y⁻¹) * y + x * y⁻¹ * D y = D x := d
  grind
def sh (c : Rat) (x : Fra) : Fra where
  A := P.sh c x.A
  B := P.sh c x.B
  top := by rw [P.lead_sh]; exact x.top
  cop := by
    obtain ⟨u, v, e⟩ := x.cop.uv
    refine ⟨lead1, Pol.one_ne, ⟨P.sh c x.A, by grind⟩, ⟨P.sh c x.B, by grind⟩, P.sh c u, P.sh c v, ?_⟩
    rw [← P.sh_mul, ← P.sh_mul, ← P.sh_add, e, P.sh_one]
theorem D_shf (c : Rat) (x : Fra) : D (sh c x) = sh c (D x) := by
  have h := x.D_is
  have h2 : (sh c (D x)).Is (P.sh c (P.D x.A * x.B - x.A * P.D x.B)) (P.sh c (x.B * x.B)) := by
    refine ⟨fun z => ?_, ?_⟩
    · have := P.len_sh c (x.B * x.B)
      rw [z, Pol.len_zero] at this
      have := Pol.len_pos (Pol.mul_ne x.B0 x.B0)
      omega
    · show P.sh c (D x).A * _ = _ * P.sh c (D x).B
      rw [← P.sh_mul, h.2, P.sh_mul]
  refine (sh c x).D_is.uniq h2 ?_
  show (P.D (P.sh c x.A) * P.sh c x.B - P.sh c x.A * P.D (P.sh c x.B)) * _ = _ * (P.sh c x.B * P.sh c x.B)
  rw [P.D_sh, P.D_sh, P.sh_sub, P.sh_mul, P.sh_mul, P.sh_mul]
end Fra
namespace Pol
end Pol
/-! ### sizes -/
theorem iz_D {K : Nat} {p : Pol} (h : Pol.IZ K p) (hl : Pol.len p ≤ 1000) : Pol.IZ (2 ^ 10 * K) (P.D p) := fun t => by
  obtain ⟨n, e, l⟩ := h (t + 1)
  rw [P.co_D, e]
  rcases Nat.lt_or_ge (t + 1) (Pol.len p) with g | g
  · refine ⟨(t + 1 : Nat) * n, by rw [Rat.intCast_mul, Rat.intCast_natCast], ?_⟩
    rw [Int.natAbs_mul]
    exact Nat.mul_le_mul (show t + 1 ≤ 2 ^ 10 by omega) l
  · rw [Pol.co_far g] at e
    exact ⟨0, by rw [← e, Rat.mul_zero]; rfl, Nat.zero_le _⟩
theorem nzD {D : Nat} (D0 : 0 < D) : (D : Rat) ≠ 0 := fun z => by
  have : D = 0 := by exact_mod_cast z
  omega
theorem jb_D {b : Nat} {A B : Pol} (h : Pol.JB b A B) (l1 : Pol.len A ≤ 1000) (l2 : Pol.len B ≤ 1000) : Pol.JB (2 * b + 21) (P.D A * B - A * P.D B) (B * B) := by
  obtain ⟨D, D0, Db, z1, z2⟩ := h
  have cD := nzD D0
  have d1 : Pol.IZ (2 ^ (b + 10)) (Pol.cst D * P.D A) := by
    rw [← P.D_cst_mul]
    exact (iz_D z1 (by rw [Pol.len_cst_mul cD]; exact l1)).mono (Nat.le_of_eq (by rw [Nat.mul_comm, ← Nat.pow_add]))
  have d2 : Pol.IZ (2 ^ (b + 10)) (Pol.cst D * P.D B) := by
    rw [← P.D_cst_mul]
    exact (iz_D z2 (by rw [Pol.len_cst_mul cD]; exact l2)).mono (Nat.le_of_eq (by rw [Nat.mul_comm, ← Nat.pow_add]))
  have lD := P.len_D A
  have m1 := Pol.iz_mul2 d1 z2 D0 (by omega)
  have m2 := Pol.iz_mul2 z1 d2 D0 l1
  have m3 := Pol.iz_mul2 z2 z2 D0 l2
  rw [show b + 10 + b + 10 = 2 * b + 20 by omega] at m1
  rw [show b + (b + 10) + 10 = 2 * b + 20 by omega] at m2
  refine ⟨D * D, Nat.mul_pos D0 D0, Nat.le_trans (Nat.mul_le_mul Db Db) (by rw [← Nat.pow_add]; exact pw_mono (by omega)), ?_, m3.mono (pw_mono (by omega))⟩
  rw [Pol.cst_dist2]
  exact (m1.sub m2).mono (Nat.le_of_eq (Pol.two_pow_add _))
theorem den_mul (c : Rat) : (c.den : Rat) * c = c.num := by
  have h := Rat.num_divInt_den c
  rw [Rat.divInt_eq_div, Rat.intCast_natCast] at h
  have d := nzD c.den_pos
  have : (c.den : Rat) * ((c.num : Rat) / (c.den : Rat)) = c.num := by grind
  rw [h] at this
  exact this
theorem rpow_add (x : Rat) (m : Nat) : ∀ n : Nat, x ^ (m + n) = x ^ m * x ^ n
  | 0 => by rw [Nat.add_zero, Rat.pow_zero, Rat.mul_one]
  | n + 1 => by rw [← Nat.add_assoc, Rat.pow_succ, Rat.pow_succ, rpow_add x m n]; grind
theorem mv_int {c : Rat} {s K : Nat} (hc : RB' s c) : ∀ l : List Rat, (∀ k, ∃ n : Int, co l k = n ∧ n.natAbs ≤ K) → ∀ k, ∃ n : Int, (c.den : Rat) ^ l.length * co (mv c l) k = n ∧ n.natAbs ≤ K * 2 ^ ((s + 2) * l.length)
  | [], _, k => ⟨0, by
    unfold mv
    rw [co_nil, Rat.mul_zero]; rfl, Nat.zero_le _⟩
  | a :: l, h, k => by
    have ih := mv_int hc l fun k => by
      have := h (k + 1)
      rw [co_succ] at this
      exact this
    obtain ⟨m, em, lm⟩ := h 0
    rw [co_zero] at em
    have main : co (mv c (a :: l)) k = co (mv c l) k * c + (if 1 ≤ k then co (mv c l) (k - 1) else 0) + (if k = 0 then a else 0) := by
      show co (padd _ _) k = _
      rw [co_padd, co_pmul, cv_lin, trim_co]
      congr 1
      · congr 1
        · split
          · rfl
          · rw [co_out (show (mv c l).length ≤ k by omega), Rat.zero_mul]
        · by_cases g : 1 ≤ k
          · rw [if_pos g]
            split
            · rfl
            · rw [co_out (show (mv c l).length ≤ k - 1 by omega)]
          · rw [if_neg g, if_neg (by omega)]
      · cases k with
        | zero => rfl
        | succ k => rw [co_succ, co_nil, if_neg (by omega)]
    obtain ⟨x, ex, lx⟩ := ih k
    obtain ⟨y, ey, ly⟩ := ih (k - 1)
    have dc : (c.den : Rat) * c = c.num := den_mul c
    obtain ⟨W, hW⟩ : ∃ W, W = K * 2 ^ ((s + 2) * l.length) := ⟨_, rfl⟩
    rw [← hW] at lx ly
    have hs1 : c.num.natAbs ≤ 2 ^ s := Nat.le_of_lt hc.1
    have hs2 : c.den ≤ 2 ^ s := Nat.le_of_lt hc.2
    have dp : c.den ^ (l.length + 1) ≤ 2 ^ ((s + 2) * l.length) * 2 ^ s := by
      have h1 : c.den ^ (l.length + 1) ≤ (2 ^ s) ^ (l.length + 1) := Nat.pow_le_pow_left hs2 _
      rw [← Nat.pow_mul] at h1
      refine Nat.le_trans h1 ?_
      rw [← Nat.pow_add]
      refine pw_mono ?_
      rw [Nat.mul_succ]
      exact Nat.add_le_add_right (Nat.mul_le_mul_right _ (by omega)) _
    refine ⟨x * c.num + (if 1 ≤ k then c.den * y else 0) + (if k = 0 then (c.den : Int) ^ (l.length + 1) * m else 0), ?_, ?_⟩
    · rw [main, List.length_cons, Rat.pow_succ, Rat.intCast_add, Rat.intCast_add, Rat.intCast_mul, ← ex]
      have t1 : (((if 1 ≤ k then (c.den : Int) * y else 0 : Int)) : Rat) = (c.den : Rat) * ((c.den : Rat) ^ l.length * (if 1 ≤ k then co (mv c l) (k - 1) else 0)) := by
        by_cases g : 1 ≤ k
        · rw [if_pos g, if_pos g, ey, Rat.intCast_mul, Rat.intCast_natCast]
        · rw [if_neg g, if_neg g, Rat.mul_zero, Rat.mul_zero]; rfl
      have t2 : (((if k = 0 then (c.den : Int) ^ (l.length + 1) * m else 0 : Int)) : Rat) = (c.den : Rat) ^ l.length * (c.den : Rat) * (if k = 0 then a else 0) := by
        by_cases g : k = 0
        · rw [if_pos g, if_pos g, em, Rat.intCast_mul, Rat.intCast_pow, Rat.intCast_natCast, Rat.pow_succ]
        · rw [if_neg g, if_neg g, Rat.mul_zero]; rfl
      rw [t1, t2, ← dc]
      grind
    · have e4 : K * 2 ^ ((s + 2) * (a :: l).length) = 4 * (W * 2 ^ s) := by
        rw [List.length_cons, Nat.mul_succ, Nat.pow_add, Nat.pow_add, hW]
        have : (2 : Nat) ^ 2 = 4 := rfl
        rw [this]
        grind
      rw [e4]
      have b1 : (x * c.num).natAbs ≤ W * 2 ^ s := by rw [Int.natAbs_mul]; exact Nat.mul_le_mul lx hs1
      have b2 : (if 1 ≤ k then (c.den : Int) * y else 0 : Int).natAbs ≤ W * 2 ^ s := by
        split
        · rw [Int.natAbs_mul, Nat.mul_comm]; exact Nat.mul_le_mul ly (by simpa using hs2)
        · exact Nat.zero_le _
      have b3 : (if k = 0 then (c.den : Int) ^ (l.length + 1) * m else 0 : Int).natAbs ≤ W * 2 ^ s := by
        split
        · rw [Int.natAbs_mul, Int.natAbs_pow, Nat.mul_comm, hW, Nat.mul_assoc]
          exact Nat.mul_le_mul lm (by simpa using dp)
        · exact Nat.zero_le _
      have h5 := Int.natAbs_add_le (x * c.num + (if 1 ≤ k then (c.den : Int) * y else 0)) (if k = 0 then (c.den : Int) ^ (l.length + 1) * m else 0)
      have h6 := Int.natAbs_add_le (x * c.num) (if 1 ≤ k then (c.den : Int) * y else 0)
      omega
theorem jb_sh {b s n : Nat} {A B : Pol} {c : Rat} (h : Pol.JB b A B) (hc : RB' s c) (l1 : Pol.len A ≤ n) (l2 : Pol.len B ≤ n) : Pol.JB (b + (s + 2) * n) (P.sh c A) (P.sh c B) := by
  obtain ⟨D, D0, Db, z1, z2⟩ := h
  have cD := nzD D0
  have dp := c.den_pos
  have vs : ∀ k, c.den ^ k ≤ 2 ^ (s * k) := fun k => by
    rw [Nat.pow_mul]; exact Nat.pow_le_pow_left (Nat.le_of_lt hc.2) k
  have one : ∀ {A : Pol}, Pol.len A ≤ n → Pol.IZ (2 ^ b) (Pol.cst D * A) → Pol.IZ (2 ^ (b + (s + 2) * n)) (Pol.cst (D * c.den ^ n : Nat) * P.sh c A) := fun {A} hl z => by
    have hm := mv_int hc (Pol.cst D * A).1 z
    have le : (Pol.cst D * A).1.length = Pol.len A := Pol.len_cst_mul cD A
    rw [le] at hm
    intro k
    obtain ⟨m, em, lm⟩ := hm k
    have e1 : co (mv c (Pol.cst D * A).1) k = D * co (P.sh c A).1 k := by
      have : P.sh c (Pol.cst D * A) = Pol.cst D * P.sh c A := by rw [P.sh_mul, P.sh_cst]
      have h2 := congrArg (fun z : Pol => co z.1 k) this
      exact h2.trans (Pol.co_cst_mul _ _ _)
    rw [e1] at em
    refine ⟨(c.den : Int) ^ (n - Pol.len A) * m, ?_, ?_⟩
    · rw [Pol.co_cst_mul, Rat.intCast_mul, ← em, Rat.intCast_pow, Rat.intCast_natCast, Rat.natCast_mul, Rat.natCast_pow]
      have : (c.den : Rat) ^ n = (c.den : Rat) ^ (n - Pol.len A) * (c.den : Rat) ^ (Pol.len A) := by
        rw [← rpow_add]; congr 1; omega
      rw [this]; grind
    · rw [Int.natAbs_mul, Int.natAbs_pow]
      have h3 : (c.den : Int).natAbs ^ (n - Pol.len A) ≤ 2 ^ ((s + 2) * (n - Pol.len A)) := Nat.le_trans (by simpa using vs (n - Pol.len A)) (pw_mono (Nat.mul_le_mul_right _ (by omega)))
      refine Nat.le_trans (Nat.mul_le_mul h3 lm) ?_
      rw [← Nat.pow_add, ← Nat.pow_add]
      refine pw_mono ?_
      have : (s + 2) * n = (s + 2) * (n - Pol.len A) + (s + 2) * Pol.len A := by rw [← Nat.mul_add]; congr 1; omega
      omega
  refine ⟨D * c.den ^ n, Nat.mul_pos D0 (Nat.pow_pos dp), ?_, one l1 z1, one l2 z2⟩
  rw [Nat.pow_add]
  exact Nat.mul_le_mul Db (Nat.le_trans (vs n) (pw_mono (Nat.mul_le_mul_right _ (by omega))))
theorem ev_co (p : Pol) (c : Rat) : Pol.ev p c = co (P.sh c p).1 0 := by
  have h := P.ev_sh c p 0
  rw [show (0 : Rat) + c = c by grind] at h
  rw [← h]
  have : ∀ l : List Rat, M4.ev l 0 = co l 0 := fun l => by
    cases l with
    | nil => rfl
    | cons a l =>
      show a + 0 * M4.ev l 0 = a
      grind
  exact this _
end M7

/-! M7: fractions of polynomials. -/
namespace M7
open PySem PySem.Spec L2 VL M1 M2 M3 M4 M5 M6
abbrev f_fraction : Nat := 70
abbrev f_f_poly : Nat := 71
abbrev f_f_number : Nat := 72
abbrev f_f_plus : Nat := 73
abbrev f_f_minus : Nat := 74
abbrev f_f_times : Nat := 75
abbrev f_f_over : Nat := 76
abbrev f_f_slope : Nat := 77
abbrev f_f_at : Nat := 78
abbrev f_f_moved : Nat := 79
/-- fraction: 0 top, 1 bottom, 2 shared, 3 scale -/
def b_fraction : Ss := ss [.ite (.cmp .eq (.var 0) (.tup .nil)) (ss [.ret (.glo (.tup [.tup [], .tup [.tup [.int 1, .int 1]]]))]) (ss []),
  .asg 2 (.call f_common (.cons (.var 0) (.cons (.var 1) .nil))),
  .asg 0 (.ix (.call f_p_split (.cons (.var 0) (.cons (.var 2) .nil))) (.int 0)),
  .asg 1 (.ix (.call f_p_split (.cons (.var 1) (.cons (.var 2) .nil))) (.int 0)),
  .asg 3 (.call f_over (.cons (.glo (.tup [.int 1, .int 1])) (.cons (.ix (.var 1) (.neg (.int 1))) .nil))),
  .ret (.tup (.cons (.call f_p_scaled (.cons (.var 0) (.cons (.var 3) .nil))) (.cons (.call f_p_scaled (.cons (.var 1) (.cons (.var 3) .nil))) .nil)))]
/-- f_poly: 0 P -/
def b_f_poly : Ss := ss [.ret (.tup (.cons (.var 0) (.cons (.glo (.tup [.tup [.int 1, .int 1]])) .nil)))]
/-- f_number: 0 c -/
def b_f_number : Ss := ss [.ret (.tup (.cons (.call f_poly (.cons (.lst (.cons (.var 0) .nil)) .nil)) (.cons (.glo (.tup [.tup [.int 1, .int 1]])) .nil)))]
/-- f_plus: 0 F, 1 G, 2 top -/
def b_f_plus : Ss := ss [.asg 2 (.call f_p_plus (.cons (.call f_p_times (.cons (.ix (.var 0) (.int 0)) (.cons (.ix (.var 1) (.int 1)) .nil))) (.cons (.call f_p_times (.cons (.ix (.var 1) (.int 0)) (.cons (.ix (.var 0) (.int 1)) .nil))) .nil))),
  .ret (.call f_fraction (.cons (.var 2) (.cons (.call f_p_times (.cons (.ix (.var 0) (.int 1)) (.cons (.ix (.var 1) (.int 1)) .nil))) .nil)))]
/-- f_minus: 0 F, 1 G, 2 top -/
def b_f_minus : Ss := ss [.asg 2 (.call f_p_minus (.cons (.call f_p_times (.cons (.ix (.var 0) (.int 0)) (.cons (.ix (.var 1) (.int 1)) .nil))) (.cons (.call f_p_times (.cons (.ix (.var 1) (.int 0)) (.cons (.ix (.var 0) (.int 1)) .nil))) .nil))),
  .ret (.call f_fraction (.cons (.var 2) (.cons (.call f_p_times (.cons (.ix (.var 0) (.int 1)) (.cons (.ix (.var 1) (.int 1)) .nil))) .nil)))]
/-- f_times: 0 F, 1 G -/
def b_f_times : Ss := ss [.ret (.call f_fraction (.cons (.call f_p_times (.cons (.ix (.var 0) (.int 0)) (.cons (.ix (.var 1) (.int 0)) .nil))) (.cons (.call f_p_times (.cons (.ix (.var 0) (.int 1)) (.cons (.ix (.var 1) (.int 1)) .nil))) .nil)))]
/-- f_over: 0 F, 1 G -/
def b_f_over : Ss := ss [.ret (.call f_fraction (.cons (.call f_p_times (.cons (.ix (.var 0) (.int 0)) (.cons (.ix (.var 1) (.int 1)) .nil))) (.cons (.call f_p_times (.cons (.ix (.var 0) (.int 1)) (.cons (.ix (.var 1) (.int 0)) .nil))) .nil)))]
/-- f_slope: 0 F, 1 top -/
def b_f_slope : Ss := ss [.asg 1 (.call f_p_minus (.cons (.call f_p_times (.cons (.call f_p_slope (.cons (.ix (.var 0) (.int 0)) .nil)) (.cons (.ix (.var 0) (.int 1)) .nil))) (.cons (.call f_p_times (.cons (.ix (.var 0) (.int 0)) (.cons (.call f_p_slope (.cons (.ix (.var 0) (.int 1)) .nil)) .nil))) .nil))),
  .ret (.call f_fraction (.cons (.var 1) (.cons (.call f_p_times (.cons (.ix (.var 0) (.int 1)) (.cons (.ix (.var 0) (.int 1)) .nil))) .nil)))]
/-- f_at: 0 F, 1 c, 2 bottom -/
def b_f_at : Ss := ss [.asg 2 (.call f_p_at (.cons (.ix (.var 0) (.int 1)) (.cons (.var 1) .nil))),
  .ite (.cmp .eq (.ix (.var 2) (.int 0)) (.int 0)) (ss [.ret .non]) (ss []),
  .ret (.call f_over (.cons (.call f_p_at (.cons (.ix (.var 0) (.int 0)) (.cons (.var 1) .nil))) (.cons (.var 2) .nil)))]
/-- f_moved: 0 F, 1 c -/
def b_f_moved : Ss := ss [.ret (.tup (.cons (.call f_p_moved (.cons (.ix (.var 0) (.int 0)) (.cons (.var 1) .nil))) (.cons (.call f_p_moved (.cons (.ix (.var 0) (.int 1)) (.cons (.var 1) .nil))) .nil)))]
def dF (x : Fra) : VL.D := .tup [dP x.A.1, dP x.B.1]
/-- sizes of a fraction: the bits over one number below, the lengths of top and bottom -/
structure Fz (x : Fra) (b n m : Nat) : Prop where
  jb : Pol.JB b x.A x.B
  lA : Pol.len x.A ≤ n
  lB : Pol.len x.B ≤ m
/-- what a reduction asks -/
def Hz (N b : Nat) : Prop := (N + 10) * (Pol.Bq N b + 2) ≤ 60000000
def vFraction : VF := ⟨.read, fun ds q => ∃ (P Q : Pol) (b n m : Nat), ds = [dP P.1, dP Q.1] ∧ Q ≠ 0 ∧ Pol.JB b P Q ∧ Pol.len P ≤ n ∧ Pol.len Q ≤ m ∧ n ≤ 100 ∧ m ≤ 100 ∧ Hz (n + m) b ∧ ∀ x : Fra, x.Is P Q → Fz x (b + Pol.cz (max n m)) n m → q (.val (dF x)) none⟩
def vFPoly : VF := ⟨.read, fun ds q => ∃ (P : Pol), ds = [dP P.1] ∧ q (.val (dF (Fra.poly P))) none⟩
def vFNumber : VF := ⟨.read, fun ds q => ∃ (c : Rat), ds = [dR c] ∧ q (.val (dF (Fra.poly (Pol.cst c)))) none⟩
def vFAdd (f : Fra → Fra → Fra) : VF := ⟨.read, fun ds q => ∃ (x y : Fra) (b n m c n' m' : Nat), ds = [dF x, dF y] ∧ Fz x b n m ∧ Fz y c n' m' ∧ max (n + m') (n' + m) ≤ 101 ∧ m + m' ≤ 101 ∧ Hz (max (n + m') (n' + m) - 1 + (m + m' - 1)) (b + c + 11) ∧ (Fz (f x y) (b + c + 11 + Pol.cz (max (max (n + m') (n' + m) - 1) (m + m' - 1))) (max (n + m') (n' + m) - 1) (m + m' - 1) → q (.val (dF (f x y))) none)⟩
def vFTimes : VF := ⟨.read, fun ds q => ∃ (x y : Fra) (b n m c n' m' : Nat), ds = [dF x, dF y] ∧ Fz x b n m ∧ Fz y c n' m' ∧ n + n' ≤ 101 ∧ m + m' ≤ 101 ∧ Hz (n + n' - 1 + (m + m' - 1)) (b + c + 10) ∧ (Fz (x * y) (b + c + 10 + Pol.cz (max (n + n' - 1) (m + m' - 1))) (n + n' - 1) (m + m' - 1) → q (.val (dF (x * y))) none)⟩
def vFOver : VF := ⟨.read, fun ds q => ∃ (x y : Fra) (b n m c n' m' : Nat), ds = [dF x, dF y] ∧ y ≠ 0 ∧ Fz x b n m ∧ Fz y c n' m' ∧ n + m' ≤ 101 ∧ m + n' ≤ 101 ∧ Hz (n + m' - 1 + (m + n' - 1)) (b + c + 10) ∧ (Fz (x / y) (b + c + 10 + Pol.cz (max (n + m' - 1) (m + n' - 1))) (n + m' - 1) (m + n' - 1) → q (.val (dF (x / y))) none)⟩
def vFSlope : VF := ⟨.read, fun ds q => ∃ (x : Fra) (b n m : Nat), ds = [dF x] ∧ Fz x b n m ∧ n + m ≤ 101 ∧ m + m ≤ 101 ∧ Hz (n + m - 2 + (m + m - 1)) (2 * b + 21) ∧ (Fz (Fra.D x) (2 * b + 21 + Pol.cz (max (n + m - 2) (m + m - 1))) (n + m - 2) (m + m - 1) → q (.val (dF (Fra.D x))) none)⟩
/-- the worth at a number, None at a pole -/
def atD (x : Fra) (c : Rat) : VL.D := if Pol.ev x.B c = 0 then .non else dR (Pol.ev x.A c / Pol.ev x.B c)
def vFAt : VF := ⟨.read, fun ds q => ∃ (x : Fra) (c : Rat) (b n m s : Nat), ds = [dF x, dR c] ∧ Fz x b n m ∧ RB' s c ∧ n ≤ 100 ∧ m ≤ 100 ∧ (max n m + 1) * (2 * (b + s) + 4) ≤ 60000000 ∧ q (.val (atD x c)) none⟩
def vFMoved : VF := ⟨.read, fun ds q => ∃ (x : Fra) (c : Rat) (b n m s : Nat), ds = [dF x, dR c] ∧ Fz x b n m ∧ RB' s c ∧ n ≤ 100 ∧ m ≤ 100 ∧ (max n m + 2) * (max n m + 2) * (2 * (b + s) + 14) ≤ 2000000 ∧ (Fz (Fra.sh c x) (b + (s + 2) * max n m) n m → q (.val (dF (Fra.sh c x))) none)⟩
noncomputable def G7 (L : Nat → VF) : Nat → VF
  | 0 => vFraction
  | 1 => vFPoly
  | 2 => vFNumber
  | 3 => vFAdd (· + ·)
  | 4 => vFAdd (· - ·)
  | 5 => vFTimes
  | 6 => vFOver
  | 7 => vFSlope
  | 8 => vFAt
  | 9 => vFMoved
  | n + 10 => L n
variable {L : Nat → VF}
noncomputable abbrev Gr (L : Nat → VF) : Nat → VF := G1 (G2 (G3 (G4 (G6 (G7 L)))))
theorem Fz.fb {x : Fra} {b n m : Nat} (h : Fz x b n m) : Fb b b x.A.1 ∧ Fb b b x.B.1 := h.jb.fb
theorem hz_le {N b : Nat} (h : Hz N b) : b + 1 ≤ 6000000 ∧ N * (Pol.Bq N b + 2) + 10 * (Pol.Bq N b + 2) ≤ 60000000 ∨ N = 0 := by
  by_cases z : N = 0
  · exact .inr z
  · left
    have h2 : N * (Pol.Bq N b + 2) + 10 * (Pol.Bq N b + 2) ≤ 60000000 := by rw [← Nat.add_mul]; exact h
    have := Pol.Bq_le (b := b) (show 1 ≤ N by omega)
    have h3 : 1 * (Pol.Bq N b + 2) ≤ N * (Pol.Bq N b + 2) := Nat.mul_le_mul_right _ (by omega)
    constructor <;> omega
theorem len1 : Pol.len 1 = 1 := by decide
theorem good_fraction : Good (Gr L) b_fraction 2 2 vFraction := by
  rintro ds w ⟨P, Q, b, n, m, rfl, Q0, jb, lP, lQ, n1, m1, hz, hw⟩ -
  have okP := dsh_of (okD_dP P.1) (by decide)
  have Qp := Pol.len_pos Q0
  obtain ⟨fP, fQ⟩ := jb.fb
  obtain ⟨N, eN⟩ : ∃ N, N = n + m := ⟨_, rfl⟩
  rw [← eN] at hz
  have hz2 := hz_le hz
  have hz2 := hz2.resolve_right (by omega)
  obtain ⟨x, ex⟩ : ∃ x, x = Pol.Bq N b := ⟨_, rfl⟩
  have bx : b ≤ x := by rw [ex]; exact Pol.Bq_le (by omega)
  refine ⟨rfl, okP, rfl, fun h => ?_, fun h => ?_⟩
  · have h : deq (dP P.1) (dP []) = true := h
    rw [deq_dP] at h
    have P0 : P = 0 := Pol.nil_iff.mp (dec_t h)
    exact hw 0 ⟨Q0, by rw [P0]; show (0 : Pol) * Q = 0 * 1; grind⟩ ⟨(Pol.jb_of Pol.fb_zero).mono (Nat.zero_le _), Nat.zero_le _, Nat.le_trans (Nat.le_of_eq len1) (by omega)⟩
  · have h : deq (dP P.1) (dP []) = false := h
    rw [deq_dP] at h
    have P0 : P ≠ 0 := fun z => dec_f h (Pol.nil_iff.mpr z)
    refine ⟨rfl, P, Q, N, b, rfl, fP, fQ, by omega, by omega, hz, fun g _ hG fg => ⟨.inl rfl, ?_⟩⟩
    have hG := hG fun z => Q0 z.2
    rw [← ex] at fg hz2
    have xN : N * (x + 1) ≤ N * (x + 2) := Nat.mul_le_mul_left _ (by omega)
    obtain ⟨a, ea⟩ := hG.a
    obtain ⟨c, ec⟩ := hG.b
    have gp := Pol.len_pos hG.ne
    have gne : g.1 ≠ [] := fun z => hG.ne (Pol.nil_iff.mp z)
    have c0 : c ≠ 0 := fun z => Q0 (by rw [ec, z]; grind)
    have lg : Pol.len g ≤ Pol.len Q := by
      have h1 := Pol.len_mul c0 hG.ne
      rw [← ec] at h1
      have := Pol.len_pos c0
      omega
    have sp : ∀ {R : Pol}, Fb b b R.1 → Pol.len R ≤ N → 4 * x + (R.1.length + 1 - g.1.length) * (x + 1) + 5 ≤ 60000000 := fun {R} _ hR => by
      have h1 : R.1.length ≤ N := hR
      have h2 : 0 < g.1.length := gp
      have := Nat.mul_le_mul_right (x + 1) (show R.1.length + 1 - g.1.length ≤ N by omega)
      omega
    have lP2 : P.1.length ≤ n := lP
    have lQ2 : Q.1.length ≤ m := lQ
    have lg2 : g.1.length ≤ m := Nat.le_trans lg lQ
    have gp2 : 0 < g.1.length := gp
    obtain ⟨D, V, Db, hS⟩ := sp_fb (Pol.fb_up fP bx) fg (Pol.lead_ne hG.ne) (sp fP (by omega))
    refine ⟨rfl, P.1, g.1, D, V, x, x, x, rfl, g.2, gne, by omega, by omega, hS, fun f1 r1 hf1 hr1 hrl1 hfl1 _ of1 _ he1 => ⟨.inl rfl, _, rfl, ?_⟩⟩
    obtain ⟨D', V', Db', hS'⟩ := sp_fb (Pol.fb_up fQ bx) fg (Pol.lead_ne hG.ne) (sp fQ (by omega))
    refine ⟨rfl, Q.1, g.1, D', V', x, x, x, rfl, g.2, gne, by omega, by omega, hS', fun f2 r2 hf2 hr2 hrl2 hfl2 _ of2 _ he2 => ⟨.inl rfl, _, rfl, ?_⟩⟩
    have e1 : P = Pol.of f1 hf1 * g + Pol.of r1 hr1 := Pol.of_split P.2 g.2 hf1 hr1 he1
    have e2 : Q = Pol.of f2 hf2 * g + Pol.of r2 hr2 := Pol.of_split Q.2 g.2 hf2 hr2 he2
    have u1 := (Pol.div_uniq (q := g) (f := Pol.of f1 hf1) (f' := a) (r := Pol.of r1 hr1) (r' := 0) (by rw [← e1, ea]; grind) hrl1 (by rw [Pol.len_zero]; exact gp)).1
    have u2 := (Pol.div_uniq (q := g) (f := Pol.of f2 hf2) (f' := c) (r := Pol.of r2 hr2) (r' := 0) (by rw [← e2, ec]; grind) hrl2 (by rw [Pol.len_zero]; exact gp)).1
    have v1 : f1 = a.1 := congrArg (fun z : Pol => z.1) u1
    have v2 : f2 = c.1 := congrArg (fun z : Pol => z.1) u2
    subst v1
    subst v2
    have cne : c.1 ≠ [] := fun z => c0 (Pol.nil_iff.mp z)
    have nb : ∀ {R : Pol}, Pol.len R ≤ N → ∀ {y : Nat}, y = R.1.length + 1 - g.1.length → (y + 2) * (x + 1) + 3 ≤ 60000000 := fun {R} hR {y} hy => by
      have h1 : R.1.length ≤ N := hR
      have h2 := Nat.mul_le_mul_right (x + 1) (show y ≤ N by omega)
      have h3 : (y + 2) * (x + 1) = y * (x + 1) + 2 * (x + 1) := Nat.add_mul _ _ _
      omega
    have ff1 := split_fb of1 hS.D0 hS.V0 Db hS.Vs (by rw [Nat.add_mul _ 2]; omega)
    have ff2 := split_fb of2 hS'.D0 hS'.V0 Db' hS'.Vs (by rw [Nat.add_mul _ 2]; omega)
    have b1 := nb (R := P) (by omega) rfl
    have b2 := nb (R := Q) (by omega) rfl
    have fl := Pol.fs_lead ff2 c0
    have rlead : (co c.1 (c.1.length - 1)).num ≠ 0 := fun z => Pol.lead_ne c0 (Rat.num_eq_zero.mp z)
    have r1' : RB' 1 1 := ⟨by decide, by decide⟩
    obtain ⟨S, hS1, hS2, hS3⟩ : ∃ S, (P.1.length + 1 - g.1.length + 2) * (x + 1) + 1 ≤ S ∧ (Q.1.length + 1 - g.1.length + 2) * (x + 1) + 1 ≤ S ∧ S ≤ 60000000 := ⟨max ((P.1.length + 1 - g.1.length + 2) * (x + 1) + 1) ((Q.1.length + 1 - g.1.length + 2) * (x + 1) + 1), by omega, by omega, by omega⟩
    refine ⟨_, atI_end cne, rfl, 1, _, rfl, sz_rb r1' (by decide), sz_rb fl.rb (by omega), rlead, .inl rfl, ?_⟩
    have hx := Fra.ofg_is c0 (Fra.cof hG ea ec) hG.ne ea ec
    have jz := Pol.jb_frac (n := max n m) jb ea ec Q0 (by omega) (by omega) (by omega)
    have la : Pol.len a ≤ n := by
      have h1 : a.1.length ≤ P.1.length + 1 - g.1.length := hfl1
      show a.1.length ≤ n
      omega
    have lc : Pol.len c ≤ m := by
      have h1 : c.1.length ≤ Q.1.length + 1 - g.1.length := hfl2
      show c.1.length ≤ m
      omega
    have nz : 1 / Pol.lead c ≠ 0 := fl.inv.ne
    have fin := hw _ hx ⟨jz, by show Pol.len (Pol.cst (1 / Pol.lead c) * a) ≤ n; rw [Pol.len_cst_mul nz]; exact la, by show Pol.len (Pol.cst (1 / Pol.lead c) * c) ≤ m; rw [Pol.len_cst_mul nz]; exact lc⟩
    have q1 : dP (mk a.1.length fun k => co a.1 k * (1 / Pol.lead c)) = dP (Pol.cst (1 / Pol.lead c) * a).1 := congrArg dP (scaled_eq a (1 / Pol.lead c))
    have q2 : dP (mk c.1.length fun k => co c.1 k * (1 / Pol.lead c)) = dP (Pol.cst (1 / Pol.lead c) * c).1 := congrArg dP (scaled_eq c (1 / Pol.lead c))
    have lac : a.1.length ≤ 1000 := by have : Pol.len a = a.1.length := rfl
                                       omega
    have lcc : c.1.length ≤ 1000 := by have : Pol.len c = c.1.length := rfl
                                       omega
    refine ⟨rfl, a.1, _, S, rfl, fun z hz => rb_mono (fbx_pb ff1 z hz) (by omega), rb_mono fl.inv.rb (by omega), by omega, by omega, lac, .inl rfl, rfl, c.1, _, S, rfl, fun z hz => rb_mono (fbx_pb ff2 z hz) (by omega), rb_mono fl.inv.rb (by omega), by omega, by omega, lcc, .inl rfl, rfl, ?_⟩
    exact Eq.mpr (congrArg (fun z => w (.val (.tup z)) none) (congrArg (fun z => z) (by rw [show dP (mk a.1.length fun k => co a.1 k * (1 / co c.1 (c.1.length - 1))) = dP (Pol.cst (1 / Pol.lead c) * a).1 from q1, show dP (mk c.1.length fun k => co c.1 k * (1 / co c.1 (c.1.length - 1))) = dP (Pol.cst (1 / Pol.lead c) * c).1 from q2] : [dP (mk a.1.length fun k => co a.1 k * (1 / co c.1 (c.1.length - 1))), dP (mk c.1.length fun k => co c.1 k * (1 / co c.1 (c.1.length - 1)))] = [dP (Pol.cst (1 / Pol.lead c) * a).1, dP (Pol.cst (1 / Pol.lead c) * c).1]))) fin
theorem good_f_poly : Good (Gr L) b_f_poly 1 0 vFPoly := by
  rintro ds w ⟨P, rfl, hw⟩ -
  exact ⟨rfl, hw⟩
theorem good_f_number : Good (Gr L) b_f_number 1 0 vFNumber := by
  rintro ds w ⟨c, rfl, hw⟩ -
  exact ⟨rfl, rfl, _, [c], rfl, .inl rfl, .inl rfl, rfl, hw⟩
theorem Fz.up {x : Fra} {b n m b' n' m' : Nat} (h : Fz x b n m) (h1 : b ≤ b') (h2 : n ≤ n') (h3 : m ≤ m') : Fz x b' n' m' := ⟨h.jb.mono h1, Nat.le_trans h.lA h2, Nat.le_trans h.lB h3⟩
theorem Hz.le {N b : Nat} (h : Hz N b) (hN : 1 ≤ N) : b ≤ 6000000 := by
  rcases hz_le h with z | z
  · omega
  · omega
/-- a product within sizes -/
theorem mulOk {b c : Nat} {p q : Pol} (hp : Fb b b p.1) (hq : Fb c c q.1) (h : b + c ≤ 6000000) (l1 : Pol.len p ≤ 101) (l2 : Pol.len q ≤ 101) : PTok p.1 q.1 := fb_pt2 (e := 7) hp hq (Nat.lt_of_le_of_lt (show p.1.length ≤ 101 from l1) (by decide)) (by omega) (Nat.le_trans (show p.1.length ≤ 101 from l1) (by decide)) (Nat.le_trans (show q.1.length ≤ 101 from l2) (by decide))
theorem mulPb {b c : Nat} {p q : Pol} (hp : Fb b b p.1) (hq : Fb c c q.1) (h : b + c ≤ 6000000) (l1 : Pol.len p ≤ 101) : PB 60000000 (p * q).1 := fun z hz => rb_mono (fbx_pb (Pol.fb_mul hp hq (by omega)) z hz) (by omega)
theorem mulLe {p q : Pol} {n m : Nat} (h1 : Pol.len p ≤ n) (h2 : Pol.len q ≤ m) : Pol.len (p * q) ≤ n + m - 1 := Nat.le_trans (Pol.len_mul_le p q) (by omega)
theorem add_eq (p q : Pol) : mk (max p.1.length q.1.length) (fun k => co p.1 k + co q.1 k) = (p + q).1 := rfl
theorem good_f_plus : Good (Gr L) b_f_plus 2 1 (vFAdd (· + ·)) := by
  rintro ds w ⟨x, y, b, n, m, c, n', m', rfl, zx, zy, ln, lm, hz, hw⟩ -
  obtain ⟨fA, fB⟩ := zx.fb
  obtain ⟨gA, gB⟩ := zy.fb
  have l1 := zx.lA
  have l2 := zx.lB
  have l3 := zy.lA
  have l4 := zy.lB
  have p2 := Pol.len_pos x.B0
  have p4 := Pol.len_pos y.B0
  have bc := hz.le (by omega)
  have a1 := mulLe l1 l4
  have a2 := mulLe l3 l2
  have a3 := mulLe l2 l4
  have jb := (zx.jb.add zy.jb (by omega) (by omega) (by omega)).1
  have Q0 := Pol.mul_ne x.B0 y.B0
  have lT : Pol.len (x.A * y.B + y.A * x.B) ≤ max (n + m') (n' + m) - 1 := Nat.le_trans (Pol.len_add_le _ _) (by omega)
  refine ⟨_, rfl, _, rfl, rfl, x.A.1, y.B.1, rfl, mulOk fA gB (by omega) (by omega) (by omega), .inl rfl, _, rfl, _, rfl, rfl, y.A.1, x.B.1, rfl, mulOk gA fB (by omega) (by omega) (by omega), .inl rfl, rfl, (x.A * y.B).1, (y.A * x.B).1, 60000000, rfl, mulPb fA gB (by omega) (by omega), mulPb gA fB (by omega) (by omega), by decide, by decide, Nat.le_trans a1 (by omega), Nat.le_trans a2 (by omega), .inl rfl, ?_⟩
  exact ⟨_, rfl, _, rfl, rfl, x.B.1, y.B.1, rfl, mulOk fB gB (by omega) (by omega) (by omega), .inl rfl, rfl, x.A * y.B + y.A * x.B, x.B * y.B, b + c + 11, _, _, rfl, Q0, jb, lT, a3, by omega, by omega, hz, fun z hz hs => by
    have e : z = x + y := hz.uniq (x.self.add y.self) rfl
    subst e
    exact ⟨.inl rfl, hw hs⟩⟩
theorem good_f_minus : Good (Gr L) b_f_minus 2 1 (vFAdd (· - ·)) := by
  rintro ds w ⟨x, y, b, n, m, c, n', m', rfl, zx, zy, ln, lm, hz, hw⟩ -
  obtain ⟨fA, fB⟩ := zx.fb
  obtain ⟨gA, gB⟩ := zy.fb
  have l1 := zx.lA
  have l2 := zx.lB
  have l3 := zy.lA
  have l4 := zy.lB
  have p2 := Pol.len_pos x.B0
  have p4 := Pol.len_pos y.B0
  have bc := hz.le (by omega)
  have a1 := mulLe l1 l4
  have a2 := mulLe l3 l2
  have a3 := mulLe l2 l4
  have jb := (zx.jb.add zy.jb (by omega) (by omega) (by omega)).2
  have Q0 := Pol.mul_ne x.B0 y.B0
  have lT : Pol.len (x.A * y.B - y.A * x.B) ≤ max (n + m') (n' + m) - 1 := Nat.le_trans (Pol.len_sub_le _ _) (by omega)
  have es := sub_eq (x.A * y.B) (y.A * x.B)
  refine ⟨_, rfl, _, rfl, rfl, x.A.1, y.B.1, rfl, mulOk fA gB (by omega) (by omega) (by omega), .inl rfl, _, rfl, _, rfl, rfl, y.A.1, x.B.1, rfl, mulOk gA fB (by omega) (by omega) (by omega), .inl rfl, rfl, (x.A * y.B).1, (y.A * x.B).1, 60000000, rfl, mulPb fA gB (by omega) (by omega), mulPb gA fB (by omega) (by omega), by decide, by decide, Nat.le_trans a1 (by omega), Nat.le_trans a2 (by omega), .inl rfl, ?_⟩
  exact ⟨_, rfl, _, rfl, rfl, x.B.1, y.B.1, rfl, mulOk fB gB (by omega) (by omega) (by omega), .inl rfl, rfl, x.A * y.B - y.A * x.B, x.B * y.B, b + c + 11, _, _, congrArg (fun z => [dP z, dP (x.B * y.B).1]) es, Q0, jb, lT, a3, by omega, by omega, hz, fun z hz hs => by
    have e : z = x - y := hz.uniq (x.self.sub y.self) rfl
    subst e
    exact ⟨.inl rfl, hw hs⟩⟩
theorem good_f_times : Good (Gr L) b_f_times 2 0 vFTimes := by
  rintro ds w ⟨x, y, b, n, m, c, n', m', rfl, zx, zy, ln, lm, hz, hw⟩ -
  obtain ⟨fA, fB⟩ := zx.fb
  obtain ⟨gA, gB⟩ := zy.fb
  have l1 := zx.lA
  have l2 := zx.lB
  have l3 := zy.lA
  have l4 := zy.lB
  have p2 := Pol.len_pos x.B0
  have p4 := Pol.len_pos y.B0
  have bc := hz.le (by omega)
  have a1 := mulLe l1 l3
  have a3 := mulLe l2 l4
  have jb := zx.jb.mul zy.jb (by omega) (by omega)
  have Q0 := Pol.mul_ne x.B0 y.B0
  exact ⟨_, rfl, _, rfl, rfl, x.A.1, y.A.1, rfl, mulOk fA gA (by omega) (by omega) (by omega), .inl rfl, _, rfl, _, rfl, rfl, x.B.1, y.B.1, rfl, mulOk fB gB (by omega) (by omega) (by omega), .inl rfl, rfl, x.A * y.A, x.B * y.B, b + c + 10, _, _, rfl, Q0, jb, a1, a3, by omega, by omega, hz, fun z hz hs => by
    have e : z = x * y := hz.uniq (x.self.mul y.self) rfl
    subst e
    exact ⟨.inl rfl, hw hs⟩⟩
theorem good_f_over : Good (Gr L) b_f_over 2 0 vFOver := by
  rintro ds w ⟨x, y, b, n, m, c, n', m', rfl, y0, zx, zy, ln, lm, hz, hw⟩ -
  obtain ⟨fA, fB⟩ := zx.fb
  obtain ⟨gA, gB⟩ := zy.fb
  have l1 := zx.lA
  have l2 := zx.lB
  have l3 := zy.lA
  have l4 := zy.lB
  have yA : y.A ≠ 0 := fun z => y0 (Fra.A0_iff.mp z)
  have p2 := Pol.len_pos x.B0
  have p3 := Pol.len_pos yA
  have p4 := Pol.len_pos y.B0
  have bc := hz.le (by omega)
  have a1 := mulLe l1 l4
  have a3 := mulLe l2 l3
  have jb := zx.jb.mul zy.jb.swap (by omega) (by omega)
  have Q0 := Pol.mul_ne x.B0 yA
  exact ⟨_, rfl, _, rfl, rfl, x.A.1, y.B.1, rfl, mulOk fA gB (by omega) (by omega) (by omega), .inl rfl, _, rfl, _, rfl, rfl, x.B.1, y.A.1, rfl, mulOk fB gA (by omega) (by omega) (by omega), .inl rfl, rfl, x.A * y.B, x.B * y.A, b + c + 10, _, _, rfl, Q0, jb, a1, a3, by omega, by omega, hz, fun z hz hs => by
    have e : z = x / y := hz.uniq (x.self.div y.self yA) rfl
    subst e
    exact ⟨.inl rfl, hw hs⟩⟩
theorem good_f_slope : Good (Gr L) b_f_slope 1 1 vFSlope := by
  rintro ds w ⟨x, b, n, m, rfl, zx, ln, lm, hz, hw⟩ -
  obtain ⟨fA, fB⟩ := zx.fb
  have l1 := zx.lA
  have l2 := zx.lB
  have p2 := Pol.len_pos x.B0
  have bc := hz.le (by omega)
  have jb := jb_D zx.jb (by omega) (by omega)
  have Q0 := Pol.mul_ne x.B0 x.B0
  have dA := P.len_D x.A
  have dB := P.len_D x.B
  have a1 := Pol.len_mul_le (P.D x.A) x.B
  have a2 := Pol.len_mul_le x.A (P.D x.B)
  have a3 := mulLe l2 l2
  have lT : Pol.len (P.D x.A * x.B - x.A * P.D x.B) ≤ n + m - 2 := by
    have h := Pol.len_sub_le (P.D x.A * x.B) (x.A * P.D x.B)
    by_cases z : x.A = 0
    · have : P.D x.A * x.B - x.A * P.D x.B = 0 := by rw [z, P.D_zero]; grind
      rw [this, Pol.len_zero]; omega
    · have := Pol.len_pos z
      by_cases z2 : Pol.len x.B = 1
      · have e : P.D x.B = 0 := by
          rw [Pol.len_one z2, P.D_cst]
        rw [e, show x.A * (0 : Pol) = 0 by grind, Pol.len_zero] at h
        rw [e, show x.A * (0 : Pol) = 0 by grind]
        by_cases z3 : P.D x.A = 0
        · rw [z3, show (0 : Pol) * x.B = 0 by grind, Pol.len_zero] at h
          rw [z3, show (0 : Pol) * x.B = 0 by grind]
          omega
        · have := Pol.len_pos z3
          omega
      · by_cases z3 : P.D x.A = 0
        · rw [z3, show (0 : Pol) * x.B = 0 by grind, Pol.len_zero] at h
          rw [z3, show (0 : Pol) * x.B = 0 by grind]
          omega
        · have := Pol.len_pos z3
          omega
  have dsz : ∀ {p : Pol}, Fb b b p.1 → Pol.len p ≤ 101 → Fb (b + 10) (b + 10) (P.D p).1 := fun {p} h hl => by
    obtain ⟨D, D0, Db, z⟩ := Pol.fb_iz h
    have z2 := (iz_D z (by rw [Pol.len_cst_mul (nzD D0)]; omega)).mono (K' := 2 ^ (b + 10)) (Nat.le_of_eq (by rw [Nat.mul_comm, ← Nat.pow_add]))
    rw [P.D_cst_mul] at z2
    exact (Pol.JB.fb ⟨D, D0, Nat.le_trans Db (pw_mono (by omega)), z2, z2⟩).1
  have sA := dsz fA (by omega)
  have sB := dsz fB (by omega)
  have es := sub_eq (P.D x.A * x.B) (x.A * P.D x.B)
  have pb : ∀ {p : Pol}, Fb b b p.1 → PB 6000010 p.1 := fun h z hz => rb_mono (fbx_pb h z hz) (by omega)
  refine ⟨_, rfl, rfl, x.A.1, 6000010, rfl, pb fA, by decide, by decide, Nat.le_trans l1 (by omega), .inl rfl, _, rfl, rfl, (P.D x.A).1, x.B.1, rfl, mulOk sA fB (by omega) (by omega) (by omega), .inl rfl, _, rfl, _, rfl, rfl, x.B.1, 6000010, rfl, pb fB, by decide, by decide, Nat.le_trans l2 (by omega), .inl rfl, rfl, x.A.1, (P.D x.B).1, rfl, mulOk fA sB (by omega) (by omega) (by omega), .inl rfl, rfl, (P.D x.A * x.B).1, (x.A * P.D x.B).1, 60000000, rfl, mulPb sA fB (by omega) (by omega), mulPb fA sB (by omega) (by omega), by decide, by decide, Nat.le_trans a1 (by omega), Nat.le_trans a2 (by omega), .inl rfl, ?_⟩
  exact ⟨_, rfl, _, rfl, rfl, x.B.1, x.B.1, rfl, mulOk fB fB (by omega) (by omega) (by omega), .inl rfl, rfl, P.D x.A * x.B - x.A * P.D x.B, x.B * x.B, 2 * b + 21, _, _, congrArg (fun z => [dP z, dP (x.B * x.B).1]) es, Q0, jb, lT, a3, by omega, by omega, hz, fun z hz hs => by
    have e : z = Fra.D x := hz.uniq x.D_is rfl
    subst e
    exact ⟨.inl rfl, hw hs⟩⟩
theorem Fz.at {x : Fra} {c : Rat} {b n m s : Nat} (zx : Fz x b n m) (hc : RB' s c) : RB' (b + (s + 2) * max n m + 1) (Pol.ev x.A c) ∧ RB' (b + (s + 2) * max n m + 1) (Pol.ev x.B c) := by
  have jb := jb_sh (n := max n m) zx.jb hc (Nat.le_trans zx.lA (by omega)) (Nat.le_trans zx.lB (by omega))
  obtain ⟨sA, sB⟩ := jb.fb
  exact ⟨by rw [ev_co]; exact pb_co (fbx_pb sA) (by omega) 0, by rw [ev_co]; exact pb_co (fbx_pb sB) (by omega) 0⟩
theorem good_f_at : Good (Gr L) b_f_at 2 1 vFAt := by
  rintro ds w ⟨x, c, b, n, m, s, rfl, zx, hc, n1, m1, hz, hw⟩ -
  obtain ⟨fA, fB⟩ := zx.fb
  have l1 : x.A.1.length ≤ n := zx.lA
  have l2 : x.B.1.length ≤ m := zx.lB
  have rc : RB' (b + s + 1) c := rb_mono hc (by omega)
  have pb : ∀ {p : Pol}, Fb b b p.1 → PB (b + s + 1) p.1 := fun h z hz => rb_mono (fbx_pb h z hz) (by omega)
  have co : ∀ {p : Pol}, p.1.length ≤ max n m → (p.1.length + 1) * (2 * (b + s + 1) + 2) ≤ 60000000 := fun {p} h => Nat.le_trans (Nat.mul_le_mul (show p.1.length + 1 ≤ max n m + 1 by omega) (show 2 * (b + s + 1) + 2 ≤ 2 * (b + s) + 4 by omega)) hz
  have eA : Pol.ev x.A c = M4.ev x.A.1 c := rfl
  have eB : Pol.ev x.B c = M4.ev x.B.1 c := rfl
  obtain ⟨rA, rB⟩ := zx.at hc
  have big : b + (s + 2) * max n m + 1 ≤ 60000000 := by
    have h1 : (max n m + 1) * (2 * (b + s) + 4) = max n m * (2 * (b + s) + 4) + (2 * (b + s) + 4) := by rw [Nat.add_mul, Nat.one_mul]
    have h2 : (s + 2) * max n m ≤ max n m * (2 * (b + s) + 4) := by rw [Nat.mul_comm]; exact Nat.mul_le_mul_left _ (by omega)
    omega
  refine ⟨_, rfl, rfl, x.B.1, c, b + s + 1, rfl, pb fB, rc, by omega, co (by omega), .inl rfl, _, rfl, fun h => ?_, fun h => ?_⟩
  · have h : decide ((M4.ev x.B.1 c).num = 0) = true := h
    have e : Pol.ev x.B c = 0 := Rat.num_eq_zero.mp (of_decide_eq_true h)
    unfold atD at hw
    rw [if_pos e] at hw
    exact hw
  · have h : decide ((M4.ev x.B.1 c).num = 0) = false := h
    have hn : (M4.ev x.B.1 c).num ≠ 0 := of_decide_eq_false h
    have e : Pol.ev x.B c ≠ 0 := fun z => hn (Rat.num_eq_zero.mpr z)
    unfold atD at hw
    rw [if_neg e] at hw
    exact ⟨_, rfl, rfl, x.A.1, c, b + s + 1, rfl, pb fA, rc, by omega, co (by omega), .inl rfl, rfl, M4.ev x.A.1 c, M4.ev x.B.1 c, rfl, sz_rb rA big, sz_rb rB big, hn, .inl rfl, hw⟩
theorem good_f_moved : Good (Gr L) b_f_moved 2 0 vFMoved := by
  rintro ds w ⟨x, c, b, n, m, s, rfl, zx, hc, n1, m1, hz, hw⟩ -
  obtain ⟨fA, fB⟩ := zx.fb
  have l1 : x.A.1.length ≤ n := zx.lA
  have l2 : x.B.1.length ≤ m := zx.lB
  have rc : RB' (b + s + 1) c := rb_mono hc (by omega)
  have pb : ∀ {p : Pol}, Fb b b p.1 → PB (b + s + 1) p.1 := fun h z hz => rb_mono (fbx_pb h z hz) (by omega)
  have co : ∀ {p : Pol}, p.1.length ≤ max n m → (p.1.length + 2) * (p.1.length + 2) * (2 * (b + s + 1) + 12) ≤ 2000000 := fun {p} h => Nat.le_trans (Nat.mul_le_mul (Nat.mul_le_mul (show p.1.length + 2 ≤ max n m + 2 by omega) (show p.1.length + 2 ≤ max n m + 2 by omega)) (show 2 * (b + s + 1) + 12 ≤ 2 * (b + s) + 14 by omega)) hz
  have jb := jb_sh (n := max n m) zx.jb hc (Nat.le_trans zx.lA (by omega)) (Nat.le_trans zx.lB (by omega))
  exact ⟨_, rfl, rfl, x.A.1, c, b + s + 1, rfl, pb fA, rc, by omega, by omega, co (by omega), .inl rfl, _, rfl, rfl, x.B.1, c, b + s + 1, rfl, pb fB, rc, by omega, by omega, co (by omega), .inl rfl, rfl, hw ⟨jb, by show Pol.len (P.sh c x.A) ≤ n; rw [P.len_sh]; exact zx.lA, by show Pol.len (P.sh c x.B) ≤ m; rw [P.len_sh]; exact zx.lB⟩⟩
end M7

/-! M15m: polynomials in y, where the n-th power of y stands for a letter. -/
namespace M15
open PySem PySem.Spec L2 VL M1 M2 M3 M4 M5 M7
open Pol (cst)
theorem rmul_pow (a b : Rat) : ∀ k : Nat, (a * b) ^ k = a ^ k * b ^ k
  | 0 => by rw [Rat.pow_zero, Rat.pow_zero, Rat.pow_zero]; grind
  | k + 1 => by rw [Rat.pow_succ, Rat.pow_succ, Rat.pow_succ, rmul_pow a b k]; grind
theorem co_nth (n : Nat) (hn : 0 < n) : ∀ (l : List Rat) (k j : Nat), co (nthL n k l) j = co l (k + j * n)
  | [], k, j => by
    have : nthL n k ([] : List Rat) = [] := by cases k <;> rfl
    rw [this, co_nil, co_nil]
  | x :: xs, 0, 0 => by
    show x = co (x :: xs) (0 + 0 * n)
    rw [Nat.zero_mul]; rfl
  | x :: xs, 0, j + 1 => by
    show co (nthL n (n - 1) xs) j = _
    rw [co_nth n hn xs (n - 1) j, show 0 + (j + 1) * n = (n - 1 + j * n) + 1 by rw [Nat.add_mul]; omega, co_succ]
  | x :: xs, k + 1, j => by
    show co (nthL n k xs) j = _
    rw [co_nth n hn xs k j, show k + 1 + j * n = (k + j * n) + 1 by omega, co_succ]
def nt (n k : Nat) (P : Pol) : Pol := ⟨trim (nthL n k P.1), trim_isT _⟩
theorem co_nt (n : Nat) (hn : 0 < n) (k : Nat) (P : Pol) (j : Nat) : co (nt n k P).1 j = co P.1 (k + j * n) := by
  show co (trim _) j = _
  rw [trim_co, co_nth n hn]
def spl (n : Nat) : List Rat → List Rat
  | [] => []
  | a :: l => a :: (List.replicate (n - 1) 0 ++ spl n l)
theorem ev_rep (y : Rat) (l : List Rat) : ∀ k, M4.ev (List.replicate k 0 ++ l) y = y ^ k * M4.ev l y
  | 0 => by rw [Rat.pow_zero]; show M4.ev l y = _; grind
  | k + 1 => by
    show 0 + y * M4.ev (List.replicate k 0 ++ l) y = _
    rw [ev_rep y l k, Rat.pow_succ]; grind
theorem ev_spl {n : Nat} (hn : 0 < n) (y : Rat) : ∀ l, M4.ev (spl n l) y = M4.ev l (y ^ n)
  | [] => rfl
  | a :: l => by
    show a + y * M4.ev (List.replicate (n - 1) 0 ++ spl n l) y = a + y ^ n * M4.ev l (y ^ n)
    obtain ⟨m, rfl⟩ : ∃ m, n = m + 1 := ⟨n - 1, by omega⟩
    rw [ev_rep, ev_spl hn y l, Rat.pow_succ]
    show a + y * (y ^ m * _) = _
    grind
theorem co_rep (l : List Rat) : ∀ (k t : Nat), co (List.replicate k 0 ++ l) t = if t < k then 0 else co l (t - k)
  | 0, t => by rw [if_neg (by omega)]; rfl
  | k + 1, 0 => by rw [if_pos (by omega)]; rfl
  | k + 1, t + 1 => by
    show co (List.replicate k 0 ++ l) t = _
    rw [co_rep l k t]
    by_cases h : t < k
    · rw [if_pos h, if_pos (by omega)]
    · rw [if_neg h, if_neg (by omega), show t + 1 - (k + 1) = t - k by omega]
theorem co_spl {n : Nat} (hn : 0 < n) : ∀ (l : List Rat) (k i : Nat), i < n → co (spl n l) (i + k * n) = if i = 0 then co l k else 0
  | [], k, i, hi => by
    show co [] _ = _
    rw [co_nil, co_nil]; split <;> rfl
  | a :: l, 0, 0, hi => by rw [if_pos rfl, Nat.zero_mul]; rfl
  | a :: l, 0, i + 1, hi => by
    rw [if_neg (by omega), Nat.zero_mul]
    show co (List.replicate (n - 1) 0 ++ spl n l) i = 0
    rw [co_rep, if_pos (by omega)]
  | a :: l, k + 1, i, hi => by
    rw [show i + (k + 1) * n = (n - 1 + (i + k * n)) + 1 by rw [Nat.add_mul]; omega]
    show co (List.replicate (n - 1) 0 ++ spl n l) (n - 1 + (i + k * n)) = _
    rw [co_rep, if_neg (by omega), show n - 1 + (i + k * n) - (n - 1) = i + k * n by omega, co_spl hn l k i hi]
    rfl
def sp (n : Nat) (P : Pol) : Pol := ⟨trim (spl n P.1), trim_isT _⟩
theorem ev_sp {n : Nat} (hn : 0 < n) (P : Pol) (y : Rat) : Pol.ev (sp n P) y = Pol.ev P (y ^ n) := by
  show M4.ev (trim _) y = _
  rw [ev_trim, ev_spl hn]; rfl
theorem co_sp {n : Nat} (hn : 0 < n) (P : Pol) (k i : Nat) (hi : i < n) : co (sp n P).1 (i + k * n) = if i = 0 then co P.1 k else 0 := by
  show co (trim _) _ = _
  rw [trim_co, co_spl hn _ _ _ hi]
theorem nt_sp {n : Nat} (hn : 0 < n) (P : Pol) : nt n 0 (sp n P) = P := Pol.co_ext fun t => by rw [co_nt n hn, co_sp hn _ _ _ hn, if_pos rfl]
theorem sp_mul {n : Nat} (hn : 0 < n) (P Q : Pol) : sp n (P * Q) = sp n P * sp n Q := Pol.ext fun y => by rw [ev_sp hn, Pol.ev_mul, Pol.ev_mul, ev_sp hn, ev_sp hn]
theorem sp_ne {n : Nat} (hn : 0 < n) {P : Pol} (h : P ≠ 0) : sp n P ≠ 0 := fun z => h (by
  have e := nt_sp hn P
  rw [z] at e
  rw [← e]
  exact Pol.co_ext fun t => by rw [co_nt n hn]; exact (co_nil _).trans (co_nil _).symm)
theorem sp_sp (P : Pol) : sp 2 (sp 2 P) = sp 4 P := Pol.ext fun y => by
  rw [ev_sp (by decide), ev_sp (by decide), ev_sp (by decide)]
  congr 1
  rw [Rat.pow_succ, Rat.pow_succ, Rat.pow_succ, Rat.pow_succ, Rat.pow_succ, Rat.pow_succ, Rat.pow_succ, Rat.pow_succ, Rat.pow_zero, Rat.pow_zero]; grind
/-- a polynomial of its parts -/
theorem ev_nth {n : Nat} (hn : 0 < n) (y : Rat) : ∀ l : List Rat, E (fun i => M4.ev (nthL n i l) (y ^ n)) y n = M4.ev l y
  | [] => by
    have : ∀ k, M4.ev (nthL n k ([] : List Rat)) (y ^ n) = 0 := fun k => by cases k <;> rfl
    exact E_zero this n
  | x :: xs => by
    obtain ⟨m, rfl⟩ : ∃ m, n = m + 1 := ⟨n - 1, by omega⟩
    rw [E_shift]
    show x + y ^ (m + 1) * M4.ev (nthL (m + 1) m xs) (y ^ (m + 1)) + y * E (fun k => M4.ev (nthL (m + 1) k xs) (y ^ (m + 1))) y m = x + y * M4.ev xs y
    rw [← ev_nth hn y xs]
    show _ = x + y * (E (fun k => M4.ev (nthL (m + 1) k xs) (y ^ (m + 1))) y m + M4.ev (nthL (m + 1) m xs) (y ^ (m + 1)) * y ^ m)
    rw [Rat.pow_succ]; grind
theorem ev_nt (n i : Nat) (P : Pol) (w : Rat) : Pol.ev (nt n i P) w = M4.ev (nthL n i P.1) w := ev_trim _ _
theorem ev_parts {n : Nat} (hn : 0 < n) (P : Pol) (y : Rat) : E (fun i => Pol.ev (nt n i P) (y ^ n)) y n = Pol.ev P y := by
  exact (E_congr fun i _ => ev_nt n i P _).trans (ev_nth hn y P.1)
abbrev xp (i : Nat) : Pol := Pol.mono 1 i
theorem ev_xp (i : Nat) (y : Rat) : Pol.ev (xp i) y = y ^ i := by
  show M4.ev (mk (i + 1) _) y = _
  rw [ev_mk]
  show E (fun k => if k = i then (1 : Rat) else 0) y i + (if i = i then (1 : Rat) else 0) * y ^ i = _
  rw [E_congr (g := fun _ => 0) fun k hk => if_neg (by omega), E_zero fun _ => rfl, if_pos rfl]; grind
/-- laid together -/
def fo (L : Nat → Pol) : Nat → Pol
  | 0 => 0
  | k + 1 => fo L k + L k * xp k
theorem ev_fo (L : Nat → Pol) (y : Rat) : ∀ n, Pol.ev (fo L n) y = E (fun i => Pol.ev (L i) y) y n
  | 0 => Pol.ev_0 y
  | n + 1 => by
    show Pol.ev (fo L n + L n * xp n) y = _
    rw [Pol.ev_add, Pol.ev_mul, ev_fo L y n, ev_xp]; rfl
theorem co_fo {n : Nat} (hn : 0 < n) (L : Nat → Pol) (k i : Nat) (hi : i < n) : ∀ m, m ≤ n → co (fo (fun j => sp n (L j)) m).1 (i + k * n) = if i < m then co (L i).1 k else 0
  | 0, _ => by rw [if_neg (by omega)]; exact co_nil _
  | m + 1, hm => by
    show co (fo (fun j => sp n (L j)) m + sp n (L m) * xp m).1 (i + k * n) = _
    rw [show sp n (L m) * xp m = xp m * sp n (L m) by grind]
    show co (padd _ _) _ = _
    rw [co_padd, co_fo hn L k i hi m (by omega)]
    have e : co (xp m * sp n (L m)).1 (i + k * n) = if m ≤ i + k * n then co (sp n (L m)).1 (i + k * n - m) else 0 := by
      rw [Pol.co_mono_mul]; split <;> grind
    have e2 : co (xp m * sp n (L m)).1 (i + k * n) = if i = m then co (L m).1 k else 0 := by
      rw [e]
      by_cases h : i < m
      · rw [if_neg (show ¬ i = m by omega)]
        split
        · rename_i g
          obtain ⟨k', rfl⟩ : ∃ k', k = k' + 1 := ⟨k - 1, by
            rcases Nat.eq_zero_or_pos k with z | z
            · rw [z, Nat.zero_mul] at g; omega
            · omega⟩
          rw [show i + (k' + 1) * n - m = (n + i - m) + k' * n by rw [Nat.add_mul]; omega, co_sp hn _ _ _ (by omega), if_neg (by omega)]
        · rfl
      · rw [if_pos (show m ≤ i + k * n by omega), show i + k * n - m = (i - m) + k * n by omega, co_sp hn _ _ _ (by omega)]
        by_cases g : i = m
        · rw [if_pos g, if_pos (by omega)]
        · rw [if_neg g, if_neg (by omega)]
    refine (congrArg (fun z => (if i < m then co (L i).1 k else 0) + z) e2).trans ?_
    by_cases h : i < m
    · rw [if_pos h, if_neg (show ¬ i = m by omega), if_pos (show i < m + 1 by omega)]; exact Rat.add_zero _
    · by_cases g : i = m
      · subst g; rw [if_neg h, if_pos rfl, if_pos (show i < i + 1 by omega)]; exact Rat.zero_add _
      · rw [if_neg h, if_neg g, if_neg (show ¬ i < m + 1 by omega)]; exact Rat.add_zero _
theorem nt_fo {n : Nat} (hn : 0 < n) (L : Nat → Pol) {i : Nat} (hi : i < n) : nt n i (fo (fun j => sp n (L j)) n) = L i := Pol.co_ext fun t => by
  rw [co_nt n hn, co_fo hn L t i hi n (Nat.le_refl _), if_pos hi]
/-! ### stretched, turned -/
def st (c : Rat) (P : Pol) : Pol := ⟨mk P.1.length fun k => co P.1 k * c ^ k, mk_isT _ _⟩
theorem co_st (c : Rat) (P : Pol) (t : Nat) : co (st c P).1 t = co P.1 t * c ^ t := by
  show co (mk _ _) t = _
  rw [mk_co]
  split
  · rfl
  · rw [co_out (show P.1.length ≤ t by omega)]; grind
theorem ev_st (c : Rat) (P : Pol) (x : Rat) : Pol.ev (st c P) x = Pol.ev P (c * x) := by
  show M4.ev (mk _ _) x = M4.ev P.1 (c * x)
  rw [ev_mk, ← ev_E P.1 (c * x) _ (Nat.le_refl _)]
  have : ∀ (f : Nat → Rat) n, E (fun k => f k * c ^ k) x n = E f (c * x) n := fun f n => by
    induction n with
    | zero => rfl
    | succ n ih =>
      show E (fun k => f k * c ^ k) x n + f n * c ^ n * x ^ n = E f (c * x) n + f n * (c * x) ^ n
      rw [ih, rmul_pow]; grind
  exact this _ _
theorem len_st (c : Rat) (P : Pol) : Pol.len (st c P) ≤ Pol.len P := mk_len _ _
abbrev tu : Pol → Pol := st (-1)
theorem pm1 : ∀ t : Nat, t % 2 = 1 → (-1 : Rat) ^ t = -1
  | 0, h => by cases h
  | 1, _ => by rw [Rat.pow_succ, Rat.pow_zero]; grind
  | t + 2, h => by rw [Rat.pow_succ, Rat.pow_succ, pm1 t (by omega)]; grind
theorem even_sp {P : Pol} (h : ∀ y, Pol.ev P (-y) = Pol.ev P y) : sp 2 (nt 2 0 P) = P := by
  have e : tu P = P := Pol.ext fun y => by rw [ev_st, ← h y]; congr 1; grind
  refine Pol.co_ext fun t => ?_
  obtain ⟨i, k, hi, rfl⟩ : ∃ i k, i < 2 ∧ t = i + k * 2 := ⟨t % 2, t / 2, by omega, by omega⟩
  rw [co_sp (by decide) _ _ _ hi]
  split
  · rename_i z; rw [z, co_nt 2 (by decide)]
  · rename_i z
    have q := co_st (-1) P (i + k * 2)
    rw [show st (-1) P = P from e, pm1 (i + k * 2) (by omega)] at q
    grind
/-! ### by x, by y -/
theorem qmul {a : Rat} (h : a ≠ 0) (x b : Rat) : a * (x + b / a) = a * x + b := by grind
def bx (a b : Rat) (P : Pol) : Pol := M7.P.sh (b / a) (st a P)
theorem ev_bx {a : Rat} (h : a ≠ 0) (b : Rat) (P : Pol) (x : Rat) : Pol.ev (bx a b P) x = Pol.ev P (a * x + b) := by
  unfold bx
  rw [M7.P.ev_sh, ev_st, qmul h]
theorem back_ev {P Q : Pol} {a : Rat} (h : a ≠ 0) (b : Rat) (e : ∀ x, Pol.ev P (a * x + b) = Pol.ev Q (a * x + b)) : P = Q := Pol.ext fun z => by
  have := e ((z - b) / a)
  rwa [show a * ((z - b) / a) + b = z by grind] at this
theorem bx_ne {a : Rat} (h : a ≠ 0) (b : Rat) {P : Pol} (hP : P ≠ 0) : bx a b P ≠ 0 := fun z => hP (back_ev h b fun x => by rw [← ev_bx h, z, Pol.ev_0, Pol.ev_0])
def byy (n : Nat) (a b : Rat) (P : Pol) : Pol := sp n (M7.P.sh (-b) (st (1 / a) P))
theorem ev_byy {n : Nat} (hn : 0 < n) (a b : Rat) (P : Pol) (y : Rat) : Pol.ev (byy n a b P) y = Pol.ev P ((y ^ n - b) / a) := by
  unfold byy
  rw [ev_sp hn, M7.P.ev_sh, ev_st]
  congr 1
  grind
theorem byy_ne {n : Nat} (hn : 0 < n) {a : Rat} (h : a ≠ 0) (b : Rat) {P : Pol} (hP : P ≠ 0) : byy n a b P ≠ 0 := sp_ne hn fun z => hP (Pol.ext fun x => by
  have e := congrArg (fun p => Pol.ev p (a * x + b)) z
  have e : Pol.ev (M7.P.sh (-b) (st (1 / a) P)) (a * x + b) = Pol.ev 0 (a * x + b) := e
  rw [M7.P.ev_sh, ev_st, Pol.ev_0] at e
  rw [Pol.ev_0, ← e]
  congr 1
  grind)
/-! ### the other factor -/
theorem ev_X (x : Rat) : Pol.ev (xp 1) x = x := by rw [ev_xp, Rat.pow_succ, Rat.pow_zero]; grind
theorem tu_ne {P : Pol} (h : P ≠ 0) : tu P ≠ 0 := fun z => h (Pol.ext fun x => by
  have e := congrArg (fun p => Pol.ev p (-x)) z
  have e : Pol.ev (st (-1) P) (-x) = Pol.ev 0 (-x) := e
  rw [ev_st, Pol.ev_0] at e
  rw [Pol.ev_0, ← e]; congr 1; grind)
theorem two_sp (Q : Pol) : sp 2 (nt 2 0 (Q * tu Q)) = Q * tu Q := even_sp fun y => by
  rw [Pol.ev_mul, Pol.ev_mul, ev_st, ev_st, show -1 * -y = y by grind, show -1 * y = -y by grind]; grind
def half (Q : Pol) : Pol := nt 2 0 (Q * tu Q)
theorem half_ne {Q : Pol} (h : Q ≠ 0) : half Q ≠ 0 := fun z => Pol.mul_ne h (tu_ne h) (by
  rw [← two_sp Q]
  show sp 2 (half Q) = 0
  rw [z]
  exact Pol.ext fun y => by rw [ev_sp (by decide), Pol.ev_0, Pol.ev_0])
def third1 (Q : Pol) : Pol := nt 3 0 Q * nt 3 0 Q - xp 1 * (nt 3 1 Q * nt 3 2 Q)
def third2 (Q : Pol) : Pol := xp 1 * (nt 3 2 Q * nt 3 2 Q) - nt 3 0 Q * nt 3 1 Q
def third3 (Q : Pol) : Pol := nt 3 1 Q * nt 3 1 Q - nt 3 0 Q * nt 3 2 Q
def thirds (Q : Pol) : Nat → Pol
  | 0 => third1 Q
  | 1 => third2 Q
  | _ => third3 Q
def third (Q : Pol) : Pol := fo (fun j => sp 3 (thirds Q j)) 3
/-- the other factor -/
def oth (n : Nat) (Q : Pol) : Pol := if n = 3 then third Q else if n = 2 then tu Q else tu Q * sp 2 (tu (half Q))
/-- what the product stands for -/
def norm3 (p q r : Pol) : Pol := p * p * p + xp 1 * (q * q * q) + xp 1 * xp 1 * (r * r * r) - xp 1 * (p * q * r + p * q * r + p * q * r)
theorem ev_three (Q : Pol) (y : Rat) : Pol.ev Q y = Pol.ev (nt 3 0 Q) (y ^ 3) + Pol.ev (nt 3 1 Q) (y ^ 3) * y + Pol.ev (nt 3 2 Q) (y ^ 3) * (y * y) := by
  rw [← ev_parts (n := 3) (by decide) Q y]
  show 0 + _ * y ^ 0 + _ * y ^ 1 + _ * y ^ 2 = _
  dsimp only
  rw [show y ^ 2 = y * y by rw [Rat.pow_succ, Rat.pow_succ, Rat.pow_zero]; grind, show y ^ 1 = y by rw [Rat.pow_succ, Rat.pow_zero]; grind, Rat.pow_zero]; grind
theorem y3 (y : Rat) : y ^ 3 = y * y * y := by rw [Rat.pow_succ, Rat.pow_succ, Rat.pow_succ, Rat.pow_zero]; grind
theorem third_mul (Q : Pol) : Q * third Q = sp 3 (norm3 (nt 3 0 Q) (nt 3 1 Q) (nt 3 2 Q)) := Pol.ext fun y => by
  rw [Pol.ev_mul, ev_sp (by decide), ev_three Q y]
  unfold third
  rw [ev_fo]
  show _ * (0 + Pol.ev (sp 3 (third1 Q)) y * y ^ 0 + Pol.ev (sp 3 (third2 Q)) y * y ^ 1 + Pol.ev (sp 3 (third3 Q)) y * y ^ 2) = _
  rw [ev_sp (by decide), ev_sp (by decide), ev_sp (by decide)]
  unfold third1 third2 third3 norm3
  simp only [Pol.ev_sub, Pol.ev_add, Pol.ev_mul, ev_X]
  rw [show y ^ 2 = y * y by rw [Rat.pow_succ, Rat.pow_succ, Rat.pow_zero]; grind, show y ^ 1 = y by rw [Rat.pow_succ, Rat.pow_zero]; grind, Rat.pow_zero]
  generalize Pol.ev (nt 3 0 Q) (y ^ 3) = p
  generalize Pol.ev (nt 3 1 Q) (y ^ 3) = q
  generalize Pol.ev (nt 3 2 Q) (y ^ 3) = r
  rw [y3]
  grind
theorem third_ne {Q : Pol} (h : Q ≠ 0) : third Q ≠ 0 := fun z => by
  have t : ∀ i, i < 3 → thirds Q i = 0 := fun i hi => by
    rw [← nt_fo (n := 3) (by decide) (thirds Q) hi]
    show nt 3 i (third Q) = 0
    rw [z]
    exact Pol.co_ext fun t => by rw [co_nt 3 (by decide)]; exact (co_nil _).trans (co_nil _).symm
  have t1 : third1 Q = 0 := t 0 (by decide)
  have t2 : third2 Q = 0 := t 1 (by decide)
  have t3 : third3 Q = 0 := t 2 (by decide)
  unfold third1 at t1
  unfold third2 at t2
  unfold third3 at t3
  have sum0 : nt 3 0 Q = 0 → nt 3 1 Q = 0 → nt 3 2 Q = 0 → False := fun e0 e1 e2 => h (Pol.ext fun y => by rw [ev_three, e0, e1, e2, Pol.ev_0, Pol.ev_0]; grind)
  generalize nt 3 0 Q = p at t1 t2 t3 sum0
  generalize nt 3 1 Q = q at t1 t2 t3 sum0
  generalize nt 3 2 Q = r at t1 t2 t3 sum0
  have sq : ∀ u : Pol, u * u = 0 → u = 0 := fun u hu => Classical.byContradiction fun w => Pol.mul_ne w w hu
  by_cases r0 : r = 0
  · rw [r0] at t1 t2 t3
    have q0 := sq q (by grind)
    rw [q0] at t1
    exact sum0 (sq p (by grind)) q0 r0
  · have e : p * (p * p) = (xp 1 * xp 1) * (r * (r * r)) := by grind
    have x0 : xp 1 ≠ 0 := fun z => by
      have : Pol.len (xp 1) = Pol.len 0 := congrArg Pol.len z
      exact absurd this (by decide +kernel)
    have x2 : Pol.len (xp 1) = 2 := by decide +kernel
    have rhs := Pol.mul_ne (Pol.mul_ne x0 x0) (Pol.mul_ne r0 (Pol.mul_ne r0 r0))
    have p0 : p ≠ 0 := fun z => rhs (by rw [← e, z]; grind)
    have l1 : Pol.len (p * (p * p)) = Pol.len p + (Pol.len p + Pol.len p - 1) - 1 := by rw [Pol.len_mul p0 (Pol.mul_ne p0 p0), Pol.len_mul p0 p0]
    have l2 : Pol.len ((xp 1 * xp 1) * (r * (r * r))) = (2 + 2 - 1) + (Pol.len r + (Pol.len r + Pol.len r - 1) - 1) - 1 := by rw [Pol.len_mul (Pol.mul_ne x0 x0) (Pol.mul_ne r0 (Pol.mul_ne r0 r0)), Pol.len_mul x0 x0, Pol.len_mul r0 (Pol.mul_ne r0 r0), Pol.len_mul r0 r0, x2]
    rw [e] at l1
    have := Pol.len_pos p0
    have := Pol.len_pos r0
    omega
theorem oth_ne {n : Nat} {Q : Pol} (h : Q ≠ 0) : oth n Q ≠ 0 := by
  unfold oth
  split
  · exact third_ne h
  · split
    · exact tu_ne h
    · exact Pol.mul_ne (tu_ne h) (sp_ne (by decide) (tu_ne (half_ne h)))
theorem oth_mul {n : Nat} (n2 : 2 ≤ n) (n4 : n ≤ 4) (Q : Pol) : Q * oth n Q = sp n (nt n 0 (Q * oth n Q)) := by
  have key : ∃ N, Q * oth n Q = sp n N := by
    unfold oth
    split
    · rename_i h; subst h; exact ⟨_, third_mul Q⟩
    · split
      · rename_i h; subst h; exact ⟨_, (two_sp Q).symm⟩
      · have : n = 4 := by omega
        subst this
        refine ⟨nt 2 0 (half Q * tu (half Q)), ?_⟩
        rw [← sp_sp, two_sp (half Q), sp_mul (by decide)]
        rw [show sp 2 (half Q) = Q * tu Q from two_sp Q]; grind
  obtain ⟨N, e⟩ := key
  rw [e, nt_sp (by omega)]
/-! ### what is parted joins again -/
theorem join_id {n : Nat} (hn : 0 < n) {a : Rat} (a0 : a ≠ 0) (b : Rat) {g : Fra} {T N : Pol} (hT : T ≠ 0) (hN : g.B * T = sp n N) (x : Nat → Fra) (bot : Pol) (c : Nat → Pol)
    (hx : ∀ i, i < n → (x i).A * bx a b N = bx a b (nt n i (g.A * T)) * (x i).B) (hc : ∀ i, i < n → bot = (x i).B * c i) :
    fo (fun i => byy n a b ((x i).A * c i)) n * g.B = g.A * byy n a b bot := by
  have Z0 : T * (g.B * T) ≠ 0 := Pol.mul_ne hT (Pol.mul_ne g.B0 hT)
  refine Pol.eq_of_mul Z0 (Pol.ext fun y => ?_)
  rw [hN]
  simp only [Pol.ev_mul]
  have e1 : Pol.ev g.B y * Pol.ev T y = Pol.ev N (y ^ n) := by rw [← Pol.ev_mul, hN, ev_sp hn]
  have e2 : Pol.ev g.A y * Pol.ev T y = E (fun i => Pol.ev (nt n i (g.A * T)) (y ^ n)) y n := by rw [ev_parts hn, Pol.ev_mul]
  rw [ev_fo, ev_sp hn, ev_byy hn]
  have z : a * ((y ^ n - b) / a) + b = y ^ n := by grind
  have e3 : E (fun i => Pol.ev (byy n a b ((x i).A * c i)) y) y n * Pol.ev N (y ^ n) = Pol.ev bot ((y ^ n - b) / a) * E (fun i => Pol.ev (nt n i (g.A * T)) (y ^ n)) y n := by
    rw [Rat.mul_comm, ← E_mul, ← E_mul]
    refine E_congr fun i hi => ?_
    rw [ev_byy hn, Pol.ev_mul, hc i hi, Pol.ev_mul]
    have q := congrArg (fun p => Pol.ev p ((y ^ n - b) / a)) (hx i hi)
    have q : Pol.ev ((x i).A * bx a b N) ((y ^ n - b) / a) = Pol.ev (bx a b (nt n i (g.A * T)) * (x i).B) ((y ^ n - b) / a) := q
    rw [Pol.ev_mul, Pol.ev_mul, ev_bx a0, ev_bx a0, z] at q
    grind
  grind
end M15

/-! M15s: sizes, all over one number below. -/
namespace M15
open PySem PySem.Spec L2 VL M1 M2 M3 M4 M5 M7
open Pol (cst)
/-- D times it is whole, of at most b bits -/
def Zn (D b : Nat) (P : Pol) : Prop := Pol.IZ (2 ^ b) (cst D * P)
theorem Zn.up {D b c : Nat} {P : Pol} (h : Zn D b P) (g : b ≤ c) : Zn D c P := Pol.IZ.mono h (pw_mono g)
theorem Zn.mul {D E b c : Nat} {p q : Pol} (h : Zn D b p) (g : Zn E c q) (D0 : 0 < D) (hl : Pol.len p ≤ 1000) : Zn (D * E) (b + c + 10) (p * q) := Pol.iz_mul2 h g D0 hl
theorem Zn.add {D b : Nat} {p q : Pol} (h : Zn D b p) (g : Zn D b q) : Zn D (b + 1) (p + q) := by
  unfold Zn
  rw [show cst (D : Rat) * (p + q) = cst D * p + cst D * q by grind, ← Pol.two_pow_add]
  exact Pol.IZ.add h g
theorem Zn.sub {D b : Nat} {p q : Pol} (h : Zn D b p) (g : Zn D b q) : Zn D (b + 1) (p - q) := by
  unfold Zn
  rw [show cst (D : Rat) * (p - q) = cst D * p - cst D * q by grind, ← Pol.two_pow_add]
  exact Pol.IZ.sub h g
theorem Zn.cof {D b : Nat} {P Q : Pol} (h : Zn D b P) (g : ∀ t, (∃ k, co Q.1 t = co P.1 k) ∨ (∃ k, co Q.1 t = - co P.1 k) ∨ co Q.1 t = 0) : Zn D b Q := fun t => by
  rw [Pol.co_cst_mul]
  rcases g t with ⟨k, e⟩ | ⟨k, e⟩ | e
  · obtain ⟨n, e2, l⟩ := h k
    rw [Pol.co_cst_mul] at e2
    exact ⟨n, by rw [e]; exact e2, l⟩
  · obtain ⟨n, e2, l⟩ := h k
    rw [Pol.co_cst_mul] at e2
    exact ⟨-n, by rw [e, Rat.intCast_neg, ← e2]; grind, by rw [Int.natAbs_neg]; exact l⟩
  · exact ⟨0, by rw [e, Rat.mul_zero]; rfl, Nat.zero_le _⟩
theorem Zn.nt {D b n : Nat} {P : Pol} (h : Zn D b P) (hn : 0 < n) (k : Nat) : Zn D b (nt n k P) := h.cof fun t => .inl ⟨_, co_nt n hn k P t⟩
theorem Zn.sp {D b n : Nat} {P : Pol} (h : Zn D b P) (hn : 0 < n) : Zn D b (sp n P) := h.cof fun t => by
  have e : t = t % n + (t / n) * n := by rw [Nat.mul_comm]; exact (Nat.mod_add_div t n).symm
  rw [e, co_sp hn _ _ _ (Nat.mod_lt _ hn)]
  split
  · exact .inl ⟨_, rfl⟩
  · exact .inr (.inr rfl)
theorem pm_one : ∀ t : Nat, (-1 : Rat) ^ t = 1 ∨ (-1 : Rat) ^ t = -1
  | 0 => .inl (Rat.pow_zero _)
  | t + 1 => by
    rw [Rat.pow_succ]
    rcases pm_one t with h | h
    · rw [h]; exact .inr (by grind)
    · rw [h]; exact .inl (by grind)
theorem Zn.tu {D b : Nat} {P : Pol} (h : Zn D b P) : Zn D b (tu P) := h.cof fun t => by
  have e := co_st (-1) P t
  rcases pm_one t with h | h
  · exact .inl ⟨t, by rw [e, h]; grind⟩
  · exact .inr (.inl ⟨t, by rw [e, h]; grind⟩)
theorem Zn.xp (i : Nat) : Zn 1 0 (xp i) := fun t => by
  rw [Pol.co_cst_mul, Pol.co_mono]
  split
  · exact ⟨1, by grind, by decide⟩
  · exact ⟨0, by grind, by decide⟩
theorem Zn.fo {D b : Nat} (D0 : 0 < D) (L : Nat → Pol) : ∀ m, (∀ i, i < m → Zn D b (L i) ∧ Pol.len (L i) ≤ 1000) → Zn D (b + 10 + m) (fo L m)
  | 0, _ => by
    unfold Zn
    show Pol.IZ _ (cst (D : Rat) * 0)
    rw [show cst (D : Rat) * 0 = (0 : Pol) by grind]; exact Pol.iz_zero
  | m + 1, h => by
    have i1 := Zn.fo D0 L m fun i hi => h i (by omega)
    obtain ⟨z, l⟩ := h m (by omega)
    have i2 := (z.mul (Zn.xp m) D0 l).up (show b + 0 + 10 ≤ b + 10 + m by omega)
    rw [Nat.mul_one] at i2
    exact i1.add i2
theorem Zn.st {D b s n : Nat} {P : Pol} {a : Rat} (h : Zn D b P) (ha : RB' s a) (hl : Pol.len P ≤ n) : Zn (D * a.den ^ n) (b + s * n) (st a P) := fun t => by
  rw [Pol.co_cst_mul, co_st]
  by_cases ht : t < n
  · obtain ⟨m, e, l⟩ := h t
    rw [Pol.co_cst_mul] at e
    refine ⟨m * (a.num ^ t * (a.den : Int) ^ (n - t)), ?_, ?_⟩
    · rw [Rat.intCast_mul, ← e, Rat.intCast_mul, Rat.intCast_pow, Rat.intCast_pow, Rat.intCast_natCast, Rat.natCast_mul, Rat.natCast_pow]
      have e2 : (a.den : Rat) ^ n = (a.den : Rat) ^ t * (a.den : Rat) ^ (n - t) := by rw [← rpow_add]; congr 1; omega
      have e3 : (a.num : Rat) ^ t = (a.den : Rat) ^ t * a ^ t := by rw [← rmul_pow, den_mul]
      rw [e2, e3]; grind
    · rw [Int.natAbs_mul, Int.natAbs_mul, Int.natAbs_pow, Int.natAbs_pow]
      have h1 : a.num.natAbs ^ t ≤ 2 ^ (s * t) := by rw [Nat.pow_mul]; exact Nat.pow_le_pow_left (Nat.le_of_lt ha.1) t
      have h2 : (a.den : Int).natAbs ^ (n - t) ≤ 2 ^ (s * (n - t)) := by rw [Nat.pow_mul]; exact Nat.pow_le_pow_left (by simpa using Nat.le_of_lt ha.2) _
      refine Nat.le_trans (Nat.mul_le_mul l (Nat.mul_le_mul h1 h2)) ?_
      rw [← Nat.pow_add, ← Nat.pow_add, ← Nat.mul_add]
      exact pw_mono (by rw [show t + (n - t) = n by omega]; exact Nat.le_refl _)
  · rw [co_out (show P.1.length ≤ t from Nat.le_trans hl (by omega))]
    exact ⟨0, by rw [Rat.zero_mul, Rat.mul_zero]; rfl, Nat.zero_le _⟩
theorem den_le {s : Nat} {c : Rat} (hc : RB' s c) (k : Nat) : c.den ^ k ≤ 2 ^ (s * k) := by
  rw [Nat.pow_mul]; exact Nat.pow_le_pow_left (Nat.le_of_lt hc.2) k
theorem Zn.sh {D b s n : Nat} {A : Pol} {c : Rat} (z : Zn D b A) (D0 : 0 < D) (hc : RB' s c) (hl : Pol.len A ≤ n) : Zn (D * c.den ^ n) (b + (s + 2) * n) (P.sh c A) := by
  have cD := nzD D0
  have hm := mv_int hc (cst D * A).1 z
  have le : (cst D * A).1.length = Pol.len A := Pol.len_cst_mul cD A
  rw [le] at hm
  intro k
  obtain ⟨m, em, lm⟩ := hm k
  have e1 : co (mv c (cst D * A).1) k = D * co (P.sh c A).1 k := by
    have : P.sh c (cst D * A) = cst D * P.sh c A := by rw [P.sh_mul, P.sh_cst]
    have h2 := congrArg (fun z : Pol => co z.1 k) this
    exact h2.trans (Pol.co_cst_mul _ _ _)
  rw [e1] at em
  refine ⟨(c.den : Int) ^ (n - Pol.len A) * m, ?_, ?_⟩
  · rw [Pol.co_cst_mul, Rat.intCast_mul, ← em, Rat.intCast_pow, Rat.intCast_natCast, Rat.natCast_mul, Rat.natCast_pow]
    have : (c.den : Rat) ^ n = (c.den : Rat) ^ (n - Pol.len A) * (c.den : Rat) ^ (Pol.len A) := by
      rw [← rpow_add]; congr 1; omega
    rw [this]; grind
  · rw [Int.natAbs_mul, Int.natAbs_pow]
    have h3 : (c.den : Int).natAbs ^ (n - Pol.len A) ≤ 2 ^ ((s + 2) * (n - Pol.len A)) := Nat.le_trans (by simpa using den_le hc (n - Pol.len A)) (pw_mono (Nat.mul_le_mul_right _ (by omega)))
    refine Nat.le_trans (Nat.mul_le_mul h3 lm) ?_
    rw [← Nat.pow_add, ← Nat.pow_add]
    refine pw_mono ?_
    have : (s + 2) * n = (s + 2) * (n - Pol.len A) + (s + 2) * Pol.len A := by rw [← Nat.mul_add]; congr 1; omega
    omega
theorem Zn.jb {D b : Nat} {p q : Pol} (h : Zn D b p) (g : Zn D b q) (D0 : 0 < D) (Db : D ≤ 2 ^ b) : Pol.JB b p q := ⟨D, D0, Db, h, g⟩
theorem Zn.fb {D b : Nat} {p : Pol} (h : Zn D b p) (D0 : 0 < D) (Db : D ≤ 2 ^ b) : Fb b b p.1 := (h.jb h D0 Db).fb.1
theorem zn_of {b : Nat} {p : Pol} (h : Fb b b p.1) : ∃ D, 0 < D ∧ D ≤ 2 ^ b ∧ Zn D b p := Pol.fb_iz h
/-! ### lengths -/
theorem nth_len' {n : Nat} (hn : 0 < n) : ∀ (l : List Rat) (k : Nat), k < n → n * (nthL n k l).length ≤ (l.length - k) + (n - 1)
  | [], k, _ => by
    have : nthL n k ([] : List Rat) = [] := by cases k <;> rfl
    rw [this]; simp
  | x :: xs, 0, _ => by
    show n * ((nthL n (n - 1) xs).length + 1) ≤ _
    have ih := nth_len' hn xs (n - 1) (by omega)
    rw [Nat.mul_add, List.length_cons]
    by_cases h : n - 1 ≤ xs.length
    · omega
    · have : n * (nthL n (n - 1) xs).length < n * 1 := by omega
      have := Nat.lt_of_mul_lt_mul_left this
      have : (nthL n (n - 1) xs).length = 0 := by omega
      rw [this]; omega
  | x :: xs, k + 1, h => by
    show n * (nthL n k xs).length ≤ _
    have ih := nth_len' hn xs k (by omega)
    rw [List.length_cons]; omega
theorem len_nt {n k : Nat} (hk : k < n) (P : Pol) : n * Pol.len (nt n k P) ≤ Pol.len P + (n - 1) := by
  have h1 : Pol.len (nt n k P) ≤ (nthL n k P.1).length := trim_le _
  have h2 := nth_len' (show 0 < n by omega) P.1 k hk
  have h3 := Nat.mul_le_mul_left n h1
  have : P.1.length = Pol.len P := rfl
  omega
theorem spl_len {n : Nat} (hn : 0 < n) : ∀ l, (spl n l).length = n * l.length
  | [] => rfl
  | a :: l => by
    show (List.replicate (n - 1) 0 ++ spl n l).length + 1 = n * (l.length + 1)
    rw [List.length_append, List.length_replicate, spl_len hn l, Nat.mul_add]; omega
theorem len_sp {n : Nat} (hn : 0 < n) (P : Pol) : Pol.len (sp n P) ≤ n * Pol.len P := by
  have h1 : Pol.len (sp n P) ≤ (spl n P.1).length := trim_le _
  rw [spl_len hn] at h1
  exact h1
theorem len_xp (i : Nat) : Pol.len (xp i) ≤ i + 1 := Pol.len_mono_le 1 i
theorem len_fo {l : Nat} (L : Nat → Pol) : ∀ m, (∀ i, i < m → Pol.len (L i) ≤ l) → Pol.len (fo L m) ≤ l + m
  | 0, _ => by show 0 ≤ _; omega
  | m + 1, h => by
    have i1 := len_fo L m fun i hi => h i (by omega)
    have i2 := Pol.len_mul_le (L m) (xp m)
    have i3 := len_xp m
    have i4 := h m (by omega)
    have i5 := Pol.len_add_le (fo L m) (L m * xp m)
    show Pol.len (fo L m + L m * xp m) ≤ _
    omega
theorem len_bx (a b : Rat) (P : Pol) : Pol.len (bx a b P) ≤ Pol.len P := by
  unfold bx
  rw [M7.P.len_sh]
  exact len_st a P
theorem len_byy {n : Nat} (hn : 0 < n) (a b : Rat) (P : Pol) : Pol.len (byy n a b P) ≤ n * Pol.len P := by
  unfold byy
  refine Nat.le_trans (len_sp hn _) (Nat.mul_le_mul_left n ?_)
  rw [M7.P.len_sh]
  exact len_st _ P
theorem Zn.bx {D b n : Nat} {P : Pol} {x y : Rat} {s s' : Nat} (h : Zn D b P) (D0 : 0 < D) (hx : RB' s x) (hy : RB' s' (y / x)) (hl : Pol.len P ≤ n) : Zn (D * x.den ^ n * (y / x).den ^ n) (b + s * n + (s' + 2) * n) (bx x y P) :=
  (h.st hx hl).sh (Nat.mul_pos D0 (Nat.pow_pos x.den_pos)) hy (Nat.le_trans (len_st x P) hl)
theorem Zn.byy {D b n m : Nat} {P : Pol} {x y : Rat} {s s' : Nat} (h : Zn D b P) (D0 : 0 < D) (hm : 0 < m) (hx : RB' s (1 / x)) (hy : RB' s' (-y)) (hl : Pol.len P ≤ n) : Zn (D * (1 / x).den ^ n * (-y).den ^ n) (b + s * n + (s' + 2) * n) (byy m x y P) :=
  ((h.st hx hl).sh (Nat.mul_pos D0 (Nat.pow_pos (1 / x).den_pos)) hy (Nat.le_trans (len_st _ P) hl)).sp hm
/-! ### the other factor's size -/
theorem oth_zn {n D b : Nat} {Q : Pol} (h : Zn D b Q) (D0 : 0 < D) (Db : D ≤ 2 ^ b) (hl : Pol.len Q ≤ 60) : ∃ E, 0 < E ∧ E ≤ 2 ^ (3 * b) ∧ Zn E (3 * b + 60) (oth n Q) := by
  have DD : D * D ≤ 2 ^ (b + b) := by rw [Nat.pow_add]; exact Nat.mul_le_mul Db Db
  have D2 := Nat.mul_pos D0 D0
  have ln : ∀ m k, k < m → Pol.len (M15.nt m k Q) ≤ 60 := fun m k hk => by
    have h1 : Pol.len (M15.nt m k Q) ≤ (nthL m k Q.1).length := trim_le _
    have h2 := HT.nth_len m Q.1 k
    have : Q.1.length = Pol.len Q := rfl
    omega
  unfold oth
  split
  · refine ⟨D * D, D2, Nat.le_trans DD (pw_mono (by omega)), ?_⟩
    have p := h.nt (n := 3) (by decide) 0
    have q := h.nt (n := 3) (by decide) 1
    have r := h.nt (n := 3) (by decide) 2
    have lp := ln 3 0 (by decide)
    have lq := ln 3 1 (by decide)
    have lr := ln 3 2 (by decide)
    have x1 : ∀ u : Pol, Zn (D * D) (b + b + 10) u → Zn (D * D) (b + b + 20) (M15.xp 1 * u) := fun u hu => by
      have := (Zn.xp 1).mul hu (by decide) (by have := len_xp 1; omega)
      rw [Nat.one_mul] at this
      exact this.up (by omega)
    have t1 : Zn (D * D) (b + b + 21) (third1 Q) := ((p.mul p D0 (by omega)).up (by omega)).sub (x1 _ (q.mul r D0 (by omega)))
    have t2 : Zn (D * D) (b + b + 21) (third2 Q) := (x1 _ (r.mul r D0 (by omega))).sub ((p.mul q D0 (by omega)).up (by omega))
    have t3 : Zn (D * D) (b + b + 21) (third3 Q) := ((q.mul q D0 (by omega)).up (by omega)).sub ((p.mul r D0 (by omega)).up (by omega))
    have lx := len_xp 1
    have ml := fun u v => Pol.len_mul_le u v
    have lm : ∀ u v : Pol, Pol.len u ≤ 200 → Pol.len v ≤ 200 → Pol.len (u - v) ≤ 200 := fun u v h1 h2 => by
      have := Pol.len_sub_le u v
      omega
    have lt : ∀ i, Zn (D * D) (b + b + 21) (thirds Q i) ∧ Pol.len (thirds Q i) ≤ 200 := fun i => by
      match i with
      | 0 => exact ⟨t1, lm _ _ (by have := ml (M15.nt 3 0 Q) (M15.nt 3 0 Q); omega) (by have := ml (M15.nt 3 1 Q) (M15.nt 3 2 Q); have := ml (M15.xp 1) (M15.nt 3 1 Q * M15.nt 3 2 Q); omega)⟩
      | 1 => exact ⟨t2, lm _ _ (by have := ml (M15.nt 3 2 Q) (M15.nt 3 2 Q); have := ml (M15.xp 1) (M15.nt 3 2 Q * M15.nt 3 2 Q); omega) (by have := ml (M15.nt 3 0 Q) (M15.nt 3 1 Q); omega)⟩
      | i + 2 => exact ⟨t3, lm _ _ (by have := ml (M15.nt 3 1 Q) (M15.nt 3 1 Q); omega) (by have := ml (M15.nt 3 0 Q) (M15.nt 3 2 Q); omega)⟩
    refine (Zn.fo D2 (fun j => M15.sp 3 (thirds Q j)) 3 fun i _ => ⟨(lt i).1.sp (by decide), ?_⟩).up (by omega)
    have := len_sp (n := 3) (by decide) (thirds Q i)
    have := (lt i).2
    omega
  · split
    · exact ⟨D, D0, Nat.le_trans Db (pw_mono (by omega)), h.tu.up (by omega)⟩
    · have hh : Zn (D * D) (b + b + 10) (half Q) := (h.mul h.tu D0 (by omega)).nt (by decide) 0
      refine ⟨D * (D * D), Nat.mul_pos D0 D2, ?_, (h.tu.mul (hh.tu.sp (by decide)) D0 (by have : Pol.len (M15.tu Q) ≤ Pol.len Q := len_st (-1) Q; omega)).up (by omega)⟩
      refine Nat.le_trans (Nat.mul_le_mul Db DD) ?_
      rw [← Nat.pow_add]
      exact pw_mono (by omega)
/-- how long the other factor is -/
def ol (n m : Nat) : Nat := if n = 3 then 6 * ((m + 2) / 3) + 3 else if n = 2 then m else 3 * m
theorem oth_len {n m : Nat} {Q : Pol} (m1 : 1 ≤ m) (hl : Pol.len Q ≤ m) : Pol.len (oth n Q) ≤ ol n m := by
  unfold oth ol
  split
  · have l0 := len_nt (n := 3) (k := 0) (by decide) Q
    have l1 := len_nt (n := 3) (k := 1) (by decide) Q
    have l2 := len_nt (n := 3) (k := 2) (by decide) Q
    have lx := len_xp 1
    have ml := fun u v => Pol.len_mul_le u v
    have lm : ∀ (l : Nat) (u v : Pol), Pol.len u ≤ l → Pol.len v ≤ l → Pol.len (u - v) ≤ l := fun l u v h1 h2 => by
      have := Pol.len_sub_le u v
      omega
    have lt : ∀ i, Pol.len (thirds Q i) ≤ 2 * ((m + 2) / 3) := fun i => by
      match i with
      | 0 => exact lm _ _ _ (by have := ml (M15.nt 3 0 Q) (M15.nt 3 0 Q); omega) (by have := ml (M15.nt 3 1 Q) (M15.nt 3 2 Q); have := ml (M15.xp 1) (M15.nt 3 1 Q * M15.nt 3 2 Q); omega)
      | 1 => exact lm _ _ _ (by have := ml (M15.nt 3 2 Q) (M15.nt 3 2 Q); have := ml (M15.xp 1) (M15.nt 3 2 Q * M15.nt 3 2 Q); omega) (by have := ml (M15.nt 3 0 Q) (M15.nt 3 1 Q); omega)
      | i + 2 => exact lm _ _ _ (by have := ml (M15.nt 3 1 Q) (M15.nt 3 1 Q); omega) (by have := ml (M15.nt 3 0 Q) (M15.nt 3 2 Q); omega)
    have := len_fo (l := 6 * ((m + 2) / 3)) (fun j => M15.sp 3 (thirds Q j)) 3 fun i _ => by
      have := len_sp (n := 3) (by decide) (thirds Q i)
      have := lt i
      omega
    exact this
  · split
    · exact Nat.le_trans (len_st _ _) hl
    · have h1 : Pol.len (tu Q) ≤ Pol.len Q := len_st (-1) Q
      have h2 := Pol.len_mul_le Q (tu Q)
      have h3 : 2 * Pol.len (half Q) ≤ _ := len_nt (n := 2) (k := 0) (by decide) (Q * tu Q)
      have h4 : Pol.len (tu (half Q)) ≤ Pol.len (half Q) := len_st (-1) (half Q)
      have h5 := len_sp (n := 2) (by decide) (tu (half Q))
      have h6 := Pol.len_mul_le (tu Q) (sp 2 (tu (half Q)))
      omega
/-! ### what divides a common multiple -/
theorem cof_zn {D b n m : Nat} {M bot h : Pol} (x : Nat → Fra) (S c : Nat → Pol) (D0 : 0 < D) (hM : Zn D b M) (hS : ∀ i, i < m → Zn D b (S i)) (M0 : M ≠ 0) (e : M = bot * h) (l1 : bot.lead = 1) (lM : Pol.len M ≤ n) (lS : ∀ i, i < m → Pol.len (S i) ≤ n) (n1 : n ≤ 100)
    (hx : ∀ i, i < m → (x i).A * M = S i * (x i).B) (hc : ∀ i, i < m → bot = (x i).B * c i) :
    (∀ i, i < m → (x i).A * c i * h = S i) ∧ ∃ E, 0 < E ∧ E ≤ 2 ^ (b + Pol.cz n) ∧ Zn E (b + Pol.cz n) bot ∧ ∀ i, i < m → Zn E (b + Pol.cz n) ((x i).A * c i) := by
  have key : ∀ i, i < m → (x i).A * c i * h = S i := fun i hi => by
    refine Pol.eq_of_mul (x i).B0 ?_
    rw [← hx i hi, e, hc i hi]; grind
  refine ⟨key, ?_⟩
  have h0 : h ≠ 0 := fun z => M0 (by rw [e, z]; grind)
  obtain ⟨t, t0, pt⟩ := Pol.prim_ex h0
  have zb := Pol.whole_cof e hM D0 t0 pt lM n1
  have zs : ∀ i, i < m → Pol.IZ (2 ^ (b + Pol.cz n)) (cst (D / t) * ((x i).A * c i)) := fun i hi => Pol.whole_cof (key i hi).symm (hS i hi) D0 t0 pt (lS i hi) n1
  obtain ⟨d, ed, ld⟩ := zb (bot.1.length - 1)
  rw [Pol.co_cst_mul, show co bot.1 (bot.1.length - 1) = 1 from l1, Rat.mul_one] at ed
  have cD := nzD D0
  have d0 : d ≠ 0 := fun z => by
    rw [z] at ed
    have : (D : Rat) / t ≠ 0 := by
      intro w
      have : (D : Rat) = D / t * t := by grind
      rw [w] at this
      exact cD (by rw [this]; grind)
    exact this (by rw [ed]; rfl)
  have tr : ∀ P : Pol, Pol.IZ (2 ^ (b + Pol.cz n)) (cst (D / t) * P) → Zn d.natAbs (b + Pol.cz n) P := fun P hP k => by
    obtain ⟨v, ev, lv⟩ := hP k
    rw [Pol.co_cst_mul, ed] at ev
    rw [Pol.co_cst_mul]
    rcases Int.natAbs_eq d with w | w
    · refine ⟨v, ?_, lv⟩
      rw [← ev]
      congr 1
      rw [← Rat.intCast_natCast, ← w]
    · refine ⟨-v, ?_, by rw [Int.natAbs_neg]; exact lv⟩
      have : ((d.natAbs : Nat) : Rat) = -(d : Rat) := by
        rw [← Rat.intCast_natCast, ← Rat.intCast_neg]; congr 1; omega
      rw [this, Rat.intCast_neg, ← ev]; grind
  exact ⟨d.natAbs, by omega, ld, tr _ zb, fun i hi => tr _ (zs i hi)⟩
end M15

/-! M15: polynomials in a root y: parted, joined; the draws of the laws k43 and k44. -/
namespace M15
open PySem PySem.Spec L2 VL M1 M2 M3 M4 M5 M6 M7
open Pol (cst)
abbrev f_letter_to : Nat := 80
abbrev f_stretched : Nat := 81
abbrev f_spread_out : Nat := 82
abbrev f_every_nth : Nat := 83
abbrev f_laid_in : Nat := 84
abbrev f_by_y : Nat := 85
abbrev f_by_x : Nat := 86
abbrev f_turned : Nat := 87
abbrev f_third_factor : Nat := 88
abbrev f_other_factor : Nat := 89
abbrev f_parted : Nat := 90
abbrev f_shared_bottom : Nat := 91
abbrev f_joined : Nat := 92
abbrev f_law_source15 : Nat := 93
abbrev f_law_take15 : Nat := 94
abbrev f_law_number15 : Nat := 95
abbrev f_law_kind15 : Nat := 96
abbrev f_law_poly15 : Nat := 97
abbrev f_law_fraction15 : Nat := 98
abbrev f_law_is_number15 : Nat := 99
abbrev f_law_is_fraction15 : Nat := 100
abbrev f_p_moved15 : Nat := 101
/-- letter_to: 0 n -/
def b_letter_to : Ss := ss [.ret (.call f_poly (.cons (.bin .add (.bin .mul (.lst (.cons (.glo (.tup [.int 0, .int 1])) .nil)) (.var 0)) (.lst (.cons (.glo (.tup [.int 1, .int 1])) .nil))) .nil))]
/-- stretched: 0 P, 1 c, 2 k, 3 number -/
def b_stretched : Ss := ss [.ret (.call f_poly (.cons (.lc (.call f_times (.cons (.var 3) (.cons (.call f_power (.cons (.var 1) (.cons (.var 2) .nil))) .nil))) (.tp [2, 3]) (.enum (.var 0)) [2, 3] .no) .nil))]
/-- spread_out: 0 P, 1 n, 2 row, 3 number -/
def b_spread_out : Ss := ss [.asg 2 (.lst .nil),
  .for (.nm 3) (.seq (.var 0)) (ss [.ex (.mth .extend 2 (.cons (.bin .add (.lst (.cons (.var 3) .nil)) (.bin .mul (.lst (.cons (.glo (.tup [.int 0, .int 1])) .nil)) (.bin .sub (.var 1) (.int 1)))) .nil))]),
  .ret (.call f_poly (.cons (.var 2) .nil))]
/-- every_nth: 0 P, 1 n, 2 i -/
def b_every_nth : Ss := ss [.ret (.lc (.call f_poly (.cons (.blt .list (.cons (.slk (.var 0) (.yes (.var 2)) (.yes (.var 1))) .nil)) .nil)) (.nm 2) (.rng1 (.var 1)) [2] .no)]
/-- laid_in: 0 parts, 1 n, 2 whole, 3 i, 4 part -/
def b_laid_in : Ss := ss [.asg 2 (.tup .nil),
  .for (.tp [3, 4]) (.enum (.var 0)) (ss [.asg 2 (.call f_p_plus (.cons (.var 2) (.cons (.call f_p_times (.cons (.call f_spread_out (.cons (.var 4) (.cons (.var 1) .nil))) (.cons (.call f_letter_to (.cons (.var 3) .nil)) .nil))) .nil)))]),
  .ret (.var 2)]
/-- by_y: 0 kind, 1 P, 2 n, 3 a, 4 b -/
def b_by_y : Ss := ss [.asgT [2, 3, 4] (.var 0),
  .ret (.call f_spread_out (.cons (.call f_p_moved15 (.cons (.call f_stretched (.cons (.var 1) (.cons (.call f_over (.cons (.glo (.tup [.int 1, .int 1])) (.cons (.var 3) .nil))) .nil))) (.cons (.call f_minus (.cons (.glo (.tup [.int 0, .int 1])) (.cons (.var 4) .nil))) .nil))) (.cons (.var 2) .nil)))]
/-- by_x: 0 kind, 1 P, 2 n, 3 a, 4 b -/
def b_by_x : Ss := ss [.asgT [2, 3, 4] (.var 0),
  .ret (.call f_p_moved15 (.cons (.call f_stretched (.cons (.var 1) (.cons (.var 3) .nil))) (.cons (.call f_over (.cons (.var 4) (.cons (.var 3) .nil))) .nil)))]
/-- turned: 0 P -/
def b_turned : Ss := ss [.ret (.call f_stretched (.cons (.var 0) (.cons (.tup (.cons (.neg (.int 1)) (.cons (.int 1) .nil))) .nil)))]
/-- third_factor: 0 Q, 1 w, 2 p, 3 q, 4 r, 5 first, 6 second -/
def b_third_factor : Ss := ss [.asg 1 (.call f_letter_to (.cons (.int 1) .nil)),
  .asgT [2, 3, 4] (.call f_every_nth (.cons (.var 0) (.cons (.int 3) .nil))),
  .asg 5 (.call f_p_minus (.cons (.call f_p_times (.cons (.var 2) (.cons (.var 2) .nil))) (.cons (.call f_p_times (.cons (.var 1) (.cons (.call f_p_times (.cons (.var 3) (.cons (.var 4) .nil))) .nil))) .nil))),
  .asg 6 (.call f_p_minus (.cons (.call f_p_times (.cons (.var 1) (.cons (.call f_p_times (.cons (.var 4) (.cons (.var 4) .nil))) .nil))) (.cons (.call f_p_times (.cons (.var 2) (.cons (.var 3) .nil))) .nil))),
  .ret (.call f_laid_in (.cons (.lst (.cons (.var 5) (.cons (.var 6) (.cons (.call f_p_minus (.cons (.call f_p_times (.cons (.var 3) (.cons (.var 3) .nil))) (.cons (.call f_p_times (.cons (.var 2) (.cons (.var 4) .nil))) .nil))) .nil)))) (.cons (.int 3) .nil)))]
/-- other_factor: 0 Q, 1 n, 2 other, 3 half -/
def b_other_factor : Ss := ss [.ite (.cmp .eq (.var 1) (.int 3)) (ss [.ret (.call f_third_factor (.cons (.var 0) .nil))]) (ss []),
  .asg 2 (.call f_turned (.cons (.var 0) .nil)),
  .ite (.cmp .eq (.var 1) (.int 2)) (ss [.ret (.var 2)]) (ss []),
  .asg 3 (.ix (.call f_every_nth (.cons (.call f_p_times (.cons (.var 0) (.cons (.var 2) .nil))) (.cons (.int 2) .nil))) (.int 0)),
  .ret (.call f_p_times (.cons (.var 2) (.cons (.call f_spread_out (.cons (.call f_turned (.cons (.var 3) .nil)) (.cons (.int 2) .nil))) .nil)))]
/-- parted: 0 kind, 1 g, 2 n, 3 other, 4 bottom, 5 tops, 6 top -/
def b_parted : Ss := ss [.asg 2 (.ix (.var 0) (.int 0)),
  .asg 3 (.call f_other_factor (.cons (.ix (.var 1) (.int 1)) (.cons (.var 2) .nil))),
  .asg 4 (.call f_by_x (.cons (.var 0) (.cons (.ix (.call f_every_nth (.cons (.call f_p_times (.cons (.ix (.var 1) (.int 1)) (.cons (.var 3) .nil))) (.cons (.var 2) .nil))) (.int 0)) .nil))),
  .asg 5 (.call f_every_nth (.cons (.call f_p_times (.cons (.ix (.var 1) (.int 0)) (.cons (.var 3) .nil))) (.cons (.var 2) .nil))),
  .ret (.blt .tuple (.cons (.lc (.call f_fraction (.cons (.call f_by_x (.cons (.var 0) (.cons (.var 6) .nil))) (.cons (.var 4) .nil))) (.nm 6) (.seq (.var 5)) [6] .no) .nil))]
/-- shared_bottom: 0 parts, 1 bottom, 2 top, 3 own -/
def b_shared_bottom : Ss := ss [.asg 1 (.tup (.cons (.glo (.tup [.int 1, .int 1])) .nil)),
  .for (.tp [2, 3]) (.seq (.var 0)) (ss [.asg 1 (.call f_p_times (.cons (.var 1) (.cons (.ix (.call f_p_split (.cons (.var 3) (.cons (.call f_common (.cons (.var 1) (.cons (.var 3) .nil))) .nil))) (.int 0)) .nil)))]),
  .ret (.var 1)]
/-- joined: 0 kind, 1 parts, 2 bottom, 3 tops, 4 top, 5 own, 6 total, 7 i -/
def b_joined : Ss := ss [.asg 2 (.call f_shared_bottom (.cons (.var 1) .nil)),
  .asg 3 (.lst .nil),
  .for (.tp [4, 5]) (.seq (.var 1)) (ss [.ex (.mth .append 3 (.cons (.call f_by_y (.cons (.var 0) (.cons (.call f_p_times (.cons (.var 4) (.cons (.ix (.call f_p_split (.cons (.var 2) (.cons (.var 5) .nil))) (.int 0)) .nil))) .nil))) .nil))]),
  .asg 6 (.tup .nil),
  .for (.tp [7, 4]) (.enum (.var 3)) (ss [.asg 6 (.call f_p_plus (.cons (.var 6) (.cons (.call f_p_times (.cons (.var 4) (.cons (.call f_letter_to (.cons (.var 7) .nil)) .nil))) .nil)))]),
  .ret (.call f_fraction (.cons (.var 6) (.cons (.call f_by_y (.cons (.var 0) (.cons (.var 2) .nil))) .nil)))]
/-- law_source15: 0 law_script, 1 law_k, 2 law_cell, 3 law_some, 4 law_more, 5 law_number_here, 6 law_j -/
def b_law_source15 : Ss := ss [.asg 2 (.int 0),
  .ite (.cmp .gt (.blt .len (.cons (.var 0) .nil)) (.int 1)) (ss [.asg 2 (.ix (.var 0) (.bin .add (.int 1) (.bin .mod (.var 1) (.bin .sub (.blt .len (.cons (.var 0) .nil)) (.int 1)))))]) (ss []),
  .asg 3 (.bin .mod (.bin .mul (.bin .add (.bin .add (.bin .add (.bin .mod (.var 2) (.int 2147483647)) (.bin .mul (.int 7919) (.var 1))) (.bin .mod (.blt .sum (.cons (.sl (.var 0) .no (.yes (.int 1))) .nil)) (.int 99991))) (.int 11)) (.int 48271)) (.int 2147483629)),
  .asg 4 (.bin .mod (.bin .mul (.var 3) (.var 3)) (.int 1999999973)),
  .asg 5 (.int 0),
  .for (.nm 6) (.rng1 (.int 9)) (ss [.asg 4 (.bin .mod (.bin .add (.bin .add (.bin .mul (.var 4) (.int 99991)) (.var 3)) (.bin .mul (.int 39373) (.var 6))) (.int 1999999973)),
  .asg 5 (.bin .add (.bin .mul (.var 5) (.int 1999999973)) (.var 4))]),
  .ite (.and (.cmp .gt (.blt .len (.cons (.var 0) .nil)) (.int 0)) (.cmp .eq (.bin .mod (.ix (.var 0) (.int 0)) (.int 2)) (.int 0))) (ss [.ret (.lst (.cons (.blt .abs (.cons (.var 2) .nil)) (.cons (.var 5) .nil)))]) (ss []),
  .ret (.lst (.cons (.var 5) (.cons (.int 0) .nil)))]
/-- law_take15: 0 law_source_here, 1 law_many, 2 law_digit -/
def b_law_take15 : Ss := ss [.ite (.cmp .eq (.ix (.var 0) (.int 0)) (.int 0)) (ss [.asgX 0 (.int 0) (.int 1) (.tup (.cons (.ix (.var 0) (.int 1)) (.cons (.int 0) .nil)))]) (ss []),
  .asg 2 (.bin .mod (.ix (.var 0) (.int 0)) (.var 1)),
  .sub 0 (.int 0) (.bin .fdiv (.ix (.var 0) (.int 0)) (.var 1)),
  .ret (.var 2)]
/-- law_number15: 0 law_source_here, 1 law_how -/
def b_law_number15 : Ss := ss [.asg 1 (.call f_law_take15 (.cons (.var 0) (.cons (.int 99) .nil))),
  .ite (.cmp .lt (.var 1) (.int 70)) (ss [.ret (.call f_ratio (.cons (.bin .sub (.call f_law_take15 (.cons (.var 0) (.cons (.int 7) .nil))) (.int 3)) (.cons (.int 1) .nil)))]) (ss []),
  .ite (.cmp .lt (.var 1) (.int 98)) (ss [.ret (.call f_ratio (.cons (.bin .sub (.call f_law_take15 (.cons (.var 0) (.cons (.int 19) .nil))) (.int 9)) (.cons (.bin .add (.int 1) (.call f_law_take15 (.cons (.var 0) (.cons (.int 6) .nil)))) .nil)))]) (ss []),
  .ret (.call f_ratio (.cons (.bin .add (.bin .sub (.call f_law_take15 (.cons (.var 0) (.cons (.bin .sub (.bin .mul (.int 2) (.bin .pow (.int 10) (.int 12))) (.int 1)) .nil))) (.bin .pow (.int 10) (.int 12))) (.int 1)) (.cons (.bin .add (.int 1) (.call f_law_take15 (.cons (.var 0) (.cons (.bin .pow (.int 10) (.int 6)) .nil)))) .nil)))]
/-- law_kind15: 0 law_source_here, 1 law_a -/
def b_law_kind15 : Ss := ss [.asg 1 (.call f_law_number15 (.cons (.var 0) .nil)),
  .ite (.cmp .eq (.var 1) (.tup (.cons (.int 0) (.cons (.int 1) .nil)))) (ss [.asg 1 (.tup (.cons (.bin .add (.int 1) (.call f_law_take15 (.cons (.var 0) (.cons (.int 3) .nil)))) (.cons (.int 1) .nil)))]) (ss []),
  .ret (.tup (.cons (.bin .add (.int 2) (.call f_law_take15 (.cons (.var 0) (.cons (.int 3) .nil)))) (.cons (.var 1) (.cons (.call f_law_number15 (.cons (.var 0) .nil)) .nil))))]
/-- law_poly15: 0 law_source_here, 1 law_most, 2 law_k -/
def b_law_poly15 : Ss := ss [.ret (.call f_poly (.cons (.lc (.call f_law_number15 (.cons (.var 0) .nil)) (.nm 2) (.rng1 (.bin .add (.int 1) (.call f_law_take15 (.cons (.var 0) (.cons (.bin .add (.var 1) (.int 1)) .nil))))) [2] .no) .nil))]
/-- law_fraction15: 0 law_source_here, 1 law_top, 2 law_bottom, 3 law_kp, 4 law_kq -/
def b_law_fraction15 : Ss := ss [.asg 3 (.call f_law_poly15 (.cons (.var 0) (.cons (.var 1) .nil))),
  .asg 4 (.call f_law_poly15 (.cons (.var 0) (.cons (.var 2) .nil))),
  .ite (.cmp .eq (.var 4) (.tup .nil)) (ss [.asg 4 (.tup (.cons (.tup (.cons (.int 1) (.cons (.int 1) .nil))) .nil))]) (ss []),
  .ret (.call f_fraction (.cons (.var 3) (.cons (.var 4) .nil)))]
/-- law_is_number15: 0 law_found, 1 law_part -/
def b_law_is_number15 : Ss := ss [.ite (.or (.not (.tru (.isi (.var 0) .tuple))) (.cmp .ne (.blt .len (.cons (.var 0) .nil)) (.int 2))) (ss [.ret (.bl false)]) (ss []),
  .for (.nm 1) (.seq (.var 0)) (ss [.ite (.or (.not (.tru (.isi (.var 1) .int))) (.tru (.isi (.var 1) .bool))) (ss [.ret (.bl false)]) (ss [])]),
  .ret (.cmp .gt (.ix (.var 0) (.int 1)) (.int 0))]
/-- law_is_fraction15: 0 law_found, 1 law_row, 2 law_one -/
def b_law_is_fraction15 : Ss := ss [.ite (.or (.not (.tru (.isi (.var 0) .tuple))) (.cmp .ne (.blt .len (.cons (.var 0) .nil)) (.int 2))) (ss [.ret (.bl false)]) (ss []),
  .for (.nm 1) (.seq (.var 0)) (ss [.ite (.or (.not (.tru (.isi (.var 1) .tuple))) (.not (.tru (.blt .all (.cons (.lc (.call f_law_is_number15 (.cons (.var 2) .nil)) (.nm 2) (.seq (.var 1)) [2] .no) .nil))))) (ss [.ret (.bl false)]) (ss [])]),
  .ret (.bl true)]
/-- p_moved15: 0 P, 1 c, 2 found, 3 one -/
def b_p_moved15 : Ss := ss [.asg 2 (.tup .nil),
  .for (.nm 3) (.rev (.var 0)) (ss [.asg 2 (.call f_p_plus (.cons (.call f_p_times (.cons (.var 2) (.cons (.call f_poly (.cons (.lst (.cons (.var 1) (.cons (.glo (.tup [.int 1, .int 1])) .nil))) .nil)) .nil))) (.cons (.call f_poly (.cons (.lst (.cons (.var 3) .nil)) .nil)) .nil)))]),
  .ret (.var 2)]
def dK (n : Nat) (a b : Rat) : VL.D := .tup [.int n, dR a, dR b]
structure Kn (n : Nat) (a b : Rat) : Prop where
  n2 : 2 ≤ n
  n4 : n ≤ 4
  a0 : a ≠ 0
  ra : RB' 42 a
  rb : RB' 42 b
/-- the parts of a list of polynomials -/
def dPs (n : Nat) (L : Nat → Pol) : List VL.D := (List.range n).map fun i => dP (L i).1
def vLetterTo : VF := ⟨.read, fun ds q => ∃ n : Nat, ds = [.int n] ∧ n ≤ 8 ∧ q (.val (dP (xp n).1)) none⟩
def vStretched : VF := ⟨.read, fun ds q => ∃ (P : Pol) (c : Rat) (b s : Nat), ds = [dP P.1, dR c] ∧ PB b P.1 ∧ RB' s c ∧ 1 ≤ b ∧ b ≤ 60000000 ∧ Pol.len P ≤ 100 ∧ s * 100 + 1 ≤ 60000000 ∧ q (.val (dP (st c P).1)) none⟩
def vSpreadOut : VF := ⟨.read, fun ds q => ∃ (P : Pol) (n : Nat), ds = [dP P.1, .int n] ∧ 1 ≤ n ∧ n ≤ 4 ∧ Pol.len P ≤ 100 ∧ q (.val (dP (sp n P).1)) none⟩
def vEveryNth : VF := ⟨.read, fun ds q => ∃ (P : Pol) (n : Nat), ds = [dP P.1, .int n] ∧ 2 ≤ n ∧ n ≤ 4 ∧ Pol.len P ≤ 1000 ∧ q (.fresh (dPs n fun i => nt n i P)) none⟩
def vLaidIn : VF := ⟨.read, fun ds q => ∃ (L : Nat → Pol) (b : Nat), ds = [.lst (dPs 3 L), .int 3] ∧ (∀ i, Fb b b (L i).1 ∧ Pol.len (L i) ≤ 60) ∧ b ≤ 1000000 ∧ q (.val (dP (fo (fun j => sp 3 (L j)) 3).1)) none⟩
def vByY : VF := ⟨.read, fun ds q => ∃ (n : Nat) (a b : Rat) (P : Pol) (c : Nat), ds = [dK n a b, dP P.1] ∧ Kn n a b ∧ Fb c c P.1 ∧ Pol.len P ≤ 60 ∧ c ≤ 1000000 ∧ q (.val (dP (byy n a b P).1)) none⟩
def vByX : VF := ⟨.read, fun ds q => ∃ (n : Nat) (a b : Rat) (P : Pol) (c : Nat), ds = [dK n a b, dP P.1] ∧ Kn n a b ∧ Fb c c P.1 ∧ Pol.len P ≤ 60 ∧ c ≤ 1000000 ∧ q (.val (dP (bx a b P).1)) none⟩
def vTurned : VF := ⟨.read, fun ds q => ∃ (P : Pol) (c : Nat), ds = [dP P.1] ∧ Fb c c P.1 ∧ Pol.len P ≤ 100 ∧ c ≤ 1000000 ∧ q (.val (dP (tu P).1)) none⟩
def vThird : VF := ⟨.read, fun ds q => ∃ (P : Pol) (c : Nat), ds = [dP P.1] ∧ Fb c c P.1 ∧ Pol.len P ≤ 60 ∧ c ≤ 100000 ∧ q (.val (dP (third P).1)) none⟩
def vOther : VF := ⟨.read, fun ds q => ∃ (P : Pol) (n c : Nat), ds = [dP P.1, .int n] ∧ 2 ≤ n ∧ n ≤ 4 ∧ Fb c c P.1 ∧ Pol.len P ≤ 40 ∧ c ≤ 100000 ∧ q (.val (dP (oth n P).1)) none⟩
def vMoved15 : VF := ⟨.read, fun ds q => ∃ (P : Pol) (c : Rat) (b s : Nat), ds = [dP P.1, dR c] ∧ Fb b b P.1 ∧ RB' s c ∧ Pol.len P ≤ 100 ∧ b + (s + 2) * 100 + s ≤ 20000000 ∧ q (.val (dP (M7.P.sh c P).1)) none⟩
def pN (n : Nat) (g : Fra) : Pol := nt n 0 (g.B * oth n g.B)
def pS (n : Nat) (g : Fra) (i : Nat) : Pol := nt n i (g.A * oth n g.B)
/-- the parts of a fraction -/
noncomputable def prt (n : Nat) (a b : Rat) (g : Fra) (i : Nat) : Fra := Fra.tf (bx a b (pS n g i)) (bx a b (pN n g))
def dFs (n : Nat) (x : Nat → Fra) : List VL.D := (List.range n).map fun i => dF (x i)
/-- how long the parts are -/
structure Pz (n nA nB lS lN : Nat) : Prop where
  b1 : 1 ≤ nB
  b2 : nB ≤ 20
  a2 : nA ≤ 40
  hN : nB + ol n nB + n ≤ n * lN + n + 1
  hS : nA + ol n nB + n ≤ n * lS + n + 1
  l1 : lS ≤ 30
  l2 : lN ≤ 30
def vParted : VF := ⟨.read, fun ds q => ∃ (n : Nat) (a b : Rat) (g : Fra) (c nA nB lS lN : Nat), ds = [dK n a b, dF g] ∧ Kn n a b ∧ Fz g c nA nB ∧ Pz n nA nB lS lN ∧ c ≤ 20000 ∧ Hz (lS + lN) (4 * c + 70 + 128 * max lS lN) ∧ q (.val (.tup (dFs n (prt n a b g)))) none⟩
def vShared15 : VF := ⟨.read, fun ds q => ∃ (n : Nat) (x : Nat → Fra) (M : Pol) (c B lN : Nat), ds = [.tup (dFs n x)] ∧ n ≤ 4 ∧ M ≠ 0 ∧ (∀ i, i < n → ∃ t, M = (x i).B * t) ∧ Fb B B M.1 ∧ Pol.len M ≤ lN ∧ lN ≤ 30 ∧ (∀ i, i < n → Fb c c (x i).B.1) ∧ Hz (lN + lN) (B + c + 600) ∧ B + c ≤ 400000 ∧ ∀ bot : Pol, bot.lead = 1 → (∃ h, M = bot * h) → (∀ i, i < n → ∃ t, bot = (x i).B * t) → q (.val (dP bot.1)) none⟩
def vJoined : VF := ⟨.read, fun ds q => ∃ (n : Nat) (a b : Rat) (x : Nat → Fra) (M : Pol) (S : Nat → Pol) (D B c lS lN : Nat), ds = [dK n a b, .tup (dFs n x)] ∧ Kn n a b ∧ M ≠ 0 ∧ (∀ i, i < n → (x i).A * M = S i * (x i).B) ∧ 0 < D ∧ D ≤ 2 ^ B ∧ Zn D B M ∧ (∀ i, i < n → Zn D B (S i)) ∧ Pol.len M ≤ lN ∧ (∀ i, i < n → Pol.len (S i) ≤ lS) ∧ lN ≤ 30 ∧ lS ≤ 30 ∧ (∀ i, i < n → Fz (x i) c 100 100) ∧ Hz (lN + lN) (B + c + 600) ∧ B + c ≤ 300000 ∧
  n * lS + 3 ≤ 100 ∧ n * lN ≤ 100 ∧ Hz (n * lS + 3 + n * lN) (B + 600 + 90 * max lS lN) ∧ ∀ (bot : Pol) (e : Nat → Pol) (r : Fra), bot ≠ 0 → (∀ i, i < n → bot = (x i).B * e i) → r.Is (fo (fun i => byy n a b ((x i).A * e i)) n) (byy n a b bot) → Fz r (B + 600 + 90 * max lS lN + Pol.cz (max (n * lS + 3) (n * lN))) (n * lS + 3) (n * lN) → q (.val (dF r)) none⟩
def vSource15 : VF := ⟨.read, fun ds q => ∃ (ns : List Int) (k : Nat), ds = [.fix (ns.map D.int), .int k] ∧ ns.length ≤ 63 ∧ k ≤ 100 ∧ ∀ x y : Int, q (.fresh [.int x, .int y]) none⟩
def vTake15 : VF := ⟨.wrt, fun ds q => ∃ (x y m : Int), ds = [.lst [.int x, .int y], .int m] ∧ 0 < m ∧ ∀ t x' y' : Int, 0 ≤ t → t < m → q (.val (.int t)) (some [.int x', .int y'])⟩
def vNumber15 : VF := ⟨.wrt, fun ds q => ∃ (x y : Int), ds = [.lst [.int x, .int y]] ∧ ∀ (r : Rat) (x' y' : Int), RB' 42 r → q (.val (dR r)) (some [.int x', .int y'])⟩
def vKind15 : VF := ⟨.wrt, fun ds q => ∃ (x y : Int), ds = [.lst [.int x, .int y]] ∧ ∀ (n : Nat) (a b : Rat) (x' y' : Int), Kn n a b → q (.val (dK n a b)) (some [.int x', .int y'])⟩
def vPoly15 : VF := ⟨.wrt, fun ds q => ∃ (x y : Int) (m : Nat), ds = [.lst [.int x, .int y], .int m] ∧ m ≤ 20 ∧ ∀ (P : Pol) (x' y' : Int), PB 42 P.1 → Pol.len P ≤ m + 1 → q (.val (dP P.1)) (some [.int x', .int y'])⟩
def vFraction15 : VF := ⟨.wrt, fun ds q => ∃ (x y : Int) (t m : Nat), ds = [.lst [.int x, .int y], .int t, .int m] ∧ t ≤ 3 ∧ m ≤ 3 ∧ ∀ (g : Fra) (x' y' : Int), Fz g 472 (t + 1) (m + 1) → q (.val (dF g)) (some [.int x', .int y'])⟩
def vIsNumber15 : VF := ⟨.read, fun ds q => ∃ r : Rat, ds = [dR r] ∧ q (.val (.bl true)) none⟩
def vIsFraction15 : VF := ⟨.read, fun ds q => ∃ x : Fra, ds = [dF x] ∧ x.A.1.length ≤ 100 ∧ x.B.1.length ≤ 100 ∧ q (.val (.bl true)) none⟩
noncomputable def G15 (L : Nat → VF) : Nat → VF
  | 0 => vLetterTo
  | 1 => vStretched
  | 2 => vSpreadOut
  | 3 => vEveryNth
  | 4 => vLaidIn
  | 5 => vByY
  | 6 => vByX
  | 7 => vTurned
  | 8 => vThird
  | 9 => vOther
  | 10 => vParted
  | 11 => vShared15
  | 12 => vJoined
  | 13 => vSource15
  | 14 => vTake15
  | 15 => vNumber15
  | 16 => vKind15
  | 17 => vPoly15
  | 18 => vFraction15
  | 19 => vIsNumber15
  | 20 => vIsFraction15
  | 21 => vMoved15
  | 22 => vStub
  | 23 => vStub
  | n + 24 => L n
variable {L : Nat → VF}
noncomputable abbrev Gw (L : Nat → VF) : Nat → VF := G1 (G2 (G3 (G4 (G6 (G7 (G15 L))))))
theorem mono_row (k : Nat) : VL.D.lst ((List.replicate k [VL.D.tup [.int 0, .int 1]]).flatten ++ [.tup [.int 1, .int 1]]) = .lst (dRs (List.replicate k 0 ++ [1])) := by
  have e := rep_row k
  have e : (List.replicate k [VL.D.tup [.int 0, .int 1]]).flatten = dRs (List.replicate k 0) := e
  rw [e]
  unfold dRs
  rw [List.map_append]; rfl
theorem co_snoc (k : Nat) (z : Rat) (t : Nat) : co (List.replicate k (0 : Rat) ++ [z]) t = if t = k then z else 0 := by
  rcases Nat.lt_or_ge t k with h | h
  · rw [if_neg (by omega)]
    unfold co
    rw [List.getD_eq_getElem?_getD, List.getElem?_append_left (by simpa using h), List.getElem?_replicate, if_pos h]; rfl
  · rcases Nat.eq_or_lt_of_le h with h | h
    · rw [if_pos h.symm]
      unfold co
      rw [List.getD_eq_getElem?_getD, List.getElem?_append_right (by simpa using Nat.le_of_eq h), List.length_replicate, h, Nat.sub_self]; rfl
    · rw [if_neg (by omega), co_out (by simp; omega)]
theorem snoc_T (k : Nat) {z : Rat} (hz : z ≠ 0) : IsT (List.replicate k (0 : Rat) ++ [z]) := .inr (by
  rw [co_snoc, List.length_append, List.length_replicate]
  rw [if_pos (by show k + 1 - 1 = k; omega)]; exact hz)
theorem xp_row (n : Nat) : List.replicate n (0 : Rat) ++ [1] = (xp n).1 := isT_ext (snoc_T n (by decide)) (xp n).2 fun t => by
  rw [co_snoc, Pol.co_mono]
theorem good_letter_to : Good (Gw L) b_letter_to 1 0 vLetterTo := by
  rintro ds q ⟨n, rfl, hn, hq⟩ -
  have e : trim (List.replicate n (0 : Rat) ++ [1]) = List.replicate n (0 : Rat) ++ [1] := trim_id (snoc_T n (by decide))
  refine ⟨rfl, ?_, by omega, by omega, rfl, ?_, rfl, _, List.replicate n 0 ++ [1], rfl, .inl ?_, .inl rfl, ?_⟩
  · unfold Sm; simp; omega
  · unfold Sm; simp; omega
  · rw [Int.toNat_natCast]; exact mono_row n
  · rw [e, xp_row]; exact hq
theorem pb_of {s : Nat} {l : List Rat} (h : ∀ t, RB' s (co l t)) : PB s l := fun x hx => by
  obtain ⟨i, hi, rfl⟩ := List.getElem_of_mem hx
  rw [← co_in hi]; exact h i
theorem good_p_moved15 : Good (Gw L) b_p_moved15 2 2 vMoved15 := by
  rintro ds q ⟨P, c, b, s, rfl, hP, hc, hl, hB, hq⟩ -
  have lenl := dRs_len P.1
  have l1 : P.1.length ≤ 100 := hl
  obtain ⟨D, D0, Db, zP⟩ := zn_of hP
  have fP : ∀ k, Fb (b + (s + 2) * 100) (b + (s + 2) * 100) (mv c (P.1.drop k)) := fun k => by
    have hk : IsT (P.1.drop k) := by
      rcases P.2 with h | h
      · left; rw [h]; exact List.drop_nil
      · by_cases g : k < P.1.length
        · right
          have : co (P.1.drop k) ((P.1.drop k).length - 1) = co P.1 (P.1.length - 1) := by
            unfold co
            rw [List.getD_eq_getElem?_getD, List.getD_eq_getElem?_getD, List.getElem?_drop, List.length_drop]
            congr 2; omega
          rw [this]; exact h
        · left; exact List.drop_eq_nil_of_le (by omega)
    have z : Zn D b ⟨P.1.drop k, hk⟩ := zP.cof fun t => .inl ⟨k + t, by
      unfold co
      rw [List.getD_eq_getElem?_getD, List.getD_eq_getElem?_getD, List.getElem?_drop]⟩
    have z2 := z.sh D0 hc (show Pol.len ⟨P.1.drop k, hk⟩ ≤ 100 from by show (P.1.drop k).length ≤ 100; rw [List.length_drop]; omega)
    exact z2.fb (Nat.mul_pos D0 (Nat.pow_pos c.den_pos)) (by
      rw [Nat.pow_add]
      exact Nat.mul_le_mul Db (Nat.le_trans (den_le hc 100) (pw_mono (Nat.mul_le_mul_right _ (by omega)))))
  obtain ⟨B, eB⟩ : ∃ B, B = b + (s + 2) * 100 := ⟨_, rfl⟩
  rw [← eB] at fP hB
  have pc : ∀ k, RB' (B + 1) (co P.1 k) := fun k => rb_mono (pb_co (fbx_pb hP) (by omega) k) (by omega)
  refine ⟨rfl, fun k ρ => ∃ s3, ρ = [.val (dP P.1), .val (dR c), .val (dP (mv c (P.1.drop (P.1.length - k)))), s3], ⟨.un, ?_⟩, ?_, ?_⟩
  · rw [Nat.sub_zero, List.drop_length]; rfl
  · rintro k d _ hd ⟨s3, rfl⟩
    obtain ⟨hk, rfl⟩ := rev_at hd
    have dl : (P.1.drop (P.1.length - k)).length = k := by rw [List.length_drop]; omega
    have f1 := fP (P.1.length - k)
    have ml := mv_le c (P.1.drop (P.1.length - k))
    rw [dl] at ml
    have pt : PTok (mv c (P.1.drop (P.1.length - k))) (trim [c, 1]) := by
      rw [trim_c1]
      exact fb_pt2 (e := 11) f1 (fb_c1 hc) (by have : (2 : Nat) ^ 11 = 2048 := by decide
                                               omega) (by omega) (by omega) (by simp)
    have f2 := fb_pmul (e := 11) f1 (fb_c1 hc) (by have : (2 : Nat) ^ 11 = 2048 := by decide
                                                   omega)
    have pl : (pmul (mv c (P.1.drop (P.1.length - k))) (trim [c, 1])).length ≤ 2 * k + 2 := by
      rw [trim_c1]
      exact Nat.le_trans (mk_len _ _) (by simp; omega)
    have tl := trim_le [co P.1 (P.1.length - 1 - k)]
    have e : mv c (P.1.drop (P.1.length - (k + 1))) = padd (pmul (mv c (P.1.drop (P.1.length - k))) (trim [c, 1])) (trim [co P.1 (P.1.length - 1 - k)]) := by
      rw [drop_co (show P.1.length - (k + 1) < P.1.length by omega), show P.1.length - (k + 1) + 1 = P.1.length - k by omega, show P.1.length - (k + 1) = P.1.length - 1 - k by omega, trim_c1]
      rfl
    have rp' : PB 60000000 (pmul (mv c (P.1.drop (P.1.length - k))) (trim [c, 1])) := by
      rw [trim_c1]
      exact fun x hx => rb_mono (fb_pb f2 x hx) (by omega)
    have ro : PB 60000000 (trim [co P.1 (P.1.length - 1 - k)]) := pb_trim fun x hx => by
      rw [List.mem_singleton.mp hx]; exact rb_mono (pc _) (by omega)
    refine ⟨rfl, rfl, _, [c, 1], rfl, .inl rfl, .inl rfl, rfl, _, _, rfl, pt, .inl rfl, rfl, rfl, _, [co P.1 (P.1.length - 1 - k)], rfl, .inl rfl, .inl rfl, rfl, _, _, 60000000, rfl, rp', ro, by omega, by omega, by omega, by simp only [List.length_cons, List.length_nil] at tl; omega, .inl rfl, .val (dR (co P.1 (P.1.length - 1 - k))), ?_⟩
    rw [e]; rfl
  · rintro _ ⟨s3, rfl⟩
    rw [List.length_reverse, lenl, Nat.sub_self, List.drop_zero]
    exact hq
theorem good_stretched : Good (Gw L) b_stretched 2 2 vStretched := by
  rintro ds q ⟨P, c, b, s, rfl, hP, hc, b1, b2, hl, hs, hq⟩ -
  have lenl := dRs_len P.1
  have l1 : P.1.length ≤ 100 := hl
  refine ⟨by rw [List.length_mapIdx, lenl]; unfold Sm; omega, fun k acc ρ => acc = dRs ((List.range k).map fun t => co P.1 t * c ^ t) ∧ ρ = [.val (dP P.1), .val (dR c), .un, .un], ⟨rfl, rfl⟩, ?_, ?_⟩
  · rintro k d acc _ hd ⟨rfl, rfl⟩
    obtain ⟨hk, rfl⟩ := enum_at hd
    have sk : s * k ≤ s * 100 := Nat.mul_le_mul_left _ (by omega)
    refine ⟨rfl, fun _ => ?_, fun h => (by cases h)⟩
    refine ⟨rfl, c, k, s, rfl, fun h => by omega, Nat.le_of_lt hc.1, Nat.le_of_lt hc.2, by rw [Int.natAbs_natCast]; omega, .inl rfl, ?_⟩
    have e : powZ c (k : Int) = c ^ k := by unfold powZ; rw [if_neg (by omega)]; rfl
    rw [e]
    refine ⟨rfl, co P.1 k, c ^ k, rfl, sz_rb (pb_co hP b1 k) b2, sz_rb (rb_pow hc k) (by rw [Nat.mul_comm]; omega), .inl rfl, ?_, rfl⟩
    rw [List.range_succ, List.map_append]
    unfold dRs
    rw [List.map_append]
    rfl
  · rintro acc _ ⟨rfl, rfl⟩
    rw [List.length_mapIdx, lenl]
    exact ⟨rfl, _, _, rfl, .inl rfl, .inl rfl, hq⟩
theorem spl_snoc {n : Nat} (x : Rat) : ∀ l, spl n (l ++ [x]) = spl n l ++ (x :: List.replicate (n - 1) 0)
  | [] => by show x :: (List.replicate (n - 1) 0 ++ []) = _; rw [List.append_nil]; rfl
  | a :: l => by
    show a :: (List.replicate (n - 1) 0 ++ spl n (l ++ [x])) = a :: (List.replicate (n - 1) 0 ++ spl n l) ++ _
    rw [spl_snoc x l, List.cons_append, List.append_assoc]
theorem good_spread_out : Good (Gw L) b_spread_out 2 2 vSpreadOut := by
  rintro ds q ⟨P, n, rfl, n1, n4, hl, hq⟩ -
  have lenl := dRs_len P.1
  have l1 : P.1.length ≤ 100 := hl
  refine ⟨rfl, fun k ρ => ∃ s3, ρ = [.val (dP P.1), .val (.int n), .own (dRs (spl n (P.1.take k))), s3], ⟨_, rfl⟩, ?_, ?_⟩
  · rintro k d _ hd ⟨s3, rfl⟩
    have hk : k < P.1.length := by rw [← lenl]; exact (List.getElem?_eq_some_iff.mp hd).1
    rw [dRs_get hk] at hd
    cases hd
    have row : [dR (co P.1 k)] ++ (List.replicate ((n : Int) - 1).toNat [VL.D.tup [.int 0, .int 1]]).flatten = dRs (co P.1 k :: List.replicate (n - 1) 0) := by
      have e := rep_row (n - 1)
      rw [show ((n : Int) - 1).toNat = n - 1 by omega]
      have e : (List.replicate (n - 1) [VL.D.tup [.int 0, .int 1]]).flatten = dRs (List.replicate (n - 1) 0) := e
      rw [e]; rfl
    have tk : P.1.take (k + 1) = P.1.take k ++ [co P.1 k] := by
      rw [List.take_succ, co_get hk]; rfl
    have ll := spl_len (n := n) (by omega) (P.1.take k)
    have lt : (P.1.take k).length ≤ 100 := by rw [List.length_take]; omega
    have n100 : n * (P.1.take k).length ≤ 4 * 100 := Nat.mul_le_mul n4 lt
    refine ⟨rfl, rfl, rfl, by unfold Sm; simp; omega, by omega, by omega, by unfold Sm; simp; omega, ?_⟩
    have e : dRs (spl n (P.1.take k)) ++ ([dR (co P.1 k)] ++ (List.replicate ((n : Int) - 1).toNat [VL.D.tup [.int 0, .int 1]]).flatten) = dRs (spl n (P.1.take (k + 1))) := by
      rw [row, tk, spl_snoc]
      unfold dRs
      rw [List.map_append]
    refine ⟨?_, .val (dR (co P.1 k)), congrArg (fun w => [Sl.val (dP P.1), .val (.int n), .own w, .val (dR (co P.1 k))]) e⟩
    show Sm _
    unfold Sm
    rw [dRs_len, ll]
    simp only [List.length_append, List.length_cons, List.length_nil, List.length_flatten, List.map_replicate, List.sum_replicate_nat]
    omega
  · rintro _ ⟨s3, rfl⟩
    rw [lenl, List.take_length]
    exact ⟨rfl, _, _, rfl, .inl rfl, .inr (lf_dP _), hq⟩

theorem good_every_nth : Good (Gw L) b_every_nth 2 1 vEveryNth := by
  rintro ds q ⟨P, n, rfl, n2, n4, hl, hq⟩ -
  have lenl := dRs_len P.1
  have l1 : P.1.length ≤ 1000 := hl
  refine ⟨⟨by omega, by omega⟩, by rw [rngs_length]; unfold Sm; omega, fun k acc ρ => acc = dPs k (fun i => nt n i P) ∧ ρ = [.val (dP P.1), .val (.int n), .un], ⟨rfl, rfl⟩, ?_, ?_⟩
  · rintro k d acc _ hd ⟨rfl, rfl⟩
    obtain ⟨rfl, hk⟩ := rngs_at hd
    have nth_map : ∀ (l : List Rat) (j : Nat), nthL n j (dRs l) = dRs (nthL n j l) := fun l => by
      induction l with
      | nil => intro j; cases j <;> rfl
      | cons x l ih =>
        intro j
        cases j with
        | zero => show _ :: nthL n (n - 1) (dRs l) = _ :: dRs (nthL n (n - 1) l); rw [ih]
        | succ j => exact ih j
    refine ⟨fun _ => ?_, fun h => (by cases h)⟩
    refine ⟨by omega, by omega, rfl, _, nthL n k P.1, rfl, .inl ?_, .inl rfl, ?_, rfl⟩
    · show VL.D.lst (nthL (n : Int).toNat (k : Int).toNat (dRs P.1)) = _
      rw [Int.toNat_natCast, Int.toNat_natCast]
      exact congrArg VL.D.lst (nth_map _ _)
    · show _ = dPs (k + 1) _
      unfold dPs
      rw [List.range_succ, List.map_append]; rfl
  · rintro acc _ ⟨rfl, rfl⟩
    rw [rngs_length]
    exact hq
theorem rb_fo {L' : Nat → Pol} {b : Nat} (h : ∀ i t, RB' b (co (L' i).1 t)) (b1 : 1 ≤ b) : ∀ k t, RB' (k * (b + 1) + 1) (co (fo L' k).1 t)
  | 0, t => by
    show RB' _ (co [] t)
    rw [co_nil]; exact rb_zero _ (by omega)
  | k + 1, t => by
    have e : co (fo L' (k + 1)).1 t = co (fo L' k).1 t + co (L' k * xp k).1 t := co_padd _ _ _
    have e2 : co (L' k * xp k).1 t = if k ≤ t then co (L' k).1 (t - k) else 0 := by
      rw [show L' k * xp k = xp k * L' k by grind, Pol.co_mono_mul]; split <;> grind
    rw [e, e2]
    have i1 := rb_fo h b1 k t
    have i2 : RB' b (if k ≤ t then co (L' k).1 (t - k) else 0) := by
      split
      · exact h _ _
      · exact rb_zero _ b1
    exact rb_mono (rb_add i1 i2) (by rw [Nat.add_mul]; omega)
theorem rb_sp {n b : Nat} {P : Pol} (hn : 0 < n) (h : PB b P.1) (b1 : 1 ≤ b) : PB b (sp n P).1 := pb_of fun t => by
  have e : t = t % n + (t / n) * n := by rw [Nat.mul_comm]; exact (Nat.mod_add_div t n).symm
  rw [e, co_sp hn _ _ _ (Nat.mod_lt _ hn)]
  split
  · exact pb_co h b1 _
  · exact rb_zero _ b1
theorem fb_sp {n b : Nat} {P : Pol} (hn : 0 < n) (h : Fb b b P.1) : Fb b b (sp n P).1 := by
  obtain ⟨D, D0, Db, z⟩ := zn_of h
  exact (z.sp hn).fb D0 Db
theorem fb_nt {n b k : Nat} {P : Pol} (hn : 0 < n) (h : Fb b b P.1) : Fb b b (nt n k P).1 := by
  obtain ⟨D, D0, Db, z⟩ := zn_of h
  exact (z.nt hn k).fb D0 Db
theorem fb_tu {b : Nat} {P : Pol} (h : Fb b b P.1) : Fb b b (tu P).1 := by
  obtain ⟨D, D0, Db, z⟩ := zn_of h
  exact z.tu.fb D0 Db
theorem fb_xp (i : Nat) : Fb 0 0 (xp i).1 := (Zn.xp i).fb (by decide) (by decide)
theorem dPs_at {n k : Nat} {L : Nat → Pol} {d : VL.D} (h : ((dPs n L).mapIdx fun i d => VL.D.tup [.int (i : Nat), d])[k]? = some d) : k < n ∧ d = .tup [.int k, dP (L k).1] := by
  rw [List.getElem?_mapIdx] at h
  unfold dPs at h
  rw [List.getElem?_map] at h
  by_cases hk : k < n
  · rw [List.getElem?_range hk] at h
    cases h
    exact ⟨hk, rfl⟩
  · rw [List.getElem?_eq_none (by rw [List.length_range]; omega)] at h
    cases h
theorem good_laid_in : Good (Gw L) b_laid_in 2 3 vLaidIn := by
  rintro ds q ⟨Ls, b, rfl, hL, hb, hq⟩ -
  refine ⟨rfl, fun k ρ => ∃ s3 s4, ρ = [.val (.lst (dPs 3 Ls)), .val (.int 3), .val (dP (fo (fun j => sp 3 (Ls j)) k).1), s3, s4], ⟨.un, .un, rfl⟩, ?_, ?_⟩
  · rintro k d _ hd ⟨s3, s4, rfl⟩
    obtain ⟨hk, rfl⟩ := dPs_at hd
    obtain ⟨f, l⟩ := hL k
    have pb : ∀ i t, RB' (b + 1) (co (sp 3 (Ls i)).1 t) := fun i t => pb_co (rb_sp (by decide) (fbx_pb (hL i).1) (by omega)) (by omega) t
    have ls := len_sp (n := 3) (by decide) (Ls k)
    have lx := len_xp k
    have lm := Pol.len_mul_le (sp 3 (Ls k)) (xp k)
    have lf := len_fo (l := 180) (fun j => sp 3 (Ls j)) k fun i _ => by
      have := len_sp (n := 3) (by decide) (Ls i)
      have := (hL i).2
      omega
    have f2 := Pol.fb_mul (fb_sp (n := 3) (by decide) f) (fb_xp k |> fun h => Pol.fb_up h (Nat.zero_le b)) (by omega)
    have e10 : (2 : Nat) ^ 10 = 1024 := by decide
    have l1 : (sp 3 (Ls k)).1.length = Pol.len (sp 3 (Ls k)) := rfl
    have l2 : (xp k).1.length = Pol.len (xp k) := rfl
    have pt : PTok (sp 3 (Ls k)).1 (xp k).1 := fb_pt2 (e := 10) (fb_sp (by decide) f) (fb_xp k) (by omega) (by omega) (by omega) (by omega)
    have p1 : PB 60000000 (fo (fun j => sp 3 (Ls j)) k).1 := pb_of fun t => rb_mono (rb_fo pb (by omega) k t) (by
      have : k * (b + 1 + 1) ≤ 3 * (b + 1 + 1) := Nat.mul_le_mul_right _ (by omega)
      omega)
    have p2 : PB 60000000 (sp 3 (Ls k) * xp k).1 := fun x hx => rb_mono (fbx_pb f2 x hx) (by omega)
    refine ⟨rfl, rfl, Ls k, 3, rfl, by decide, by decide, by omega, .inl rfl, rfl, k, rfl, by omega, .inl rfl, rfl, _, _, rfl, pt, .inl rfl, rfl, _, _, 60000000, rfl, p1, p2, by decide, by decide, ?_, ?_, .inl rfl, _, _, rfl⟩
    · show Pol.len _ ≤ _; omega
    · show Pol.len (sp 3 (Ls k) * xp k) ≤ _; omega
  · rintro _ ⟨s3, s4, rfl⟩
    exact hq

theorem rb84 {n : Nat} {a b : Rat} (h : Kn n a b) : RB' 84 (b / a) ∧ RB' 43 (1 / a) ∧ RB' 42 (-b) := by
  have one : RB' 1 (1 : Rat) := ⟨by decide, by decide⟩
  have nz : a.num ≠ 0 := fun z => h.a0 (Rat.num_eq_zero.mp z)
  exact ⟨rb_over h.rb h.ra nz, rb_mono (rb_over one h.ra nz) (by decide), rb_neg h.rb⟩
theorem rbSz {s : Nat} {r : Rat} (h : RB' s r) (g : s ≤ 60000000) : Sz r := sz_rb h g
theorem good_by_y : Good (Gw L) b_by_y 2 3 vByY := by
  rintro ds q ⟨n, a, b, P, c, rfl, hK, hP, hl, hc, hq⟩ -
  obtain ⟨r1, r2, r3⟩ := rb84 hK
  have one : RB' 10 (1 : Rat) := ⟨by decide, by decide⟩
  have nz : a.num ≠ 0 := fun z => hK.a0 (Rat.num_eq_zero.mp z)
  have z0 : RB' 10 (0 : Rat) := ⟨by decide, by decide⟩
  have n2 := hK.n2
  have n4 := hK.n4
  have ls := len_st (1 / a) P
  have e0 : (0 : Rat) - b = -b := by grind
  obtain ⟨D, D0, Db, zP⟩ := zn_of hP
  have z2 := zP.st r2 hl
  have f2 : Fb (c + 43 * 60) (c + 43 * 60) (st (1 / a) P).1 := z2.fb (Nat.mul_pos D0 (Nat.pow_pos (1 / a).den_pos)) (by
    rw [Nat.pow_add]; exact Nat.mul_le_mul Db (den_le r2 60))
  refine ⟨rfl, rfl, 1, a, rfl, sz_rb one (by decide), sz_rb hK.ra (by decide), nz, .inl rfl, rfl, P, 1 / a, c + 1, 43, rfl, fbx_pb hP, r2, by omega, by omega, by omega, by decide, .inl rfl, ?_⟩
  refine ⟨rfl, 0, b, rfl, sz_rb z0 (by decide), sz_rb hK.rb (by decide), .inl rfl, ?_⟩
  refine ⟨rfl, st (1 / a) P, -b, c + 43 * 60, 42, ?_, f2, r3, by omega, by omega, .inl rfl, rfl, _, n, rfl, by omega, by omega, ?_, .inl rfl, hq⟩
  · show [_, dR (0 - b)] = _
    rw [e0]
  · show Pol.len (M7.P.sh (-b) (st (1 / a) P)) ≤ 100
    rw [M7.P.len_sh]; omega
theorem good_by_x : Good (Gw L) b_by_x 2 3 vByX := by
  rintro ds q ⟨n, a, b, P, c, rfl, hK, hP, hl, hc, hq⟩ -
  obtain ⟨r1, r2, r3⟩ := rb84 hK
  have nz : a.num ≠ 0 := fun z => hK.a0 (Rat.num_eq_zero.mp z)
  have ls := len_st a P
  obtain ⟨D, D0, Db, zP⟩ := zn_of hP
  have z2 := zP.st hK.ra hl
  have f2 : Fb (c + 42 * 60) (c + 42 * 60) (st a P).1 := z2.fb (Nat.mul_pos D0 (Nat.pow_pos a.den_pos)) (by
    rw [Nat.pow_add]; exact Nat.mul_le_mul Db (den_le hK.ra 60))
  refine ⟨rfl, rfl, P, a, c + 1, 42, rfl, fbx_pb hP, hK.ra, by omega, by omega, by omega, by decide, .inl rfl, ?_⟩
  refine ⟨rfl, b, a, rfl, sz_rb hK.rb (by decide), sz_rb hK.ra (by decide), nz, .inl rfl, ?_⟩
  exact ⟨rfl, st a P, b / a, c + 42 * 60, 84, rfl, f2, r1, by omega, by omega, .inl rfl, hq⟩
theorem good_turned : Good (Gw L) b_turned 1 0 vTurned := by
  rintro ds q ⟨P, c, rfl, hP, hl, hc, hq⟩ -
  have m1 : RB' 10 (-1 : Rat) := ⟨by decide, by decide⟩
  refine ⟨rfl, rfl, P, -1, c + 1, 10, ?_, fbx_pb hP, m1, by omega, by omega, hl, by decide, .inl rfl, hq⟩
  show [_, VL.D.tup [.int (-1), .int 1]] = _
  rw [← dR_int (-1)]; rfl
theorem pt_of {x y : Nat} {P Q : Pol} (hP : Fb x x P.1) (hQ : Fb y y Q.1) (l1 : Pol.len P ≤ 1000) (l2 : Pol.len Q ≤ 1000) (h : x + y + 12 ≤ 60000000) : PTok P.1 Q.1 := fb_pt2 (e := 10) hP hQ (by
  have : (2 : Nat) ^ 10 = 1024 := by decide
  show Pol.len P < _
  omega) (by omega) l1 l2
theorem pb_fb {x : Nat} {P : Pol} (h : Fb x x P.1) (g : x + 1 ≤ 60000000) : PB 60000000 P.1 := fun z hz => rb_mono (fbx_pb h z hz) g
theorem good_third_factor : Good (Gw L) b_third_factor 1 6 vThird := by
  rintro ds q ⟨Q, c, rfl, hQ, hl, hc, hq⟩ -
  have l0 := len_nt (n := 3) (k := 0) (by decide) Q
  have l1 := len_nt (n := 3) (k := 1) (by decide) Q
  have l2 := len_nt (n := 3) (k := 2) (by decide) Q
  have f0 := fb_nt (n := 3) (k := 0) (by decide) hQ
  have f1 := fb_nt (n := 3) (k := 1) (by decide) hQ
  have f2 := fb_nt (n := 3) (k := 2) (by decide) hQ
  have lx := len_xp 1
  have fx := fb_xp 1
  have ml := fun u v => Pol.len_mul_le u v
  have sl : ∀ (u v : Pol) (l : Nat), Pol.len u ≤ l → Pol.len v ≤ l → Pol.len (u - v) ≤ l := fun u v l h1 h2 => by
    have := Pol.len_sub_le u v
    omega
  have m00 := ml (nt 3 0 Q) (nt 3 0 Q)
  have m12 := ml (nt 3 1 Q) (nt 3 2 Q)
  have m22 := ml (nt 3 2 Q) (nt 3 2 Q)
  have m01 := ml (nt 3 0 Q) (nt 3 1 Q)
  have m11 := ml (nt 3 1 Q) (nt 3 1 Q)
  have m02 := ml (nt 3 0 Q) (nt 3 2 Q)
  have mx1 := ml (xp 1) (nt 3 1 Q * nt 3 2 Q)
  have mx2 := ml (xp 1) (nt 3 2 Q * nt 3 2 Q)
  have t : ∀ u v : Pol, Fb c c u.1 → Fb c c v.1 → Pol.len u ≤ 20 → Fb (c + c + 10) (c + c + 10) (u * v).1 := fun u v h1 h2 h3 => Pol.fb_mul h1 h2 (by omega)
  have F00 := t _ _ f0 f0 (by omega)
  have F12 := t _ _ f1 f2 (by omega)
  have F22 := t _ _ f2 f2 (by omega)
  have F01 := t _ _ f0 f1 (by omega)
  have F11 := t _ _ f1 f1 (by omega)
  have F02 := t _ _ f0 f2 (by omega)
  have X1 : Fb (c + c + 20) (c + c + 20) (xp 1 * (nt 3 1 Q * nt 3 2 Q)).1 := Pol.fb_up (Pol.fb_mul fx F12 (by omega)) (by omega)
  have X2 : Fb (c + c + 20) (c + c + 20) (xp 1 * (nt 3 2 Q * nt 3 2 Q)).1 := Pol.fb_up (Pol.fb_mul fx F22 (by omega)) (by omega)
  have T : ∀ i, Fb (4 * c + 60) (4 * c + 60) (thirds Q i).1 ∧ Pol.len (thirds Q i) ≤ 60 := fun i => by
    match i with
    | 0 => exact ⟨Pol.fb_up (Pol.fb_sub F00 X1) (by omega), sl _ _ _ (by omega) (by omega)⟩
    | 1 => exact ⟨Pol.fb_up (Pol.fb_sub X2 F01) (by omega), sl _ _ _ (by omega) (by omega)⟩
    | i + 2 => exact ⟨Pol.fb_up (Pol.fb_sub F11 F02) (by omega), sl _ _ _ (by omega) (by omega)⟩
  have P00 := pt_of f0 f0 (by omega) (by omega) (by omega)
  have P12 := pt_of f1 f2 (by omega) (by omega) (by omega)
  have PX1 := pt_of fx F12 (by omega) (by omega) (by omega)
  have P22 := pt_of f2 f2 (by omega) (by omega) (by omega)
  have PX2 := pt_of fx F22 (by omega) (by omega) (by omega)
  have P01 := pt_of f0 f1 (by omega) (by omega) (by omega)
  have P11 := pt_of f1 f1 (by omega) (by omega) (by omega)
  have P02 := pt_of f0 f2 (by omega) (by omega) (by omega)
  have L00 : (nt 3 0 Q * nt 3 0 Q).1.length ≤ 1000 := by show Pol.len (nt 3 0 Q * nt 3 0 Q) ≤ _; omega
  have L01 : (nt 3 0 Q * nt 3 1 Q).1.length ≤ 1000 := by show Pol.len (nt 3 0 Q * nt 3 1 Q) ≤ _; omega
  have L11 : (nt 3 1 Q * nt 3 1 Q).1.length ≤ 1000 := by show Pol.len (nt 3 1 Q * nt 3 1 Q) ≤ _; omega
  have L02 : (nt 3 0 Q * nt 3 2 Q).1.length ≤ 1000 := by show Pol.len (nt 3 0 Q * nt 3 2 Q) ≤ _; omega
  have LX1 : (xp 1 * (nt 3 1 Q * nt 3 2 Q)).1.length ≤ 1000 := by show Pol.len (xp 1 * (nt 3 1 Q * nt 3 2 Q)) ≤ _; omega
  have LX2 : (xp 1 * (nt 3 2 Q * nt 3 2 Q)).1.length ≤ 1000 := by show Pol.len (xp 1 * (nt 3 2 Q * nt 3 2 Q)) ≤ _; omega
  refine ⟨rfl, 1, rfl, by decide, .inl rfl, rfl, Q, 3, rfl, by decide, by decide, by omega, .inl rfl, ?_⟩
  refine ⟨rfl, rfl, (nt 3 0 Q).1, (nt 3 0 Q).1, rfl, P00, .inl rfl, ?_⟩
  refine ⟨rfl, (nt 3 1 Q).1, (nt 3 2 Q).1, rfl, P12, .inl rfl, rfl, (xp 1).1, (nt 3 1 Q * nt 3 2 Q).1, rfl, PX1, .inl rfl, ?_⟩
  refine ⟨rfl, (nt 3 0 Q * nt 3 0 Q).1, (xp 1 * (nt 3 1 Q * nt 3 2 Q)).1, 60000000, rfl, pb_fb F00 (by omega), pb_fb X1 (by omega), by decide, by decide, L00, LX1, .inl rfl, ?_⟩
  refine ⟨rfl, (nt 3 2 Q).1, (nt 3 2 Q).1, rfl, P22, .inl rfl, rfl, (xp 1).1, (nt 3 2 Q * nt 3 2 Q).1, rfl, PX2, .inl rfl, ?_⟩
  refine ⟨rfl, (nt 3 0 Q).1, (nt 3 1 Q).1, rfl, P01, .inl rfl, ?_⟩
  refine ⟨rfl, (xp 1 * (nt 3 2 Q * nt 3 2 Q)).1, (nt 3 0 Q * nt 3 1 Q).1, 60000000, rfl, pb_fb X2 (by omega), pb_fb F01 (by omega), by decide, by decide, LX2, L01, .inl rfl, ?_⟩
  refine ⟨rfl, (nt 3 1 Q).1, (nt 3 1 Q).1, rfl, P11, .inl rfl, rfl, (nt 3 0 Q).1, (nt 3 2 Q).1, rfl, P02, .inl rfl, ?_⟩
  refine ⟨rfl, (nt 3 1 Q * nt 3 1 Q).1, (nt 3 0 Q * nt 3 2 Q).1, 60000000, rfl, pb_fb F11 (by omega), pb_fb F02 (by omega), by decide, by decide, L11, L02, .inl rfl, ?_⟩
  have e : dPs 3 (thirds Q) = [dP (mk (max (nt 3 0 Q * nt 3 0 Q).1.length (xp 1 * (nt 3 1 Q * nt 3 2 Q)).1.length) fun k => co (nt 3 0 Q * nt 3 0 Q).1 k - co (xp 1 * (nt 3 1 Q * nt 3 2 Q)).1 k), dP (mk (max (xp 1 * (nt 3 2 Q * nt 3 2 Q)).1.length (nt 3 0 Q * nt 3 1 Q).1.length) fun k => co (xp 1 * (nt 3 2 Q * nt 3 2 Q)).1 k - co (nt 3 0 Q * nt 3 1 Q).1 k), dP (mk (max (nt 3 1 Q * nt 3 1 Q).1.length (nt 3 0 Q * nt 3 2 Q).1.length) fun k => co (nt 3 1 Q * nt 3 1 Q).1 k - co (nt 3 0 Q * nt 3 2 Q).1 k)] := by
    rw [sub_eq, sub_eq, sub_eq]; rfl
  refine ⟨rfl, rfl, thirds Q, 4 * c + 60, ?_, T, by omega, .inl rfl, hq⟩
  exact congrArg (fun w => [VL.D.lst w, VL.D.int 3]) e.symm
theorem mul_1 (P Q : Pol) : (P * Q).1 = pmul P.1 Q.1 := rfl
theorem oth3 (Q : Pol) : oth 3 Q = third Q := if_pos rfl
theorem oth2 (Q : Pol) : oth 2 Q = tu Q := by unfold oth; rw [if_neg (by decide), if_pos rfl]
theorem oth4 (Q : Pol) : oth 4 Q = tu Q * sp 2 (tu (half Q)) := by unfold oth; rw [if_neg (by decide), if_neg (by decide)]
theorem dPs_ix {n k : Nat} (L : Nat → Pol) (h : k < n) : atI (dPs n L) (k : Int) = some (dP (L k).1) := atI_nat (by
  unfold dPs
  rw [List.getElem?_map, List.getElem?_range h]; rfl)
theorem good_other_factor : Good (Gw L) b_other_factor 2 2 vOther := by
  rintro ds q ⟨Q, n, c, rfl, n2, n4, hQ, hl, hc, hq⟩ -
  have lt : Pol.len (tu Q) ≤ Pol.len Q := len_st (-1) Q
  have ft := fb_tu hQ
  have F1 := Pol.fb_mul hQ ft (by omega)
  have lm := Pol.len_mul_le Q (tu Q)
  have lh : 2 * Pol.len (half Q) ≤ _ := len_nt (n := 2) (k := 0) (by decide) (Q * tu Q)
  have fh : Fb (c + c + 10) (c + c + 10) (half Q).1 := fb_nt (by decide) F1
  have fth := fb_tu fh
  have lth : Pol.len (tu (half Q)) ≤ Pol.len (half Q) := len_st (-1) _
  have fs := fb_sp (n := 2) (by decide) fth
  have ls := len_sp (n := 2) (by decide) (tu (half Q))
  have P1 := pt_of hQ ft (by omega) (by omega) (by omega)
  have P2 := pt_of ft fs (by omega) (by omega) (by omega)
  refine ⟨fun h => ?_, fun h => ?_⟩
  · have h : decide ((n : Int) = 3) = true := h
    have h := of_decide_eq_true h
    have : n = 3 := by omega
    subst this
    rw [oth3] at hq
    exact ⟨rfl, Q, c, rfl, hQ, by omega, by omega, .inl rfl, hq⟩
  · have h : decide ((n : Int) = 3) = false := h
    have h := of_decide_eq_false h
    refine ⟨rfl, Q, c, rfl, hQ, by omega, by omega, .inl rfl, fun g => ?_, fun g => ?_⟩
    · have g : decide ((n : Int) = 2) = true := g
      have g := of_decide_eq_true g
      have : n = 2 := by omega
      subst this
      rw [oth2] at hq
      exact hq
    · have g : decide ((n : Int) = 2) = false := g
      have g := of_decide_eq_false g
      have : n = 4 := by omega
      subst this
      rw [oth4, mul_1] at hq
      have l2 : Pol.len (Q * tu Q) ≤ 1000 := by omega
      refine ⟨rfl, Q.1, (tu Q).1, rfl, P1, .inl rfl, rfl, Q * tu Q, 2, rfl, by decide, by decide, l2, .inl rfl, dP (half Q).1, dPs_ix (n := 2) (k := 0) (fun i => nt 2 i (Q * tu Q)) (by decide), ?_⟩
      refine ⟨rfl, half Q, c + c + 10, rfl, fh, by omega, by omega, .inl rfl, rfl, tu (half Q), 2, rfl, by decide, by decide, by omega, .inl rfl, ?_⟩
      exact ⟨rfl, (tu Q).1, (sp 2 (tu (half Q))).1, rfl, P2, .inl rfl, hq⟩

theorem ol_le {n m : Nat} (n2 : 2 ≤ n) : ol n m ≤ 3 * m + 7 := by
  unfold ol
  split
  · omega
  · split <;> omega
theorem Pz.lens {n nA nB lS lN : Nat} {g : Fra} (h : Pz n nA nB lS lN) (n2 : 2 ≤ n) (lA : Pol.len g.A ≤ nA) (lB : Pol.len g.B ≤ nB) : Pol.len (g.A * oth n g.B) ≤ 200 ∧ Pol.len (g.B * oth n g.B) ≤ 200 ∧ Pol.len (pN n g) ≤ lN ∧ ∀ i, i < n → Pol.len (pS n g i) ≤ lS := by
  obtain ⟨h1, h2, h3, h4, h5, _, _⟩ := h
  have lo := oth_len (n := n) h1 lB
  have le := ol_le (m := nB) n2
  have mA := Pol.len_mul_le g.A (oth n g.B)
  have mB := Pol.len_mul_le g.B (oth n g.B)
  have key : ∀ (u v : Nat), n * u < n * (v + 1) → u ≤ v := fun u v h => by
    have := Nat.lt_of_mul_lt_mul_left h
    omega
  refine ⟨by omega, by omega, key _ _ ?_, fun i hi => key _ _ ?_⟩
  · have := len_nt (n := n) (k := 0) (by omega) (g.B * oth n g.B)
    rw [Nat.mul_add]
    show n * Pol.len (nt n 0 (g.B * oth n g.B)) < _
    omega
  · have := len_nt (n := n) (k := i) hi (g.A * oth n g.B)
    rw [Nat.mul_add]
    show n * Pol.len (nt n i (g.A * oth n g.B)) < _
    omega
theorem parts_zn {n nA nB lS lN c : Nat} {a b : Rat} {g : Fra} (hK : Kn n a b) (hg : Fz g c nA nB) (h : Pz n nA nB lS lN) : ∃ D, 0 < D ∧ D ≤ 2 ^ (4 * c + 70 + 128 * max lS lN) ∧ Zn D (4 * c + 70 + 128 * max lS lN) (bx a b (pN n g)) ∧ ∀ i, i < n → Zn D (4 * c + 70 + 128 * max lS lN) (bx a b (pS n g i)) := by
  obtain ⟨⟨D, D0, Db, zA, zB⟩, lA, lB⟩ := hg
  obtain ⟨_, _, lN', lS'⟩ := h.lens (g := g) hK.n2 lA lB
  have b2 := h.b2
  have a2 := h.a2
  obtain ⟨E, E0, Eb, zT⟩ := oth_zn (n := n) zB D0 Db (by omega)
  obtain ⟨r1, _, _⟩ := rb84 hK
  have n0 : 0 < n := by have := hK.n2; omega
  have zN : Zn (D * E) (c + (3 * c + 60) + 10) (pN n g) := (Zn.mul zB zT D0 (by omega)).nt n0 0
  have zS : ∀ i, Zn (D * E) (c + (3 * c + 60) + 10) (pS n g i) := fun i => (Zn.mul zA zT D0 (by omega)).nt n0 i
  obtain ⟨M, eM⟩ : ∃ M, M = max lS lN := ⟨_, rfl⟩
  have DE := Nat.mul_pos D0 E0
  refine ⟨D * E * a.den ^ M * (b / a).den ^ M, Nat.mul_pos (Nat.mul_pos DE (Nat.pow_pos a.den_pos)) (Nat.pow_pos (b / a).den_pos), ?_, ?_, fun i hi => ?_⟩
  · refine Nat.le_trans (Nat.mul_le_mul (Nat.mul_le_mul (Nat.mul_le_mul Db Eb) (den_le hK.ra M)) (den_le r1 M)) ?_
    rw [← Nat.pow_add, ← Nat.pow_add, ← Nat.pow_add]
    exact pw_mono (by omega)
  · exact (zN.bx DE hK.ra r1 (by omega)).up (by omega)
  · exact ((zS i).bx DE hK.ra r1 (by have := lS' i hi; omega)).up (by omega)
theorem pN_ne {n : Nat} (n2 : 2 ≤ n) (n4 : n ≤ 4) (g : Fra) : pN n g ≠ 0 := fun z => Pol.mul_ne g.B0 (oth_ne (n := n) g.B0) (by
  rw [oth_mul n2 n4 g.B]
  show sp n (pN n g) = 0
  rw [z]
  exact Pol.ext fun y => by rw [ev_sp (by omega), Pol.ev_0, Pol.ev_0])
theorem prt_is {n : Nat} {a b : Rat} (hK : Kn n a b) (g : Fra) (i : Nat) : (prt n a b g i).Is (bx a b (pS n g i)) (bx a b (pN n g)) := Fra.tf_is _ (bx_ne hK.a0 b (pN_ne hK.n2 hK.n4 g))
theorem dPs_get {n k : Nat} {L : Nat → Pol} {d : VL.D} (h : (dPs n L)[k]? = some d) : k < n ∧ d = dP (L k).1 := by
  unfold dPs at h
  rw [List.getElem?_map] at h
  by_cases hk : k < n
  · rw [List.getElem?_range hk] at h
    cases h
    exact ⟨hk, rfl⟩
  · rw [List.getElem?_eq_none (by rw [List.length_range]; omega)] at h
    cases h
theorem dPs_len (n : Nat) (L : Nat → Pol) : (dPs n L).length = n := by unfold dPs; rw [List.length_map, List.length_range]
theorem dFs_len (n : Nat) (x : Nat → Fra) : (dFs n x).length = n := by unfold dFs; rw [List.length_map, List.length_range]
theorem dFs_snoc (k : Nat) (x : Nat → Fra) : dFs (k + 1) x = dFs k x ++ [dF (x k)] := by unfold dFs; rw [List.range_succ, List.map_append]; rfl
theorem good_parted : Good (Gw L) b_parted 2 5 vParted := by
  rintro ds q ⟨n, a, b, g, c, nA, nB, lS, lN, rfl, hK, hg, hz, hc, hH, hq⟩ -
  have n2 := hK.n2
  have n4 := hK.n4
  obtain ⟨D, D0, Db, zN, zS⟩ := parts_zn hK hg hz
  obtain ⟨m1, m2, lN', lS'⟩ := hz.lens (g := g) hK.n2 hg.lA hg.lB
  obtain ⟨b1, b2, a2, _, _, s30, n30⟩ := hz
  have lB := hg.lB
  have lA := hg.lA
  obtain ⟨fA, fB⟩ := hg.fb
  obtain ⟨D1, D10, D1b, zB⟩ := zn_of fB
  obtain ⟨E, E0, Eb, zT⟩ := oth_zn (n := n) zB D10 D1b (by omega)
  have fT : Fb (3 * c + 60) (3 * c + 60) (oth n g.B).1 := zT.fb E0 (Nat.le_trans Eb (pw_mono (by omega)))
  have lT : Pol.len (oth n g.B) ≤ 1000 := by
    have := oth_len (n := n) b1 lB
    have := ol_le (m := nB) n2
    omega
  have pB := pt_of fB fT (by omega) lT (by omega)
  have pA := pt_of fA fT (by omega) lT (by omega)
  have fN : Fb (c + (3 * c + 60) + 10) (c + (3 * c + 60) + 10) (pN n g).1 := fb_nt (by omega) (Pol.fb_mul fB fT (by omega))
  have fS : ∀ i, Fb (c + (3 * c + 60) + 10) (c + (3 * c + 60) + 10) (pS n g i).1 := fun i => fb_nt (by omega) (Pol.fb_mul fA fT (by omega))
  have l40 : Pol.len g.B ≤ 40 := by omega
  have m1' : Pol.len (g.A * oth n g.B) ≤ 1000 := by omega
  have m2' : Pol.len (g.B * oth n g.B) ≤ 1000 := by omega
  refine ⟨_, rfl, _, rfl, rfl, g.B, n, c, rfl, n2, n4, fB, l40, by omega, .inl rfl, ?_⟩
  refine ⟨_, rfl, rfl, g.B.1, (oth n g.B).1, rfl, pB, .inl rfl, rfl, g.B * oth n g.B, n, rfl, n2, n4, m2', .inl rfl, dP (pN n g).1, dPs_ix (n := n) (k := 0) (fun i => nt n i (g.B * oth n g.B)) (by omega), ?_⟩
  refine ⟨rfl, n, a, b, pN n g, _, rfl, hK, fN, by omega, by omega, .inl rfl, ?_⟩
  refine ⟨_, rfl, rfl, g.A.1, (oth n g.B).1, rfl, pA, .inl rfl, rfl, g.A * oth n g.B, n, rfl, n2, n4, m1', .inl rfl, ?_⟩
  refine ⟨by rw [dPs_len]; unfold Sm; omega, fun k acc ρ => acc = dFs k (prt n a b g) ∧ ρ = [.val (dK n a b), .val (dF g), .val (.int n), .val (dP (oth n g.B).1), .val (dP (bx a b (pN n g)).1), .val (.lst (dPs n (pS n g))), .un], ⟨rfl, rfl⟩, ?_, ?_⟩
  · rintro k d acc _ hd ⟨rfl, rfl⟩
    obtain ⟨hk, rfl⟩ := dPs_get hd
    refine ⟨fun _ => ?_, fun h => (by cases h)⟩
    have lk := lS' k hk
    have lb := len_bx a b (pS n g k)
    have lc := len_bx a b (pN n g)
    refine ⟨rfl, n, a, b, pS n g k, _, rfl, hK, fS k, by omega, by omega, .inl rfl, ?_⟩
    refine ⟨rfl, bx a b (pS n g k), bx a b (pN n g), 4 * c + 70 + 128 * max lS lN, lS, lN, rfl, bx_ne hK.a0 b (pN_ne n2 n4 g), (zS k hk).jb zN D0 Db, by omega, by omega, by omega, by omega, hH, fun x hx _ => ⟨.inl rfl, ?_, rfl⟩⟩
    rw [hx.uniq (prt_is hK g k) rfl]
    exact (dFs_snoc k _).symm
  · rintro acc _ ⟨rfl, rfl⟩
    rw [dPs_len]
    exact hq

theorem fun_of {n : Nat} {p : Nat → Pol → Prop} (h : ∀ i, i < n → ∃ t, p i t) : ∃ e : Nat → Pol, ∀ i, i < n → p i (e i) := by
  refine ⟨fun i => if hi : i < n then (h i hi).choose else 0, fun i hi => ?_⟩
  simp only [dif_pos hi]
  exact (h i hi).choose_spec
/-- a division without rest -/
theorem split_ex {P f g : Pol} {x : Nat} (e : P = f * g) (g0 : g ≠ 0) (fP : Fb x x P.1) (fg : Fb x x g.1) (lP : Pol.len P ≤ 60) (hx : x ≤ 900000) : ∃ D V, Sp P.1 g.1 D V x x x ∧ ∀ f1 r1, IsT f1 → IsT r1 → r1.length < g.1.length → (∀ t, co P.1 t = cv f1 g.1 f1.length t + co r1 t) → f1 = f.1 := by
  have lP' : P.1.length ≤ 60 := lP
  have gp := Pol.len_pos g0
  have gp' : 0 < g.1.length := gp
  have hm : (P.1.length + 1 - g.1.length) * (x + 1) ≤ 60 * (x + 1) := Nat.mul_le_mul_right _ (by omega)
  obtain ⟨D, V, _, hS⟩ := sp_fb fP fg (Pol.lead_ne g0) (by omega)
  refine ⟨D, V, hS, fun f1 r1 hf1 hr1 hl he => ?_⟩
  have e1 : P = Pol.of f1 hf1 * g + Pol.of r1 hr1 := Pol.of_split P.2 g.2 hf1 hr1 he
  have u1 := (Pol.div_uniq (q := g) (f := Pol.of f1 hf1) (f' := f) (r := Pol.of r1 hr1) (r' := 0) (by rw [← e1, e]; grind) hl (by rw [Pol.len_zero]; exact gp)).1
  exact congrArg (fun z : Pol => z.1) u1
theorem mon_id {p : Pol} (h : p.lead = 1) : Pol.mon p = p := by
  unfold Pol.mon
  rw [h, show (1 : Rat) / 1 = 1 by grind, Pol.cst1]
theorem mon_fac {P f g : Pol} {b n : Nat} (e : P = f * g) (P0 : P ≠ 0) (h1 : f.lead = 1) (fP : Fb b b P.1) (hn : Pol.len P ≤ n) (n1 : n ≤ 100) : Fb (b + Pol.cz n) (b + Pol.cz n) f.1 := by
  have := Pol.fac_fb e P0 fP hn n1
  rwa [mon_id h1] at this
theorem cz_le {n : Nat} (h : n ≤ 30) : Pol.cz n ≤ 390 := by unfold Pol.cz; split <;> omega
theorem lead_div {P f g : Pol} (e : P = f * g) (hP : P.lead = 1) (hg : g.lead = 1) (f0 : f ≠ 0) (g0 : g ≠ 0) : f.lead = 1 := by
  have := Pol.lead_mul f0 g0
  rw [← e, hP, hg] at this
  grind
theorem ne_of_lead {P : Pol} (h : P.lead = 1) : P ≠ 0 := fun z => by
  rw [z, M7.Fra.lead0] at h
  exact absurd h (by decide)
theorem fac_ne {P f g : Pol} (e : P = f * g) (h : P ≠ 0) : f ≠ 0 ∧ g ≠ 0 := ⟨fun z => h (by rw [e, z]; grind), fun z => h (by rw [e, z]; grind)⟩
theorem fac_len {P f g : Pol} (e : P = f * g) (h : P ≠ 0) : Pol.len f ≤ Pol.len P ∧ Pol.len g ≤ Pol.len P := by
  obtain ⟨f0, g0⟩ := fac_ne e h
  have h1 := Pol.len_mul f0 g0
  have := Pol.len_pos f0
  have := Pol.len_pos g0
  rw [← e] at h1
  omega
theorem dFs_at {n k : Nat} {x : Nat → Fra} {d : VL.D} (h : (dFs n x)[k]? = some d) : k < n ∧ d = dF (x k) := by
  unfold dFs at h
  rw [List.getElem?_map] at h
  by_cases hk : k < n
  · rw [List.getElem?_range hk] at h
    cases h
    exact ⟨hk, rfl⟩
  · rw [List.getElem?_eq_none (by rw [List.length_range]; omega)] at h
    cases h
theorem good_shared_bottom : Good (Gw L) b_shared_bottom 1 3 vShared15 := by
  rintro ds q ⟨n, x, M, c, B, lN, rfl, n4, M0, hM, fM, lM, lN30, fx, hH, hBc, hq⟩ -
  have czl := cz_le lN30
  refine ⟨rfl, fun k ρ => ∃ (bot : Pol) (s2 s3 : Sl), ρ = [.val (.tup (dFs n x)), .val (dP bot.1), s2, s3] ∧ bot.lead = 1 ∧ (∃ h, M = bot * h) ∧ ∀ i, i < k → ∃ t, bot = (x i).B * t, ⟨1, _, _, rfl, M7.Fra.lead1, ⟨M, by grind⟩, fun i hi => by omega⟩, ?_, ?_⟩
  · rintro k d _ hd ⟨bot, s2, s3, rfl, hl, ⟨h, eh⟩, hb⟩
    obtain ⟨hk, rfl⟩ := dFs_at hd
    obtain ⟨t, et⟩ := hM k hk
    have b0 := ne_of_lead hl
    have o1 : (x k).B.lead = 1 := (x k).top
    have o0 := (x k).B0
    have fb := mon_fac eh M0 hl fM lM (by omega)
    have lb := (fac_len eh M0).1
    have lo := (fac_len et M0).1
    refine ⟨rfl, rfl, bot, (x k).B, lN + lN, B + c + 600, rfl, Pol.fb_up fb (by omega), Pol.fb_up (fx k hk) (by omega), by omega, by omega, hH, fun g _ hG _ => ⟨.inl rfl, ?_⟩⟩
    have hG := hG fun z => b0 z.1
    obtain ⟨e, ee⟩ := hG.a
    obtain ⟨f, ef⟩ := hG.b
    obtain ⟨u, v, euv⟩ := hG.uv
    obtain ⟨f0, g0⟩ := fac_ne ef o0
    have fg := mon_fac (show (x k).B = g * f by rw [ef]; grind) o0 hG.top (fx k hk) (show Pol.len (x k).B ≤ lN by omega) (by omega)
    obtain ⟨D, V, hS, hU⟩ := split_ex ef g0 (Pol.fb_up (fx k hk) (show c ≤ B + c + 600 by omega)) (Pol.fb_up fg (show c + Pol.cz lN ≤ B + c + 600 by omega)) (by omega) (by omega)
    have l1 : (x k).B.1.length ≤ 1000 := by show Pol.len (x k).B ≤ _; omega
    have lg : Pol.len g ≤ Pol.len (x k).B := (fac_len ef o0).2
    have l2 : g.1.length ≤ 1000 := by show Pol.len g ≤ _; omega
    refine ⟨rfl, (x k).B.1, g.1, D, V, _, _, _, rfl, g.2, fun z => g0 (Pol.nil_iff.mp z), l1, l2, hS, fun f1 r1 hf1 hr1 hrl1 _ _ _ _ he1 => ⟨.inl rfl, _, rfl, ?_⟩⟩
    have := hU f1 r1 hf1 hr1 hrl1 he1
    subst this
    have fl := lead_div ef o1 hG.top f0 g0
    have ff := mon_fac ef o0 fl (fx k hk) (show Pol.len (x k).B ≤ lN by omega) (by omega)
    have lf := (fac_len ef o0).1
    refine ⟨rfl, bot.1, f.1, rfl, pt_of fb ff (by omega) (by omega) (by omega), .inl rfl, bot * f, _, _, rfl, ?_, ⟨u * t + v * h, ?_⟩, fun i hi => ?_⟩
    · rw [Pol.lead_mul b0 f0, hl, fl]; grind
    · refine Pol.eq_of_mul g0 ?_
      grind
    · by_cases w : i = k
      · subst w
        exact ⟨e, by rw [ee, ef]; grind⟩
      · obtain ⟨t', et'⟩ := hb i (by omega)
        exact ⟨t' * f, by rw [et']; grind⟩
  · rintro _ ⟨bot, s2, s3, rfl, hl, hM', hb⟩
    rw [dFs_len] at hb
    exact hq bot hl hM' hb

theorem lfo {n l : Nat} (Y : Nat → Pol) (h : ∀ i, Pol.len (Y i) ≤ l) (n4 : n ≤ 4) : Pol.len (fo Y n) ≤ l + 3 := by
  have key : ∀ k, Pol.len (fo Y (k + 1)) ≤ l + k := fun k => by
    induction k with
    | zero =>
      show Pol.len (0 + Y 0 * xp 0) ≤ _
      have h1 := Pol.len_add_le 0 (Y 0 * xp 0)
      have h2 := Pol.len_mul_le (Y 0) (xp 0)
      have h3 := len_xp 0
      have h4 := h 0
      have : Pol.len 0 = 0 := rfl
      omega
    | succ k ih =>
      show Pol.len (fo Y (k + 1) + Y (k + 1) * xp (k + 1)) ≤ _
      have h1 := Pol.len_add_le (fo Y (k + 1)) (Y (k + 1) * xp (k + 1))
      have h2 := Pol.len_mul_le (Y (k + 1)) (xp (k + 1))
      have h3 := len_xp (k + 1)
      have h4 := h (k + 1)
      omega
  cases n with
  | zero => show 0 ≤ _; omega
  | succ k => have := key k; omega
theorem good_joined : Good (Gw L) b_joined 2 6 vJoined := by
  rintro ds q ⟨n, a, b, x, M, S, D, B, c, lS, lN, rfl, hK, M0, hx, D0, Db, zM, zS, lM, lS', lN30, lS30, fx, hH, hBc, nS, nN, hH2, hq⟩ -
  have n2 := hK.n2
  have n4 := hK.n4
  obtain ⟨r1, r2, r3⟩ := rb84 hK
  have hM : ∀ i, i < n → ∃ t, M = (x i).B * t := fun i hi => by
    obtain ⟨u, v, e⟩ := (x i).cop.uv
    refine ⟨u * S i + v * M, ?_⟩
    have := hx i hi
    grind
  refine ⟨rfl, n, x, M, c, B, lN, rfl, n4, M0, hM, zM.fb D0 Db, lM, lN30, fun i hi => (fx i hi).fb.2, hH, by omega, fun bot hl ⟨h, eh⟩ hb => ⟨.inl rfl, rfl, ?_⟩⟩
  obtain ⟨e, he⟩ := fun_of hb
  obtain ⟨mx, emx⟩ : ∃ mx, mx = max lS lN := ⟨_, rfl⟩
  have czl := cz_le (n := mx) (by omega)
  obtain ⟨hAe, E, E0, Eb, zb, zA⟩ := cof_zn (n := mx) x S e D0 zM zS M0 eh hl (by omega) (fun i hi => by have := lS' i hi; omega) (by omega) hx he
  have b0 := ne_of_lead hl
  have h0 := (fac_ne eh M0).2
  have lb := (fac_len eh M0).1
  have lA : ∀ i, i < n → Pol.len ((x i).A * e i) ≤ lS := fun i hi => by
    by_cases z : (x i).A * e i = 0
    · rw [z]; exact Nat.zero_le _
    · have e2 := hAe i hi
      have := (fac_len e2.symm (by rw [← e2]; exact Pol.mul_ne z h0)).1
      have := lS' i hi
      omega
  have n0 : 0 < n := by omega
  have zy : ∀ i, i < n → Zn (E * (1 / a).den ^ mx * (-b).den ^ mx) (B + Pol.cz mx + 43 * mx + 44 * mx) (byy n a b ((x i).A * e i)) := fun i hi => (zA i hi).byy E0 n0 r2 r3 (by have := lA i hi; omega)
  have zyb : Zn (E * (1 / a).den ^ mx * (-b).den ^ mx) (B + Pol.cz mx + 43 * mx + 44 * mx) (byy n a b bot) := zb.byy E0 n0 r2 r3 (by omega)
  have ED : 0 < E * (1 / a).den ^ mx * (-b).den ^ mx := Nat.mul_pos (Nat.mul_pos E0 (Nat.pow_pos (1 / a).den_pos)) (Nat.pow_pos (-b).den_pos)
  have EDb : E * (1 / a).den ^ mx * (-b).den ^ mx ≤ 2 ^ (B + 600 + 90 * mx) := by
    refine Nat.le_trans (Nat.mul_le_mul (Nat.mul_le_mul Eb (den_le r2 mx)) (den_le r3 mx)) ?_
    rw [← Nat.pow_add, ← Nat.pow_add]
    exact pw_mono (by omega)
  have ly : ∀ i, i < n → Pol.len (byy n a b ((x i).A * e i)) ≤ n * lS := fun i hi => Nat.le_trans (len_byy n0 a b _) (Nat.mul_le_mul_left _ (lA i hi))
  have lyb : Pol.len (byy n a b bot) ≤ n * lN := Nat.le_trans (len_byy n0 a b _) (Nat.mul_le_mul_left _ (by omega))
  have fb := zb.fb E0 Eb
  refine ⟨fun k ρ => ∃ s4 s5, ρ = [.val (dK n a b), .val (.tup (dFs n x)), .val (dP bot.1), .own (dPs k fun i => byy n a b ((x i).A * e i)), s4, s5, .un, .un], ⟨_, _, rfl⟩, ?_, ?_⟩
  · rintro k d _ hd ⟨s4, s5, rfl⟩
    obtain ⟨hk, rfl⟩ := dFs_at hd
    have ek : bot = e k * (x k).B := by rw [he k hk]; grind
    obtain ⟨e0, o0⟩ := fac_ne ek b0
    have fe := mon_fac ek b0 (lead_div ek hl (x k).top e0 o0) fb (show Pol.len bot ≤ mx by omega) (by omega)
    have lo := (fac_len ek b0).2
    have le := (fac_len ek b0).1
    obtain ⟨fA, fB⟩ := (fx k hk).fb
    obtain ⟨D', V, hS, hU⟩ := split_ex ek o0 (Pol.fb_up fb (show B + Pol.cz mx ≤ B + c + 600 by omega)) (Pol.fb_up fB (show c ≤ B + c + 600 by omega)) (by omega) (by omega)
    have l1 : bot.1.length ≤ 1000 := by show Pol.len bot ≤ _; omega
    have l2 : (x k).B.1.length ≤ 1000 := by show Pol.len (x k).B ≤ _; omega
    have lA' := (fx k hk).lA
    refine ⟨rfl, rfl, rfl, bot.1, (x k).B.1, D', V, _, _, _, rfl, (x k).B.2, fun z => o0 (Pol.nil_iff.mp z), l1, l2, hS, fun f1 r1 hf1 hr1 hrl1 _ _ _ _ he1 => ⟨.inl rfl, _, rfl, ?_⟩⟩
    have := hU f1 r1 hf1 hr1 hrl1 he1
    subst this
    have lAk := lA k hk
    have fAk : Fb (B + Pol.cz mx) (B + Pol.cz mx) ((x k).A * e k).1 := (zA k hk).fb E0 Eb
    refine ⟨rfl, (x k).A.1, (e k).1, rfl, pt_of fA fe (by omega) (by omega) (by omega), .inl rfl, ?_⟩
    refine ⟨rfl, n, a, b, (x k).A * e k, _, rfl, hK, fAk, by omega, by omega, .inl rfl, ?_⟩
    refine ⟨by rw [dPs_len]; omega, .val (dP (x k).A.1), .val (dP (x k).B.1), congrArg (fun w => [Sl.val (dK n a b), .val (.tup (dFs n x)), .val (dP bot.1), .own w, .val (dP (x k).A.1), .val (dP (x k).B.1), .un, .un]) ?_⟩
    unfold dPs
    rw [List.range_succ, List.map_append]; rfl
  · rintro _ ⟨s4, s5, rfl⟩
    rw [dFs_len]
    have fy : ∀ i, i < n → Fb (B + 600 + 90 * mx) (B + 600 + 90 * mx) (byy n a b ((x i).A * e i)).1 := fun i hi => ((zy i hi).up (by omega)).fb ED EDb
    have fyb : Fb (B + 600 + 90 * mx) (B + 600 + 90 * mx) (byy n a b bot).1 := (zyb.up (by omega)).fb ED EDb
    obtain ⟨Y, eY⟩ : ∃ Y : Nat → Pol, Y = fun i => if i < n then byy n a b ((x i).A * e i) else 0 := ⟨_, rfl⟩
    have Yi : ∀ i, i < n → Y i = byy n a b ((x i).A * e i) := fun i hi => by rw [eY]; exact if_pos hi
    have fY : ∀ i, Fb (B + 600 + 90 * mx) (B + 600 + 90 * mx) (Y i).1 := fun i => by
      by_cases hi : i < n
      · rw [Yi i hi]; exact fy i hi
      · rw [eY]; simp only [if_neg hi]; exact Pol.fb_zero
    have lY : ∀ i, Pol.len (Y i) ≤ n * lS := fun i => by
      by_cases hi : i < n
      · rw [Yi i hi]; exact ly i hi
      · rw [eY]; simp only [if_neg hi]; exact Nat.zero_le _
    have foY : ∀ k, k ≤ n → fo Y k = fo (fun i => byy n a b ((x i).A * e i)) k := fun k => by
      induction k with
      | zero => intro _; rfl
      | succ k ih =>
        intro hk
        show fo Y k + Y k * xp k = fo _ k + _ * xp k
        rw [ih (by omega), Yi k (by omega)]
    have pbY : ∀ i t, RB' (B + 601 + 90 * mx) (co (Y i).1 t) := fun i t => pb_co (fun z hz => rb_mono (fbx_pb (fY i) z hz) (by omega)) (by omega) t
    have dY : dPs n (fun i => byy n a b ((x i).A * e i)) = dPs n Y := List.map_congr_left fun i hi => by rw [Yi i (List.mem_range.mp hi)]
    rw [dY]
    refine ⟨rfl, fun k ρ => ∃ s4 s7, ρ = [.val (dK n a b), .val (.tup (dFs n x)), .val (dP bot.1), .val (.lst (dPs n Y)), s4, s5, .val (dP (fo Y k).1), s7], ⟨_, _, rfl⟩, ?_, ?_⟩
    · rintro k d _ hd ⟨s4, s7, rfl⟩
      obtain ⟨hk, rfl⟩ := dPs_at hd
      have lx := len_xp k
      have lYk := lY k
      have lm := Pol.len_mul_le (Y k) (xp k)
      have lf := len_fo (l := n * lS) Y k fun i _ => lY i
      have f2 := Pol.fb_mul (fY k) (fb_xp k) (by omega)
      have pt := pt_of (fY k) (fb_xp k) (by omega) (by omega) (by omega)
      have p1 : PB 60000000 (fo Y k).1 := pb_of fun t => rb_mono (rb_fo pbY (by omega) k t) (by
        have : k * (B + 601 + 90 * mx + 1) ≤ 4 * (B + 601 + 90 * mx + 1) := Nat.mul_le_mul_right _ (by omega)
        omega)
      have p2 : PB 60000000 (Y k * xp k).1 := fun z hz => rb_mono (fbx_pb f2 z hz) (by omega)
      refine ⟨rfl, rfl, k, rfl, by omega, .inl rfl, rfl, (Y k).1, (xp k).1, rfl, pt, .inl rfl, rfl, (fo Y k).1, (Y k * xp k).1, 60000000, rfl, p1, p2, by decide, by decide, ?_, ?_, .inl rfl, _, _, rfl⟩
      · show Pol.len (fo Y k) ≤ _; omega
      · show Pol.len (Y k * xp k) ≤ _; omega
    · rintro _ ⟨s4, s7, rfl⟩
      have lm : ((dPs n Y).mapIdx fun i d => VL.D.tup [.int (i : Nat), d]).length = n := by rw [List.length_mapIdx, dPs_len]
      rw [lm]
      have zt := Zn.fo ED (fun i => byy n a b ((x i).A * e i)) n fun i hi => ⟨zy i hi, by have := ly i hi; omega⟩
      have jb : Pol.JB (B + 600 + 90 * mx) (fo Y n) (byy n a b bot) := by
        rw [foY n (Nat.le_refl _)]
        exact (zt.up (by omega)).jb (zyb.up (by omega)) ED EDb
      have lf : Pol.len (fo Y n) ≤ n * lS + 3 := by
        have h1 := lfo Y lY n4
        exact h1
      refine ⟨rfl, n, a, b, bot, _, rfl, hK, fb, by omega, by omega, .inl rfl, ?_⟩
      refine ⟨rfl, fo Y n, byy n a b bot, B + 600 + 90 * mx, n * lS + 3, n * lN, rfl, byy_ne n0 hK.a0 b b0, jb, lf, lyb, by omega, by omega, by rw [emx]; exact hH2, fun r hr hz => ⟨.inl rfl, hq bot e r b0 he ?_ ?_⟩⟩
      · rw [← foY n (Nat.le_refl _)]; exact hr
      · rw [emx] at hz; exact hz
theorem good_law_take15 : Good (Gw L) b_law_take15 2 1 vTake15 := by
  rintro ds0 rest q ⟨x, y, m, e, hm, hq⟩ -
  cases e
  have m0 : m ≠ 0 := by omega
  have fin : ∀ x y : Int, wSs (Gw L) (ss [.asg 2 (.bin .mod (.ix (.var 0) (.int 0)) (.var 1)),
  .sub 0 (.int 0) (.bin .fdiv (.ix (.var 0) (.int 0)) (.var 1)),
  .ret (.var 2)]) [.par [.int x, .int y], .val (.int m), .un] { nx := fun ρ => ∃ ds', gt ρ 0 = .par ds' ∧ q (.val .non) (some ds'), rt := fun r ρ => (∃ x : R, r = x) ∧ ∃ ds', gt ρ 0 = .par ds' ∧ q r (some ds') } := fun x y =>
    ⟨_, rfl, m0, _, rfl, m0, rfl, 0, rfl, ⟨_, rfl⟩, _, rfl, hq _ _ _ (Int.fmod_nonneg_of_pos x hm) (Int.fmod_lt_of_pos x hm)⟩
  refine ⟨_, rfl, fun _ => ⟨_, rfl, rfl, rfl, 0, rfl, rfl, 1, rfl, fin y 0⟩, fun _ => fin x y⟩
theorem rb42 {i j : Int} (hi : i.natAbs < 4398046511104) (hj : j.natAbs < 4398046511104) (h0 : 0 < j) : RB' 42 (Rat.divInt i j) := rb_div (by rw [show (2 : Nat) ^ 42 = 4398046511104 by decide]; exact hi) (by rw [show (2 : Nat) ^ 42 = 4398046511104 by decide]; exact hj) h0
theorem good_law_number15 : Good (Gw L) b_law_number15 1 1 vNumber15 := by
  rintro ds0 rest q ⟨x, y, e, hq⟩ -
  cases e
  have cp : CPow 10 12 := ⟨by decide, by decide, by decide⟩
  have cp6 : CPow 10 6 := ⟨by decide, by decide, by decide⟩
  have e12 : (10 : Int) ^ (12 : Int).toNat = 1000000000000 := by decide
  have e6 : (10 : Int) ^ (6 : Int).toNat = 1000000 := by decide
  refine ⟨rfl, rfl, x, y, 99, rfl, by decide, fun t x1 y1 t1 t2 => ⟨_, rfl, fun _ => ?_, fun _ => ⟨fun _ => ?_, fun _ => ?_⟩⟩⟩
  · refine ⟨rfl, rfl, x1, y1, 7, rfl, by decide, fun u x2 y2 u1 u2 => ⟨_, rfl, rfl, u - 3, 1, rfl, by decide, .inl rfl, ⟨_, rfl⟩, _, rfl, hq _ _ _ (rb42 (by omega) (by decide) (by decide))⟩⟩
  · refine ⟨rfl, rfl, x1, y1, 19, rfl, by decide, fun u x2 y2 u1 u2 => ⟨_, rfl, ?_⟩⟩
    refine ⟨rfl, rfl, x2, y2, 6, rfl, by decide, fun v x3 y3 v1 v2 => ⟨_, rfl, rfl, u - 9, 1 + v, rfl, by omega, .inl rfl, ⟨_, rfl⟩, _, rfl, hq _ _ _ (rb42 (by omega) (by omega) (by omega))⟩⟩
  · refine ⟨cp, mul_l (by decide), rfl, rfl, x1, y1, _, rfl, by decide, fun u x2 y2 u1 u2 => ⟨_, rfl, cp, cp6, rfl, rfl, x2, y2, _, rfl, by decide, fun v x3 y3 v1 v2 => ⟨_, rfl, rfl, _, _, rfl, ?_, .inl rfl, ⟨_, rfl⟩, _, rfl, ?_⟩⟩⟩
    · omega
    · rw [e12] at u2
      rw [e6] at v2
      exact hq _ _ _ (rb42 (by rw [e12]; omega) (by omega) (by omega))
theorem good_law_kind15 : Good (Gw L) b_law_kind15 1 1 vKind15 := by
  rintro ds0 rest q ⟨x, y, e, hq⟩ -
  cases e
  have fin : ∀ (a : Rat) (x y : Int), a ≠ 0 → RB' 42 a → wSs (Gw L) (ss [.ret (.tup (.cons (.bin .add (.int 2) (.call f_law_take15 (.cons (.var 0) (.cons (.int 3) .nil)))) (.cons (.var 1) (.cons (.call f_law_number15 (.cons (.var 0) .nil)) .nil))))]) [.par [.int x, .int y], .val (dR a)] { nx := fun ρ => ∃ ds', gt ρ 0 = .par ds' ∧ q (.val .non) (some ds'), rt := fun r ρ => (∃ x : R, r = x) ∧ ∃ ds', gt ρ 0 = .par ds' ∧ q r (some ds') } := by
    intro a x y a0 ra
    refine ⟨rfl, rfl, x, y, 3, rfl, by decide, fun t x1 y1 t1 t2 => ⟨_, rfl, rfl, rfl, x1, y1, rfl, fun b x2 y2 rb => ⟨_, rfl, rfl, ⟨_, rfl⟩, _, rfl, ?_⟩⟩⟩
    have := hq (2 + t).toNat a b x2 y2 ⟨by omega, by omega, a0, ra, rb⟩
    unfold dK at this
    rw [show (((2 + t).toNat : Nat) : Int) = 2 + t by omega] at this
    exact this
  refine ⟨rfl, rfl, x, y, rfl, fun a x1 y1 ra => ⟨_, rfl, rfl, rfl, rfl, fun h => ?_, fun h => ?_⟩⟩
  · refine ⟨rfl, rfl, x1, y1, 3, rfl, by decide, fun t x2 y2 t1 t2 => ⟨_, rfl, rfl, ?_⟩⟩
    have e : VL.D.tup [.int (1 + t), .int 1] = dR ((1 + t : Int) : Rat) := by
      rw [← dR_int]
      show dR _ = dR _
      congr 1
      exact (Rat.num_divInt_den ((1 + t : Int) : Rat)).symm ▸ rfl
    have := fin ((1 + t : Int) : Rat) x2 y2 (fun z => by
      have : 1 + t = 0 := by exact_mod_cast z
      omega) ⟨by show (1 + t).natAbs < 2 ^ 42; rw [show (2 : Nat) ^ 42 = 4398046511104 by decide]; omega, by show 1 < 2 ^ 42; decide⟩
    rw [← e] at this
    exact this
  · have h : deq (dR a) (dR 0) = false := h
    rw [deq_dR] at h
    exact fin a x1 y1 (of_decide_eq_false h) ra
theorem good_law_is_number15 : Good (Gw L) b_law_is_number15 1 1 vIsNumber15 := by
  rintro ds q ⟨r, rfl, hq⟩ -
  refine ⟨fun h => (by cases h), fun _ => ⟨fun h => (by cases h), fun _ => ?_⟩⟩
  refine ⟨fun k ρ => ∃ s, ρ = [.val (dR r), s], ⟨_, rfl⟩, ?_, ?_⟩
  · rintro k d _ hd ⟨s, rfl⟩
    have hd : ∃ i : Int, d = .int i := by
      match k, hd with
      | 0, hd => cases hd; exact ⟨_, rfl⟩
      | 1, hd => cases hd; exact ⟨_, rfl⟩
      | k + 2, hd => cases hd
    obtain ⟨i, rfl⟩ := hd
    exact ⟨fun h => (by cases h), fun _ => ⟨fun h => (by cases h), fun _ => ⟨_, rfl⟩⟩⟩
  · rintro _ ⟨s, rfl⟩
    refine ⟨_, rfl, ?_⟩
    show q (.val (.bl (decide ((0 : Int) < (r.den : Int))))) none
    rw [decide_eq_true (den_p r)]
    exact hq
theorem good_law_is_fraction15 : Good (Gw L) b_law_is_fraction15 1 2 vIsFraction15 := by
  rintro ds q ⟨x, rfl, lA, lB, hq⟩ -
  refine ⟨fun h => (by cases h), fun _ => ⟨fun h => (by cases h), fun _ => ?_⟩⟩
  refine ⟨fun k ρ => ∃ s, ρ = [.val (dF x), s, .un], ⟨_, rfl⟩, ?_, ?_⟩
  · rintro k d _ hd ⟨s, rfl⟩
    have hd : ∃ l : List Rat, d = dP l ∧ l.length ≤ 100 := by
      match k, hd with
      | 0, hd => cases hd; exact ⟨_, rfl, lA⟩
      | 1, hd => cases hd; exact ⟨_, rfl, lB⟩
      | k + 2, hd => cases hd
    obtain ⟨l, rfl, ll⟩ := hd
    refine ⟨fun h => (by cases h), fun _ => ?_⟩
    refine ⟨by rw [dRs_len]; unfold Sm; omega, fun k acc ρ => acc = (List.replicate k true).map VL.D.bl ∧ ρ = [.val (dF x), .val (dP l), .un], ⟨rfl, rfl⟩, ?_, ?_⟩
    · rintro k d acc _ hd ⟨rfl, rfl⟩
      have hk : k < l.length := by rw [← dRs_len l]; exact (List.getElem?_eq_some_iff.mp hd).1
      rw [dRs_get hk] at hd
      cases hd
      refine ⟨fun _ => ⟨rfl, co l k, rfl, .inl rfl, ?_, rfl⟩, fun h => (by cases h)⟩
      rw [List.replicate_succ', List.map_append]; rfl
    · rintro acc _ ⟨rfl, rfl⟩
      refine ⟨_, rfl, fun h => ?_, fun _ => ⟨_, rfl⟩⟩
      have all1 : ∀ n, (List.replicate n true).all id = true := fun n => by simp
      rw [all1] at h; cases h
  · rintro _ ⟨s, rfl⟩
    exact hq
theorem lt64 {x : Int} (h : 0 ≤ x) (g : x < 18446744073709551616) : x.natAbs < 2 ^ 64 := by
  have : (2 : Nat) ^ 64 = 18446744073709551616 := by decide
  omega
theorem at_pick (l : List Int) {u : Int} (h0 : 0 ≤ u) (h1 : u < l.length) : ∃ x, x ∈ l ∧ atI (l.map VL.D.int) u = some (.int x) := by
  obtain ⟨n, rfl⟩ : ∃ n : Nat, u = n := ⟨u.toNat, by omega⟩
  have hn : n < l.length := by omega
  exact ⟨l[n], List.getElem_mem hn, atI_nat (by rw [List.getElem?_map, List.getElem?_eq_getElem hn]; rfl)⟩
theorem good_law_source15 : Good (Gw L) b_law_source15 2 5 vSource15 := by
  rintro ds q ⟨ns, k, rfl, hl, hk, hq⟩ -
  have pos : ∀ {a k : Int}, 0 < k → 0 ≤ a.fmod k ∧ a.fmod k < k := fun hk => ⟨Int.fmod_nonneg_of_pos _ hk, Int.fmod_lt_of_pos _ hk⟩
  have lenN : (((ns.map VL.D.int).length : Int)) = ns.length := by rw [List.length_map]
  have rest : ∀ c : Int, wSs (Gw L) (ss [.asg 3 (.bin .mod (.bin .mul (.bin .add (.bin .add (.bin .add (.bin .mod (.var 2) (.int 2147483647)) (.bin .mul (.int 7919) (.var 1))) (.bin .mod (.blt .sum (.cons (.sl (.var 0) .no (.yes (.int 1))) .nil)) (.int 99991))) (.int 11)) (.int 48271)) (.int 2147483629)),
  .asg 4 (.bin .mod (.bin .mul (.var 3) (.var 3)) (.int 1999999973)),
  .asg 5 (.int 0),
  .for (.nm 6) (.rng1 (.int 9)) (ss [.asg 4 (.bin .mod (.bin .add (.bin .add (.bin .mul (.var 4) (.int 99991)) (.var 3)) (.bin .mul (.int 39373) (.var 6))) (.int 1999999973)),
  .asg 5 (.bin .add (.bin .mul (.var 5) (.int 1999999973)) (.var 4))]),
  .ite (.and (.cmp .gt (.blt .len (.cons (.var 0) .nil)) (.int 0)) (.cmp .eq (.bin .mod (.ix (.var 0) (.int 0)) (.int 2)) (.int 0))) (ss [.ret (.lst (.cons (.blt .abs (.cons (.var 2) .nil)) (.cons (.var 5) .nil)))]) (ss []),
  .ret (.lst (.cons (.var 5) (.cons (.int 0) .nil)))]) [.val (.fix (ns.map D.int)), .val (.int k), .val (.int c), .un, .un, .un, .un] { nx := fun _ => q (.val .non) none, rt := fun r _ => q r none } := fun c => by
    have p1 := fun a : Int => pos (a := a) (k := 2147483629) (by decide)
    have p2 := fun a : Int => pos (a := a) (k := 1999999973) (by decide)
    refine ⟨by decide, mul_l (by decide), (ns.take 1), ?_, by decide, mul_r (by decide), by decide, mul_l (lt64 (p1 _).1 (Int.lt_trans (p1 _).2 (by decide))), by decide, ⟨by decide, by decide⟩, fun j ρ => ∃ (x x3 y : Int) (s6 : Sl), ρ = [.val (.fix (ns.map D.int)), .val (.int k), .val (.int c), .val (.int x3), .val (.int x), .val (.int y), s6] ∧ 0 ≤ x ∧ x < 1999999973, ⟨_, _, _, _, rfl, (p2 _).1, (p2 _).2⟩, ?_, ?_⟩
    · exact (show cutD (ns.map VL.D.int) none (some 1) = (ns.map VL.D.int).take 1 from cut_to _ 1).trans (List.map_take ..).symm
    · rintro j d _ hd ⟨x, x3, y, s6, rfl, x0, x1⟩
      obtain ⟨rfl, hj⟩ := rngs_at hd
      exact ⟨mul_r (by decide), mul_l (by decide), by decide, mul_r (by decide), _, _, _, _, rfl, (p2 _).1, (p2 _).2⟩
    · rintro _ ⟨x, x3, y, s6, rfl, _, _⟩
      refine ⟨fun h => ?_, fun _ => ⟨fun z => (by cases z), fun _ => ⟨rfl, hq y 0⟩⟩⟩
      have h : decide ((0 : Int) < (ns.map VL.D.int).length) = true := h
      have h := of_decide_eq_true h
      obtain ⟨d, _, ad⟩ := at_pick ns (u := 0) (by decide) (by omega)
      exact ⟨_, ad, by decide, fun _ => ⟨rfl, hq _ y⟩, fun _ => ⟨rfl, hq y 0⟩⟩
  refine ⟨fun h => ?_, fun _ => rest 0⟩
  have h : decide ((1 : Int) < (ns.map VL.D.int).length) = true := h
  have h := of_decide_eq_true h
  have pm := pos (a := (k : Int)) (k := ((ns.map VL.D.int).length : Int) - 1) (by omega)
  obtain ⟨d, _, ad⟩ := at_pick ns (u := 1 + (k : Int).fmod (((ns.map VL.D.int).length : Int) - 1)) (by omega) (by omega)
  exact ⟨by omega, _, ad, rest d⟩

theorem jb_two {b c : Nat} {P Q : Pol} (h : Fb b b P.1) (g : Fb c c Q.1) : Pol.JB (b + c) P Q := by
  obtain ⟨D, D0, Db, z⟩ := Pol.fb_iz h
  obtain ⟨E, E0, Eb, y⟩ := Pol.fb_iz g
  have up : ∀ {R : Pol} {D E : Nat} {b c : Nat}, Pol.IZ (2 ^ b) (Pol.cst D * R) → E ≤ 2 ^ c → Pol.IZ (2 ^ (b + c)) (Pol.cst (D * E : Nat) * R) := fun {R D E b c} z hE k => by
    obtain ⟨n, e, l⟩ := z k
    refine ⟨n * E, ?_, ?_⟩
    · rw [Pol.co_cst_mul] at e ⊢
      rw [Rat.intCast_mul, Rat.intCast_natCast, ← e, Rat.natCast_mul]; grind
    · rw [Int.natAbs_mul, Nat.pow_add]
      exact Nat.mul_le_mul l (by simpa using hE)
  refine ⟨D * E, Nat.mul_pos D0 E0, by rw [Nat.pow_add]; exact Nat.mul_le_mul Db Eb, up z Eb, ?_⟩
  rw [Nat.mul_comm D E, Nat.add_comm b c]
  exact up y Db
theorem fb42 {P : Pol} {n : Nat} (h : PB 42 P.1) (hl : Pol.len P ≤ n) : Fb (42 * (n + 1)) (42 * (n + 1)) P.1 := by
  have hl : P.1.length ≤ n := hl
  exact fb_mono (fb_of h) (Nat.mul_le_mul_left _ (by omega)) (Nat.mul_le_mul_left _ (by omega))
theorem good_law_poly15 : Good (Gw L) b_law_poly15 2 1 vPoly15 := by
  rintro ds0 rest q ⟨x, y, m, e, hm, hq⟩ -
  cases e
  refine ⟨rfl, rfl, x, y, (m : Int) + 1, rfl, by omega, fun t x1 y1 t1 t2 => ⟨_, rfl, ⟨by omega, by omega⟩, ?_⟩⟩
  refine ⟨by rw [rngs_length]; unfold Sm; omega, fun k acc ρ => ∃ (x y : Int) (l : List Rat), ρ = [.par [.int x, .int y], .val (.int m), .un] ∧ acc = dRs l ∧ l.length = k ∧ PB 42 l, ⟨x1, y1, [], rfl, rfl, rfl, fun x hx => by cases hx⟩, ?_, ?_⟩
  · rintro k d acc _ hd ⟨x, y, l, rfl, rfl, hlen, hl⟩
    obtain ⟨rfl, hk⟩ := rngs_at hd
    refine ⟨fun _ => ⟨rfl, rfl, x, y, rfl, fun r x' y' hr => ⟨_, rfl, x', y', l ++ [r], rfl, ?_, by simp [hlen], fun x hx => ?_⟩⟩, fun h => (by cases h)⟩
    · unfold dRs; rw [List.map_append]; rfl
    · rcases List.mem_append.mp hx with z | z
      · exact hl x z
      · rw [List.mem_singleton.mp z]; exact hr
  · rintro acc _ ⟨x, y, l, rfl, rfl, hlen, hl⟩
    rw [rngs_length] at hlen
    refine ⟨rfl, _, l, rfl, .inl rfl, .inl rfl, ⟨_, rfl⟩, _, rfl, hq ⟨trim l, trim_isT l⟩ _ _ (pb_trim hl) ?_⟩
    have := trim_le l
    show (trim l).length ≤ m + 1
    omega
theorem good_law_fraction15 : Good (Gw L) b_law_fraction15 3 2 vFraction15 := by
  rintro ds0 rest q ⟨x, y, t, m, e, ht, hm, hq⟩ -
  cases e
  have fin : ∀ (x y : Int) (P Q : Pol), PB 42 P.1 → Pol.len P ≤ t + 1 → PB 42 Q.1 → Pol.len Q ≤ m + 1 → Q ≠ 0 → wSs (Gw L) (ss [.ret (.call f_fraction (.cons (.var 3) (.cons (.var 4) .nil)))]) [.par [.int x, .int y], .val (.int t), .val (.int m), .val (dP P.1), .val (dP Q.1)] { nx := fun ρ => ∃ ds', gt ρ 0 = .par ds' ∧ q (.val .non) (some ds'), rt := fun r ρ => (∃ x : R, r = x) ∧ ∃ ds', gt ρ 0 = .par ds' ∧ q r (some ds') } := by
    intro x y P Q hP lP hQ lQ Q0
    have jb := jb_two (fb42 (n := 4) hP (by omega)) (fb42 (n := 4) hQ (by omega))
    refine ⟨rfl, P, Q, _, t + 1, m + 1, rfl, Q0, jb, lP, lQ, by omega, by omega, ?_, fun g _ hz => ⟨.inl rfl, ⟨_, rfl⟩, _, rfl, hq g x y ⟨hz.jb.mono ?_, hz.lA, hz.lB⟩⟩⟩
    · have h1 : t + 1 + (m + 1) ≤ 8 := by omega
      show (t + 1 + (m + 1) + 10) * ((t + 1 + (m + 1)) * _ + 2) ≤ 60000000
      exact Nat.le_trans (Nat.mul_le_mul (show t + 1 + (m + 1) + 10 ≤ 18 by omega) (Nat.add_le_add_right (Nat.mul_le_mul_right _ h1) 2)) (by decide)
    · unfold Pol.cz
      rw [if_pos (by omega)]
      omega
  refine ⟨rfl, rfl, x, y, t, rfl, by omega, fun P x1 y1 hP lP => ⟨_, rfl, rfl, rfl, x1, y1, m, rfl, by omega, fun Q x2 y2 hQ lQ => ⟨_, rfl, rfl, dsh_of (okD_dP Q.1) (by decide), rfl, fun h => ?_, fun h => ?_⟩⟩⟩
  · refine ⟨rfl, rfl, ?_⟩
    refine fin x2 y2 P 1 hP lP (fun z hz => ?_) ?_ Pol.one_ne
    · have hz : z ∈ [(1 : Rat)] := hz
      rw [List.mem_singleton.mp hz]
      exact ⟨by decide, by decide⟩
    · rw [len1]; omega
  · have h : deq (dP Q.1) (dP []) = false := h
    rw [deq_dP] at h
    exact fin x2 y2 P Q hP lP hQ lQ fun z => dec_f h (Pol.nil_iff.mpr z)
end M15

/-! K44: the law as terms. -/
namespace K44
open PySem PySem.Spec L2 VL M1 M2 M3 M4 M6 M7 M15
abbrev f_law_round : Nat := 104
abbrev f_law_right : Nat := 105
abbrev f_law : Nat := 106
/-- law_round: 0 law_kind_here, 1 law_parts, 2 law_line -/
def b_law_round : Ss := ss [.asg 2 (.call f_f_poly (.cons (.call f_poly (.cons (.lst (.cons (.ix (.var 0) (.int 2)) (.cons (.ix (.var 0) (.int 1)) .nil))) .nil)) .nil)),
  .ret (.bin .add (.tup (.cons (.call f_f_times (.cons (.ix (.var 1) (.neg (.int 1))) (.cons (.var 2) .nil))) .nil)) (.sl (.var 1) .no (.yes (.neg (.int 1)))))]
/-- law_right: 0 law_kind_here, 1 law_parts, 2 law_others, 3 law_total, 4 law_both, 5 law_one, 6 law_other -/
def b_law_right : Ss := ss [.asg 3 (.call f_joined (.cons (.var 0) (.cons (.var 1) .nil))),
  .ite (.or (.not (.tru (.call f_law_is_fraction15 (.cons (.var 3) .nil)))) (.cmp .ne (.var 3) (.call f_fraction (.cons (.ix (.var 3) (.int 0)) (.cons (.ix (.var 3) (.int 1)) .nil))))) (ss [.ret (.bl false)]) (ss []),
  .ite (.cmp .ne (.call f_parted (.cons (.var 0) (.cons (.var 3) .nil))) (.var 1)) (ss [.ret (.bl false)]) (ss []),
  .asg 4 (.blt .tuple (.cons (.lc (.call f_f_plus (.cons (.var 5) (.cons (.var 6) .nil))) (.tp [5, 6]) (.zip (.var 1) (.var 2)) [5, 6] .no) .nil)),
  .ite (.cmp .ne (.call f_joined (.cons (.var 0) (.cons (.var 4) .nil))) (.call f_f_plus (.cons (.var 3) (.cons (.call f_joined (.cons (.var 0) (.cons (.var 2) .nil))) .nil)))) (ss [.ret (.bl false)]) (ss []),
  .ret (.cmp .eq (.call f_joined (.cons (.var 0) (.cons (.call f_law_round (.cons (.var 0) (.cons (.var 1) .nil))) .nil))) (.call f_f_times (.cons (.var 3) (.cons (.call f_f_poly (.cons (.tup (.cons (.tup (.cons (.int 0) (.cons (.int 1) .nil))) (.cons (.tup (.cons (.int 1) (.cons (.int 1) .nil))) .nil))) .nil)) .nil))))]
/-- law: 0 law_script, 1 law_k, 2 law_source_here, 3 law_kind_here, 4 law_parts, 5 law_others, 6 law_i -/
def b_law : Ss := ss [.for (.nm 1) (.rng1 (.int 2)) (ss [.asg 2 (.call f_law_source15 (.cons (.var 0) (.cons (.var 1) .nil))),
  .asg 3 (.call f_law_kind15 (.cons (.var 2) .nil)),
  .asg 4 (.lst .nil),
  .asg 5 (.lst .nil),
  .for (.nm 6) (.rng1 (.ix (.var 3) (.int 0))) (ss [.ex (.mth .append 4 (.cons (.call f_law_fraction15 (.cons (.var 2) (.cons (.int 2) (.cons (.ix (.lst (.cons (.int 2) (.cons (.int 1) (.cons (.int 0) .nil)))) (.bin .add (.blt .int (.cons (.cmp .gt (.ix (.var 3) (.int 0)) (.int 2)) .nil)) (.blt .int (.cons (.cmp .gt (.var 6) (.int 1)) .nil)))) .nil)))) .nil)),
   .ex (.mth .append 5 (.cons (.ix (.lst (.cons (.call f_f_number (.cons (.tup (.cons (.int 0) (.cons (.int 1) .nil))) .nil)) (.cons (.call f_law_fraction15 (.cons (.var 2) (.cons (.int 1) (.cons (.bin .sub (.int 1) (.blt .int (.cons (.cmp .gt (.var 6) (.int 0)) .nil))) .nil)))) .nil))) (.call f_law_take15 (.cons (.var 2) (.cons (.int 2) .nil)))) .nil))]),
  .ite (.not (.tru (.call f_law_right (.cons (.var 3) (.cons (.blt .tuple (.cons (.var 4) .nil)) (.cons (.blt .tuple (.cons (.var 5) .nil)) .nil)))))) (ss [.ret (.bl false)]) (ss [])]),
  .ret (.bl true)]
def topS (i : Nat) : Stmt := PySem.Challenge.pw_backslope_k44_joined_then_parted.main.body.getD i (.Pass ⟨0, 0, 0, 0⟩)
def e_shared : Ent := ⟨f_shared, ⟨("shared", none), "shared", "shared", defArgs (topS 1), defBody (topS 1), defScope (topS 1), [], []⟩, ["one", "other", "rest"], ["one", "other"], b_shared, false⟩
def e_ratio : Ent := ⟨f_ratio, ⟨("ratio", none), "ratio", "ratio", defArgs (topS 2), defBody (topS 2), defScope (topS 2), [], []⟩, ["top", "bottom", "by"], ["top", "bottom"], b_ratio, false⟩
def e_plus : Ent := ⟨f_plus, ⟨("plus", none), "plus", "plus", defArgs (topS 3), defBody (topS 3), defScope (topS 3), [], []⟩, ["one", "other"], ["one", "other"], b_plus, false⟩
def e_minus : Ent := ⟨f_minus, ⟨("minus", none), "minus", "minus", defArgs (topS 4), defBody (topS 4), defScope (topS 4), [], []⟩, ["one", "other"], ["one", "other"], b_minus, false⟩
def e_times : Ent := ⟨f_times, ⟨("times", none), "times", "times", defArgs (topS 5), defBody (topS 5), defScope (topS 5), [], []⟩, ["one", "other"], ["one", "other"], b_times, false⟩
def e_over : Ent := ⟨f_over, ⟨("over", none), "over", "over", defArgs (topS 6), defBody (topS 6), defScope (topS 6), [], []⟩, ["one", "other"], ["one", "other"], b_over, false⟩
def e_whole_power : Ent := ⟨f_whole_power, ⟨("whole_power", none), "whole_power", "whole_power", defArgs (topS 7), defBody (topS 7), defScope (topS 7), [], []⟩, ["one", "n", "made"], ["one", "n"], b_whole_power, false⟩
def e_power0 : Ent := ⟨f_power0, ⟨("power", none), "power", "power", defArgs (topS 8), defBody (topS 8), defScope (topS 8), [], []⟩, ["one", "n"], ["one", "n"], b_power1, true⟩
def e_power1 : Ent := ⟨f_power1, ⟨("power", none), "power", "power", defArgs (topS 8), defBody (topS 8), defScope (topS 8), [], []⟩, ["one", "n"], ["one", "n"], b_power1, false⟩
def e_power : Ent := ⟨f_power, ⟨("power", none), "power", "power", defArgs (topS 8), defBody (topS 8), defScope (topS 8), [], []⟩, ["one", "n"], ["one", "n"], b_power, false⟩
def e_poly : Ent := ⟨f_poly, ⟨("poly", none), "poly", "poly", defArgs (topS 12), defBody (topS 12), defScope (topS 12), [], []⟩, ["row", "many"], ["row"], b_poly, false⟩
def e_at_power : Ent := ⟨f_at_power, ⟨("at_power", none), "at_power", "at_power", defArgs (topS 13), defBody (topS 13), defScope (topS 13), [], []⟩, ["P", "k"], ["P", "k"], b_at_power, false⟩
def e_p_plus : Ent := ⟨f_p_plus, ⟨("p_plus", none), "p_plus", "p_plus", defArgs (topS 14), defBody (topS 14), defScope (topS 14), [], []⟩, ["P", "Q", "k"], ["P", "Q"], b_p_plus, false⟩
def e_p_minus : Ent := ⟨f_p_minus, ⟨("p_minus", none), "p_minus", "p_minus", defArgs (topS 15), defBody (topS 15), defScope (topS 15), [], []⟩, ["P", "Q", "k"], ["P", "Q"], b_p_minus, false⟩
def e_p_scaled : Ent := ⟨f_p_scaled, ⟨("p_scaled", none), "p_scaled", "p_scaled", defArgs (topS 16), defBody (topS 16), defScope (topS 16), [], []⟩, ["P", "c", "one"], ["P", "c"], b_p_scaled, false⟩
def e_p_times : Ent := ⟨f_p_times, ⟨("p_times", none), "p_times", "p_times", defArgs (topS 17), defBody (topS 17), defScope (topS 17), [], []⟩, ["P", "Q", "row", "k", "one", "j", "other"], ["P", "Q"], b_p_times, false⟩
def e_p_split : Ent := ⟨f_p_split, ⟨("p_split", none), "p_split", "p_split", defArgs (topS 18), defBody (topS 18), defScope (topS 18), [], []⟩, ["P", "Q", "rest", "found", "k", "by", "j", "one"], ["P", "Q"], b_p_split, false⟩
def e_monic : Ent := ⟨f_monic, ⟨("monic", none), "monic", "monic", defArgs (topS 19), defBody (topS 19), defScope (topS 19), [], []⟩, ["P"], ["P"], b_monic, false⟩
def e_common : Ent := ⟨f_common, ⟨("common", none), "common", "common", defArgs (topS 20), defBody (topS 20), defScope (topS 20), [], []⟩, ["P", "Q", "rest"], ["P", "Q"], b_common, false⟩
def e_p_moved15 : Ent := ⟨f_p_moved15, ⟨("p_moved", none), "p_moved", "p_moved", defArgs (topS 21), defBody (topS 21), defScope (topS 21), [], []⟩, ["P", "c", "found", "one"], ["P", "c"], b_p_moved15, false⟩
def e_fraction : Ent := ⟨f_fraction, ⟨("fraction", none), "fraction", "fraction", defArgs (topS 26), defBody (topS 26), defScope (topS 26), [], []⟩, ["top", "bottom", "shared", "scale"], ["top", "bottom"], b_fraction, false⟩
def e_f_poly : Ent := ⟨f_f_poly, ⟨("f_poly", none), "f_poly", "f_poly", defArgs (topS 27), defBody (topS 27), defScope (topS 27), [], []⟩, ["P"], ["P"], b_f_poly, false⟩
def e_f_number : Ent := ⟨f_f_number, ⟨("f_number", none), "f_number", "f_number", defArgs (topS 28), defBody (topS 28), defScope (topS 28), [], []⟩, ["c"], ["c"], b_f_number, false⟩
def e_f_plus : Ent := ⟨f_f_plus, ⟨("f_plus", none), "f_plus", "f_plus", defArgs (topS 29), defBody (topS 29), defScope (topS 29), [], []⟩, ["F", "G", "top"], ["F", "G"], b_f_plus, false⟩
def e_f_times : Ent := ⟨f_f_times, ⟨("f_times", none), "f_times", "f_times", defArgs (topS 30), defBody (topS 30), defScope (topS 30), [], []⟩, ["F", "G"], ["F", "G"], b_f_times, false⟩
def e_letter_to : Ent := ⟨f_letter_to, ⟨("letter_to", none), "letter_to", "letter_to", defArgs (topS 34), defBody (topS 34), defScope (topS 34), [], []⟩, ["n"], ["n"], b_letter_to, false⟩
def e_stretched : Ent := ⟨f_stretched, ⟨("stretched", none), "stretched", "stretched", defArgs (topS 35), defBody (topS 35), defScope (topS 35), [], []⟩, ["P", "c", "k", "number"], ["P", "c"], b_stretched, false⟩
def e_spread_out : Ent := ⟨f_spread_out, ⟨("spread_out", none), "spread_out", "spread_out", defArgs (topS 36), defBody (topS 36), defScope (topS 36), [], []⟩, ["P", "n", "row", "number"], ["P", "n"], b_spread_out, false⟩
def e_every_nth : Ent := ⟨f_every_nth, ⟨("every_nth", none), "every_nth", "every_nth", defArgs (topS 37), defBody (topS 37), defScope (topS 37), [], []⟩, ["P", "n", "i"], ["P", "n"], b_every_nth, false⟩
def e_laid_in : Ent := ⟨f_laid_in, ⟨("laid_in", none), "laid_in", "laid_in", defArgs (topS 38), defBody (topS 38), defScope (topS 38), [], []⟩, ["parts", "n", "whole", "i", "part"], ["parts", "n"], b_laid_in, false⟩
def e_by_y : Ent := ⟨f_by_y, ⟨("by_y", none), "by_y", "by_y", defArgs (topS 39), defBody (topS 39), defScope (topS 39), [], []⟩, ["kind", "P", "n", "a", "b"], ["kind", "P"], b_by_y, false⟩
def e_by_x : Ent := ⟨f_by_x, ⟨("by_x", none), "by_x", "by_x", defArgs (topS 40), defBody (topS 40), defScope (topS 40), [], []⟩, ["kind", "P", "n", "a", "b"], ["kind", "P"], b_by_x, false⟩
def e_turned : Ent := ⟨f_turned, ⟨("turned", none), "turned", "turned", defArgs (topS 41), defBody (topS 41), defScope (topS 41), [], []⟩, ["P"], ["P"], b_turned, false⟩
def e_third_factor : Ent := ⟨f_third_factor, ⟨("third_factor", none), "third_factor", "third_factor", defArgs (topS 42), defBody (topS 42), defScope (topS 42), [], []⟩, ["Q", "w", "p", "q", "r", "first", "second"], ["Q"], b_third_factor, false⟩
def e_other_factor : Ent := ⟨f_other_factor, ⟨("other_factor", none), "other_factor", "other_factor", defArgs (topS 43), defBody (topS 43), defScope (topS 43), [], []⟩, ["Q", "n", "other", "half"], ["Q", "n"], b_other_factor, false⟩
def e_parted : Ent := ⟨f_parted, ⟨("parted", none), "parted", "parted", defArgs (topS 44), defBody (topS 44), defScope (topS 44), [], []⟩, ["kind", "g", "n", "other", "bottom", "tops", "top"], ["kind", "g"], b_parted, false⟩
def e_shared_bottom : Ent := ⟨f_shared_bottom, ⟨("shared_bottom", none), "shared_bottom", "shared_bottom", defArgs (topS 45), defBody (topS 45), defScope (topS 45), [], []⟩, ["parts", "bottom", "top", "own"], ["parts"], b_shared_bottom, false⟩
def e_joined : Ent := ⟨f_joined, ⟨("joined", none), "joined", "joined", defArgs (topS 46), defBody (topS 46), defScope (topS 46), [], []⟩, ["kind", "parts", "bottom", "tops", "top", "own", "total", "i"], ["kind", "parts"], b_joined, false⟩
def e_law_source15 : Ent := ⟨f_law_source15, ⟨("_law_source", none), "_law_source", "_law_source", defArgs (topS 48), defBody (topS 48), defScope (topS 48), [], []⟩, ["_law_script", "_law_k", "_law_cell", "_law_some", "_law_more", "_law_number_here", "_law_j"], ["_law_script", "_law_k"], b_law_source15, false⟩
def e_law_take15 : Ent := ⟨f_law_take15, ⟨("_law_take", none), "_law_take", "_law_take", defArgs (topS 49), defBody (topS 49), defScope (topS 49), [], []⟩, ["_law_source_here", "_law_many", "_law_digit"], ["_law_source_here", "_law_many"], b_law_take15, false⟩
def e_law_number15 : Ent := ⟨f_law_number15, ⟨("_law_number", none), "_law_number", "_law_number", defArgs (topS 50), defBody (topS 50), defScope (topS 50), [], []⟩, ["_law_source_here", "_law_how"], ["_law_source_here"], b_law_number15, false⟩
def e_law_kind15 : Ent := ⟨f_law_kind15, ⟨("_law_kind", none), "_law_kind", "_law_kind", defArgs (topS 51), defBody (topS 51), defScope (topS 51), [], []⟩, ["_law_source_here", "_law_a"], ["_law_source_here"], b_law_kind15, false⟩
def e_law_poly15 : Ent := ⟨f_law_poly15, ⟨("_law_poly", none), "_law_poly", "_law_poly", defArgs (topS 52), defBody (topS 52), defScope (topS 52), [], []⟩, ["_law_source_here", "_law_most", "_law_k"], ["_law_source_here", "_law_most"], b_law_poly15, false⟩
def e_law_fraction15 : Ent := ⟨f_law_fraction15, ⟨("_law_fraction", none), "_law_fraction", "_law_fraction", defArgs (topS 53), defBody (topS 53), defScope (topS 53), [], []⟩, ["_law_source_here", "_law_top", "_law_bottom", "_law_kp", "_law_kq"], ["_law_source_here", "_law_top", "_law_bottom"], b_law_fraction15, false⟩
def e_law_is_number15 : Ent := ⟨f_law_is_number15, ⟨("_law_is_number", none), "_law_is_number", "_law_is_number", defArgs (topS 54), defBody (topS 54), defScope (topS 54), [], []⟩, ["_law_found", "_law_part"], ["_law_found"], b_law_is_number15, false⟩
def e_law_is_fraction15 : Ent := ⟨f_law_is_fraction15, ⟨("_law_is_fraction", none), "_law_is_fraction", "_law_is_fraction", defArgs (topS 55), defBody (topS 55), defScope (topS 55), [], []⟩, ["_law_found", "_law_row", "_law_one"], ["_law_found"], b_law_is_fraction15, false⟩
def e_law_round : Ent := ⟨f_law_round, ⟨("_law_round", none), "_law_round", "_law_round", defArgs (topS 56), defBody (topS 56), defScope (topS 56), [], []⟩, ["_law_kind_here", "_law_parts", "_law_line"], ["_law_kind_here", "_law_parts"], b_law_round, false⟩
def e_law_right : Ent := ⟨f_law_right, ⟨("_law_right", none), "_law_right", "_law_right", defArgs (topS 57), defBody (topS 57), defScope (topS 57), [], []⟩, ["_law_kind_here", "_law_parts", "_law_others", "_law_total", "_law_both", "_law_one", "_law_other"], ["_law_kind_here", "_law_parts", "_law_others"], b_law_right, false⟩
def e_law : Ent := ⟨f_law, ⟨("law", none), "law", "law", defArgs (topS 58), defBody (topS 58), defScope (topS 58), [], []⟩, ["_law_script", "_law_k", "_law_source_here", "_law_kind_here", "_law_parts", "_law_others", "_law_i"], ["_law_script"], b_law, false⟩
def tab : List Ent := [e_shared, e_ratio, e_plus, e_minus, e_times, e_over, e_whole_power, e_power0, e_power1, e_power, e_poly, e_at_power, e_p_plus, e_p_minus, e_p_scaled, e_p_times, e_p_split, e_monic, e_common, e_p_moved15, e_fraction, e_f_poly, e_f_number, e_f_plus, e_f_times, e_letter_to, e_stretched, e_spread_out, e_every_nth, e_laid_in, e_by_y, e_by_x, e_turned, e_third_factor, e_other_factor, e_parted, e_shared_bottom, e_joined, e_law_source15, e_law_take15, e_law_number15, e_law_kind15, e_law_poly15, e_law_fraction15, e_law_is_number15, e_law_is_fraction15, e_law_round, e_law_right, e_law]
def blts : List Str := ["abs", "all", "bool", "enumerate", "int", "isinstance", "len", "list", "max", "range", "reversed", "sum", "tuple", "zip"]
def cons : List (Str × VL.D) := [("NOUGHT_polys", .tup [.int 0, .int 1]), ("ONE_polys", .tup [.int 1, .int 1]), ("UNIT", .tup [.int 1, .int 1]), ("ONE_fractions", .tup [.tup [.int 1, .int 1]]), ("NOUGHT_fractions", .tup [.tup [], .tup [.tup [.int 1, .int 1]]]), ("NOUGHT_roots", .tup [.int 0, .int 1]), ("ONE_roots", .tup [.int 1, .int 1])]
set_option maxHeartbeats 0 in
theorem bnd_all : Along (fun _ e => Bnd e) 0 tab := ⟨(fun _ _ _ _ _ _ us hl => match us, hl with | [_, _], _ => rfl),
  (fun _ _ _ _ _ _ us hl => match us, hl with | [_, _], _ => rfl),
  (fun _ _ _ _ _ _ us hl => match us, hl with | [_, _], _ => rfl),
  (fun _ _ _ _ _ _ us hl => match us, hl with | [_, _], _ => rfl),
  (fun _ _ _ _ _ _ us hl => match us, hl with | [_, _], _ => rfl),
  (fun _ _ _ _ _ _ us hl => match us, hl with | [_, _], _ => rfl),
  (fun _ _ _ _ _ _ us hl => match us, hl with | [_, _], _ => rfl),
  (fun _ _ _ _ _ _ us hl => match us, hl with | [_, _], _ => rfl),
  (fun _ _ _ _ _ _ us hl => match us, hl with | [_, _], _ => rfl),
  (fun _ _ _ _ _ _ us hl => match us, hl with | [_, _], _ => rfl),
  (fun _ _ _ _ _ _ us hl => match us, hl with | [_], _ => rfl),
  (fun _ _ _ _ _ _ us hl => match us, hl with | [_, _], _ => rfl),
  (fun _ _ _ _ _ _ us hl => match us, hl with | [_, _], _ => rfl),
  (fun _ _ _ _ _ _ us hl => match us, hl with | [_, _], _ => rfl),
  (fun _ _ _ _ _ _ us hl => match us, hl with | [_, _], _ => rfl),
  (fun _ _ _ _ _ _ us hl => match us, hl with | [_, _], _ => rfl),
  (fun _ _ _ _ _ _ us hl => match us, hl with | [_, _], _ => rfl),
  (fun _ _ _ _ _ _ us hl => match us, hl with | [_], _ => rfl),
  (fun _ _ _ _ _ _ us hl => match us, hl with | [_, _], _ => rfl),
  (fun _ _ _ _ _ _ us hl => match us, hl with | [_, _], _ => rfl),
  (fun _ _ _ _ _ _ us hl => match us, hl with | [_, _], _ => rfl),
  (fun _ _ _ _ _ _ us hl => match us, hl with | [_], _ => rfl),
  (fun _ _ _ _ _ _ us hl => match us, hl with | [_], _ => rfl),
  (fun _ _ _ _ _ _ us hl => match us, hl with | [_, _], _ => rfl),
  (fun _ _ _ _ _ _ us hl => match us, hl with | [_, _], _ => rfl),
  (fun _ _ _ _ _ _ us hl => match us, hl with | [_], _ => rfl),
  (fun _ _ _ _ _ _ us hl => match us, hl with | [_, _], _ => rfl),
  (fun _ _ _ _ _ _ us hl => match us, hl with | [_, _], _ => rfl),
  (fun _ _ _ _ _ _ us hl => match us, hl with | [_, _], _ => rfl),
  (fun _ _ _ _ _ _ us hl => match us, hl with | [_, _], _ => rfl),
  (fun _ _ _ _ _ _ us hl => match us, hl with | [_, _], _ => rfl),
  (fun _ _ _ _ _ _ us hl => match us, hl with | [_, _], _ => rfl),
  (fun _ _ _ _ _ _ us hl => match us, hl with | [_], _ => rfl),
  (fun _ _ _ _ _ _ us hl => match us, hl with | [_], _ => rfl),
  (fun _ _ _ _ _ _ us hl => match us, hl with | [_, _], _ => rfl),
  (fun _ _ _ _ _ _ us hl => match us, hl with | [_, _], _ => rfl),
  (fun _ _ _ _ _ _ us hl => match us, hl with | [_], _ => rfl),
  (fun _ _ _ _ _ _ us hl => match us, hl with | [_, _], _ => rfl),
  (fun _ _ _ _ _ _ us hl => match us, hl with | [_, _], _ => rfl),
  (fun _ _ _ _ _ _ us hl => match us, hl with | [_, _], _ => rfl),
  (fun _ _ _ _ _ _ us hl => match us, hl with | [_], _ => rfl),
  (fun _ _ _ _ _ _ us hl => match us, hl with | [_], _ => rfl),
  (fun _ _ _ _ _ _ us hl => match us, hl with | [_, _], _ => rfl),
  (fun _ _ _ _ _ _ us hl => match us, hl with | [_, _, _], _ => rfl),
  (fun _ _ _ _ _ _ us hl => match us, hl with | [_], _ => rfl),
  (fun _ _ _ _ _ _ us hl => match us, hl with | [_], _ => rfl),
  (fun _ _ _ _ _ _ us hl => match us, hl with | [_, _], _ => rfl),
  (fun _ _ _ _ _ _ us hl => match us, hl with | [_, _, _], _ => rfl),
  (fun _ _ _ _ _ _ us hl => match us, hl with | [_], _ => rfl), trivial⟩
set_option maxHeartbeats 0 in
theorem chk_all : entB tab blts cons 0 tab = true := by decide +kernel
end K44

/-! K44: promises and why they are kept. -/
namespace K44
open PySem PySem.Spec L2 VL M1 M2 M3 M4 M5 M6 M7 M15
open Pol (cst)
theorem byy_mul {n : Nat} (n0 : 0 < n) (a b : Rat) (P Q : Pol) : byy n a b (P * Q) = byy n a b P * byy n a b Q := Pol.ext fun y => by rw [ev_byy n0, Pol.ev_mul, Pol.ev_mul, ev_byy n0, ev_byy n0]
theorem byy_add {n : Nat} (n0 : 0 < n) (a b : Rat) (P Q : Pol) : byy n a b (P + Q) = byy n a b P + byy n a b Q := Pol.ext fun y => by rw [ev_byy n0, Pol.ev_add, Pol.ev_add, ev_byy n0, ev_byy n0]
theorem byy_one {n : Nat} (n0 : 0 < n) (a b : Rat) : byy n a b 1 = 1 := Pol.ext fun y => by rw [ev_byy n0, Pol.ev_1, Pol.ev_1]
/-- (y^n - b) / a for x -/
noncomputable def phi (n : Nat) (a b : Rat) (f : Fra) : Fra := Fra.tf (byy n a b f.A) (byy n a b f.B)
section
variable {n : Nat} {a b : Rat} (hK : Kn n a b)
include hK
theorem n0K : 0 < n := by have := hK.n2; omega
theorem phi_is (f : Fra) : (phi n a b f).Is (byy n a b f.A) (byy n a b f.B) := Fra.tf_is _ (byy_ne (n0K hK) hK.a0 b f.B0)
theorem phi_of {f : Fra} {P Q : Pol} (h : f.Is P Q) : (phi n a b f).Is (byy n a b P) (byy n a b Q) := (phi_is hK f).ratio (byy_ne (n0K hK) hK.a0 b h.1) (by
  rw [← byy_mul (n0K hK), ← byy_mul (n0K hK), h.2])
theorem phi_add (f g : Fra) : phi n a b (f + g) = phi n a b f + phi n a b g := by
  refine (phi_of hK (f.self.add g.self)).uniq ((phi_is hK f).add (phi_is hK g)) ?_
  rw [byy_add (n0K hK), byy_mul (n0K hK), byy_mul (n0K hK), byy_mul (n0K hK)]
theorem phi_mul (f g : Fra) : phi n a b (f * g) = phi n a b f * phi n a b g := by
  refine (phi_of hK (f.self.mul g.self)).uniq ((phi_is hK f).mul (phi_is hK g)) ?_
  rw [byy_mul (n0K hK), byy_mul (n0K hK)]
theorem phi_poly (P : Pol) : phi n a b (Fra.poly P) = Fra.poly (byy n a b P) := by
  refine (phi_of hK (Fra.poly_is P)).uniq (Fra.poly_is _) ?_
  rw [byy_one (n0K hK)]
/-- the sum of the parts -/
noncomputable def J (n : Nat) (a b : Rat) (x : Nat → Fra) : Nat → Fra
  | 0 => 0
  | k + 1 => J n a b x k + phi n a b (x k) * Fra.poly (xp k)
theorem J_is (x : Nat → Fra) {bot : Pol} (e : Nat → Pol) (b0 : bot ≠ 0) : ∀ k, (∀ i, i < k → bot = (x i).B * e i) → (J n a b x k).Is (fo (fun i => byy n a b ((x i).A * e i)) k) (byy n a b bot)
  | 0, _ => Fra.zero_is.ratio (byy_ne (n0K hK) hK.a0 b b0) (by show (0 : Pol) * _ = 0 * 1; grind)
  | k + 1, h => by
    have i1 := J_is x e b0 k fun i hi => h i (by omega)
    have Q0 := byy_ne (n0K hK) hK.a0 b b0
    have i2 : (phi n a b (x k) * Fra.poly (xp k)).Is (byy n a b ((x k).A * e k) * xp k) (byy n a b bot) := ((phi_is hK (x k)).mul (Fra.poly_is (xp k))).ratio Q0 (by
      rw [h k (by omega), byy_mul (n0K hK), byy_mul (n0K hK)]; grind)
    refine (i1.add i2).ratio Q0 ?_
    show _ = (fo _ k + _ * xp k) * _
    grind
theorem J_add (x w : Nat → Fra) : ∀ k, J n a b (fun i => x i + w i) k = J n a b x k + J n a b w k
  | 0 => by show (0 : Fra) = 0 + 0; grind
  | k + 1 => by
    show J n a b (fun i => x i + w i) k + phi n a b (x k + w k) * Fra.poly (xp k) = J n a b x k + phi n a b (x k) * Fra.poly (xp k) + (J n a b w k + phi n a b (w k) * Fra.poly (xp k))
    rw [J_add x w k, phi_add hK]; grind
theorem J_neg (x : Nat → Fra) : ∀ k, J n a b (fun i => Fra.poly (cst (-1)) * x i) k = Fra.poly (cst (-1)) * J n a b x k
  | 0 => by show (0 : Fra) = _ * 0; grind
  | k + 1 => by
    show J n a b (fun i => Fra.poly (cst (-1)) * x i) k + phi n a b (Fra.poly (cst (-1)) * x k) * Fra.poly (xp k) = _ * (J n a b x k + phi n a b (x k) * Fra.poly (xp k))
    have e : byy n a b (cst (-1)) = cst (-1) := Pol.ext fun y => by rw [ev_byy (n0K hK), Pol.ev_cst, Pol.ev_cst]
    rw [J_neg x k, phi_mul hK, phi_poly hK, e]; grind
end
theorem any_bot (x : Nat → Fra) : ∀ n, ∃ (bot : Pol) (e : Nat → Pol), bot ≠ 0 ∧ ∀ i, i < n → bot = (x i).B * e i
  | 0 => ⟨1, fun _ => 0, Pol.one_ne, fun i hi => by omega⟩
  | n + 1 => by
    obtain ⟨bot, e, h1, h2⟩ := any_bot x n
    refine ⟨bot * (x n).B, fun i => if i = n then bot else e i * (x n).B, Pol.mul_ne h1 (x n).B0, fun i hi => ?_⟩
    by_cases g : i = n
    · subst g; simp only [if_pos]; grind
    · simp only [if_neg g]
      rw [h2 i (by omega)]; grind
theorem J_zero {n : Nat} {a b : Rat} (hK : Kn n a b) (x : Nat → Fra) (h : J n a b x n = 0) {i : Nat} (hi : i < n) : x i = 0 := by
  have n0 := n0K hK
  obtain ⟨bot, e, b0, he⟩ := any_bot x n
  have q := (J_is hK x e b0 n he).2
  rw [h] at q
  have f0 : fo (fun i => byy n a b ((x i).A * e i)) n = 0 := by
    have q : (0 : Pol) * byy n a b bot = fo (fun i => byy n a b ((x i).A * e i)) n * 1 := q
    rw [show fo (fun i => byy n a b ((x i).A * e i)) n * 1 = fo (fun i => byy n a b ((x i).A * e i)) n by grind] at q
    rw [← q]; grind
  have z := nt_fo n0 (fun i => M7.P.sh (-b) (st (1 / a) ((x i).A * e i))) hi
  have f0 : fo (fun j => sp n (M7.P.sh (-b) (st (1 / a) ((x j).A * e j)))) n = 0 := f0
  rw [f0] at z
  have z0 : nt n i 0 = 0 := Pol.co_ext fun t => by rw [co_nt n n0]; exact (co_nil _).trans (co_nil _).symm
  rw [z0] at z
  have p0 : (x i).A * e i = 0 := Pol.ext fun y => by
    have w := congrArg (fun p => Pol.ev p (a * y + b)) z
    have w : Pol.ev 0 (a * y + b) = Pol.ev (M7.P.sh (-b) (st (1 / a) ((x i).A * e i))) (a * y + b) := w
    rw [M7.P.ev_sh, ev_st, Pol.ev_0] at w
    have a0 := hK.a0
    rw [show 1 / a * (a * y + b + -b) = y by grind] at w
    rw [Pol.ev_0, ← w]
  have e0 : e i ≠ 0 := fun w => b0 (by rw [he i hi, w]; grind)
  refine Fra.A0_iff.mp (Classical.byContradiction fun w => Pol.mul_ne w e0 p0)
theorem J_inj {n : Nat} {a b : Rat} (hK : Kn n a b) (x y : Nat → Fra) (h : J n a b x n = J n a b y n) {i : Nat} (hi : i < n) : x i = y i := by
  have m1 : Fra.poly (cst (-1)) = -1 := by
    refine (Fra.poly_is (cst (-1))).uniq (Fra.one_is.neg) ?_
    have : cst (-1) = -1 := Pol.ext fun y => by rw [Pol.ev_cst, Pol.ev_neg, Pol.ev_1]
    rw [this]
  have z : J n a b (fun i => x i + Fra.poly (cst (-1)) * y i) n = 0 := by
    have e := J_add hK x (fun i => Fra.poly (cst (-1)) * y i) n
    rw [J_neg hK] at e
    rw [e, h, m1]; grind
  have q := J_zero hK _ z hi
  have q : x i + Fra.poly (cst (-1)) * y i = 0 := q
  rw [m1] at q
  grind
/-- what parts give them back -/
theorem J_prt {n : Nat} {a b : Rat} (hK : Kn n a b) (g : Fra) : J n a b (prt n a b g) n = g := by
  have n0 := n0K hK
  obtain ⟨bot, e, b0, he⟩ := any_bot (prt n a b g) n
  have id := join_id n0 hK.a0 b (oth_ne (n := n) g.B0) (oth_mul hK.n2 hK.n4 g.B) (prt n a b g) bot e (fun i _ => (prt_is hK g i).2) he
  exact (J_is hK (prt n a b g) e b0 n he).uniq (show g.Is _ _ from ⟨byy_ne n0 hK.a0 b b0, id.symm⟩) rfl
theorem prt_J {n : Nat} {a b : Rat} (hK : Kn n a b) (x : Nat → Fra) {i : Nat} (hi : i < n) : prt n a b (J n a b x n) i = x i := J_inj hK _ _ (J_prt hK _) hi
/-- the parts, moved on by one -/
noncomputable def rnd (n : Nat) (l : Fra) (x : Nat → Fra) (i : Nat) : Fra := if i = 0 then x (n - 1) * l else x (i - 1)
theorem poly_mul (P Q : Pol) : Fra.poly (P * Q) = Fra.poly P * Fra.poly Q := (Fra.poly_is _).uniq ((Fra.poly_is P).mul (Fra.poly_is Q)) (by grind)
theorem xp_succ (i : Nat) : xp (i + 1) = xp i * xp 1 := Pol.ext fun y => by rw [Pol.ev_mul, ev_xp, ev_xp, ev_X, Rat.pow_succ]
theorem xp_zero : xp 0 = 1 := Pol.ext fun y => by rw [ev_xp, Pol.ev_1, Rat.pow_zero]
theorem J_rnd {n : Nat} {a b : Rat} (hK : Kn n a b) (x : Nat → Fra) {P : Pol} (hP : ∀ y, Pol.ev P y = b + a * y) : J n a b (rnd n (Fra.poly P) x) n = J n a b x n * Fra.poly (xp 1) := by
  have n0 := n0K hK
  have step : ∀ k, J n a b (rnd n (Fra.poly P) x) (k + 1) = phi n a b (x (n - 1) * Fra.poly P) + J n a b x k * Fra.poly (xp 1) := fun k => by
    induction k with
    | zero =>
      show 0 + phi n a b (rnd n (Fra.poly P) x 0) * Fra.poly (xp 0) = phi n a b (x (n - 1) * Fra.poly P) + 0 * Fra.poly (xp 1)
      rw [show rnd n (Fra.poly P) x 0 = x (n - 1) * Fra.poly P from rfl, xp_zero, show Fra.poly 1 = 1 from rfl]; grind
    | succ k ih =>
      show J n a b (rnd n (Fra.poly P) x) (k + 1) + phi n a b (rnd n (Fra.poly P) x (k + 1)) * Fra.poly (xp (k + 1)) = phi n a b (x (n - 1) * Fra.poly P) + (J n a b x k + phi n a b (x k) * Fra.poly (xp k)) * Fra.poly (xp 1)
      rw [ih, show rnd n (Fra.poly P) x (k + 1) = x k from by unfold rnd; rw [if_neg (by omega)]; rfl, xp_succ k, poly_mul]; grind
  obtain ⟨m, rfl⟩ : ∃ m, n = m + 1 := ⟨n - 1, by omega⟩
  rw [step m, phi_mul hK, phi_poly hK]
  have e : byy (m + 1) a b P = xp (m + 1) := Pol.ext fun y => by
    rw [ev_byy n0, hP, ev_xp]
    have a0 := hK.a0
    grind
  rw [e, xp_succ m, poly_mul]
  show _ = (J (m + 1) a b x m + phi (m + 1) a b (x m) * Fra.poly (xp m)) * _
  rw [show m + 1 - 1 = m by omega]
  grind
/-! ### sizes -/
/-- one bottom for all, and the tops over it -/
theorem all_one {c lA : Nat} (x : Nat → Fra) (mB : Nat → Nat) (l60 : lA ≤ 60) : ∀ n, n ≤ 4 → (∀ i, i < n → Fz (x i) c lA (mB i) ∧ mB i ≤ 60) → ∃ (M : Pol) (S : Nat → Pol) (D : Nat), M ≠ 0 ∧ (∀ i, i < n → (x i).A * M = S i * (x i).B) ∧ 0 < D ∧ D ≤ 2 ^ (n * (c + 10)) ∧ Zn D (n * (c + 10)) M ∧ (∀ i, i < n → Zn D (n * (c + 10)) (S i)) ∧ ∃ s : Nat, Pol.len M ≤ 1 + s ∧ (∀ i, i < n → Pol.len (S i) ≤ lA + s) ∧ s + n = ((List.range n).map mB).sum
  | 0, _, _ => ⟨1, fun _ => 0, 1, Pol.one_ne, fun i hi => by omega, by decide, Nat.one_le_two_pow, fun t => by
      rw [Pol.co_cst_mul]
      show ∃ n : Int, ((1 : Nat) : Rat) * co [(1 : Rat)] t = n ∧ n.natAbs ≤ _
      cases t with
      | zero => exact ⟨1, by rw [co_zero]; grind, by simp⟩
      | succ t => exact ⟨0, by rw [co_succ, co_nil, Rat.mul_zero]; rfl, Nat.zero_le _⟩, fun i hi => by omega, 0, by rw [len1]; omega, fun i hi => by omega, rfl⟩
  | n + 1, n4, h => by
    obtain ⟨M, S, D, M0, hx, D0, Db, zM, zS, s, lM, lS, es⟩ := all_one x mB l60 n (by omega) fun i hi => h i (by omega)
    obtain ⟨⟨⟨E, E0, Eb, zA, zB⟩, lA', lB'⟩, m60⟩ := h n (by omega)
    have b0 := (x n).B0
    have bp := Pol.len_pos b0
    have mp := Pol.len_pos M0
    have zA : Zn E c (x n).A := zA
    have zB : Zn E c (x n).B := zB
    have ls : s ≤ 240 := by
      have : ((List.range n).map mB).sum ≤ n * 60 := by
        have key : ∀ k, k ≤ n → ((List.range k).map mB).sum ≤ k * 60 := fun k => by
          induction k with
          | zero => intro _; exact Nat.zero_le _
          | succ k ih =>
            intro hk
            rw [List.range_succ, List.map_append, List.sum_append_nat]
            have := ih (by omega)
            have := (h k (by omega)).2
            simp only [List.map_cons, List.map_nil, List.sum_cons, List.sum_nil]
            omega
        exact key n (Nat.le_refl _)
      omega
    have eb : (n + 1) * (c + 10) = n * (c + 10) + c + 10 := by rw [Nat.add_mul]; omega
    refine ⟨M * (x n).B, fun i => if i = n then M * (x n).A else S i * (x n).B, D * E, Pol.mul_ne M0 b0, fun i hi => ?_, Nat.mul_pos D0 E0, ?_, ?_, fun i hi => ?_, s + (mB n - 1), ?_, fun i hi => ?_, ?_⟩
    · by_cases g : i = n
      · subst g; simp only [if_pos]; grind
      · simp only [if_neg g]
        have := hx i (by omega)
        grind
    · rw [eb]
      refine Nat.le_trans (Nat.mul_le_mul Db Eb) ?_
      rw [← Nat.pow_add]
      exact pw_mono (by omega)
    · rw [eb]; exact zM.mul zB D0 (by omega)
    · rw [eb]
      by_cases g : i = n
      · simp only [if_pos g]; exact zM.mul zA D0 (by omega)
      · simp only [if_neg g]; exact (zS i (by omega)).mul zB D0 (by have := lS i (by omega); omega)
    · have := Pol.len_mul_le M (x n).B
      omega
    · by_cases g : i = n
      · simp only [if_pos g]
        have := Pol.len_mul_le M (x n).A
        omega
      · simp only [if_neg g]
        have := Pol.len_mul_le (S i) (x n).B
        have := lS i (by omega)
        omega
    · rw [List.range_succ, List.map_append, List.sum_append_nat, ← es]
      simp only [List.map_cons, List.map_nil, List.sum_cons, List.sum_nil]
      omega

/-- how long the bottoms drawn are -/
def mB (n i : Nat) : Nat := if n = 2 then 3 else if i ≤ 1 then 2 else 1
def wB (i : Nat) : Nat := if i = 0 then 2 else 1
/-- a line in x -/
def lin (a b : Rat) : Pol := Pol.of (trim [b, a]) (trim_isT _)
def v_law_round : VF := ⟨.read, fun ds q => ∃ (n : Nat) (a b : Rat) (x : Nat → Fra), ds = [dK n a b, .tup (dFs n x)] ∧ Kn n a b ∧ (∀ i, i < n → Fz (x i) 472 3 (mB n i)) ∧ q (.val (.tup (dFs n (rnd n (Fra.poly (lin a b)) x)))) none⟩
def v_law_right : VF := ⟨.read, fun ds q => ∃ (n : Nat) (a b : Rat) (x w : Nat → Fra), ds = [dK n a b, .tup (dFs n x), .tup (dFs n w)] ∧ Kn n a b ∧ (∀ i, i < n → Fz (x i) 472 3 (mB n i)) ∧ (∀ i, i < n → Fz (w i) 472 2 (wB i)) ∧ q (.val (.bl true)) none⟩
def v_law : VF := lawVF 63
def loc : Nat → VF
  | 0 => v_law_round
  | 1 => v_law_right
  | 2 => v_law
  | _ => vStub
noncomputable def ga : Nat → VF := G1 (G2 (G3 (G4 (G6 (G7 (G15 (loc)))))))

theorem fz_is {x : Fra} {P Q : Pol} {b n m : Nat} (h : x.Is P Q) (jb : Pol.JB b P Q) (lP : Pol.len P ≤ n) (lQ : Pol.len Q ≤ m) (hn : n ≤ 100) (hm : m ≤ 100) : Fz x (b + Pol.cz (max n m)) n m := by
  have Q0 := h.1
  have Qp := Pol.len_pos Q0
  obtain ⟨g, hG⟩ := M7.gcd_ex (P := P) (Q := Q) fun z => Q0 z.2
  obtain ⟨a, ea⟩ := hG.a
  obtain ⟨c, ec⟩ := hG.b
  have c0 : c ≠ 0 := fun z => Q0 (by rw [ec, z]; grind)
  have gp := Pol.len_pos hG.ne
  have hx := Fra.ofg_is c0 (Fra.cof hG ea ec) hG.ne ea ec
  have e := h.uniq hx rfl
  have jz := Pol.jb_frac (n := max n m) jb ea ec Q0 (by omega) (by omega) (by omega)
  have nz : 1 / Pol.lead c ≠ 0 := fun z => by
    have h1 := Pol.lead_ne c0
    have h2 := Rat.div_mul_cancel h1 (a := 1)
    rw [z, Rat.zero_mul] at h2
    exact absurd h2 (by decide)
  have lc : Pol.len c ≤ m := by
    have h1 := Pol.len_mul c0 hG.ne
    rw [← ec] at h1
    omega
  have la : Pol.len a ≤ n := by
    by_cases a0 : a = 0
    · rw [a0, Pol.len_zero]; omega
    · have h1 := Pol.len_mul a0 hG.ne
      rw [← ea] at h1
      omega
  rw [e]
  exact ⟨jz, by show Pol.len (Pol.cst (1 / Pol.lead c) * a) ≤ n; rw [Pol.len_cst_mul nz]; exact la, by show Pol.len (Pol.cst (1 / Pol.lead c) * c) ≤ m; rw [Pol.len_cst_mul nz]; exact lc⟩
theorem ok_dF (x : Fra) : dsh (dF x) = true := dsh_of (okD_tup (n := 2) fun d hd => by
  rcases List.mem_cons.mp hd with w | w
  · rw [w]; exact okD_dP _
  · rw [List.mem_singleton.mp w]; exact okD_dP _) (by decide)
theorem hz_of {N b : Nat} (hN : N ≤ 49) (hb : b ≤ 16000) : Hz N b := by
  show (N + 10) * (N * (b + 12) + 2) ≤ 60000000
  exact Nat.le_trans (Nat.mul_le_mul (show N + 10 ≤ 59 by omega) (Nat.add_le_add_right (Nat.mul_le_mul hN (show b + 12 ≤ 16012 by omega)) 2)) (by decide)
theorem three {n : Nat} {a b : Rat} (hK : Kn n a b) : n = 2 ∨ n = 3 ∨ n = 4 := by
  have := hK.n2
  have := hK.n4
  omega
theorem ev_lin (a b y : Rat) : Pol.ev (lin a b) y = b + a * y := by
  show M4.ev (trim [b, a]) y = _
  rw [ev_trim]
  show b + y * (a + y * 0) = _
  grind
theorem fz_poly {P : Pol} {b n : Nat} (h : Fb b b P.1) (hn : Pol.len P ≤ n) : Fz (Fra.poly P) b n 1 := ⟨Pol.jb_of h, hn, Nat.le_of_eq len1⟩
theorem fb_lin {n : Nat} {a b : Rat} (hK : Kn n a b) : Fb 126 126 (lin a b).1 := by
  have h : PB 42 (lin a b).1 := pb_trim fun r hr => by
    rcases List.mem_cons.mp hr with w | w
    · rw [w]; exact hK.rb
    · rw [List.mem_singleton.mp w]; exact hK.ra
  have l : (lin a b).1.length ≤ 2 := trim_le _
  exact fb_mono (fb_of h) (by have := Nat.mul_le_mul_left 42 l; omega) (by have := Nat.mul_le_mul_left 42 (show (lin a b).1.length + 1 ≤ 3 by omega); omega)
theorem dFs_ix {n k : Nat} (x : Nat → Fra) (h : k < n) : (dFs n x)[k]? = some (dF (x k)) := by
  unfold dFs
  rw [List.getElem?_map, List.getElem?_range h]; rfl
theorem good_law_round : Good ga b_law_round 2 1 v_law_round := by
  rintro ds q ⟨n, a, b, x, rfl, hK, hx, hq⟩ -
  have n2 := hK.n2
  have n4 := hK.n4
  have last : atI (dFs n x) (-1) = some (dF (x (n - 1))) := by
    obtain ⟨m, rfl⟩ : ∃ m, n = m + 1 := ⟨n - 1, by omega⟩
    rw [dFs_snoc, show m + 1 - 1 = m by omega]
    exact atI_last _ _
  have cut : cutD (dFs n x) none (some (-1)) = dFs (n - 1) x := by
    unfold cutD
    have e1 : HT.sIx (dFs n x).length (dFs n x).length (some (-1)) = n - 1 := by
      rw [dFs_len]
      show (if (-1 : Int) < 0 then ((-1 : Int) + (n : Int)).toNat else min (-1 : Int).toNat n) = n - 1
      rw [if_pos (by decide)]; omega
    rw [e1, HT.sIx_none, List.drop_zero, Nat.sub_zero]
    obtain ⟨m, rfl⟩ : ∃ m, n = m + 1 := ⟨n - 1, by omega⟩
    rw [dFs_snoc, show m + 1 - 1 = m by omega]
    have : (dFs m x).length = m := dFs_len m x
    rw [List.take_append_of_le_length (by omega), List.take_of_length_le (by omega)]
  have whole : [dF (x (n - 1) * Fra.poly (lin a b))] ++ dFs (n - 1) x = dFs n (rnd n (Fra.poly (lin a b)) x) := by
    obtain ⟨m, rfl⟩ : ∃ m, n = m + 1 := ⟨n - 1, by omega⟩
    rw [show m + 1 - 1 = m by omega]
    unfold dFs
    rw [List.range_succ_eq_map, List.map_cons, List.map_map]
    rfl
  have mb : mB n (n - 1) ≤ 3 := by
    unfold mB
    split
    · omega
    · split <;> omega
  have fx := (hx (n - 1) (by omega)).up (Nat.le_refl _) (Nat.le_refl _) mb
  have fl : Fz (Fra.poly (lin a b)) 126 2 1 := fz_poly (fb_lin hK) (trim_le _)
  refine ⟨_, rfl, _, rfl, rfl, rfl, _, [b, a], rfl, .inl rfl, .inl rfl, rfl, lin a b, rfl, .inl rfl, ?_⟩
  refine ⟨_, last, ?_⟩
  refine ⟨rfl, x (n - 1), Fra.poly (lin a b), 472, 3, 3, 126, 2, 1, rfl, fx, fl, by decide, by decide, hz_of (by decide) (by decide), fun _ => ⟨.inl rfl, rfl, ?_⟩⟩
  show Sm ([dF (x (n - 1) * Fra.poly (lin a b))].length + (cutD (dFs n x) none (some (-1))).length) ∧ q (.val (.tup ([dF (x (n - 1) * Fra.poly (lin a b))] ++ cutD (dFs n x) none (some (-1))))) none
  rw [cut, whole, dFs_len]
  exact ⟨by unfold Sm; simp; omega, hq⟩
/-- joined, of parts whose sizes are known -/
theorem use_joined {n c lA s : Nat} {a b : Rat} {x : Nat → Fra} {mB : Nat → Nat} (hK : Kn n a b) (hx : ∀ i, i < n → Fz (x i) c lA (mB i)) (hm : ∀ i, i < n → mB i ≤ 60) (lA60 : lA ≤ 20) (es : s + n = ((List.range n).map mB).sum) (s10 : s ≤ 8) (hc : c ≤ 1100) (h1 : n * (lA + s) + 3 + n * (1 + s) ≤ 49) {q : R → Option (List VL.D) → Prop}
    (hq : Fz (J n a b x n) (n * (c + 10) + 600 + 90 * max (lA + s) (1 + s) + Pol.cz (max (n * (lA + s) + 3) (n * (1 + s)))) (n * (lA + s) + 3) (n * (1 + s)) → q (.val (dF (J n a b x n))) none) : vJoined.sp [dK n a b, .tup (dFs n x)] q := by
  have n2 := hK.n2
  have n4 := hK.n4
  obtain ⟨M, S, D, M0, hM, D0, Db, zM, zS, s', lM, lS, es'⟩ := all_one x mB (by omega) n n4 fun i hi => ⟨hx i hi, hm i hi⟩
  have : s' = s := by omega
  subst this
  have nc : n * (c + 10) ≤ 4 * (c + 10) := Nat.mul_le_mul_right _ n4
  have m20 : max (lA + s') (1 + s') ≤ 28 := by omega
  refine ⟨n, a, b, x, M, S, D, n * (c + 10), c, lA + s', 1 + s', rfl, hK, M0, hM, D0, Db, zM, zS, lM, lS, by omega, by omega, fun i hi => (hx i hi).up (Nat.le_refl _) (by omega) (by have := hm i hi; omega), hz_of (by omega) (by omega), by omega, by omega, by omega, hz_of (by omega) (by omega), fun bot e r b0 he hr hz => ?_⟩
  have : r = J n a b x n := hr.uniq (J_is hK x e b0 n he) rfl
  rw [this] at hz ⊢
  exact hq hz
/-- how long the joined fractions are -/
def sX (n : Nat) : Nat := if n = 2 then 4 else 2
def sY (n : Nat) : Nat := if n = 2 then 5 else 3
def mY (n i : Nat) : Nat := mB n i + wB i - 1
def mR (n i : Nat) : Nat := if i = 0 then mB n (n - 1) else mB n (i - 1)
theorem m_le (n i : Nat) : 1 ≤ mB n i ∧ mB n i ≤ 3 ∧ 1 ≤ wB i ∧ wB i ≤ 2 ∧ mR n i ≤ 3 := by
  have h1 : ∀ j, 1 ≤ mB n j ∧ mB n j ≤ 3 := fun j => by
    unfold mB
    split
    · omega
    · split <;> omega
  refine ⟨(h1 i).1, (h1 i).2, ?_, ?_, ?_⟩
  · unfold wB; split <;> omega
  · unfold wB; split <;> omega
  · unfold mR
    split
    · exact (h1 _).2
    · exact (h1 _).2
theorem sums {n : Nat} {a b : Rat} (hK : Kn n a b) : sX n + n = ((List.range n).map (mB n)).sum ∧ 1 + n = ((List.range n).map wB).sum ∧ sY n + n = ((List.range n).map (mY n)).sum ∧ sX n + n = ((List.range n).map (mR n)).sum ∧ sX n ≤ 4 ∧ sY n ≤ 5 ∧ n * (3 + sX n) + 3 ≤ 23 ∧ n * (1 + sX n) ≤ 12 ∧ n * (4 + sX n) + 3 ≤ 27 ∧ n * (4 + sY n) + 3 ≤ 31 ∧ n * (1 + sY n) ≤ 16 ∧ Pz n (n * (3 + sX n) + 3) (n * (1 + sX n)) 15 12 := by
  rcases three hK with rfl | rfl | rfl
  · exact ⟨by decide, by decide, by decide, by decide, by decide, by decide, by decide, by decide, by decide, by decide, by decide, ⟨by decide, by decide, by decide, by decide, by decide, by decide, by decide⟩⟩
  · exact ⟨by decide, by decide, by decide, by decide, by decide, by decide, by decide, by decide, by decide, by decide, by decide, ⟨by decide, by decide, by decide, by decide, by decide, by decide, by decide⟩⟩
  · exact ⟨by decide, by decide, by decide, by decide, by decide, by decide, by decide, by decide, by decide, by decide, by decide, ⟨by decide, by decide, by decide, by decide, by decide, by decide, by decide⟩⟩
theorem cz_le' {n : Nat} (h : n ≤ 31) : Pol.cz n ≤ 13 * n := by unfold Pol.cz; rw [if_pos h]; exact Nat.le_refl _
theorem dFs_congr {n : Nat} {x y : Nat → Fra} (h : ∀ i, i < n → x i = y i) : dFs n x = dFs n y := List.map_congr_left fun i hi => by rw [h i (List.mem_range.mp hi)]
theorem okFs (n : Nat) (x : Nat → Fra) : dsh (.tup (dFs n x)) = true := dsh_of (okD_tup (n := 3) fun d hd => by
  obtain ⟨i, _, rfl⟩ := List.mem_map.mp hd
  exact okD_tup (n := 2) fun d hd => by
    rcases List.mem_cons.mp hd with w | w
    · rw [w]; exact okD_dP _
    · rw [List.mem_singleton.mp w]; exact okD_dP _) (by decide)
theorem good_law_right : Good ga b_law_right 3 4 v_law_right := by
  rintro ds q ⟨n, a, b, x, w, rfl, hK, hx, hw, hq⟩ -
  have n2 := hK.n2
  have n4 := hK.n4
  obtain ⟨s1, s2, s3, s4, x4, y5, t23, t12, r27, b31, b16, hP⟩ := sums hK
  have ml := fun i => m_le n i
  refine ⟨rfl, use_joined (s := sX n) hK hx (fun i _ => by have := ml i; omega) (by decide) s1 (by omega) (by decide) (by omega) fun hz => ⟨.inl rfl, ?_⟩⟩
  obtain ⟨t, et⟩ : ∃ t, t = J n a b x n := ⟨_, rfl⟩
  rw [← et] at hz ⊢
  have nc : n * (472 + 10) ≤ 4 * 482 := Nat.mul_le_mul_right _ n4
  have zt : Fz t 3500 (n * (3 + sX n) + 3) (n * (1 + sX n)) := ⟨hz.jb.mono (by
    have := cz_le' (n := max (n * (3 + sX n) + 3) (n * (1 + sX n))) (by omega)
    omega), hz.lA, hz.lB⟩
  have lA : t.A.1.length ≤ 23 := Nat.le_trans zt.lA (by omega)
  have lB : t.B.1.length ≤ 12 := Nat.le_trans zt.lB (by omega)
  refine ⟨rfl, t, rfl, by omega, by omega, .inl rfl, fun h => (by cases h), fun _ => ?_⟩
  refine ⟨_, rfl, _, rfl, rfl, t.A, t.B, 3500, _, _, rfl, t.B0, zt.jb, zt.lA, zt.lB, by omega, by omega, hz_of (by omega) (by decide), fun y hy _ => ⟨.inl rfl, ?_⟩⟩
  have : y = t := hy.uniq t.self rfl
  rw [this]
  refine ⟨ok_dF t, ok_dF t, fun h => ?_, fun _ => ?_⟩
  · have h : (!deq (dF t) (dF t)) = true := h
    rw [deq_self] at h; cases h
  have pt : dFs n (prt n a b t) = dFs n x := dFs_congr fun i hi => by rw [et]; exact prt_J hK x hi
  refine ⟨rfl, n, a, b, t, 3500, _, _, 15, 12, rfl, hK, zt, hP, by decide, hz_of (by decide) (by decide), .inl rfl, ?_⟩
  rw [pt]
  refine ⟨okFs n x, okFs n x, fun h => ?_, fun _ => ?_⟩
  · have h : (!deq (.tup (dFs n x)) (.tup (dFs n x))) = true := h
    rw [deq_self] at h; cases h
  have zl : (List.zipWith (fun x y => VL.D.tup [x, y]) (dFs n x) (dFs n w)).length = n := by rw [List.length_zipWith, dFs_len, dFs_len, Nat.min_self]
  have zat : ∀ {k : Nat} {d : VL.D}, (List.zipWith (fun x y => VL.D.tup [x, y]) (dFs n x) (dFs n w))[k]? = some d → k < n ∧ d = .tup [dF (x k), dF (w k)] := fun {k d} h => by
    by_cases hk : k < n
    · rw [List.getElem?_zipWith, dFs_ix x hk, dFs_ix w hk] at h
      cases h
      exact ⟨hk, rfl⟩
    · rw [List.getElem?_eq_none (by omega)] at h; cases h
  refine ⟨by rw [zl]; unfold Sm; omega, fun k acc ρ => acc = dFs k (fun i => x i + w i) ∧ ρ = [.val (dK n a b), .val (.tup (dFs n x)), .val (.tup (dFs n w)), .val (dF t), .un, .un, .un], ⟨rfl, rfl⟩, ?_, ?_⟩
  · rintro k d acc _ hd ⟨rfl, rfl⟩
    obtain ⟨hk, rfl⟩ := zat hd
    obtain ⟨m1, m2, m3, m4, _⟩ := ml k
    refine ⟨rfl, fun _ => ?_, fun h => (by cases h)⟩
    refine ⟨rfl, x k, w k, 472, 3, mB n k, 472, 2, wB k, rfl, hx k hk, hw k hk, by omega, by omega, hz_of (by omega) (by decide), fun _ => ⟨.inl rfl, ?_, rfl⟩⟩
    exact (dFs_snoc k _).symm
  rintro acc _ ⟨rfl, rfl⟩
  rw [zl]
  have hy : ∀ i, i < n → Fz (x i + w i) 1007 4 (mY n i) := fun i hi => by
    obtain ⟨m1, m2, m3, m4, _⟩ := ml i
    have fx := hx i hi
    have fw := hw i hi
    have xA := fx.lA
    have xB := fx.lB
    have wA := fw.lA
    have wBl := fw.lB
    have xp := Pol.len_pos (x i).B0
    have wp := Pol.len_pos (w i).B0
    have a1 := Pol.len_add_le ((x i).A * (w i).B) ((w i).A * (x i).B)
    have p1 := Pol.len_mul_le (x i).A (w i).B
    have p2 := Pol.len_mul_le (w i).A (x i).B
    have p3 := Pol.len_mul_le (x i).B (w i).B
    have z := fz_is (n := 4) (m := mY n i) ((x i).self.add (w i).self) (Pol.JB.add fx.jb fw.jb (by omega) (by omega) (by omega)).1 (by omega) (by unfold mY; omega) (by decide) (by unfold mY; omega)
    refine ⟨z.jb.mono ?_, z.lA, z.lB⟩
    have := cz_le' (n := max 4 (mY n i)) (by unfold mY; omega)
    unfold mY at this ⊢
    omega
  refine ⟨rfl, use_joined (s := sY n) hK hy (fun i _ => by have := ml i; unfold mY; omega) (by decide) s3 (by omega) (by decide) (by omega) fun _ => ⟨.inl rfl, ?_⟩⟩
  refine ⟨rfl, use_joined (s := 1) hK hw (fun i _ => by have := ml i; omega) (by decide) s2 (by decide) (by decide) (by omega) fun hz3 => ⟨.inl rfl, ?_⟩⟩
  have zw : Fz (J n a b w n) 3100 (n * (2 + 1) + 3) (n * (1 + 1)) := ⟨hz3.jb.mono (by
    have := cz_le' (n := max (n * (2 + 1) + 3) (n * (1 + 1))) (by omega)
    omega), hz3.lA, hz3.lB⟩
  refine ⟨rfl, t, J n a b w n, 3500, _, _, 3100, _, _, rfl, zt, zw, by omega, by omega, hz_of (by omega) (by decide), fun _ => ⟨.inl rfl, ok_dF _, ok_dF _, ?_⟩⟩
  have ea : J n a b (fun i => x i + w i) n = t + J n a b w n := by rw [J_add hK, et]
  rw [ea]
  refine ⟨fun h => ?_, fun _ => ?_⟩
  · have h : (!deq (dF (t + J n a b w n)) (dF (t + J n a b w n))) = true := h
    rw [deq_self] at h; cases h
  refine ⟨rfl, n, a, b, x, rfl, hK, hx, .inl rfl, ?_⟩
  have hr : ∀ i, i < n → Fz (rnd n (Fra.poly (lin a b)) x i) 660 4 (mR n i) := fun i hi => by
    unfold rnd mR
    by_cases i0 : i = 0
    · rw [if_pos i0, if_pos i0]
      have fx := hx (n - 1) (by omega)
      have fl : Fz (Fra.poly (lin a b)) 126 2 1 := fz_poly (fb_lin hK) (trim_le _)
      have m3 := (ml (n - 1)).2.1
      have m1 := (ml (n - 1)).1
      have xA := fx.lA
      have xB := fx.lB
      have lA := fl.lA
      have lB := fl.lB
      have p1 := Pol.len_mul_le (x (n - 1)).A (Fra.poly (lin a b)).A
      have p3 := Pol.len_mul_le (x (n - 1)).B (Fra.poly (lin a b)).B
      have z := fz_is (n := 4) (m := mB n (n - 1)) ((x (n - 1)).self.mul (Fra.poly (lin a b)).self) (Pol.JB.mul fx.jb fl.jb (by omega) (by omega)) (by omega) (by omega) (by decide) (by omega)
      refine ⟨z.jb.mono ?_, z.lA, z.lB⟩
      have := cz_le' (n := max 4 (mB n (n - 1))) (by omega)
      omega
    · rw [if_neg i0, if_neg i0]
      exact (hx (i - 1) (by omega)).up (by decide) (by decide) (Nat.le_refl _)
  refine ⟨rfl, use_joined (s := sX n) hK hr (fun i _ => by have := ml i; omega) (by decide) s4 (by omega) (by decide) (by omega) fun _ => ⟨.inl rfl, ?_⟩⟩
  rw [J_rnd hK x (ev_lin a b), ← et]
  have px : (xp 1).1 = [0, 1] := by decide +kernel
  have fX : Fz (Fra.poly (xp 1)) 0 2 1 := fz_poly (fb_xp 1) (len_xp 1)
  refine ⟨rfl, rfl, rfl, rfl, xp 1, ?_, .inl rfl, ?_⟩
  · rw [px]; rfl
  refine ⟨rfl, t, Fra.poly (xp 1), 3500, _, _, 0, 2, 1, rfl, zt, fX, by omega, by omega, hz_of (by omega) (by decide), fun _ => ⟨.inl rfl, ok_dF _, ok_dF _, ?_⟩⟩
  rw [deq_self]
  exact hq
/-- one more -/
def put (f : Nat → Fra) (k : Nat) (g : Fra) (i : Nat) : Fra := if i = k then g else f i
theorem dFs_put (f : Nat → Fra) (k : Nat) (g : Fra) : dFs (k + 1) (put f k g) = dFs k f ++ [dF g] := by
  rw [dFs_snoc, show put f k g k = g from if_pos rfl]
  congr 1
  exact dFs_congr fun i hi => if_neg (by omega)
theorem good_law : Good ga b_law 1 6 v_law := by
  rintro ds q ⟨ns, rfl, hl, -, hq⟩ -
  refine ⟨⟨by decide, by decide⟩, fun k ρ => ∃ s1 s2 s3 s4 s5 s6, ρ = [.val (.fix (ns.map D.int)), s1, s2, s3, s4, s5, s6], ⟨_, _, _, _, _, _, rfl⟩, ?_, ?_⟩
  · rintro k d _ hd ⟨s1, s2, s3, s4, s5, s6, rfl⟩
    obtain ⟨rfl, hk⟩ := rngs_at hd
    have hk : k < 2 := hk
    refine ⟨rfl, ns, k, rfl, hl, by omega, fun x y => ⟨.inl rfl, rfl, rfl, x, y, rfl, fun n a b x1 y1 hK => ⟨_, rfl, rfl, rfl, _, rfl, ?_⟩⟩⟩
    have n2 := hK.n2
    have n4 := hK.n4
    refine ⟨⟨by omega, by omega⟩, fun k1 ρ => ∃ (x y : Int) (f w : Nat → Fra) (s6 : Sl), ρ = [.val (.fix (ns.map D.int)), .val (.int k), .own [.int x, .int y], .val (dK n a b), .own (dFs k1 f), .own (dFs k1 w), s6] ∧ (∀ i, i < k1 → Fz (f i) 472 3 (mB n i)) ∧ ∀ i, i < k1 → Fz (w i) 472 2 (wB i), ?_, ?_, ?_⟩
    · exact ⟨x1, y1, fun _ => 0, fun _ => 0, s6, rfl, fun i hi => by omega, fun i hi => by omega⟩
    · rintro i d _ hd ⟨x, y, f, w, s6, rfl, hf, hw⟩
      obtain ⟨rfl, hi⟩ := rngs_at hd
      have hi : i < n := by omega
      obtain ⟨m1, m2, m3, m4, _⟩ := m_le n i
      have e1 : atI [VL.D.int 2, .int 1, .int 0] ((if decide ((2 : Int) < (n : Int)) then 1 else 0) + (if decide ((1 : Int) < (i : Int)) then 1 else 0)) = some (.int ((mB n i - 1 : Nat) : Int)) := by
        unfold mB
        by_cases h2 : n = 2
        · subst h2
          rw [if_pos rfl, if_neg (by decide), if_neg (by rw [decide_eq_true_eq]; omega)]
          rfl
        · rw [if_neg h2, if_pos (by rw [decide_eq_true_eq]; omega)]
          by_cases h1 : i ≤ 1
          · rw [if_neg (by rw [decide_eq_true_eq]; omega), if_pos h1]; rfl
          · rw [if_pos (by rw [decide_eq_true_eq]; omega), if_neg h1]; rfl
      have e2 : (fun z => [VL.D.lst [.int x, .int y], .int 1, z]) = (fun z => [VL.D.lst [.int x, .int y], .int 1, z]) := rfl
      have e3 : (1 : Int) - (if decide ((0 : Int) < (i : Int)) then 1 else 0) = ((wB i - 1 : Nat) : Int) := by
        unfold wB
        by_cases h : i = 0
        · rw [if_pos h, if_neg (by rw [decide_eq_true_eq]; omega)]; rfl
        · rw [if_neg h, if_pos (by rw [decide_eq_true_eq]; omega)]; rfl
      refine ⟨rfl, rfl, _, rfl, _, e1, rfl, rfl, x, y, 2, mB n i - 1, rfl, by decide, by omega, fun g x y hg => ⟨_, rfl, by rw [dFs_len]; omega, ?_⟩⟩
      refine ⟨rfl, rfl, rfl, 0, rfl, .inl rfl, rfl, rfl, x, y, 1, wB i - 1, ?_, by decide, by omega, fun h x y hh => ⟨_, rfl, rfl, rfl, rfl, x, y, 2, rfl, by decide, fun t x y t0 t1 => ⟨_, rfl, ?_⟩⟩⟩
      · exact congrArg (fun z => [VL.D.lst [.int x, .int y], .int 1, .int z]) e3
      have at2 : ∃ v : Fra, atI [dF (Fra.poly (cst 0)), dF h] t = some (dF v) ∧ Fz v 472 2 (wB i) := by
        have z0 : Fz (Fra.poly (cst 0)) 472 2 (wB i) := by
          have : cst 0 = (0 : Pol) := Pol.cst_zero
          rw [this]
          exact (fz_poly (b := 0) (n := 0) Pol.fb_zero (Nat.le_refl _)).up (by decide) (by decide) m3
        have hh' : Fz h 472 2 (wB i) := hh.up (Nat.le_refl _) (by decide) (by omega)
        have ht : t = 0 ∨ t = 1 := by omega
        rcases ht with rfl | rfl
        · exact ⟨_, rfl, z0⟩
        · exact ⟨_, rfl, hh'⟩
      obtain ⟨v, ev, zv⟩ := at2
      refine ⟨_, ev, by rw [dFs_len]; omega, ?_⟩
      refine ⟨x, y, put f i g, put w i v, .val (.int i), ?_, fun j hj => ?_, fun j hj => ?_⟩
      · rw [dFs_put, dFs_put]; rfl
      · unfold put
        by_cases h : j = i
        · rw [if_pos h, h]; exact hg.up (Nat.le_refl _) (Nat.le_refl _) (by omega)
        · rw [if_neg h]; exact hf j (by omega)
      · unfold put
        by_cases h : j = i
        · rw [if_pos h, h]; exact zv
        · rw [if_neg h]; exact hw j (by omega)
    · rintro _ ⟨x, y, f, w, s6, rfl, hf, hw⟩
      rw [rngs_length, Int.toNat_natCast] at hf hw ⊢
      refine ⟨rfl, n, a, b, f, w, rfl, hK, hf, hw, ?_, fun h => (by cases h), fun _ => ⟨_, _, _, _, _, _, rfl⟩⟩
      exact .inl rfl
  · rintro _ ⟨s1, s2, s3, s4, s5, s6, rfl⟩
    exact hq
end K44

/-! K44: the head, the end. -/
namespace K44
open PySem PySem.Spec L2 VL M1 M2 M3 M4 M6 M7 M15
theorem good_along : Along (fun _ e => GoodE ga e) 0 tab := ⟨good_shared, good_ratio, good_plus, good_minus, good_times, good_over, good_whole_power, (fun _ _ z => z), good_power1, good_power, good_poly, good_at_power, good_p_plus, good_p_minus, good_p_scaled, good_p_times, good_p_split, good_monic, good_common, good_p_moved15, good_fraction, good_f_poly, good_f_number, good_f_plus, good_f_times, good_letter_to, good_stretched, good_spread_out, good_every_nth, good_laid_in, good_by_y, good_by_x, good_turned, good_third_factor, good_other_factor, good_parted, good_shared_bottom, good_joined, good_law_source15, good_law_take15, good_law_number15, good_law_kind15, good_law_poly15, good_law_fraction15, good_law_is_number15, good_law_is_fraction15, good_law_round, good_law_right, good_law, trivial⟩
theorem plain_all : PlainE tab := by
  intro e h
  simp only [tab, List.mem_cons, List.not_mem_nil, or_false] at h
  rcases h with rfl | rfl | rfl | rfl | rfl | rfl | rfl | rfl | rfl | rfl | rfl | rfl | rfl | rfl | rfl | rfl | rfl | rfl | rfl | rfl | rfl | rfl | rfl | rfl | rfl | rfl | rfl | rfl | rfl | rfl | rfl | rfl | rfl | rfl | rfl | rfl | rfl | rfl | rfl | rfl | rfl | rfl | rfl | rfl | rfl | rfl | rfl | rfl | rfl <;> exact ⟨rfl, rfl, rfl⟩
abbrev Rw : PySem.W.OpenRow := PySem.W.OpenLaw.row PySem.Challenge.rw_backslope_k44_joined_then_parted
abbrev hk : PySem.W.Hook := hookV 4 tab blts cons
def ob (s : PySem.W.SharedT) : AlV := obsV 4 tab blts cons (HandSHeadRun.getT s)
theorem ob_eq (s : PySem.W.SharedT) : ob s = hk.obs s.abs := obsV_eq (HandSHeadRun.getT_eq s)
def others : List PySem.Str := (["shared", "ratio", "plus", "minus", "times", "over", "whole_power", "power", "poly", "at_power", "p_plus", "p_minus", "p_scaled", "p_times", "p_split", "monic", "common", "p_moved", "fraction", "f_poly", "f_number", "f_plus", "f_times", "letter_to", "stretched", "spread_out", "every_nth", "laid_in", "by_y", "by_x"] : List PySem.Str) ++ (["turned", "third_factor", "other_factor", "parted", "shared_bottom", "joined", "_law_source", "_law_take", "_law_number", "_law_kind", "_law_poly", "_law_fraction", "_law_is_number", "_law_is_fraction", "_law_round", "_law_right", "NOUGHT_polys", "ONE_polys", "UNIT", "ONE_fractions", "NOUGHT_fractions", "NOUGHT_roots", "ONE_roots"] : List PySem.Str)
set_option maxHeartbeats 0 in
theorem run (w : World) : HandSHeadRun.RunEq Rw (PySem.W.view Rw.prog [58]) hk ob 3000 others w := by
  intro os
  kernel_rfl
end K44
open PySem PySem.W PySem.Calls PyProof.Rows
set_option maxHeartbeats 0 in
theorem PySem.Challenge.cw_backslope_k44_joined_then_parted_holds : PySem.Challenge.rw_backslope_k44_joined_then_parted.Holds := by
  w_on; o_law
  refine HandSHeadRun.head_any (r := K44.Rw) (q := view K44.Rw.prog [58]) (H := K44.hk) (ob := K44.ob) (M := 3000) (loose := K44.others) (d := HandSHeadRun.topDef K44.Rw.prog 58) (kwd := []) K44.ob_eq
    (by kernel_rfl) (fun s => by kernel_rfl) K44.run (by kernel_rfl) (by kernel_rfl) (by kernel_rfl) (by rfl) (by first | assumption | decide +kernel) (by decide +kernel) ⟨rfl, rfl, rfl, rfl, rfl, by decide +kernel⟩ ?hw ?hc
  case hw => w_witness2
  case hc =>
    exact VL.law_end (l := PySem.Challenge.rw_backslope_k44_joined_then_parted) (n := 63) (L := 48) (x := "_law_script") (e := K44.e_law) (Γ := K44.ga) rfl (by decide) (by kernel_rfl) ⟨rfl, by decide, by decide⟩ (by kernel_rfl) (by kernel_rfl) K44.plain_all (VL.entB_ok K44.chk_all K44.bnd_all) (fun j e h => K44.good_along.at j e h) rfl (by kernel_rfl) rfl rfl

