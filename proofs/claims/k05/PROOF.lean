import PyProof.Rows.All
import Wide.All
import OpenK.AllK
import Wide.FinOn
import PyProof.EqAt
import PyProof.EqKinds
import PyProof.TupleCall
import HandS.ForMost
import HandS.Exc
import HandS.TryOnly
import HandS.ExcOwn
import HandS.WordsExc
import HandS.CallSlots
import HandS.Deep
import HandS.Wide
import HandS.Conv
import HandS.WideBits
import HandS.EndBits
import HandS.SortInts
import HandS.Style
import HandS.IsInst
import HandS.ExcCtx
import HandS.HotCalls
import HandS.ExcInit
import HandS.Defaults
import HandS.Flow
import HandS.SortOrd
import HandS.SortRule
import HandS.TupSets
import HandS.NamedTupSort
import HandS.RevRange
import HandS.More
import KE.KExcMake
import KE.KExcIs
import HandS.ExcField
import PySem.Challenge.RW_onestraight_k05_codes_rows_and_numbers
set_option Elab.async false
set_option linter.all false
set_option maxRecDepth 100000
set_option maxHeartbeats 4000000
namespace OS
open PySem PySem.Spec PyProof.Rows L2

/-! ### data -/
inductive D where
  | non | bl (b : Bool) | int (i : Int) | str (x : Str)
  | tup (l : List D) | lst (l : List D) | dic (ks vs : List D) | obj (c : Str) (l : List D)
  /-- the script itself -/
  | scr (ns : List Int)
inductive Mode where
  | no | top | all
  deriving DecidableEq

mutual
/-- scalars and tuples of such: nothing in it can be changed -/
def plain : D → Bool
  | .tup l => plainL l
  | .lst _ => false
  | .dic _ _ => false
  | .obj _ _ => false
  | .scr _ => false
  | _ => true
def plainL : List D → Bool
  | [] => true
  | d :: r => plain d && plainL r
end

/-! ### what denotes what: in the part G of the heap that does not change any more -/
mutual
inductive Fz (K : PySem.W.Frag) (G : Hp) : V → D → Prop
  | non : Fz K G .non .non
  | bl (b : Bool) : Fz K G (.bl b) (.bl b)
  | int (i : Int) : Fz K G (.int i) (.int i)
  | str (x : Str) : Fz K G (.str x) (.str x)
  | tup {a : Addr} {vs : List V} {ds : List D} : SqT K G a vs → FzL K G vs ds → Fz K G (.ref a) (.tup ds)
  | lst {a : Addr} {vs : List V} {ds : List D} : G a = some (.lst vs) → FzL K G vs ds → Fz K G (.ref a) (.lst ds)
  | scr {a : Addr} {ns : List Int} : SqL K G a (ns.map V.int) → Fz K G (.ref a) (.scr ns)
inductive FzL (K : PySem.W.Frag) (G : Hp) : List V → List D → Prop
  | nil : FzL K G [] []
  | cons {v : V} {d : D} {vs : List V} {ds : List D} : Fz K G v d → FzL K G vs ds → FzL K G (v :: vs) (d :: ds)
end
theorem Same.sqT {K : PySem.W.Frag} {H H' : Hp} {a : Addr} {xs : List V} (e : Same H H') (h : SqT K H a xs) : SqT K H' a xs := by
  rcases h with (h | ⟨o, h⟩) | h
  · exact .inl (.inl (e _ _ h))
  · exact .inl (.inr ⟨o, e _ _ h⟩)
  · exact .inr h
mutual
theorem Fz.mono {K : PySem.W.Frag} {G G' : Hp} (s : Same G G') : ∀ {v : V} {d : D}, Fz K G v d → Fz K G' v d
  | _, _, .non => .non
  | _, _, .bl b => .bl b
  | _, _, .int i => .int i
  | _, _, .str x => .str x
  | _, _, .tup h r => .tup (Same.sqT s h) (FzL.mono s r)
  | _, _, .lst h r => .lst (s _ _ h) (FzL.mono s r)
  | _, _, .scr h => .scr (s.seq h)
theorem FzL.mono {K : PySem.W.Frag} {G G' : Hp} (s : Same G G') : ∀ {vs : List V} {ds : List D}, FzL K G vs ds → FzL K G' vs ds
  | _, _, .nil => .nil
  | _, _, .cons h r => .cons (Fz.mono s h) (FzL.mono s r)
end
section
variable {K : PySem.W.Frag} {G : Hp}
theorem FzL.length : ∀ {vs : List V} {ds : List D}, FzL K G vs ds → vs.length = ds.length
  | _, _, .nil => rfl
  | _, _, .cons _ r => by rw [List.length_cons, List.length_cons, r.length]
theorem FzL.get : ∀ {vs : List V} {ds : List D} {i : Nat} {d : D}, FzL K G vs ds → ds[i]? = some d → ∃ v, vs[i]? = some v ∧ Fz K G v d
  | _, _, _, _, .nil, e => by simp at e
  | _, _, 0, _, .cons h _, e => by simp at e; subst e; exact ⟨_, rfl, h⟩
  | _, _, i + 1, _, .cons _ r, e => by
    obtain ⟨v, h1, h2⟩ := FzL.get (i := i) r (by simpa using e)
    exact ⟨v, by simpa using h1, h2⟩
theorem FzL.getV : ∀ {vs : List V} {ds : List D} {i : Nat} {v : V}, FzL K G vs ds → vs[i]? = some v → ∃ d, ds[i]? = some d ∧ Fz K G v d
  | _, _, _, _, .nil, e => by simp at e
  | _, _, 0, _, .cons h _, e => by simp at e; subst e; exact ⟨_, rfl, h⟩
  | _, _, i + 1, _, .cons _ r, e => by
    obtain ⟨v, h1, h2⟩ := FzL.getV (i := i) r (by simpa using e)
    exact ⟨v, by simpa using h1, h2⟩
theorem FzL.append : ∀ {vs ws : List V} {ds es : List D}, FzL K G vs ds → FzL K G ws es → FzL K G (vs ++ ws) (ds ++ es)
  | _, _, _, _, .nil, h => h
  | _, _, _, _, .cons h r, h2 => .cons h (r.append h2)
theorem FzL.take : ∀ {vs : List V} {ds : List D} (n : Nat), FzL K G vs ds → FzL K G (vs.take n) (ds.take n)
  | _, _, 0, _ => .nil
  | _, _, _ + 1, .nil => .nil
  | _, _, n + 1, .cons h r => .cons h (r.take n)
theorem FzL.drop : ∀ {vs : List V} {ds : List D} (n : Nat), FzL K G vs ds → FzL K G (vs.drop n) (ds.drop n)
  | _, _, 0, r => r
  | _, _, _ + 1, .nil => .nil
  | _, _, n + 1, .cons _ r => r.drop n
theorem FzL.set {v : V} {d : D} (h : Fz K G v d) : ∀ {vs : List V} {ds : List D} (i : Nat), FzL K G vs ds → FzL K G (vs.set i v) (ds.set i d)
  | _, _, _, .nil => .nil
  | _, _, 0, .cons _ r => .cons h r
  | _, _, i + 1, .cons q r => .cons q (r.set h i)
theorem FzL.reverse {vs : List V} {ds : List D} (h : FzL K G vs ds) : FzL K G vs.reverse ds.reverse := by
  induction vs generalizing ds with
  | nil => cases h; exact .nil
  | cons v vs ih =>
    cases h with
    | cons a r =>
      rw [List.reverse_cons, List.reverse_cons]
      exact (ih r).append (.cons a .nil)
theorem FzL.ints : ∀ {ns : List Int}, FzL K G (ns.map V.int) (ns.map D.int)
  | [] => .nil
  | n :: r => .cons (.int n) FzL.ints
theorem FzL.ints_of : ∀ {ns : List Int} {vs : List V}, FzL K G vs (ns.map D.int) → vs = ns.map V.int
  | [], _, .nil => rfl
  | n :: r, _, .cons h t => by cases h; rw [FzL.ints_of t]; rfl
theorem FzL.strs_of : ∀ {ns : List Str} {vs : List V}, FzL K G vs (ns.map D.str) → vs = ns.map V.str
  | [], _, .nil => rfl
  | n :: r, _, .cons h t => by cases h; rw [FzL.strs_of t]; rfl
end

/-! ### what is owned: the lists of it stand in H and not in G -/
mutual
inductive OwA (K : PySem.W.Frag) (G H : Hp) : V → D → List Addr → Prop
  | non : OwA K G H .non .non []
  | bl (b : Bool) : OwA K G H (.bl b) (.bl b) []
  | int (i : Int) : OwA K G H (.int i) (.int i) []
  | str (x : Str) : OwA K G H (.str x) (.str x) []
  | tup {a : Addr} {vs : List V} {ds : List D} {os : List Addr} : SqT K G a vs → OwAL K G H vs ds os → OwA K G H (.ref a) (.tup ds) os
  | lst {a : Addr} {vs : List V} {ds : List D} {os : List Addr} : H a = some (.lst vs) → G a = none → OwAL K G H vs ds os → OwA K G H (.ref a) (.lst ds) (a :: os)
inductive OwAL (K : PySem.W.Frag) (G H : Hp) : List V → List D → List Addr → Prop
  | nil : OwAL K G H [] [] []
  | cons {v : V} {d : D} {vs : List V} {ds : List D} {o os : List Addr} : OwA K G H v d o → OwAL K G H vs ds os → OwAL K G H (v :: vs) (d :: ds) (o ++ os)
end
def Own (K : PySem.W.Frag) (G H : Hp) : Mode → V → D → List Addr → Prop
  | .no, v, d, os => Fz K G v d ∧ os = []
  | .top, v, d, os => ∃ a vs ds, v = .ref a ∧ d = .lst ds ∧ H a = some (.lst vs) ∧ G a = none ∧ FzL K G vs ds ∧ os = [a]
  | .all, v, d, os => OwA K G H v d os

/-! ### how the heap goes on: what stands apart from os stays, frozen or not -/
structure Fr (G H G' H' : Hp) (os : List Addr) : Prop where
  g : Same G G'
  s : Same G' H'
  k : ∀ a o, H a = some o → a ∉ os → H' a = some o ∧ G' a = G a
theorem Fr.refl {G H : Hp} (s : Same G H) (os : List Addr) : Fr G H G H os := ⟨Same.refl _, s, fun _ _ h _ => ⟨h, rfl⟩⟩
/-- os' are among os or new -/
def Sub (H : Hp) (os os' : List Addr) : Prop := ∀ a ∈ os', a ∈ os ∨ H a = none
theorem Sub.refl (H : Hp) (os : List Addr) : Sub H os os := fun _ h => .inl h
theorem Sub.nil (H : Hp) (os : List Addr) : Sub H os [] := fun _ h => nomatch h
theorem Fr.trans {G H G1 H1 G2 H2 : Hp} {os os1 : List Addr} (a : Fr G H G1 H1 os) (b : Fr G1 H1 G2 H2 os1) (s : Sub H os os1) : Fr G H G2 H2 os :=
  ⟨a.g.trans b.g, b.s, fun p o h n => by
    obtain ⟨h1, g1⟩ := a.k p o h n
    have n1 : p ∉ os1 := fun q => (s p q).elim n fun z => by rw [h] at z; cases z
    obtain ⟨h2, g2⟩ := b.k p o h1 n1
    exact ⟨h2, g2.trans g1⟩⟩
theorem Sub.trans {H H1 : Hp} {os os1 os2 : List Addr} (a : Sub H os os1) (b : Sub H1 os1 os2) (k : ∀ p, H1 p = none → H p = none) : Sub H os os2 := fun p h =>
  (b p h).elim (fun q => a p q) fun q => .inr (k p q)
/-- what is new behind is new ahead, where all that stood apart from os stays -/
theorem Fr.fresh {G H G' H' : Hp} {os : List Addr} (f : Fr G H G' H' os) {p : Addr} (h : H' p = none) (n : p ∉ os) : H p = none := by
  cases e : H p with
  | none => rfl
  | some o => rw [(f.k p o e n).1] at h; cases h

/-! ### freezing -/
def frz (G H : Hp) (os : List Addr) : Hp := fun a => if a ∈ os then H a else G a
theorem frz_in {G H : Hp} {os : List Addr} {a : Addr} (h : a ∈ os) : frz G H os a = H a := if_pos h
theorem frz_out {G H : Hp} {os : List Addr} {a : Addr} (h : a ∉ os) : frz G H os a = G a := if_neg h
theorem frz_nil {G H : Hp} : frz G H [] = G := by funext a; exact if_neg (by simp)
theorem frz_le {G H : Hp} {os : List Addr} (s : Same G H) : Same G (frz G H os) := fun a o h => by
  by_cases m : a ∈ os
  · rw [frz_in m]; exact s a o h
  · rw [frz_out m]; exact h
theorem frz_same {G H : Hp} {os : List Addr} (s : Same G H) : Same (frz G H os) H := fun a o h => by
  by_cases m : a ∈ os
  · rw [frz_in m] at h; exact h
  · rw [frz_out m] at h; exact s a o h
theorem Fr.frz {G H G' H' : Hp} {os osv : List Addr} (f : Fr G H G' H' os) (s : Sub H os osv) : Fr G H (frz G' H' osv) H' os :=
  ⟨f.g.trans (frz_le f.s), frz_same f.s, fun a o h n => by
    obtain ⟨h1, g1⟩ := f.k a o h n
    refine ⟨h1, ?_⟩
    rw [frz_out (fun q => (s a q).elim n fun z => by rw [h] at z; cases z)]
    exact g1⟩
mutual
theorem OwA.freeze {K : PySem.W.Frag} {G H : Hp} {os : List Addr} (s : Same G H) : ∀ {v : V} {d : D} {o : List Addr}, OwA K G H v d o → (∀ a ∈ o, a ∈ os) → Fz K (frz G H os) v d
  | _, _, _, .non, _ => .non
  | _, _, _, .bl b, _ => .bl b
  | _, _, _, .int b, _ => .int b
  | _, _, _, .str b, _ => .str b
  | _, _, _, .tup h r, m => .tup (Same.sqT (frz_le s) h) (OwAL.freeze s r m)
  | _, _, _, .lst h _ r, m => .lst ((frz_in (m _ List.mem_cons_self)).trans h) (OwAL.freeze s r fun a q => m a (List.mem_cons_of_mem _ q))
theorem OwAL.freeze {K : PySem.W.Frag} {G H : Hp} {os : List Addr} (s : Same G H) : ∀ {vs : List V} {ds : List D} {o : List Addr}, OwAL K G H vs ds o → (∀ a ∈ o, a ∈ os) → FzL K (frz G H os) vs ds
  | _, _, _, .nil, _ => .nil
  | _, _, _, .cons h r, m => .cons (OwA.freeze s h fun a q => m a (List.mem_append_left _ q)) (OwAL.freeze s r fun a q => m a (List.mem_append_right _ q))
end
theorem Own.freeze {K : PySem.W.Frag} {G H : Hp} (s : Same G H) {m : Mode} {v : V} {d : D} {o : List Addr} (h : Own K G H m v d o) : Fz K (frz G H o) v d := by
  cases m with
  | no =>
    obtain ⟨h, rfl⟩ := h
    exact h.mono (frz_le s)
  | top =>
    obtain ⟨a, vs, ds, rfl, rfl, e, _, r, rfl⟩ := h
    exact .lst ((frz_in List.mem_cons_self).trans e) (r.mono (frz_le s))
  | all => exact OwA.freeze s h fun _ q => q
mutual
theorem OwA.frame {K : PySem.W.Frag} {G H G' H' : Hp} {os : List Addr} (f : Fr G H G' H' os) : ∀ {v : V} {d : D} {o : List Addr}, OwA K G H v d o → (∀ a ∈ o, a ∉ os) → OwA K G' H' v d o
  | _, _, _, .non, _ => .non
  | _, _, _, .bl b, _ => .bl b
  | _, _, _, .int b, _ => .int b
  | _, _, _, .str b, _ => .str b
  | _, _, _, .tup h r, m => .tup (Same.sqT f.g h) (OwAL.frame f r m)
  | _, _, _, .lst h g r, m => .lst (f.k _ _ h (m _ List.mem_cons_self)).1 ((f.k _ _ h (m _ List.mem_cons_self)).2.trans g) (OwAL.frame f r fun a q => m a (List.mem_cons_of_mem _ q))
theorem OwAL.frame {K : PySem.W.Frag} {G H G' H' : Hp} {os : List Addr} (f : Fr G H G' H' os) : ∀ {vs : List V} {ds : List D} {o : List Addr}, OwAL K G H vs ds o → (∀ a ∈ o, a ∉ os) → OwAL K G' H' vs ds o
  | _, _, _, .nil, _ => .nil
  | _, _, _, .cons h r, m => .cons (OwA.frame f h fun a q => m a (List.mem_append_left _ q)) (OwAL.frame f r fun a q => m a (List.mem_append_right _ q))
end
theorem Own.frame {K : PySem.W.Frag} {G H G' H' : Hp} {os : List Addr} (f : Fr G H G' H' os) {m : Mode} {v : V} {d : D} {o : List Addr} (h : Own K G H m v d o) (n : ∀ a ∈ o, a ∉ os) : Own K G' H' m v d o := by
  cases m with
  | no => exact ⟨h.1.mono f.g, h.2⟩
  | top =>
    obtain ⟨a, vs, ds, rfl, rfl, e, g, r, rfl⟩ := h
    have na := n a List.mem_cons_self
    exact ⟨a, vs, ds, rfl, rfl, (f.k _ _ e na).1, (f.k _ _ e na).2.trans g, r.mono f.g, rfl⟩
  | all => exact OwA.frame f h n
mutual
theorem OwA.there {K : PySem.W.Frag} {G H : Hp} : ∀ {v : V} {d : D} {o : List Addr}, OwA K G H v d o → ∀ a ∈ o, (∃ u, H a = some u) ∧ G a = none
  | _, _, _, .non, _, q => nomatch q
  | _, _, _, .bl _, _, q => nomatch q
  | _, _, _, .int _, _, q => nomatch q
  | _, _, _, .str _, _, q => nomatch q
  | _, _, _, .tup _ r, a, q => OwAL.there r a q
  | _, _, _, .lst h g r, a, q => (List.mem_cons.mp q).elim (fun e => e ▸ ⟨⟨_, h⟩, g⟩) fun q => OwAL.there r a q
theorem OwAL.there {K : PySem.W.Frag} {G H : Hp} : ∀ {vs : List V} {ds : List D} {o : List Addr}, OwAL K G H vs ds o → ∀ a ∈ o, (∃ u, H a = some u) ∧ G a = none
  | _, _, _, .nil, _, q => nomatch q
  | _, _, _, .cons h r, a, q => (List.mem_append.mp q).elim (fun q => OwA.there h a q) fun q => OwAL.there r a q
end
theorem Own.there {K : PySem.W.Frag} {G H : Hp} {m : Mode} {v : V} {d : D} {o : List Addr} (h : Own K G H m v d o) : ∀ a ∈ o, (∃ u, H a = some u) ∧ G a = none := by
  cases m with
  | no => rw [h.2]; exact fun _ q => nomatch q
  | top =>
    obtain ⟨a, vs, ds, rfl, rfl, e, g, r, rfl⟩ := h
    intro b q
    cases List.mem_singleton.mp q
    exact ⟨⟨_, e⟩, g⟩
  | all => exact OwA.there h
mutual
theorem Fz.own {K : PySem.W.Frag} {G H : Hp} : ∀ {v : V} {d : D}, Fz K G v d → plain d = true → OwA K G H v d []
  | _, _, .non, _ => .non
  | _, _, .bl b, _ => .bl b
  | _, _, .int b, _ => .int b
  | _, _, .str b, _ => .str b
  | _, _, .tup h r, p => .tup h (FzL.own r (by simpa [plain] using p))
  | _, _, .lst _ _, p => by simp [plain] at p
  | _, _, .scr _, p => by simp [plain] at p
theorem FzL.own {K : PySem.W.Frag} {G H : Hp} : ∀ {vs : List V} {ds : List D}, FzL K G vs ds → plainL ds = true → OwAL K G H vs ds []
  | _, _, .nil, _ => .nil
  | _, _, .cons h r, p => by
    simp [plainL] at p
    exact OwAL.cons (o := []) (os := []) (Fz.own h p.1) (FzL.own r p.2)
end
/-- a list that is owned all through, as one whose top is owned -/
theorem OwA.top {K : PySem.W.Frag} {G H : Hp} (s : Same G H) {v : V} {ds : List D} {o : List Addr} (h : OwA K G H v (.lst ds) o) (nd : o.Nodup) : ∃ a os, o = a :: os ∧ Own K (frz G H os) H .top v (.lst ds) [a] := by
  cases h with
  | lst e g r =>
    rename_i a vs os
    refine ⟨a, os, rfl, a, vs, ds, rfl, rfl, e, ?_, OwAL.freeze s r fun _ q => q, rfl⟩
    rw [frz_out (List.nodup_cons.mp nd).1]
    exact g

/-! ### slots -/
abbrev Slots := List (Option D)
def gS : Slots → Nat → Option D
  | [], _ => none
  | s :: _, 0 => s
  | _ :: r, i + 1 => gS r i
def sS : Slots → Nat → Option D → Slots
  | [], _, _ => []
  | _ :: r, 0, d => d :: r
  | s :: r, i + 1, d => s :: sS r i d
def gM : List Mode → Nat → Mode
  | [], _ => .no
  | m :: _, 0 => m
  | _ :: r, i + 1 => gM r i
def sM : List Mode → Nat → Mode → List Mode
  | [], _, _ => []
  | _ :: r, 0, d => d :: r
  | s :: r, i + 1, d => s :: sM r i d
inductive Sl (K : PySem.W.Frag) (G H : Hp) : List Mode → L2.St → Slots → List Addr → Prop
  | nil : Sl K G H [] [] [] []
  | skip {m : Mode} {Γ : List Mode} {x : Option V} {σ : L2.St} {ρ : Slots} {os : List Addr} : Sl K G H Γ σ ρ os → Sl K G H (m :: Γ) (x :: σ) (none :: ρ) os
  | at {m : Mode} {Γ : List Mode} {v : V} {d : D} {σ : L2.St} {ρ : Slots} {o os : List Addr} : Own K G H m v d o → Sl K G H Γ σ ρ os → Sl K G H (m :: Γ) (some v :: σ) (some d :: ρ) (o ++ os)
structure Stt (K : PySem.W.Frag) (z0 : Option (Nat × V × Hp)) (Γ : List Mode) (G H : Hp) (σ : L2.St) (ρ : Slots) (os : List Addr) : Prop where
  sl : Sl K G H Γ σ ρ os
  nd : os.Nodup
  sm : Same G H
  zt : ∀ i v, z0 = some (i, v) → gM Γ i ≠ .no
  z : ∀ i v B, z0 = some (i, v, B) → σ[i]? = some (some v)
  zb : ∀ i v B, z0 = some (i, v, B) → Same B G
section
variable {K : PySem.W.Frag} {G H G' H' : Hp} {z : Option (Nat × V × Hp)} {Γ : List Mode} {σ : L2.St} {ρ : Slots} {os os' : List Addr}
theorem Sl.frame (f : Fr G H G' H' os') (h : Sl K G H Γ σ ρ os) (n : ∀ a ∈ os, a ∉ os') : Sl K G' H' Γ σ ρ os := by
  induction h with
  | nil => exact .nil
  | skip _ ih => exact .skip (ih n)
  | «at» o _ ih => exact .at (o.frame f fun a q => n a (List.mem_append_left _ q)) (ih fun a q => n a (List.mem_append_right _ q))
theorem Sl.there (h : Sl K G H Γ σ ρ os) : ∀ a ∈ os, (∃ u, H a = some u) ∧ G a = none := by
  induction h with
  | nil => exact fun _ q => nomatch q
  | skip _ ih => exact ih
  | «at» o _ ih => exact fun a q => (List.mem_append.mp q).elim (fun q => o.there a q) fun q => ih a q
theorem Stt.frame (f : Fr G H G' H' os') (h : Stt K z Γ G H σ ρ os) (n : ∀ a ∈ os, a ∉ os') : Stt K z Γ G' H' σ ρ os := ⟨h.sl.frame f n, h.nd, f.s, h.zt, h.z, fun i v B e => (h.zb i v B e).trans f.g⟩
/-- a frozen slot read -/
theorem Sl.get (h : Sl K G H Γ σ ρ os) : ∀ {i : Nat} {d : D}, gS ρ i = some d → gM Γ i = .no → ∃ v, σ[i]? = some (some v) ∧ Fz K G v d := by
  induction h with
  | nil => intro i d e; simp [gS] at e
  | skip _ ih =>
    intro i d e m
    cases i with
    | zero => simp [gS] at e
    | succ i => exact ih (by simpa [gS] using e) (by simpa [gM] using m)
  | «at» o _ ih =>
    intro i d e m
    cases i with
    | zero =>
      simp [gS] at e; simp [gM] at m
      subst e; subst m
      exact ⟨_, rfl, o.1⟩
    | succ i => exact ih (by simpa [gS] using e) (by simpa [gM] using m)
/-- a slot taken out: what it owns; with something else put there -/
theorem Sl.take (h : Sl K G H Γ σ ρ os) : ∀ {i : Nat} {d : D}, gS ρ i = some d → ∃ v o1 o o2, σ[i]? = some (some v) ∧ Own K G H (gM Γ i) v d o ∧ os = o1 ++ o ++ o2 ∧ Sl K G H Γ σ (sS ρ i none) (o1 ++ o2) ∧
    (∀ {G' H' : Hp} {osx : List Addr} {m' : Mode} {v' : V} {d' : D} {o' : List Addr}, Fr G H G' H' osx → (∀ a ∈ o1 ++ o2, a ∉ osx) → Own K G' H' m' v' d' o' → Sl K G' H' (sM Γ i m') (σ.set i (some v')) (sS ρ i (some d')) (o1 ++ o' ++ o2)) := by
  induction h with
  | nil => intro i d e; simp [gS] at e
  | @skip m Γ x σ ρ os hs ih =>
    intro i d e
    cases i with
    | zero => simp [gS] at e
    | succ i =>
      obtain ⟨v, o1, o, o2, h1, h2, h3, h4, h5⟩ := ih (i := i) (by simpa [gS] using e)
      exact ⟨v, o1, o, o2, by simpa using h1, h2, h3, .skip h4, fun f n hw => .skip (h5 f n hw)⟩
  | @«at» m Γ v d0 σ ρ o os ho hs ih =>
    intro i d e
    cases i with
    | zero =>
      simp [gS] at e
      subst e
      refine ⟨v, [], o, os, rfl, ho, by simp, .skip hs, fun f n hw => ?_⟩
      exact .at hw (hs.frame f fun a q => n a (by simpa using q))
    | succ i =>
      obtain ⟨v', o1, o', o2, h1, h2, h3, h4, h5⟩ := ih (i := i) (by simpa [gS] using e)
      subst h3
      have e1 : o ++ (o1 ++ o' ++ o2) = (o ++ o1) ++ o' ++ o2 := by simp
      refine ⟨v', o ++ o1, o', o2, by simpa using h1, h2, e1, ?_, ?_⟩
      · rw [List.append_assoc]; exact .at ho h4
      · intro G' H' osx m' v2 d' o3 f n hw
        have e2 : o ++ o1 ++ o3 ++ o2 = o ++ (o1 ++ o3 ++ o2) := by simp
        rw [e2]
        refine .at (ho.frame f fun a q => n a (by simp [q])) (h5 f (fun a q => n a ?_) hw)
        rcases List.mem_append.mp q with q | q <;> simp [q]
/-- anything put at a place -/
theorem Sl.put (h : Sl K G H Γ σ ρ os) : ∀ {i : Nat} {v : V} {d : D}, i < σ.length → Fz K G v d → gM Γ i = .no → Sl K G H Γ (σ.set i (some v)) (sS ρ i (some d)) os := by
  induction h with
  | nil => intro i v d hi; exact absurd hi (Nat.not_lt_zero _)
  | skip hs ih =>
    intro i v d hi f m
    cases i with
    | zero => simp [gM] at m; subst m; exact .at (o := []) ⟨f, rfl⟩ hs
    | succ i => exact .skip (ih (by simpa using hi) f (by simpa [gM] using m))
  | «at» ho hs ih =>
    intro i v d hi f m
    cases i with
    | zero =>
      simp [gM] at m; subst m
      rw [ho.2]
      exact .at (o := []) ⟨f, rfl⟩ hs
    | succ i => exact .at ho (ih (by simpa using hi) f (by simpa [gM] using m))
theorem Sl.len (h : Sl K G H Γ σ ρ os) : σ.length = ρ.length ∧ Γ.length = ρ.length := by
  induction h with
  | nil => exact ⟨rfl, rfl⟩
  | skip _ ih => exact ⟨by simp [ih.1], by simp [ih.2]⟩
  | «at» _ _ ih => exact ⟨by simp [ih.1], by simp [ih.2]⟩
/-- a slot that is not owned may be given any mode, put anything, or be forgotten -/
theorem Sl.assign (h : Sl K G H Γ σ ρ os) : ∀ {i : Nat} {m : Mode} {v : V} {d : D} {o : List Addr}, i < σ.length → Own K G H m v d o → (gM Γ i = .no ∨ gS ρ i = none) → ∃ os', os'.Perm (o ++ os) ∧ Sl K G H (sM Γ i m) (σ.set i (some v)) (sS ρ i (some d)) os' := by
  induction h with
  | nil => intro i m v d o hi; exact absurd hi (Nat.not_lt_zero _)
  | @skip m0 Γ x σ ρ os hs ih =>
    intro i m v d o hi f hm
    cases i with
    | zero => exact ⟨_, .refl _, .at f hs⟩
    | succ i =>
      obtain ⟨os', p, q⟩ := ih (i := i) (by simpa using hi) f (by simpa [gM, gS] using hm)
      exact ⟨os', p, .skip q⟩
  | @«at» m0 Γ v0 d0 σ ρ o0 os ho hs ih =>
    intro i m v d o hi f hm
    cases i with
    | zero =>
      have e : m0 = .no := by simpa [gM, gS] using hm
      subst e
      rw [ho.2]
      exact ⟨_, .refl _, .at f hs⟩
    | succ i =>
      obtain ⟨os', p, q⟩ := ih (i := i) (by simpa using hi) f (by simpa [gM, gS] using hm)
      refine ⟨o0 ++ os', ?_, .at ho q⟩
      refine (List.Perm.append_left o0 p).trans ?_
      rw [← List.append_assoc, ← List.append_assoc]
      exact List.Perm.append_right os List.perm_append_comm
end

/-! ### slots forgotten, and given back -/
def wipeS (ρ : Slots) : List Nat → Slots
  | [] => ρ
  | i :: vs => sS (wipeS ρ vs) i none
/-- the slots vs as in ρ, the others as in ρ' -/
def unwipe (ρ ρ' : Slots) : List Nat → Slots
  | [] => ρ'
  | i :: vs => sS (unwipe ρ ρ' vs) i (gS ρ i)
section
variable {K : PySem.W.Frag} {G H : Hp} {z : Option (Nat × V × Hp)} {Γ : List Mode} {σ : L2.St} {ρ ρ' : Slots} {os : List Addr}
theorem Sl.forget (h : Sl K G H Γ σ ρ os) : ∀ {i : Nat}, gM Γ i = .no → Sl K G H Γ (σ.set i none) (sS ρ i none) os := by
  induction h with
  | nil => intro i _; exact .nil
  | skip hs ih =>
    intro i m
    cases i with
    | zero => exact .skip hs
    | succ i => exact .skip (ih (by simpa [gM] using m))
  | «at» ho hs ih =>
    intro i m
    cases i with
    | zero =>
      simp [gM] at m; subst m
      rw [ho.2]
      exact .skip hs
    | succ i => exact .at ho (ih (by simpa [gM] using m))
theorem Sl.wipe (h : Sl K G H Γ σ ρ os) : ∀ {vs : List Nat}, (∀ i ∈ vs, gM Γ i = .no) → Sl K G H Γ (L2.wipe σ vs) (wipeS ρ vs) os
  | [], _ => h
  | i :: vs, m => (Sl.wipe h fun j q => m j (List.mem_cons_of_mem _ q)).forget (m i List.mem_cons_self)
theorem gS_sS : ∀ {ρ : Slots} {i j : Nat} {d : Option D}, gS (sS ρ i d) j = if i = j ∧ i < ρ.length then d else gS ρ j
  | [], i, j, d => by simp [sS, gS]
  | s :: r, 0, 0, d => by simp [sS, gS]
  | s :: r, 0, j + 1, d => by simp [sS, gS]
  | s :: r, i + 1, 0, d => by simp [sS, gS]
  | s :: r, i + 1, j + 1, d => by
    simp only [sS, gS, gS_sS (ρ := r), List.length_cons]
    by_cases h : i = j ∧ i < r.length
    · rw [if_pos h, if_pos ⟨by omega, by omega⟩]
    · rw [if_neg h, if_neg (by omega)]
theorem sS_len : ∀ {ρ : Slots} {i : Nat} {d : Option D}, (sS ρ i d).length = ρ.length
  | [], _, _ => rfl
  | _ :: _, 0, _ => rfl
  | _ :: r, i + 1, d => by simp [sS, sS_len (ρ := r)]
theorem gM_no {Γ : List Mode} {i : Nat} (h : Γ.length ≤ i) : gM Γ i = .no := by
  induction Γ generalizing i with
  | nil => rfl
  | cons m r ih =>
    cases i with
    | zero => simp at h
    | succ i => exact ih (by simpa using h)
/-- a frozen slot given back -/
theorem Sl.back (h : Sl K G H Γ σ ρ os) : ∀ {i : Nat} {x : Option V} {d : Option D}, gM Γ i = .no → (∀ e, d = some e → ∃ v, x = some v ∧ Fz K G v e) → Sl K G H Γ (σ.set i x) (sS ρ i d) os := by
  induction h with
  | nil => intro i x d _ _; exact .nil
  | skip hs ih =>
    intro i x d m f
    cases i with
    | zero =>
      simp [gM] at m; subst m
      cases d with
      | none => exact .skip hs
      | some e =>
        obtain ⟨v, rfl, f'⟩ := f e rfl
        exact .at (o := []) ⟨f', rfl⟩ hs
    | succ i => exact .skip (ih (by simpa [gM] using m) f)
  | «at» ho hs ih =>
    intro i x d m f
    cases i with
    | zero =>
      simp [gM] at m; subst m
      rw [ho.2]
      cases d with
      | none => exact .skip hs
      | some e =>
        obtain ⟨v, rfl, f'⟩ := f e rfl
        exact .at (o := []) ⟨f', rfl⟩ hs
    | succ i => exact .at ho (ih (by simpa [gM] using m) f)
/-- the slots of σ put over σ' at vs -/
def overW (σ σ' : L2.St) : List Nat → L2.St
  | [] => σ'
  | i :: vs => (overW σ σ' vs).set i ((σ[i]?).getD none)
theorem Sl.unwipe {G0 H0 : Hp} {os0 : List Addr} (h0 : Sl K G0 H0 Γ σ ρ os0) (sm : Same G0 G) {σ' : L2.St} (h : Sl K G H Γ σ' ρ' os) : ∀ {vs : List Nat}, (∀ i ∈ vs, gM Γ i = .no) → Sl K G H Γ (overW σ σ' vs) (OS.unwipe ρ ρ' vs) os
  | [], _ => h
  | i :: vs, m => by
    refine (Sl.unwipe h0 sm h fun j q => m j (List.mem_cons_of_mem _ q)).back (m i List.mem_cons_self) fun e q => ?_
    obtain ⟨v, e1, f⟩ := h0.get q (m i List.mem_cons_self)
    exact ⟨v, by rw [e1]; rfl, f.mono sm⟩
theorem overW_len (σ σ' : L2.St) : ∀ vs, (overW σ σ' vs).length = σ'.length
  | [] => rfl
  | i :: vs => by simp [overW, overW_len σ σ' vs]
theorem overW_wipe (σ : L2.St) : ∀ vs : List Nat, overW σ (L2.wipe σ vs) vs = σ := by
  have key : ∀ (vs : List Nat) (ws : List Nat) (j : Nat), (∀ i ∈ ws, i ∈ vs) → (overW σ (L2.wipe σ vs) ws)[j]? = if j ∈ ws then σ[j]? else (L2.wipe σ vs)[j]? := by
    intro vs ws
    induction ws with
    | nil => intro j _; simp [overW]
    | cons i ws ih =>
      intro j hs
      have ih := ih j fun k q => hs k (List.mem_cons_of_mem _ q)
      simp only [overW]
      by_cases hij : i = j
      · subst hij
        simp only [List.mem_cons_self, if_true]
        by_cases hl : i < σ.length
        · rw [List.getElem?_set_self (by rw [overW_len, wipe_length]; exact hl), List.getElem?_eq_getElem hl]; rfl
        · rw [List.getElem?_eq_none (by rw [List.length_set, overW_len, wipe_length]; omega), List.getElem?_eq_none (by omega)]
      · rw [List.getElem?_set_ne hij, ih]
        have : j ∈ i :: ws ↔ j ∈ ws := by
          rw [List.mem_cons]
          exact ⟨fun h => h.elim (fun e => absurd e.symm hij) id, .inr⟩
        simp only [this]
  intro vs
  apply List.ext_getElem?
  intro j
  rw [key vs vs j fun _ h => h]
  by_cases hj : j ∈ vs
  · rw [if_pos hj]
  · rw [if_neg hj, wipe_out hj]
theorem wipe_set {σ : L2.St} {i : Nat} {v : Option V} : ∀ {vs : List Nat}, i ∈ vs → L2.wipe (σ.set i v) vs = L2.wipe σ vs := by
  intro vs hi
  apply List.ext_getElem?
  intro j
  have key : ∀ (τ : L2.St) (ws : List Nat) (j : Nat), (L2.wipe τ ws)[j]? = if j ∈ ws then (if j < τ.length then some none else none) else τ[j]? := by
    intro τ ws
    induction ws with
    | nil => intro j; simp [L2.wipe]
    | cons k ws ih =>
      intro j
      have ih := ih j
      simp only [L2.wipe]
      by_cases hkj : k = j
      · subst hkj
        simp only [List.mem_cons_self, if_true]
        by_cases hl : k < τ.length
        · rw [List.getElem?_set_self (by rw [wipe_length]; exact hl), if_pos hl]
        · rw [List.getElem?_eq_none (by rw [List.length_set, wipe_length]; omega), if_neg hl]
      · rw [List.getElem?_set_ne hkj, ih]
        have : j ∈ k :: ws ↔ j ∈ ws := by
          rw [List.mem_cons]
          exact ⟨fun h => h.elim (fun e => absurd e.symm hkj) id, .inr⟩
        simp only [this]
  rw [key, key]
  by_cases hj : j ∈ vs
  · simp [hj]
  · rw [if_neg hj, if_neg hj, List.getElem?_set_ne (fun e => by subst e; exact hj hi)]
theorem wipe_idem {σ : L2.St} {vs : List Nat} : ∀ {ws : List Nat}, (∀ i ∈ ws, i ∈ vs) → L2.wipe (L2.wipe σ ws) vs = L2.wipe σ vs
  | [], _ => rfl
  | i :: ws, h => by
    show L2.wipe ((L2.wipe σ ws).set i none) vs = _
    rw [wipe_set (h i List.mem_cons_self)]
    exact wipe_idem fun j q => h j (List.mem_cons_of_mem _ q)
theorem Stt.wipe (st : Stt K z Γ G H σ ρ os) {vs : List Nat} (m : ∀ i ∈ vs, gM Γ i = .no) : Stt K z Γ G H (L2.wipe σ vs) (wipeS ρ vs) os :=
  ⟨st.sl.wipe m, st.nd, st.sm, st.zt, fun j v B e => by
    have h0 : j ∉ vs := fun q => st.zt j _ e (m j q)
    rw [wipe_out h0]; exact st.z j v B e, st.zb⟩
end
end OS
namespace OS
open PySem PySem.Spec PyProof.Rows L2

/-! ### results, the machine of slots -/
inductive R (α : Type) where
  | ok (a : α) | exn (c : Str) (fs : List (Str × Int)) | bad
def R.bind {α β : Type} : R α → (α → R β) → R β
  | .ok a, f => f a
  | .exn c fs, _ => .exn c fs
  | .bad, _ => .bad
abbrev M (α : Type) := Slots → R (α × Slots)
def M.ret {α : Type} (a : α) : M α := fun ρ => .ok (a, ρ)
def M.bind {α β : Type} (m : M α) (f : α → M β) : M β := fun ρ => (m ρ).bind fun p => f p.1 p.2
def M.bad {α : Type} : M α := fun _ => .bad
/-- no exception leaves -/
def R.nox {α : Type} : R α → R α
  | .ok a => .ok a
  | _ => .bad
/-- the slot i holds something -/
def M.has {α : Type} (i : Nat) (m : M α) : M α := fun ρ => match gS ρ i with | some _ => m ρ | none => .bad
/-- the slot i holds a list -/
def M.hasL {α : Type} (i : Nat) (m : M α) : M α := fun ρ => match gS ρ i with | some (.lst _) => m ρ | _ => .bad
def M.opt {α : Type} (o : Option α) : M α := fun ρ => match o with | some a => .ok (a, ρ) | none => .bad
/-- what a def is worth -/
inductive Prim where
  | isE (x C : Str) | fld (x f : Str) | app (g x : Str)
  deriving DecidableEq
structure Sig where
  name : Str
  np : Nat
  io : Bool
  rm : Mode
  φ : List D → R (D × D)
  /-- asked of the exception that is handled -/
  pr : Option Prim := none
  /-- one keyword-only parameter, the last; None where it lacks -/
  kw : Option Str := none

/-! ### operations on data -/
inductive BOp where
  | add | sub | mul | fdiv | mod | pow | shl | shr | band | bor
  deriving DecidableEq
inductive COp where
  | lt | le | gt | ge
  deriving DecidableEq
/-- a text, n times -/
def repS (x : Str) (n : Int) : Str := if n < 1 then Str.empty else if (n == 1 || x.length == 0) = true then x else ⟨(List.replicate n.toNat x.cps).foldl (· ++ ·) #[]⟩
def binD : BOp → D → D → Option D
  | .add, .int i, .int j => some (.int (i + j))
  | .add, .str x, .str y => if x.length + y.length ≤ sizeLine then some (.str (x ++ y)) else none
  | .sub, .int i, .int j => some (.int (i - j))
  | .mul, .int i, .int j => if Builtin.Int.intBits i + Builtin.Int.intBits j ≤ 134217728 then some (.int (i * j)) else none
  | .mul, .str x, .int j => if -(2 ^ 63) ≤ j ∧ j < 2 ^ 63 ∧ x.length * j.toNat ≤ sizeLine then some (.str (repS x j)) else none
  | .fdiv, .int i, .int j => if 0 < j ∧ j.natAbs.log2 < 9000 then some (.int (i / j)) else none
  | .mod, .int i, .int j => if 0 < j then some (.int (i % j)) else none
  | .pow, .int i, .int j => if 0 ≤ j ∧ (Builtin.Int.intBits i : Int) * j ≤ 134217728 then some (.int (i ^ j.toNat)) else none
  | .shl, .int i, .int j => if 0 ≤ j ∧ (Builtin.Int.intBits i : Int) + j ≤ 134217728 then some (.int (i * 2 ^ j.toNat)) else none
  | .shr, .int i, .int j => if 0 ≤ j then some (.int (i / 2 ^ j.toNat)) else none
  | .band, .int i, .int j => some (.int (Builtin.bitAnd i j))
  | .bor, .int i, .int j => some (.int (Builtin.bitOr i j))
  | _, _, _ => none
def cmpI : COp → Int → Int → Bool
  | .lt, i, j => decide (i < j)
  | .le, i, j => decide (i ≤ j)
  | .gt, i, j => decide (j < i)
  | .ge, i, j => decide (j ≤ i)
def cmpD (o : COp) : D → D → Option Bool
  | .int i, .int j => some (cmpI o i j)
  | _, _ => none
/-- truth -/
def truD : D → Option Bool
  | .non => some false
  | .bl b => some b
  | .int i => some (i != 0)
  | .str x => if x.length ≤ sizeLine then some ((x.length : Int) != 0) else none
  | .tup l => some (!l.isEmpty)
  | .lst l => some (!l.isEmpty)
  | _ => none
def lenD : D → Option Int
  | .tup l => some l.length
  | .lst l => some l.length
  | .str x => if x.length ≤ sizeLine then some x.length else none
  | _ => none
def idxD : D → D → Option D
  | .tup l, .int i => atI l i
  | .lst l, .int i => atI l i
  | .str x, .int i => if x.length ≤ sizeLine then (atI x.cps.toList i).map fun c => .str ⟨#[c]⟩ else none
  | _, _ => none
def asInt : D → Option Int
  | .int i => some i
  | _ => none
def cutD (lo hi : Option Int) : D → Option D
  | .lst l => some (.lst ((l.drop (HT.sIx l.length 0 lo)).take (HT.sIx l.length l.length hi - HT.sIx l.length 0 lo)))
  | .scr ns => some (.lst (((ns.map D.int).drop (HT.sIx ns.length 0 lo)).take (HT.sIx ns.length ns.length hi - HT.sIx ns.length 0 lo)))
  | _ => none
def cutS (lo hi : Option Int) : D → Option D
  | .str z => if z.length ≤ sizeLine then some (.str (L2.cutS z lo hi)) else none
  | _ => none
mutual
def toP : D → PyData
  | .non => .none
  | .bl b => .bool b
  | .int i => .int i
  | .str x => .str x
  | .tup l => .tuple (toPL l)
  | .lst l => .list (toPL l)
  | .dic _ _ => .none
  | .obj _ _ => .none
  | .scr _ => .none
def toPL : List D → List PyData
  | [] => []
  | d :: r => toP d :: toPL r
end
mutual
/-- data that == speaks of -/
def eqOk : Nat → D → Bool
  | _, .non => true
  | _, .bl _ => true
  | _, .int _ => true
  | _, .str x => PyData.strOk x
  | n + 1, .tup l => eqOkL n l
  | n + 1, .lst l => eqOkL n l
  | _, _ => false
def eqOkL : Nat → List D → Bool
  | _, [] => true
  | n, d :: r => eqOk n d && eqOkL n r
end
mutual
def eqD : D → D → Bool
  | .non, .non => true
  | .bl a, .bl b => a == b
  | .bl a, .int j => (if a then 1 else 0) == j
  | .int i, .bl b => i == (if b then 1 else 0)
  | .int i, .int j => i == j
  | .str a, .str b => a == b
  | .tup l, .tup k => eqDL l k
  | .lst l, .lst k => eqDL l k
  | _, _ => false
def eqDL : List D → List D → Bool
  | [], [] => true
  | d :: r, e :: s => eqD d e && eqDL r s
  | _, _ => false
end
def sca1 : D → Bool
  | .non => true | .bl _ => true | .int _ => true | .str _ => true
  | _ => false
def sca1L : List D → Bool
  | [] => true
  | d :: r => sca1 d && sca1L r
/-- a scalar, a list of such -/
def flat1 : D → Bool
  | .lst l => sca1L l
  | d => sca1 d
/-- scalars that == tells apart in any case -/
def sca : D → D → Bool
  | .non, .non => true | .non, .int _ => true | .int _, .non => true | .non, .bl _ => true | .bl _, .non => true | .non, .str _ => true | .str _, .non => true
  | .int _, .int _ => true | .bl _, .bl _ => true | .str _, .str _ => true
  | .int _, .str _ => true | .str _, .int _ => true | .bl _, .str _ => true | .str _, .bl _ => true
  | _, _ => false
def eqTop (d e : D) : Option Bool := if sca d e || (eqOk 20 d && eqOk 20 e) then some (eqD d e) else none
def inTop (d : D) : D → Option Bool
  | .lst l => if eqOk 20 d && eqOkL 20 l then some (l.any fun z => eqD z d) else none
  | .str j => match d with
    | .str i => some (!(Builtin.Str.occurrences j i 0 j.length 1).isEmpty)
    | _ => none
  | _ => none
def idxOfD (l : List D) (d : D) : Option Nat := l.findIdx? fun z => eqD z d
def allInts : List D → Option (List Int)
  | [] => some []
  | .int i :: r => (allInts r).map (i :: ·)
  | _ :: _ => none
def allBls : List D → Option (List Bool)
  | [] => some []
  | .bl i :: r => (allBls r).map (i :: ·)
  | _ :: _ => none
def allStrs : List D → Option (List Str)
  | [] => some []
  | .str i :: r => (allStrs r).map (i :: ·)
  | _ :: _ => none
def joinD (a : Str) : D → Option D
  | .lst l => (allStrs l).bind fun ys => if (ys.map (·.length)).sum + ys.length * a.length ≤ 16777216 then some (.str (Txt.join a ys)) else none
  | _ => none
/-- the ints in order -/
def insZ (n : Int) : List Int → List Int
  | [] => [n]
  | m :: r => if n ≤ m then n :: m :: r else m :: insZ n r
/-- tuples of ints -/
def intsT : D → Option (List Int)
  | .tup l => allInts l
  | _ => none
def allTups : List D → Option (List (List Int))
  | [] => some []
  | d :: r => (intsT d).bind fun k => if k.isEmpty then none else (allTups r).map (k :: ·)
def insT (n : List Int) : List (List Int) → List (List Int)
  | [] => [n]
  | m :: r => if HT.lexLt m n then m :: insT n r else n :: m :: r
def sortTs : List (List Int) → List (List Int)
  | [] => []
  | n :: r => insT n (sortTs r)
def sortZ : List Int → List Int
  | [] => []
  | n :: r => insZ n (sortZ r)
def minL : List Int → Option Int
  | [] => none
  | a :: r => some (r.foldl min a)
def maxL : List Int → Option Int
  | [] => none
  | a :: r => some (r.foldl max a)
inductive BI where
  | min2 | max2 | abs | int | minL | maxL | sum | any | all
  deriving DecidableEq
def biD : BI → List D → Option D
  | .min2, [.int i, .int j] => some (.int (if j < i then j else i))
  | .max2, [.int i, .int j] => some (.int (if j > i then j else i))
  | .abs, [.int i] => some (.int (if i < 0 then -i else i))
  | .int, [.int i] => some (.int i)
  | .minL, [.lst l] => (allInts l).bind fun ns => (minL ns).map .int
  | .maxL, [.lst l] => (allInts l).bind fun ns => (maxL ns).map .int
  | .sum, [.lst l] => (allInts l).map fun ns => .int ns.sum
  | .any, [.lst l] => (allBls l).map fun ns => .bl (ns.any id)
  | .all, [.lst l] => (allBls l).map fun ns => .bl (ns.all id)
  | _, _ => none
/-- the built-in types that isinstance is asked of -/
inductive Ty where
  | int | bool | str | list | tuple
  deriving DecidableEq
def isTy : Ty → D → Option Bool
  | .int, .int _ => some true
  | .int, .bl _ => some true
  | .bool, .bl _ => some true
  | .str, .str _ => some true
  | .list, .lst _ => some true
  | .tuple, .tup _ => some true
  | _, .non => some false
  | _, .bl _ => some false
  | _, .int _ => some false
  | _, .str _ => some false
  | _, .lst _ => some false
  | _, .tup _ => some false
  | _, _ => none

/-! ### the code -/
inductive IE where
  | nil | cons (a r : IE)
  | var (i : Nat)
  | int (n : Int) | bl (b : Bool) | non | str (x : Str)
  /-- a name of the module that holds an int, a text -/
  | gint (x : Str) (n : Int) | gstr (x : Str) (s : Str)
  | bin (o : BOp) (a b : IE) | neg (a : IE)
  | cmp (o : COp) (a b : IE) | eq (ne : Bool) (a b : IE) | isN (ne : Bool) (a : IE) | inn (ne : Bool) (a b : IE)
  /-- a o b o' c ..: the head, then links, the last one -/
  | chn (a l : IE) | lnk (o : COp) (b l : IE) | lnkE (o : COp) (b : IE)
  | and (a b : IE) | or (a b : IE) | one (a : IE) | not (a : IE) | ife (t a b : IE)
  | idx (a b : IE) | idxO (i : Nat) (b : IE) | sl (a lo hi : IE) | slS (a lo hi : IE) | rev (a : IE)
  | len (a : IE) | lenO (i : Nat)
  | call (j : Nat) (as : IE) | callIo (j i : Nat) (as : IE)
  | bi (f : BI) (as : IE) | isi (t : Ty) (a : IE)
  | listOf (a : IE) | tupOf (a : IE) | rng (as : IE) | sortI (a : IE) | sortT (a : IE) | callK (j : Nat) (kw : Str) (a b : IE) | callD0 (j : Nat) (a : IE)
  | tup (as : IE) | lst (as : IE) | cat (a b : IE) | rep (a b : IE)
  | popL (i : Nat) | popAt (i : Nat) (a : IE)
  | index (a b : IE)
  | app (i : Nat) (a : IE) | ins (i : Nat) (k a : IE) | ext (i : Nat) (a : IE) | revM (i : Nat)
  /-- checks of what owns what -/
  | pl (a : IE) | pli (a : IE)
  /-- comprehensions: the slots of its own, the target, the walk, the test (nil: none), the element -/
  | comp (vs tg : List Nat) (it t e : IE)
  | comp2 (vs tg : List Nat) (it t : IE) (vs1 tg1 : List Nat) (it1 t1 e : IE)
  /-- asked of the exception that is handled -/
  | prim (j : Nat)
  /-- a scalar, worked out with nothing owned -/
  | bor (a : IE)
  /-- a test: a comparison, a value's truth -/
  | tst (a : IE) | tru (a : IE)
  /-- what is walked: any list or tuple; a range -/
  | wSeq (a : IE) | wRng1 (a : IE) | wRng2 (a b : IE)
  /-- reversed(range(..)) -/
  | wRv1 (a : IE) | wRv2 (a b : IE)
  /-- what is owned all through, worked out with nothing owned -/
  | borA (a : IE)
  /-- x[k].append(n): a list within one that is owned all through -/
  | appN (i : Nat) (k n : Int)
  /-- a test, with nothing owned -/
  | borT (a : IE)
  /-- a.join(b), b a list -/
  | join (a b : IE)
  /-- a.count(b) of texts; of a list of truths: how often True -/
  | cntS (a b : IE) | cntT (a : IE)
  /-- enumerate(a), a a list -/
  | wEnum (a : IE)

/-- n put behind the k-th item -/
def appD (l : List D) (k n : Int) : Option (List D) := match ixN l.length k with
  | some j => (match l[j]? with | some (.lst e) => if e.length < sizeLine then some (l.set j (.lst (e ++ [.int n]))) else none | _ => none)
  | none => none
def enumL (l : List D) : List D := l.mapIdx fun (i : Nat) d => D.tup [.int (i : Int), d]
def rngL (lo : Int) (n : Nat) : List D := (List.range n).map fun (i : Nat) => D.int (lo + i)
/-- a target: one name, or names for the items of a tuple -/
def setT : List Nat → D → Slots → Option Slots
  | [i], d, ρ => some (sS ρ i (some d))
  | tg, .tup l, ρ => if l.length = tg.length then some ((tg.zip l).foldl (fun r p => sS r p.1 (some p.2)) ρ) else none
  | _, _, _ => none
/-- a comprehension's walk -/
def walkC (body : D → List D → M (List D)) : List D → List D → M (List D)
  | [], acc => M.ret acc
  | d :: r, acc => M.bind (body d acc) (walkC body r)
variable (T : List Sig)
def callD (j : Nat) (ds : List D) : R (D × D) := match T[j]? with
  | some s => if s.io then .bad else if ds.length = s.np then s.φ ds else .bad
  | none => .bad
def callIoD (j : Nat) (ds : List D) : R (D × D) := match T[j]? with
  | some s => if s.io then if ds.length = s.np then s.φ ds else .bad else .bad
  | none => .bad
mutual
def runE : IE → M D
  | .var i => fun ρ => match gS ρ i with | some d => .ok (d, ρ) | none => .bad
  | .int n => M.ret (.int n)
  | .bl b => M.ret (.bl b)
  | .non => M.ret .non
  | .str x => M.ret (.str x)
  | .gint _ n => M.ret (.int n)
  | .gstr _ s => M.ret (.str s)
  | .bin o a b => M.bind (runE a) fun x => M.bind (runE b) fun y => M.opt (binD o x y)
  | .neg a => M.bind (runE a) fun x => M.opt ((asInt x).map fun i => .int (-i))
  | .cmp o a b => M.bind (runE a) fun x => M.bind (runE b) fun y => M.opt ((cmpD o x y).map .bl)
  | .eq ne a b => M.bind (runE a) fun x => M.bind (runE b) fun y => M.opt ((eqTop x y).map fun r => .bl (if ne then !r else r))
  | .isN ne a => M.bind (runE a) fun x => M.ret (.bl (match x with | .non => !ne | _ => ne))
  | .inn ne a b => M.bind (runE a) fun x => M.bind (runE b) fun y => M.opt ((inTop x y).map fun r => .bl (if ne then !r else r))
  | .chn a l => M.bind (runE a) fun x => M.bind (runC l x) fun r => M.ret (.bl r)
  | .and a b => M.bind (runE a) fun x => match x with | .bl true => runE b | .bl false => M.ret (.bl false) | _ => M.bad
  | .or a b => M.bind (runE a) fun x => match x with | .bl true => M.ret (.bl true) | .bl false => runE b | _ => M.bad
  | .one a => runE a
  | .not a => M.bind (runE a) fun x => M.opt ((truD x).map fun r => .bl (!r))
  | .ife t a b => M.bind (runT t) fun r => if r then runE a else runE b
  | .idx a b => M.bind (runE a) fun x => M.bind (runE b) fun y => M.opt (idxD x y)
  | .idxO i b => M.has i (M.bind (runE b) fun y ρ => match gS ρ i with | some d => M.opt (idxD d y) ρ | none => .bad)
  | .sl a lo hi => M.bind (runE a) fun x => M.bind (runO lo) fun l => M.bind (runO hi) fun h => M.opt (cutD l h x)
  | .slS a lo hi => M.bind (runE a) fun x => M.bind (runO lo) fun l => M.bind (runO hi) fun h => M.opt (cutS l h x)
  | .rev a => M.bind (runE a) fun x => match x with | .lst l => M.ret (.lst l.reverse) | _ => M.bad
  | .len a => M.bind (runE a) fun x => M.opt ((lenD x).map .int)
  | .lenO i => fun ρ => match gS ρ i with | some (.lst l) => .ok (.int l.length, ρ) | _ => .bad
  | .call j as => M.bind (runL as) fun ds ρ => (callD T j ds).bind fun p => .ok (p.1, ρ)
  | .callK j _ a b => M.bind (runE a) fun x => M.bind (runE b) fun y ρ => (callD T j [x, y]).bind fun p => .ok (p.1, ρ)
  | .callD0 j a => M.bind (runE a) fun x ρ => (callD T j [x, .non]).bind fun p => .ok (p.1, ρ)
  | .callIo j i as => M.has i (M.bind (runL as) fun ds ρ => match gS ρ i with
    | some d => (callIoD T j (d :: ds)).bind fun p => .ok (p.1, sS ρ i (some p.2))
    | none => .bad)
  | .prim j => fun ρ => (callD T j []).nox.bind fun p => .ok (p.1, ρ)
  | .bor a => fun ρ => (runE a ρ).bind fun p => if flat1 p.1 then .ok (p.1, ρ) else .bad
  | .borA a => fun ρ => (runE a ρ).bind fun p => .ok (p.1, ρ)
  | .appN i k n => fun ρ => match gS ρ i with
    | some (.lst l) => (match appD l k n with | some l2 => .ok (.non, sS ρ i (some (.lst l2))) | none => .bad)
    | _ => .bad
  | .bi f as => M.bind (runL as) fun ds => M.opt (biD f ds)
  | .isi t a => M.bind (runE a) fun x => M.opt ((isTy t x).map .bl)
  | .listOf a => M.bind (runE a) fun x => match x with | .lst l => M.ret (.lst l) | .tup l => M.ret (.lst l) | _ => M.bad
  | .tupOf a => M.bind (runE a) fun x => match x with | .lst l => M.ret (.tup l) | .tup l => M.ret (.tup l) | _ => M.bad
  | .rng w => M.bind (runW w) fun l => if l.length ≤ 2 ^ 24 then M.ret (.lst l) else M.bad
  | .sortI a => M.bind (runE a) fun x => match x with
    | .lst l => M.opt ((allInts l).map fun ns => .lst ((sortZ ns).map .int))
    | _ => M.bad
  | .sortT a => M.bind (runE a) fun x => match x with
    | .lst l => M.opt ((allTups l).map fun ks => .lst ((sortTs ks).map fun k => .tup (k.map .int)))
    | _ => M.bad
  | .tup as => M.bind (runL as) fun ds => M.ret (.tup ds)
  | .lst as => M.bind (runL as) fun ds => M.ret (.lst ds)
  | .cat a b => M.bind (runE a) fun x => M.bind (runE b) fun y => match x, y with
    | .lst l, .lst k => if l.length + k.length ≤ sizeLine then M.ret (.lst (l ++ k)) else M.bad
    | _, _ => M.bad
  | .rep a b => M.bind (runE a) fun x => M.bind (runE b) fun y => match x, y with
    | .lst l, .int k => if l.length * k.toNat ≤ sizeLine ∧ -(2 ^ 63) ≤ k ∧ k < 2 ^ 63 then M.ret (.lst (List.replicate k.toNat l).flatten) else M.bad
    | _, _ => M.bad
  | .popL i => fun ρ => match gS ρ i with
    | some (.lst l) => match l[l.length - 1]? with | some d => .ok (d, sS ρ i (some (.lst l.dropLast))) | none => .bad
    | _ => .bad
  | .popAt i a => M.has i (M.bind (runE a) fun x ρ => match gS ρ i, x with
    | some (.lst l), .int k => if -(2 ^ 63) ≤ k ∧ k < 2 ^ 63 then (match ixN l.length k with
      | some j => match l[j]? with | some d => .ok (d, sS ρ i (some (.lst (l.eraseIdx j)))) | none => .bad
      | none => .bad) else .bad
    | _, _ => .bad)
  | .app i a => M.hasL i (M.bind (runE a) fun x ρ => match gS ρ i with
    | some (.lst l) => if l.length < sizeLine then .ok (.non, sS ρ i (some (.lst (l ++ [x])))) else .bad
    | _ => .bad)
  | .ins i k a => M.hasL i (M.bind (runE k) fun y => M.bind (runE a) fun x ρ => match gS ρ i, y with
    | some (.lst l), .int n => if l.length < sizeLine ∧ 0 ≤ n ∧ n < 2 ^ 63 then .ok (.non, sS ρ i (some (.lst (l.take n.toNat ++ [x] ++ l.drop n.toNat)))) else .bad
    | _, _ => .bad)
  | .ext i a => M.hasL i (M.bind (runE a) fun x ρ => match gS ρ i, x with
    | some (.lst l), .lst k => if l.length + k.length ≤ sizeLine then .ok (.non, sS ρ i (some (.lst (l ++ k)))) else .bad
    | _, _ => .bad)
  | .revM i => fun ρ => match gS ρ i with
    | some (.lst l) => .ok (.non, sS ρ i (some (.lst l.reverse)))
    | _ => .bad
  | .index a b => M.bind (runE a) fun x => match x with
    | .lst l => M.bind (runE b) fun y => if eqOk 20 y && eqOkL 20 l then M.opt ((idxOfD l y).map fun (j : Nat) => .int j) else M.bad
    | _ => M.bad
  | .join a b => M.bind (runE a) fun x => match x with
    | .str s => M.bind (runE b) fun y => M.opt (joinD s y)
    | _ => M.bad
  | .cntS a b => M.bind (runE a) fun x => match x with
    | .str s => M.bind (runE b) fun y => match y with | .str t => M.ret (.int (Txt.count s t)) | _ => M.bad
    | _ => M.bad
  | .cntT a => M.bind (runE a) fun x => match x with
    | .lst l => M.opt ((allBls l).map fun bs => .int ((bs.count true : Nat) : Int))
    | _ => M.bad
  | .pl a => M.bind (runE a) fun x => if plain x then M.ret x else M.bad
  | .pli a => M.bind (runE a) fun x => match x with | .lst l => if plainL l then M.ret x else M.bad | _ => M.bad
  | .comp vs tg it t e => M.bind (runW it) fun l ρ =>
      (walkC (fun d acc ρ1 => match setT tg d ρ1 with
        | some ρ2 => (M.bind (runTs t) fun r => if r then M.bind (runE e) fun x => if acc.length < sizeLine then M.ret (acc ++ [x]) else M.bad else M.ret acc) ρ2 |>.nox.bind fun p => .ok (p.1, wipeS p.2 vs)
        | none => .bad) l [] (wipeS ρ vs)).bind fun p => .ok (.lst p.1, unwipe ρ p.2 vs)
  | .comp2 vs tg it t vs1 tg1 it1 t1 e => M.bind (runW it) fun l ρ =>
      (walkC (fun d acc ρ1 => match setT tg d ρ1 with
        | some ρ2 => (M.bind (runTs t) fun r => if r then M.bind (runW it1) fun l1 ρ3 =>
              (walkC (fun d1 acc1 ρ4 => match setT tg1 d1 ρ4 with
                | some ρ5 => (M.bind (runTs t1) fun r1 => if r1 then M.bind (runE e) fun x => if acc1.length < sizeLine then M.ret (acc1 ++ [x]) else M.bad else M.ret acc1) ρ5 |>.nox.bind fun p => .ok (p.1, wipeS p.2 vs1)
                | none => .bad) l1 acc (wipeS ρ3 vs1))
            else M.ret acc) ρ2 |>.nox.bind fun p => .ok (p.1, wipeS p.2 vs)
        | none => .bad) l [] (wipeS ρ vs)).bind fun p => .ok (.lst p.1, unwipe ρ p.2 vs)
  | _ => M.bad
/-- a test -/
def runT : IE → M Bool
  | .and a b => M.bind (runT a) fun r => if r then runT b else M.ret false
  | .or a b => M.bind (runT a) fun r => if r then M.ret true else runT b
  | .one a => runT a
  | .not a => M.bind (runT a) fun r => M.ret (!r)
  | .tst a => M.bind (runE a) fun x => match x with | .bl b => M.ret b | _ => M.bad
  | .tru e => M.bind (runE e) fun x => M.opt (truD x)
  | .borT a => fun ρ => (runT a ρ).bind fun p => .ok (p.1, ρ)
  | _ => M.bad
/-- a comprehension's tests: none or one -/
def runTs : IE → M Bool
  | .nil => M.ret true
  | .cons e _ => runT e
  | _ => M.bad
/-- links of a chain -/
def runC : IE → D → M Bool
  | .lnk o b l, x => M.bind (runE b) fun y => M.bind (M.opt (cmpD o x y)) fun r => if r then runC l y else M.ret false
  | .lnkE o b, x => M.bind (runE b) fun y => M.opt (cmpD o x y)
  | _, _ => M.bad
def runL : IE → M (List D)
  | .nil => M.ret []
  | .cons a r => M.bind (runE a) fun x => M.bind (runL r) fun xs => M.ret (x :: xs)
  | _ => M.bad
/-- an optional int -/
def runO : IE → M (Option Int)
  | .nil => M.ret none
  | .cons e _ => M.bind (runE e) fun x => M.opt ((asInt x).map some)
  | _ => M.bad
def runW : IE → M (List D)
  | .wSeq a => M.bind (runE a) fun x => match x with | .lst l => M.ret l | .tup l => M.ret l | _ => M.bad
  | .wEnum a => M.bind (runE a) fun x => match x with | .lst l => M.ret (enumL l) | _ => M.bad
  | .wRng1 a => M.bind (runE a) fun x => match x with
    | .int j => if -(2 ^ 62) ≤ j ∧ j < 2 ^ 62 then M.ret (rngL 0 j.toNat) else M.bad
    | _ => M.bad
  | .wRng2 a b => M.bind (runE a) fun x => M.bind (runE b) fun y => match x, y with
    | .int i, .int j => if -(2 ^ 62) ≤ i ∧ i < 2 ^ 62 ∧ -(2 ^ 62) ≤ j ∧ j < 2 ^ 62 then M.ret (rngL i (j - i).toNat) else M.bad
    | _, _ => M.bad
  | .wRv1 a => M.bind (runE a) fun x => match x with
    | .int j => if -(2 ^ 62) ≤ j ∧ j < 2 ^ 62 then M.ret (rngL 0 j.toNat).reverse else M.bad
    | _ => M.bad
  | .wRv2 a b => M.bind (runE a) fun x => M.bind (runE b) fun y => match x, y with
    | .int i, .int j => if -(2 ^ 62) ≤ i ∧ i < 2 ^ 62 ∧ -(2 ^ 62) ≤ j ∧ j < 2 ^ 62 then M.ret (rngL i (j - i).toNat).reverse else M.bad
    | _, _ => M.bad
  | _ => M.bad
end
end OS
namespace OS
open PySem PySem.Spec PyProof.Rows L2

/-! ### exceptions -/
def ExD (mg : Str → Option Value) (H : Hp) (c : Str) (fs : List (Str × Int)) (cls : Value) (dd : Option Addr) : Prop :=
  ∃ C, mg c = some (.ref C) ∧ cls = .ref C ∧ ((fs = [] ∧ dd = none) ∨ (fs ≠ [] ∧ ∃ d, dd = some d ∧ H d = some (.xd (fs.map fun p => (p.1, V.int p.2)))))
/-- wishes that do not ask the slots -/
abbrev WE0 := Value → Option Addr → Hp → Prop

/-! ### what must hold behind a run -/
abbrev Rel (β α : Type) := Hp → Hp → β → α → List Addr → Prop
def rF (K : PySem.W.Frag) : Rel V D := fun G _ v d o => Fz K G v d ∧ o = []
def rL (K : PySem.W.Frag) : Rel (List V) (List D) := fun G _ v d o => FzL K G v d ∧ o = []
def rB : Rel Bool Bool := fun _ _ b a o => b = a ∧ o = []
def rI : Rel (Option Int) (Option Int) := fun _ _ b a o => b = a ∧ o = []
def rO (K : PySem.W.Frag) (m : Mode) : Rel V D := fun G H v d o => Own K G H m v d o
section
variable {α β γ δ : Type}
def GP (K : PySem.W.Frag) (mg : Str → Option Value) (z : Option (Nat × V × Hp)) (Γ : List Mode) (W : WE0) (rel : Rel β α) (r : R (α × Slots)) (G H : Hp) (os : List Addr) (σ : L2.St) (Q : β → Hp → Prop) : Prop :=
  match r with
  | .ok (a, ρ') => ∀ G' H' os' b o, Stt K z Γ G' H' σ ρ' os' → rel G' H' b a o → (o ++ os').Nodup → Fr G H G' H' os → Sub H os (o ++ os') → Q b H'
  | .exn c fs => ∀ G' H' cls dd, ExD mg H' c fs cls dd → Fr G H G' H' os → W cls dd H'
  | .bad => False
def tG (K : PySem.W.Frag) (mg : Str → Option Value) (z : Option (Nat × V × Hp)) (Γ : List Mode) (W : WE0) (rel : Rel β α) (m : M α) : L2.St → Hp → (β → Hp → Prop) → Prop :=
  fun σ H Q => ∃ G ρ os, Stt K z Γ G H σ ρ os ∧ GP K mg z Γ W rel (m ρ) G H os σ Q
variable {K : PySem.W.Frag} {mg : Str → Option Value} {z : Option (Nat × V × Hp)} {Γ : List Mode} {W : WE0} {rel : Rel β α} {rel1 : Rel δ γ} {G H G1 H1 : Hp} {os os1 : List Addr} {σ : L2.St} {ρ ρ1 : Slots} {Q : β → Hp → Prop}
theorem Fr.none_of {G H G' H' : Hp} {os : List Addr} (f : Fr G H G' H' os) (there : ∀ a ∈ os, ∃ u, H' a = some u) {p : Addr} (h : H' p = none) : H p = none := by
  cases e : H p with
  | none => rfl
  | some o =>
    by_cases n : p ∈ os
    · obtain ⟨u, q⟩ := there p n
      rw [h] at q; cases q
    · rw [(f.k p o e n).1] at h; cases h
/-- os' among os or new ahead of the first step -/
theorem Sub.go {G H G1 H1 : Hp} {os os1 os2 : List Addr} (f : Fr G H G1 H1 os) (a : Sub H os os1) (b : Sub H1 os1 os2) : Sub H os os2 := fun p h => by
  rcases b p h with q | q
  · exact a p q
  · by_cases n : p ∈ os
    · exact .inl n
    · exact .inr (f.fresh q n)
theorem GP.shift {r : R (α × Slots)} (f : Fr G H G1 H1 os) (s : Sub H os os1) (h : GP K mg z Γ W rel r G H os σ Q) : GP K mg z Γ W rel r G1 H1 os1 σ Q := by
  cases r with
  | ok a =>
    obtain ⟨a, ρ'⟩ := a
    intro G' H' os' b o st hr nd f' s'
    exact h G' H' os' b o st hr nd (f.trans f' s) (Sub.go f s s')
  | exn c fs => exact fun G' H' cls dd e f' => h G' H' cls dd e (f.trans f' s)
  | bad => exact h
/-- an end that wants less -/
theorem GP.mono {r : R (α × Slots)} {Q' : β → Hp → Prop} (h : GP K mg z Γ W rel r G H os σ Q)
    (q : ∀ G' H' os' b a ρ' o, r = .ok (a, ρ') → Stt K z Γ G' H' σ ρ' os' → rel G' H' b a o → (o ++ os').Nodup → Fr G H G' H' os → Sub H os (o ++ os') → Q b H' → Q' b H') : GP K mg z Γ W rel r G H os σ Q' := by
  cases r with
  | ok a =>
    obtain ⟨a, ρ'⟩ := a
    intro G' H' os' b o st hr nd f' s'
    exact q G' H' os' b a ρ' o rfl st hr nd f' s' (h G' H' os' b o st hr nd f' s')
  | exn c fs => exact h
  | bad => exact h
/-- ONE STEP, THEN THE REST: the first's outcome is frozen (it owns nothing) -/
theorem GP.bind {m : M γ} {f : γ → M α} (hz : ∀ G H b a o, rel1 G H b a o → o = []) (h : GP K mg z Γ W rel (M.bind m f ρ) G H os σ Q) :
    GP K mg z Γ W rel1 (m ρ) G H os σ (fun b1 H1 => ∃ a1 G1 ρ1 os1, Stt K z Γ G1 H1 σ ρ1 os1 ∧ rel1 G1 H1 b1 a1 [] ∧ Same G G1 ∧ GP K mg z Γ W rel (f a1 ρ1) G1 H1 os1 σ Q) := by
  unfold M.bind at h
  cases e : m ρ with
  | ok a =>
    obtain ⟨a, ρ1⟩ := a
    rw [e] at h
    intro G' H' os' b o st hr nd f' s'
    have ho := hz _ _ _ _ _ hr
    subst ho
    exact ⟨a, G', ρ1, os', st, hr, f'.g, GP.shift f' s' h⟩
  | exn c fs =>
    rw [e] at h
    exact h
  | bad =>
    rw [e] at h
    exact h
theorem tG.bind {m : M γ} {f : γ → M α} (hz : ∀ G H b a o, rel1 G H b a o → o = []) (h : tG K mg z Γ W rel (M.bind m f) σ H Q) :
    tG K mg z Γ W rel1 m σ H (fun b1 H1 => ∃ a1 G1 ρ1 os1, Stt K z Γ G1 H1 σ ρ1 os1 ∧ rel1 G1 H1 b1 a1 [] ∧ GP K mg z Γ W rel (f a1 ρ1) G1 H1 os1 σ Q) := by
  obtain ⟨G, ρ, os, st, h⟩ := h
  refine ⟨G, ρ, os, st, (GP.bind hz h).mono fun G' H' os' b a ρ' o _ _ _ _ _ _ q => ?_⟩
  obtain ⟨a1, G1, ρ1, os1, h1, h2, _, h3⟩ := q
  exact ⟨a1, G1, ρ1, os1, h1, h2, h3⟩
theorem tG.mono {m : M α} {Q' : β → Hp → Prop} (h : tG K mg z Γ W rel m σ H Q) (q : ∀ b H', Q b H' → Q' b H') : tG K mg z Γ W rel m σ H Q' := by
  obtain ⟨G, ρ, os, st, h⟩ := h
  exact ⟨G, ρ, os, st, h.mono fun _ _ _ _ _ _ _ _ _ _ _ _ _ p => q _ _ p⟩
theorem rF_z : ∀ (G H : Hp) (b : V) (a : D) (o : List Addr), rF K G H b a o → o = [] := fun _ _ _ _ _ h => h.2
theorem rL_z : ∀ (G H : Hp) (b : List V) (a : List D) (o : List Addr), rL K G H b a o → o = [] := fun _ _ _ _ _ h => h.2
theorem rB_z : ∀ (G H : Hp) (b a : Bool) (o : List Addr), rB G H b a o → o = [] := fun _ _ _ _ _ h => h.2
/-- what may be owned, as frozen -/
theorem GP.freeze {m : Mode} {r : R (D × Slots)} {Q : V → Hp → Prop} (h : GP K mg z Γ W (rF K) r G H os σ Q) : GP K mg z Γ W (rO K m) r G H os σ Q := by
  cases r with
  | ok a =>
    obtain ⟨a, ρ'⟩ := a
    intro G' H' os' b o st hr nd f' s'
    have dj : ∀ p ∈ os', p ∉ o := fun p q q2 => (List.nodup_append.mp nd).2.2 p q2 p q rfl
    have fz : Fr G' H' (frz G' H' o) H' o := ⟨frz_le st.sm, frz_same st.sm, fun p u hu n => ⟨hu, frz_out n⟩⟩
    refine h (frz G' H' o) H' os' b [] (st.frame fz dj) ⟨hr.freeze st.sm, rfl⟩ (List.nodup_append.mp nd).2.1 (f'.frz fun p q => s' p (List.mem_append_left _ q)) fun p q => s' p (List.mem_append_right _ q)
  | exn c fs => exact h
  | bad => exact h
theorem tG.freeze {m : Mode} {r : M D} {Q : V → Hp → Prop} (h : tG K mg z Γ W (rF K) r σ H Q) : tG K mg z Γ W (rO K m) r σ H Q := by
  obtain ⟨G, ρ, os, st, h⟩ := h
  exact ⟨G, ρ, os, st, h.freeze⟩
/-- mode no is frozen -/
theorem GP.of_no {r : R (D × Slots)} {Q : V → Hp → Prop} (h : GP K mg z Γ W (rO K .no) r G H os σ Q) : GP K mg z Γ W (rF K) r G H os σ Q := h
/-- the end of a run that changes nothing -/
theorem GP.ok_F {d : D} {v : V} {Q : V → Hp → Prop} (st : Stt K z Γ G H σ ρ os) (f : Fz K G v d) (h : GP K mg z Γ W (rF K) (.ok (d, ρ)) G H os σ Q) : Q v H :=
  h G H os v [] st ⟨f, rfl⟩ st.nd (Fr.refl st.sm os) (Sub.refl H os)
theorem GP.ok_B {b : Bool} {Q : Bool → Hp → Prop} (st : Stt K z Γ G H σ ρ os) (h : GP K mg z Γ W rB (.ok (b, ρ)) G H os σ Q) : Q b H :=
  h G H os b [] st ⟨rfl, rfl⟩ st.nd (Fr.refl st.sm os) (Sub.refl H os)
theorem GP.ok_L {ds : List D} {vs : List V} {Q : List V → Hp → Prop} (st : Stt K z Γ G H σ ρ os) (f : FzL K G vs ds) (h : GP K mg z Γ W (rL K) (.ok (ds, ρ)) G H os σ Q) : Q vs H :=
  h G H os vs [] st ⟨f, rfl⟩ st.nd (Fr.refl st.sm os) (Sub.refl H os)
/-- a scalar is owned in any mode but top -/
theorem GP.ok_A {d : D} {v : V} {Q : V → Hp → Prop} (st : Stt K z Γ G H σ ρ os) (f : OwA K G H v d []) (h : GP K mg z Γ W (rO K .all) (.ok (d, ρ)) G H os σ Q) : Q v H :=
  h G H os v [] st f (by simpa using st.nd) (Fr.refl st.sm os) (Sub.refl H os)
/-- M.opt -/
theorem GP.opt {o : Option α} (h : GP K mg z Γ W rel (M.opt o ρ) G H os σ Q) : ∃ a, o = some a ∧ GP K mg z Γ W rel (.ok (a, ρ)) G H os σ Q := by
  cases o with
  | none => exact h.elim
  | some a => exact ⟨a, rfl, h⟩
/-- a new object, frozen at once (a tuple) -/
theorem GP.new_F {d : D} {u : HO} {Q : V → Hp → Prop} {p : Addr} (st : Stt K z Γ G H σ ρ os) (hp : H p = none) (f : ∀ G', G' = upd G p u → Same G G' → G' p = some u → Fz K G' (.ref p) d)
    (h : GP K mg z Γ W (rF K) (.ok (d, ρ)) G H os σ Q) : Q (.ref p) (upd H p u) := by
  have gp : G p = none := by
    cases e : G p with
    | none => rfl
    | some o => rw [st.sm p o e] at hp; cases hp
  have sG : Same G (upd G p u) := fun a o e => by rw [upd_ne (ne_of_none e gp)]; exact e
  have sH : Same (upd G p u) (upd H p u) := fun a o e => by
    by_cases c : a = p
    · subst c; rw [upd_same] at e ⊢; exact e
    · rw [upd_ne c] at e ⊢; exact st.sm a o e
  have fr : Fr G H (upd G p u) (upd H p u) [] := ⟨sG, sH, fun a o e _ => ⟨by rw [upd_ne (ne_of_none e hp)]; exact e, by rw [upd_ne (ne_of_none e hp)]⟩⟩
  have fr' : Fr G H (upd G p u) (upd H p u) os := ⟨sG, sH, fun a o e _ => fr.k a o e (by simp)⟩
  exact h _ _ os _ [] (st.frame fr (by simp)) ⟨f _ rfl sG upd_same, rfl⟩ st.nd fr' (Sub.refl H os)
/-- a new list, owned -/
theorem GP.new_O {ds : List D} {vs : List V} {Q : V → Hp → Prop} {p : Addr} (st : Stt K z Γ G H σ ρ os) (hp : H p = none) (f : FzL K G vs ds)
    (h : GP K mg z Γ W (rO K .top) (.ok (.lst ds, ρ)) G H os σ Q) : Q (.ref p) (upd H p (.lst vs)) := by
  have gp : G p = none := by
    cases e : G p with
    | none => rfl
    | some o => rw [st.sm p o e] at hp; cases hp
  have sH : Same G (upd H p (.lst vs)) := fun a o e => by rw [upd_ne (ne_of_none e gp)]; exact st.sm a o e
  have fr : Fr G H G (upd H p (.lst vs)) [] := ⟨Same.refl G, sH, fun a o e _ => ⟨by rw [upd_ne (ne_of_none e hp)]; exact e, rfl⟩⟩
  have fr' : Fr G H G (upd H p (.lst vs)) os := ⟨Same.refl G, sH, fun a o e _ => fr.k a o e (by simp)⟩
  have pn : p ∉ os := fun q => by
    obtain ⟨⟨u, e⟩, _⟩ := st.sl.there p q
    rw [hp] at e; cases e
  exact h _ _ os _ [p] (st.frame fr (by simp)) ⟨p, vs, ds, rfl, rfl, upd_same, gp, f, rfl⟩ (List.nodup_cons.mpr ⟨pn, st.nd⟩) fr' fun a q => (List.mem_cons.mp q).elim (fun e => .inr (e ▸ hp)) fun q => .inl q
theorem GP.new_A {ds : List D} {vs : List V} {Q : V → Hp → Prop} {p : Addr} (st : Stt K z Γ G H σ ρ os) (hp : H p = none) (f : OwAL K G H vs ds [])
    (h : GP K mg z Γ W (rO K .all) (.ok (.lst ds, ρ)) G H os σ Q) : Q (.ref p) (upd H p (.lst vs)) := by
  have gp : G p = none := by
    cases e : G p with
    | none => rfl
    | some o => rw [st.sm p o e] at hp; cases hp
  have sH : Same G (upd H p (.lst vs)) := fun a o e => by rw [upd_ne (ne_of_none e gp)]; exact st.sm a o e
  have fr : Fr G H G (upd H p (.lst vs)) [] := ⟨Same.refl G, sH, fun a o e _ => ⟨by rw [upd_ne (ne_of_none e hp)]; exact e, rfl⟩⟩
  have fr' : Fr G H G (upd H p (.lst vs)) os := ⟨Same.refl G, sH, fun a o e _ => fr.k a o e (by simp)⟩
  have pn : p ∉ os := fun q => by
    obtain ⟨⟨u, e⟩, _⟩ := st.sl.there p q
    rw [hp] at e; cases e
  exact h _ _ os _ [p] (st.frame fr (by simp)) (OwA.lst upd_same gp (OwAL.frame fr f (by simp))) (List.nodup_cons.mpr ⟨pn, st.nd⟩) fr' fun a q => (List.mem_cons.mp q).elim (fun e => .inr (e ▸ hp)) fun q => .inl q
/-- two values, one after the other -/
theorem tG.two {ma mb : M D} {f : D → D → M α} (h : tG K mg z Γ W rel (M.bind ma fun x => M.bind mb fun y => f x y) σ H Q) :
    tG K mg z Γ W (rF K) ma σ H fun x H1 => tG K mg z Γ W (rF K) mb σ H1 fun y H2 => ∃ d1 d2 G ρ os, Stt K z Γ G H2 σ ρ os ∧ Fz K G x d1 ∧ Fz K G y d2 ∧ GP K mg z Γ W rel (f d1 d2 ρ) G H2 os σ Q := by
  refine (h.bind rF_z).mono fun x H1 hx => ?_
  obtain ⟨d1, G1, ρ1, os1, st1, ⟨f1, _⟩, h1⟩ := hx
  refine ⟨G1, ρ1, os1, st1, (GP.bind rF_z h1).mono fun _ H2 _ y _ _ _ _ _ _ _ _ _ hy => ?_⟩
  obtain ⟨d2, G2, ρ2, os2, st2, ⟨f2, _⟩, sm, h2⟩ := hy
  exact ⟨d1, d2, G2, ρ2, os2, st2, f1.mono sm, f2, h2⟩
theorem tG.fst {ma : M D} {f : D → M α} (h : tG K mg z Γ W rel (M.bind ma f) σ H Q) :
    tG K mg z Γ W (rF K) ma σ H fun x H1 => ∃ d1 G ρ os, Stt K z Γ G H1 σ ρ os ∧ Fz K G x d1 ∧ GP K mg z Γ W rel (f d1 ρ) G H1 os σ Q := by
  refine (h.bind rF_z).mono fun x H1 hx => ?_
  obtain ⟨d1, G1, ρ1, os1, st1, ⟨f1, _⟩, h1⟩ := hx
  exact ⟨d1, G1, ρ1, os1, st1, f1, h1⟩
theorem tG.fstL {ma : M (List D)} {f : List D → M α} (h : tG K mg z Γ W rel (M.bind ma f) σ H Q) :
    tG K mg z Γ W (rL K) ma σ H fun x H1 => ∃ d1 G ρ os, Stt K z Γ G H1 σ ρ os ∧ FzL K G x d1 ∧ GP K mg z Γ W rel (f d1 ρ) G H1 os σ Q := by
  refine (h.bind rL_z).mono fun x H1 hx => ?_
  obtain ⟨d1, G1, ρ1, os1, st1, ⟨f1, _⟩, h1⟩ := hx
  exact ⟨d1, G1, ρ1, os1, st1, f1, h1⟩
end
end OS
namespace OS
open PySem PySem.Spec PyProof.Rows L2

/-! ### the check: code against the text -/
structure SC where
  /-- an exception is handled -/
  hot : Bool
  /-- the names by slot -/
  N : List Str
  T : List Sig
  /-- the exception classes of the text: their fields -/
  X : List (Str × List Str)
  /-- the module's constants -/
  C : List (Str × V)
  /-- the def that spoils what it is given -/
  E : Option Str := none
def glB (sc : Scope) (x : Str) : Bool := decide (sc.names.lookup x = some .globalImplicit) && decide (x ≠ "__debug__")
def visB (sc : Scope) (x : Str) : Bool := decide (sc.names.lookup x = some .local) || (decide (sc.names.lookup x = some .cell) || decide (sc.names.lookup x = some .free))
def nstar : PySem.Expr → Bool
  | .Starred _ _ => false
  | _ => true
def nslice : PySem.Expr → Bool
  | .Slice _ _ _ _ => false
  | _ => true
def nset : PySem.Expr → Bool
  | .Set _ _ _ => false
  | _ => true
def ncomp : PySem.Expr → Bool
  | .ListComp _ _ _ _ => false
  | .SetComp _ _ _ _ => false
  | .DictComp _ _ _ _ _ => false
  | _ => true
/-- no 'super()' -/
def nsuper : PySem.Expr → Bool
  | .Call _ [] [] _ => false
  | _ => true
/-- a test is its value's truth -/
def ntest : PySem.Expr → Bool
  | .UnaryOp _ _ _ => false
  | .BoolOp _ _ _ => false
  | .IfExp _ _ _ _ => false
  | .Compare _ _ _ _ => false
  | _ => true
def opB : BOp → Operator → Bool
  | .add, .Add => true
  | .sub, .Sub => true
  | .mul, .Mult => true
  | .fdiv, .FloorDiv => true
  | .mod, .Mod => true
  | .pow, .Pow => true
  | .shl, .LShift => true
  | .shr, .RShift => true
  | .band, .BitAnd => true
  | .bor, .BitOr => true
  | _, _ => false
def opC : COp → CmpOp → Bool
  | .lt, .Lt => true
  | .le, .LtE => true
  | .gt, .Gt => true
  | .ge, .GtE => true
  | _, _ => false
def biN : BI → Str
  | .min2 => "min"
  | .max2 => "max"
  | .abs => "abs"
  | .int => "int"
  | .minL => "min"
  | .maxL => "max"
  | .sum => "sum"
  | .any => "any"
  | .all => "all"
def tyN : Ty → Str
  | .int => "int"
  | .bool => "bool"
  | .str => "str"
  | .list => "list"
  | .tuple => "tuple"
/-- how many items a list of code has -/
def cnt : IE → Nat
  | .cons _ r => cnt r + 1
  | _ => 0
mutual
def modeE (T : List Sig) : IE → Mode
  | .int _ => .all
  | .bl _ => .all
  | .non => .all
  | .str _ => .all
  | .gint _ _ => .all
  | .gstr _ _ => .all
  | .bin _ _ _ => .all
  | .neg _ => .all
  | .cmp _ _ _ => .all
  | .eq _ _ _ => .all
  | .isN _ _ => .all
  | .inn _ _ _ => .all
  | .chn _ _ => .all
  | .one a => modeE T a
  | .not _ => .all
  | .ife _ a b => if modeE T a = modeE T b then modeE T a else .no
  | .sl _ _ _ => .top
  | .slS _ _ _ => .all
  | .rev _ => .top
  | .len _ => .all
  | .lenO _ => .all
  | .call j _ => match T[j]? with | some s => s.rm | none => .no
  | .callK j _ _ _ => match T[j]? with | some s => s.rm | none => .no
  | .callD0 j _ => match T[j]? with | some s => s.rm | none => .no
  | .callIo j _ _ => match T[j]? with | some s => s.rm | none => .no
  | .prim j => match T[j]? with | some s => s.rm | none => .no
  | .bor _ => .all
  | .borA _ => .all
  | .appN _ _ _ => .all
  | .bi _ _ => .all
  | .isi _ _ => .all
  | .listOf _ => .top
  | .rng _ => .all
  | .sortI _ => .all
  | .sortT _ => .top
  | .tup as => if modesA T as then .all else .no
  | .lst as => if modesA T as then .all else .top
  | .cat _ _ => .top
  | .rep _ _ => .top
  | .index _ _ => .all
  | .join _ _ => .all
  | .cntS _ _ => .all
  | .cntT _ => .all
  | .app _ _ => .all
  | .ins _ _ _ => .all
  | .ext _ _ => .all
  | .revM _ => .all
  | .pl _ => .all
  | .pli _ => .all
  | .comp _ _ _ _ e => if modeE T e = .all then .all else .top
  | .comp2 _ _ _ _ _ _ _ _ e => if modeE T e = .all then .all else .top
  | _ => .no
def modesA (T : List Sig) : IE → Bool
  | .nil => true
  | .cons a r => decide (modeE T a = .all) && modesA T r
  | _ => false
end
/-- a target's names stand at its slots -/
def okTgs (N : List Str) (sc : Scope) (fn : Str → Bool) : List Nat → List PySem.Expr → Bool
  | [], [] => true
  | i :: r, .Name x _ :: es => decide (N[i]? = some x) && (decide (sc.names.lookup x = some .local) || (decide (sc.names.lookup x = some .cell) && fn x)) && okTgs N sc fn r es
  | _, _ => false
def okTg (N : List Str) (sc : Scope) (fn : Str → Bool) : List Nat → PySem.Expr → Bool
  | [i], .Name x p => okTgs N sc fn [i] [.Name x p]
  | i :: j :: r, .Tuple es _ _ => okTgs N sc fn (i :: j :: r) es
  | _, _ => false
/-- enumerate goes with a target of two names or more -/
def enumOk : IE → List Nat → Bool
  | .wEnum _, tg => decide (2 ≤ tg.length)
  | _, _ => true
def okTgW (N : List Str) (sc : Scope) (fn : Str → Bool) (it : IE) (tg : List Nat) (x : PySem.Expr) : Bool := okTg N sc fn tg x && enumOk it tg
def enTg (it : IE) (x : PySem.Expr) : Prop := ∀ a, it = .wEnum a → ∃ es k p, x = .Tuple es k p
theorem okTgW.one {N : List Str} {sc : Scope} {fn : Str → Bool} {it : IE} {tg : List Nat} {x : PySem.Expr} (h : okTgW N sc fn it tg x = true) : okTg N sc fn tg x = true := by
  unfold okTgW at h
  simp only [Bool.and_eq_true] at h
  exact h.1
theorem okTgW.en {N : List Str} {sc : Scope} {fn : Str → Bool} {it : IE} {tg : List Nat} {x : PySem.Expr} (h : okTgW N sc fn it tg x = true) : enTg it x := by
  intro a e
  subst e
  unfold okTgW at h
  simp only [Bool.and_eq_true] at h
  obtain ⟨h1, h2⟩ := h
  have h2 : 2 ≤ tg.length := by simpa [enumOk] using h2
  match tg, x, h1 with
  | i :: j :: r, .Tuple es k p, _ => exact ⟨es, k, p, rfl⟩
  | [i], .Name x p, _ => simp at h2
def noM (Γ : List Mode) (vs : List Nat) : Bool := vs.all fun i => decide (gM Γ i = .no)
def isCmp : IE → Bool
  | .cmp _ _ _ => true
  | .eq _ _ _ => true
  | .isN _ _ => true
  | .inn _ _ _ => true
  | .chn _ _ => true
  | _ => false
def okP (sc : Scope) : Prim → PySem.Expr → Bool
  | .isE y C, .Call (.Name g _) [.Name x _, .Name tn _] [] _ => decide (g = "isinstance") && (glB sc g && (decide (x = y) && (visB sc x && (decide (x ≠ "__debug__") && (decide (x ≠ "__classdict__") && (decide (tn = C) && glB sc tn))))))
  | .fld y f, .Attribute (.Name x _) m _ => decide (m = f) && (decide (x = y) && (visB sc x && (decide (x ≠ "__debug__") && decide (x ≠ "__classdict__"))))
  | .app h y, .Call (.Name g _) [.Name x _] [] _ => decide (g = h) && (glB sc g && (decide (x = y) && (visB sc x && (decide (x ≠ "__debug__") && decide (x ≠ "__classdict__")))))
  | _, _ => false
/-- walked where an exception is handled: a list or a tuple, one name -/
def hotW : List Nat → IE → Bool
  | [_], .wSeq _ => true
  | _, _ => false
/-- an int, written out -/
def kcB (k : Int) : PySem.Expr → Bool
  | .Constant (.int m) _ _ => decide (m = k)
  | .UnaryOp .USub (.Constant (.int m) _ _) _ => decide (-m = k)
  | _ => false
def noG (Γ : List Mode) : List Mode := Γ.map fun _ => .no
def cellFn (scope : Scope) (x : Str) : Bool := scope.names.lookup x == some .cell
variable (c : SC)
mutual
def okE (sc : Scope) (Γ : List Mode) : IE → PySem.Expr → Bool
  | .var i, .Name x _ => decide (c.N[i]? = some x) && (visB sc x && (decide (gM Γ i = .no) && (decide (x ≠ "__debug__") && decide (x ≠ "__classdict__"))))
  | .int n, .Constant (.int m) _ _ => decide (n = m)
  | .bl n, .Constant (.bool m) _ _ => decide (n = m)
  | .non, .Constant .none _ _ => true
  | .str n, .Constant (.str m) _ _ => decide (n = m)
  | .gint x n, .Name y _ => decide (x = y) && (decide (c.C.lookup x = some (.int n)) && glB sc y)
  | .gstr x n, .Name y _ => decide (x = y) && (decide (c.C.lookup x = some (.str n)) && glB sc y)
  | .bin o a b, .BinOp xa op xb _ => opB o op && (okE sc Γ a xa && okE sc Γ b xb)
  | .neg a, .UnaryOp .USub xa _ => okE sc Γ a xa
  | .cmp o a b, .Compare xa [op] [xb] _ => opC o op && (okE sc Γ a xa && (okE sc Γ b xb && nset xb))
  | .eq ne a b, .Compare xa [op] [xb] _ => decide (op = if ne then .NotEq else .Eq) && (okE sc Γ a xa && (okE sc Γ b xb && nset xb))
  | .isN ne a, .Compare xa [op] [.Constant .none _ _] _ => decide (op = if ne then .IsNot else .Is) && okE sc Γ a xa
  | .inn ne a b, .Compare xa [op] [xb] _ => decide (op = if ne then .NotIn else .In) && (okE sc Γ a xa && (okE sc Γ b xb && nset xb))
  | .chn a l, .Compare xa ops xs _ => okE sc Γ a xa && (okC sc Γ l ops xs && decide (2 ≤ ops.length))
  | .and a b, .BoolOp .And (xa :: xb :: xr) p => okE sc Γ a xa && okE sc Γ b (.BoolOp .And (xb :: xr) p)
  | .or a b, .BoolOp .Or (xa :: xb :: xr) p => okE sc Γ a xa && okE sc Γ b (.BoolOp .Or (xb :: xr) p)
  | .one a, .BoolOp _ [x] _ => okE sc Γ a x
  | .ife t a b, .IfExp xt xa xb _ => okT sc Γ t xt && (okE sc Γ a xa && okE sc Γ b xb)
  | .idx a b, .Subscript xa xb _ => okE sc Γ a xa && (okE sc Γ b xb && nslice xb)
  | .idxO i b, .Subscript (.Name x _) xb _ => decide (c.N[i]? = some x) && (visB sc x && (decide (gM Γ i = .top) && (decide (x ≠ "__debug__") && (decide (x ≠ "__classdict__") && (okE sc Γ b xb && nslice xb)))))
  | .sl a lo hi, .Subscript xa (.Slice xl xh none _) _ => okE sc Γ a xa && (okO sc Γ lo xl && okO sc Γ hi xh)
  | .slS a lo hi, .Subscript xa (.Slice xl xh none _) _ => okE sc Γ a xa && (okO sc Γ lo xl && okO sc Γ hi xh)
  | .rev a, .Subscript xa (.Slice none none (some (.UnaryOp .USub (.Constant (.int 1) _ _) _)) _) _ => okE sc Γ a xa
  | .len a, .Call (.Name f _) [xa] [] _ => decide (f = "len") && (glB sc f && (okE sc Γ a xa && nstar xa))
  | .lenO i, .Call (.Name f _) [.Name x _] [] _ => decide (f = "len") && (glB sc f && (decide (c.N[i]? = some x) && (visB sc x && (decide (gM Γ i = .top) && (decide (x ≠ "__debug__") && decide (x ≠ "__classdict__"))))))
  | .prim j, x => c.hot && (match c.T[j]? with | some s => decide (s.np = 0) && (!s.io && (match s.pr with | some p => okP sc p x | none => false)) | none => false)
  | .bor a, x => !c.hot && (decide (modeE c.T a ≠ .no) && okE sc (noG Γ) a x)
  | .borA a, x => !c.hot && (decide (modeE c.T a = .all) && okE sc (noG Γ) a x)
  | .appN i k n, .Call (.Attribute (.Subscript (.Name x _) xk _) m ap) [.Constant (.int n') _ _] [] p => decide (m = "append") && (decide (ap.endLine = p.line) && (decide (c.N[i]? = some x) && (visB sc x && (decide (gM Γ i = .all) && (decide (x ≠ "__debug__") && (decide (x ≠ "__classdict__") && (kcB k xk && decide (n' = n))))))))
  | .call j as, .Call (.Name f _) xs [] _ => !c.hot && ((match c.T[j]? with | some s => decide (s.name = f) && (!s.io && s.kw.isNone) | none => false) && (glB sc f && okL sc Γ as xs))
  | .callK j kw a b, .Call (.Name f _) [xa] [⟨some kw', xb, _⟩] _ => !c.hot && ((match c.T[j]? with | some s => decide (s.name = f) && (!s.io && decide (s.kw = some kw)) | none => false) && (glB sc f && (decide (kw' = kw) && (okE sc Γ a xa && (nstar xa && okE sc Γ b xb)))))
  | .callD0 j a, .Call (.Name f _) [xa] [] _ => !c.hot && ((match c.T[j]? with | some s => decide (s.name = f) && (!s.io && s.kw.isSome) | none => false) && (glB sc f && (okE sc Γ a xa && nstar xa)))
  | .callIo j i as, .Call (.Name f _) (.Name x _ :: xs) [] _ => !c.hot && ((match c.T[j]? with | some s => decide (s.name = f) && (s.io && s.kw.isNone) | none => false) &&
      (glB sc f && (okL sc Γ as xs && (decide (c.N[i]? = some x) && (visB sc x && (decide (gM Γ i = .top) && (decide (x ≠ "__debug__") && decide (x ≠ "__classdict__"))))))))
  | .bi f as, .Call (.Name g _) xs [] _ => decide (g = biN f) && (glB sc g && (okL sc Γ as xs && (!xs.isEmpty && !c.hot)))
  | .isi t a, .Call (.Name g _) [xa, .Name tn _] [] _ => decide (g = "isinstance") && (glB sc g && (okE sc Γ a xa && (nstar xa && (decide (tn = tyN t) && glB sc tn))))
  | .listOf a, .Call (.Name g _) [xa] [] _ => decide (g = "list") && (glB sc g && (okE sc Γ a xa && nstar xa))
  | .tupOf a, .Call (.Name g _) [xa] [] _ => decide (g = "tuple") && (glB sc g && (okE sc Γ a xa && nstar xa))
  | .rng w, .Call (.Name g _) [xa] [] _ => decide (g = "list") && (glB sc g && (okR sc Γ w xa && (nstar xa && !c.hot)))
  | .sortI a, .Call (.Name g _) [xa] [] _ => decide (g = "sorted") && (glB sc g && (okE sc Γ a xa && nstar xa))
  | .sortT a, .Call (.Name g _) [xa] [] _ => decide (g = "sorted") && (glB sc g && (okE sc Γ a xa && nstar xa))
  | .tup as, .Tuple xs _ _ => okL sc Γ as xs && decide (cnt as ≤ 1000)
  | .lst as, .List xs _ => okL sc Γ as xs && decide (cnt as ≤ 1000)
  | .cat a b, .BinOp xa .Add xb _ => okE sc Γ a xa && okE sc Γ b xb
  | .rep a b, .BinOp xa .Mult xb _ => okE sc Γ a xa && okE sc Γ b xb
  | .popL i, .Call (.Attribute (.Name x _) m ap) [] [] p => decide (m = "pop") && (decide (ap.endLine = p.line) && (decide (c.N[i]? = some x) && (visB sc x && (decide (gM Γ i = .top) && (decide (x ≠ "__debug__") && decide (x ≠ "__classdict__"))))))
  | .popAt i a, .Call (.Attribute (.Name x _) m ap) [xa] [] p => decide (m = "pop") && (decide (ap.endLine = p.line) && (decide (c.N[i]? = some x) && (visB sc x && (decide (gM Γ i = .top) && (decide (x ≠ "__debug__") && (decide (x ≠ "__classdict__") && (okE sc Γ a xa && nstar xa)))))))
  | .index a b, .Call (.Attribute xo m ap) [xb] [] p => decide (m = "index") && (decide (ap.endLine = p.line) && (okE sc Γ a xo && (nsuper xo && (okE sc Γ b xb && nstar xb))))
  | .join a b, .Call (.Attribute xo m ap) [xb] [] p => decide (m = "join") && (decide (ap.endLine = p.line) && (okE sc Γ a xo && (nsuper xo && (okE sc Γ b xb && nstar xb))))
  | .cntS a b, .Call (.Attribute xo m ap) [xb] [] p => decide (m = "count") && (decide (ap.endLine = p.line) && (okE sc Γ a xo && (nsuper xo && (okE sc Γ b xb && nstar xb))))
  | .cntT a, .Call (.Attribute xo m ap) [.Constant (.bool true) _ _] [] p => decide (m = "count") && (decide (ap.endLine = p.line) && (okE sc Γ a xo && nsuper xo))
  | .app i a, .Call (.Attribute (.Name x _) m ap) [xa] [] p => decide (m = "append") && (decide (ap.endLine = p.line) && (decide (c.N[i]? = some x) && (visB sc x && (decide (gM Γ i = .top ∨ (gM Γ i = .all ∧ modeE c.T a = .all)) && (decide (x ≠ "__debug__") && (decide (x ≠ "__classdict__") && (okE sc Γ a xa && nstar xa)))))))
  | .ins i k a, .Call (.Attribute (.Name x _) m ap) [xk, xa] [] p => decide (m = "insert") && (decide (ap.endLine = p.line) && (decide (c.N[i]? = some x) && (visB sc x && (decide (gM Γ i = .top ∨ (gM Γ i = .all ∧ modeE c.T a = .all)) && (decide (x ≠ "__debug__") && (decide (x ≠ "__classdict__") && (okE sc Γ k xk && (nstar xk && (okE sc Γ a xa && nstar xa)))))))))
  | .ext i a, .Call (.Attribute (.Name x _) m ap) [xa] [] p => decide (m = "extend") && (decide (ap.endLine = p.line) && (decide (c.N[i]? = some x) && (visB sc x && (decide (gM Γ i = .top ∨ (gM Γ i = .all ∧ modeE c.T a = .all)) && (decide (x ≠ "__debug__") && (decide (x ≠ "__classdict__") && (okE sc Γ a xa && nstar xa)))))))
  | .revM i, .Call (.Attribute (.Name x _) m ap) [] [] p => decide (m = "reverse") && (decide (ap.endLine = p.line) && (decide (c.N[i]? = some x) && (visB sc x && (decide (gM Γ i = .top) && (decide (x ≠ "__debug__") && decide (x ≠ "__classdict__"))))))
  | .pl a, x => okE sc Γ a x
  | .pli a, x => okE sc Γ a x && decide (modeE c.T a = .top)
  | .not a, .UnaryOp .Not xa _ => okE sc Γ a xa
  | .comp vs tg it t e, .ListComp xe [⟨xt, xi, xs, 0⟩] scope _ => (!c.hot || hotW tg it) && (okW sc Γ it xi && (nset xi && (noM Γ vs && (tg.all (fun i => decide (i ∈ vs)) && (blkC c.N sc scope (vs.map fun i => (c.N.getD i "", i)) &&
      (okTgW c.N (relS scope sc) (cellFn scope) it tg xt && (okTs (relS scope sc) Γ t xs && okE (relS scope sc) Γ e xe)))))))
  | .comp2 vs tg it t vs1 tg1 it1 t1 e, .ListComp xe [⟨xt, xi, xs, 0⟩, ⟨xt1, xi1, xs1, 0⟩] scope _ => !c.hot && (okW sc Γ it xi && (nset xi && (noM Γ vs && (tg.all (fun i => decide (i ∈ vs)) && (blkC c.N sc scope (vs.map fun i => (c.N.getD i "", i)) &&
      (okTgW c.N (relS scope sc) (cellFn scope) it tg xt && (okTs (relS scope sc) Γ t xs && (vs1.all (fun i => decide (i ∈ vs)) && (tg1.all (fun i => decide (i ∈ vs1)) && (okW (relS scope sc) Γ it1 xi1 && (nset xi1 && (okTgW c.N (relS scope sc) (cellFn scope) it1 tg1 xt1 &&
      (okTs (relS scope sc) Γ t1 xs1 && okE (relS scope sc) Γ e xe)))))))))))))
  | _, _ => false
def okT (sc : Scope) (Γ : List Mode) : IE → PySem.Expr → Bool
  | .and a b, .BoolOp .And (xa :: xb :: xr) p => okT sc Γ a xa && okT sc Γ b (.BoolOp .And (xb :: xr) p)
  | .or a b, .BoolOp .Or (xa :: xb :: xr) p => okT sc Γ a xa && okT sc Γ b (.BoolOp .Or (xb :: xr) p)
  | .one a, .BoolOp _ [x] _ => okT sc Γ a x
  | .not a, .UnaryOp .Not xa _ => okT sc Γ a xa
  | .tst a, .Compare xa ops xs p => isCmp a && okE sc Γ a (.Compare xa ops xs p)
  | .tru a, x => ntest x && okE sc Γ a x
  | .borT a, x => !c.hot && okT sc (noG Γ) a x
  | _, _ => false
def okTs (sc : Scope) (Γ : List Mode) : IE → List PySem.Expr → Bool
  | .nil, [] => true
  | .cons t _, [x] => okT sc Γ t x
  | _, _ => false
def okC (sc : Scope) (Γ : List Mode) : IE → List CmpOp → List PySem.Expr → Bool
  | .lnk o b l, op :: ops, x :: xs => opC o op && (okE sc Γ b x && okC sc Γ l ops xs)
  | .lnkE o b, [op], [x] => opC o op && (okE sc Γ b x && nset x)
  | _, _, _ => false
def okL (sc : Scope) (Γ : List Mode) : IE → List PySem.Expr → Bool
  | .nil, [] => true
  | .cons a r, x :: xs => okE sc Γ a x && (nstar x && okL sc Γ r xs)
  | _, _ => false
def okO (sc : Scope) (Γ : List Mode) : IE → Option PySem.Expr → Bool
  | .nil, none => true
  | .cons a _, some x => okE sc Γ a x
  | _, _ => false
def okW (sc : Scope) (Γ : List Mode) : IE → PySem.Expr → Bool
  | .wSeq a, x => okE sc Γ a x
  | .wRng1 a, .Call (.Name g _) [xa] [] _ => decide (g = "range") && (glB sc g && (okE sc Γ a xa && nstar xa))
  | .wRng2 a b, .Call (.Name g _) [xa, xb] [] _ => decide (g = "range") && (glB sc g && (okE sc Γ a xa && (nstar xa && (okE sc Γ b xb && nstar xb))))
  | .wEnum a, .Call (.Name g _) [xa] [] _ => decide (g = "enumerate") && (glB sc g && (okE sc Γ a xa && nstar xa))
  | .wRv1 a, .Call (.Name h _) [.Call (.Name g _) [xa] [] _] [] _ => decide (h = "reversed") && (glB sc h && (decide (g = "range") && (glB sc g && (okE sc Γ a xa && nstar xa))))
  | .wRv2 a b, .Call (.Name h _) [.Call (.Name g _) [xa, xb] [] _] [] _ => decide (h = "reversed") && (glB sc h && (decide (g = "range") && (glB sc g && (okE sc Γ a xa && (nstar xa && (okE sc Γ b xb && nstar xb))))))
  | _, _ => false
/-- range(..) as an argument -/
def okR (sc : Scope) (Γ : List Mode) : IE → PySem.Expr → Bool
  | .wRng1 a, .Call (.Name g _) [xa] [] _ => decide (g = "range") && (glB sc g && (okE sc Γ a xa && nstar xa))
  | .wRng2 a b, .Call (.Name g _) [xa, xb] [] _ => decide (g = "range") && (glB sc g && (okE sc Γ a xa && (nstar xa && (okE sc Γ b xb && nstar xb))))
  | _, _ => false
end
theorem okE_nil_ (sc : Scope) (Γ : List Mode) (x : PySem.Expr) : okE c sc Γ .nil x = false := by simp only [okE]
theorem okT_nil_ (sc : Scope) (Γ : List Mode) (x : PySem.Expr) : okT c sc Γ .nil x = false := by simp only [okT]
end OS
namespace OS
open PySem PySem.Spec PyProof.Rows L2

theorem PE.imp {X : Cx} {x : PySem.Expr} {t t' : TE} (h : PE X x t) (i : ∀ σ H Q, t' σ H Q → t σ H Q) : PE X x t' := ⟨fun pins s σ H Q I q => h.run pins s σ H Q I (i σ H Q q)⟩
theorem PT.imp {X : Cx} {x : PySem.Expr} {t t' : TT} (h : PT X x t) (i : ∀ σ H Q, t' σ H Q → t σ H Q) : PT X x t' := ⟨fun pins s σ H Q I q => h.run pins s σ H Q I (i σ H Q q)⟩
theorem PA.imp {X : Cx} {x : List PySem.Expr} {t t' : TA} (h : PA X x t) (i : ∀ σ H Q, t' σ H Q → t σ H Q) : PA X x t' := ⟨fun pos pins s σ H Q I q => h.run pos pins s σ H Q I (i σ H Q q)⟩
theorem PO.imp {X : Cx} {x : Option PySem.Expr} {t t' : TO} (h : PO X x t) (i : ∀ σ H Q, t' σ H Q → t σ H Q) : PO X x t' := ⟨fun pins s σ H Q I q => h.run pins s σ H Q I (i σ H Q q)⟩
theorem PI.imp {X : Cx} {tg x : PySem.Expr} {t t' : TI} (h : PI X tg x t) (i : ∀ σ H Q, t' σ H Q → t σ H Q) : PI X tg x t' := ⟨fun pins s σ H Q I q => h.run pins s σ H Q I (i σ H Q q)⟩

/-! ### a def's promise -/
def ArgOk (K : PySem.W.Frag) (G H : Hp) (io : Bool) (vs : List V) (ds : List D) (os : List Addr) : Prop :=
  if io then ∃ v vs' d ds', vs = v :: vs' ∧ ds = d :: ds' ∧ Own K G H .top v d os ∧ FzL K G vs' ds' else FzL K G vs ds ∧ os = []
def EndOk (K : PySem.W.Frag) (G H : Hp) (io : Bool) (vs : List V) (d : D) (os : List Addr) : Prop :=
  if io then ∃ v, vs[0]? = some v ∧ Own K G H .top v d os else os = []
def spOf (K : PySem.W.Frag) (mg : Str → Option Value) (s : Sig) : Sp := fun vs H Q E => vs.length = s.np ∧ ∃ G ds os, Same G H ∧ ds.length = s.np ∧ ArgOk K G H s.io vs ds os ∧
  match s.φ ds with
  | .ok (r, d') => ∀ G' H' v o oz, Own K G' H' s.rm v r o → EndOk K G' H' s.io vs d' oz → (o ++ oz).Nodup → Fr G H G' H' os → Sub H os (o ++ oz) → Q v H'
  | .exn c fs => ∀ G' H' cls dd, ExD mg H' c fs cls dd → Fr G H G' H' os → E cls dd H'
  | .bad => False
/-- how the parameters are bound -/
def BindS (K : PySem.W.Frag) (fd : FuncData) (ps : List Str) : Option Str → Prop
  | none => Binds K fd ps []
  | some kw => (∃ ds, Vals [V.non] ds ∧ Binds K fd ps ds) ∧ KBn K fd ps 1 [kw] (fun us ws => us ++ ws) (fun vs zs => vs ++ zs)
theorem bindS_none {K : PySem.W.Frag} {fd : FuncData} {ps : List Str} {o : Option Str} (h : o.isNone = true) (b : BindS K fd ps o) : Binds K fd ps [] := by
  cases o with
  | none => exact b
  | some _ => cases h
theorem bindS_kw {K : PySem.W.Frag} {fd : FuncData} {ps : List Str} {o : Option Str} {kw : Str} (h : o = some kw) (b : BindS K fd ps o) : (∃ ds, Vals [V.non] ds ∧ Binds K fd ps ds) ∧ KBn K fd ps 1 [kw] (fun us ws => us ++ ws) (fun vs zs => vs ++ zs) := by
  subst h; exact b
structure FnAt (X : Cx) (lv : Nat) (s : Sig) : Prop where
  ex : ∃ f fd ps, FnOk X.prog X.w X.K X.mg X.base (L2N.CX X.prog X.w) lv f fd ps (spOf X.K X.mg s) ∧ X.mg s.name = some (.ref f) ∧ PySem.W.keepIn X.K (.ref f) = true ∧ BindS X.K fd ps s.kw
def blts : List Str := ["len", "range", "min", "max", "abs", "int", "sum", "any", "all", "isinstance", "list", "tuple", "sorted", "bool", "str", "reversed", "enumerate"]
structure Cok (c : SC) (X : Cx) (z : Option (Nat × V × Hp)) : Prop where
  N : X.N = c.N
  nd : c.N.Nodup
  hu : X.A.units + 199 < cLine
  calm : c.hot = false → X.calm = true
  tab : c.hot = false → ∃ lv, Room lv X.A ∧ ∀ (j : Nat) (s : Sig), c.T[j]? = some s → FnAt X lv s
  prim : c.hot = true → ∃ (p : Addr × Obj) (i : Nat) (v : V) (B : Hp), p ∈ X.pn ∧ L2H.Hot1 X.A p ∧ z = some (i, v, B) ∧ ∀ X' : Cx, X'.prog = X.prog → X'.w = X.w → X'.K = X.K → X'.mg = X.mg → X'.base = X.base → X'.N = X.N → X'.A = X.A → p ∈ X'.pn →
    ∀ (j : Nat) (s : Sig) (q : Prim) (x : PySem.Expr), c.T[j]? = some s → s.pr = some q → okP X'.env.scope q x = true → PE X' x (fun σ H Q => σ[i]? = some (some v) ∧ Same B H ∧ spOf X'.K X'.mg s [] H Q (fun _ _ _ => False))
  blt : ∀ (x : Str), x ∈ blts → X.mg x = none
  con : ∀ (x : Str) (v : V), c.C.lookup x = some v → ∃ u, X.mg x = some u ∧ RelV v u
theorem Cok.noz {c : SC} {X : Cx} {z z' : Option (Nat × V × Hp)} (k : Cok c X z) (h : c.hot = false) : Cok c X z' :=
  ⟨k.N, k.nd, k.hu, k.calm, k.tab, (fun q => by rw [h] at q; cases q), k.blt, k.con⟩
/-- the wish that speaks of no slots -/
abbrev TkX (X : Cx) (W : WE0) : Prop := L2N.Takes X (fun c d _ H => W c d H)

/-! ### what is shown of code -/
variable (c : SC)
def SE (e : IE) : Prop := ∀ (X : Cx) (Γ : List Mode) (z : Option (Nat × V × Hp)) (W : WE0) (x : PySem.Expr), Cok c X z → okE c X.env.scope Γ e x = true → TkX X W → PE X x (tG X.K X.mg z Γ W (rO X.K (modeE c.T e)) (runE c.T e))
def ST (e : IE) : Prop := ∀ (X : Cx) (Γ : List Mode) (z : Option (Nat × V × Hp)) (W : WE0) (x : PySem.Expr), Cok c X z → okT c X.env.scope Γ e x = true → TkX X W → PT X x (tG X.K X.mg z Γ W rB (runT c.T e))
def SL (e : IE) : Prop := ∀ (X : Cx) (Γ : List Mode) (z : Option (Nat × V × Hp)) (W : WE0) (x : List PySem.Expr), Cok c X z → okL c X.env.scope Γ e x = true → TkX X W → PA X x (tG X.K X.mg z Γ W (rL X.K) (runL c.T e))
variable {c : SC}
theorem SE.F {e : IE} (h : SE c e) {X : Cx} {Γ : List Mode} {z : Option (Nat × V × Hp)} {W : WE0} {x : PySem.Expr} (k : Cok c X z) (o : okE c X.env.scope Γ e x = true) (t : TkX X W) : PE X x (tG X.K X.mg z Γ W (rF X.K) (runE c.T e)) :=
  PE.imp (h X Γ z W x k o t) fun _ _ _ q => q.freeze
theorem SE.triv {e : IE} (h : ∀ sc Γ x, okE c sc Γ e x = false) : SE c e := fun X Γ z W x _ o _ => by rw [h] at o; cases o

theorem vis_of {sc : Scope} {x : Str} (h : visB sc x = true) : Vis sc x := by
  unfold visB at h
  simp only [Bool.or_eq_true, decide_eq_true_eq] at h
  exact h
theorem gl_of {X : Cx} {x : Str} (h : glB X.env.scope x = true) : Gl X x ∧ (x == ("__debug__" : Str)) = false := by
  unfold glB at h
  simp only [Bool.and_eq_true, decide_eq_true_eq] at h
  exact ⟨h.1, beq_eq_false_iff_ne.mpr h.2⟩
theorem dbg_of {x y : Str} (h : x ≠ y) : (x == y) = false := beq_eq_false_iff_ne.mpr h
theorem star_of {X : Cx} {x : PySem.Expr} {xs : List PySem.Expr} (h : nstar x = true) : starEach (x :: xs) X.env = (false, eval x X.env) :: starEach xs X.env := by
  cases x <;> first | rfl | (simp [nstar] at h)
theorem slice_of {x : PySem.Expr} (h : nslice x = true) : PlainIx x := by
  intro o i
  cases x <;> first | rfl | (simp [nslice] at h)
theorem mark_of {op : CmpOp} {x : PySem.Expr} (h : nset x = true) : behindInMarks op x = false := by
  cases x <;> first | rfl | (simp [nset] at h)
theorem fold_of {x : PySem.Expr} {env : Env} (h : nset x = true) : ∀ y, foldedSetIterable x env y = pure y := by
  intro y
  cases x <;> first | rfl | (simp [nset] at h)
theorem base_of {x : PySem.Expr} {n : Str} {env : Env} (h : nsuper x = true) : attributeBase x n env (eval x env) = eval x env := by
  cases x <;> first
    | rfl
    | (rename_i f as ks p; cases f <;> first | rfl | (cases as <;> first | rfl | (cases ks <;> first | rfl | (simp [nsuper] at h))))
theorem isTrue_of {x : PySem.Expr} {env : Env} (h : ntest x = true) : ∀ whole, isTrue x env whole = (do let v ← whole; standAt x.pos; holding [v] (truthy v)) := by
  intro w
  cases x <;> first | rfl | (simp [ntest] at h)

theorem p27 {i : Int} (h : i ≤ 134217728) : i ≤ 2 ^ 27 := by
  have e : (2 : Int) ^ 27 = 134217728 := by decide
  rw [e]; exact h
def CPowX (i j : Int) : Prop := 0 ≤ j ∧ (Builtin.Int.intBits i : Int) * j ≤ 2 ^ 27
theorem op_powX {X : Cx} : OpR X (binaryOp .Pow) (L2.rI CPowX fun i j => .int (i ^ j.toNat)) := L2.opI fun _ _ _ _ _ _ _ hc q => PyProof.Rows.pow_int hc.1 hc.2 q

/-! ### leaves -/
theorem se_var (i : Nat) : SE c (.var i) := by
  intro X Γ z W x k o t
  cases x <;> simp only [okE, Bool.false_eq_true] at o
  rename_i x p
  simp only [Bool.and_eq_true, decide_eq_true_eq] at o
  obtain ⟨h1, h2, h3, h4, h5⟩ := o
  refine PE.imp (pe_var (i := i) (by rw [k.N]; exact h1) (vis_of h2) (dbg_of h4) (dbg_of h5)) fun σ H Q q => ?_
  obtain ⟨G, ρ, os, st, h⟩ := q
  have h : GP X.K X.mg z Γ W (rF X.K) (match gS ρ i with | some d => R.ok (d, ρ) | none => R.bad) G H os σ Q := h
  cases e : gS ρ i with
  | none => rw [e] at h; exact h.elim
  | some d =>
    rw [e] at h
    obtain ⟨v, e1, f⟩ := st.sl.get e h3
    exact ⟨v, e1, h.ok_F st f⟩
theorem se_int (n : Int) : SE c (.int n) := by
  intro X Γ z W x k o t
  cases x <;> try (simp only [okE, Bool.false_eq_true] at o; done)
  rename_i v j p
  cases v <;> simp only [okE, Bool.false_eq_true, decide_eq_true_eq] at o
  subst o
  refine PE.imp pe_int fun σ H Q q => ?_
  obtain ⟨G, ρ, os, st, h⟩ := q
  exact GP.ok_A (d := .int n) st (.int n) h
theorem se_bl (n : Bool) : SE c (.bl n) := by
  intro X Γ z W x k o t
  cases x <;> try (simp only [okE, Bool.false_eq_true] at o; done)
  rename_i v j p
  cases v <;> simp only [okE, Bool.false_eq_true, decide_eq_true_eq] at o
  subst o
  refine PE.imp pe_bl fun σ H Q q => ?_
  obtain ⟨G, ρ, os, st, h⟩ := q
  exact GP.ok_A (d := .bl n) st (.bl n) h
theorem se_non : SE c .non := by
  intro X Γ z W x k o t
  cases x <;> try (simp only [okE, Bool.false_eq_true] at o; done)
  rename_i v j p
  cases v <;> first | (simp only [okE, Bool.false_eq_true] at o; done) | skip
  refine PE.imp pe_non fun σ H Q q => ?_
  obtain ⟨G, ρ, os, st, h⟩ := q
  exact GP.ok_A (d := .non) st .non h
theorem se_str (n : Str) : SE c (.str n) := by
  intro X Γ z W x k o t
  cases x <;> try (simp only [okE, Bool.false_eq_true] at o; done)
  rename_i v j p
  cases v <;> simp only [okE, Bool.false_eq_true, decide_eq_true_eq] at o
  subst o
  refine PE.imp pe_str fun σ H Q q => ?_
  obtain ⟨G, ρ, os, st, h⟩ := q
  exact GP.ok_A (d := .str n) st (.str n) h
theorem se_gint (x : Str) (n : Int) : SE c (.gint x n) := by
  intro X Γ z W y k o t
  cases y <;> simp only [okE, Bool.false_eq_true] at o
  simp only [Bool.and_eq_true, decide_eq_true_eq] at o
  obtain ⟨rfl, h2, h3⟩ := o
  obtain ⟨u, hu, r⟩ := k.con _ _ h2
  obtain ⟨g1, g2⟩ := gl_of h3
  refine PE.imp (pe_glob g1 hu r g2) fun σ H Q q => ?_
  obtain ⟨G, ρ, os, st, h⟩ := q
  exact GP.ok_A (d := .int n) st (.int n) h
theorem se_gstr (x : Str) (n : Str) : SE c (.gstr x n) := by
  intro X Γ z W y k o t
  cases y <;> simp only [okE, Bool.false_eq_true] at o
  simp only [Bool.and_eq_true, decide_eq_true_eq] at o
  obtain ⟨rfl, h2, h3⟩ := o
  obtain ⟨u, hu, r⟩ := k.con _ _ h2
  obtain ⟨g1, g2⟩ := gl_of h3
  refine PE.imp (pe_glob g1 hu r g2) fun σ H Q q => ?_
  obtain ⟨G, ρ, os, st, h⟩ := q
  exact GP.ok_A (d := .str n) st (.str n) h

/-! ### operators -/
theorem foldl_size (x : Array Nat) : ∀ (n : Nat) (a : Array Nat), ((List.replicate n x).foldl (· ++ ·) a).size = a.size + n * x.size := by
  intro n
  induction n with
  | zero => intro a; simp
  | succ n ih =>
    intro a
    rw [List.replicate_succ, List.foldl_cons, ih, Array.size_append, Nat.succ_mul]
    omega
theorem op_mulS {X : Cx} : OpR X (binaryOp .Mult) (fun x y H Q => ∃ i j, x = .str i ∧ y = .int j ∧ (-(2 ^ 63) ≤ j ∧ j < 2 ^ 63 ∧ i.length * j.toNat ≤ sizeLine) ∧ Q (.str (repS i j)) H) := by
  intro pins s σ H x y v u Q I rx ry h
  obtain ⟨i, j, rfl, rfl, hz, q⟩ := h
  obtain ⟨t, rfl⟩ := rx
  obtain ⟨t', rfl⟩ := ry
  have hs : sizeLine = 16777216 := rfl
  refine PySem.P.mul_str ?_ ?_ ?_ ?_
  · have h1 : ¬ j < -(2 ^ 63 : Int) := by omega
    have h2 : ¬ j ≥ 2 ^ 63 := by omega
    rw [decide_eq_false h1, decide_eq_false h2]; rfl
  · intro h1 h2 h3
    have h4 : (i.length : Int) * j ≤ 2 ^ 63 - 1 := by
      have e : (i.length : Int) * j = ((i.length * j.toNat : Nat) : Int) := by
        rw [Int.natCast_mul, Int.toNat_of_nonneg (by omega)]
      rw [e]; omega
    have := Int.le_ediv_of_mul_le (by omega) h4
    omega
  · intro h1 h2
    show decide (i.length * j.toNat > sizeLine) = false
    exact decide_eq_false (by omega)
  · unfold repS at q
    by_cases h1 : j < 1
    · rw [if_pos h1] at q ⊢
      exact ⟨Nat.zero_le _, ⟨.str _, H, I.tok _, ⟨_, rfl⟩, q⟩⟩
    · rw [if_neg h1] at q ⊢
      by_cases h2 : (j == 1 || i.length == 0) = true
      · rw [if_pos h2] at q ⊢
        exact ⟨.str _, H, I, ⟨_, rfl⟩, q⟩
      · rw [if_neg h2] at q ⊢
        refine ⟨?_, ⟨.str _, H, I.tok _, ⟨_, rfl⟩, q⟩⟩
        show ((List.replicate j.toNat i.cps).foldl (· ++ ·) #[]).size ≤ _
        rw [foldl_size]
        have : j.toNat * i.cps.size = i.length * j.toNat := Nat.mul_comm _ _
        simp only [Array.size_empty]
        omega
theorem op_bin {X : Cx} {o : BOp} {op : Operator} (ho : opB o op = true) : ∃ r : R2, OpR X (binaryOp op) r ∧ ∀ {G H : Hp} {x y : V} {d1 d2 d : D} {Q : VK}, Fz X.K G x d1 → Fz X.K G y d2 → binD o d1 d2 = some d → (∀ v, OwA X.K G H v d [] → Q v H) → r x y H Q := by
  cases o <;> cases op <;> first | (exact absurd ho (by decide)) | skip
  · refine ⟨_, OpR.or op_add op_add_str, fun {G H x y d1 d2 d Q} f1 f2 e q => ?_⟩
    cases f1 <;> cases f2 <;> simp only [binD, reduceCtorEq, Option.some.injEq] at e
    · subst e; exact .inl ⟨_, _, rfl, rfl, q _ (.int _)⟩
    · split at e
      · cases e; rename_i hz; exact .inr ⟨_, _, rfl, rfl, hz, q _ (.str _)⟩
      · cases e
  · refine ⟨_, op_sub, fun {G H x y d1 d2 d Q} f1 f2 e q => ?_⟩
    cases f1 <;> cases f2 <;> simp only [binD, reduceCtorEq, Option.some.injEq] at e
    subst e; exact ⟨_, _, rfl, rfl, q _ (.int _)⟩
  · refine ⟨_, OpR.or op_mulX op_mulS, fun {G H x y d1 d2 d Q} f1 f2 e q => ?_⟩
    cases f1 <;> cases f2 <;> simp only [binD, reduceCtorEq] at e
    · split at e
      · cases e; rename_i hz; exact .inl ⟨_, _, rfl, rfl, (by unfold CMulX; omega), q _ (.int _)⟩
      · cases e
    · split at e
      · cases e; rename_i hz; exact .inr ⟨_, _, rfl, rfl, hz, q _ (.str _)⟩
      · cases e
  · refine ⟨_, op_fdivW, fun {G H x y d1 d2 d Q} f1 f2 e q => ?_⟩
    cases f1 <;> cases f2 <;> simp only [binD, reduceCtorEq] at e
    split at e
    · cases e; rename_i hz; exact ⟨_, _, rfl, rfl, hz, q _ (.int _)⟩
    · cases e
  · refine ⟨_, op_mod, fun {G H x y d1 d2 d Q} f1 f2 e q => ?_⟩
    cases f1 <;> cases f2 <;> simp only [binD, reduceCtorEq] at e
    split at e
    · cases e; rename_i hz; exact ⟨_, _, rfl, rfl, hz, q _ (.int _)⟩
    · cases e
  · refine ⟨_, op_powX, fun {G H x y d1 d2 d Q} f1 f2 e q => ?_⟩
    cases f1 <;> cases f2 <;> simp only [binD, reduceCtorEq] at e
    split at e
    · cases e; rename_i hz; exact ⟨_, _, rfl, rfl, ⟨hz.1, p27 hz.2⟩, q _ (.int _)⟩
    · cases e
  · refine ⟨_, op_shlW, fun {G H x y d1 d2 d Q} f1 f2 e q => ?_⟩
    cases f1 <;> cases f2 <;> simp only [binD, reduceCtorEq] at e
    split at e
    · cases e; rename_i hz; exact ⟨_, _, rfl, rfl, ⟨hz.1, p27 hz.2⟩, q _ (.int _)⟩
    · cases e
  · refine ⟨_, op_shr, fun {G H x y d1 d2 d Q} f1 f2 e q => ?_⟩
    cases f1 <;> cases f2 <;> simp only [binD, reduceCtorEq] at e
    split at e
    · cases e; rename_i hz; exact ⟨_, _, rfl, rfl, hz, q _ (.int _)⟩
    · cases e
  · refine ⟨_, op_and, fun {G H x y d1 d2 d Q} f1 f2 e q => ?_⟩
    cases f1 <;> cases f2 <;> simp only [binD, reduceCtorEq, Option.some.injEq] at e
    subst e; exact ⟨_, _, rfl, rfl, q _ (.int _)⟩
  · refine ⟨_, op_or, fun {G H x y d1 d2 d Q} f1 f2 e q => ?_⟩
    cases f1 <;> cases f2 <;> simp only [binD, reduceCtorEq, Option.some.injEq] at e
    subst e; exact ⟨_, _, rfl, rfl, q _ (.int _)⟩
theorem se_bin {o : BOp} {a b : IE} (ha : SE c a) (hb : SE c b) : SE c (.bin o a b) := by
  intro X Γ z W x k ok t
  cases x <;> simp only [okE, Bool.false_eq_true] at ok
  simp only [Bool.and_eq_true] at ok
  obtain ⟨h1, h2, h3⟩ := ok
  obtain ⟨r, hr, hq⟩ := op_bin (X := X) h1
  refine PE.imp (pe_op hr (ha.F (z := z) k h2 t) (hb.F (z := z) k h3 t)) fun σ H Q q => ?_
  refine (tG.two q).mono fun x H1 q1 => q1.mono fun y H2 q2 => ?_
  obtain ⟨d1, d2, G, ρ, os, st, f1, f2, g⟩ := q2
  obtain ⟨d, e, g⟩ := g.opt
  exact hq f1 f2 e fun v f => GP.ok_A st f g
theorem se_neg {a : IE} (ha : SE c a) : SE c (.neg a) := by
  intro X Γ z W x k ok t
  cases x <;> try (simp only [okE, Bool.false_eq_true] at ok; done)
  rename_i op xa p
  cases op <;> first | (simp only [okE, Bool.false_eq_true] at ok; done) | simp only [okE] at ok
  refine PE.imp (pe_un un_neg (ha.F (z := z) k ok t)) fun σ H Q q => ?_
  refine (tG.fst q).mono fun x H1 q1 => ?_
  obtain ⟨d1, G, ρ, os, st, f1, g⟩ := q1
  obtain ⟨d, e, g⟩ := g.opt
  cases f1 <;> simp only [asInt, Option.map_none, Option.map_some, reduceCtorEq, Option.some.injEq] at e
  subst e
  exact ⟨_, rfl, GP.ok_A st (.int _) g⟩
end OS
namespace OS
open PySem PySem.Spec PyProof.Rows L2

/-! ### == over data -/
mutual
theorem Fz.dp {K : PySem.W.Frag} {G H : Hp} (s : Same G H) : ∀ {v : V} {d : D} (n : Nat), Fz K G v d → eqOk n d = true → Dp K H v (toP d)
  | _, _, _, .non, _ => .non
  | _, _, _, .bl b, _ => .bl b
  | _, _, _, .int i, _ => .int i
  | _, _, _, .str x, _ => .str x
  | _, _, 0, .tup _ _, e => by simp [eqOk] at e
  | _, _, n + 1, .tup h r, e => .tup (Same.sqT s h) (FzL.dp s n r (by simpa [eqOk] using e))
  | _, _, 0, .lst _ _, e => by simp [eqOk] at e
  | _, _, n + 1, .lst h r, e => .lst (.inl (.inl (s _ _ h))) (FzL.dp s n r (by simpa [eqOk] using e))
  | _, _, n, .scr _, e => by simp [eqOk] at e
theorem FzL.dp {K : PySem.W.Frag} {G H : Hp} (s : Same G H) : ∀ {vs : List V} {ds : List D} (n : Nat), FzL K G vs ds → eqOkL n ds = true → DpAll K H vs (toPL ds)
  | _, _, _, .nil, _ => .nil
  | _, _, n, .cons h r, e => by
    simp only [eqOkL, Bool.and_eq_true] at e
    exact .cons (Fz.dp s n h e.1) (FzL.dp s n r e.2)
end
mutual
theorem toP_lay : ∀ (n : Nat) (d : D), eqOk n d = true → (toP d).canLay0 = true ∧ (toP d).depth ≤ n
  | _, .non, _ => by simp [toP, PyData.canLay0, PyData.depth]
  | _, .bl _, _ => by simp [toP, PyData.canLay0, PyData.depth]
  | _, .int _, _ => by simp [toP, PyData.canLay0, PyData.depth]
  | _, .str x, e => by
    have e : PyData.strOk x = true := by simpa [eqOk] using e
    simp [toP, PyData.canLay0, PyData.depth, e]
  | 0, .tup _, e => by simp [eqOk] at e
  | 0, .lst _, e => by simp [eqOk] at e
  | n + 1, .tup l, e => by
    have h := toPL_lay n l (by simpa [eqOk] using e)
    simp only [toP, PyData.canLay0, PyData.depth]
    exact ⟨h.1, by omega⟩
  | n + 1, .lst l, e => by
    have h := toPL_lay n l (by simpa [eqOk] using e)
    simp only [toP, PyData.canLay0, PyData.depth]
    exact ⟨h.1, by omega⟩
  | n, .dic _ _, e => by simp [eqOk] at e
  | n, .obj _ _, e => by simp [eqOk] at e
  | n, .scr _, e => by simp [eqOk] at e
theorem toPL_lay : ∀ (n : Nat) (l : List D), eqOkL n l = true → PyData.canLayAll0 (toPL l) = true ∧ PyData.depthAll (toPL l) ≤ n
  | _, [], _ => by simp [toPL, PyData.canLayAll0, PyData.depthAll]
  | n, d :: r, e => by
    simp only [eqOkL, Bool.and_eq_true] at e
    have h1 := toP_lay n d e.1
    have h2 := toPL_lay n r e.2
    simp only [toPL, PyData.canLayAll0, PyData.depthAll, Bool.and_eq_true]
    exact ⟨⟨h1.1, h2.1⟩, by omega⟩
end
theorem toP_shaped {n : Nat} {d : D} (h : eqOk n d = true) (hn : n ≤ 64) : SeqAt.shaped (toP d) = true := by
  have q := toP_lay n d h
  unfold SeqAt.shaped
  rw [Bool.and_eq_true]
  exact ⟨q.1, decide_eq_true (by omega)⟩
theorem toPL_shaped {n : Nat} {l : List D} (h : eqOkL n l = true) (hn : n ≤ 63) : SeqAt.shaped (.list (toPL l)) = true := by
  have q := toPL_lay n l h
  unfold SeqAt.shaped
  rw [Bool.and_eq_true]
  simp only [PyData.canLay0, PyData.depth]
  exact ⟨q.1, decide_eq_true (by omega)⟩
mutual
theorem toP_eqv : ∀ (n m : Nat) (d e : D), eqOk n d = true → eqOk m e = true → PyData.eqv (toP d) (toP e) = eqD d e
  | n, m, .non, e, _, h => by cases e <;> first | (simp [toP, eqD, PyData.eqv]; done) | (simp [eqOk] at h)
  | n, m, .bl b, e, _, h => by cases e <;> first | (simp [toP, eqD, PyData.eqv]; done) | (simp [eqOk] at h)
  | n, m, .int b, e, _, h => by cases e <;> first | (simp [toP, eqD, PyData.eqv]; done) | (simp [eqOk] at h)
  | n, m, .str b, e, _, h => by cases e <;> first | (simp [toP, eqD, PyData.eqv]; done) | (simp [eqOk] at h)
  | n, m, .tup l, e, h1, h => by
    cases e <;> first
      | (simp [toP, eqD, PyData.eqv]; done)
      | (simp [eqOk] at h; done)
      | (rename_i k
         cases n with
         | zero => simp [eqOk] at h1
         | succ n =>
           cases m with
           | zero => simp [eqOk] at h
           | succ m =>
             simp only [toP, eqD, PyData.eqv]
             exact toPL_eqv n m l k (by simpa [eqOk] using h1) (by simpa [eqOk] using h))
  | n, m, .lst l, e, h1, h => by
    cases e <;> first
      | (simp [toP, eqD, PyData.eqv]; done)
      | (simp [eqOk] at h; done)
      | (rename_i k
         cases n with
         | zero => simp [eqOk] at h1
         | succ n =>
           cases m with
           | zero => simp [eqOk] at h
           | succ m =>
             simp only [toP, eqD, PyData.eqv]
             exact toPL_eqv n m l k (by simpa [eqOk] using h1) (by simpa [eqOk] using h))
  | n, m, .dic _ _, _, h, _ => by simp [eqOk] at h
  | n, m, .obj _ _, _, h, _ => by simp [eqOk] at h
  | n, m, .scr _, _, h, _ => by simp [eqOk] at h
theorem toPL_eqv : ∀ (n m : Nat) (l k : List D), eqOkL n l = true → eqOkL m k = true → PyData.eqvAll (toPL l) (toPL k) = eqDL l k
  | _, _, [], [], _, _ => by simp [toPL, PyData.eqvAll, eqDL]
  | _, _, [], _ :: _, _, _ => by simp [toPL, PyData.eqvAll, eqDL]
  | _, _, _ :: _, [], _, _ => by simp [toPL, PyData.eqvAll, eqDL]
  | n, m, d :: r, e :: s, h1, h2 => by
    simp only [eqOkL, Bool.and_eq_true] at h1 h2
    simp only [toPL, PyData.eqvAll, eqDL]
    rw [toP_eqv n m d e h1.1 h2.1, toPL_eqv n m r s h1.2 h2.2]
end
theorem any_eqv {n m : Nat} {d : D} (h : eqOk n d = true) : ∀ {l : List D}, eqOkL m l = true → ((toPL l).any fun z => PyData.eqv z (toP d)) = l.any fun z => eqD z d
  | [], _ => rfl
  | e :: r, h2 => by
    simp only [eqOkL, Bool.and_eq_true] at h2
    simp only [toPL, List.any_cons]
    rw [toP_eqv m n e d h2.1 h, any_eqv h h2.2]
theorem sca_of {K : PySem.W.Frag} {G : Hp} {x y : V} {d e : D} (f1 : Fz K G x d) (f2 : Fz K G y e) (h : sca d e = true) : scal x y = true ∧ decide (x = y) = eqD d e := by
  cases f1 <;> cases f2 <;> first
    | (simp [sca] at h; done)
    | (refine ⟨rfl, ?_⟩; first | rfl | (simp [eqD]; done) | (rw [Bool.eq_iff_iff]; simp [eqD]))
theorem op_eq_any {X : Cx} (hu : X.A.units + 64 < cLine) (ne : Bool) : ∃ r : R2, OpR X (compareOp (if ne then .NotEq else .Eq)) r ∧ ∀ {G H : Hp} {x y : V} {d1 d2 : D} {b : Bool} {Q : VK}, Same G H → Fz X.K G x d1 → Fz X.K G y d2 → eqTop d1 d2 = some b → Q (.bl (if ne then !b else b)) H → r x y H Q := by
  cases ne with
  | false =>
    refine ⟨_, OpR.or (op_eqD hu) op_eq, fun {G H x y d1 d2 b Q} s f1 f2 e q => ?_⟩
    unfold eqTop at e
    split at e
    · cases e
      rename_i h
      by_cases hs : sca d1 d2 = true
      · obtain ⟨h1, h2⟩ := sca_of f1 f2 hs
        exact .inr ⟨h1, by rw [h2]; exact q⟩
      · have h : eqOk 20 d1 = true ∧ eqOk 20 d2 = true := by simpa [hs] using h
        exact .inl ⟨toP d1, toP d2, f1.dp s 20 h.1, f2.dp s 20 h.2, toP_shaped h.1 (by decide), toP_shaped h.2 (by decide), by rw [toP_eqv 20 20 _ _ h.1 h.2]; exact q⟩
    · cases e
  | true =>
    refine ⟨_, OpR.or (op_neD hu) op_ne, fun {G H x y d1 d2 b Q} s f1 f2 e q => ?_⟩
    unfold eqTop at e
    split at e
    · cases e
      rename_i h
      by_cases hs : sca d1 d2 = true
      · obtain ⟨h1, h2⟩ := sca_of f1 f2 hs
        exact .inr ⟨h1, by rw [h2]; exact q⟩
      · have h : eqOk 20 d1 = true ∧ eqOk 20 d2 = true := by simpa [hs] using h
        exact .inl ⟨toP d1, toP d2, f1.dp s 20 h.1, f2.dp s 20 h.2, toP_shaped h.1 (by decide), toP_shaped h.2 (by decide), by rw [toP_eqv 20 20 _ _ h.1 h.2]; exact q⟩
    · cases e
theorem op_in_any {X : Cx} (hu : X.A.units + 65 < cLine) (ne : Bool) : ∃ r : R2, OpR X (compareOp (if ne then .NotIn else .In)) r ∧ ∀ {G H : Hp} {x y : V} {d1 d2 : D} {b : Bool} {Q : VK}, Same G H → Fz X.K G x d1 → Fz X.K G y d2 → inTop d1 d2 = some b → Q (.bl (if ne then !b else b)) H → r x y H Q := by
  cases ne with
  | false =>
    refine ⟨_, OpR.or (op_inD hu) op_in_str, fun {G H x y d1 d2 b Q} s f1 f2 e q => ?_⟩
    cases f2 with
    | lst hl r =>
      rename_i l
      simp only [inTop] at e
      split at e
      · cases e
        rename_i h
        have h : eqOk 20 d1 = true ∧ eqOkL 20 l = true := by simpa using h
        exact .inl ⟨toP d1, toPL l, f1.dp s 20 h.1, .lst (.inl (.inl (s _ _ hl))) (r.dp s 20 h.2), toP_shaped h.1 (by decide), toPL_shaped h.2 (by decide), by rw [any_eqv h.1 h.2]; exact q⟩
      · cases e
    | str j =>
      cases f1 <;> simp only [inTop, reduceCtorEq, Option.some.injEq] at e
      subst e
      exact .inr ⟨_, _, rfl, rfl, q⟩
    | _ => simp [inTop] at e
  | true =>
    refine ⟨_, OpR.or (op_notInD hu) op_notIn_str, fun {G H x y d1 d2 b Q} s f1 f2 e q => ?_⟩
    cases f2 with
    | lst hl r =>
      rename_i l
      simp only [inTop] at e
      split at e
      · cases e
        rename_i h
        have h : eqOk 20 d1 = true ∧ eqOkL 20 l = true := by simpa using h
        exact .inl ⟨toP d1, toPL l, f1.dp s 20 h.1, .lst (.inl (.inl (s _ _ hl))) (r.dp s 20 h.2), toP_shaped h.1 (by decide), toPL_shaped h.2 (by decide), by rw [any_eqv h.1 h.2]; exact q⟩
      · cases e
    | str j =>
      cases f1 <;> simp only [inTop, reduceCtorEq, Option.some.injEq] at e
      subst e
      exact .inr ⟨_, _, rfl, rfl, q⟩
    | _ => simp [inTop] at e

/-! ### comparisons: as values, as tests -/
variable {c : SC}
/-- the two readings of a comparison -/
theorem cmp_two {X : Cx} {Γ : List Mode} {z : Option (Nat × V × Hp)} {W : WE0} {xa xb : PySem.Expr} {op : CmpOp} {p : Pos} {ma mb : M D} {f : D → D → Option Bool} {r : R2} (hr : OpR X (compareOp op) r)
    (hq : ∀ {G H : Hp} {x y : V} {d1 d2 : D} {b : Bool} {Q : VK}, Same G H → Fz X.K G x d1 → Fz X.K G y d2 → f d1 d2 = some b → Q (.bl b) H → r x y H Q) (hs : nset xb = true)
    (ha : PE X xa (tG X.K X.mg z Γ W (rF X.K) ma)) (hb : PE X xb (tG X.K X.mg z Γ W (rF X.K) mb)) :
    PE X (.Compare xa [op] [xb] p) (tG X.K X.mg z Γ W (rO X.K .all) (M.bind ma fun x => M.bind mb fun y => M.opt ((f x y).map .bl))) ∧
    PT X (.Compare xa [op] [xb] p) (tG X.K X.mg z Γ W rB (M.bind (M.bind ma fun x => M.bind mb fun y => M.opt ((f x y).map D.bl)) fun x => match x with | .bl b => M.ret b | _ => M.bad)) := by
  refine ⟨PE.imp (pe_cmpR hr ha hb (mark_of hs)) fun σ H Q q => ?_, PT.imp (pt_cmpR hr ha hb (mark_of hs)) fun σ H Q q => ?_⟩
  · refine (tG.two q).mono fun x H1 q1 => q1.mono fun y H2 q2 => ?_
    obtain ⟨d1, d2, G, ρ, os, st, f1, f2, g⟩ := q2
    obtain ⟨d, e, g⟩ := g.opt
    obtain ⟨b, e', rfl⟩ := Option.map_eq_some_iff.mp e
    exact hq st.sm f1 f2 e' (GP.ok_A st (.bl b) g)
  · refine (tG.two (tG.fst q)).mono fun x H1 q1 => q1.mono fun y H2 q2 => ?_
    obtain ⟨d1, d2, G, ρ, os, st, f1, f2, g⟩ := q2
    obtain ⟨d, e, g⟩ := g.opt
    obtain ⟨b, e', rfl⟩ := Option.map_eq_some_iff.mp e
    refine hq st.sm f1 f2 e' ?_
    obtain ⟨d', G', ρ', os', st', f', g'⟩ := g.ok_F st (.bl b)
    cases f'
    exact ⟨b, rfl, g'.ok_B st'⟩
theorem op_cmp {X : Cx} {o : COp} {op : CmpOp} (ho : opC o op = true) : ∃ r : R2, OpR X (compareOp op) r ∧ ∀ {G H : Hp} {x y : V} {d1 d2 : D} {b : Bool} {Q : VK}, Same G H → Fz X.K G x d1 → Fz X.K G y d2 → cmpD o d1 d2 = some b → Q (.bl b) H → r x y H Q := by
  cases o <;> cases op <;> first | (exact absurd ho (by decide)) | skip
  · refine ⟨_, op_lt, fun {G H x y d1 d2 d Q} _ f1 f2 e q => ?_⟩
    cases f1 <;> cases f2 <;> simp only [cmpD, reduceCtorEq, Option.some.injEq] at e
    subst e; exact ⟨_, _, rfl, rfl, q⟩
  · refine ⟨_, op_le, fun {G H x y d1 d2 d Q} _ f1 f2 e q => ?_⟩
    cases f1 <;> cases f2 <;> simp only [cmpD, reduceCtorEq, Option.some.injEq] at e
    subst e; exact ⟨_, _, rfl, rfl, q⟩
  · refine ⟨_, op_gt, fun {G H x y d1 d2 d Q} _ f1 f2 e q => ?_⟩
    cases f1 <;> cases f2 <;> simp only [cmpD, reduceCtorEq, Option.some.injEq] at e
    subst e; exact ⟨_, _, rfl, rfl, q⟩
  · refine ⟨_, op_ge, fun {G H x y d1 d2 d Q} _ f1 f2 e q => ?_⟩
    cases f1 <;> cases f2 <;> simp only [cmpD, reduceCtorEq, Option.some.injEq] at e
    subst e; exact ⟨_, _, rfl, rfl, q⟩
/-- a comparison by its parts -/
structure CmpOk (c : SC) (e : IE) : Prop where
  both : ∀ (X : Cx) (Γ : List Mode) (z : Option (Nat × V × Hp)) (W : WE0) (x : PySem.Expr), Cok c X z → okE c X.env.scope Γ e x = true → TkX X W →
    PE X x (tG X.K X.mg z Γ W (rO X.K .all) (runE c.T e)) ∧ PT X x (tG X.K X.mg z Γ W rB (M.bind (runE c.T e) fun x => match x with | .bl b => M.ret b | _ => M.bad))
theorem cmp_ok {o : COp} {a b : IE} (ha : SE c a) (hb : SE c b) : CmpOk c (.cmp o a b) := by
  refine ⟨fun X Γ z W x k ok t => ?_⟩
  cases x <;> try (simp only [okE, Bool.false_eq_true] at ok; done)
  rename_i xa ops xs p
  match ops, xs, ok with
  | [op], [xb], ok =>
    simp only [okE, Bool.and_eq_true] at ok
    obtain ⟨h1, h2, h3, h4⟩ := ok
    obtain ⟨r, hr, hq⟩ := op_cmp (X := X) h1
    exact cmp_two hr hq h4 (ha.F (z := z) k h2 t) (hb.F (z := z) k h3 t)
theorem eq_ok {ne : Bool} {a b : IE} (ha : SE c a) (hb : SE c b) : CmpOk c (.eq ne a b) := by
  refine ⟨fun X Γ z W x k ok t => ?_⟩
  cases x <;> try (simp only [okE, Bool.false_eq_true] at ok; done)
  rename_i xa ops xs p
  match ops, xs, ok with
  | [op], [xb], ok =>
    simp only [okE, Bool.and_eq_true, decide_eq_true_eq] at ok
    obtain ⟨h1, h2, h3, h4⟩ := ok
    subst h1
    obtain ⟨r, hr, hq⟩ := op_eq_any (X := X) (by have := k.hu; omega) ne
    have e : (fun x y => (eqTop x y).map fun r => D.bl (if ne = true then !r else r)) = fun x y => ((eqTop x y).map fun r => if ne = true then !r else r).map D.bl := by
      funext x y; cases eqTop x y <;> rfl
    have e2 : ∀ T, runE T (.eq ne a b) = M.bind (runE T a) fun x => M.bind (runE T b) fun y => M.opt (((eqTop x y).map fun r => if ne = true then !r else r).map D.bl) := fun T => by
      show (M.bind (runE T a) fun x => M.bind (runE T b) fun y => M.opt ((fun x y => (eqTop x y).map fun r => D.bl (if ne = true then !r else r)) x y)) = _
      rw [e]
    rw [e2]
    refine cmp_two (f := fun x y => (eqTop x y).map fun r => if ne = true then !r else r) hr (fun {G H x y d1 d2 b Q} s f1 f2 e q => ?_) h4 (ha.F (z := z) k h2 t) (hb.F (z := z) k h3 t)
    obtain ⟨b', e', rfl⟩ := Option.map_eq_some_iff.mp e
    exact hq s f1 f2 e' q
theorem inn_ok {ne : Bool} {a b : IE} (ha : SE c a) (hb : SE c b) : CmpOk c (.inn ne a b) := by
  refine ⟨fun X Γ z W x k ok t => ?_⟩
  cases x <;> try (simp only [okE, Bool.false_eq_true] at ok; done)
  rename_i xa ops xs p
  match ops, xs, ok with
  | [op], [xb], ok =>
    simp only [okE, Bool.and_eq_true, decide_eq_true_eq] at ok
    obtain ⟨h1, h2, h3, h4⟩ := ok
    subst h1
    obtain ⟨r, hr, hq⟩ := op_in_any (X := X) (by have := k.hu; omega) ne
    have e2 : ∀ T, runE T (.inn ne a b) = M.bind (runE T a) fun x => M.bind (runE T b) fun y => M.opt (((inTop x y).map fun r => if ne = true then !r else r).map D.bl) := fun T => by
      show (M.bind (runE T a) fun x => M.bind (runE T b) fun y => M.opt ((inTop x y).map fun r => D.bl (if ne = true then !r else r))) = _
      have e : ∀ x y, ((inTop x y).map fun r => D.bl (if ne = true then !r else r)) = ((inTop x y).map fun r => if ne = true then !r else r).map D.bl := fun x y => by cases inTop x y <;> rfl
      simp only [e]
    rw [e2]
    refine cmp_two (f := fun x y => (inTop x y).map fun r => if ne = true then !r else r) hr (fun {G H x y d1 d2 b Q} s f1 f2 e q => ?_) h4 (ha.F (z := z) k h2 t) (hb.F (z := z) k h3 t)
    obtain ⟨b', e', rfl⟩ := Option.map_eq_some_iff.mp e
    exact hq s f1 f2 e' q
theorem isN_ok {ne : Bool} {a : IE} (ha : SE c a) : CmpOk c (.isN ne a) := by
  refine ⟨fun X Γ z W x k ok t => ?_⟩
  cases x <;> try (simp only [okE, Bool.false_eq_true] at ok; done)
  rename_i xa ops xs p
  match ops, xs, ok with
  | [op], [.Constant .none j p'], ok =>
    simp only [okE, Bool.and_eq_true, decide_eq_true_eq] at ok
    obtain ⟨h1, h2⟩ := ok
    subst h1
    have key : ∀ {G H : Hp} {x : V} {d : D} , Fz X.K G x d → (match d with | .non => !ne | _ => ne) = (if ne then !decide (x = V.non) else decide (x = V.non)) := fun {G H x d} f => by
      cases f <;> cases ne <;> simp
    have pn : PE X (.Constant .none j p') (tC .non) := pe_non
    have fin : ∀ {Q : VK} {H : Hp} {d1 : D} {x : V} {G : Hp} {ρ : Slots} {os : List Addr} {σ : L2.St}, Stt X.K z Γ G H σ ρ os → Fz X.K G x d1 → GP X.K X.mg z Γ W (rO X.K .all) (M.ret (D.bl (match d1 with | .non => !ne | _ => ne)) ρ) G H os σ Q → Q (V.bl (if ne then !decide (x = V.non) else decide (x = V.non))) H := fun {Q H d1 x G ρ os σ} st f g => by
      rw [key (G := G) (H := H) f] at g
      exact GP.ok_A st (.bl _) g
    cases ne with
    | false =>
      refine ⟨PE.imp (pe_cmpR op_isN (ha.F (z := z) k h2 t) pn rfl) fun σ H Q q => ?_, PT.imp (pt_cmpR op_isN (ha.F (z := z) k h2 t) pn rfl) fun σ H Q q => ?_⟩
      · refine (tG.fst q).mono fun x H1 q1 => ?_
        obtain ⟨d1, G, ρ, os, st, f1, g⟩ := q1
        exact ⟨rfl, fin st f1 g⟩
      · refine (tG.fst (tG.fst q)).mono fun x H1 q1 => ?_
        obtain ⟨d1, G, ρ, os, st, f1, g⟩ := q1
        refine ⟨rfl, ?_⟩
        obtain ⟨d', G', ρ', os', st', f', g'⟩ := fin st f1 g.freeze
        cases f'
        exact ⟨_, rfl, g'.ok_B st'⟩
    | true =>
      refine ⟨PE.imp (pe_cmpR op_notN (ha.F (z := z) k h2 t) pn rfl) fun σ H Q q => ?_, PT.imp (pt_cmpR op_notN (ha.F (z := z) k h2 t) pn rfl) fun σ H Q q => ?_⟩
      · refine (tG.fst q).mono fun x H1 q1 => ?_
        obtain ⟨d1, G, ρ, os, st, f1, g⟩ := q1
        exact ⟨rfl, fin st f1 g⟩
      · refine (tG.fst (tG.fst q)).mono fun x H1 q1 => ?_
        obtain ⟨d1, G, ρ, os, st, f1, g⟩ := q1
        refine ⟨rfl, ?_⟩
        obtain ⟨d', G', ρ', os', st', f', g'⟩ := fin st f1 g.freeze
        cases f'
        exact ⟨_, rfl, g'.ok_B st'⟩
end OS
namespace OS
open PySem PySem.Spec PyProof.Rows L2
variable {c : SC}

/-! ### chains -/
def SCh (c : SC) (l : IE) : Prop := ∀ (X : Cx) (Γ : List Mode) (z : Option (Nat × V × Hp)) (W : WE0) (ops : List CmpOp) (xs : List PySem.Expr), Cok c X z → okC c X.env.scope Γ l ops xs = true → TkX X W →
  (∃ op ops' x xs', ops = op :: ops' ∧ xs = x :: xs') ∧ lastMarks ops xs = false ∧
  ∀ (pos : Pos) (pins : List (Addr × Obj)) (s : Shared) (σ : L2.St) (H : Hp) (x : V) (u : Value) (Q : Bool → Hp → Prop), Inv X pins σ H s → RelV x u →
    (∃ d G ρ os, Stt X.K z Γ G H σ ρ os ∧ Fz X.K G x d ∧ GP X.K X.mg z Γ W rB (runC c.T l d ρ) G H os σ Q) →
    wpAny (model X.prog X.w) X.A (compareChain pos u ops (evalEach xs X.env)) (EP X pins σ (fun v H' => ∃ b, v = .bl b ∧ Q b H')) X.xe s ∧
    wpAny (model X.prog X.w) X.A (testChain pos u ops (evalEach xs X.env)) (TP X pins σ Q) X.xe s
theorem sch_last {o : COp} {b : IE} (hb : SE c b) : SCh c (.lnkE o b) := by
  intro X Γ z W ops xs k ok t
  match ops, xs, ok with
  | [op], [x], ok =>
    simp only [okC, Bool.and_eq_true] at ok
    obtain ⟨h1, h2, h3⟩ := ok
    obtain ⟨r, hr, hq⟩ := op_cmp (X := X) h1
    refine ⟨⟨_, _, _, _, rfl, rfl⟩, mark_of h3, fun pos pins s σ H xv u Q I rx hd => ?_⟩
    obtain ⟨d, G, ρ, os, st, f, g⟩ := hd
    have g : GP X.K X.mg z Γ W rB (M.bind (runE c.T b) (fun y => M.opt (cmpD o d y)) ρ) G H os σ Q := g
    have hb' := hb.F (z := z) k h2 t
    have step := g.bind (rF_z (K := X.K))
    have q : tG X.K X.mg z Γ W (rF X.K) (runE c.T b) σ H fun y H2 => r xv y H2 fun v H' => ∃ b, v = .bl b ∧ Q b H' := by
      refine ⟨G, ρ, os, st, step.mono fun _ H2 _ y _ _ _ _ _ _ _ _ _ q2 => ?_⟩
      obtain ⟨d2, G2, ρ2, os2, st2, ⟨f2, _⟩, sm, g2⟩ := q2
      obtain ⟨bb, e, g2⟩ := g2.opt
      exact hq st2.sm (f.mono sm) f2 e ⟨bb, rfl, g2.ok_B st2⟩
    refine ⟨chain_last (thn (hb'.run pins s σ H _ I q) fun w' s4 ⟨z', H4, I4, r4, q4⟩ => hr pins s4 σ H4 xv z' u w' _ I4 rx r4 q4),
      test_last (thn (hb'.run pins s σ H _ I q) fun w' s4 ⟨z', H4, I4, r4, q4⟩ => thn (hr pins s4 σ H4 xv z' u w' _ I4 rx r4 q4) fun v s5 ⟨x5, H5, I5, r5, b5, e5, q5⟩ => ?_)⟩
    subst e5
    cases r5
    exact wpAny_truthy_bool ⟨H5, I5, q5⟩
theorem sch_link {o : COp} {b l : IE} (hb : SE c b) (hl : SCh c l) : SCh c (.lnk o b l) := by
  intro X Γ z W ops xs k ok t
  match ops, xs, ok with
  | op :: ops, x :: xs, ok =>
    simp only [okC, Bool.and_eq_true] at ok
    obtain ⟨h1, h2, h3⟩ := ok
    obtain ⟨r, hr, hq⟩ := op_cmp (X := X) h1
    obtain ⟨⟨op', ops', x', xs', e1, e2⟩, hm, rest⟩ := hl X Γ z W ops xs k h3 t
    subst e1 e2
    refine ⟨⟨_, _, _, _, rfl, rfl⟩, hm, fun pos pins s σ H xv u Q I rx hd => ?_⟩
    obtain ⟨d, G, ρ, os, st, f, g⟩ := hd
    have g : GP X.K X.mg z Γ W rB (M.bind (runE c.T b) (fun y => M.bind (M.opt (cmpD o d y)) fun r => if r then runC c.T l y else M.ret false) ρ) G H os σ Q := g
    have hb' := hb.F (z := z) k h2 t
    have q : tG X.K X.mg z Γ W (rF X.K) (runE c.T b) σ H fun y H2 => r xv y H2 fun v H' => ∃ b, v = .bl b ∧ (if b then ∃ d G ρ os, Stt X.K z Γ G H' σ ρ os ∧ Fz X.K G y d ∧ GP X.K X.mg z Γ W rB (runC c.T l d ρ) G H' os σ Q else Q false H') := by
      refine ⟨G, ρ, os, st, (g.bind (rF_z (K := X.K))).mono fun _ H2 _ y _ _ _ _ _ _ _ _ _ q2 => ?_⟩
      obtain ⟨d2, G2, ρ2, os2, st2, ⟨f2, _⟩, sm, g2⟩ := q2
      have g2 : GP X.K X.mg z Γ W rB (M.bind (M.opt (cmpD o d d2)) (fun r => if r then runC c.T l d2 else M.ret false) ρ2) G2 H2 os2 σ Q := g2
      cases ec : cmpD o d d2 with
      | none => rw [ec] at g2; exact (show False from g2).elim
      | some bb =>
        rw [ec] at g2
        refine hq st2.sm (f.mono sm) f2 ec ⟨bb, rfl, ?_⟩
        cases bb with
        | true => exact ⟨d2, G2, ρ2, os2, st2, f2, g2⟩
        | false => exact GP.ok_B (W := W) st2 g2
    refine ⟨chain_link (thn (hb'.run pins s σ H _ I q) fun w' s4 ⟨z', H4, I4, r4, q4⟩ => thn (hr pins s4 σ H4 xv z' u w' _ I4 rx r4 q4) fun v s5 ⟨x5, H5, I5, r5, b5, e5, q5⟩ => ?_),
      test_link (thn (hb'.run pins s σ H _ I q) fun w' s4 ⟨z', H4, I4, r4, q4⟩ => thn (hr pins s4 σ H4 xv z' u w' _ I4 rx r4 q4) fun v s5 ⟨x5, H5, I5, r5, b5, e5, q5⟩ => ?_)⟩
    · subst e5
      cases r5
      refine wpAny_truthy_bool ?_
      cases b5 with
      | true =>
        rw [if_pos rfl] at q5 ⊢
        exact (rest pos pins s5 σ H5 z' w' Q I5 r4 q5).1
      | false =>
        rw [if_neg Bool.false_ne_true] at q5 ⊢
        exact ⟨.bl false, H5, I5, rfl, false, rfl, q5⟩
    · subst e5
      cases r5
      refine wpAny_truthy_bool ?_
      cases b5 with
      | true =>
        rw [if_pos rfl] at q5 ⊢
        exact (rest pos pins s5 σ H5 z' w' Q I5 r4 q5).2
      | false =>
        rw [if_neg Bool.false_ne_true] at q5 ⊢
        exact ⟨H5, I5, q5⟩
theorem chn_ok {a l : IE} (ha : SE c a) (hl : SCh c l) : CmpOk c (.chn a l) := by
  refine ⟨fun X Γ z W x k ok t => ?_⟩
  cases x <;> try (simp only [okE, Bool.false_eq_true] at ok; done)
  rename_i xa ops xs p
  simp only [okE, Bool.and_eq_true, decide_eq_true_eq] at ok
  obtain ⟨h1, h2, h3⟩ := ok
  obtain ⟨⟨op, ops', x, xs', e1, e2⟩, hm, rest⟩ := hl X Γ z W ops xs k h2 t
  subst e1 e2
  obtain ⟨op2, ops, rfl⟩ : ∃ o r, ops' = o :: r := by
    cases ops' with
    | nil => simp at h3
    | cons o r => exact ⟨o, r, rfl⟩
  cases xs' with
  | nil => cases l <;> simp [okC] at h2
  | cons x2 xs =>
    have ha' := ha.F (z := z) k h1 t
    refine ⟨⟨fun pins s σ H Q I q => ?_⟩, ⟨fun pins s σ H Q I q => ?_⟩⟩
    · refine Compare_chain (thn (ha'.run pins s σ H _ I (tG.fst q)) fun v s1 ⟨y, H1, I1, r1, d1, G, ρ, os, st, f1, g⟩ => ?_) hm
      have g : GP X.K X.mg z Γ W (rO X.K .all) (M.bind (runC c.T l d1) (fun r => M.ret (.bl r)) ρ) G H1 os σ Q := g
      have g2 : GP X.K X.mg z Γ W rB (runC c.T l d1 ρ) G H1 os σ (fun b H' => Q (.bl b) H') := by
        refine (g.bind rB_z).mono fun _ H2 _ y _ _ _ _ _ _ _ _ _ q2 => ?_
        obtain ⟨d2, G2, ρ2, os2, st2, ⟨rfl, _⟩, sm, g3⟩ := q2
        exact GP.ok_A st2 (.bl _) g3
      refine thn (rest p pins s1 σ H1 y v _ I1 r1 ⟨d1, G, ρ, os, st, f1, g2⟩).1 fun v2 s2 ⟨y2, H2, I2, r2, b2, e2, q2⟩ => ?_
      subst e2
      exact ⟨_, H2, I2, r2, q2⟩
    · refine isTrue_chain (thn (ha'.run pins s σ H _ I (tG.fst (tG.fst q))) fun v s1 ⟨y, H1, I1, r1, d1, G, ρ, os, st, f1, g⟩ => ?_) hm
      have g : GP X.K X.mg z Γ W (rF X.K) (M.bind (runC c.T l d1) (fun r => M.ret (.bl r)) ρ) G H1 os σ _ := g
      have g2 : GP X.K X.mg z Γ W rB (runC c.T l d1 ρ) G H1 os σ Q := by
        refine (g.bind rB_z).mono fun _ H2 _ y _ _ _ _ _ _ _ _ _ q2 => ?_
        obtain ⟨d2, G2, ρ2, os2, st2, ⟨rfl, _⟩, sm, g3⟩ := q2
        obtain ⟨d', G', ρ', os', st', f', g'⟩ := g3.ok_F st2 (.bl _)
        cases f'
        exact g'.ok_B st'
      exact (rest p pins s1 σ H1 y v Q I1 r1 ⟨d1, G, ρ, os, st, f1, g2⟩).2

/-! ### and, or, not, .. if .. else -/
theorem CmpOk.se {e : IE} (h : CmpOk c e) (m : modeE c.T e = .all) : SE c e := fun X Γ z W x k ok t => by
  rw [m]; exact (h.both X Γ z W x k ok t).1
theorem se_and {a b : IE} (ha : SE c a) (hb : SE c b) : SE c (.and a b) := by
  intro X Γ z W x k ok t
  cases x <;> try (simp only [okE, Bool.false_eq_true] at ok; done)
  rename_i op xs p
  match op, xs, ok with
  | .And, xa :: xb :: xr, ok =>
    simp only [okE, Bool.and_eq_true] at ok
    refine PE.imp (pe_and (ha.F (z := z) k ok.1 t) (hb.F (z := z) k ok.2 t)) fun σ H Q q => ?_
    refine (tG.fst q).mono fun x H1 q1 => ?_
    obtain ⟨d1, G, ρ, os, st, f1, g⟩ := q1
    cases f1 with
    | bl b =>
      cases b with
      | true => exact ⟨true, rfl, G, ρ, os, st, g⟩
      | false => exact ⟨false, rfl, g.ok_F st (.bl _)⟩
    | _ => exact (show False from g).elim
theorem se_or {a b : IE} (ha : SE c a) (hb : SE c b) : SE c (.or a b) := by
  intro X Γ z W x k ok t
  cases x <;> try (simp only [okE, Bool.false_eq_true] at ok; done)
  rename_i op xs p
  match op, xs, ok with
  | .Or, xa :: xb :: xr, ok =>
    simp only [okE, Bool.and_eq_true] at ok
    refine PE.imp (pe_or (ha.F (z := z) k ok.1 t) (hb.F (z := z) k ok.2 t)) fun σ H Q q => ?_
    refine (tG.fst q).mono fun x H1 q1 => ?_
    obtain ⟨d1, G, ρ, os, st, f1, g⟩ := q1
    cases f1 with
    | bl b =>
      cases b with
      | true => exact ⟨true, rfl, g.ok_F st (.bl _)⟩
      | false => exact ⟨false, rfl, G, ρ, os, st, g⟩
    | _ => exact (show False from g).elim
theorem se_one {a : IE} (ha : SE c a) : SE c (.one a) := by
  intro X Γ z W x k ok t
  cases x <;> try (simp only [okE, Bool.false_eq_true] at ok; done)
  rename_i op xs p
  match xs, ok with
  | [x], ok =>
    simp only [okE] at ok
    exact pe_one (ha X Γ z W x k ok t)
theorem st_and {a b : IE} (ha : ST c a) (hb : ST c b) : ST c (.and a b) := by
  intro X Γ z W x k ok t
  cases x <;> try (simp only [okT, Bool.false_eq_true] at ok; done)
  rename_i op xs p
  match op, xs, ok with
  | .And, xa :: xb :: xr, ok =>
    simp only [okT, Bool.and_eq_true] at ok
    have h1 := ha X Γ z W xa k ok.1 t
    have h2 := hb X Γ z W _ k ok.2 t
    refine ⟨fun pins s σ H Q I q => ?_⟩
    refine isTrue_and (thn (h1.run pins s σ H _ I (tG.bind rB_z q)) fun b s1 ⟨H1, I1, d1, G, ρ, os, st, ⟨e, _⟩, g⟩ => ?_)
    subst e
    cases b with
    | true => exact h2.run pins s1 σ H1 Q I1 ⟨G, ρ, os, st, g⟩
    | false => exact ⟨H1, I1, GP.ok_B (W := W) st g⟩
theorem st_or {a b : IE} (ha : ST c a) (hb : ST c b) : ST c (.or a b) := by
  intro X Γ z W x k ok t
  cases x <;> try (simp only [okT, Bool.false_eq_true] at ok; done)
  rename_i op xs p
  match op, xs, ok with
  | .Or, xa :: xb :: xr, ok =>
    simp only [okT, Bool.and_eq_true] at ok
    have h1 := ha X Γ z W xa k ok.1 t
    have h2 := hb X Γ z W _ k ok.2 t
    refine ⟨fun pins s σ H Q I q => ?_⟩
    refine isTrue_or (thn (h1.run pins s σ H _ I (tG.bind rB_z q)) fun b s1 ⟨H1, I1, d1, G, ρ, os, st, ⟨e, _⟩, g⟩ => ?_)
    subst e
    cases b with
    | true => exact ⟨H1, I1, GP.ok_B (W := W) st g⟩
    | false => exact h2.run pins s1 σ H1 Q I1 ⟨G, ρ, os, st, g⟩
theorem st_one {a : IE} (ha : ST c a) : ST c (.one a) := by
  intro X Γ z W x k ok t
  cases x <;> try (simp only [okT, Bool.false_eq_true] at ok; done)
  rename_i op xs p
  match xs, ok with
  | [x], ok =>
    simp only [okT] at ok
    have h1 := ha X Γ z W x k ok t
    cases op with
    | And => exact PT.imp (pw_and1 h1).pt fun σ H Q q => q
    | Or => exact PT.imp (pw_or1 h1).pt fun σ H Q q => q
theorem st_not {a : IE} (ha : ST c a) : ST c (.not a) := by
  intro X Γ z W x k ok t
  cases x <;> try (simp only [okT, Bool.false_eq_true] at ok; done)
  rename_i op xa p
  match op, ok with
  | .Not, ok =>
    simp only [okT] at ok
    refine PT.imp (pt_not (ha X Γ z W xa k ok t)) fun σ H Q q => ?_
    refine (tG.bind rB_z q).mono fun b H1 q1 => ?_
    obtain ⟨d1, G, ρ, os, st, ⟨e, _⟩, g⟩ := q1
    subst e
    exact GP.ok_B (W := W) st g
theorem st_tst {a : IE} (ha : isCmp a = true → CmpOk c a) : ST c (.tst a) := by
  intro X Γ z W x k ok t
  cases x <;> try (simp only [okT, Bool.false_eq_true] at ok; done)
  simp only [okT, Bool.and_eq_true] at ok
  exact ((ha ok.1).both X Γ z W _ k ok.2 t).2
theorem truD_ok {K : PySem.W.Frag} {G H : Hp} (s : Same G H) {v : V} {d : D} {b : Bool} (f : Fz K G v d) (e : truD d = some b) : TruV K v H b := by
  cases f with
  | non => simp only [truD, Option.some.injEq] at e; exact e.symm
  | bl _ => simp only [truD, Option.some.injEq] at e; exact e.symm
  | int _ => simp only [truD, Option.some.injEq] at e; exact e.symm
  | str x =>
    simp only [truD] at e
    split at e
    · cases e; rename_i h; exact ⟨h, rfl⟩
    · cases e
  | tup h r =>
    simp only [truD, Option.some.injEq] at e
    refine .inr (.inl ⟨_, Same.sqT s h, ?_⟩)
    rw [← e]
    cases r <;> rfl
  | lst h r =>
    simp only [truD, Option.some.injEq] at e
    refine .inl ⟨_, .inl (.inl (s _ _ h)), ?_⟩
    rw [← e]
    cases r <;> rfl
  | scr _ => simp [truD] at e
theorem st_tru {a : IE} (ha : SE c a) : ST c (.tru a) := by
  intro X Γ z W x k ok t
  have ok : (ntest x && okE c X.env.scope Γ a x) = true := ok
  simp only [Bool.and_eq_true] at ok
  refine PT.imp (pt_truth (ha.F (z := z) k ok.2 t) (isTrue_of ok.1)) fun σ H Q q => ?_
  refine (tG.fst q).mono fun b H1 q1 => ?_
  obtain ⟨d1, G, ρ, os, st, f, g⟩ := q1
  obtain ⟨b, e, g⟩ := g.opt
  exact ⟨b, truD_ok st.sm f e, g.ok_B st⟩
theorem se_not {a : IE} (ha : SE c a) : SE c (.not a) := by
  intro X Γ z W x k ok t
  cases x <;> try (simp only [okE, Bool.false_eq_true] at ok; done)
  rename_i op xa p
  match op, ok with
  | .Not, ok =>
    simp only [okE] at ok
    refine PE.imp (pe_notT (ha.F (z := z) k ok t)) fun σ H Q q => ?_
    refine (tG.fst q).mono fun x H1 q1 => ?_
    obtain ⟨d1, G, ρ, os, st, f, g⟩ := q1
    obtain ⟨d, e, g⟩ := g.opt
    obtain ⟨b, e', rfl⟩ := Option.map_eq_some_iff.mp e
    exact ⟨b, truD_ok st.sm f e', GP.ok_A st (.bl _) g⟩
theorem se_ife {t a b : IE} (ht : ST c t) (ha : SE c a) (hb : SE c b) : SE c (.ife t a b) := by
  intro X Γ z W x k ok tk
  cases x <;> try (simp only [okE, Bool.false_eq_true] at ok; done)
  rename_i xt xa xb p
  simp only [okE, Bool.and_eq_true] at ok
  obtain ⟨h1, h2, h3⟩ := ok
  have gen : ∀ m, (m = .no ∨ (modeE c.T a = m ∧ modeE c.T b = m)) → PE X (.IfExp xt xa xb p) (tG X.K X.mg z Γ W (rO X.K m) (runE c.T (.ife t a b))) := by
    intro m hm
    have pa : PE X xa (tG X.K X.mg z Γ W (rO X.K m) (runE c.T a)) := by
      rcases hm with rfl | ⟨e, _⟩
      · exact ha.F (z := z) k h2 tk
      · rw [← e]; exact ha X Γ z W xa k h2 tk
    have pb : PE X xb (tG X.K X.mg z Γ W (rO X.K m) (runE c.T b)) := by
      rcases hm with rfl | ⟨_, e⟩
      · exact hb.F (z := z) k h3 tk
      · rw [← e]; exact hb X Γ z W xb k h3 tk
    refine PE.imp (pe_ifExp (ht X Γ z W xt k h1 tk) pa pb) fun σ H Q q => ?_
    refine (tG.bind rB_z q).mono fun b H1 q1 => ?_
    obtain ⟨d1, G, ρ, os, st, ⟨e, _⟩, g⟩ := q1
    subst e
    cases b with
    | true => exact ⟨G, ρ, os, st, g⟩
    | false => exact ⟨G, ρ, os, st, g⟩
  show PE X _ (tG X.K X.mg z Γ W (rO X.K (if modeE c.T a = modeE c.T b then modeE c.T a else .no)) _)
  by_cases e : modeE c.T a = modeE c.T b
  · rw [if_pos e]; exact gen _ (.inr ⟨rfl, e.symm⟩)
  · rw [if_neg e]; exact gen _ (.inl rfl)

/-! ### lists of expressions -/
theorem sl_nil : SL c .nil := by
  intro X Γ z W x k ok t
  cases x with
  | cons _ _ => simp [okL] at ok
  | nil =>
    refine PA.imp pa_nil fun σ H Q q => ?_
    obtain ⟨G, ρ, os, st, h⟩ := q
    exact GP.ok_L (W := W) (ds := []) st .nil h
theorem sl_cons {a r : IE} (ha : SE c a) (hr : SL c r) : SL c (.cons a r) := by
  intro X Γ z W x k ok t
  cases x with
  | nil => simp [okL] at ok
  | cons x xs =>
    simp only [okL, Bool.and_eq_true] at ok
    refine PA.imp (pa_cons (ha.F (z := z) k ok.1 t) (hr X Γ z W xs k ok.2.2 t) (star_of ok.2.1)) fun σ H Q q => ?_
    refine (tG.fst q).mono fun v H1 q1 => ?_
    obtain ⟨d1, G, ρ, os, st, f, g⟩ := q1
    refine ⟨G, ρ, os, st, (GP.bind rL_z g).mono fun _ H2 _ y _ _ _ _ _ _ _ _ _ q2 => ?_⟩
    obtain ⟨d2, G2, ρ2, os2, st2, ⟨f2, _⟩, sm, g2⟩ := q2
    exact GP.ok_L (W := W) st2 (.cons (f.mono sm) f2) g2
end OS
namespace OS
open PySem PySem.Spec PyProof.Rows L2
variable {c : SC}

/-! ### subscripts -/
theorem FzL.atI {K : PySem.W.Frag} {G : Hp} {vs : List V} {ds : List D} {i : Int} {d : D} (h : FzL K G vs ds) (e : L2.atI ds i = some d) : ∃ v, L2.atI vs i = some v ∧ Fz K G v d := by
  unfold L2.atI at e ⊢
  rw [h.length]
  cases q : ixN ds.length i with
  | none => rw [q] at e; cases e
  | some j =>
    rw [q] at e
    exact h.get (i := j) e
theorem idx_ok {K : PySem.W.Frag} {G H : Hp} (s : Same G H) {x y : V} {d1 d2 d : D} {Q : VK} (f1 : Fz K G x d1) (f2 : Fz K G y d2) (e : idxD d1 d2 = some d) (q : ∀ v, Fz K G v d → Q v H) : L2.rIx K x y H Q := by
  cases f1 with
  | tup h r =>
    cases f2 <;> simp only [idxD, reduceCtorEq] at e
    obtain ⟨v, e', f⟩ := r.atI e
    exact .inr (.inl ⟨_, _, _, v, rfl, rfl, Same.sqT s h, e', q v f⟩)
  | lst h r =>
    cases f2 <;> simp only [idxD, reduceCtorEq] at e
    obtain ⟨v, e', f⟩ := r.atI e
    exact .inl ⟨_, _, _, v, rfl, rfl, .inl (.inl (s _ _ h)), e', q v f⟩
  | str x =>
    cases f2 <;> simp only [idxD, reduceCtorEq] at e
    split at e
    · rename_i hz
      obtain ⟨ch, e', rfl⟩ := Option.map_eq_some_iff.mp e
      exact .inr (.inr ⟨_, _, ch, rfl, rfl, hz, e', q _ (.str _)⟩)
    · cases e
  | _ => cases f2 <;> simp [idxD] at e
theorem se_idx {a b : IE} (ha : SE c a) (hb : SE c b) : SE c (.idx a b) := by
  intro X Γ z W x k ok t
  cases x <;> try (simp only [okE, Bool.false_eq_true] at ok; done)
  rename_i xa xb p
  simp only [okE, Bool.and_eq_true] at ok
  obtain ⟨h1, h2, h3⟩ := ok
  refine PE.imp (pe_ix ix_seq (ha.F (z := z) k h1 t) (hb.F (z := z) k h2 t) (slice_of h3)) fun σ H Q q => ?_
  refine (tG.two q).mono fun x H1 q1 => q1.mono fun y H2 q2 => ?_
  obtain ⟨d1, d2, G, ρ, os, st, f1, f2, g⟩ := q2
  obtain ⟨d, e, g⟩ := g.opt
  exact idx_ok st.sm f1 f2 e fun v f => GP.ok_F st f g
theorem Stt.top {K : PySem.W.Frag} {z : Option (Nat × V × Hp)} {Γ : List Mode} {G H : Hp} {σ : L2.St} {ρ : Slots} {os : List Addr} {i : Nat} {d : D} (st : Stt K z Γ G H σ ρ os) (e : gS ρ i = some d) (m : gM Γ i = .top) :
    ∃ a vs ds, σ[i]? = some (some (.ref a)) ∧ d = .lst ds ∧ H a = some (.lst vs) ∧ FzL K G vs ds ∧ a ∈ os ∧ Own K G H .top (.ref a) d [a] ∧
      ∀ {G' H' : Hp} {d' : D}, Own K G' H' .top (.ref a) d' [a] → Fr G H G' H' [a] → Stt K z Γ G' H' σ (sS ρ i (some d')) os ∧ Fr G H G' H' os := by
  obtain ⟨v, o1, o, o2, h1, h2, h3, h4, h5⟩ := st.sl.take e
  rw [m] at h2
  obtain ⟨a, vs, ds, rfl, rfl, ha, ga, f, rfl⟩ := id h2
  have nd : (o1 ++ [a] ++ o2).Nodup := h3 ▸ st.nd
  have na : a ∉ o1 ++ o2 := by
    rw [List.append_assoc, List.nodup_append] at nd
    obtain ⟨n1, n2, n3⟩ := nd
    rw [List.nodup_append] at n2
    intro q
    rcases List.mem_append.mp q with q | q
    · exact n3 a q a (by simp) rfl
    · exact n2.2.2 a (by simp) a q rfl
  have setσ : σ.set i (some (.ref a)) = σ := by
    apply List.ext_getElem?
    intro j
    by_cases hj : i = j
    · subst hj
      have hl := (List.getElem?_eq_some_iff.mp h1).1
      rw [List.getElem?_set_self hl, h1]
    · rw [List.getElem?_set_ne hj]
  have setM : ∀ {Γ : List Mode} {i : Nat}, sM Γ i (gM Γ i) = Γ := by
    intro Γ
    induction Γ with
    | nil => intro i; rfl
    | cons m r ih => intro i; cases i with
      | zero => rfl
      | succ i => simp [sM, gM, ih]
  have inOs : a ∈ os := by rw [h3]; simp
  refine ⟨a, vs, ds, h1, rfl, ha, f, inOs, h2, fun {G' H' d'} hw fr => ?_⟩
  have fr' : Fr G H G' H' os := ⟨fr.g, fr.s, fun p u hu n => fr.k p u hu fun q => n (by rw [List.mem_singleton.mp q]; exact inOs)⟩
  have sl := h5 (m' := .top) fr (fun p q hp => na (by rw [List.mem_singleton.mp hp] at q; exact q)) hw
  rw [setσ, ← m, setM, ← h3] at sl
  exact ⟨⟨sl, st.nd, fr.s, st.zt, st.z, fun i v B e => (st.zb i v B e).trans fr.g⟩, fr'⟩
/-- a store to an owned list -/
theorem Stt.store {K : PySem.W.Frag} {z : Option (Nat × V × Hp)} {Γ : List Mode} {G H : Hp} {σ : L2.St} {ρ : Slots} {os : List Addr} {i : Nat} {d : D} (st : Stt K z Γ G H σ ρ os) (e : gS ρ i = some d) (m : gM Γ i = .top) :
    ∃ a vs ds, σ[i]? = some (some (.ref a)) ∧ d = .lst ds ∧ H a = some (.lst vs) ∧ FzL K G vs ds ∧
      ∀ {vs' : List V} {ds' : List D}, FzL K G vs' ds' → Stt K z Γ G (upd H a (.lst vs')) σ (sS ρ i (some (.lst ds'))) os ∧ Fr G H G (upd H a (.lst vs')) os := by
  obtain ⟨a, vs, ds, h1, h2, h3, h4, _, hw, h5⟩ := st.top e m
  refine ⟨a, vs, ds, h1, h2, h3, h4, fun {vs' ds'} f => ?_⟩
  subst h2
  obtain ⟨_, _, _, e1, e2, _, ga, _, _⟩ := hw
  cases e1
  have sH : Same G (upd H a (.lst vs')) := fun p o q => by
    have n : p ≠ a := fun w => by rw [w, ga] at q; cases q
    rw [upd_ne n]; exact st.sm p o q
  exact h5 ⟨a, vs', ds', rfl, rfl, upd_same, ga, f, rfl⟩ ⟨Same.refl G, sH, fun p o q n => ⟨by rw [upd_ne (fun w => n (by simp [w]))]; exact q, rfl⟩⟩
theorem GP.has {α β : Type} {K : PySem.W.Frag} {mg : Str → Option Value} {z : Option (Nat × V × Hp)} {Γ : List Mode} {W : WE0} {rel : Rel β α} {G H : Hp} {os : List Addr} {σ : L2.St} {ρ : Slots} {Q : β → Hp → Prop} {i : Nat} {m : M α} (h : GP K mg z Γ W rel (M.has i m ρ) G H os σ Q) :
    ∃ d, gS ρ i = some d ∧ GP K mg z Γ W rel (m ρ) G H os σ Q := by
  unfold M.has at h
  cases e : gS ρ i with
  | none => rw [e] at h; exact h.elim
  | some d => rw [e] at h; exact ⟨d, rfl, h⟩
theorem se_idxO {i : Nat} {b : IE} (hb : SE c b) : SE c (.idxO i b) := by
  intro X Γ z W x k ok t
  cases x <;> try (simp only [okE, Bool.false_eq_true] at ok; done)
  rename_i xa xb p
  cases xa <;> try (simp only [okE, Bool.false_eq_true] at ok; done)
  rename_i x px
  simp only [okE, Bool.and_eq_true, decide_eq_true_eq] at ok
  obtain ⟨h1, h2, h3, h4, h5, h6, h7⟩ := ok
  refine PE.imp (pe_ix ix_list (pe_var (i := i) (by rw [k.N]; exact h1) (vis_of h2) (dbg_of h4) (dbg_of h5)) (hb.F (z := z) k h6 t) (slice_of h7)) fun σ H Q q => ?_
  obtain ⟨G, ρ, os, st, h⟩ := q
  obtain ⟨d, e, h⟩ := GP.has (m := M.bind (runE c.T b) fun y ρ => match gS ρ i with | some d => M.opt (idxD d y) ρ | none => .bad) h
  obtain ⟨a, _, _, e1, _⟩ := st.top e h3
  refine ⟨_, e1, G, ρ, os, st, (GP.bind (rF_z (K := X.K)) h).mono fun _ H2 _ y _ _ _ _ _ _ _ _ _ q2 => ?_⟩
  obtain ⟨d2, G2, ρ2, os2, st2, ⟨f2, _⟩, sm, g2⟩ := q2
  cases e2 : gS ρ2 i with
  | none => simp only [e2] at g2; exact (show False from g2).elim
  | some d' =>
    simp only [e2] at g2
    obtain ⟨r, e3, g3⟩ := g2.opt
    obtain ⟨a', vs, ds, e1', rfl, ha, fl, _⟩ := st2.store e2 h3
    rw [e1] at e1'
    cases e1'
    cases f2 <;> simp only [idxD, reduceCtorEq] at e3
    obtain ⟨v, e4, f⟩ := fl.atI e3
    exact ⟨_, _, _, v, rfl, rfl, .inl (.inl ha), e4, GP.ok_F st2 f g3⟩
theorem se_lenO {i : Nat} : SE c (.lenO i) := by
  intro X Γ z W x k ok t
  cases x <;> try (simp only [okE, Bool.false_eq_true] at ok; done)
  rename_i f0_ as ks p
  obtain ⟨f, pf, x, px, rfl, rfl, rfl⟩ : ∃ f pf x px, f0_ = (.Name f pf) ∧ as = ((.Name x px) :: []) ∧ ks = [] := by
    cases f0_ <;> try exact absurd (show false = true from ok) Bool.false_ne_true
    rename_i q1_ q2_
    cases as <;> try exact absurd (show false = true from ok) Bool.false_ne_true
    rename_i q3_ q4_
    cases q3_ <;> try exact absurd (show false = true from ok) Bool.false_ne_true
    rename_i q5_ q6_
    cases q4_ <;> try exact absurd (show false = true from ok) Bool.false_ne_true
    cases ks <;> try exact absurd (show false = true from ok) Bool.false_ne_true
    exact ⟨_, _, _, _, rfl, rfl, rfl⟩
  simp only [okE, Bool.and_eq_true, decide_eq_true_eq] at ok
  obtain ⟨rfl, h0, h1, h2, h3, h4, h5⟩ := ok
  obtain ⟨g1, g2⟩ := gl_of h0
  refine PE.imp (pe_callB call_len_seq g1 (k.blt _ (by decide)) PySem.boot_len (pa_cons (pe_var (i := i) (by rw [k.N]; exact h1) (vis_of h2) (dbg_of h4) (dbg_of h5)) pa_nil) (by decide) g2) fun σ H Q q => ?_
  obtain ⟨G, ρ, os, st, h⟩ := q
  have h : GP X.K X.mg z Γ W (rO X.K .all) (match gS ρ i with | some (.lst l) => R.ok (.int l.length, ρ) | _ => .bad) G H os σ Q := h
  cases e : gS ρ i with
  | none => rw [e] at h; exact (show False from h).elim
  | some d =>
    obtain ⟨a, vs, ds, e1, rfl, ha, fl, _⟩ := st.store e h3
    rw [e] at h
    refine ⟨_, e1, a, vs, rfl, .inl (.inl (.inl ha)), ?_⟩
    rw [fl.length]
    exact GP.ok_A st (.int _) h
/-! ### slices -/
def SO (c : SC) (e : IE) : Prop := ∀ (X : Cx) (Γ : List Mode) (z : Option (Nat × V × Hp)) (W : WE0) (x : Option PySem.Expr), Cok c X z → okO c X.env.scope Γ e x = true → TkX X W → PO X x (tG X.K X.mg z Γ W OS.rI (runO c.T e))
theorem so_nil : SO c .nil := by
  intro X Γ z W x k ok t
  cases x with
  | some _ => simp [okO] at ok
  | none =>
    refine PO.imp po_none fun σ H Q q => ?_
    obtain ⟨G, ρ, os, st, h⟩ := q
    exact h G H os none [] st ⟨rfl, rfl⟩ st.nd (Fr.refl st.sm os) (Sub.refl H os)
theorem so_cons {a r : IE} (ha : SE c a) : SO c (.cons a r) := by
  intro X Γ z W x k ok t
  cases x with
  | none => simp [okO] at ok
  | some x =>
    simp only [okO] at ok
    refine PO.imp (po_some (ha.F (z := z) k ok t)) fun σ H Q q => ?_
    have q : tG X.K X.mg z Γ W OS.rI (M.bind (runE c.T a) fun x => M.opt ((asInt x).map some)) σ H Q := q
    refine (tG.fst q).mono fun v H1 q1 => ?_
    obtain ⟨d1, G, ρ, os, st, f, g⟩ := q1
    obtain ⟨d, e, g⟩ := g.opt
    obtain ⟨i, e', rfl⟩ := Option.map_eq_some_iff.mp e
    cases f <;> simp only [asInt, reduceCtorEq, Option.some.injEq] at e'
    subst e'
    exact ⟨_, rfl, g G H1 os _ [] st ⟨rfl, rfl⟩ st.nd (Fr.refl st.sm os) (Sub.refl H1 os)⟩
theorem rI_z : ∀ (G H : Hp) (b a : Option Int) (o : List Addr), OS.rI G H b a o → o = [] := fun _ _ _ _ _ h => h.2
/-- a value, then two optional ints -/
theorem tG.cut {K : PySem.W.Frag} {mg : Str → Option Value} {z : Option (Nat × V × Hp)} {Γ : List Mode} {W : WE0} {rel : Rel V D} {σ : L2.St} {H : Hp} {Q : VK} {ma : M D} {ml mh : M (Option Int)} {f : D → Option Int → Option Int → M D}
    (h : tG K mg z Γ W rel (M.bind ma fun x => M.bind ml fun l => M.bind mh fun u => f x l u) σ H Q) :
    tG K mg z Γ W (rF K) ma σ H fun x H1 => tG K mg z Γ W OS.rI ml σ H1 fun l H2 => tG K mg z Γ W OS.rI mh σ H2 fun u H3 => ∃ d1 G ρ os, Stt K z Γ G H3 σ ρ os ∧ Fz K G x d1 ∧ GP K mg z Γ W rel (f d1 l u ρ) G H3 os σ Q := by
  refine (h.bind (rF_z (K := K))).mono fun x H1 hx => ?_
  obtain ⟨d1, G1, ρ1, os1, st1, ⟨f1, _⟩, h1⟩ := hx
  refine ⟨G1, ρ1, os1, st1, (GP.bind rI_z h1).mono fun _ H2 _ y _ _ _ _ _ _ _ _ _ hy => ?_⟩
  obtain ⟨l, G2, ρ2, os2, st2, ⟨rfl, _⟩, sm, h2⟩ := hy
  refine ⟨G2, ρ2, os2, st2, (GP.bind rI_z h2).mono fun _ H3 _ y _ _ _ _ _ _ _ _ _ hy => ?_⟩
  obtain ⟨u, G3, ρ3, os3, st3, ⟨rfl, _⟩, sm3, h3⟩ := hy
  exact ⟨d1, G3, ρ3, os3, st3, (f1.mono sm).mono sm3, h3⟩
theorem se_sl {a lo hi : IE} (ha : SE c a) (hl : SO c lo) (hh : SO c hi) : SE c (.sl a lo hi) := by
  intro X Γ z W x k ok t
  cases x <;> try (simp only [okE, Bool.false_eq_true] at ok; done)
  rename_i xa xb p
  cases xb <;> try (simp only [okE, Bool.false_eq_true] at ok; done)
  rename_i xl xh xs ps
  cases xs with
  | some _ => simp [okE] at ok
  | none =>
    simp only [okE, Bool.and_eq_true] at ok
    obtain ⟨h1, h2, h3⟩ := ok
    refine PE.imp (pe_slice sl_list (ha.F (z := z) k h1 t) (hl X Γ z W xl k h2 t) (hh X Γ z W xh k h3 t)) fun σ H Q q => ?_
    refine (tG.cut q).mono fun x H1 q1 => q1.mono fun l H2 q2 => q2.mono fun u H3 q3 => ?_
    obtain ⟨d1, G, ρ, os, st, f1, g⟩ := q3
    obtain ⟨d, e, g⟩ := g.opt
    cases f1 with
    | lst hx r =>
      simp only [cutD, Option.some.injEq] at e
      subst e
      refine ⟨_, _, rfl, .inl (.inl (st.sm _ _ hx)), fun p hp => GP.new_O st hp ?_ g⟩
      unfold cutV
      rw [r.length]
      exact (r.drop _).take _
    | scr hx =>
      rename_i ns
      simp only [cutD, Option.some.injEq] at e
      subst e
      refine ⟨_, _, rfl, st.sm.seq hx, fun p hp => GP.new_O st hp ?_ g⟩
      unfold cutV
      rw [List.length_map]
      exact (FzL.ints.drop _).take _
    | _ => simp [cutD] at e
theorem se_slS {a lo hi : IE} (ha : SE c a) (hl : SO c lo) (hh : SO c hi) : SE c (.slS a lo hi) := by
  intro X Γ z W x k ok t
  cases x <;> try (simp only [okE, Bool.false_eq_true] at ok; done)
  rename_i xa xb p
  cases xb <;> try (simp only [okE, Bool.false_eq_true] at ok; done)
  rename_i xl xh xs ps
  cases xs with
  | some _ => simp [okE] at ok
  | none =>
    simp only [okE, Bool.and_eq_true] at ok
    obtain ⟨h1, h2, h3⟩ := ok
    refine PE.imp (pe_slice sl_str (ha.F (z := z) k h1 t) (hl X Γ z W xl k h2 t) (hh X Γ z W xh k h3 t)) fun σ H Q q => ?_
    refine (tG.cut q).mono fun x H1 q1 => q1.mono fun l H2 q2 => q2.mono fun u H3 q3 => ?_
    obtain ⟨d1, G, ρ, os, st, f1, g⟩ := q3
    obtain ⟨d, e, g⟩ := g.opt
    cases f1 <;> simp only [OS.cutS, reduceCtorEq] at e
    split at e
    · cases e
      rename_i hz
      exact ⟨_, rfl, hz, GP.ok_A st (.str _) g⟩
    · cases e
theorem se_rev {a : IE} (ha : SE c a) : SE c (.rev a) := by
  intro X Γ z W x k ok t
  cases x <;> try (simp only [okE, Bool.false_eq_true] at ok; done)
  rename_i xa xb p
  match xb, ok with
  | .Slice none none (some (.UnaryOp .USub (.Constant (.int 1) j p1) p2)) p3, ok =>
    simp only [okE] at ok
    refine PE.imp (pe_revL (ha.F (z := z) k ok t)) fun σ H Q q => ?_
    refine (tG.fst q).mono fun x H1 q1 => ?_
    obtain ⟨d1, G, ρ, os, st, f1, g⟩ := q1
    cases f1 with
    | lst hx r => exact ⟨_, _, rfl, .inl (.inl (st.sm _ _ hx)), fun p hp => GP.new_O st hp r.reverse g⟩
    | _ => exact (show False from g).elim
theorem lenD_ok {K : PySem.W.Frag} {G H : Hp} (s : Same G H) {v : V} {d : D} {n : Int} (f : Fz K G v d) (e : lenD d = some n) : ∃ m : Nat, (m : Int) = n ∧ LenV K v H m := by
  cases f with
  | str x =>
    simp only [lenD] at e
    split at e
    · cases e; rename_i h; exact ⟨_, rfl, h, rfl⟩
    · cases e
  | tup h r =>
    simp only [lenD, Option.some.injEq] at e
    exact ⟨_, e, .inr ⟨_, Same.sqT s h, r.length.symm⟩⟩
  | lst h r =>
    simp only [lenD, Option.some.injEq] at e
    exact ⟨_, e, .inl ⟨_, .inl (.inl (s _ _ h)), r.length.symm⟩⟩
  | _ => simp [lenD] at e
theorem se_len {a : IE} (ha : SE c a) : SE c (.len a) := by
  intro X Γ z W x k ok t
  cases x <;> try (simp only [okE, Bool.false_eq_true] at ok; done)
  rename_i f0_ as ks p
  obtain ⟨f, pf, xa, rfl, rfl, rfl⟩ : ∃ f pf xa, f0_ = (.Name f pf) ∧ as = (xa :: []) ∧ ks = [] := by
    cases f0_ <;> try exact absurd (show false = true from ok) Bool.false_ne_true
    rename_i q1_ q2_
    cases as <;> try exact absurd (show false = true from ok) Bool.false_ne_true
    rename_i q3_ q4_
    cases q4_ <;> try exact absurd (show false = true from ok) Bool.false_ne_true
    cases ks <;> try exact absurd (show false = true from ok) Bool.false_ne_true
    exact ⟨_, _, _, rfl, rfl, rfl⟩
  simp only [okE, Bool.and_eq_true, decide_eq_true_eq] at ok
  obtain ⟨rfl, h0, h1, h2⟩ := ok
  obtain ⟨g1, g2⟩ := gl_of h0
  refine PE.imp (pe_callB call_len g1 (k.blt _ (by decide)) PySem.boot_len (pa_cons (ha.F (z := z) k h1 t) pa_nil (star_of h2)) (by decide) g2 (star_of h2)) fun σ H Q q => ?_
  refine (tG.fst q).mono fun x H1 q1 => ?_
  obtain ⟨d1, G, ρ, os, st, f1, g⟩ := q1
  obtain ⟨d, e, g⟩ := g.opt
  obtain ⟨n, e', rfl⟩ := Option.map_eq_some_iff.mp e
  obtain ⟨m, rfl, lv⟩ := lenD_ok st.sm f1 e'
  exact ⟨x, m, rfl, lv, GP.ok_A st (.int _) g⟩
end OS
namespace OS
open PySem PySem.Spec PyProof.Rows L2
variable {c : SC}

theorem any_star {X : Cx} {Γ : List Mode} {sc : Scope} {pos : Pos} : ∀ {r : IE} {xs : List PySem.Expr}, okL c sc Γ r xs = true → (backTo pos (starEach xs X.env)).any (·.1) = false
  | .nil, [], _ => rfl
  | .cons a r, x :: xs, h => by
    simp only [okL, Bool.and_eq_true] at h
    rw [star_of (xs := xs) h.2.1]
    show (false || (backTo pos (starEach xs X.env)).any (·.1)) = false
    rw [any_star (r := r) h.2.2]; rfl
  | .nil, _ :: _, h => by simp [okL] at h
  | .cons _ _, [], h => by simp [okL] at h
theorem okL_cons {sc : Scope} {Γ : List Mode} {r : IE} {x : PySem.Expr} {xs : List PySem.Expr} (h : okL c sc Γ r (x :: xs) = true) : ∃ a q, r = .cons a q ∧ okE c sc Γ a x = true ∧ nstar x = true ∧ okL c sc Γ q xs = true := by
  cases r <;> try (simp [okL] at h; done)
  rename_i a q
  simp only [okL, Bool.and_eq_true] at h
  exact ⟨a, q, rfl, h.1, h.2.1, h.2.2⟩

/-! ### calls of defs -/
theorem Fr.weak {G H G' H' : Hp} {os os' : List Addr} (f : Fr G H G' H' os) (h : ∀ a ∈ os, a ∈ os') : Fr G H G' H' os' := ⟨f.g, f.s, fun a o e n => f.k a o e fun q => n (h a q)⟩
theorem pe_callS0 {X : Cx} {CX : CXT} {k : Nat} {f : Addr} {fd : FuncData} {ps : List Str} {sp : Sp} {E : L2.St → XK} {x : Str} {p pos : Pos} (F : FnOk X.prog X.w X.K X.mg X.base CX k f fd ps sp) (hr : Room k X.A) (hg : Gl X x) (hm : X.mg x = some (.ref f)) (hk : PySem.W.keepIn X.K (.ref f) = true) (hb : Binds X.K fd ps []) (hx : ∀ σ, PassesAt CX X σ (E σ))
    (hdb : (x == ("__debug__" : Str)) = false) : PE X (.Call (.Name x p) [] [] pos) (tCallS sp E tNil) := by
  refine ⟨fun pins s σ H Q I h => ?_⟩
  refine wpAny_Call_Name_kw (ld_glob I hg hm ?_ hdb)
  exact PySem.W.callWith_K0 I.kIn hk (run_fnS (us := []) F hr hb (hx σ) I .nil h)
theorem call_tail {X : Cx} {z : Option (Nat × V × Hp)} {Γ : List Mode} {W : WE0} {j : Nat} {s : Sig} {ds : List D} {vs : List V} {G H1 : Hp} {σ : L2.St} {ρ : Slots} {os : List Addr} {Q : VK} (ej : c.T[j]? = some s) (hio : s.io = false) (st : Stt X.K z Γ G H1 σ ρ os) (fl : FzL X.K G vs ds)
    (g : GP X.K X.mg z Γ W (rO X.K s.rm) ((callD c.T j ds).bind fun p => .ok (p.1, ρ)) G H1 os σ Q) : spOf X.K X.mg s vs H1 Q (fun cls d H => W cls d H) := by
  unfold callD at g
  rw [ej] at g
  simp only [hio, Bool.false_eq_true, if_false] at g
  by_cases hl : ds.length = s.np
  · rw [if_pos hl] at g
    refine ⟨by rw [fl.length]; exact hl, G, ds, [], st.sm, hl, by unfold ArgOk; rw [hio]; exact ⟨fl, rfl⟩, ?_⟩
    cases eφ : s.φ ds with
    | ok p =>
      obtain ⟨r, d'⟩ := p
      rw [eφ] at g
      intro G' H' v o oz hw he nd fr sb
      have he : oz = [] := by unfold EndOk at he; rw [hio] at he; exact he
      subst he
      rw [List.append_nil] at nd sb
      have dj : ∀ b ∈ os, b ∉ ([] : List Addr) := fun _ _ q => nomatch q
      refine g G' H' os v o (st.frame fr dj) hw ?_ (fr.weak fun _ q => nomatch q) fun b hb => ?_
      · refine List.nodup_append.mpr ⟨nd, st.nd, fun a ha b hb e => ?_⟩
        subst e
        obtain ⟨⟨u, e⟩, _⟩ := st.sl.there a hb
        rcases sb a ha with z | z
        · cases z
        · rw [e] at z; cases z
      · rcases List.mem_append.mp hb with hb | hb
        · exact (sb b hb).elim (fun z => nomatch z) .inr
        · exact .inl hb
    | exn e fs =>
      rw [eφ] at g
      exact fun G' H' cls dd he fr => g G' H' cls dd he (fr.weak fun _ q => nomatch q)
    | bad => rw [eφ] at g; exact g
  · rw [if_neg hl] at g; exact (show False from g).elim
theorem se_call {j : Nat} {as : IE} (hs : SL c as) : SE c (.call j as) := by
  intro X Γ z W x k ok t
  cases x <;> try (simp only [okE, Bool.false_eq_true] at ok; done)
  rename_i f0_ xs ks p
  obtain ⟨f, pf, rfl, rfl⟩ : ∃ f pf, f0_ = (.Name f pf) ∧ ks = [] := by
    cases f0_ <;> try exact absurd (show false = true from ok) Bool.false_ne_true
    rename_i q1_ q2_
    cases ks <;> try exact absurd (show false = true from ok) Bool.false_ne_true
    exact ⟨_, _, rfl, rfl⟩
  simp only [okE, Bool.and_eq_true] at ok
  obtain ⟨hh, h1, h2, h3⟩ := ok
  have hh : c.hot = false := by simpa using hh
  cases ej : c.T[j]? with
  | none => rw [ej] at h1; cases h1
  | some s =>
    rw [ej] at h1
    simp only [Bool.and_eq_true, decide_eq_true_eq, Bool.not_eq_true'] at h1
    obtain ⟨rfl, hio, hkw⟩ := h1
    obtain ⟨lv, hr, tab⟩ := k.tab hh
    obtain ⟨fa, fd, ps, F, mg, kp, bd⟩ := (tab j s ej).ex
    have bd := bindS_none hkw bd
    obtain ⟨g1, g2⟩ := gl_of h2
    show PE X _ (tG X.K X.mg z Γ W (rO X.K (match c.T[j]? with | some s => s.rm | none => .no)) _)
    rw [ej]
    have pe : PE X (.Call (.Name s.name pf) xs [] p) (tCallS (spOf X.K X.mg s) (WE fun c d _ H => W c d H) (tG X.K X.mg z Γ W (rL X.K) (runL c.T as))) := by
      cases xs with
      | nil =>
        refine PE.imp (pe_callS0 F hr g1 mg kp bd (fun σ => L2N.passAt t σ) g2) fun σ H Q q => ?_
        cases as <;> try (simp [okL] at h3; done)
        obtain ⟨G, ρ, os, st, h⟩ := q
        exact GP.ok_L (W := W) (ds := []) st .nil h
      | cons x xs =>
        obtain ⟨a, q, rfl, ha, na, hq⟩ := okL_cons h3
        exact pe_callS F hr g1 mg kp bd (fun σ => L2N.passAt t σ) (hs X Γ z W (x :: xs) k h3 t) g2 (star_of na) (any_star hq)
    refine PE.imp pe fun σ H Q q => ?_
    refine (tG.fstL q).mono fun vs H1 q1 => ?_
    obtain ⟨ds, G, ρ, os, st, fl, g⟩ := q1
    exact call_tail ej hio st fl g
theorem run_fnNS {X : Cx} {CX : CXT} {k n : Nat} {f : Addr} {fd : FuncData} {ps ks : List Str} {sp : Sp} {E : L2.St → XK} {g : List Value → List Value → List Value} {gV : List V → List V → List V} {pins : List (Addr × Obj)} {σ : L2.St} {H : Hp} {s : Shared} {Q : VK} {us ws : List Value} {vs zs : List V} (F : FnOk X.prog X.w X.K X.mg X.base CX k f fd ps sp) (hr : Room k X.A) (hb : KBn X.K fd ps n ks g gV) (hx : PassesAt CX X σ (E σ))
    (I : Inv X pins σ H s) (r : Vals vs us) (rz : Vals zs ws) (l1 : vs.length = n) (l2 : zs.length = ks.length) (h : sp (gV vs zs) H Q (E σ)) : wpAny (model X.prog X.w) X.A (call (.ref f) us (ks.zip ws)) (EP X pins σ Q) X.xe s := by
  have r2 := hb.rel r rz
  refine wpAny_call (codeAny_mono (F.run X.A X.stack s H ⟨us, ks.zip ws⟩ (g us ws) (gV vs zs) Q (E σ) hr I.env0 (hb.to s us ws I.kIn (r.length.symm.trans l1) (rz.length.symm.trans l2)) r2 h) fun r s' hq => ?_)
  cases r with
  | error e => exact hx pins H s e s' I hq
  | ok fl =>
    cases fl with
    | ret u => exact I.after hq
    | next => exact False.elim hq
    | brk => exact False.elim hq
    | cont => exact False.elim hq
def tCallNS (n m : Nat) (sp : Sp) (gV : List V → List V → List V) (E : L2.St → XK) (t tk : TA) : TE := fun σ H Q => t σ H fun vs H1 => tk σ H1 fun zs H2 => vs.length = n ∧ zs.length = m ∧ sp (gV vs zs) H2 Q (E σ)
theorem pe_callNS {X : Cx} {CX : CXT} {k n : Nat} {f : Addr} {fd : FuncData} {ps ks : List Str} {sp : Sp} {E : L2.St → XK} {x : Str} {p pos : Pos} {e : PySem.Expr} {es : List PySem.Expr} {kws : List Keyword} {t tk : TA} {g : List Value → List Value → List Value} {gV : List V → List V → List V}
    (F : FnOk X.prog X.w X.K X.mg X.base CX k f fd ps sp) (hr : Room k X.A) (hg : Gl X x) (hm : X.mg x = some (.ref f)) (hk : PySem.W.keepIn X.K (.ref f) = true) (hb : KBn X.K fd ps n ks g gV) (hx : ∀ σ, PassesAt CX X σ (E σ))
    (ha : PA X (e :: es) t) (hkw : PK X kws tk) (hall : (backToKw pos (keywordEach kws X.env)).all (·.1.isSome) = true) (hks : (backToKw pos (keywordEach kws X.env)).filterMap (·.1) = ks)
    (hdb : (x == ("__debug__" : Str)) = false) (he : starEach (e :: es) X.env = (false, eval e X.env) :: starEach es X.env)
    (hpl : ((backTo pos (starEach (e :: es) X.env)).any (·.1) || (backToKw pos (keywordEach kws X.env)).any (·.1.isNone)) = false) :
    PE X (.Call (.Name x p) (e :: es) kws pos) (tCallNS n ks.length sp gV E t tk) := by
  refine ⟨fun pins s σ H Q I h => ?_⟩
  refine wpAny_Call_Name_kw (ld_glob I hg hm ?_ hdb)
  refine PySem.W.callWith_KW (h₀ := X.base) I.ok.mod.kin hk hall (thn (ha.run pos pins s σ H _ I h) fun us s1 ⟨vs, H1, I1, r, q⟩ => ?_) hpl he
  refine thn (hkw.run pos pins s1 σ H1 _ I1 q) fun ws s2 ⟨zs, H2, I2, rz, l1, l2, q2⟩ => ⟨I2.kIn, ?_⟩
  rw [hks]
  exact run_fnNS F hr hb (hx σ) I2 r rz l1 l2 q2
theorem run_fnDS {X : Cx} {CX : CXT} {k : Nat} {f : Addr} {fd : FuncData} {ps : List Str} {sp : Sp} {E : L2.St → XK} {dvs : List V} {ds : List Value} {pins : List (Addr × Obj)} {σ : L2.St} {H : Hp} {s : Shared} {Q : VK} {us : List Value} {vs : List V} (F : FnOk X.prog X.w X.K X.mg X.base CX k f fd ps sp) (hr : Room k X.A) (hd : Vals dvs ds) (hb : Binds X.K fd ps ds) (hx : PassesAt CX X σ (E σ))
    (I : Inv X pins σ H s) (r : Vals vs us) (h : sp (vs ++ dvs) H Q (E σ)) : wpAny (model X.prog X.w) X.A (call (.ref f) us) (EP X pins σ Q) X.xe s := by
  have r2 := r.append hd
  have hl : (us ++ ds).length = ps.length := by rw [← r2.length]; exact F.len _ _ _ _ h
  refine wpAny_call (codeAny_mono (F.run X.A X.stack s H ⟨us, []⟩ (us ++ ds) (vs ++ dvs) Q (E σ) hr I.env0 (hb s us I.kIn hl) r2 h) fun r s' hq => ?_)
  cases r with
  | error e => exact hx pins H s e s' I hq
  | ok fl =>
    cases fl with
    | ret u => exact I.after hq
    | next => exact False.elim hq
    | brk => exact False.elim hq
    | cont => exact False.elim hq
def tCallDS (sp : Sp) (dvs : List V) (E : L2.St → XK) (t : TA) : TE := fun σ H Q => t σ H fun vs H1 => sp (vs ++ dvs) H1 Q (E σ)
theorem pe_callDS {X : Cx} {CX : CXT} {k : Nat} {f : Addr} {fd : FuncData} {ps : List Str} {sp : Sp} {E : L2.St → XK} {x : Str} {p pos : Pos} {e : PySem.Expr} {es : List PySem.Expr} {t : TA} {dvs : List V} {ds : List Value} (F : FnOk X.prog X.w X.K X.mg X.base CX k f fd ps sp) (hr : Room k X.A) (hg : Gl X x) (hm : X.mg x = some (.ref f)) (hk : PySem.W.keepIn X.K (.ref f) = true) (hd : Vals dvs ds) (hb : Binds X.K fd ps ds) (hx : ∀ σ, PassesAt CX X σ (E σ))
    (ha : PA X (e :: es) t) (hdb : (x == ("__debug__" : Str)) = false) (he : starEach (e :: es) X.env = (false, eval e X.env) :: starEach es X.env) (hpl : (backTo pos (starEach es X.env)).any (·.1) = false) :
    PE X (.Call (.Name x p) (e :: es) [] pos) (tCallDS sp dvs E t) := by
  refine ⟨fun pins s σ H Q I h => ?_⟩
  refine wpAny_Call_Name_kw (ld_glob I hg hm ?_ hdb)
  refine PySem.W.callWith_K (h₀ := X.base) I.ok.mod.kin hk (thn (ha.run pos pins s σ H _ I h) fun us s1 ⟨vs, H1, I1, r, q⟩ => ⟨I1.kIn, ?_⟩) he hpl
  exact run_fnDS F hr hd hb (hx σ) I1 r q
theorem se_callK {j : Nat} {kw : Str} {a b : IE} (ha : SE c a) (hb : SE c b) : SE c (.callK j kw a b) := by
  intro X Γ z W x k ok t
  cases x <;> try (simp only [okE, Bool.false_eq_true] at ok; done)
  rename_i f0_ as ks p
  obtain ⟨f, pf, xa, kw', xb, kp', rfl, rfl, rfl⟩ : ∃ f pf xa kw' xb kp', f0_ = (.Name f pf) ∧ as = (xa :: []) ∧ ks = (⟨some kw', xb, kp'⟩ :: []) := by
    cases f0_ <;> try exact absurd (show false = true from ok) Bool.false_ne_true
    rename_i q1_ q2_
    cases as <;> try exact absurd (show false = true from ok) Bool.false_ne_true
    rename_i q3_ q4_
    cases q4_ <;> try exact absurd (show false = true from ok) Bool.false_ne_true
    cases ks <;> try exact absurd (show false = true from ok) Bool.false_ne_true
    rename_i q5_ q6_
    cases q5_ <;> try exact absurd (show false = true from ok) Bool.false_ne_true
    rename_i q7_ q8_ q9_
    cases q7_ <;> try exact absurd (show false = true from ok) Bool.false_ne_true
    rename_i q10_
    cases q6_ <;> try exact absurd (show false = true from ok) Bool.false_ne_true
    exact ⟨_, _, _, _, _, _, rfl, rfl, rfl⟩
  simp only [okE, Bool.and_eq_true, decide_eq_true_eq] at ok
  obtain ⟨hh, h1, h2, rfl, h3, h4, h5⟩ := ok
  have hh : c.hot = false := by simpa using hh
  cases ej : c.T[j]? with
  | none => rw [ej] at h1; cases h1
  | some s =>
    rw [ej] at h1
    simp only [Bool.and_eq_true, decide_eq_true_eq, Bool.not_eq_true'] at h1
    obtain ⟨rfl, hio, hkw⟩ := h1
    obtain ⟨lv, hr, tab⟩ := k.tab hh
    obtain ⟨fa, fd, ps, F, mg, kp, bd⟩ := (tab j s ej).ex
    obtain ⟨_, bd⟩ := bindS_kw hkw bd
    obtain ⟨g1, g2⟩ := gl_of h2
    show PE X _ (tG X.K X.mg z Γ W (rO X.K (match c.T[j]? with | some s => s.rm | none => .no)) _)
    rw [ej]
    refine PE.imp (pe_callNS (E := WE fun c d _ H => W c d H) F hr g1 mg kp bd (fun σ => L2N.passAt t σ) (pa_cons (ha.F (z := z) k h3 t) pa_nil (star_of h4)) (pk_cons (hb.F (z := z) k h5 t) pk_nil) (by rfl) (by rfl) g2 (star_of h4) (by rw [star_of (xs := []) h4]; rfl)) fun σ H Q q => ?_
    refine (tG.fst q).mono fun x H1 q1 => ?_
    obtain ⟨d1, G, ρ, os, st, f1, g⟩ := q1
    refine ⟨G, ρ, os, st, (GP.bind (rF_z (K := X.K)) g).mono fun G' H2 _ y _ _ _ _ _ _ _ _ _ q2 => ?_⟩
    obtain ⟨d2, G2, ρ2, os2, st2, ⟨f2, _⟩, sm, g2'⟩ := q2
    exact ⟨rfl, rfl, call_tail ej hio st2 (.cons (f1.mono sm) (.cons f2 .nil)) g2'⟩
theorem se_callD0 {j : Nat} {a : IE} (ha : SE c a) : SE c (.callD0 j a) := by
  intro X Γ z W x k ok t
  cases x <;> try (simp only [okE, Bool.false_eq_true] at ok; done)
  rename_i f0_ as ks p
  obtain ⟨f, pf, xa, rfl, rfl, rfl⟩ : ∃ f pf xa, f0_ = (.Name f pf) ∧ as = (xa :: []) ∧ ks = [] := by
    cases f0_ <;> try exact absurd (show false = true from ok) Bool.false_ne_true
    rename_i q1_ q2_
    cases as <;> try exact absurd (show false = true from ok) Bool.false_ne_true
    rename_i q3_ q4_
    cases q4_ <;> try exact absurd (show false = true from ok) Bool.false_ne_true
    cases ks <;> try exact absurd (show false = true from ok) Bool.false_ne_true
    exact ⟨_, _, _, rfl, rfl, rfl⟩
  simp only [okE, Bool.and_eq_true, decide_eq_true_eq] at ok
  obtain ⟨hh, h1, h2, h3, h4⟩ := ok
  have hh : c.hot = false := by simpa using hh
  cases ej : c.T[j]? with
  | none => rw [ej] at h1; cases h1
  | some s =>
    rw [ej] at h1
    simp only [Bool.and_eq_true, decide_eq_true_eq, Bool.not_eq_true'] at h1
    obtain ⟨rfl, hio, hkw⟩ := h1
    obtain ⟨kw, hkw⟩ := Option.isSome_iff_exists.mp hkw
    obtain ⟨lv, hr, tab⟩ := k.tab hh
    obtain ⟨fa, fd, ps, F, mg, kp, bd⟩ := (tab j s ej).ex
    obtain ⟨⟨dvs, hd, bd⟩, _⟩ := bindS_kw hkw bd
    obtain ⟨g1, g2⟩ := gl_of h2
    show PE X _ (tG X.K X.mg z Γ W (rO X.K (match c.T[j]? with | some s => s.rm | none => .no)) _)
    rw [ej]
    refine PE.imp (pe_callDS (E := WE fun c d _ H => W c d H) F hr g1 mg kp hd bd (fun σ => L2N.passAt t σ) (pa_cons (ha.F (z := z) k h3 t) pa_nil (star_of h4)) g2 (star_of h4) rfl) fun σ H Q q => ?_
    refine (tG.fst q).mono fun x H1 q1 => ?_
    obtain ⟨d1, G, ρ, os, st, f1, g⟩ := q1
    exact call_tail ej hio st (.cons f1 (.cons .non .nil)) g
theorem se_callIo {j i : Nat} {as : IE} (hs : SL c as) : SE c (.callIo j i as) := by
  intro X Γ z W x k ok t
  cases x <;> try (simp only [okE, Bool.false_eq_true] at ok; done)
  rename_i f0_ xs0_ ks p
  obtain ⟨f, pf, x, px, xs, rfl, rfl, rfl⟩ : ∃ f pf x px xs, f0_ = (.Name f pf) ∧ xs0_ = ((.Name x px) :: xs) ∧ ks = [] := by
    cases f0_ <;> try exact absurd (show false = true from ok) Bool.false_ne_true
    rename_i q1_ q2_
    cases xs0_ <;> try exact absurd (show false = true from ok) Bool.false_ne_true
    rename_i q3_ q4_
    cases q3_ <;> try exact absurd (show false = true from ok) Bool.false_ne_true
    rename_i q5_ q6_
    cases ks <;> try exact absurd (show false = true from ok) Bool.false_ne_true
    exact ⟨_, _, _, _, _, rfl, rfl, rfl⟩
  simp only [okE, Bool.and_eq_true, decide_eq_true_eq] at ok
  obtain ⟨hh, h1, h2, h3, h4, h5, h6, h7, h8⟩ := ok
  have hh : c.hot = false := by simpa using hh
  cases ej : c.T[j]? with
  | none => rw [ej] at h1; cases h1
  | some s =>
    rw [ej] at h1
    simp only [Bool.and_eq_true, decide_eq_true_eq] at h1
    obtain ⟨rfl, hio, hkw⟩ := h1
    obtain ⟨lv, hr, tab⟩ := k.tab hh
    obtain ⟨fa, fd, ps, F, mg, kp, bd⟩ := (tab j s ej).ex
    have bd := bindS_none hkw bd
    obtain ⟨g1, g2⟩ := gl_of h2
    show PE X _ (tG X.K X.mg z Γ W (rO X.K (match c.T[j]? with | some s => s.rm | none => .no)) _)
    rw [ej]
    have pvar : PE X (.Name x px) (tVar i) := pe_var (i := i) (by rw [k.N]; exact h4) (vis_of h5) (dbg_of h7) (dbg_of h8)
    refine PE.imp (pe_callS F hr g1 mg kp bd (fun σ => L2N.passAt t σ) (pa_cons pvar (hs X Γ z W xs k h3 t) rfl) g2 rfl (any_star h3)) fun σ H Q q => ?_
    obtain ⟨G, ρ, os, st, h⟩ := q
    obtain ⟨d, e, h⟩ := GP.has (m := M.bind (runL c.T as) fun ds ρ => match gS ρ i with | some d => (callIoD c.T j (d :: ds)).bind fun p => .ok (p.1, sS ρ i (some p.2)) | none => .bad) h
    obtain ⟨a, _, _, e1, _⟩ := st.top e h6
    refine ⟨_, e1, G, ρ, os, st, (GP.bind (rL_z (K := X.K)) h).mono fun _ H2 _ vs _ _ _ _ _ _ _ _ _ q2 => ?_⟩
    obtain ⟨ds, G2, ρ2, os2, st2, ⟨fl, _⟩, sm, g⟩ := q2
    cases e2 : gS ρ2 i with
    | none => simp only [e2] at g; exact (show False from g).elim
    | some d' =>
      simp only [e2] at g
      obtain ⟨a', vs', ds', e1', rfl, ha, fl', ain, hw, put⟩ := st2.top e2 h6
      rw [e1] at e1'
      cases e1'
      unfold callIoD at g
      rw [ej] at g
      simp only [hio, if_true] at g
      by_cases hl : (D.lst ds' :: ds).length = s.np
      · rw [if_pos hl] at g
        refine ⟨by rw [← hl, List.length_cons, List.length_cons, fl.length], G2, _ :: ds, [a], st2.sm, hl, by unfold ArgOk; rw [if_pos hio]; exact ⟨_, vs, _, ds, rfl, rfl, hw, fl⟩, ?_⟩
        cases eφ : s.φ (D.lst ds' :: ds) with
        | ok p =>
          obtain ⟨r, d2⟩ := p
          rw [eφ] at g
          intro G' H' v o oz hv he nd fr sb
          obtain ⟨v0, ev0, hz⟩ : ∃ v, (V.ref a :: vs)[0]? = some v ∧ Own X.K G' H' .top v d2 oz := by
            unfold EndOk at he; rw [if_pos hio] at he; exact he
          cases ev0
          obtain ⟨_, _, _, ez, _, _, _, _, eoz⟩ := id hz
          cases ez
          subst eoz
          obtain ⟨st', fr'⟩ := put hz fr
          refine g G' H' os2 v o st' hv ?_ fr' fun b hb => ?_
          · refine List.nodup_append.mpr ⟨(List.nodup_append.mp nd).1, st2.nd, fun b hb b' hb' e => ?_⟩
            subst e
            rcases sb b (List.mem_append_left _ hb) with w | w
            · exact (List.nodup_append.mp nd).2.2 b hb b (by rw [List.mem_singleton.mp w]; simp) rfl
            · obtain ⟨⟨u, e⟩, _⟩ := st2.sl.there b hb'
              rw [e] at w; cases w
          · rcases List.mem_append.mp hb with hb | hb
            · rcases sb b (List.mem_append_left _ hb) with w | w
              · exact .inl (by rw [List.mem_singleton.mp w]; exact ain)
              · exact .inr w
            · exact .inl hb
        | exn e fs =>
          rw [eφ] at g
          exact fun G' H' cls dd he fr => g G' H' cls dd he (fr.weak fun b q => by rw [List.mem_singleton.mp q]; exact ain)
        | bad => rw [eφ] at g; exact g
      · rw [if_neg hl] at g; exact (show False from g).elim

/-! ### built-in functions -/
theorem allInts_ok {K : PySem.W.Frag} {G : Hp} : ∀ {vs : List V} {ds : List D} {ns : List Int}, FzL K G vs ds → allInts ds = some ns → vs = ns.map V.int ∧ ds = ns.map D.int
  | _, [], _, .nil, e => by simp only [allInts, Option.some.injEq] at e; subst e; exact ⟨rfl, rfl⟩
  | _, d :: r, ns, .cons h t, e => by
    cases h <;> simp only [allInts, reduceCtorEq] at e
    obtain ⟨ms, e', rfl⟩ := Option.map_eq_some_iff.mp e
    obtain ⟨h1, h2⟩ := allInts_ok t e'
    exact ⟨by rw [h1]; rfl, by rw [h2]; rfl⟩
theorem allBls_ok {K : PySem.W.Frag} {G : Hp} : ∀ {vs : List V} {ds : List D} {ns : List Bool}, FzL K G vs ds → allBls ds = some ns → vs = ns.map V.bl
  | _, [], _, .nil, e => by simp only [allBls, Option.some.injEq] at e; subst e; rfl
  | _, d :: r, ns, .cons h t, e => by
    cases h <;> simp only [allBls, reduceCtorEq] at e
    obtain ⟨ms, e', rfl⟩ := Option.map_eq_some_iff.mp e
    rw [allBls_ok t e']; rfl
theorem foldl_min (l : List Int) : ∀ a : Int, (l.foldl min a = a ∨ l.foldl min a ∈ l) ∧ l.foldl min a ≤ a ∧ ∀ y ∈ l, l.foldl min a ≤ y := by
  induction l with
  | nil => intro a; simp
  | cons b r ih =>
    intro a
    obtain ⟨h1, h2, h3⟩ := ih (min a b)
    simp only [List.foldl_cons]
    refine ⟨?_, by omega, fun y hy => ?_⟩
    · rcases h1 with h1 | h1
      · by_cases hab : a ≤ b
        · left; rw [h1]; omega
        · right; rw [h1]; have : min a b = b := by omega
          rw [this]; simp
      · right; exact List.mem_cons_of_mem _ h1
    · rcases List.mem_cons.mp hy with e | hy
      · subst e; omega
      · exact h3 y hy
theorem foldl_max (l : List Int) : ∀ a : Int, (l.foldl max a = a ∨ l.foldl max a ∈ l) ∧ a ≤ l.foldl max a ∧ ∀ y ∈ l, y ≤ l.foldl max a := by
  induction l with
  | nil => intro a; simp
  | cons b r ih =>
    intro a
    obtain ⟨h1, h2, h3⟩ := ih (max a b)
    simp only [List.foldl_cons]
    refine ⟨?_, by omega, fun y hy => ?_⟩
    · rcases h1 with h1 | h1
      · by_cases hab : b ≤ a
        · left; rw [h1]; omega
        · right; rw [h1]; have : max a b = b := by omega
          rw [this]; simp
      · right; exact List.mem_cons_of_mem _ h1
    · rcases List.mem_cons.mp hy with e | hy
      · subst e; omega
      · exact h3 y hy
theorem bi_ok {X : Cx} (hc : X.calm = true) (f : BI) : ∃ r : List V → Hp → VK → Prop, ((f = .int ∧ CallR X (.type "int") r) ∨ (f ≠ .int ∧ CallR X (.builtin (match f with | .min2 => "min" | .max2 => "max" | .abs => "abs" | .int => "int" | .minL => "min" | .maxL => "max" | .sum => "sum" | .any => "any" | .all => "all")) r)) ∧
    ∀ {G H : Hp} {vs : List V} {ds : List D} {d : D} {Q : VK}, Same G H → FzL X.K G vs ds → biD f ds = some d → (∀ v, OwA X.K G H v d [] → Q v H) → r vs H Q := by
  cases f with
  | min2 =>
    refine ⟨_, .inr ⟨by decide, call_min2 hc⟩, fun {G H vs ds d Q} s fl e q => ?_⟩
    match ds, fl, e with
    | [.int i, .int j], .cons (.int _) (.cons (.int _) .nil), e => cases e; exact ⟨i, j, rfl, q _ (.int _)⟩
  | max2 =>
    refine ⟨_, .inr ⟨by decide, call_max2 hc⟩, fun {G H vs ds d Q} s fl e q => ?_⟩
    match ds, fl, e with
    | [.int i, .int j], .cons (.int _) (.cons (.int _) .nil), e => cases e; exact ⟨i, j, rfl, q _ (.int _)⟩
  | abs =>
    refine ⟨_, .inr ⟨by decide, call_abs⟩, fun {G H vs ds d Q} s fl e q => ?_⟩
    match ds, fl, e with
    | [.int i], .cons (.int _) .nil, e => cases e; exact ⟨i, rfl, q _ (.int _)⟩
  | int =>
    refine ⟨_, .inl ⟨rfl, call_int1⟩, fun {G H vs ds d Q} s fl e q => ?_⟩
    match ds, fl, e with
    | [.int i], .cons (.int _) .nil, e => cases e; exact .inl ⟨i, rfl, q _ (.int _)⟩
  | minL =>
    refine ⟨_, .inr ⟨by decide, cr_min hc⟩, fun {G H vs ds d Q} s fl e q => ?_⟩
    match ds, fl, e with
    | [.lst l], .cons (.lst hl r) .nil, e =>
      simp only [biD] at e
      obtain ⟨ns, e1, e2⟩ := Option.bind_eq_some_iff.mp e
      obtain ⟨m, e3, rfl⟩ := Option.map_eq_some_iff.mp e2
      obtain ⟨rfl, rfl⟩ := allInts_ok r e1
      cases ns with
      | nil => simp [minL] at e3
      | cons a r' =>
        simp only [minL, Option.some.injEq] at e3
        obtain ⟨h1, h2, h3⟩ := foldl_min r' a
        refine ⟨_, _, rfl, .inl (.inl (s _ _ hl)), Nat.succ_pos _, fun m' hm hle => ?_⟩
        have e : m' = m := by
          rw [← e3]
          have u1 : m' ≤ r'.foldl min a := by
            rcases h1 with h1 | h1
            · rw [h1]; exact hle a List.mem_cons_self
            · exact hle _ (List.mem_cons_of_mem _ h1)
          have u2 : r'.foldl min a ≤ m' := by
            rcases List.mem_cons.mp hm with e | hm
            · rw [e]; exact h2
            · exact h3 _ hm
          omega
        rw [e]; exact q _ (.int _)
  | maxL =>
    refine ⟨_, .inr ⟨by decide, cr_max hc⟩, fun {G H vs ds d Q} s fl e q => ?_⟩
    match ds, fl, e with
    | [.lst l], .cons (.lst hl r) .nil, e =>
      simp only [biD] at e
      obtain ⟨ns, e1, e2⟩ := Option.bind_eq_some_iff.mp e
      obtain ⟨m, e3, rfl⟩ := Option.map_eq_some_iff.mp e2
      obtain ⟨rfl, rfl⟩ := allInts_ok r e1
      cases ns with
      | nil => simp [maxL] at e3
      | cons a r' =>
        simp only [maxL, Option.some.injEq] at e3
        obtain ⟨h1, h2, h3⟩ := foldl_max r' a
        refine ⟨_, _, rfl, .inl (.inl (s _ _ hl)), Nat.succ_pos _, fun m' hm hle => ?_⟩
        have e : m' = m := by
          rw [← e3]
          have u1 : r'.foldl max a ≤ m' := by
            rcases h1 with h1 | h1
            · rw [h1]; exact hle a List.mem_cons_self
            · exact hle _ (List.mem_cons_of_mem _ h1)
          have u2 : m' ≤ r'.foldl max a := by
            rcases List.mem_cons.mp hm with e | hm
            · rw [e]; exact h2
            · exact h3 _ hm
          omega
        rw [e]; exact q _ (.int _)
  | sum =>
    refine ⟨_, .inr ⟨by decide, cr_sum hc⟩, fun {G H vs ds d Q} s fl e q => ?_⟩
    match ds, fl, e with
    | [.lst l], .cons (.lst hl r) .nil, e =>
      simp only [biD] at e
      obtain ⟨ns, e1, rfl⟩ := Option.map_eq_some_iff.mp e
      obtain ⟨rfl, rfl⟩ := allInts_ok r e1
      exact ⟨_, _, rfl, .inl (.inl (s _ _ hl)), q _ (.int _)⟩
  | any =>
    refine ⟨_, .inr ⟨by decide, cr_any hc⟩, fun {G H vs ds d Q} s fl e q => ?_⟩
    match ds, fl, e with
    | [.lst l], .cons (.lst hl r) .nil, e =>
      simp only [biD] at e
      obtain ⟨ns, e1, rfl⟩ := Option.map_eq_some_iff.mp e
      cases allBls_ok r e1
      exact ⟨_, _, rfl, .inl (.inl (s _ _ hl)), q _ (.bl _)⟩
  | all =>
    refine ⟨_, .inr ⟨by decide, cr_all hc⟩, fun {G H vs ds d Q} s fl e q => ?_⟩
    match ds, fl, e with
    | [.lst l], .cons (.lst hl r) .nil, e =>
      simp only [biD] at e
      obtain ⟨ns, e1, rfl⟩ := Option.map_eq_some_iff.mp e
      cases allBls_ok r e1
      exact ⟨_, _, rfl, .inl (.inl (s _ _ hl)), q _ (.bl _)⟩
theorem se_bi {f : BI} {as : IE} (hs : SL c as) : SE c (.bi f as) := by
  intro X Γ z W x k ok t
  cases x <;> try (simp only [okE, Bool.false_eq_true] at ok; done)
  rename_i g0_ xs ks p
  obtain ⟨g, pg, rfl, rfl⟩ : ∃ g pg, g0_ = (.Name g pg) ∧ ks = [] := by
    cases g0_ <;> try exact absurd (show false = true from ok) Bool.false_ne_true
    rename_i q1_ q2_
    cases ks <;> try exact absurd (show false = true from ok) Bool.false_ne_true
    exact ⟨_, _, rfl, rfl⟩
  simp only [okE, Bool.and_eq_true, decide_eq_true_eq] at ok
  obtain ⟨rfl, h2, h3, h4, hh⟩ := ok
  have hh : c.hot = false := by simpa using hh
  cases xs with
  | nil => simp at h4
  | cons x xs =>
    obtain ⟨a, q, rfl, ha, na, hq⟩ := okL_cons h3
    obtain ⟨g1, g2⟩ := gl_of h2
    obtain ⟨r, hr, hq'⟩ := bi_ok (k.calm hh) f
    have pa := hs X Γ z W (x :: xs) k h3 t
    have pe : PE X (.Call (.Name (biN f) pg) (x :: xs) [] p) (tCB r (tG X.K X.mg z Γ W (rL X.K) (runL c.T (.cons a q)))) := by
      rcases hr with ⟨rfl, hr⟩ | ⟨hn, hr⟩
      · exact pe_callTy hr g1 (k.blt _ (by decide)) (by decide +kernel) pa (by decide) g2 (star_of na) (any_star hq)
      · cases f <;> first
          | exact pe_callB hr g1 (k.blt _ (by decide)) (by decide +kernel) pa (by decide) g2 (star_of na) (any_star hq)
          | exact absurd rfl hn
    refine PE.imp pe fun σ H Q q => ?_
    refine (tG.fstL q).mono fun vs H1 q1 => ?_
    obtain ⟨ds, G, ρ, os, st, fl, g⟩ := q1
    obtain ⟨d, e, g⟩ := g.opt
    exact hq' st.sm fl e fun v f => GP.ok_A st f g
end OS
/-! sorted of tuples of ints, any number of them -/
namespace SrtO
open PySem PyProof.Rows Srt
section
variable {prog : Program} {w : World} {A : Around} {E : Value → Shared → Prop} {s : Shared}
abbrev ltT (k : Value → List Int) (v u : Value) : Bool := HT.lexLt (k v) (k u)
/-- the end of the walk over the two tuples' items -/
def lexV : List Int → List Int → Bool → Bool
  | [], _, b => b
  | _ :: _, [], b => b
  | x :: xs, y :: ys, b => if x = y then lexV xs ys b else decide (x < y)
theorem lexV_lt : ∀ xs ys : List Int, lexV xs ys (decide (xs.length < ys.length)) = HT.lexLt xs ys
  | [], [] => rfl
  | [], y :: ys => by
    show decide (0 < ys.length + 1) = true
    exact decide_eq_true (by omega)
  | x :: xs, [] => by
    show decide (xs.length + 1 < 0) = false
    exact decide_eq_false (by omega)
  | x :: xs, y :: ys => by
    show (if x = y then lexV xs ys (decide (xs.length + 1 < ys.length + 1)) else decide (x < y)) = _
    rw [HT.lexLt_cons]
    by_cases e : x = y
    · rw [if_pos e, if_pos e, ← lexV_lt xs ys]
      congr 1
      exact decide_eq_decide.mpr ⟨fun h => by omega, fun h => by omega⟩
    · rw [if_neg e, if_neg e]
theorem lex_any {b fin : Bool} {Q : Bool → Shared → Prop} {xs ys : List Value} {ns ms : List Int} (i : Nat) (hx : IntsAre xs ns) (hy : IntsAre ys ms) (h : Q (lexV ns ms fin) s) : PySem.W.KatLex prog w A b fin Q (xs.zip ys) i s := by
  induction hx generalizing ys ms i with
  | nil => exact h
  | @cons p t xs ns hx ih =>
    cases hy with
    | nil => exact h
    | @cons q u ys ms hy =>
      show PySem.W.KatLex prog w A b fin Q ((Value.int p t, Value.int q u) :: xs.zip ys) i s
      refine PySem.W.kat_cons (wpAny_eqBool_int ?_)
      have h : Q (if p = q then lexV ns ms fin else decide (p < q)) s := h
      by_cases e : p = q
      · have h2 : Q (lexV ns ms fin) s := by
          rw [if_pos e] at h
          exact h
        subst e
        rw [beq_self_eq_true]
        exact PySem.W.kat_yes (ih (i + 1) hy h2)
      · rw [if_neg e] at h
        rw [show (p == q) = false from beq_eq_false_iff_ne.mpr e]
        exact PySem.W.kat_no (TS.oneLt_ints _ h)
def TupsAre (h : Heap) (k : Value → List Int) (vs : List Value) : Prop := ∀ v ∈ vs, TS.TupInts h v (k v) ∧ k v ≠ []
theorem TupsAre.keeps {h h' : Heap} {k : Value → List Int} {vs : List Value} (x : TupsAre h k vs) (q : ∀ b o, h.get? b = some o → o.cls = .type "tuple" → h'.get? b = some o) : TupsAre h' k vs := fun v hv => ⟨(x v hv).1.keeps q, (x v hv).2⟩
theorem firstsT {h : Heap} {k : Value → List Int} : ∀ vs : List Value, TupsAre h k vs → ∃ fs, PySem.W.KatTups h vs fs ∧ fs.length = vs.length ∧ ∀ f, f ∈ fs → ∃ n t, f = Value.int n t
  | [], _ => ⟨[], PySem.W.KatTups.nil, rfl, fun f hf => by simp at hf⟩
  | v :: vs, x => by
    obtain ⟨fs, kk, hl, hi⟩ := firstsT vs fun u hu => x u (List.mem_cons_of_mem _ hu)
    obtain ⟨⟨a, xs, rfl, ⟨o, ho, hc, n, hdt⟩, i⟩, hn⟩ := x v List.mem_cons_self
    obtain ⟨y, ys, e⟩ : ∃ y ys, xs.toList = y :: ys := by
      cases q : xs.toList with
      | nil =>
        rw [q] at i
        have l := i.length
        rw [List.length_nil] at l
        exact absurd (List.length_eq_zero_iff.mp l.symm) hn
      | cons y ys => exact ⟨y, ys, rfl⟩
    obtain ⟨m, t, hy⟩ := i.all y (by rw [e]; exact List.mem_cons_self)
    refine ⟨y :: fs, PySem.W.KatTups.cons ho hc hdt ?_ kk, by simp [hl], ?_⟩
    · have z := congrArg (fun l : List Value => l[0]?) e
      simpa using z
    · intro f hf
      rcases List.mem_cons.mp hf with rfl | hf
      · exact ⟨m, t, hy⟩
      · exact hi f hf
theorem tup_cmp {vs : List Value} {k : Value → List Int} (x : TupsAre s.heap k vs) : Cmp prog w A s (tuples' true) (fun p => p.1 ∈ vs) (lt2 (ltT k)) := by
  intro p q hm hm'
  obtain ⟨tp, _⟩ := x _ hm
  obtain ⟨tq, _⟩ := x _ hm'
  show wpAny (model prog w) A (keyLt' (tuples' true) p.1 q.1) (fun r s' => s' = s ∧ r = HT.lexLt (k p.1) (k q.1)) (fun _ _ => False) s
  generalize k p.1 = ns at tp ⊢
  generalize k q.1 = ms at tq ⊢
  obtain ⟨a, xs, e1, ⟨o, ho, hc, n, hdt⟩, i⟩ := tp
  obtain ⟨a', ys, e2, ⟨o', ho', hc', n', hdt'⟩, i'⟩ := tq
  rw [e1, e2]
  refine PySem.W.kat_lt ho hdt ho' hdt' (lex_any 0 i i' ⟨rfl, ?_⟩)
  have l1 := i.length
  have l2 := i'.length
  rw [Array.length_toList] at l1 l2
  rw [l1, l2]
  exact lexV_lt ns ms
theorem tups_sortableO {a : Addr} {vs : List Value} {k : Value → List Int} (h0 : 0 < vs.length) (x : TupsAre s.heap k vs) (ha : ∀ o, s.heap.get? a = some o → o.cls ≠ .type "tuple") : SortableO prog w A s a vs (ltT k) := by
  intro h' keep
  have x' : TupsAre h' k vs := x.keeps fun b o e c => keep b o (fun z => by subst z; exact ha o e c) e
  obtain ⟨fs, h1, h2, h3⟩ := firstsT vs x'
  refine ⟨tuples' true, fun Q E hq => ?_, tup_cmp x'⟩
  refine PySem.W.kat_kind (T := .type "int") h1 (by omega) (fun f hm => ?_) (by rfl) ?_
  · obtain ⟨n, t, rfl⟩ := h3 f hm
    exact PySem.W.Looks.now
  · have e : (Value.type "int" != Value.type "tuple") = true := by first | decide +kernel | rfl | decide
    rw [e]
    exact hq
theorem sorted_tupsO {l : Addr} {vs : List Value} {k : Value → List Int} {Q : Value → Shared → Prop} (hl : s.heap.IsList l vs.toArray) (hz : vs.length ≤ sizeLine) (x : TupsAre s.heap k vs)
    (h : ∀ (h' : Heap) (d : Addr) (out : List Value), Srtd (ltT k) out → Stb (ltT k) out vs → (∀ b o, s.heap.get? b = some o → h'.get? b = some o) → s.heap.objs.size ≤ d → (∃ n, h'.get? d = some (seqObj "list" out.toArray n)) → Q (.ref d) { s with heap := h' }) :
    wpAny (model prog w) A (call (.builtin "sorted") [.ref l]) Q E s := by
  refine sorted_ord (NtL.swo_lexL k) hl hz (fun h2 h₁ a ha kk => ?_) fun out hs hb => ?_
  · refine tups_sortableO (s := { s with heap := h₁ }) (by omega) (x.keeps fun b o e _ => (kk b o e).2) fun o e => ?_
    have e' : some o = some (seqObj "list" vs.toArray 0) := e.symm.trans ha
    cases e'
    intro c
    exact absurd (Value.type.inj c) (by decide)
  · exact h _ _ out hs hb (fun b o e => sortedAll_old e) (Nat.le_succ _) (sortedAll_at s.heap vs out.toArray)
end
end SrtO
namespace L2
open PySem PySem.Spec PyProof.Rows
/-- the keys of a list's items -/
inductive TupsR (K : PySem.W.Frag) (H : Hp) : List V → List (List Int) → Prop
  | nil : TupsR K H [] []
  | cons {x : V} {l : List Int} {xs : List V} {ks : List (List Int)} : TupI K H x l → l ≠ [] → TupsR K H xs ks → TupsR K H (x :: xs) (l :: ks)
/-- sorted(xs), xs a list of tuples of ints, none empty: a new list, sorted, of the same -/
def rSortedTO (K : PySem.W.Frag) : List V → Hp → VK → Prop := fun vs H Q => ∃ (a : Addr) (xs : List V) (ks : List (List Int)), vs = [V.ref a] ∧ SqL K H a xs ∧ TupsR K H xs ks ∧
  ∀ (ps : List (V × List Int)) p, SrtO.Srtd HT.lexLt (ps.map (·.2)) → ps.Perm (xs.zip ks) → H p = none → Q (.ref p) (upd H p (.lst (ps.map (·.1))))
section
variable {X : Cx}
open Classical in
theorem tups_key {pins : List (Addr × Obj)} {σ : St} {H : Hp} {s : Shared} (I : Inv X pins σ H s) : ∃ k : V → List Int, ∀ x l, TupI X.K H x l → k x = l := by
  refine ⟨fun x => if h : ∃ l, TupI X.K H x l then Classical.choose h else [], fun x l h => ?_⟩
  have hx : ∃ l, TupI X.K H x l := ⟨l, h⟩
  show (if h : ∃ l, TupI X.K H x l then Classical.choose h else []) = l
  rw [dif_pos hx]
  obtain ⟨t, e, h1⟩ := Classical.choose_spec hx
  obtain ⟨t', e', h2⟩ := h
  rw [e] at e'
  cases e'
  have := I.tuple_inj h1 h2
  have inj : ∀ a b : List Int, a.map V.int = b.map V.int → a = b := by
    intro a
    induction a with
    | nil => intro b e; cases b with
      | nil => rfl
      | cons _ _ => simp at e
    | cons x a ih => intro b e; cases b with
      | nil => simp at e
      | cons y b =>
        simp only [List.map_cons, List.cons.injEq, V.int.injEq] at e
        rw [e.1, ih b e.2]
  exact inj _ _ this
theorem TupsR.mapK {K : PySem.W.Frag} {H : Hp} {k : V → List Int} (hk : ∀ x l, TupI K H x l → k x = l) : ∀ {xs : List V} {ks : List (List Int)}, TupsR K H xs ks → ks = xs.map k ∧ ∀ x ∈ xs, TupI K H x (k x) ∧ k x ≠ []
  | _, _, .nil => ⟨rfl, fun x hx => by simp at hx⟩
  | _, _, .cons h1 h2 t => by
    obtain ⟨e1, e2⟩ := TupsR.mapK hk t
    have e := hk _ _ h1
    refine ⟨by rw [List.map_cons, e, e1], fun x hx => ?_⟩
    rcases List.mem_cons.mp hx with rfl | hx
    · rw [e]; exact ⟨h1, h2⟩
    · exact e2 x hx
theorem cr_sortedTO : CallR X (.builtin "sorted") (rSortedTO X.K) := by
  intro pins s σ H vs us Q I r h
  obtain ⟨a, xs, ks, rfl, hs, hR, q⟩ := h
  obtain ⟨k, hk⟩ := tups_key I
  obtain ⟨rfl, hx⟩ := hR.mapK hk
  obtain ⟨its, rv, hl, hz⟩ := I.list hs
  obtain ⟨u, rfl, ru⟩ := vals1 r
  obtain rfl : u = Value.ref a := ru
  obtain ⟨e1, e2⟩ := refs_back rv fun x m => by
    obtain ⟨⟨t, e, _⟩, _⟩ := hx x m
    exact ⟨t, e⟩
  refine SrtO.sorted_tupsO (k := fun u => k (backV u)) hl.isList (by rw [← rv.length]; exact hz) (fun v hv => ?_) fun h' d out h1 h2 kp hd hn => ?_
  · obtain ⟨t, rfl⟩ := e2 v hv
    have hm : V.ref t ∈ xs := by rw [e1]; exact List.mem_map.mpr ⟨_, hv, rfl⟩
    obtain ⟨⟨t', e, ht⟩, hne⟩ := hx _ hm
    cases e
    exact ⟨tupI_raw I ht, hne⟩
  · have h3 : ∀ u ∈ out, ∃ a, u = Value.ref a := fun u hu => e2 u (h2.perm.mem_iff.mp hu)
    obtain ⟨n, hn⟩ := hn
    have hp : (out.map backV).Perm xs := by
      rw [e1]
      exact h2.perm.map backV
    have hz2 : xs.zip (xs.map k) = xs.map fun x => (x, k x) := by
      have : ∀ l : List V, l.zip (l.map k) = l.map fun x => (x, k x) := by
        intro l
        induction l with
        | nil => rfl
        | cons a l ih => rw [List.map_cons, List.zip_cons_cons, ih, List.map_cons]
      exact this xs
    have q2 := q (out.map fun u => (backV u, k (backV u))) d (by
      rw [List.map_map]
      exact SrtO.srtd_map h1) (by
      rw [hz2]
      have := hp.map fun x => (x, k x)
      rw [List.map_map] at this
      exact this) (I.hok.fresh hd)
    rw [List.map_map] at q2
    refine ⟨.ref d, upd H d (.lst (out.map backV)), I.laid (t' := s.toks) kp hd ⟨?_, out, n, vals_back h3, hn⟩, rfl, q2⟩
    rw [hp.length_eq]
    exact hz
end
end L2
namespace OS
open PySem PySem.Spec PyProof.Rows L2
variable {c : SC}

/-! ### what is owned all through, in a row -/
def rLA (K : PySem.W.Frag) : Rel (List V) (List D) := fun G H v d o => OwAL K G H v d o
section
variable {α β γ δ : Type} {K : PySem.W.Frag} {mg : Str → Option Value} {z : Option (Nat × V × Hp)} {Γ : List Mode} {W : WE0} {rel : Rel β α} {rel1 : Rel δ γ} {G H G1 H1 : Hp} {os os1 : List Addr} {σ : L2.St} {ρ ρ1 : Slots} {Q : β → Hp → Prop}
/-- one step whose outcome may own, then the rest -/
theorem GP.bindO {m : M γ} {f : γ → M α} (h : GP K mg z Γ W rel (M.bind m f ρ) G H os σ Q) :
    GP K mg z Γ W rel1 (m ρ) G H os σ (fun b1 H1 => ∃ a1 G1 ρ1 os1 o1, Stt K z Γ G1 H1 σ ρ1 os1 ∧ rel1 G1 H1 b1 a1 o1 ∧ (o1 ++ os1).Nodup ∧ GP K mg z Γ W rel (f a1 ρ1) G1 H1 (o1 ++ os1) σ Q) := by
  unfold M.bind at h
  cases e : m ρ with
  | ok a =>
    obtain ⟨a, ρ1⟩ := a
    rw [e] at h
    intro G' H' os' b o st hr nd f' s'
    exact ⟨a, G', ρ1, os', o, st, hr, nd, GP.shift f' s' h⟩
  | exn c fs => rw [e] at h; exact h
  | bad => rw [e] at h; exact h
theorem tG.bindO {m : M γ} {f : γ → M α} (h : tG K mg z Γ W rel (M.bind m f) σ H Q) :
    tG K mg z Γ W rel1 m σ H (fun b1 H1 => ∃ a1 G1 ρ1 os1 o1, Stt K z Γ G1 H1 σ ρ1 os1 ∧ rel1 G1 H1 b1 a1 o1 ∧ (o1 ++ os1).Nodup ∧ GP K mg z Γ W rel (f a1 ρ1) G1 H1 (o1 ++ os1) σ Q) := by
  obtain ⟨G, ρ, os, st, h⟩ := h
  exact ⟨G, ρ, os, st, GP.bindO h⟩
end
theorem nodup_dj {os1 os2 o1 o2 : List Addr} {H1 : Hp} (n1 : (o1 ++ os1).Nodup) (there : ∀ a ∈ o1, ∃ u, H1 a = some u) (n2 : (o2 ++ os2).Nodup) (s : Sub H1 os1 (o2 ++ os2)) : ((o1 ++ o2) ++ os2).Nodup := by
  rw [List.append_assoc]
  refine List.nodup_append.mpr ⟨(List.nodup_append.mp n1).1, n2, fun a ha b hb e => ?_⟩
  subst e
  rcases s a hb with q | q
  · exact (List.nodup_append.mp n1).2.2 a ha a q rfl
  · obtain ⟨u, w⟩ := there a ha
    rw [q] at w; cases w
def SLA (c : SC) (e : IE) : Prop := modesA c.T e = true → ∀ (X : Cx) (Γ : List Mode) (z : Option (Nat × V × Hp)) (W : WE0) (x : List PySem.Expr), Cok c X z → okL c X.env.scope Γ e x = true → TkX X W → PA X x (tG X.K X.mg z Γ W (rLA X.K) (runL c.T e))
theorem sla_nil : SLA c .nil := by
  intro _ X Γ z W x k ok t
  cases x with
  | cons _ _ => simp [okL] at ok
  | nil =>
    refine PA.imp pa_nil fun σ H Q q => ?_
    obtain ⟨G, ρ, os, st, h⟩ := q
    exact h G H os [] [] st OwAL.nil (by simpa using st.nd) (Fr.refl st.sm os) (Sub.refl H os)
theorem sla_cons {a r : IE} (ha : SE c a) (hr : SLA c r) : SLA c (.cons a r) := by
  intro md X Γ z W x k ok t
  have md : (decide (modeE c.T a = .all) && modesA c.T r) = true := md
  simp only [Bool.and_eq_true, decide_eq_true_eq] at md
  cases x with
  | nil => simp [okL] at ok
  | cons x xs =>
    simp only [okL, Bool.and_eq_true] at ok
    have pa := ha X Γ z W x k ok.1 t
    rw [md.1] at pa
    refine PA.imp (pa_cons pa (hr md.2 X Γ z W xs k ok.2.2 t) (star_of ok.2.1)) fun σ H Q q => ?_
    have q : tG X.K X.mg z Γ W (rLA X.K) (M.bind (runE c.T a) fun x => M.bind (runL c.T r) fun xs => M.ret (x :: xs)) σ H Q := q
    refine (tG.bindO q).mono fun v H1 q1 => ?_
    obtain ⟨d1, G1, ρ1, os1, o1, st1, hw1, nd1, g⟩ := q1
    refine ⟨G1, ρ1, os1, st1, ?_⟩
    unfold M.bind at g
    cases e : runL c.T r ρ1 with
    | ok p =>
      obtain ⟨ds, ρ2⟩ := p
      rw [e] at g
      intro G2 H2 os2 vs o2 st2 hw2 nd2 f2 s2
      have th : ∀ a ∈ o1, ∃ u, H1 a = some u := fun b hb => (OwA.there hw1 b hb).1
      have dj : ∀ b ∈ o1, b ∉ os1 := fun b hb hb' => (List.nodup_append.mp nd1).2.2 b hb b hb' rfl
      refine g G2 H2 os2 (v :: vs) (o1 ++ o2) st2 (OwAL.cons (OwA.frame f2 hw1 dj) hw2) (nodup_dj nd1 th nd2 s2) (f2.weak fun _ q => List.mem_append_right _ q) fun b hb => ?_
      rw [List.append_assoc] at hb
      rcases List.mem_append.mp hb with hb | hb
      · exact .inl (List.mem_append_left _ hb)
      · exact (s2 b hb).elim (fun q => .inl (List.mem_append_right _ q)) .inr
    | exn c fs =>
      rw [e] at g
      intro G' H' cls dd he fr
      exact g G' H' cls dd he (fr.weak fun _ q => List.mem_append_right _ q)
    | bad => rw [e] at g; exact g
/-- a run of a list of code gives as many values -/
theorem runL_len {T : List Sig} : ∀ (e : IE) {ρ ρ' : Slots} {ds : List D}, runL T e ρ = .ok (ds, ρ') → ds.length = cnt e
  | .nil, ρ, ρ', ds, h => by
    have h : (R.ok ([], ρ) : R (List D × Slots)) = .ok (ds, ρ') := h
    cases h; rfl
  | .cons a r, ρ, ρ', ds, h => by
    have h : (M.bind (runE T a) fun x => M.bind (runL T r) fun xs => M.ret (x :: xs)) ρ = .ok (ds, ρ') := h
    unfold M.bind at h
    cases e1 : runE T a ρ with
    | ok p =>
      rw [e1] at h
      obtain ⟨x, ρ1⟩ := p
      have h : ((runL T r ρ1).bind fun p => M.ret (x :: p.1) p.2) = .ok (ds, ρ') := h
      cases e2 : runL T r ρ1 with
      | ok p2 =>
        rw [e2] at h
        obtain ⟨xs, ρ2⟩ := p2
        have h : (R.ok (x :: xs, ρ2) : R (List D × Slots)) = .ok (ds, ρ') := h
        cases h
        simp [cnt, runL_len r e2]
      | exn c fs => rw [e2] at h; cases h
      | bad => rw [e2] at h; cases h
    | exn c fs => rw [e1] at h; cases h
    | bad => rw [e1] at h; cases h
  | .var _, _, _, _, h => by cases h
  | .int _, _, _, _, h => by cases h
  | .bl _, _, _, _, h => by cases h
  | .non, _, _, _, h => by cases h
  | .str _, _, _, _, h => by cases h
  | .gint _ _, _, _, _, h => by cases h
  | .gstr _ _, _, _, _, h => by cases h
  | .bin _ _ _, _, _, _, h => by cases h
  | .neg _, _, _, _, h => by cases h
  | .cmp _ _ _, _, _, _, h => by cases h
  | .eq _ _ _, _, _, _, h => by cases h
  | .isN _ _, _, _, _, h => by cases h
  | .inn _ _ _, _, _, _, h => by cases h
  | .chn _ _, _, _, _, h => by cases h
  | .lnk _ _ _, _, _, _, h => by cases h
  | .lnkE _ _, _, _, _, h => by cases h
  | .and _ _, _, _, _, h => by cases h
  | .or _ _, _, _, _, h => by cases h
  | .one _, _, _, _, h => by cases h
  | .not _, _, _, _, h => by cases h
  | .ife _ _ _, _, _, _, h => by cases h
  | .idx _ _, _, _, _, h => by cases h
  | .idxO _ _, _, _, _, h => by cases h
  | .sl _ _ _, _, _, _, h => by cases h
  | .slS _ _ _, _, _, _, h => by cases h
  | .rev _, _, _, _, h => by cases h
  | .len _, _, _, _, h => by cases h
  | .lenO _, _, _, _, h => by cases h
  | .call _ _, _, _, _, h => by cases h
  | .callK _ _ _ _, _, _, _, h => by cases h
  | .callD0 _ _, _, _, _, h => by cases h
  | .callIo _ _ _, _, _, _, h => by cases h
  | .bi _ _, _, _, _, h => by cases h
  | .isi _ _, _, _, _, h => by cases h
  | .listOf _, _, _, _, h => by cases h
  | .tupOf _, _, _, _, h => by cases h
  | .rng _, _, _, _, h => by cases h
  | .sortI _, _, _, _, h => by cases h
  | .sortT _, _, _, _, h => by cases h
  | .tup _, _, _, _, h => by cases h
  | .lst _, _, _, _, h => by cases h
  | .cat _ _, _, _, _, h => by cases h
  | .rep _ _, _, _, _, h => by cases h
  | .popL _, _, _, _, h => by cases h
  | .popAt _ _, _, _, _, h => by cases h
  | .index _ _, _, _, _, h => by cases h
  | .pl _, _, _, _, h => by cases h
  | .pli _, _, _, _, h => by cases h
  | .comp _ _ _ _ _, _, _, _, h => by cases h
  | .comp2 _ _ _ _ _ _ _ _ _, _, _, _, h => by cases h
  | .tst _, _, _, _, h => by cases h
  | .tru _, _, _, _, h => by cases h
  | .wSeq _, _, _, _, h => by cases h
  | .wRng1 _, _, _, _, h => by cases h
  | .wRng2 _ _, _, _, _, h => by cases h
theorem small_line {n : Nat} (h : n ≤ 1000) : n ≤ sizeLine := Nat.le_of_lt (small1000 h)
theorem gp_len {K : PySem.W.Frag} {mg : Str → Option Value} {z : Option (Nat × V × Hp)} {Γ : List Mode} {W : WE0} {rel : Rel (List V) (List D)} {e : IE} {T : List Sig} {ρ : Slots} {G H : Hp} {os : List Addr} {σ : L2.St} {Q Q' : List V → Hp → Prop} (hl : cnt e ≤ 1000)
    (hrel : ∀ G H vs ds o, rel G H vs ds o → vs.length = ds.length)
    (h : GP K mg z Γ W rel (runL T e ρ) G H os σ Q) (q : ∀ vs H', vs.length ≤ sizeLine → Q vs H' → Q' vs H') : GP K mg z Γ W rel (runL T e ρ) G H os σ Q' :=
  h.mono fun G' H' os' b a ρ' o er st hr nd fr sb p => q b H' (by rw [hrel _ _ _ _ _ hr, runL_len e er]; exact small_line hl) p
theorem OwAL.length {K : PySem.W.Frag} {G H : Hp} : ∀ {vs : List V} {ds : List D} {o : List Addr}, OwAL K G H vs ds o → vs.length = ds.length
  | _, _, _, .nil => rfl
  | _, _, _, .cons _ r => by rw [List.length_cons, List.length_cons, r.length]
theorem none_G {K : PySem.W.Frag} {z : Option (Nat × V × Hp)} {Γ : List Mode} {G H : Hp} {σ : L2.St} {ρ : Slots} {os : List Addr} (st : Stt K z Γ G H σ ρ os) {p : Addr} (hp : H p = none) : G p = none := by
  cases e : G p with
  | none => rfl
  | some o => rw [st.sm p o e] at hp; cases hp
theorem se_tup {as : IE} (hs : SL c as) (ha : SLA c as) : SE c (.tup as) := by
  intro X Γ z W x k ok t
  cases x <;> try (simp only [okE, Bool.false_eq_true] at ok; done)
  rename_i xs j p
  simp only [okE, Bool.and_eq_true, decide_eq_true_eq] at ok
  show PE X _ (tG X.K X.mg z Γ W (rO X.K (if modesA c.T as then .all else .no)) _)
  by_cases md : modesA c.T as = true
  · rw [if_pos md]
    refine PE.imp (pe_tup (ha md X Γ z W xs k ok.1 t)) fun σ H Q q => ?_
    obtain ⟨G, ρ, os, st, q⟩ := tG.bindO (rel1 := rLA X.K) q
    refine ⟨G, ρ, os, st, gp_len ok.2 (fun _ _ _ _ _ h => OwAL.length h) q fun vs H1 hl q1 => ⟨hl, fun pa hp => ?_⟩⟩
    obtain ⟨ds, G1, ρ1, os1, o1, st1, hw1, nd1, g⟩ := q1
    have gp := none_G st1 hp
    have sG : Same G1 (upd G1 pa (.tup vs)) := fun a o e => by rw [upd_ne (ne_of_none e gp)]; exact e
    have sH : Same (upd G1 pa (.tup vs)) (upd H1 pa (.tup vs)) := fun a o e => by
      by_cases c : a = pa
      · subst c; rw [upd_same] at e ⊢; exact e
      · rw [upd_ne c] at e ⊢; exact st1.sm a o e
    have fr : Fr G1 H1 (upd G1 pa (.tup vs)) (upd H1 pa (.tup vs)) [] := ⟨sG, sH, fun a o e _ => ⟨by rw [upd_ne (ne_of_none e hp)]; exact e, by rw [upd_ne (ne_of_none e hp)]⟩⟩
    exact g _ _ os1 _ o1 (st1.frame fr (fun _ _ q => nomatch q)) (OwA.tup (.inl (.inl upd_same)) (OwAL.frame fr hw1 (fun _ _ q => nomatch q))) nd1 (fr.weak fun _ q => nomatch q) (Sub.refl H1 _)
  · rw [if_neg md]
    refine PE.imp (pe_tup (hs X Γ z W xs k ok.1 t)) fun σ H Q q => ?_
    obtain ⟨G, ρ, os, st, q⟩ := tG.bind (rL_z (K := X.K)) q
    refine ⟨G, ρ, os, st, gp_len ok.2 (fun _ _ _ _ _ h => h.1.length) q fun vs H1 hl q1 => ⟨hl, fun pa hp => ?_⟩⟩
    obtain ⟨ds, G1, ρ1, os1, st1, ⟨fl, _⟩, g⟩ := q1
    exact GP.new_F st1 hp (fun G' _ s e => .tup (.inl (.inl e)) (fl.mono s)) g
theorem se_lst {as : IE} (hs : SL c as) (ha : SLA c as) : SE c (.lst as) := by
  intro X Γ z W x k ok t
  cases x <;> try (simp only [okE, Bool.false_eq_true] at ok; done)
  rename_i xs p
  simp only [okE, Bool.and_eq_true, decide_eq_true_eq] at ok
  show PE X _ (tG X.K X.mg z Γ W (rO X.K (if modesA c.T as then .all else .top)) _)
  by_cases md : modesA c.T as = true
  · rw [if_pos md]
    refine PE.imp (pe_lst (ha md X Γ z W xs k ok.1 t)) fun σ H Q q => ?_
    obtain ⟨G, ρ, os, st, q⟩ := tG.bindO (rel1 := rLA X.K) q
    refine ⟨G, ρ, os, st, gp_len ok.2 (fun _ _ _ _ _ h => OwAL.length h) q fun vs H1 hl q1 => ⟨hl, fun pa hp => ?_⟩⟩
    obtain ⟨ds, G1, ρ1, os1, o1, st1, hw1, nd1, g⟩ := q1
    have gp := none_G st1 hp
    have sH : Same G1 (upd H1 pa (.lst vs)) := fun a o e => by rw [upd_ne (ne_of_none e gp)]; exact st1.sm a o e
    have fr : Fr G1 H1 G1 (upd H1 pa (.lst vs)) [] := ⟨Same.refl G1, sH, fun a o e _ => ⟨by rw [upd_ne (ne_of_none e hp)]; exact e, rfl⟩⟩
    have pn : pa ∉ o1 ++ os1 := fun q => by
      have : ∃ u, H1 pa = some u := (List.mem_append.mp q).elim (fun q => (OwAL.there hw1 pa q).1) fun q => (st1.sl.there pa q).1
      obtain ⟨u, e⟩ := this
      rw [hp] at e; cases e
    exact g _ _ os1 _ (pa :: o1) (st1.frame fr (fun _ _ q => nomatch q)) (OwA.lst upd_same gp (OwAL.frame fr hw1 (fun _ _ q => nomatch q))) (List.nodup_cons.mpr ⟨pn, nd1⟩) (fr.weak fun _ q => nomatch q)
      fun a q => (List.mem_cons.mp q).elim (fun e => .inr (e ▸ hp)) fun q => .inl q
  · rw [if_neg md]
    refine PE.imp (pe_lst (hs X Γ z W xs k ok.1 t)) fun σ H Q q => ?_
    obtain ⟨G, ρ, os, st, q⟩ := tG.bind (rL_z (K := X.K)) q
    refine ⟨G, ρ, os, st, gp_len ok.2 (fun _ _ _ _ _ h => h.1.length) q fun vs H1 hl q1 => ⟨hl, fun pa hp => ?_⟩⟩
    obtain ⟨ds, G1, ρ1, os1, st1, ⟨fl, _⟩, g⟩ := q1
    exact GP.new_O st1 hp fl g

/-! ### isinstance, list, tuple, sorted -/
theorem se_isi {ty : Ty} {a : IE} (ha : SE c a) : SE c (.isi ty a) := by
  intro X Γ z W x k ok t
  cases x <;> try (simp only [okE, Bool.false_eq_true] at ok; done)
  rename_i f xs ks p
  obtain ⟨g, pg, xa, tn, pt, rfl, rfl, rfl⟩ : ∃ g pg xa tn pt, f = (.Name g pg) ∧ xs = (xa :: ((.Name tn pt) :: [])) ∧ ks = [] := by
    cases f <;> try exact absurd (show false = true from ok) Bool.false_ne_true
    rename_i q1_ q2_
    cases xs <;> try exact absurd (show false = true from ok) Bool.false_ne_true
    rename_i q3_ q4_
    cases q4_ <;> try exact absurd (show false = true from ok) Bool.false_ne_true
    rename_i q5_ q6_
    cases q5_ <;> try exact absurd (show false = true from ok) Bool.false_ne_true
    rename_i q7_ q8_
    cases q6_ <;> try exact absurd (show false = true from ok) Bool.false_ne_true
    cases ks <;> try exact absurd (show false = true from ok) Bool.false_ne_true
    exact ⟨_, _, _, _, _, rfl, rfl, rfl⟩
  simp only [okE, Bool.and_eq_true, decide_eq_true_eq] at ok
  obtain ⟨rfl, h2, h3, h4, rfl, h6⟩ := ok
  obtain ⟨g1, g2⟩ := gl_of h2
  obtain ⟨g3, g4⟩ := gl_of h6
  have key : ∃ n : String, PE X (.Name (tyN ty) pt) (tC (.ty n)) ∧ ∀ {G H : Hp} {v : V} {d : D} {b : Bool}, Same G H → Fz X.K G v d → isTy ty d = some b → ∃ tt, TyX X.K H v tt ∧ PySem.W.kitOne X.K tt (.type n) = some b := by
    have tup : ∀ {H : Hp} {a : Addr} {vs : List V}, SqT X.K H a vs → TyX X.K H (.ref a) (.type "tuple") := fun {H a vs} h => by
      rcases h with (h | ⟨o, h⟩) | ⟨o, _, _, h, hc, _⟩
      · exact .base (.tup h)
      · exact .fTuple h
      · exact .kTuple h hc
    cases ty with
    | int =>
      refine ⟨"int", pe_bltn g3 (k.blt _ (by decide)) (by decide +kernel) rfl (by decide) g4, fun {G H v d b} s f e => ?_⟩
      cases f <;> simp only [isTy, reduceCtorEq, Option.some.injEq] at e <;> subst e
      · exact ⟨_, .base .non, kit_ty (by decide +kernel)⟩
      · exact ⟨_, .base (.bl _), kit_ty (by decide +kernel)⟩
      · exact ⟨_, .base (.int _), kit_ty (by decide +kernel)⟩
      · exact ⟨_, .base (.str _), kit_ty (by decide +kernel)⟩
      · rename_i h _; exact ⟨_, tup (Same.sqT s h), kit_ty (by decide +kernel)⟩
      · rename_i h _; exact ⟨_, .base (.lst (s _ _ h)), kit_ty (by decide +kernel)⟩
    | bool =>
      refine ⟨"bool", pe_bltn g3 (k.blt _ (by decide)) (by decide +kernel) rfl (by decide) g4, fun {G H v d b} s f e => ?_⟩
      cases f <;> simp only [isTy, reduceCtorEq, Option.some.injEq] at e <;> subst e
      · exact ⟨_, .base .non, kit_ty (by decide +kernel)⟩
      · exact ⟨_, .base (.bl _), kit_ty (by decide +kernel)⟩
      · exact ⟨_, .base (.int _), kit_ty (by decide +kernel)⟩
      · exact ⟨_, .base (.str _), kit_ty (by decide +kernel)⟩
      · rename_i h _; exact ⟨_, tup (Same.sqT s h), kit_ty (by decide +kernel)⟩
      · rename_i h _; exact ⟨_, .base (.lst (s _ _ h)), kit_ty (by decide +kernel)⟩
    | str =>
      refine ⟨"str", pe_bltn g3 (k.blt _ (by decide)) (by decide +kernel) rfl (by decide) g4, fun {G H v d b} s f e => ?_⟩
      cases f <;> simp only [isTy, reduceCtorEq, Option.some.injEq] at e <;> subst e
      · exact ⟨_, .base .non, kit_ty (by decide +kernel)⟩
      · exact ⟨_, .base (.bl _), kit_ty (by decide +kernel)⟩
      · exact ⟨_, .base (.int _), kit_ty (by decide +kernel)⟩
      · exact ⟨_, .base (.str _), kit_ty (by decide +kernel)⟩
      · rename_i h _; exact ⟨_, tup (Same.sqT s h), kit_ty (by decide +kernel)⟩
      · rename_i h _; exact ⟨_, .base (.lst (s _ _ h)), kit_ty (by decide +kernel)⟩
    | list =>
      refine ⟨"list", pe_bltn g3 (k.blt _ (by decide)) (by decide +kernel) rfl (by decide) g4, fun {G H v d b} s f e => ?_⟩
      cases f <;> simp only [isTy, reduceCtorEq, Option.some.injEq] at e <;> subst e
      · exact ⟨_, .base .non, kit_ty (by decide +kernel)⟩
      · exact ⟨_, .base (.bl _), kit_ty (by decide +kernel)⟩
      · exact ⟨_, .base (.int _), kit_ty (by decide +kernel)⟩
      · exact ⟨_, .base (.str _), kit_ty (by decide +kernel)⟩
      · rename_i h _; exact ⟨_, tup (Same.sqT s h), kit_ty (by decide +kernel)⟩
      · rename_i h _; exact ⟨_, .base (.lst (s _ _ h)), kit_ty (by decide +kernel)⟩
    | tuple =>
      refine ⟨"tuple", pe_bltn g3 (k.blt _ (by decide)) (by decide +kernel) rfl (by decide) g4, fun {G H v d b} s f e => ?_⟩
      cases f <;> simp only [isTy, reduceCtorEq, Option.some.injEq] at e <;> subst e
      · exact ⟨_, .base .non, kit_ty (by decide +kernel)⟩
      · exact ⟨_, .base (.bl _), kit_ty (by decide +kernel)⟩
      · exact ⟨_, .base (.int _), kit_ty (by decide +kernel)⟩
      · exact ⟨_, .base (.str _), kit_ty (by decide +kernel)⟩
      · rename_i h _; exact ⟨_, tup (Same.sqT s h), kit_ty (by decide +kernel)⟩
      · rename_i h _; exact ⟨_, .base (.lst (s _ _ h)), kit_ty (by decide +kernel)⟩
  obtain ⟨n, pn, hk⟩ := key
  refine PE.imp (pe_callB call_isi g1 (k.blt _ (by decide)) (by decide +kernel) (pa_cons (ha.F (z := z) k h3 t) (pa_cons pn pa_nil) (star_of h4)) (by decide) g2 (star_of h4)) fun σ H Q q => ?_
  refine (tG.fst q).mono fun v H1 q1 => ?_
  obtain ⟨d1, G, ρ, os, st, f, g⟩ := q1
  obtain ⟨d, e, g⟩ := g.opt
  obtain ⟨b, e', rfl⟩ := Option.map_eq_some_iff.mp e
  obtain ⟨tt, h7, h8⟩ := hk st.sm f e'
  exact ⟨v, .ty n, tt, _, b, rfl, .ty n, h7, h8, GP.ok_A st (.bl _) g⟩
theorem se_listOf {a : IE} (ha : SE c a) : SE c (.listOf a) := by
  intro X Γ z W x k ok t
  cases x <;> try (simp only [okE, Bool.false_eq_true] at ok; done)
  rename_i f0_ as ks p
  obtain ⟨f, pf, xa, rfl, rfl, rfl⟩ : ∃ f pf xa, f0_ = (.Name f pf) ∧ as = (xa :: []) ∧ ks = [] := by
    cases f0_ <;> try exact absurd (show false = true from ok) Bool.false_ne_true
    rename_i q1_ q2_
    cases as <;> try exact absurd (show false = true from ok) Bool.false_ne_true
    rename_i q3_ q4_
    cases q4_ <;> try exact absurd (show false = true from ok) Bool.false_ne_true
    cases ks <;> try exact absurd (show false = true from ok) Bool.false_ne_true
    exact ⟨_, _, _, rfl, rfl, rfl⟩
  simp only [okE, Bool.and_eq_true, decide_eq_true_eq] at ok
  obtain ⟨rfl, h0, h1, h2⟩ := ok
  obtain ⟨g1, g2⟩ := gl_of h0
  refine PE.imp (pe_callTy call_list_of g1 (k.blt _ (by decide)) (by decide +kernel) (pa_cons (ha.F (z := z) k h1 t) pa_nil (star_of h2)) (by decide) g2 (star_of h2)) fun σ H Q q => ?_
  refine (tG.fst q).mono fun x H1 q1 => ?_
  obtain ⟨d1, G, ρ, os, st, f1, g⟩ := q1
  cases f1 with
  | lst hx r => exact ⟨_, _, rfl, .inl (.inl (.inl (st.sm _ _ hx))), fun l hl => GP.new_O st hl r g⟩
  | tup hx r => exact ⟨_, _, rfl, .inr (Same.sqT st.sm hx), fun l hl => GP.new_O st hl r g⟩
  | _ => exact (show False from g).elim
theorem se_tupOf {a : IE} (ha : SE c a) : SE c (.tupOf a) := by
  intro X Γ z W x k ok t
  cases x <;> try (simp only [okE, Bool.false_eq_true] at ok; done)
  rename_i f0_ as ks p
  obtain ⟨f, pf, xa, rfl, rfl, rfl⟩ : ∃ f pf xa, f0_ = (.Name f pf) ∧ as = (xa :: []) ∧ ks = [] := by
    cases f0_ <;> try exact absurd (show false = true from ok) Bool.false_ne_true
    rename_i q1_ q2_
    cases as <;> try exact absurd (show false = true from ok) Bool.false_ne_true
    rename_i q3_ q4_
    cases q4_ <;> try exact absurd (show false = true from ok) Bool.false_ne_true
    cases ks <;> try exact absurd (show false = true from ok) Bool.false_ne_true
    exact ⟨_, _, _, rfl, rfl, rfl⟩
  simp only [okE, Bool.and_eq_true, decide_eq_true_eq] at ok
  obtain ⟨rfl, h0, h1, h2⟩ := ok
  obtain ⟨g1, g2⟩ := gl_of h0
  refine PE.imp (pe_callTy call_tuple_of g1 (k.blt _ (by decide)) (by decide +kernel) (pa_cons (ha.F (z := z) k h1 t) pa_nil (star_of h2)) (by decide) g2 (star_of h2)) fun σ H Q q => ?_
  refine (tG.fst q).mono fun x H1 q1 => ?_
  obtain ⟨d1, G, ρ, os, st, f1, g⟩ := q1
  cases f1 with
  | lst hx r => exact ⟨_, _, rfl, .inl ⟨.inl (.inl (st.sm _ _ hx)), fun l hl => GP.new_F st hl (fun G' _ s e => .tup (.inl (.inl e)) (r.mono s)) g⟩⟩
  | tup hx r => exact ⟨_, _, rfl, .inr ⟨Same.sqT st.sm hx, GP.ok_F st (.tup hx r) g⟩⟩
  | _ => exact (show False from g).elim
theorem OwAL.ints {K : PySem.W.Frag} {G H : Hp} : ∀ {ns : List Int}, OwAL K G H (ns.map V.int) (ns.map D.int) []
  | [] => .nil
  | n :: r => OwAL.cons (o := []) (os := []) (.int n) OwAL.ints
theorem insZ_perm (n : Int) : ∀ l : List Int, (insZ n l).Perm (n :: l)
  | [] => .refl _
  | m :: r => by
    unfold insZ
    split
    · exact .refl _
    · exact ((insZ_perm n r).cons m).trans (.swap n m r)
theorem sortZ_perm : ∀ l : List Int, (sortZ l).Perm l
  | [] => .refl _
  | n :: r => (insZ_perm n _).trans ((sortZ_perm r).cons n)
theorem insZ_sorted (n : Int) : ∀ l : List Int, l.Pairwise (· ≤ ·) → (insZ n l).Pairwise (· ≤ ·)
  | [], _ => by simp [insZ]
  | m :: r, h => by
    unfold insZ
    have h' := List.pairwise_cons.mp h
    split
    · rename_i e
      refine List.pairwise_cons.mpr ⟨fun y hy => ?_, h⟩
      rcases List.mem_cons.mp hy with rfl | hy
      · exact e
      · exact Int.le_trans e (h'.1 y hy)
    · rename_i e
      refine List.pairwise_cons.mpr ⟨fun y hy => ?_, insZ_sorted n r h'.2⟩
      rcases List.mem_cons.mp ((insZ_perm n r).mem_iff.mp hy) with rfl | hy
      · omega
      · exact h'.1 y hy
theorem sortZ_sorted : ∀ l : List Int, (sortZ l).Pairwise (· ≤ ·)
  | [] => by simp [sortZ]
  | n :: r => insZ_sorted n _ (sortZ_sorted r)
theorem sorted_eq : ∀ {l k : List Int}, l.Perm k → l.Pairwise (· ≤ ·) → k.Pairwise (· ≤ ·) → l = k
  | [], k, p, _, _ => by rw [List.nil_perm.mp p]
  | a :: l, [], p, _, _ => by have := p.length_eq; simp at this
  | a :: l, b :: k, p, h1, h2 => by
    have h1' := List.pairwise_cons.mp h1
    have h2' := List.pairwise_cons.mp h2
    have e : a = b := by
      have ha : a ∈ b :: k := p.mem_iff.mp List.mem_cons_self
      have hb : b ∈ a :: l := p.mem_iff.mpr List.mem_cons_self
      have u1 : b ≤ a := (List.mem_cons.mp ha).elim (fun e => Int.le_of_eq e.symm) fun q => h2'.1 a q
      have u2 : a ≤ b := (List.mem_cons.mp hb).elim (fun e => Int.le_of_eq e.symm) fun q => h1'.1 b q
      omega
    subst e
    rw [sorted_eq (List.Perm.cons_inv p) h1'.2 h2'.2]
theorem se_sortI {a : IE} (ha : SE c a) : SE c (.sortI a) := by
  intro X Γ z W x k ok t
  cases x <;> try (simp only [okE, Bool.false_eq_true] at ok; done)
  rename_i f0_ as ks p
  obtain ⟨f, pf, xa, rfl, rfl, rfl⟩ : ∃ f pf xa, f0_ = (.Name f pf) ∧ as = (xa :: []) ∧ ks = [] := by
    cases f0_ <;> try exact absurd (show false = true from ok) Bool.false_ne_true
    rename_i q1_ q2_
    cases as <;> try exact absurd (show false = true from ok) Bool.false_ne_true
    rename_i q3_ q4_
    cases q4_ <;> try exact absurd (show false = true from ok) Bool.false_ne_true
    cases ks <;> try exact absurd (show false = true from ok) Bool.false_ne_true
    exact ⟨_, _, _, rfl, rfl, rfl⟩
  simp only [okE, Bool.and_eq_true, decide_eq_true_eq] at ok
  obtain ⟨rfl, h0, h1, h2⟩ := ok
  obtain ⟨g1, g2⟩ := gl_of h0
  refine PE.imp (pe_callB cr_sortedI g1 (k.blt _ (by decide)) (by decide +kernel) (pa_cons (ha.F (z := z) k h1 t) pa_nil (star_of h2)) (by decide) g2 (star_of h2)) fun σ H Q q => ?_
  refine (tG.fst q).mono fun x H1 q1 => ?_
  obtain ⟨d1, G, ρ, os, st, f1, g⟩ := q1
  cases f1 with
  | lst hx r =>
    obtain ⟨d, e, g2⟩ := g.opt
    obtain ⟨ns, e', rfl⟩ := Option.map_eq_some_iff.mp e
    obtain ⟨rfl, rfl⟩ := allInts_ok r e'
    refine ⟨_, ns, rfl, .inl (.inl (st.sm _ _ hx)), fun ns' l pm so hl => ?_⟩
    have e : ns' = sortZ ns := sorted_eq (pm.trans (sortZ_perm ns).symm) so (sortZ_sorted ns)
    rw [e]
    exact GP.new_A st hl OwAL.ints g2
  | _ => exact (show False from g).elim
/-! ### sorted tuples -/
theorem lex_anti : ∀ a b : List Int, HT.lexLt a b = false → HT.lexLt b a = false → a = b
  | [], [], _, _ => rfl
  | [], _ :: _, h, _ => by rw [HT.lexLt_nil_cons] at h; cases h
  | _ :: _, [], _, h => by rw [HT.lexLt_nil_cons] at h; cases h
  | x :: a, y :: b, h1, h2 => by
    rw [HT.lexLt_cons] at h1 h2
    by_cases e : x = y
    · rw [if_pos e] at h1
      rw [if_pos e.symm] at h2
      rw [e, lex_anti a b h1 h2]
    · rw [if_neg e] at h1
      rw [if_neg (Ne.symm e)] at h2
      have := of_decide_eq_false h1
      have := of_decide_eq_false h2
      omega
theorem srt_mem {n m : List Int} : ∀ {l : List (List Int)}, m ∈ insT n l → m = n ∨ m ∈ l
  | [], h => .inl (by simpa [insT] using h)
  | k :: r, h => by
    unfold insT at h
    by_cases q : HT.lexLt k n = true
    · rw [if_pos q] at h
      rcases List.mem_cons.mp h with e | h
      · exact .inr (e ▸ List.mem_cons_self)
      · exact (srt_mem h).imp id fun q => List.mem_cons_of_mem _ q
    · rw [if_neg q] at h
      rcases List.mem_cons.mp h with e | h
      · exact .inl e
      · exact .inr h
theorem insT_perm {n : List Int} : ∀ {l : List (List Int)}, (insT n l).Perm (n :: l)
  | [] => .refl _
  | k :: r => by
    unfold insT
    by_cases q : HT.lexLt k n = true
    · rw [if_pos q]
      exact (insT_perm.cons k).trans (.swap n k r)
    · rw [if_neg q]
theorem insT_srt {n : List Int} : ∀ {l : List (List Int)}, l.Pairwise (fun x y => HT.lexLt y x = false) → (insT n l).Pairwise (fun x y => HT.lexLt y x = false)
  | [], _ => List.pairwise_singleton _ _
  | k :: r, h => by
    have h' := List.pairwise_cons.mp h
    unfold insT
    by_cases q : HT.lexLt k n = true
    · rw [if_pos q]
      refine List.pairwise_cons.mpr ⟨fun y hy => ?_, insT_srt h'.2⟩
      rcases srt_mem hy with rfl | hy
      · exact NtL.lex_asym _ _ q
      · exact h'.1 y hy
    · rw [if_neg q]
      have q : HT.lexLt k n = false := by simpa using q
      refine List.pairwise_cons.mpr ⟨fun y hy => ?_, h⟩
      rcases List.mem_cons.mp hy with rfl | hy
      · exact q
      · exact NtL.lex_tr _ _ _ q (h'.1 y hy)
theorem sortTs_perm : ∀ l : List (List Int), (sortTs l).Perm l
  | [] => .refl _
  | n :: r => insT_perm.trans ((sortTs_perm r).cons n)
theorem sortTs_srt : ∀ l : List (List Int), (sortTs l).Pairwise (fun x y => HT.lexLt y x = false)
  | [] => List.Pairwise.nil
  | _ :: r => insT_srt (sortTs_srt r)
theorem sortT_eq : ∀ {l k : List (List Int)}, l.Perm k → l.Pairwise (fun x y => HT.lexLt y x = false) → k.Pairwise (fun x y => HT.lexLt y x = false) → l = k
  | [], k, p, _, _ => by rw [List.nil_perm.mp p]
  | a :: l, [], p, _, _ => by have := p.length_eq; simp at this
  | a :: l, b :: k, p, h1, h2 => by
    have h1' := List.pairwise_cons.mp h1
    have h2' := List.pairwise_cons.mp h2
    have e : a = b := by
      have ha : a ∈ b :: k := p.mem_iff.mp List.mem_cons_self
      have hb : b ∈ a :: l := p.mem_iff.mpr List.mem_cons_self
      rcases List.mem_cons.mp ha with e | ha
      · exact e
      · rcases List.mem_cons.mp hb with e | hb
        · exact e.symm
        · exact lex_anti _ _ (h2'.1 a ha) (h1'.1 b hb)
    subst e
    rw [sortT_eq (List.Perm.cons_inv p) h1'.2 h2'.2]
theorem tups_ok {K : PySem.W.Frag} {G H : Hp} (sm : Same G H) : ∀ {vs : List V} {ds : List D} {ks : List (List Int)}, FzL K G vs ds → allTups ds = some ks → TupsR K H vs ks ∧ vs.length = ks.length ∧ ∀ p ∈ vs.zip ks, Fz K G p.1 (.tup (p.2.map .int))
  | _, [], _, .nil, e => by
    have e : some [] = some _ := e
    cases e
    exact ⟨.nil, rfl, fun p hp => by simp at hp⟩
  | _, d :: r, ks, .cons (v := v) h t, e => by
    have e : ((intsT d).bind fun k => if k.isEmpty then none else (allTups r).map (k :: ·)) = some ks := e
    obtain ⟨k, e1, e2⟩ := Option.bind_eq_some_iff.mp e
    by_cases q : k.isEmpty = true
    · rw [if_pos q] at e2; cases e2
    · rw [if_neg q] at e2
      obtain ⟨ks', e3, rfl⟩ := Option.map_eq_some_iff.mp e2
      obtain ⟨a1, a2, a3⟩ := tups_ok sm t e3
      cases h with
      | tup hsq hr =>
        have e1 : allInts _ = some k := e1
        obtain ⟨h1, h2⟩ := allInts_ok hr e1
        subst h1
        subst h2
        refine ⟨.cons ⟨_, rfl, Same.sqT sm hsq⟩ (fun q2 => q (by rw [q2]; rfl)) a1, by rw [List.length_cons, List.length_cons, a2], fun p hp => ?_⟩
        rw [List.zip_cons_cons] at hp
        rcases List.mem_cons.mp hp with rfl | hp
        · exact .tup hsq hr
        · exact a3 p hp
      | _ => cases e1
theorem fzL_of {K : PySem.W.Frag} {G : Hp} : ∀ {ps : List (V × List Int)}, (∀ p ∈ ps, Fz K G p.1 (.tup (p.2.map .int))) → FzL K G (ps.map (·.1)) ((ps.map (·.2)).map fun k => .tup (k.map .int))
  | [], _ => .nil
  | _ :: _, h => .cons (h _ List.mem_cons_self) (fzL_of fun p hp => h p (List.mem_cons_of_mem _ hp))
theorem se_sortT {a : IE} (ha : SE c a) : SE c (.sortT a) := by
  intro X Γ z W x k ok t
  cases x <;> try (simp only [okE, Bool.false_eq_true] at ok; done)
  rename_i f0_ as ks p
  obtain ⟨f, pf, xa, rfl, rfl, rfl⟩ : ∃ f pf xa, f0_ = (.Name f pf) ∧ as = (xa :: []) ∧ ks = [] := by
    cases f0_ <;> try exact absurd (show false = true from ok) Bool.false_ne_true
    rename_i q1_ q2_
    cases as <;> try exact absurd (show false = true from ok) Bool.false_ne_true
    rename_i q3_ q4_
    cases q4_ <;> try exact absurd (show false = true from ok) Bool.false_ne_true
    cases ks <;> try exact absurd (show false = true from ok) Bool.false_ne_true
    exact ⟨_, _, _, rfl, rfl, rfl⟩
  simp only [okE, Bool.and_eq_true, decide_eq_true_eq] at ok
  obtain ⟨rfl, h0, h1, h2⟩ := ok
  obtain ⟨g1, g2⟩ := gl_of h0
  refine PE.imp (pe_callB cr_sortedTO g1 (k.blt _ (by decide)) (by decide +kernel) (pa_cons (ha.F (z := z) k h1 t) pa_nil (star_of h2)) (by decide) g2 (star_of h2)) fun σ H Q q => ?_
  refine (tG.fst q).mono fun x H1 q1 => ?_
  obtain ⟨d1, G, ρ, os, st, f1, g⟩ := q1
  cases f1 with
  | lst hx r =>
    obtain ⟨d, e, g2⟩ := g.opt
    obtain ⟨ks, e', rfl⟩ := Option.map_eq_some_iff.mp e
    obtain ⟨t1, t2, t3⟩ := tups_ok st.sm r e'
    refine ⟨_, _, ks, rfl, .inl (.inl (st.sm _ _ hx)), t1, fun ps l so pm hl => ?_⟩
    have e2 : ((_ : List V).zip ks).map (·.2) = ks := List.map_snd_zip (Nat.le_of_eq t2.symm)
    have pm2 := pm.map (·.2)
    rw [e2] at pm2
    have e3 : ps.map (·.2) = sortTs ks := sortT_eq (pm2.trans (sortTs_perm ks).symm) so (sortTs_srt ks)
    have r2 := fzL_of (K := X.K) (G := G) (ps := ps) fun p hp => t3 p (pm.mem_iff.mp hp)
    rw [e3] at r2
    exact GP.new_O st hl r2 g2
  | _ => exact (show False from g).elim
theorem rgV_own {K : PySem.W.Frag} {G H : Hp} (a b : Int) : OwAL K G H (rgV a b) (rngL a (b - a).toNat) [] := by
  unfold rgV rngL
  generalize (b - a).toNat = n
  have e1 : ((List.range n).map fun i => V.int (a + (i : Nat))) = ((List.range n).map fun (i : Nat) => a + (i : Int)).map V.int := by rw [List.map_map]; rfl
  have e2 : ((List.range n).map fun (i : Nat) => D.int (a + (i : Int))) = ((List.range n).map fun (i : Nat) => a + (i : Int)).map D.int := by rw [List.map_map]; rfl
  rw [e1, e2]
  exact OwAL.ints
theorem se_rng1 {a : IE} (ha : SE c a) : SE c (.rng (.wRng1 a)) := by
  intro X Γ z W x k ok t
  cases x <;> try (simp only [okE, Bool.false_eq_true] at ok; done)
  rename_i f0_ as ks p
  obtain ⟨f, pf, xr, rfl, rfl, rfl⟩ : ∃ f pf xr, f0_ = (.Name f pf) ∧ as = (xr :: []) ∧ ks = [] := by
    cases f0_ <;> try exact absurd (show false = true from ok) Bool.false_ne_true
    rename_i q1_ q2_
    cases as <;> try exact absurd (show false = true from ok) Bool.false_ne_true
    rename_i q3_ q4_
    cases q4_ <;> try exact absurd (show false = true from ok) Bool.false_ne_true
    cases ks <;> try exact absurd (show false = true from ok) Bool.false_ne_true
    exact ⟨_, _, _, rfl, rfl, rfl⟩
  simp only [okE, Bool.and_eq_true, decide_eq_true_eq] at ok
  obtain ⟨rfl, h0, h1, h2, hh⟩ := ok
  have hh : c.hot = false := by simpa using hh
  obtain ⟨g1, g2⟩ := gl_of h0
  cases xr <;> try (simp only [okR, Bool.false_eq_true] at h1; done)
  rename_i f2 as2 ks2 p2
  match f2, as2, ks2, h1, h2 with
  | .Name f2 pf2, [xa], [], h1, h2 =>
    simp only [okR, Bool.and_eq_true, decide_eq_true_eq] at h1
    obtain ⟨rfl, h3, h4, h5⟩ := h1
    obtain ⟨g3, g4⟩ := gl_of h3
    refine PE.imp (pe_listRg (k.calm hh) g1 (k.blt _ (by decide)) (prg_1 g3 (k.blt _ (by decide)) (ha.F (z := z) k h4 t) (star_of h5)) (star_of h2)) fun σ H Q q => ?_
    have q : tG X.K X.mg z Γ W (rO X.K .all) (M.bind (M.bind (runE c.T a) fun x => match x with | .int j => if -(2 ^ 62) ≤ j ∧ j < 2 ^ 62 then M.ret (rngL 0 j.toNat) else M.bad | _ => M.bad) fun l => if l.length ≤ 2 ^ 24 then M.ret (.lst l) else M.bad) σ H Q := q
    have q' : tG X.K X.mg z Γ W (rO X.K .all) (M.bind (runE c.T a) fun x => M.bind (match x with | .int j => if -(2 ^ 62) ≤ j ∧ j < 2 ^ 62 then M.ret (rngL 0 j.toNat) else M.bad | _ => M.bad) fun l => if l.length ≤ 2 ^ 24 then M.ret (.lst l) else M.bad) σ H Q := by
      obtain ⟨G, ρ, os, st, h⟩ := q
      refine ⟨G, ρ, os, st, ?_⟩
      unfold M.bind at h ⊢
      cases e : runE c.T a ρ with
      | ok p => rw [e] at h; exact h
      | exn c fs => rw [e] at h; exact h
      | bad => rw [e] at h; exact h
    refine (tG.fst q').mono fun x H1 q1 => ?_
    obtain ⟨d1, G, ρ, os, st, f1, g⟩ := q1
    cases f1 with
    | int j =>
      by_cases hj : -(2 ^ 62) ≤ j ∧ j < 2 ^ 62
      · simp only [if_pos hj] at g
        have g : GP X.K X.mg z Γ W (rO X.K .all) ((if (rngL 0 j.toNat).length ≤ 2 ^ 24 then M.ret (D.lst (rngL 0 j.toNat)) else M.bad) ρ) G H1 os σ Q := g
        by_cases hl : (rngL 0 j.toNat).length ≤ 2 ^ 24
        · rw [if_pos hl] at g
          have hl2 : j.toNat ≤ 2 ^ 24 := by simpa [rngL] using hl
          refine ⟨j, rfl, ⟨by omega, by omega, hj.1, hj.2, by simpa using hl2⟩, fun q hq => ?_⟩
          have w := rgV_own (K := X.K) (G := G) (H := H1) 0 j
          rw [Int.sub_zero] at w
          exact GP.new_A st hq w g
        · rw [if_neg hl] at g; exact (show False from g).elim
      · simp only [if_neg hj] at g; exact (show False from g).elim
    | _ => exact (show False from g).elim
end OS
namespace OS
open PySem PySem.Spec PyProof.Rows L2
variable {c : SC}

theorem M.bind_assoc {α β γ : Type} (m : M α) (f : α → M β) (g : β → M γ) : M.bind (M.bind m f) g = M.bind m fun x => M.bind (f x) g := by
  funext ρ
  unfold M.bind
  cases m ρ <;> rfl
theorem se_rng2 {a b : IE} (ha : SE c a) (hb : SE c b) : SE c (.rng (.wRng2 a b)) := by
  intro X Γ z W x k ok t
  cases x <;> try (simp only [okE, Bool.false_eq_true] at ok; done)
  rename_i f0_ as ks p
  obtain ⟨f, pf, xr, rfl, rfl, rfl⟩ : ∃ f pf xr, f0_ = (.Name f pf) ∧ as = (xr :: []) ∧ ks = [] := by
    cases f0_ <;> try exact absurd (show false = true from ok) Bool.false_ne_true
    rename_i q1_ q2_
    cases as <;> try exact absurd (show false = true from ok) Bool.false_ne_true
    rename_i q3_ q4_
    cases q4_ <;> try exact absurd (show false = true from ok) Bool.false_ne_true
    cases ks <;> try exact absurd (show false = true from ok) Bool.false_ne_true
    exact ⟨_, _, _, rfl, rfl, rfl⟩
  simp only [okE, Bool.and_eq_true, decide_eq_true_eq] at ok
  obtain ⟨rfl, h0, h1, h2, hh⟩ := ok
  have hh : c.hot = false := by simpa using hh
  obtain ⟨g1, g2⟩ := gl_of h0
  cases xr <;> try (simp only [okR, Bool.false_eq_true] at h1; done)
  rename_i f2 as2 ks2 p2
  match f2, as2, ks2, h1, h2 with
  | .Name f2 pf2, [xa, xb], [], h1, h2 =>
    simp only [okR, Bool.and_eq_true, decide_eq_true_eq] at h1
    obtain ⟨rfl, h3, h4, h5, h6, h7⟩ := h1
    obtain ⟨g3, g4⟩ := gl_of h3
    have hp : (backTo p2 (starEach [xb] X.env)).any (·.1) = false := by rw [star_of (xs := []) h7]; rfl
    refine PE.imp (pe_listRg (k.calm hh) g1 (k.blt _ (by decide)) (prg_2 g3 (k.blt _ (by decide)) (ha.F (z := z) k h4 t) (hb.F (z := z) k h6 t) (star_of h5) (star_of h7) hp) (star_of h2)) fun σ H Q q => ?_
    have q : tG X.K X.mg z Γ W (rO X.K .all) (M.bind (M.bind (runE c.T a) fun x => M.bind (runE c.T b) fun y => match x, y with | .int i, .int j => if -(2 ^ 62) ≤ i ∧ i < 2 ^ 62 ∧ -(2 ^ 62) ≤ j ∧ j < 2 ^ 62 then M.ret (rngL i (j - i).toNat) else M.bad | _, _ => M.bad) fun l => if l.length ≤ 2 ^ 24 then M.ret (.lst l) else M.bad) σ H Q := q
    rw [M.bind_assoc] at q
    simp only [M.bind_assoc] at q
    refine (tG.two q).mono fun x H1 q1 => q1.mono fun y H2 q2 => ?_
    obtain ⟨d1, d2, G, ρ, os, st, f1, f2, g⟩ := q2
    cases f1 with
    | int i =>
      cases f2 with
      | int j =>
        by_cases hj : -(2 ^ 62) ≤ i ∧ i < 2 ^ 62 ∧ -(2 ^ 62) ≤ j ∧ j < 2 ^ 62
        · simp only [if_pos hj] at g
          have g : GP X.K X.mg z Γ W (rO X.K .all) ((if (rngL i (j - i).toNat).length ≤ 2 ^ 24 then M.ret (D.lst (rngL i (j - i).toNat)) else M.bad) ρ) G H2 os σ Q := g
          by_cases hl : (rngL i (j - i).toNat).length ≤ 2 ^ 24
          · rw [if_pos hl] at g
            have hl2 : (j - i).toNat ≤ 2 ^ 24 := by simpa [rngL] using hl
            exact ⟨i, j, rfl, rfl, ⟨hj.1, hj.2.1, hj.2.2.1, hj.2.2.2, hl2⟩, fun q hq => GP.new_A st hq (rgV_own i j) g⟩
          · rw [if_neg hl] at g; exact (show False from g).elim
        · simp only [if_neg hj] at g; exact (show False from g).elim
      | _ => exact (show False from g).elim
    | _ => cases f2 <;> exact (show False from g).elim
theorem se_cat {a b : IE} (ha : SE c a) (hb : SE c b) : SE c (.cat a b) := by
  intro X Γ z W x k ok t
  cases x <;> try (simp only [okE, Bool.false_eq_true] at ok; done)
  rename_i xa op xb p
  cases op <;> try (simp only [okE, Bool.false_eq_true] at ok; done)
  simp only [okE, Bool.and_eq_true] at ok
  refine PE.imp (pe_op op_cat (ha.F (z := z) k ok.1 t) (hb.F (z := z) k ok.2 t)) fun σ H Q q => ?_
  refine (tG.two q).mono fun x H1 q1 => q1.mono fun y H2 q2 => ?_
  obtain ⟨d1, d2, G, ρ, os, st, f1, f2, g⟩ := q2
  cases f1 with
  | lst h1 r1 =>
    cases f2 with
    | lst h2 r2 =>
      rename_i l _ _ l2
      by_cases hl : l.length + l2.length ≤ sizeLine
      · simp only [if_pos hl] at g
        exact ⟨_, _, _, _, rfl, rfl, st.sm _ _ h1, st.sm _ _ h2, by rw [r1.length, r2.length]; exact hl, fun p hp => GP.new_O st hp (r1.append r2) g⟩
      · simp only [if_neg hl] at g; exact (show False from g).elim
    | _ => exact (show False from g).elim
  | _ => cases f2 <;> exact (show False from g).elim
theorem FzL.rep {K : PySem.W.Frag} {G : Hp} {vs : List V} {ds : List D} (h : FzL K G vs ds) : ∀ n : Nat, FzL K G (List.replicate n vs).flatten (List.replicate n ds).flatten
  | 0 => .nil
  | n + 1 => by
    rw [List.replicate_succ, List.replicate_succ, List.flatten_cons, List.flatten_cons]
    exact h.append (h.rep n)
theorem se_rep {a b : IE} (ha : SE c a) (hb : SE c b) : SE c (.rep a b) := by
  intro X Γ z W x k ok t
  cases x <;> try (simp only [okE, Bool.false_eq_true] at ok; done)
  rename_i xa op xb p
  cases op <;> try (simp only [okE, Bool.false_eq_true] at ok; done)
  simp only [okE, Bool.and_eq_true] at ok
  refine PE.imp (pe_op op_rep (ha.F (z := z) k ok.1 t) (hb.F (z := z) k ok.2 t)) fun σ H Q q => ?_
  refine (tG.two q).mono fun x H1 q1 => q1.mono fun y H2 q2 => ?_
  obtain ⟨d1, d2, G, ρ, os, st, f1, f2, g⟩ := q2
  cases f1 with
  | lst h1 r1 =>
    cases f2 with
    | int j =>
      rename_i l
      by_cases hl : l.length * j.toNat ≤ sizeLine ∧ -(2 ^ 63) ≤ j ∧ j < 2 ^ 63
      · simp only [if_pos hl] at g
        exact ⟨_, _, _, rfl, rfl, st.sm _ _ h1, hl.2.1, hl.2.2, by rw [r1.length]; exact hl.1, fun p hp => GP.new_O st hp (r1.rep _) g⟩
      · simp only [if_neg hl] at g; exact (show False from g).elim
    | _ => exact (show False from g).elim
  | _ => cases f2 <;> exact (show False from g).elim

/-! ### methods of lists -/
theorem ixN_lt {n : Nat} {i : Int} {j : Nat} (h : ixN n i = some j) : j < n := (ixN_seq h).2.1
theorem FzL.eraseIdx {K : PySem.W.Frag} {G : Hp} : ∀ {vs : List V} {ds : List D} (i : Nat), FzL K G vs ds → FzL K G (vs.eraseIdx i) (ds.eraseIdx i)
  | _, _, _, .nil => .nil
  | _, _, 0, .cons _ r => r
  | _, _, i + 1, .cons h r => .cons h (r.eraseIdx i)
theorem FzL.dropLast {K : PySem.W.Frag} {G : Hp} {vs : List V} {ds : List D} (h : FzL K G vs ds) : FzL K G vs.dropLast ds.dropLast := by
  rw [List.dropLast_eq_take, List.dropLast_eq_take, h.length]
  exact h.take _
theorem se_popL {i : Nat} : SE c (.popL i) := by
  intro X Γ z W x k ok t
  cases x <;> try (simp only [okE, Bool.false_eq_true] at ok; done)
  rename_i f as ks p
  obtain ⟨x, px, m, ap, rfl, rfl, rfl⟩ : ∃ x px m ap, f = (.Attribute (.Name x px) m ap) ∧ as = [] ∧ ks = [] := by
    cases f <;> try exact absurd (show false = true from ok) Bool.false_ne_true
    rename_i q1_ q2_ q3_
    cases q1_ <;> try exact absurd (show false = true from ok) Bool.false_ne_true
    rename_i q4_ q5_
    cases as <;> try exact absurd (show false = true from ok) Bool.false_ne_true
    cases ks <;> try exact absurd (show false = true from ok) Bool.false_ne_true
    exact ⟨_, _, _, _, rfl, rfl, rfl⟩
  simp only [okE, Bool.and_eq_true, decide_eq_true_eq] at ok
  obtain ⟨rfl, hl, h1, h2, h3, h4, h5⟩ := ok
  refine PE.imp (pe_bm0 PySem.F.plainAttrs_list PySem.F.slot_list_pop PySem.F.type_list_pop mt_pop (pe_var (i := i) (by rw [k.N]; exact h1) (vis_of h2) (dbg_of h4) (dbg_of h5)) rfl (beq_iff_eq.mpr hl)) fun σ H Q q => ?_
  obtain ⟨G, ρ, os, st, h⟩ := q
  have h : GP X.K X.mg z Γ W (rF X.K) (match gS ρ i with | some (.lst l) => (match l[l.length - 1]? with | some d => R.ok (d, sS ρ i (some (.lst l.dropLast))) | none => .bad) | _ => .bad) G H os σ Q := h
  cases e : gS ρ i with
  | none => rw [e] at h; exact (show False from h).elim
  | some d =>
    obtain ⟨a, vs, ds, e1, rfl, ha, fl, put⟩ := st.store e h3
    rw [e] at h
    refine ⟨_, e1, .inl ⟨rfl, _, .inl (.inl ha)⟩, ?_⟩
    cases e2 : ds[ds.length - 1]? with
    | none => simp only [e2] at h; exact (show False from h).elim
    | some d =>
      simp only [e2] at h
      obtain ⟨v, e3, f⟩ := fl.get e2
      refine ⟨a, vs, v, rfl, rfl, ha, by rw [fl.length]; exact e3, ?_⟩
      obtain ⟨st', fr⟩ := put fl.dropLast
      exact h G _ os v [] st' ⟨f, rfl⟩ st.nd fr (Sub.refl H os)
theorem se_popAt {i : Nat} {b : IE} (hb : SE c b) : SE c (.popAt i b) := by
  intro X Γ z W x k ok t
  cases x <;> try (simp only [okE, Bool.false_eq_true] at ok; done)
  rename_i f as ks p
  obtain ⟨x, px, m, ap, xa, rfl, rfl, rfl⟩ : ∃ x px m ap xa, f = (.Attribute (.Name x px) m ap) ∧ as = (xa :: []) ∧ ks = [] := by
    cases f <;> try exact absurd (show false = true from ok) Bool.false_ne_true
    rename_i q1_ q2_ q3_
    cases q1_ <;> try exact absurd (show false = true from ok) Bool.false_ne_true
    rename_i q4_ q5_
    cases as <;> try exact absurd (show false = true from ok) Bool.false_ne_true
    rename_i q6_ q7_
    cases q7_ <;> try exact absurd (show false = true from ok) Bool.false_ne_true
    cases ks <;> try exact absurd (show false = true from ok) Bool.false_ne_true
    exact ⟨_, _, _, _, _, rfl, rfl, rfl⟩
  simp only [okE, Bool.and_eq_true, decide_eq_true_eq] at ok
  obtain ⟨rfl, hl, h1, h2, h3, h4, h5, h6, h7⟩ := ok
  refine PE.imp (pe_bm PySem.F.plainAttrs_list PySem.F.slot_list_pop PySem.F.type_list_pop mt_popAt (pe_var (i := i) (by rw [k.N]; exact h1) (vis_of h2) (dbg_of h4) (dbg_of h5)) (pa_cons (hb.F (z := z) k h6 t) pa_nil (star_of h7)) rfl (by rw [star_of (xs := []) h7]; rfl) (beq_iff_eq.mpr hl) (star_of h7)) fun σ H Q q => ?_
  obtain ⟨G, ρ, os, st, h⟩ := q
  obtain ⟨d, e, h⟩ := GP.has (m := M.bind (runE c.T b) fun x ρ => match gS ρ i, x with
    | some (.lst l), .int k => if -(2 ^ 63) ≤ k ∧ k < 2 ^ 63 then (match ixN l.length k with
      | some j => match l[j]? with | some d => .ok (d, sS ρ i (some (.lst (l.eraseIdx j)))) | none => .bad
      | none => .bad) else .bad
    | _, _ => .bad) h
  obtain ⟨a, vs0, ds0, e1, rfl, ha0, _⟩ := st.store e h3
  refine ⟨_, e1, .inl ⟨rfl, _, .inl (.inl ha0)⟩, G, ρ, os, st, (GP.bind (rF_z (K := X.K)) h).mono fun _ H2 _ y _ _ _ _ _ _ _ _ _ q2 => ?_⟩
  obtain ⟨d2, G2, ρ2, os2, st2, ⟨f2, _⟩, sm, g⟩ := q2
  cases e2 : gS ρ2 i with
  | none => simp only [e2] at g; exact (show False from g).elim
  | some d' =>
    obtain ⟨a', vs, ds, e1', rfl, ha, fl, put⟩ := st2.store e2 h3
    rw [e1] at e1'
    cases e1'
    simp only [e2] at g
    cases f2 with
    | int n =>
      by_cases hn : -(2 ^ 63) ≤ n ∧ n < 2 ^ 63
      case neg => simp only [if_neg hn] at g; exact (show False from g).elim
      simp only [if_pos hn] at g
      cases e3 : ixN ds.length n with
      | none => simp only [e3] at g; exact (show False from g).elim
      | some j =>
        simp only [e3] at g
        cases e4 : ds[j]? with
        | none => simp only [e4] at g; exact (show False from g).elim
        | some dd =>
          simp only [e4] at g
          obtain ⟨v, e5, f⟩ := fl.get e4
          obtain ⟨s1, s2, s3, s4⟩ := ixN_seq e3
          refine ⟨a, vs, n, j, v, rfl, rfl, ha, hn.1, hn.2, by rw [fl.length]; exact s1, e5, ?_⟩
          obtain ⟨st', fr⟩ := put (fl.eraseIdx j)
          exact g G2 _ os2 v [] st' ⟨f, rfl⟩ st2.nd fr (Sub.refl H2 os2)
    | _ => exact (show False from g).elim
theorem findIdx_eq {l : List D} {d : D} {j : Nat} (h : idxOfD l d = some j) : (∃ z, l[j]? = some z ∧ eqD z d = true) ∧ ∀ m z, m < j → l[m]? = some z → eqD z d = false := by
  unfold idxOfD at h
  obtain ⟨hj, h1, h2⟩ := List.findIdx?_eq_some_iff_getElem.mp h
  refine ⟨⟨l[j], List.getElem?_eq_getElem hj, h1⟩, fun m z hm e => ?_⟩
  have hml : m < l.length := by omega
  rw [List.getElem?_eq_getElem hml] at e
  cases e
  have := h2 m hm
  simpa using this
theorem toPL_get : ∀ (l : List D) (j : Nat), (toPL l)[j]? = (l[j]?).map toP
  | [], j => by simp [toPL]
  | d :: r, 0 => by simp [toPL]
  | d :: r, j + 1 => by simp [toPL, toPL_get r j]
theorem eqOkL_mem {n : Nat} : ∀ {l : List D} {j : Nat} {z : D}, eqOkL n l = true → l[j]? = some z → eqOk n z = true
  | [], _, _, _, e => by simp at e
  | d :: r, 0, z, h, e => by
    simp only [eqOkL, Bool.and_eq_true] at h
    simp at e; subst e; exact h.1
  | d :: r, j + 1, z, h, e => by
    simp only [eqOkL, Bool.and_eq_true] at h
    exact eqOkL_mem (j := j) h.2 (by simpa using e)
theorem se_index {a b : IE} (ha : SE c a) (hb : SE c b) : SE c (.index a b) := by
  intro X Γ z W x k ok t
  cases x <;> try (simp only [okE, Bool.false_eq_true] at ok; done)
  rename_i f as ks p
  obtain ⟨xo, m, ap, xb, rfl, rfl, rfl⟩ : ∃ xo m ap xb, f = (.Attribute xo m ap) ∧ as = (xb :: []) ∧ ks = [] := by
    cases f <;> try exact absurd (show false = true from ok) Bool.false_ne_true
    rename_i q1_ q2_ q3_
    cases as <;> try exact absurd (show false = true from ok) Bool.false_ne_true
    rename_i q4_ q5_
    cases q5_ <;> try exact absurd (show false = true from ok) Bool.false_ne_true
    cases ks <;> try exact absurd (show false = true from ok) Bool.false_ne_true
    exact ⟨_, _, _, _, rfl, rfl, rfl⟩
  simp only [okE, Bool.and_eq_true, decide_eq_true_eq] at ok
  obtain ⟨rfl, hl, h1, h2, h3, h4⟩ := ok
  refine PE.imp (pe_bm PySem.F.plainAttrs_list PySem.F.slot_list_index PySem.F.type_list_index (mt_indexD (by have := k.hu; omega)) (ha.F (z := z) k h1 t) (pa_cons (hb.F (z := z) k h3 t) pa_nil (star_of h4)) (base_of h2) (by rw [star_of (xs := []) h4]; rfl) (beq_iff_eq.mpr hl) (star_of h4)) fun σ H Q q => ?_
  obtain ⟨G, ρ, os, st, q⟩ := q
  refine ⟨G, ρ, os, st, (GP.bind (rF_z (K := X.K)) q).mono fun G' H1 _ x d0 ρ' o er st0 hr _ fr0 _ q1 => ?_⟩
  obtain ⟨d1, G1, ρ1, os1, st1, ⟨f1, _⟩, _, g⟩ := q1
  cases f1 with
  | lst hx r =>
    rename_i a' vs l
    refine ⟨.inl ⟨rfl, _, .inl (.inl (st1.sm _ _ hx))⟩, G1, ρ1, os1, st1, (GP.bind (rF_z (K := X.K)) g).mono fun G2' H2 _ y _ _ _ _ _ _ _ fr2 _ q2 => ?_⟩
    obtain ⟨d2, G2, ρ2, os2, st2, ⟨f2, _⟩, sm, g2⟩ := q2
    by_cases hk : (eqOk 20 d2 && eqOkL 20 l) = true
    · simp only [if_pos hk] at g2
      obtain ⟨d, e, g3⟩ := g2.opt
      obtain ⟨j, e', rfl⟩ := Option.map_eq_some_iff.mp e
      obtain ⟨⟨zz, z1, z2⟩, z3⟩ := findIdx_eq e'
      have hk : eqOk 20 d2 = true ∧ eqOkL 20 l = true := by simpa using hk
      refine ⟨a', y, toP d2, toPL l, j, toP zz, rfl, rfl, .lst (.inl (.inl (st2.sm _ _ (sm _ _ hx)))) ((r.mono sm).dp st2.sm 20 hk.2), f2.dp st2.sm 20 hk.1, toPL_shaped hk.2 (by decide), toP_shaped hk.1 (by decide), by rw [toPL_get, z1]; rfl, ?_, fun m z' hm hz => ?_, GP.ok_A st2 (.int _) g3⟩
      · rw [toP_eqv 20 20 _ _ (eqOkL_mem hk.2 z1) hk.1]; exact z2
      · rw [toPL_get] at hz
        obtain ⟨w, hw, rfl⟩ := Option.map_eq_some_iff.mp hz
        rw [toP_eqv 20 20 _ _ (eqOkL_mem hk.2 hw) hk.1]
        exact z3 m w hm hw
    · simp only [if_neg hk] at g2; exact (show False from g2).elim
  | _ => exact (show False from g).elim
theorem FzL.strs {K : PySem.W.Frag} {G : Hp} : ∀ {vs : List V} {ds : List D} {ys : List Str}, FzL K G vs ds → allStrs ds = some ys → vs = ys.map V.str
  | _, _, _, .nil, e => by cases e; rfl
  | _, _, _, .cons h r, e => by
    cases h <;> simp only [allStrs, reduceCtorEq] at e
    obtain ⟨zs, e1, rfl⟩ := Option.map_eq_some_iff.mp e
    rw [List.map_cons, r.strs e1]
theorem se_join {a b : IE} (ha : SE c a) (hb : SE c b) : SE c (.join a b) := by
  intro X Γ z W x k ok t
  cases x <;> try (simp only [okE, Bool.false_eq_true] at ok; done)
  rename_i f as ks p
  obtain ⟨xo, m, ap, xb, rfl, rfl, rfl⟩ : ∃ xo m ap xb, f = (.Attribute xo m ap) ∧ as = (xb :: []) ∧ ks = [] := by
    cases f <;> try exact absurd (show false = true from ok) Bool.false_ne_true
    rename_i q1_ q2_ q3_
    cases as <;> try exact absurd (show false = true from ok) Bool.false_ne_true
    rename_i q4_ q5_
    cases q5_ <;> try exact absurd (show false = true from ok) Bool.false_ne_true
    cases ks <;> try exact absurd (show false = true from ok) Bool.false_ne_true
    exact ⟨_, _, _, _, rfl, rfl, rfl⟩
  simp only [okE, Bool.and_eq_true, decide_eq_true_eq] at ok
  obtain ⟨rfl, hl, h1, h2, h3, h4⟩ := ok
  refine PE.imp (pe_bm PySem.F.plainAttrs_str PySem.F.slot_str_join PySem.F.type_str_join mt_join (ha.F (z := z) k h1 t) (pa_cons (hb.F (z := z) k h3 t) pa_nil (star_of h4)) (base_of h2) (by rw [star_of (xs := []) h4]; rfl) (beq_iff_eq.mpr hl) (star_of h4)) fun σ H Q q => ?_
  obtain ⟨G, ρ, os, st, q⟩ := q
  refine ⟨G, ρ, os, st, (GP.bind (rF_z (K := X.K)) q).mono fun G' H1 _ x d0 ρ' o er st0 hr _ fr0 _ q1 => ?_⟩
  obtain ⟨d1, G1, ρ1, os1, st1, ⟨f1, _⟩, _, g⟩ := q1
  cases f1 with
  | str sx =>
    refine ⟨rfl, G1, ρ1, os1, st1, (GP.bind (rF_z (K := X.K)) g).mono fun G2' H2 _ y _ _ _ _ _ _ _ fr2 _ q2 => ?_⟩
    obtain ⟨d2, G2, ρ2, os2, st2, ⟨f2, _⟩, sm, g2⟩ := q2
    obtain ⟨d, e, g3⟩ := g2.opt
    cases f2 with
    | lst h2' r2 =>
      simp only [joinD] at e
      obtain ⟨ys, e1, e2⟩ := Option.bind_eq_some_iff.mp e
      split at e2
      · rename_i hz
        cases e2
        have ev := r2.strs e1
        subst ev
        exact ⟨_, _, ys, rfl, rfl, .inl (.inl (.inl (st2.sm _ _ h2'))), hz, GP.ok_A st2 (.str _) g3⟩
      · cases e2
    | _ => simp only [joinD, reduceCtorEq] at e
  | _ => exact (show False from g).elim
theorem se_cntS {a b : IE} (ha : SE c a) (hb : SE c b) : SE c (.cntS a b) := by
  intro X Γ z W x k ok t
  cases x <;> try (simp only [okE, Bool.false_eq_true] at ok; done)
  rename_i f as ks p
  obtain ⟨xo, m, ap, xb, rfl, rfl, rfl⟩ : ∃ xo m ap xb, f = (.Attribute xo m ap) ∧ as = (xb :: []) ∧ ks = [] := by
    cases f <;> try exact absurd (show false = true from ok) Bool.false_ne_true
    rename_i q1_ q2_ q3_
    cases as <;> try exact absurd (show false = true from ok) Bool.false_ne_true
    rename_i q4_ q5_
    cases q5_ <;> try exact absurd (show false = true from ok) Bool.false_ne_true
    cases ks <;> try exact absurd (show false = true from ok) Bool.false_ne_true
    exact ⟨_, _, _, _, rfl, rfl, rfl⟩
  simp only [okE, Bool.and_eq_true, decide_eq_true_eq] at ok
  obtain ⟨rfl, hl, h1, h2, h3, h4⟩ := ok
  refine PE.imp (pe_bm PySem.F.plainAttrs_str PySem.F.slot_str_count PySem.F.type_str_count mt_count (ha.F (z := z) k h1 t) (pa_cons (hb.F (z := z) k h3 t) pa_nil (star_of h4)) (base_of h2) (by rw [star_of (xs := []) h4]; rfl) (beq_iff_eq.mpr hl) (star_of h4)) fun σ H Q q => ?_
  obtain ⟨G, ρ, os, st, q⟩ := q
  refine ⟨G, ρ, os, st, (GP.bind (rF_z (K := X.K)) q).mono fun G' H1 _ x d0 ρ' o er st0 hr _ fr0 _ q1 => ?_⟩
  obtain ⟨d1, G1, ρ1, os1, st1, ⟨f1, _⟩, _, g⟩ := q1
  cases f1 with
  | str sx =>
    refine ⟨rfl, G1, ρ1, os1, st1, (GP.bind (rF_z (K := X.K)) g).mono fun G2' H2 _ y _ _ _ _ _ _ _ fr2 _ q2 => ?_⟩
    obtain ⟨d2, G2, ρ2, os2, st2, ⟨f2, _⟩, sm, g2⟩ := q2
    cases f2 with
    | str sy => exact ⟨_, _, rfl, rfl, GP.ok_A st2 (.int _) g2⟩
    | _ => exact (show False from g2).elim
  | _ => exact (show False from g).elim
def eqb (v : Value) : Bool := match v with
  | .bool b => b
  | _ => false
theorem FzL.bls {K : PySem.W.Frag} {G : Hp} : ∀ {vs : List V} {ds : List D} {bs : List Bool}, FzL K G vs ds → allBls ds = some bs → vs = bs.map V.bl
  | _, _, _, .nil, e => by cases e; rfl
  | _, _, _, .cons h r, e => by
    cases h <;> simp only [allBls, reduceCtorEq] at e
    obtain ⟨zs, e1, rfl⟩ := Option.map_eq_some_iff.mp e
    rw [List.map_cons, r.bls e1]
theorem vals_bls : ∀ {bs : List Bool} {us : List Value}, Vals (bs.map V.bl) us → us = bs.map Value.bool
  | [], _, .nil => rfl
  | b :: r, _, .cons h t => by
    have h : _ = Value.bool b := h
    rw [List.map_cons, h, vals_bls t]
theorem eqb_count : ∀ bs : List Bool, (bs.map Value.bool).countP eqb = bs.count true
  | [] => rfl
  | b :: r => by
    rw [List.map_cons, List.countP_cons, List.count_cons, eqb_count r]
    cases b <;> rfl
def rCntB (K : PySem.W.Frag) : V → List V → Hp → VK → Prop := fun x xs H Q => ∃ (p : Addr) (bs : List Bool), x = .ref p ∧ xs = [.bl true] ∧ SqL K H p (bs.map V.bl) ∧ Q (.int (bs.count true : Nat)) H
theorem mt_lcountB {X : Cx} : MtR X "list.count" (rCntB X.K) := by
  intro pins s σ H x xs v us Q I rx rxs h
  obtain ⟨p, bs, rfl, rfl, hs, q⟩ := h
  cases rx
  obtain ⟨u, rfl, ru⟩ := rxs.one
  have ru : u = Value.bool true := ru
  subst ru
  obtain ⟨its, rv, ⟨⟨cls, dd, data, sl⟩, n, ho, hc, hdn, hd⟩, hlen⟩ := I.list hs
  simp only at hc hd
  subst hc hd
  have hi := vals_bls rv
  subst hi
  refine call_meets PySem.F.slot_list_count ⟨_, ho, rfl⟩ PySem.F.entry_list_count (PySem.F.args_list_count_2 _ _)
    (PySem.SeqAt.list_countAt p _ n dd sl (.bool true) eqb) ⟨ho, fun y hy => ?_, ?_⟩
  · have hy : y ∈ bs.map Value.bool := by simpa using hy
    obtain ⟨b, _, rfl⟩ := List.mem_map.mp hy
    have e : eqb (.bool b) = (b == true) := by cases b <;> rfl
    rw [e]
    exact .bool_bool b true
  · refine ⟨.int (bs.count true : Nat), H, I.tok _, ⟨s.toks, ?_⟩, q⟩
    show Value.int ((((bs.map Value.bool).toArray.toList).countP eqb : Nat) : Int) s.toks = Value.int ((bs.count true : Nat) : Int) s.toks
    rw [List.toList_toArray, eqb_count]
theorem se_cntT {a : IE} (ha : SE c a) : SE c (.cntT a) := by
  intro X Γ z W x k ok t
  cases x <;> try (simp only [okE, Bool.false_eq_true] at ok; done)
  rename_i f as ks p
  obtain ⟨xo, m, ap, j1, pc, rfl, rfl, rfl⟩ : ∃ xo m ap j1 pc, f = (.Attribute xo m ap) ∧ as = ((.Constant (.bool true) j1 pc) :: []) ∧ ks = [] := by
    cases f <;> try exact absurd (show false = true from ok) Bool.false_ne_true
    rename_i q1_ q2_ q3_
    cases as <;> try exact absurd (show false = true from ok) Bool.false_ne_true
    rename_i q4_ q5_
    cases q4_ <;> try exact absurd (show false = true from ok) Bool.false_ne_true
    rename_i q6_ q7_ q8_
    cases q6_ <;> try exact absurd (show false = true from ok) Bool.false_ne_true
    rename_i q9_
    cases q9_ <;> try exact absurd (show false = true from ok) Bool.false_ne_true
    cases q5_ <;> try exact absurd (show false = true from ok) Bool.false_ne_true
    cases ks <;> try exact absurd (show false = true from ok) Bool.false_ne_true
    exact ⟨_, _, _, _, _, rfl, rfl, rfl⟩
  simp only [okE, Bool.and_eq_true, decide_eq_true_eq] at ok
  obtain ⟨rfl, hl, h1, h2⟩ := ok
  refine PE.imp (pe_bm PySem.F.plainAttrs_list PySem.F.slot_list_count PySem.F.type_list_count mt_lcountB (ha.F (z := z) k h1 t) (pa_cons pe_bl pa_nil rfl) (base_of h2) rfl (beq_iff_eq.mpr hl) rfl) fun σ H Q q => ?_
  obtain ⟨G, ρ, os, st, q⟩ := q
  refine ⟨G, ρ, os, st, (GP.bind (rF_z (K := X.K)) q).mono fun G' H1 _ x d0 ρ' o er st0 hr _ fr0 _ q1 => ?_⟩
  obtain ⟨d1, G1, ρ1, os1, st1, ⟨f1, _⟩, _, g⟩ := q1
  cases f1 with
  | lst hx r =>
    obtain ⟨d, e, g⟩ := g.opt
    obtain ⟨bs, e1, rfl⟩ := Option.map_eq_some_iff.mp e
    have ev := r.bls e1
    subst ev
    exact ⟨.inl ⟨rfl, _, .inl (.inl (st1.sm _ _ hx))⟩, _, bs, rfl, rfl, .inl (.inl (st1.sm _ _ hx)), GP.ok_A st1 (.int _) g⟩
  | _ => exact (show False from g).elim
theorem se_pl {a : IE} (ha : SE c a) : SE c (.pl a) := by
  intro X Γ z W x k ok t
  have ok : okE c X.env.scope Γ a x = true := ok
  refine PE.imp (ha.F (z := z) k ok t) fun σ H Q q => ?_
  obtain ⟨G, ρ, os, st, h⟩ := q
  refine ⟨G, ρ, os, st, (GP.bind (rF_z (K := X.K)) h).mono fun _ H2 _ y _ _ _ _ _ _ _ _ _ q2 => ?_⟩
  obtain ⟨d2, G2, ρ2, os2, st2, ⟨f2, _⟩, sm, g⟩ := q2
  by_cases hp : plain d2 = true
  · rw [if_pos hp] at g
    exact GP.ok_A st2 (f2.own hp) g
  · rw [if_neg hp] at g; exact (show False from g).elim
theorem se_pli {a : IE} (ha : SE c a) : SE c (.pli a) := by
  intro X Γ z W x k ok t
  have ok : (okE c X.env.scope Γ a x && decide (modeE c.T a = .top)) = true := ok
  simp only [Bool.and_eq_true, decide_eq_true_eq] at ok
  have pa := ha X Γ z W x k ok.1 t
  rw [ok.2] at pa
  refine PE.imp pa fun σ H Q q => ?_
  have q : tG X.K X.mg z Γ W (rO X.K .all) (M.bind (runE c.T a) fun x => match x with | .lst l => if plainL l then M.ret x else M.bad | _ => M.bad) σ H Q := q
  obtain ⟨G, ρ, os, st, h⟩ := q
  refine ⟨G, ρ, os, st, ?_⟩
  unfold M.bind at h
  cases e : runE c.T a ρ with
  | ok p =>
    obtain ⟨d, ρ1⟩ := p
    rw [e] at h
    intro G' H' os' v o st' hr nd fr sb
    obtain ⟨b, vs, ds, rfl, rfl, hb, gb, fl, rfl⟩ := hr
    have h : GP X.K X.mg z Γ W (rO X.K .all) ((if plainL ds then M.ret (D.lst ds) else M.bad) ρ1) G H os σ Q := h
    by_cases hp : plainL ds = true
    · rw [if_pos hp] at h
      exact h G' H' os' _ [b] st' (OwA.lst hb gb (fl.own hp)) nd fr sb
    · rw [if_neg hp] at h; exact (show False from h).elim
  | exn c fs => rw [e] at h; exact h
  | bad => rw [e] at h; exact h
end OS
namespace OS
open PySem PySem.Spec PyProof.Rows L2 L2H HotX

/-! ### walks and comprehensions while an exception is handled -/
section
variable {prog : Program} {w : World} {A : Around} {E : Value → Shared → Prop} {s : Shared}
/-- an exhausted list iterator: its StopIteration has the handled one as context, and goes -/
theorem nextEndL {it l x1 : Addr} {i : Nat} {items : Array Value} {Q : Option Value → Shared → Prop} (hot : HotAt A x1 s.heap) (ne : x1 ≠ it) (hit : s.heap.IsListIter it l i) (hl : s.heap.IsList l items) (hx : items[i]? = none)
    (hQ : ∀ h', (∀ b o, b ≠ it → s.heap.get? b = some o → h'.get? b = some o) → Q none { s with heap := h' }) : wpAny (model prog w) A (pyNext (.ref it)) Q E s := by
  obtain ⟨o, ho, hc, hd⟩ := id hit
  obtain ⟨ol, hol, _, nl, hdl⟩ := hl
  obtain ⟨hh, o1, vs1, h1, d1, c1⟩ := hot
  unfold pyNext
  apply wpAny_bind
  apply wpAny_attempt
  refine wpAny_callSpecial?_slot (name := Str.ofString "__next__") hit.typeIs slot_listiter_next ?_
  refine wpAny_call_entry slot_listiter_next hit.typeIs entry_listiter_next ?_ (args_listiter_next _)
  show wpAny _ _ (field (.ref it) 0 >>= _) _ _ _
  apply wpAny_bind
  refine wpAny_field ho hd (x := .ref l) rfl ?_
  show wpAny _ _ (if (Value.ref l == Value.none) = true then _ else _) _ _ _
  rw [if_neg (by exact Bool.false_ne_true)]
  show wpAny _ _ (field (.ref it) 1 >>= _) _ _ _
  apply wpAny_bind
  refine wpAny_field ho hd (x := .int i 0) rfl ?_
  show wpAny _ _ (seqItems? (.ref l) >>= _) _ _ _
  apply wpAny_bind
  refine wpAny_seqItems hol hdl ?_
  simp only [Int.toNat_natCast, hx]
  apply wpAny_bind
  apply wpAny_rule
  apply wpAny_bind
  refine wpAny_setField ho hd (by simp) ?_
  show wpAny _ _ (newExc (.type "StopIteration") [] >>= _) _ _ _
  apply wpAny_bind
  simp only [newExc, newTuple]
  apply wpAny_bind
  refine wpAny_newObj_type ?_ (by size_fits)
  apply wpAny_bind (m := firstArgMember _ _)
  refine wpAny_of_eq (a := Value.none) (by first | rfl | (simp only [firstArgMember]; rfl)) ?_
  refine wpAny_newObj_type ?_ (by size_fits)
  refine raiseNew_hot ⟨hh, o1, vs1, Heap.get?_push_of_some _ (Heap.get?_push_of_some _ ((Heap.get?_update_other _ _ ne.symm).trans h1)), d1, c1⟩ (Nat.ne_of_lt (Heap.lt_size (Heap.get?_push_of_some _ ((Heap.get?_update_other _ _ ne.symm).trans h1)))) (Heap.get?_push_size _ rfl) rfl (by first | (simp; done) | (simp; omega) | (simp only [Array.size_append]; simp; omega)) ?_
  apply wpAny_bind
  refine wpAny_isInstance (T := "StopIteration") (b := true) ⟨_, Heap.get?_update_self _ (Heap.get?_push_size _ rfl) rfl, rfl⟩ isSubtype_stop ?_
  refine wpAny_pure (hQ _ fun b o nb e => ?_)
  rw [Heap.get?_update_other _ _ (Nat.ne_of_gt (Heap.lt_size (Heap.get?_push_of_some _ ((Heap.get?_update_other _ _ (Ne.symm nb)).trans e))))]
  exact Heap.get?_push_of_some _ (Heap.get?_push_of_some _ ((Heap.get?_update_other _ _ (Ne.symm nb)).trans e))
/-- an exhausted tuple iterator: its StopIteration has the handled one as context, and goes -/
theorem nextEndT {it l x1 : Addr} {i : Nat} {items : Array Value} {Q : Option Value → Shared → Prop} (hot : HotAt A x1 s.heap) (ne : x1 ≠ it) (hit : s.heap.IsTupleIter it l i) (hl : s.heap.IsTuple l items) (hx : items[i]? = none)
    (hQ : ∀ h', (∀ b o, b ≠ it → s.heap.get? b = some o → h'.get? b = some o) → Q none { s with heap := h' }) : wpAny (model prog w) A (pyNext (.ref it)) Q E s := by
  obtain ⟨o, ho, hc, hd⟩ := id hit
  obtain ⟨ol, hol, _, nl, hdl⟩ := hl
  obtain ⟨hh, o1, vs1, h1, d1, c1⟩ := hot
  unfold pyNext
  apply wpAny_bind
  apply wpAny_attempt
  refine wpAny_callSpecial?_slot (name := Str.ofString "__next__") hit.typeIs F.slot_tuple_iterator_next ?_
  refine wpAny_call_entry F.slot_tuple_iterator_next hit.typeIs F.entry_tuple_iterator_next ?_ (F.args_tuple_iterator_next_1 _)
  show wpAny _ _ (field (.ref it) 0 >>= _) _ _ _
  apply wpAny_bind
  refine wpAny_field ho hd (x := .ref l) rfl ?_
  show wpAny _ _ (if (Value.ref l == Value.none) = true then _ else _) _ _ _
  rw [if_neg (by exact Bool.false_ne_true)]
  show wpAny _ _ (field (.ref it) 1 >>= _) _ _ _
  apply wpAny_bind
  refine wpAny_field ho hd (x := .int i 0) rfl ?_
  show wpAny _ _ (seqItems? (.ref l) >>= _) _ _ _
  apply wpAny_bind
  refine wpAny_seqItems hol hdl ?_
  simp only [Int.toNat_natCast, hx]
  apply wpAny_bind
  apply wpAny_rule
  apply wpAny_bind
  refine wpAny_setField ho hd (by simp) ?_
  show wpAny _ _ (newExc (.type "StopIteration") [] >>= _) _ _ _
  apply wpAny_bind
  simp only [newExc, newTuple]
  apply wpAny_bind
  refine wpAny_newObj_type ?_ (by size_fits)
  apply wpAny_bind (m := firstArgMember _ _)
  refine wpAny_of_eq (a := Value.none) (by first | rfl | (simp only [firstArgMember]; rfl)) ?_
  refine wpAny_newObj_type ?_ (by size_fits)
  refine raiseNew_hot ⟨hh, o1, vs1, Heap.get?_push_of_some _ (Heap.get?_push_of_some _ ((Heap.get?_update_other _ _ ne.symm).trans h1)), d1, c1⟩ (Nat.ne_of_lt (Heap.lt_size (Heap.get?_push_of_some _ ((Heap.get?_update_other _ _ ne.symm).trans h1)))) (Heap.get?_push_size _ rfl) rfl (by first | (simp; done) | (simp; omega) | (simp only [Array.size_append]; simp; omega)) ?_
  apply wpAny_bind
  refine wpAny_isInstance (T := "StopIteration") (b := true) ⟨_, Heap.get?_update_self _ (Heap.get?_push_size _ rfl) rfl, rfl⟩ isSubtype_stop ?_
  refine wpAny_pure (hQ _ fun b o nb e => ?_)
  rw [Heap.get?_update_other _ _ (Nat.ne_of_gt (Heap.lt_size (Heap.get?_push_of_some _ ((Heap.get?_update_other _ _ (Ne.symm nb)).trans e))))]
  exact Heap.get?_push_of_some _ (Heap.get?_push_of_some _ ((Heap.get?_update_other _ _ (Ne.symm nb)).trans e))
end
theorem hot_at {X : Cx} {pins : List (Addr × Obj)} {σ : L2.St} {H : Hp} {s : Shared} {b : Addr} (c : HotC X) (I : Inv X pins σ H s) (hf : FpOk X pins H b) : ∃ x1, HotAt X.A x1 s.heap ∧ x1 ≠ b := by
  obtain ⟨p, ⟨hh, v1, e1, c1⟩, hp⟩ := c
  exact ⟨p.1, ⟨hh, p.2, v1, (I.pin p (List.mem_append_left _ hp)).1, e1, c1⟩, hf.2.2.2.2.2 p (List.mem_append_left _ hp)⟩
theorem turnL {P : Program} {w : World} {K : PySem.W.Frag} {tg : PySem.Expr} (a it : Addr) : TurnH P w K tg (Itl K a) [it] it (fun i h => h.IsListIter it a i) where
  mem := List.mem_singleton.mpr rfl
  obj := fun i h st b hb => by
    cases List.mem_singleton.mp hb
    obtain ⟨o, e, _, d⟩ := st
    exact ⟨o, e, fun v z => by rw [d] at z; cases z⟩
  keep := fun i h h' st k => st.at fun o e => k it (List.mem_singleton.mpr rfl) o e
  item := by
    intro X hP hw hK hc i pins s σ H E I hf st hg
    subst hP hw hK
    obtain ⟨xs, x, hq, hx⟩ := hg
    obtain ⟨its, rv, p, hz⟩ := I.list hq
    obtain ⟨u, hu, ru⟩ := rv.get hx
    have ff := hf it (List.mem_singleton.mpr rfl)
    obtain ⟨f0, f1, f2, f3, f4, f5⟩ := ff
    refine wpAny_pyNext_list_item st p.isList (x := u) (by simpa using hu) fun h1 st1 sb => ?_
    have J : Inv X pins σ H { s with heap := h1 } := I.turned (t' := s.toks) (fun b o hb e => (sb.2 b hb).trans e) f0 f1 f3 f4 f5
    obtain ⟨o, e, c, d⟩ := id st1
    refine ⟨u, rfl, go_of (s := { s with heap := h1 }) e c d (by decide) ?_⟩
    exact ⟨x, H, J, ru, ⟨rfl, fun ys hy => by rw [I.list_inj hy hq]; exact hx⟩, st1, fun b hb => (hf b hb).1⟩
  done := by
    intro X hP hw hK hc i pins s σ H E I hf st hg
    subst hP hw hK
    obtain ⟨xs, hq, hx⟩ := hg
    obtain ⟨its, rv, p, hz⟩ := I.list hq
    have ff := hf it (List.mem_singleton.mpr rfl)
    obtain ⟨x1, ha, ne⟩ := hot_at hc I ff
    obtain ⟨f0, f1, f2, f3, f4, f5⟩ := ff
    have hl := rv.length
    exact nextEndL ha ne st p.isList (by simp; omega) fun h1 eb => ⟨rfl, I.turned (t' := s.toks) (fun b o hb e => eb b o hb e) f0 f1 f3 f4 f5⟩
  self := fun _ _ _ _ _ st h => wpAny_pyIter_listiter st h
theorem turnT {P : Program} {w : World} {K : PySem.W.Frag} {tg : PySem.Expr} (a it : Addr) : TurnH P w K tg (Itt K a) [it] it (fun i h => h.IsTupleIter it a i) where
  mem := List.mem_singleton.mpr rfl
  obj := fun i h st b hb => by
    cases List.mem_singleton.mp hb
    obtain ⟨o, e, _, d⟩ := st
    exact ⟨o, e, fun v z => by rw [d] at z; cases z⟩
  keep := fun i h h' st k => st.at fun o e => k it (List.mem_singleton.mpr rfl) o e
  item := by
    intro X hP hw hK hc i pins s σ H E I hf st hg
    subst hP hw hK
    obtain ⟨xs, x, hq, hx⟩ := hg
    obtain ⟨its, rv, p, hz⟩ := I.tuple hq
    obtain ⟨u, hu, ru⟩ := rv.get hx
    have ff := hf it (List.mem_singleton.mpr rfl)
    obtain ⟨f0, f1, f2, f3, f4, f5⟩ := ff
    refine wpAny_pyNext_tuple_item st (show s.heap.IsTuple a its.toArray from p) (x := u) (by simpa using hu) fun h1 st1 sb => ?_
    have J : Inv X pins σ H { s with heap := h1 } := I.turned (t' := s.toks) (fun b o hb e => (sb.2 b hb).trans e) f0 f1 f3 f4 f5
    obtain ⟨o, e, c, d⟩ := id st1
    refine ⟨u, rfl, go_of (s := { s with heap := h1 }) e c d (by decide) ?_⟩
    exact ⟨x, H, J, ru, ⟨rfl, fun ys hy => by rw [I.tuple_inj hy hq]; exact hx⟩, st1, fun b hb => (hf b hb).1⟩
  done := by
    intro X hP hw hK hc i pins s σ H E I hf st hg
    subst hP hw hK
    obtain ⟨xs, hq, hx⟩ := hg
    obtain ⟨its, rv, p, hz⟩ := I.tuple hq
    have ff := hf it (List.mem_singleton.mpr rfl)
    obtain ⟨x1, ha, ne⟩ := hot_at hc I ff
    obtain ⟨f0, f1, f2, f3, f4, f5⟩ := ff
    have hl := rv.length
    exact nextEndT ha ne st (show s.heap.IsTuple a its.toArray from p) (by simp; omega) fun h1 eb => ⟨rfl, I.turned (t' := s.toks) (fun b o hb e => eb b o hb e) f0 f1 f3 f4 f5⟩
  self := fun _ _ _ _ _ st h => wpAny_pyIter_tupleiter st h
/-- the block's context, the handled exception with it -/
abbrev blkH (X : Cx) (s : Shared) (H : Hp) (scope : Scope) (ce : Env) (fp : List Addr) : Cx := (X.blk s H scope ce fp).tr X.pn fun _ _ => False
theorem lcH_core {X : Cx} {pins : List (Addr × Obj)} {s : Shared} {σ : L2.St} {H : Hp} {Q : VK} {elt tg iter : PySem.Expr} {ifs : List PySem.Expr} {scope : Scope} {own : List (Str × Nat)} {pos pos' : Pos} {wi : TI} {g : TG} {tt : TT} {te : TE} {use : Option (Value → Sem Unit)} {Qf : Value → Shared → Prop}
    (hc : HotC X) (hN : X.N.Nodup) (I : Inv X pins σ H s) (hi : PIH X tg iter wi) (ok : BlkOk X.N X.env.scope scope own)
    (hg : ∀ (s : Shared) (H : Hp) (C : Addr) (cl : List (Str × Addr)) (fp : List Addr), PG (blkH X s H scope (compEnvC scope cl C X.env) fp) tg g) (ht : ∀ (s : Shared) (H : Hp) (C : Addr) (cl : List (Str × Addr)) (fp : List Addr), PTs (blkH X s H scope (compEnvC scope cl C X.env) fp) ifs tt)
    (he : ∀ (s : Shared) (H : Hp) (C : Addr) (cl : List (Str × Addr)) (fp : List Addr), PE (blkH X s H scope (compEnvC scope cl C X.env) fp) elt te) (hs : ∀ x, foldedSetIterable iter X.env x = pure x)
    (h : tLc wi g tt te (own.map (·.2)) σ H Q)
    (fin : ∀ D C s' m H', Inv X pins σ H' s' → Q (.ref D) H' → s'.heap.Ns C m → FpOk X pins H' C → compPost (model X.prog X.w) X.A X.xe use Qf (.ref D) C (.ok .next) s') :
    wpAny (model X.prog X.w) X.A (comprehension (.ListComp elt [⟨tg, iter, ifs, 0⟩] scope pos) scope X.env pos' (newList []) false (eval iter X.env) use) Qf X.xe s := by
  have fr0 : ∀ y ∈ scope.names, y.2 = .free → ∃ c, X.env.cells.lookup y.1 = some c := fun y hy e => (ok.free y hy e).elim (fun k => I.ok.has _ (.inl k)) fun k => I.ok.has _ (.inr k)
  refine wpAny_comprehension_free (use := use) rfl hs (closure_ok fr0) ok.kind (fun y hy e => by rw [ok.uniq y hy, e]) (thn (hi.run pins s σ H _ I h) fun xv s1 hx => thn hx fun itv s2 h2 => ?_)
  obtain ⟨it, fp, tn, J, H2, rfl, I2, T, st2, f2, q⟩ := h2
  refine wpAny_newObj_type (newEnv_comp ?_) (Nat.zero_le _)
  have sz0 : ∃ D, s2.heap.objs.size = D := ⟨_, rfl⟩
  obtain ⟨D, hD⟩ := sz0
  rw [hD]
  have hDn : H2 D = none := I2.hok.fresh (Nat.le_of_eq hD)
  obtain ⟨W, ⟨m0, w0⟩, turn⟩ := q D hDn
  have sz3 : ∃ s3 : Shared, { s2 with heap := s2.heap.push { cls := .type "list", data := .seq ([] : List Value).toArray } } = s3 := ⟨_, rfl⟩
  obtain ⟨s3, hs3⟩ := sz3
  rw [hs3]
  have h3 : s3.heap = s2.heap.push { cls := .type "list", data := .seq ([] : List Value).toArray } := by rw [← hs3]
  have I3 : Inv X pins σ (upd H2 D (.lst [])) s3 := by
    rw [← hs3]
    refine I2.laid (t' := s2.toks) (fun b o e => Heap.get?_push_of_some _ e) (Nat.le_of_eq hD) ⟨Nat.zero_le _, [], 0, .nil, ?_⟩
    rw [← hD]
    exact Heap.get?_push_size _ rfl
  have small : ∀ b ∈ fp, b < s2.heap.objs.size := fun b hb => (T.obj _ _ st2 b hb).elim fun o q => Heap.lt_size q.1
  have f3 : ∀ b ∈ fp, FpOk X pins (upd H2 D (.lst [])) b ∧ b < s3.heap.objs.size := fun b hb => by
    have lt := small b hb
    refine ⟨⟨?_, (f2 b hb).2⟩, by rw [h3, Heap.size_push]; exact Nat.lt_succ_of_lt lt⟩
    rw [upd_ne (fun q => absurd lt (by rw [q, hD]; exact Nat.lt_irrefl _))]
    exact (f2 b hb).1
  have st3 : tn 0 s3.heap := T.keep _ _ _ st2 fun b _ o e => by rw [h3]; exact Heap.get?_push_of_some _ e
  have I4 := block_start I3 ok hN f3
  have pg := hg s3 (upd H2 D (.lst [])) s3.heap.objs.size (cellsFrom (s3.heap.objs.size + 1) scope.names (cloFrom X.env.cells scope.names [])) fp
  have pt := ht s3 (upd H2 D (.lst [])) s3.heap.objs.size (cellsFrom (s3.heap.objs.size + 1) scope.names (cloFrom X.env.cells scope.names [])) fp
  have pe := he s3 (upd H2 D (.lst [])) s3.heap.objs.size (cellsFrom (s3.heap.objs.size + 1) scope.names (cloFrom X.env.cells scope.names [])) fp
  show codeAny _ _ (.compStart (.ListComp elt [⟨tg, iter, ifs, 0⟩] scope pos) 0 (.ref it) (.ref D) (compEnvC scope (cellsFrom (s3.heap.objs.size + 1) scope.names (cloFrom X.env.cells scope.names [])) s3.heap.objs.size X.env)) (compPost (model X.prog X.w) X.A X.xe use Qf (.ref D) s3.heap.objs.size) { s3 with heap := pushCells (s3.heap.push { cls := .type "dict", data := .dict #[] }) scope.names }
  have nfp : ∀ b ∈ fp, (upd H2 D (.lst [])) b = none := fun b hb => (f3 b hb).1.1
  generalize hce : compEnvC scope (cellsFrom (s3.heap.objs.size + 1) scope.names (cloFrom X.env.cells scope.names [])) s3.heap.objs.size X.env = ce at I4 pg pt pe ⊢
  have cL : ce.locals = s3.heap.objs.size := by rw [← hce]; rfl
  generalize hH3 : upd H2 D (.lst []) = H3 at I3 I4 pg pt pe w0 nfp f3
  have kp : ∀ b o, s3.heap.get? b = some o → (pushCells (s3.heap.push { cls := .type "dict", data := .dict #[] }) scope.names).get? b = some o := fun b o e => pushCells_keeps _ _ _ _ (Heap.get?_push_of_some _ e)
  generalize hs4 : ({ s3 with heap := pushCells (s3.heap.push { cls := .type "dict", data := .dict #[] }) scope.names } : Shared) = s4 at I4 ⊢
  have st4 : tn 0 s4.heap := T.keep _ _ _ st3 fun b _ o e => by rw [← hs4]; exact kp b o e
  -- the pinned ones, in the block's context
  have pinB : ∀ p ∈ X.pn, s4.heap.get? p.1 = some p.2 ∧ H3 p.1 = none ∧ p.1 ≠ ce.locals ∧ p.1 ∉ frs X.stack ∧ ∀ v, p.2.data ≠ .cell v := fun p hp => by
    obtain ⟨p1, p2, p3, p4, p5⟩ := I3.pin p (List.mem_append_left _ hp)
    refine ⟨by rw [← hs4]; exact kp _ _ p1, p2, by rw [cL]; exact Nat.ne_of_lt (Heap.lt_size p1), fun hm => (List.mem_cons.mp (I3.stkSub p.1 hm)).elim p3 p4, p5⟩
  have I5 : Inv (blkH X s3 H3 scope ce fp) [] (wipe σ (own.map (·.2))) H3 s4 := by
    have := (I4.pins_of (pins' := X.pn) pinB).toTry fun _ _ => False
    exact this
  have hcB : HotC (blkH X s3 H3 scope ce fp) := hc
  have stat : ∀ {σ' : L2.St} {H' : Hp} {s' : Shared}, Inv (blkH X s3 H3 scope ce fp) [] σ' H' s' → (∀ b ∈ fp, H' b = none) → ∀ b ∈ fp, FpOk (blkH X s3 H3 scope ce fp) [] H' b := fun {σ' H' s'} K' hn b hb =>
    ⟨hn b hb, (K'.ok.exf b hb).1, K'.ok.exfs b hb, .inl hb, fun x c e => (K'.ok.exf b hb).2 x c e, fun p hp => (f3 b hb).1.2.2.2.2.2 p (List.mem_append_left _ (by simpa using hp))⟩
  have loop : codeAny (model X.prog X.w) X.A (.compLoop (.ListComp elt [⟨tg, iter, ifs, 0⟩] scope pos) 0 (.ref it) (.ref D) ce) (compPost (model X.prog X.w) X.A X.xe use Qf (.ref D) s3.heap.objs.size) s4 := by
    refine compLoop_any (fun n s' => ∃ i H', Inv (blkH X s3 H3 scope ce fp) [] (wipe σ (own.map (·.2))) H' s' ∧ tn i s'.heap ∧ (∀ b ∈ fp, H' b = none) ∧ W i n H') ?_ m0 ⟨0, H3, I5, st4, nfp, w0⟩
    rintro n sa ⟨i, Ha, Ia, sta, na, wa⟩
    rcases turn i n Ha wa with ⟨stop, qq⟩ | ⟨go, Nx, hNx, step⟩
    · refine thnF (T.done (blkH X s3 H3 scope ce fp) rfl rfl rfl hcB i [] sa _ Ha (fun _ _ => False) Ia (stat Ia na) sta stop) fun r sb ⟨hr, Ib⟩ => ?_
      subst hr
      have Ic : Inv X pins σ Ha sb := I3.call' (ch := fp) Ib.os Ib.base Ib.hok Ib.bare fun b hb => ⟨(f3 b hb).1.2.2.2.1, (f3 b hb).1.2.1, (f3 b hb).1.2.2.2.2.1, (f3 b hb).1.2.2.2.2.2⟩
      have z : Ha ce.locals = none := Ib.free
      obtain ⟨m, hn, _⟩ := Ib.loc
      have hn : sb.heap.Ns ce.locals m := hn
      rw [cL] at hn z
      exact fin D s3.heap.objs.size sb m Ha Ic qq hn (I3.fpOk (Nat.le_refl _) z)
    · refine thnF (T.item (blkH X s3 H3 scope ce fp) rfl rfl rfl hcB i [] sa _ Ha (fun _ _ => False) Ia (stat Ia na) sta go) fun r sb ⟨u, hr, hb⟩ => ?_
      subst hr
      refine thnF hb fun _ sc ⟨x, Hc, Ic, rc, yc, stc, nc⟩ => ?_
      have Id := Ic.pinned (stat Ic nc) (T.obj _ _ stc)
      refine thnF (pg.run _ sc _ Hc x u _ Id rc (step x Hc yc)) fun _ sd ⟨σd, Hd, Ie, hwd, qd⟩ => ?_
      refine thnF (pt.run _ sd σd Hd _ Ie qd) fun b se ⟨He, If, qe⟩ => ?_
      have back : ∀ {s' : Shared} {H' : Hp}, Inv (blkH X s3 H3 scope ce fp) ([] ++ pinsAt fp sc.heap) σd H' s' → Nx H' → ∃ m, m < n ∧ ∃ i H', Inv (blkH X s3 H3 scope ce fp) [] (wipe σ (own.map (·.2))) H' s' ∧ tn i s'.heap ∧ (∀ b ∈ fp, H' b = none) ∧ W i m H' := fun {s' H'} K' nx => by
        obtain ⟨m', hm, w'⟩ := hNx H' nx
        have pin' : ∀ b ∈ fp, ∀ o, sc.heap.get? b = some o → s'.heap.get? b = some o ∧ H' b = none := fun b hb o e => by
          have z := K'.pin (b, o) (List.mem_append_right _ (List.mem_append_right _ (mem_pinsAt hb e)))
          exact ⟨z.1, z.2.1⟩
        have hlen : (wipe σ (own.map (·.2))).length = σd.length := by rw [← hwd, wipe_length]
        refine ⟨m', hm, i + 1, H', (K'.unpinned (pins := [])).weak hlen (fun j v e => ?_), T.keep _ _ _ stc fun b hb o e => (pin' b hb o e).1, fun b hb => ?_, w'⟩
        · rw [← hwd] at e
          exact (wipe_some e).1
        · obtain ⟨o, e, _⟩ := T.obj _ _ stc b hb
          exact (pin' b hb o e).2
      cases b with
      | false => exact back If qe
      | true =>
        refine thnF (pe.run _ se σd He _ If qe) fun z sf ⟨yv, Hf, Ig, rf, acc, hDf, hzf, nx⟩ => ?_
        exact app_ok (X := blkH X s3 H3 scope ce fp) Ig hDf hzf rf fun sg Ih => back Ih nx
  exact codeAny_compStart_list loop (T.self X.A 0 _ _ _ st4 loop)
/-- .. as a value -/
theorem peH_lc {X : Cx} {elt tg iter : PySem.Expr} {ifs : List PySem.Expr} {scope : Scope} {own : List (Str × Nat)} {pos : Pos} {wi : TI} {g : TG} {tt : TT} {te : TE} (hc : HotC X) (hN : X.N.Nodup) (hi : PIH X tg iter wi) (ok : BlkOk X.N X.env.scope scope own)
    (hg : ∀ (s : Shared) (H : Hp) (C : Addr) (cl : List (Str × Addr)) (fp : List Addr), PG (blkH X s H scope (compEnvC scope cl C X.env) fp) tg g) (ht : ∀ (s : Shared) (H : Hp) (C : Addr) (cl : List (Str × Addr)) (fp : List Addr), PTs (blkH X s H scope (compEnvC scope cl C X.env) fp) ifs tt)
    (he : ∀ (s : Shared) (H : Hp) (C : Addr) (cl : List (Str × Addr)) (fp : List Addr), PE (blkH X s H scope (compEnvC scope cl C X.env) fp) elt te) (hs : ∀ x, foldedSetIterable iter X.env x = pure x) :
    PE X (.ListComp elt [⟨tg, iter, ifs, 0⟩] scope pos) (tLc wi g tt te (own.map (·.2))) := by
  refine ⟨fun pins s σ H Q I h => ?_⟩
  rw [eval_ListComp]
  refine lcH_core hc hN I hi ok hg ht he hs h fun D C s1 m H1 J q hn f => ⟨m, hn, fun h2 sb => ?_⟩
  obtain ⟨f0, f1, _, f3, f4, f5⟩ := f
  exact ⟨.ref D, H1, J.turned (t' := s1.toks) (fun b o hb e => (sb.2 b hb).trans e) f0 f1 f3 f4 f5, rfl, q⟩
/-- name = [..] on one line, the name a local, while an exception is handled -/
theorem psH_setLc {X : Cx} {i : Nat} {y : Str} {py : Pos} {elt tg iter : PySem.Expr} {ifs : List PySem.Expr} {scope : Scope} {own : List (Str × Nat)} {pos spos : Pos} {wi : TI} {g : TG} {tt : TT} {te : TE} (hc : HotC X) (hN : X.N.Nodup) (hy : X.N[i]? = some y) (hyl : X.env.scope.names.lookup y = some .local)
    (hsw : swapsWith (.ListComp elt [⟨tg, iter, ifs, 0⟩] scope pos) (some (.Name y py)) spos.line X.env = pure true) (hi : PIH X tg iter wi) (ok : BlkOk X.N X.env.scope scope own)
    (hg : ∀ (s : Shared) (H : Hp) (C : Addr) (cl : List (Str × Addr)) (fp : List Addr), PG (blkH X s H scope (compEnvC scope cl C X.env) fp) tg g) (ht : ∀ (s : Shared) (H : Hp) (C : Addr) (cl : List (Str × Addr)) (fp : List Addr), PTs (blkH X s H scope (compEnvC scope cl C X.env) fp) ifs tt)
    (he : ∀ (s : Shared) (H : Hp) (C : Addr) (cl : List (Str × Addr)) (fp : List Addr), PE (blkH X s H scope (compEnvC scope cl C X.env) fp) elt te) (hs : ∀ x, foldedSetIterable iter X.env x = pure x) :
    PS X (.Assign [.Name y py] (.ListComp elt [⟨tg, iter, ifs, 0⟩] scope pos) spos) (tAsg (tLc wi g tt te (own.map (·.2))) (gName i)) := by
  refine ⟨fun pins s σ H D I h => ?_⟩
  rw [exec_Assign_Name_used _ _ _ _ hsw]
  refine wpAny_bind (wpAny_standAt (wpAny_bind ?_))
  show wpAny _ X.A (do let _ ← comprehension (.ListComp elt [⟨tg, iter, ifs, 0⟩] scope pos) scope X.env (firstIterPos [⟨tg, iter, ifs, 0⟩] pos) (newList []) false (eval iter X.env) (some (assign (.Name y py) X.env))) _ _ s
  have h : tLc wi g tt te (own.map (·.2)) σ H (fun x H1 => gName i x σ H1 D.nx) := h
  refine wpAny_bind (thn (lcH_core (Qf := fun _ s' => SP X pins D .next s') hc hN I hi ok hg ht he hs h fun L C s' m H' I' q hn f => ?_) fun _ s' hq => wpAny_pure (wpAny_pure hq))
  show wpAny _ _ (assign (.Name y py) X.env (.ref L)) _ _ _
  refine wpAny_assign_Name (store_ok2 (v := V.ref L) I' hN hy (.inl hyl) rfl (fun s2 I2 ⟨a, sb, ha⟩ => ?_) (.inr hyl))
  obtain ⟨f0, f1, f2, f3, f4, f5⟩ := f
  have haC : C ≠ a := by
    rcases ha with z | z
    · rw [z]; exact f1
    · exact fun e => f4 y a z e.symm
  refine ⟨m, hn.sameBut sb haC, fun h3 sb3 => ?_⟩
  exact ⟨_, H', I2.turned (t' := s2.toks) (fun b o hb e => (sb3.2 b hb).trans e) f0 f1 f3 f4 f5, q⟩
end OS
namespace OS
open PySem PySem.Spec PyProof.Rows L2
variable {c : SC}

/-! ### what is walked -/
structure Wk (K : PySem.W.Frag) (G0 : Hp) (J : It) (ds : List D) : Prop where
  go : ∀ i H, i < ds.length → Same G0 H → J.go i H
  yld : ∀ (i : Nat) (d : D) (G H : Hp) (x : V) (H' : Hp), ds[i]? = some d → Same G0 G → Same G H → J.yld i H x H' → ∃ G', Fr G H G' H' [] ∧ Fz K G' x d
  stop : ∀ i H, ds.length ≤ i → Same G0 H → J.stop i H
def rW (K : PySem.W.Frag) : Rel It (List D) := fun G _ J ds o => Wk K G J ds ∧ o = []
theorem rW_z {K : PySem.W.Frag} : ∀ (G H : Hp) (b : It) (a : List D) (o : List Addr), rW K G H b a o → o = [] := fun _ _ _ _ _ h => h.2
theorem wk_list {K : PySem.W.Frag} {G : Hp} {a : Addr} {vs : List V} {ds : List D} (h : G a = some (.lst vs)) (f : FzL K G vs ds) : Wk K G (Itl K a) ds where
  go := fun i H hi s => by
    obtain ⟨v, e, _⟩ := f.get (List.getElem?_eq_getElem hi)
    exact ⟨vs, v, .inl (.inl (s _ _ h)), e⟩
  yld := fun i d G1 H x H' e s1 s2 y => by
    obtain ⟨rfl, y⟩ := y
    obtain ⟨v, e', f'⟩ := f.get e
    have := y vs (.inl (.inl (s2 _ _ (s1 _ _ h))))
    rw [e'] at this
    cases this
    exact ⟨G1, Fr.refl s2 [], f'.mono s1⟩
  stop := fun i H hi s => ⟨vs, .inl (.inl (s _ _ h)), by rw [f.length]; exact hi⟩
theorem wk_tup {K : PySem.W.Frag} {G : Hp} {a : Addr} {vs : List V} {ds : List D} (h : SqT K G a vs) (f : FzL K G vs ds) : Wk K G (Itt K a) ds where
  go := fun i H hi s => by
    obtain ⟨v, e, _⟩ := f.get (List.getElem?_eq_getElem hi)
    exact ⟨vs, v, Same.sqT s h, e⟩
  yld := fun i d G1 H x H' e s1 s2 y => by
    obtain ⟨rfl, y⟩ := y
    obtain ⟨v, e', f'⟩ := f.get e
    have := y vs (Same.sqT s2 (Same.sqT s1 h))
    rw [e'] at this
    cases this
    exact ⟨G1, Fr.refl s2 [], f'.mono s1⟩
  stop := fun i H hi s => ⟨vs, Same.sqT s h, by rw [f.length]; exact hi⟩
theorem wk_rng {K : PySem.W.Frag} {G : Hp} (lo : Int) (n : Nat) : Wk K G (Itr lo n) (rngL lo n) where
  go := fun i H hi s => by
    have : (rngL lo n).length = n := by simp [rngL]
    rw [this] at hi; exact hi
  yld := fun i d G1 H x H' e s1 s2 y => by
    obtain ⟨rfl, rfl⟩ := y
    have e : d = .int (lo + i) := by
      unfold rngL at e
      rw [List.getElem?_map] at e
      obtain ⟨k, hk, rfl⟩ := Option.map_eq_some_iff.mp e
      obtain ⟨hlt, he⟩ := List.getElem?_eq_some_iff.mp hk
      rw [List.getElem_range] at he
      rw [he]
    subst e
    exact ⟨G1, Fr.refl s2 [], .int _⟩
  stop := fun i H hi s => by
    have : (rngL lo n).length = n := by simp [rngL]
    rw [this] at hi; exact hi
def SW (c : SC) (e : IE) : Prop := ∀ (X : Cx) (Γ : List Mode) (z : Option (Nat × V × Hp)) (W : WE0) (tg x : PySem.Expr), Cok c X z → enTg e tg → okW c X.env.scope Γ e x = true → TkX X W → PI X tg x (tG X.K X.mg z Γ W (rW X.K) (runW c.T e))
theorem sw_seq {a : IE} (ha : SE c a) : SW c (.wSeq a) := by
  intro X Γ z W tg x k _ ok t
  have ok : okE c X.env.scope Γ a x = true := ok
  have pa := ha.F (z := z) k ok t
  refine ⟨fun pins s σ H R I h => ?_⟩
  have h : tG X.K X.mg z Γ W (rW X.K) (M.bind (runE c.T a) fun x => match x with | .lst l => M.ret l | .tup l => M.ret l | _ => M.bad) σ H R := h
  refine thn (pa.run pins s σ H _ I (tG.fst h)) fun v s1 ⟨x, H1, I1, r1, d1, G, ρ, os, st, f1, g⟩ => ?_
  cases f1 with
  | lst hx r =>
    cases r1
    obtain ⟨its, rv, p, hz⟩ := I1.list (.inl (.inl (st.sm _ _ hx)))
    refine wpAny_pyIter_list p.isList ?_
    refine ⟨s1.heap.objs.size, [s1.heap.objs.size], _, _, H1, rfl, I1.kept (t' := s1.toks) fun b o e => Heap.get?_push_of_some _ e, turn_list _ _, ⟨_, Heap.get?_push_size _ rfl, rfl, rfl⟩, fun b hb => ?_, ?_⟩
    · have e : b = s1.heap.objs.size := by simpa using hb
      subst e
      exact I1.fpOk (Nat.le_refl _) (I1.hok.fresh (Nat.le_refl _))
    · exact g G H1 os _ [] st ⟨wk_list hx r, rfl⟩ st.nd (Fr.refl st.sm os) (Sub.refl H1 os)
  | tup hx r =>
    cases r1
    obtain ⟨its, rv, p, hz⟩ := I1.tuple (Same.sqT st.sm hx)
    refine wpAny_pyIter_tuple (show s1.heap.IsTuple _ its.toArray from p) ?_
    refine ⟨s1.heap.objs.size, [s1.heap.objs.size], _, _, H1, rfl, I1.kept (t' := s1.toks) fun b o e => Heap.get?_push_of_some _ e, turn_tuple _ _, ⟨_, Heap.get?_push_size _ rfl, rfl, rfl⟩, fun b hb => ?_, ?_⟩
    · have e : b = s1.heap.objs.size := by simpa using hb
      subst e
      exact I1.fpOk (Nat.le_refl _) (I1.hok.fresh (Nat.le_refl _))
    · exact g G H1 os _ [] st ⟨wk_tup hx r, rfl⟩ st.nd (Fr.refl st.sm os) (Sub.refl H1 os)
  | _ => exact (show False from g).elim
/-- .. where an exception is handled -/
def SWH (c : SC) (e : IE) : Prop := ∀ (X : Cx) (Γ : List Mode) (z : Option (Nat × V × Hp)) (W : WE0) (tg x : PySem.Expr), Cok c X z → okW c X.env.scope Γ e x = true → TkX X W → L2H.PIH X tg x (tG X.K X.mg z Γ W (rW X.K) (runW c.T e))
theorem swH_seq {a : IE} (ha : SE c a) : SWH c (.wSeq a) := by
  intro X Γ z W tg x k ok t
  have ok : okE c X.env.scope Γ a x = true := ok
  have pa := ha.F (z := z) k ok t
  refine ⟨fun pins s σ H R I h => ?_⟩
  have h : tG X.K X.mg z Γ W (rW X.K) (M.bind (runE c.T a) fun x => match x with | .lst l => M.ret l | .tup l => M.ret l | _ => M.bad) σ H R := h
  refine thn (pa.run pins s σ H _ I (tG.fst h)) fun v s1 ⟨x, H1, I1, r1, d1, G, ρ, os, st, f1, g⟩ => ?_
  cases f1 with
  | lst hx r =>
    cases r1
    obtain ⟨its, rv, p, hz⟩ := I1.list (.inl (.inl (st.sm _ _ hx)))
    refine wpAny_pyIter_list p.isList ?_
    refine ⟨s1.heap.objs.size, [s1.heap.objs.size], _, _, H1, rfl, I1.kept (t' := s1.toks) fun b o e => Heap.get?_push_of_some _ e, turnL _ _, ⟨_, Heap.get?_push_size _ rfl, rfl, rfl⟩, fun b hb => ?_, ?_⟩
    · have e : b = s1.heap.objs.size := by simpa using hb
      subst e
      exact I1.fpOk (Nat.le_refl _) (I1.hok.fresh (Nat.le_refl _))
    · exact g G H1 os _ [] st ⟨wk_list hx r, rfl⟩ st.nd (Fr.refl st.sm os) (Sub.refl H1 os)
  | tup hx r =>
    cases r1
    obtain ⟨its, rv, p, hz⟩ := I1.tuple (Same.sqT st.sm hx)
    refine wpAny_pyIter_tuple (show s1.heap.IsTuple _ its.toArray from p) ?_
    refine ⟨s1.heap.objs.size, [s1.heap.objs.size], _, _, H1, rfl, I1.kept (t' := s1.toks) fun b o e => Heap.get?_push_of_some _ e, turnT _ _, ⟨_, Heap.get?_push_size _ rfl, rfl, rfl⟩, fun b hb => ?_, ?_⟩
    · have e : b = s1.heap.objs.size := by simpa using hb
      subst e
      exact I1.fpOk (Nat.le_refl _) (I1.hok.fresh (Nat.le_refl _))
    · exact g G H1 os _ [] st ⟨wk_tup hx r, rfl⟩ st.nd (Fr.refl st.sm os) (Sub.refl H1 os)
  | _ => exact (show False from g).elim
theorem sw_rng1 {a : IE} (ha : SE c a) : SW c (.wRng1 a) := by
  intro X Γ z W tg x k _ ok t
  cases x <;> try (simp only [okW, Bool.false_eq_true] at ok; done)
  rename_i f0_ as ks p
  obtain ⟨f, pf, xa, rfl, rfl, rfl⟩ : ∃ f pf xa, f0_ = (.Name f pf) ∧ as = (xa :: []) ∧ ks = [] := by
    cases f0_ <;> try exact absurd (show false = true from ok) Bool.false_ne_true
    rename_i q1_ q2_
    cases as <;> try exact absurd (show false = true from ok) Bool.false_ne_true
    rename_i q3_ q4_
    cases q4_ <;> try exact absurd (show false = true from ok) Bool.false_ne_true
    cases ks <;> try exact absurd (show false = true from ok) Bool.false_ne_true
    exact ⟨_, _, _, rfl, rfl, rfl⟩
  simp only [okW, Bool.and_eq_true, decide_eq_true_eq] at ok
  obtain ⟨rfl, h3, h4, h5⟩ := ok
  obtain ⟨g3, g4⟩ := gl_of h3
  refine PI.imp (pi_range1 g3 (k.blt _ (by decide)) (pa_cons (ha.F (z := z) k h4 t) pa_nil (star_of h5)) (by rw [star_of (xs := []) h5]; rfl)) fun σ H Q q => ?_
  have q : tG X.K X.mg z Γ W (rW X.K) (M.bind (runE c.T a) fun x => match x with | .int j => if -(2 ^ 62) ≤ j ∧ j < 2 ^ 62 then M.ret (rngL 0 j.toNat) else M.bad | _ => M.bad) σ H Q := q
  refine (tG.fst q).mono fun x H1 q1 => ?_
  obtain ⟨d1, G, ρ, os, st, f1, g⟩ := q1
  cases f1 with
  | int j =>
    by_cases hj : -(2 ^ 62) ≤ j ∧ j < 2 ^ 62
    · simp only [if_pos hj] at g
      exact ⟨j, rfl, hj.1, hj.2, g G H1 os _ [] st ⟨wk_rng 0 _, rfl⟩ st.nd (Fr.refl st.sm os) (Sub.refl H1 os)⟩
    · simp only [if_neg hj] at g; exact (show False from g).elim
  | _ => exact (show False from g).elim
theorem sw_rng2 {a b : IE} (ha : SE c a) (hb : SE c b) : SW c (.wRng2 a b) := by
  intro X Γ z W tg x k _ ok t
  cases x <;> try (simp only [okW, Bool.false_eq_true] at ok; done)
  rename_i f0_ as ks p
  obtain ⟨f, pf, xa, xb, rfl, rfl, rfl⟩ : ∃ f pf xa xb, f0_ = (.Name f pf) ∧ as = (xa :: (xb :: [])) ∧ ks = [] := by
    cases f0_ <;> try exact absurd (show false = true from ok) Bool.false_ne_true
    rename_i q1_ q2_
    cases as <;> try exact absurd (show false = true from ok) Bool.false_ne_true
    rename_i q3_ q4_
    cases q4_ <;> try exact absurd (show false = true from ok) Bool.false_ne_true
    rename_i q5_ q6_
    cases q6_ <;> try exact absurd (show false = true from ok) Bool.false_ne_true
    cases ks <;> try exact absurd (show false = true from ok) Bool.false_ne_true
    exact ⟨_, _, _, _, rfl, rfl, rfl⟩
  simp only [okW, Bool.and_eq_true, decide_eq_true_eq] at ok
  obtain ⟨rfl, h3, h4, h5, h6, h7⟩ := ok
  obtain ⟨g3, g4⟩ := gl_of h3
  refine PI.imp (pi_range2 g3 (k.blt _ (by decide)) (pa_cons (ha.F (z := z) k h4 t) (pa_cons (hb.F (z := z) k h6 t) pa_nil (star_of h7)) (star_of h5)) (by rw [star_of (xs := [xb]) h5, star_of (xs := []) h7]; rfl) (by rw [star_of (xs := []) h7]; rfl)) fun σ H Q q => ?_
  have q : tG X.K X.mg z Γ W (rW X.K) (M.bind (runE c.T a) fun x => M.bind (runE c.T b) fun y => match x, y with | .int i, .int j => if -(2 ^ 62) ≤ i ∧ i < 2 ^ 62 ∧ -(2 ^ 62) ≤ j ∧ j < 2 ^ 62 then M.ret (rngL i (j - i).toNat) else M.bad | _, _ => M.bad) σ H Q := q
  refine (tG.two q).mono fun x H1 q1 => q1.mono fun y H2 q2 => ?_
  obtain ⟨d1, d2, G, ρ, os, st, f1, f2, g⟩ := q2
  cases f1 with
  | int i =>
    cases f2 with
    | int j =>
      by_cases hj : -(2 ^ 62) ≤ i ∧ i < 2 ^ 62 ∧ -(2 ^ 62) ≤ j ∧ j < 2 ^ 62
      · simp only [if_pos hj] at g
        exact ⟨i, j, rfl, hj, g G H2 os _ [] st ⟨wk_rng i _, rfl⟩ st.nd (Fr.refl st.sm os) (Sub.refl H2 os)⟩
      · simp only [if_neg hj] at g; exact (show False from g).elim
    | _ => exact (show False from g).elim
  | _ => cases f2 <;> exact (show False from g).elim

theorem wk_rv {K : PySem.W.Frag} {G : Hp} (lo : Int) (n : Nat) : Wk K G (Itc (lo + (n : Int) - 1) (-1) n) (rngL lo n).reverse where
  go := fun i H hi s => by
    have : (rngL lo n).reverse.length = n := by simp [rngL]
    rw [this] at hi; exact hi
  yld := fun i d G1 H x H' e s1 s2 y => by
    obtain ⟨rfl, rfl⟩ := y
    have hl : (rngL lo n).length = n := by simp [rngL]
    have hi : i < n := by
      have := (List.getElem?_eq_some_iff.mp e).1
      simpa [rngL] using this
    have e : d = .int (lo + (n : Int) - 1 + (i : Nat) * (-1)) := by
      rw [List.getElem?_reverse (by rw [hl]; exact hi), hl] at e
      unfold rngL at e
      rw [List.getElem?_map] at e
      obtain ⟨k, hk, rfl⟩ := Option.map_eq_some_iff.mp e
      obtain ⟨hlt, he⟩ := List.getElem?_eq_some_iff.mp hk
      rw [List.getElem_range] at he
      rw [← he]
      congr 1
      omega
    subst e
    exact ⟨G1, Fr.refl s2 [], .int _⟩
  stop := fun i H hi s => by
    have : (rngL lo n).reverse.length = n := by simp [rngL]
    rw [this] at hi; exact hi
theorem sw_rv1 {a : IE} (ha : SE c a) : SW c (.wRv1 a) := by
  intro X Γ z W tg x k _ ok t
  cases x <;> try (simp only [okW, Bool.false_eq_true] at ok; done)
  rename_i f0_ as ks p
  obtain ⟨f0, pf0, f, pf, xa, p2, rfl, rfl, rfl⟩ : ∃ f0 pf0 f pf xa p2, f0_ = (.Name f0 pf0) ∧ as = ((.Call (.Name f pf) (xa :: []) [] p2) :: []) ∧ ks = [] := by
    cases f0_ <;> try exact absurd (show false = true from ok) Bool.false_ne_true
    rename_i q1_ q2_
    cases as <;> try exact absurd (show false = true from ok) Bool.false_ne_true
    rename_i q3_ q4_
    cases q3_ <;> try exact absurd (show false = true from ok) Bool.false_ne_true
    rename_i q5_ q6_ q7_ q8_
    cases q5_ <;> try exact absurd (show false = true from ok) Bool.false_ne_true
    rename_i q9_ q10_
    cases q6_ <;> try exact absurd (show false = true from ok) Bool.false_ne_true
    rename_i q11_ q12_
    cases q12_ <;> try exact absurd (show false = true from ok) Bool.false_ne_true
    cases q7_ <;> try exact absurd (show false = true from ok) Bool.false_ne_true
    cases q4_ <;> try exact absurd (show false = true from ok) Bool.false_ne_true
    cases ks <;> try exact absurd (show false = true from ok) Bool.false_ne_true
    exact ⟨_, _, _, _, _, _, rfl, rfl, rfl⟩
  simp only [okW, Bool.and_eq_true, decide_eq_true_eq] at ok
  obtain ⟨rfl, h0, rfl, h3, h4, h5⟩ := ok
  obtain ⟨g0, _⟩ := gl_of h0
  obtain ⟨g3, g4⟩ := gl_of h3
  refine PI.imp (pi_revR g0 (k.blt _ (by decide)) (prg_1 g3 (k.blt _ (by decide)) (ha.F (z := z) k h4 t) (star_of h5))) fun σ H Q q => ?_
  have q : tG X.K X.mg z Γ W (rW X.K) (M.bind (runE c.T a) fun x => match x with | .int j => if -(2 ^ 62) ≤ j ∧ j < 2 ^ 62 then M.ret (rngL 0 j.toNat).reverse else M.bad | _ => M.bad) σ H Q := q
  refine (tG.fst q).mono fun x H1 q1 => ?_
  obtain ⟨d1, G, ρ, os, st, f1, g⟩ := q1
  cases f1 with
  | int j =>
    by_cases hj : -(2 ^ 62) ≤ j ∧ j < 2 ^ 62
    · simp only [if_pos hj] at g
      refine ⟨j, rfl, by omega, by omega, hj.1, hj.2, ?_⟩
      have w := wk_rv (K := X.K) (G := G) 0 j.toNat
      rw [Int.sub_zero]
      exact g G H1 os _ [] st ⟨w, rfl⟩ st.nd (Fr.refl st.sm os) (Sub.refl H1 os)
    · simp only [if_neg hj] at g; exact (show False from g).elim
  | _ => exact (show False from g).elim
theorem sw_rv2 {a b : IE} (ha : SE c a) (hb : SE c b) : SW c (.wRv2 a b) := by
  intro X Γ z W tg x k _ ok t
  cases x <;> try (simp only [okW, Bool.false_eq_true] at ok; done)
  rename_i f0_ as ks p
  obtain ⟨f0, pf0, f, pf, xa, xb, p2, rfl, rfl, rfl⟩ : ∃ f0 pf0 f pf xa xb p2, f0_ = (.Name f0 pf0) ∧ as = ((.Call (.Name f pf) (xa :: (xb :: [])) [] p2) :: []) ∧ ks = [] := by
    cases f0_ <;> try exact absurd (show false = true from ok) Bool.false_ne_true
    rename_i q1_ q2_
    cases as <;> try exact absurd (show false = true from ok) Bool.false_ne_true
    rename_i q3_ q4_
    cases q3_ <;> try exact absurd (show false = true from ok) Bool.false_ne_true
    rename_i q5_ q6_ q7_ q8_
    cases q5_ <;> try exact absurd (show false = true from ok) Bool.false_ne_true
    rename_i q9_ q10_
    cases q6_ <;> try exact absurd (show false = true from ok) Bool.false_ne_true
    rename_i q11_ q12_
    cases q12_ <;> try exact absurd (show false = true from ok) Bool.false_ne_true
    rename_i q13_ q14_
    cases q14_ <;> try exact absurd (show false = true from ok) Bool.false_ne_true
    cases q7_ <;> try exact absurd (show false = true from ok) Bool.false_ne_true
    cases q4_ <;> try exact absurd (show false = true from ok) Bool.false_ne_true
    cases ks <;> try exact absurd (show false = true from ok) Bool.false_ne_true
    exact ⟨_, _, _, _, _, _, _, rfl, rfl, rfl⟩
  simp only [okW, Bool.and_eq_true, decide_eq_true_eq] at ok
  obtain ⟨rfl, h0, rfl, h3, h4, h5, h6, h7⟩ := ok
  obtain ⟨g0, _⟩ := gl_of h0
  obtain ⟨g3, g4⟩ := gl_of h3
  refine PI.imp (pi_revR g0 (k.blt _ (by decide)) (prg_2 g3 (k.blt _ (by decide)) (ha.F (z := z) k h4 t) (hb.F (z := z) k h6 t) (star_of h5) (star_of h7) (by rw [star_of (xs := []) h7]; rfl))) fun σ H Q q => ?_
  have q : tG X.K X.mg z Γ W (rW X.K) (M.bind (runE c.T a) fun x => M.bind (runE c.T b) fun y => match x, y with | .int i, .int j => if -(2 ^ 62) ≤ i ∧ i < 2 ^ 62 ∧ -(2 ^ 62) ≤ j ∧ j < 2 ^ 62 then M.ret (rngL i (j - i).toNat).reverse else M.bad | _, _ => M.bad) σ H Q := q
  refine (tG.two q).mono fun x H1 q1 => q1.mono fun y H2 q2 => ?_
  obtain ⟨d1, d2, G, ρ, os, st, f1, f2, g⟩ := q2
  cases f1 with
  | int i =>
    cases f2 with
    | int j =>
      by_cases hj : -(2 ^ 62) ≤ i ∧ i < 2 ^ 62 ∧ -(2 ^ 62) ≤ j ∧ j < 2 ^ 62
      · simp only [if_pos hj] at g
        exact ⟨i, j, rfl, rfl, hj.1, hj.2.1, hj.2.2.1, hj.2.2.2, g G H2 os _ [] st ⟨wk_rv i _, rfl⟩ st.nd (Fr.refl st.sm os) (Sub.refl H2 os)⟩
      · simp only [if_neg hj] at g; exact (show False from g).elim
    | _ => exact (show False from g).elim
  | _ => cases f2 <;> exact (show False from g).elim

/-! ### targets -/
def gNs : List Nat → TGs
  | [] => gNil
  | i :: r => gCons (gName i) (gNs r)
def tgG (K : PySem.W.Frag) : List Nat → TG
  | [i] => gName i
  | tg => gTup K tg.length (gNs tg)
theorem assign_star {env : Env} : ∀ {fn : Str → Bool} {N : List Str} {sc : Scope} {tg : List Nat} {es : List PySem.Expr}, okTgs N sc fn tg es = true → (assignEach es env).length = tg.length ∧ (assignEach es env).findIdx? (·.1) = none
  | _, _, _, [], [], _ => ⟨rfl, rfl⟩
  | fn, N, sc, i :: r, .Name x p :: es, h => by
    simp only [okTgs, Bool.and_eq_true] at h
    obtain ⟨h1, h2⟩ := assign_star (env := env) h.2
    refine ⟨by show (assignEach es env).length + 1 = _; rw [h1]; rfl, ?_⟩
    show List.findIdx? (·.1) ((false, _) :: assignEach es env) = none
    rw [List.findIdx?_cons]
    simp [h2]
  | _, _, _, [], _ :: _, h => by simp [okTgs] at h
  | _, _, _, _ :: _, [], h => by simp [okTgs] at h
theorem pgs_of {X : Cx} (hN : X.N.Nodup) {fn : Str → Bool} (hfn : ∀ x, fn x = true → X.fn x = true) : ∀ {tg : List Nat} {es : List PySem.Expr}, okTgs X.N X.env.scope fn tg es = true → PGs X es (gNs tg)
  | [], [], _ => pgs_nil
  | i :: r, .Name x p :: es, h => by
    simp only [okTgs, Bool.and_eq_true, decide_eq_true_eq, Bool.or_eq_true] at h
    obtain ⟨⟨h1, h2⟩, h3⟩ := h
    have hl : Loc X.env.scope x := h2.elim .inl fun q => .inr q.1
    exact pgs_cons (pg_name hN h1 hl (h2.elim .inr fun q => .inl (hfn x q.2))) (pgs_of hN hfn h3)
  | [], _ :: _, h => by simp [okTgs] at h
  | _ :: _, [], h => by simp [okTgs] at h
theorem pg_of {X : Cx} (hc : X.calm = true) (hN : X.N.Nodup) {fn : Str → Bool} (hfn : ∀ x, fn x = true → X.fn x = true) {tg : List Nat} {x : PySem.Expr} (h : okTg X.N X.env.scope fn tg x = true) : PG X x (tgG X.K tg) := by
  match tg, x, h with
  | [i], .Name x p, h =>
    simp only [okTg, okTgs, Bool.and_eq_true, decide_eq_true_eq, Bool.or_eq_true] at h
    obtain ⟨⟨h1, h2⟩, _⟩ := h
    exact pg_name hN h1 (h2.elim .inl fun q => .inr q.1) (h2.elim .inr fun q => .inl (hfn x q.2))
  | i :: j :: r, .Tuple es k p, h =>
    simp only [okTg] at h
    obtain ⟨h1, h2⟩ := assign_star (env := X.env) h
    exact pg_tup hc (pgs_of hN hfn h) h1 h2
theorem foldl_zip_nil (ρ : Slots) (l : List D) : (([] : List Nat).zip l).foldl (fun r p => sS r p.1 (some p.2)) ρ = ρ := rfl
section
variable {K : PySem.W.Frag} {z : Option (Nat × V × Hp)} {Γ : List Mode} {G H : Hp} {os : List Addr}
theorem Stt.put {σ : L2.St} {ρ : Slots} (st : Stt K z Γ G H σ ρ os) {i : Nat} {v : V} {d : D} (f : Fz K G v d) (m : gM Γ i = .no) (hi : i < σ.length) : Stt K z Γ G H (σ.set i (some v)) (sS ρ i (some d)) os :=
  ⟨st.sl.put hi f m, st.nd, st.sm, st.zt, fun j w B e => by
    have h0 : i ≠ j := fun q => by
      subst q
      exact st.zt _ _ e m
    rw [List.getElem?_set_ne h0]; exact st.z j w B e, st.zb⟩
theorem gNs_ok : ∀ {tg : List Nat} {vs : List V} {l : List D} {σ : L2.St} {ρ : Slots} {Q : L2.St → Hp → Prop}, Stt K z Γ G H σ ρ os → FzL K G vs l → l.length = tg.length → (∀ i ∈ tg, gM Γ i = .no) → (∀ i ∈ tg, i < σ.length) →
    (∀ σ2, Stt K z Γ G H σ2 ((tg.zip l).foldl (fun r p => sS r p.1 (some p.2)) ρ) os → σ2.length = σ.length → (∀ ws : List Nat, (∀ i ∈ tg, i ∈ ws) → L2.wipe σ2 ws = L2.wipe σ ws) → Q σ2 H) → gNs tg vs σ H Q
  | [], _, [], σ, ρ, Q, st, .nil, _, _, _, q => ⟨rfl, q σ st rfl fun _ _ => rfl⟩
  | i :: r, _, d :: l, σ, ρ, Q, st, .cons (v := v) (vs := vs) f fl, hl, m, hi, q => by
    refine ⟨v, vs, rfl, ?_⟩
    refine gNs_ok (st.put f (m i List.mem_cons_self) (hi i List.mem_cons_self)) fl (by simpa using hl) (fun j hj => m j (List.mem_cons_of_mem _ hj)) (fun j hj => by rw [List.length_set]; exact hi j (List.mem_cons_of_mem _ hj)) fun σ2 st2 e2 w2 => ?_
    refine q σ2 st2 (by rw [e2, List.length_set]) fun ws hws => ?_
    rw [w2 ws fun j hj => hws j (List.mem_cons_of_mem _ hj), wipe_set (hws i List.mem_cons_self)]
  | [], _, _ :: _, _, _, _, _, _, h, _, _, _ => by simp at h
  | _ :: _, _, [], _, _, _, _, .nil, h, _, _, _ => by simp at h
theorem tgG_ok {tg : List Nat} {v : V} {d : D} {σ : L2.St} {ρ ρ2 : Slots} {Q : L2.St → Hp → Prop} (st : Stt K z Γ G H σ ρ os) (f : Fz K G v d) (e : setT tg d ρ = some ρ2) (m : ∀ i ∈ tg, gM Γ i = .no) (hi : ∀ i ∈ tg, i < σ.length)
    (q : ∀ σ2, Stt K z Γ G H σ2 ρ2 os → σ2.length = σ.length → (∀ ws : List Nat, (∀ i ∈ tg, i ∈ ws) → L2.wipe σ2 ws = L2.wipe σ ws) → Q σ2 H) : tgG K tg v σ H Q := by
  match tg, e, m, hi, q with
  | [i], e, m, hi, q =>
    simp only [setT, Option.some.injEq] at e
    subst e
    exact q _ (st.put f (m i List.mem_cons_self) (hi i List.mem_cons_self)) (by rw [List.length_set]) fun ws hws => wipe_set (hws i List.mem_cons_self)
  | [], e, m, hi, q =>
    cases f with
    | @tup a0 vs0 l hx r =>
      by_cases hl : l.length = ([] : List Nat).length
      · have e : (if l.length = ([] : List Nat).length then some ((([] : List Nat).zip l).foldl (fun r p => sS r p.1 (some p.2)) ρ) else none) = some ρ2 := e
        rw [if_pos hl] at e
        cases e
        exact ⟨_, _, rfl, Same.sqT st.sm hx, by rw [r.length]; exact hl, gNs_ok st r hl m hi q⟩
      · have e : (if l.length = ([] : List Nat).length then some ((([] : List Nat).zip l).foldl (fun r p => sS r p.1 (some p.2)) ρ) else none) = some ρ2 := e
        rw [if_neg hl] at e; cases e
    | _ => simp [setT] at e
  | i :: j :: r', e, m, hi, q =>
    cases f with
    | @tup a0 vs0 l hx r =>
      by_cases hl : l.length = (i :: j :: r').length
      · have e : (if l.length = (i :: j :: r').length then some (((i :: j :: r').zip l).foldl (fun r p => sS r p.1 (some p.2)) ρ) else none) = some ρ2 := e
        rw [if_pos hl] at e
        cases e
        exact ⟨_, _, rfl, Same.sqT st.sm hx, by rw [r.length]; exact hl, gNs_ok st r hl m hi q⟩
      · have e : (if l.length = (i :: j :: r').length then some (((i :: j :: r').zip l).foldl (fun r p => sS r p.1 (some p.2)) ρ) else none) = some ρ2 := e
        rw [if_neg hl] at e; cases e
    | _ => simp [setT] at e
end
theorem wk_enum {K : PySem.W.Frag} {G : Hp} {a : Addr} {vs : List V} {ds : List D} (h : G a = some (.lst vs)) (f : FzL K G vs ds) : Wk K G (Ite K a) (enumL ds) where
  go := fun i H hi s => by
    have hi : i < ds.length := by simpa [enumL] using hi
    obtain ⟨v, e, _⟩ := f.get (List.getElem?_eq_getElem hi)
    exact ⟨vs, v, .inl (.inl (s _ _ h)), e⟩
  yld := fun i d G1 H x H' e s1 s2 y => by
    obtain ⟨T, u, rfl, hT, rfl, y⟩ := y
    unfold enumL at e
    rw [List.getElem?_mapIdx] at e
    obtain ⟨d0, e0, rfl⟩ := Option.map_eq_some_iff.mp e
    obtain ⟨v, e', f'⟩ := f.get e0
    have := y vs (.inl (.inl (s2 _ _ (s1 _ _ h))))
    rw [e'] at this
    have fu : Fz K G u d0 := by
      rw [← Option.some.inj this]; exact f'
    have gT : G1 T = none := by
      cases q : G1 T with
      | none => rfl
      | some o => rw [s2 _ _ q] at hT; cases hT
    have sG : Same G1 (upd G1 T (.tup [.int (i : Nat), u])) := fun b o q => by
      rw [upd_ne (fun z => by rw [z, gT] at q; cases q)]; exact q
    refine ⟨upd G1 T (.tup [.int (i : Nat), u]), ⟨sG, fun b o q => ?_, fun b o q _ => ⟨?_, ?_⟩⟩, ?_⟩
    · by_cases z : b = T
      · subst z; rw [upd_same] at q ⊢; exact q
      · rw [upd_ne z] at q ⊢; exact s2 _ _ q
    · rw [upd_ne (fun z => by rw [z, hT] at q; cases q)]; exact q
    · rw [upd_ne (fun z => by rw [z, hT] at q; cases q)]
    · exact .tup (.inl (.inl upd_same)) (.cons (.int _) (.cons ((fu.mono s1).mono sG) .nil))
  stop := fun i H hi s => ⟨vs, .inl (.inl (s _ _ h)), by rw [f.length]; simpa [enumL] using hi⟩
theorem sw_enum {a : IE} (ha : SE c a) : SW c (.wEnum a) := by
  intro X Γ z W tg x k he ok t
  obtain ⟨elts, kk, tpos, rfl⟩ := he a rfl
  cases x <;> try (simp only [okW, Bool.false_eq_true] at ok; done)
  rename_i f as ks p
  obtain ⟨g, pg, xa, rfl, rfl, rfl⟩ : ∃ g pg xa, f = (.Name g pg) ∧ as = (xa :: []) ∧ ks = [] := by
    cases f <;> try exact absurd (show false = true from ok) Bool.false_ne_true
    rename_i q1_ q2_
    cases as <;> try exact absurd (show false = true from ok) Bool.false_ne_true
    rename_i q3_ q4_
    cases q4_ <;> try exact absurd (show false = true from ok) Bool.false_ne_true
    cases ks <;> try exact absurd (show false = true from ok) Bool.false_ne_true
    exact ⟨_, _, _, rfl, rfl, rfl⟩
  simp only [okW, Bool.and_eq_true, decide_eq_true_eq] at ok
  obtain ⟨rfl, h0, h1, h2⟩ := ok
  obtain ⟨g1, g2⟩ := gl_of h0
  have pi := pi_enum (X := X) (p := pg) (pos := p) (tpos := tpos) (elts := elts) (kk := kk) g1 (k.blt _ (by decide)) (pa_cons (ha.F (z := z) k h1 t) pa_nil (star_of h2)) (star_of h2)
  refine ⟨fun pins s σ H R I h => pi.run pins s σ H R I ?_⟩
  have h : tG X.K X.mg z Γ W (rW X.K) (M.bind (runE c.T a) fun x => match x with | .lst l => M.ret (enumL l) | _ => M.bad) σ H R := h
  refine (tG.fst h).mono fun x H1 q1 => ?_
  obtain ⟨d1, G, ρ, os, st, f1, g⟩ := q1
  cases f1 with
  | lst hx r =>
    exact ⟨_, _, rfl, .inl (.inl (st.sm _ _ hx)), g G H1 os _ [] st ⟨wk_enum hx r, rfl⟩ st.nd (Fr.refl st.sm os) (Sub.refl H1 os)⟩
  | _ => exact (show False from g).elim
end OS
namespace OS
open PySem PySem.Spec PyProof.Rows L2
variable {c : SC}

/-! ### comprehensions -/
/-- the loop over what is walked, by an invariant that carries the rest of the run -/
theorem walk_loop {K : PySem.W.Frag} {G1 : Hp} {J : It} {ds : List D} (wk : Wk K G1 J ds) (body : D → List D → M (List D)) (I : List D → Slots → R (List D × Slots) → Hp → Prop) {B : V → Hp → (Hp → Prop) → Prop} {QEnd : Hp → Prop} {acc0 : List D} {ρ0 : Slots} {H0 : Hp}
    (h0 : I acc0 ρ0 (walkC body ds acc0 ρ0) H0) (hs : ∀ acc ρ r H, I acc ρ r H → Same G1 H) (hend : ∀ acc ρ H, I acc ρ (.ok (acc, ρ)) H → QEnd H)
    (hturn : ∀ i d rest acc ρ H x H', ds[i]? = some d → I acc ρ ((body d acc ρ).bind fun p => walkC body rest p.1 p.2) H → J.yld i H x H' → B x H' (fun H'' => ∃ acc' ρ', I acc' ρ' (walkC body rest acc' ρ') H'')) :
    ∃ W : Nat → Nat → Hp → Prop, (∃ m, W 0 m H0) ∧ ∀ i m H, W i m H → (J.stop i H ∧ QEnd H) ∨ (J.go i H ∧ ∃ Nx : Hp → Prop, (∀ H', Nx H' → ∃ m', m' < m ∧ W (i + 1) m' H') ∧ ∀ x H', J.yld i H x H' → B x H' Nx) := by
  refine ⟨fun i m H => m = ds.length - i ∧ i ≤ ds.length ∧ ∃ acc ρ, I acc ρ (walkC body (ds.drop i) acc ρ) H, ⟨ds.length, by simp, Nat.zero_le _, acc0, ρ0, h0⟩, ?_⟩
  rintro i m H ⟨rfl, hi, acc, ρ, hI⟩
  by_cases hlt : i < ds.length
  · refine .inr ⟨wk.go i H hlt (hs _ _ _ _ hI), fun H'' => ∃ acc' ρ', I acc' ρ' (walkC body (ds.drop (i + 1)) acc' ρ') H'', fun H' n => ⟨ds.length - (i + 1), by omega, rfl, hlt, n⟩, fun x H' y => ?_⟩
    rw [List.drop_eq_getElem_cons hlt] at hI
    exact hturn i ds[i] _ acc ρ H x H' (List.getElem?_eq_getElem hlt) hI y
  · have e : i = ds.length := by omega
    subst e
    rw [List.drop_length] at hI
    exact .inl ⟨wk.stop _ H (Nat.le_refl _) (hs _ _ _ _ hI), hend acc ρ H hI⟩
/-- what has been gathered so far: owned all through (b), or frozen items -/
def AccR (b : Bool) (K : PySem.W.Frag) (G H : Hp) (vs : List V) (ds : List D) (o : List Addr) : Prop := if b then OwAL K G H vs ds o else FzL K G vs ds ∧ o = []
def mEl (b : Bool) : Mode := if b then .all else .no
def mAcc (b : Bool) : Mode := if b then .all else .top
theorem OwAL.append {K : PySem.W.Frag} {G H : Hp} {v : V} {d : D} {o' : List Addr} (h : OwA K G H v d o') : ∀ {vs : List V} {ds : List D} {o : List Addr}, OwAL K G H vs ds o → OwAL K G H (vs ++ [v]) (ds ++ [d]) (o ++ o')
  | _, _, _, .nil => by
    have := OwAL.cons h OwAL.nil
    simpa using this
  | _, _, _, .cons (o := o1) (os := os) h1 r => by
    rw [List.append_assoc]
    exact OwAL.cons h1 (OwAL.append h r)
theorem AccR.frame {b : Bool} {K : PySem.W.Frag} {G H G' H' : Hp} {os : List Addr} (f : Fr G H G' H' os) {vs : List V} {ds : List D} {o : List Addr} (h : AccR b K G H vs ds o) (n : ∀ a ∈ o, a ∉ os) : AccR b K G' H' vs ds o := by
  cases b with
  | true => exact OwAL.frame f h n
  | false => exact ⟨h.1.mono f.g, h.2⟩
theorem AccR.there {b : Bool} {K : PySem.W.Frag} {G H : Hp} {vs : List V} {ds : List D} {o : List Addr} (h : AccR b K G H vs ds o) : ∀ a ∈ o, (∃ u, H a = some u) ∧ G a = none := by
  cases b with
  | true => exact OwAL.there h
  | false => rw [h.2]; exact fun _ q => nomatch q
theorem AccR.snoc {b : Bool} {K : PySem.W.Frag} {G H : Hp} {vs : List V} {ds : List D} {o o' : List Addr} {v : V} {d : D} (h : AccR b K G H vs ds o) (w : Own K G H (mEl b) v d o') : AccR b K G H (vs ++ [v]) (ds ++ [d]) (o ++ o') := by
  cases b with
  | true => exact OwAL.append w h
  | false =>
    obtain ⟨h1, rfl⟩ := h
    obtain ⟨w1, rfl⟩ := w
    exact ⟨h1.append (.cons w1 .nil), rfl⟩
theorem AccR.length {b : Bool} {K : PySem.W.Frag} {G H : Hp} {vs : List V} {ds : List D} {o : List Addr} (h : AccR b K G H vs ds o) : vs.length = ds.length := by
  cases b with
  | true => exact OwAL.length h
  | false => exact h.1.length
/-- at D the list that is being made -/
theorem AccR.own {b : Bool} {K : PySem.W.Frag} {G H : Hp} {vs : List V} {ds : List D} {o : List Addr} {a : Addr} (h : AccR b K G H vs ds o) (e : H a = some (.lst vs)) (g : G a = none) : Own K G H (mAcc b) (.ref a) (.lst ds) (a :: o) := by
  cases b with
  | true => exact OwA.lst e g h
  | false =>
    obtain ⟨h1, rfl⟩ := h
    exact ⟨a, vs, ds, rfl, rfl, e, g, h1, rfl⟩
section
variable {α β γ δ : Type} {K : PySem.W.Frag} {mg : Str → Option Value} {z : Option (Nat × V × Hp)} {Γ : List Mode} {W W' : WE0} {rel : Rel β α} {rel1 : Rel δ γ} {G H G1 H1 : Hp} {os os1 : List Addr} {σ σ' : L2.St} {ρ ρ1 : Slots} {Q : β → Hp → Prop}
/-- one step within a run that lets no exception out -/
theorem GP.stepN {m : M γ} {f : γ → M (List D)} {k : List D × Slots → R (α × Slots)} (P : R (α × Slots) → Prop) (hb : ¬ P .bad) (h : P (((M.bind m f ρ).nox).bind k)) (st0 : Stt K z Γ G H σ' ρ os)
    (next : ∀ a ρ', m ρ = .ok (a, ρ') → P (((f a ρ').nox).bind k)) (Q' : δ → Hp → Prop)
    (q : ∀ a ρ' G' H' os' b o, m ρ = .ok (a, ρ') → P (((f a ρ').nox).bind k) → Stt K z Γ G' H' σ' ρ' os' → rel1 G' H' b a o → (o ++ os').Nodup → Fr G H G' H' os → Sub H os (o ++ os') → Q' b H') : GP K mg z Γ (fun _ _ _ => False) rel1 (m ρ) G H os σ' Q' := by
  cases e : m ρ with
  | ok a =>
    obtain ⟨a, ρ'⟩ := a
    intro G' H' os' b o st hr nd f' s'
    exact q a ρ' G' H' os' b o e (next a ρ' e) st hr nd f' s'
  | exn c fs =>
    unfold M.bind at h
    rw [e] at h
    exact absurd h hb
  | bad =>
    unfold M.bind at h
    rw [e] at h
    exact absurd h hb
end
theorem noM_of {Γ : List Mode} {vs : List Nat} (h : noM Γ vs = true) : ∀ i ∈ vs, gM Γ i = .no := by
  unfold noM at h
  intro i hi
  have := List.all_eq_true.mp h i hi
  simpa using this
theorem pts_of {X : Cx} {Γ : List Mode} {z : Option (Nat × V × Hp)} {W : WE0} {t : IE} {xs : List PySem.Expr} (k : Cok c X z) (ht : ∀ u r, t = .cons u r → ST c u) (ok : okTs c X.env.scope Γ t xs = true) (tk : TkX X W) : PTs X xs (tG X.K X.mg z Γ W rB (runTs c.T t)) := by
  cases t <;> try (simp [okTs] at ok; done)
  · cases xs with
    | cons _ _ => simp [okTs] at ok
    | nil =>
      refine ⟨fun pins s σ H Q I h => ?_⟩
      obtain ⟨G, ρ, os, st, h⟩ := h
      exact (pts_nil (X := X)).run pins s σ H Q I (GP.ok_B (W := W) st h)
  · rename_i u r
    cases xs with
    | nil => simp [okTs] at ok
    | cons x xs =>
      cases xs with
      | cons _ _ => simp [okTs] at ok
      | nil =>
        simp only [okTs] at ok
        exact pts_one ((ht u r rfl) X Γ z W x k ok tk)
theorem Cok.blk {X : Cx} {z : Option (Nat × V × Hp)} (k : Cok c X z) (hh : c.hot = false) (s : Shared) (H : Hp) (scope : Scope) (ce : Env) (fp : List Addr) : Cok c (X.blk s H scope ce fp) z :=
  ⟨k.N, k.nd, k.hu, k.calm, fun h => let ⟨lv, r, t⟩ := k.tab h; ⟨lv, r, fun j s e => ⟨(t j s e).ex⟩⟩, (fun q => by rw [hh] at q; cases q), k.blt, k.con⟩
theorem Cok.blkH {X : Cx} {z : Option (Nat × V × Hp)} (k : Cok c X z) (hh : c.hot = true) (s : Shared) (H : Hp) (scope : Scope) (ce : Env) (fp : List Addr) : Cok c (OS.blkH X s H scope ce fp) z :=
  ⟨k.N, k.nd, k.hu, (fun q => by rw [hh] at q; cases q), (fun q => by rw [hh] at q; cases q), (fun _ => by
    obtain ⟨p, i, v, B, hp, h1, ez, pr⟩ := k.prim hh
    exact ⟨p, i, v, B, hp, h1, ez, fun X' a1 a2 a3 a4 a5 a6 a7 hp' => pr X' a1 a2 a3 a4 a5 a6 a7 hp'⟩), k.blt, k.con⟩
theorem Cok.hotC {X : Cx} {z : Option (Nat × V × Hp)} (k : Cok c X z) (hh : c.hot = true) : L2H.HotC X := by
  obtain ⟨p, i, v, B, hp, h1, _⟩ := k.prim hh
  exact ⟨p, h1, hp⟩
theorem takes0N {X : Cx} : L2N.Takes X (fun _ _ _ _ => False) := fun _ _ x => by
  obtain ⟨_, _, _, _, _, _, _, _, _, _, _, _, _, _, _, _, z⟩ := x
  exact z.elim
end OS
namespace OS
open PySem PySem.Spec PyProof.Rows L2
variable {c : SC}

theorem R.bind_assoc {α β γ : Type} (r : R α) (f : α → R β) (g : β → R γ) : (r.bind f).bind g = r.bind fun a => (f a).bind g := by cases r <;> rfl
abbrev WF : WE0 := fun _ _ _ => False
/-- one item of a comprehension -/
def cBody (T : List Sig) (vs tg : List Nat) (t e : IE) : D → List D → M (List D) := fun d acc ρ1 => match setT tg d ρ1 with
  | some ρ2 => (M.bind (runTs T t) fun r => if r then M.bind (runE T e) fun x => if acc.length < sizeLine then M.ret (acc ++ [x]) else M.bad else M.ret acc) ρ2 |>.nox.bind fun p => .ok (p.1, wipeS p.2 vs)
  | none => .bad
def cBody2 (T : List Sig) (vs tg : List Nat) (t : IE) (vs1 tg1 : List Nat) (it1 t1 e : IE) : D → List D → M (List D) := fun d acc ρ1 => match setT tg d ρ1 with
  | some ρ2 => (M.bind (runTs T t) fun r => if r then M.bind (runW T it1) fun l1 ρ3 => walkC (cBody T vs1 tg1 t1 e) l1 acc (wipeS ρ3 vs1) else M.ret acc) ρ2 |>.nox.bind fun p => .ok (p.1, wipeS p.2 vs)
  | none => .bad
section
variable {K : PySem.W.Frag} {mg : Str → Option Value} {z : Option (Nat × V × Hp)} {Γ : List Mode} {W : WE0} {G1 G H G4 H4 : Hp} {os os4 o o4 : List Addr} {σ τ σ2 : L2.St} {ρ ρ4 : Slots} {Q : V → Hp → Prop} {b : Bool} {D0 : Addr} {accV : List V} {acc : List D} {y : V} {d : D}
/-- the invariant of the loop -/
def AI (K : PySem.W.Frag) (mg : Str → Option Value) (z : Option (Nat × V × Hp)) (Γ : List Mode) (W : WE0) (b : Bool) (D0 : Addr) (G1 : Hp) (τ σ : L2.St) (Q : V → Hp → Prop) (fin : R (List D × Slots) → R (D × Slots)) (acc : List D) (ρ : Slots) (r : R (List D × Slots)) (H : Hp) : Prop :=
  ∃ G os o accV, Same G1 G ∧ Stt K z Γ G H τ ρ os ∧ H D0 = some (.lst accV) ∧ G D0 = none ∧ AccR b K G H accV acc o ∧ (D0 :: o ++ os).Nodup ∧ GP K mg z Γ W (rO K (mAcc b)) (fin r) G H (D0 :: o ++ os) σ Q
theorem acc_keep (ha : AccR b K G H accV acc o) (hD : H D0 = some (.lst accV)) (gD : G D0 = none) (nd : (D0 :: o ++ os).Nodup) (fr : Fr G H G4 H4 os) (sb : Sub H os os4) (n4 : os4.Nodup) :
    H4 D0 = some (.lst accV) ∧ G4 D0 = none ∧ AccR b K G4 H4 accV acc o ∧ (D0 :: o ++ os4).Nodup ∧ Fr G H G4 H4 (D0 :: o ++ os) ∧ Sub H (D0 :: o ++ os) (D0 :: o ++ os4) := by
  have nd' : (D0 :: (o ++ os)).Nodup := nd
  obtain ⟨n1, n2⟩ := List.nodup_cons.mp nd'
  have dos : D0 ∉ os := fun q => n1 (List.mem_append_right _ q)
  have doo : D0 ∉ o := fun q => n1 (List.mem_append_left _ q)
  obtain ⟨n3, n5, n6⟩ := List.nodup_append.mp n2
  have oos : ∀ a ∈ o, a ∉ os := fun a q q' => n6 a q a q' rfl
  obtain ⟨k1, k2⟩ := fr.k _ _ hD dos
  refine ⟨k1, k2.trans gD, ha.frame fr oos, ?_, ⟨fr.g, fr.s, fun a u h n => fr.k a u h fun q => n (List.mem_cons_of_mem _ (List.mem_append_right _ q))⟩, fun a h => ?_⟩
  · show (D0 :: (o ++ os4)).Nodup
    refine List.nodup_cons.mpr ⟨fun q => ?_, List.nodup_append.mpr ⟨n3, n4, fun a ha' a' hb e => ?_⟩⟩
    · rcases List.mem_append.mp q with q | q
      · exact doo q
      · rcases sb _ q with w | w
        · exact dos w
        · rw [hD] at w; cases w
    · subst e
      obtain ⟨⟨u, hu⟩, _⟩ := ha.there a ha'
      rcases sb _ hb with w | w
      · exact oos a ha' w
      · rw [hu] at w; cases w
  · have h : a ∈ D0 :: (o ++ os4) := h
    rcases List.mem_cons.mp h with h | h
    · exact .inl (h ▸ List.mem_cons_self)
    · rcases List.mem_append.mp h with h | h
      · exact .inl (List.mem_cons_of_mem _ (List.mem_append_left _ h))
      · exact (sb a h).elim (fun q => .inl (List.mem_cons_of_mem _ (List.mem_append_right _ q))) .inr
theorem acc_step (ha : AccR b K G H accV acc o) (hD : H D0 = some (.lst accV)) (gD : G D0 = none) (nd : (D0 :: o ++ os).Nodup) (fr : Fr G H G4 H4 os) (sb : Sub H os (o4 ++ os4)) (n4 : (o4 ++ os4).Nodup)
    (st : Stt K z Γ G4 H4 σ2 ρ4 os4) (w : Own K G4 H4 (mEl b) y d o4) :
    H4 D0 = some (.lst accV) ∧ G4 D0 = none ∧ AccR b K G4 (upd H4 D0 (.lst (accV ++ [y]))) (accV ++ [y]) (acc ++ [d]) (o ++ o4) ∧ (D0 :: (o ++ o4) ++ os4).Nodup ∧ Stt K z Γ G4 (upd H4 D0 (.lst (accV ++ [y]))) σ2 ρ4 os4 ∧
      Fr G H G4 (upd H4 D0 (.lst (accV ++ [y]))) (D0 :: o ++ os) ∧ Sub H (D0 :: o ++ os) (D0 :: (o ++ o4) ++ os4) := by
  obtain ⟨k1, k2, k3, k4, k5, k6⟩ := acc_keep ha hD gD nd fr sb n4
  have k4' : (D0 :: (o ++ (o4 ++ os4))).Nodup := k4
  obtain ⟨n1, n2⟩ := List.nodup_cons.mp k4'
  have u : Fr G4 H4 G4 (upd H4 D0 (.lst (accV ++ [y]))) [D0] := ⟨Same.refl _, fun a o e => by
      rw [upd_ne (fun q => by subst q; rw [k2] at e; cases e)]; exact st.sm a o e, fun a o e n => ⟨by rw [upd_ne (fun q => n (by simp [q]))]; exact e, rfl⟩⟩
  have nD : ∀ a, a ∈ o ++ (o4 ++ os4) → a ∉ [D0] := fun a q q' => n1 (by rw [← List.mem_singleton.mp q']; exact q)
  refine ⟨k1, k2, (k3.snoc w).frame u fun a q => nD a ?_, ?_, st.frame u fun a q => nD a (by simp [q]), ⟨k5.g, u.s, fun a x e n => ?_⟩, ?_⟩
  · rcases List.mem_append.mp q with q | q <;> simp [q]
  · have e : D0 :: (o ++ o4) ++ os4 = D0 :: (o ++ (o4 ++ os4)) := by simp
    rw [e]; exact k4'
  · obtain ⟨j1, j2⟩ := k5.k a x e n
    exact ⟨by rw [upd_ne (fun q => n (by rw [q]; exact List.mem_cons_self))]; exact j1, j2⟩
  · have e : D0 :: (o ++ o4) ++ os4 = D0 :: o ++ (o4 ++ os4) := by simp
    rw [e]; exact k6
/-- one turn of the loop that puts items in -/
theorem lc_turn {J : It} {ds : List D} (wk : Wk K G1 J ds) {T : List Sig} {vs tg : List Nat} {t e : IE} {fin : R (List D × Slots) → R (D × Slots)} (hfin : fin .bad = .bad) (hτ : L2.wipe τ vs = τ) (hm : ∀ i ∈ vs, gM Γ i = .no) (htg : ∀ i ∈ tg, i ∈ vs) (hlen : ∀ i ∈ tg, i < τ.length)
    {i : Nat} {rest : List D} {x : V} {H' : Hp} (ei : ds[i]? = some d) (hI : AI K mg z Γ W b D0 G1 τ σ Q fin acc ρ ((cBody T vs tg t e d acc ρ).bind fun p => walkC (cBody T vs tg t e) rest p.1 p.2) H) (yl : J.yld i H x H') :
    tgG K tg x τ H' fun σ2 H2 => L2.wipe σ2 vs = τ ∧ tG K mg z Γ WF rB (runTs T t) σ2 H2 fun r H3 => if r = true then tG K mg z Γ WF (rO K (mEl b)) (runE T e) σ2 H3 fun y H4 => ∃ accV, H4 D0 = some (.lst accV) ∧ accV.length < sizeLine ∧
        (∃ acc' ρ', AI K mg z Γ W b D0 G1 τ σ Q fin acc' ρ' (walkC (cBody T vs tg t e) rest acc' ρ') (upd H4 D0 (.lst (accV ++ [y]))))
      else ∃ acc' ρ', AI K mg z Γ W b D0 G1 τ σ Q fin acc' ρ' (walkC (cBody T vs tg t e) rest acc' ρ') H3 := by
  obtain ⟨G, os, o, accV, s1, st, hD, gD, ha, nd, g⟩ := hI
  obtain ⟨G', fr0, fx⟩ := wk.yld i d G H x H' ei s1 st.sm yl
  obtain ⟨hD, gD, ha, nd, fr0', sb0⟩ := acc_keep ha hD gD nd (fr0.weak (os' := os) fun _ q => nomatch q) (Sub.refl H os) st.nd
  have st := st.frame fr0 fun _ _ q => nomatch q
  have s1 : Same G1 G' := s1.trans fr0.g
  have g := GP.shift fr0' sb0 g
  unfold cBody at g
  cases es : setT tg d ρ with
  | none =>
    simp only [es] at g
    have g : GP K mg z Γ W (rO K (mAcc b)) (fin .bad) G' H' (D0 :: o ++ os) σ Q := g
    rw [hfin] at g; exact g.elim
  | some ρ2 =>
    simp only [es] at g
    rw [R.bind_assoc] at g
    refine tgG_ok st fx es (fun j hj => hm j (htg j hj)) hlen fun σ2 st2 len2 w2 => ?_
    have hw : L2.wipe σ2 vs = τ := (w2 vs htg).trans hτ
    refine ⟨hw, G', ρ2, os, st2, GP.stepN (fun r => GP K mg z Γ W (rO K (mAcc b)) (fin r) G' H' (D0 :: o ++ os) σ Q) (by show ¬ GP K mg z Γ W (rO K (mAcc b)) (fin .bad) G' H' (D0 :: o ++ os) σ Q; rw [hfin]; exact id) g st2 (fun a ρ' ea => by unfold M.bind at g; rw [ea] at g; exact g) _ ?_⟩
    intro a ρ3 G3 H3 os3 r o3 ea g3 st3 ⟨er, eo⟩ n3 fr3 sb3
    subst er; subst eo
    have sb3 : Sub H' os os3 := sb3
    cases r with
    | false =>
      rw [if_neg (by simp)]
      have g3 : GP K mg z Γ W (rO K (mAcc b)) (fin (walkC (cBody T vs tg t e) rest acc (wipeS ρ3 vs))) G' H' (D0 :: o ++ os) σ Q := g3
      obtain ⟨hD3, gD3, ha3, nd3, fr3', sb3'⟩ := acc_keep ha hD gD nd fr3 sb3 st3.nd
      exact ⟨acc, wipeS ρ3 vs, G3, os3, o, accV, s1.trans fr3.g, hw ▸ st3.wipe hm, hD3, gD3, ha3, nd3, GP.shift fr3' sb3' g3⟩
    | true =>
      rw [if_pos rfl]
      have g3 : GP K mg z Γ W (rO K (mAcc b)) (fin (((M.bind (runE T e) fun x => if acc.length < sizeLine then M.ret (acc ++ [x]) else M.bad) ρ3).nox.bind fun p => walkC (cBody T vs tg t e) rest p.1 (wipeS p.2 vs))) G' H' (D0 :: o ++ os) σ Q := g3
      refine ⟨G3, ρ3, os3, st3, GP.stepN (fun r => GP K mg z Γ W (rO K (mAcc b)) (fin r) G' H' (D0 :: o ++ os) σ Q) (by show ¬ GP K mg z Γ W (rO K (mAcc b)) (fin .bad) G' H' (D0 :: o ++ os) σ Q; rw [hfin]; exact id) g3 st3 (fun a ρ' ea => by unfold M.bind at g3; rw [ea] at g3; exact g3) _ ?_⟩
      intro dy ρ4 G4 H4 os4 y o4 ey g4 st4 hy n4 fr4 sb4
      have frT := fr3.trans fr4 sb3
      have sbT := Sub.go fr3 sb3 sb4
      obtain ⟨hD4, gD4, ha4, nd4, st4', fr4', sb4'⟩ := acc_step ha hD gD nd frT sbT n4 st4 hy
      by_cases hl : acc.length < sizeLine
      · rw [if_pos hl] at g4
        have g4 : GP K mg z Γ W (rO K (mAcc b)) (fin (walkC (cBody T vs tg t e) rest (acc ++ [dy]) (wipeS ρ4 vs))) G' H' (D0 :: o ++ os) σ Q := g4
        exact ⟨accV, hD4, by rw [ha.length]; exact hl, acc ++ [dy], wipeS ρ4 vs, G4, os4, o ++ o4, _, s1.trans frT.g, hw ▸ st4'.wipe hm, upd_same, gD4, ha4, nd4, GP.shift fr4' sb4' g4⟩
      · rw [if_neg hl] at g4
        have g4 : GP K mg z Γ W (rO K (mAcc b)) (fin .bad) G' H' (D0 :: o ++ os) σ Q := g4
        rw [hfin] at g4; exact g4.elim
end
theorem SE.B {e : IE} (h : SE c e) {X : Cx} {Γ : List Mode} {z : Option (Nat × V × Hp)} {W : WE0} {x : PySem.Expr} (k : Cok c X z) (o : okE c X.env.scope Γ e x = true) (t : TkX X W) : PE X x (tG X.K X.mg z Γ W (rO X.K (mEl (decide (modeE c.T e = .all)))) (runE c.T e)) := by
  by_cases q : modeE c.T e = .all
  · have := h X Γ z W x k o t
    rw [q] at this
    rw [decide_eq_true q]; exact this
  · rw [decide_eq_false q]; exact h.F k o t
theorem wipe_own (N : List Str) (vs : List Nat) : (vs.map fun i => (N.getD i "", i)).map (·.2) = vs := by
  induction vs with
  | nil => rfl
  | cons i r ih => simp only [List.map_cons, ih]
theorem PE.impI {X : Cx} {x : PySem.Expr} {t t' : TE} (h : PE X x t) (i : ∀ σ H Q, σ.length = X.N.length → t' σ H Q → t σ H Q) : PE X x t' := ⟨fun pins s σ H Q I q => h.run pins s σ H Q I (i σ H Q I.len q)⟩
theorem wipe_self (σ : L2.St) (vs : List Nat) : L2.wipe (L2.wipe σ vs) vs = L2.wipe σ vs := wipe_idem fun _ h => h
/-- a comprehension as a value, and stored to a name that changes places with its own -/
def CompSt (c : SC) (e : IE) : Prop := ∀ (X : Cx) (Γ : List Mode) (z : Option (Nat × V × Hp)) (W : WE0) (x : PySem.Expr), Cok c X z → okE c X.env.scope Γ e x = true → TkX X W → ∃ t : TE, PE X x t ∧
  (∀ {i : Nat} {y : Str} {py spos : Pos}, X.N[i]? = some y → X.env.scope.names.lookup y = some .local → swapsWith x (some (.Name y py)) spos.line X.env = pure true → PS X (.Assign [.Name y py] x spos) (tAsg t (gName i))) ∧
  ∀ σ H Q, σ.length = X.N.length → tG X.K X.mg z Γ W (rO X.K (modeE c.T e)) (runE c.T e) σ H Q → t σ H Q
theorem CompSt.se {e : IE} (h : CompSt c e) : SE c e := fun X Γ z W x k ok tk => by
  obtain ⟨t, pe, _, im⟩ := h X Γ z W x k ok tk
  exact PE.impI pe im
theorem pg_ofH {X : Cx} (hN : X.N.Nodup) {fn : Str → Bool} (hfn : ∀ x, fn x = true → X.fn x = true) {tg : List Nat} {it : IE} (ho : hotW tg it = true) {x : PySem.Expr} (h : okTg X.N X.env.scope fn tg x = true) : PG X x (tgG X.K tg) := by
  match tg, x, h with
  | [i], .Name x p, h =>
    simp only [okTg, okTgs, Bool.and_eq_true, decide_eq_true_eq, Bool.or_eq_true] at h
    obtain ⟨⟨h1, h2⟩, _⟩ := h
    exact pg_name hN h1 (h2.elim .inl fun q => .inr q.1) (h2.elim .inr fun q => .inl (hfn x q.2))
  | i :: j :: r, .Tuple es k p, h => simp [hotW] at ho
theorem comp_st {vs tg : List Nat} {it t e : IE} (hw : SW c it) (hwH : c.hot = true → hotW tg it = true → SWH c it) (ht : ∀ u r, t = .cons u r → ST c u) (he : SE c e) : CompSt c (.comp vs tg it t e) := by
  intro X Γ z W x k ok tk
  cases x <;> try (simp only [okE, Bool.false_eq_true] at ok; done)
  rename_i xe gs scope pos
  match gs, ok with
  | [⟨xt, xi, xs, 0⟩], ok =>
    simp only [okE, Bool.and_eq_true] at ok
    obtain ⟨hh, h1, h2, h3, h4, h5, h6w, h7, h8⟩ := ok
    have h6 := okTgW.one h6w
    have hen := okTgW.en h6w
    simp only [Bool.or_eq_true, Bool.not_eq_true'] at hh
    have hm := noM_of h3
    have htg : ∀ i ∈ tg, i ∈ vs := fun i hi => by have := List.all_eq_true.mp h4 i hi; simpa using this
    have hB := blkOk_by h5
    have hN : X.N.Nodup := by rw [k.N]; exact k.nd
    show ∃ t : TE, _ ∧ _ ∧ ∀ σ H Q, _ → tG X.K X.mg z Γ W (rO X.K (if modeE c.T e = .all then .all else .top)) _ σ H Q → t σ H Q
    have em : (if modeE c.T e = .all then Mode.all else .top) = mAcc (decide (modeE c.T e = .all)) := by
      by_cases q : modeE c.T e = .all
      · rw [if_pos q, decide_eq_true q]; rfl
      · rw [if_neg q, decide_eq_false q]; rfl
    rw [em]
    generalize hb : decide (modeE c.T e = .all) = b
    have key : ∃ _ : PE X (.ListComp xe [⟨xt, xi, xs, 0⟩] scope pos) (tLc (tG X.K X.mg z Γ W (rW X.K) (runW c.T it)) (tgG X.K tg) (tG X.K X.mg z Γ WF rB (runTs c.T t)) (tG X.K X.mg z Γ WF (rO X.K (mEl b)) (runE c.T e)) ((vs.map fun i => (c.N.getD i "", i)).map (·.2))),
        (∀ {i : Nat} {y : Str} {py spos : Pos}, X.N[i]? = some y → X.env.scope.names.lookup y = some .local → swapsWith (.ListComp xe [⟨xt, xi, xs, 0⟩] scope pos) (some (.Name y py)) spos.line X.env = pure true → PS X (.Assign [.Name y py] (.ListComp xe [⟨xt, xi, xs, 0⟩] scope pos) spos) (tAsg (tLc (tG X.K X.mg z Γ W (rW X.K) (runW c.T it)) (tgG X.K tg) (tG X.K X.mg z Γ WF rB (runTs c.T t)) (tG X.K X.mg z Γ WF (rO X.K (mEl b)) (runE c.T e)) ((vs.map fun i => (c.N.getD i "", i)).map (·.2))) (gName i))) := by
      rcases hq : c.hot with _ | _
      · have hh := hq
        have pe := pe_lc (X := X) (pos := pos) (scope := scope) (elt := xe) (tg := xt) (iter := xi) (ifs := xs) (own := vs.map fun i => (c.N.getD i "", i)) (g := tgG X.K tg) (tt := tG X.K X.mg z Γ WF rB (runTs c.T t)) (te := tG X.K X.mg z Γ WF (rO X.K (mEl b)) (runE c.T e)) (k.calm hh) hN (hw X Γ z W xt xi k hen h1 tk) (by rw [k.N]; exact hB)
          (fun s H C cl fp => pg_of (X := X.blk s H scope (compEnvC scope cl C X.env) fp) (k.calm hh) hN (fn := cellFn scope) (fun _ q => q) (by show okTg X.N _ _ _ _ = _; rw [k.N]; exact h6))
          (fun s H C cl fp => pts_of (z := z) (W := WF) (k.blk hh s H scope (compEnvC scope cl C X.env) fp) ht h7 takes0N)
          (fun s H C cl fp => by have := SE.B he (z := z) (W := WF) (k.blk hh s H scope (compEnvC scope cl C X.env) fp) h8 takes0N; rw [hb] at this; exact this) (fold_of h2)
        have pl := fun {i : Nat} {y : Str} {py spos : Pos} (hi : X.N[i]? = some y) (hy : X.env.scope.names.lookup y = some .local) (hsw : swapsWith (.ListComp xe [⟨xt, xi, xs, 0⟩] scope pos) (some (.Name y py)) spos.line X.env = pure true) => ps_setLc (X := X) (pos := pos) (spos := spos) (py := py) (scope := scope) (elt := xe) (tg := xt) (iter := xi) (ifs := xs) (own := vs.map fun i => (c.N.getD i "", i)) (g := tgG X.K tg) (tt := tG X.K X.mg z Γ WF rB (runTs c.T t)) (te := tG X.K X.mg z Γ WF (rO X.K (mEl b)) (runE c.T e)) (k.calm hh) hN hi hy hsw (hw X Γ z W xt xi k hen h1 tk) (by rw [k.N]; exact hB)
          (fun s H C cl fp => pg_of (X := X.blk s H scope (compEnvC scope cl C X.env) fp) (k.calm hh) hN (fn := cellFn scope) (fun _ q => q) (by show okTg X.N _ _ _ _ = _; rw [k.N]; exact h6))
          (fun s H C cl fp => pts_of (z := z) (W := WF) (k.blk hh s H scope (compEnvC scope cl C X.env) fp) ht h7 takes0N)
          (fun s H C cl fp => by have := SE.B he (z := z) (W := WF) (k.blk hh s H scope (compEnvC scope cl C X.env) fp) h8 takes0N; rw [hb] at this; exact this) (fold_of h2)
        exact ⟨pe, fun hi hy hsw => pl hi hy hsw⟩
      · have hwt := hh.resolve_left (by rw [hq]; simp)
        have hH := hwH hq hwt
        have pl := fun {i : Nat} {y : Str} {py spos : Pos} (hi : X.N[i]? = some y) (hy : X.env.scope.names.lookup y = some .local) (hsw : swapsWith (.ListComp xe [⟨xt, xi, xs, 0⟩] scope pos) (some (.Name y py)) spos.line X.env = pure true) => psH_setLc (X := X) (pos := pos) (spos := spos) (py := py) (scope := scope) (elt := xe) (tg := xt) (iter := xi) (ifs := xs) (own := vs.map fun i => (c.N.getD i "", i)) (g := tgG X.K tg) (tt := tG X.K X.mg z Γ WF rB (runTs c.T t)) (te := tG X.K X.mg z Γ WF (rO X.K (mEl b)) (runE c.T e)) (k.hotC hq) hN hi hy hsw (hH X Γ z W xt xi k h1 tk) (by rw [k.N]; exact hB)
          (fun s H C cl fp => pg_ofH (X := blkH X s H scope (compEnvC scope cl C X.env) fp) hN (fn := cellFn scope) (fun _ q => q) hwt (by show okTg X.N _ _ _ _ = _; rw [k.N]; exact h6))
          (fun s H C cl fp => pts_of (z := z) (W := WF) (k.blkH hq s H scope (compEnvC scope cl C X.env) fp) ht h7 takes0N)
          (fun s H C cl fp => by have := SE.B he (z := z) (W := WF) (k.blkH hq s H scope (compEnvC scope cl C X.env) fp) h8 takes0N; rw [hb] at this; exact this) (fold_of h2)
        exact ⟨peH_lc (X := X) (pos := pos) (scope := scope) (elt := xe) (tg := xt) (iter := xi) (ifs := xs) (own := vs.map fun i => (c.N.getD i "", i)) (g := tgG X.K tg) (tt := tG X.K X.mg z Γ WF rB (runTs c.T t)) (te := tG X.K X.mg z Γ WF (rO X.K (mEl b)) (runE c.T e)) (k.hotC hq) hN (hH X Γ z W xt xi k h1 tk) (by rw [k.N]; exact hB)
          (fun s H C cl fp => pg_ofH (X := blkH X s H scope (compEnvC scope cl C X.env) fp) hN (fn := cellFn scope) (fun _ q => q) hwt (by show okTg X.N _ _ _ _ = _; rw [k.N]; exact h6))
          (fun s H C cl fp => pts_of (z := z) (W := WF) (k.blkH hq s H scope (compEnvC scope cl C X.env) fp) ht h7 takes0N)
          (fun s H C cl fp => by have := SE.B he (z := z) (W := WF) (k.blkH hq s H scope (compEnvC scope cl C X.env) fp) h8 takes0N; rw [hb] at this; exact this) (fold_of h2), fun hi hy hsw => pl hi hy hsw⟩
    obtain ⟨pe, pl⟩ := key
    rw [wipe_own] at pe pl
    refine ⟨_, pe, fun hi hy hsw => pl hi hy hsw, fun σ H Q hlσ q => ?_⟩
    have q : tG X.K X.mg z Γ W (rO X.K (mAcc b)) (M.bind (runW c.T it) fun l ρ => (walkC (cBody c.T vs tg t e) l [] (wipeS ρ vs)).bind fun p => .ok (.lst p.1, unwipe ρ p.2 vs)) σ H Q := q
    refine (q.bind rW_z).mono fun J H1 q1 => ?_
    obtain ⟨ds, G1, ρ1, os1, st1, ⟨wk, _⟩, g⟩ := q1
    intro D0 hD0
    have gD0 := none_G st1 hD0
    have hlen : ∀ i ∈ tg, i < (L2.wipe σ vs).length := fun i hi => by
      have e1 := hB.ix (c.N.getD i "", i) (List.mem_map.mpr ⟨i, htg i hi, rfl⟩)
      rw [wipe_length, hlσ, k.N]
      exact (List.getElem?_eq_some_iff.mp e1).1
    refine walk_loop wk (cBody c.T vs tg t e) (AI X.K X.mg z Γ W b D0 G1 (L2.wipe σ vs) σ Q (fun r => r.bind fun p => .ok (.lst p.1, unwipe ρ1 p.2 vs)))
      (B := fun x H' N => tgG X.K tg x (L2.wipe σ vs) H' fun σ2 H2 => L2.wipe σ2 vs = L2.wipe σ vs ∧ tG X.K X.mg z Γ WF rB (runTs c.T t) σ2 H2 fun r H3 => if r = true then tG X.K X.mg z Γ WF (rO X.K (mEl b)) (runE c.T e) σ2 H3 fun y H4 => ∃ accV, H4 D0 = some (.lst accV) ∧ accV.length < sizeLine ∧ N (upd H4 D0 (.lst (accV ++ [y]))) else N H3)
      (QEnd := fun H => Q (.ref D0) H) (acc0 := []) (ρ0 := wipeS ρ1 vs) ?_ (fun acc ρ r H hI => ?_) (fun acc ρ H hI => ?_) (fun i d rest acc ρ H x H' ei hI yl => lc_turn wk rfl (wipe_self σ vs) hm htg hlen ei hI yl)
    · have u : Fr G1 H1 G1 (upd H1 D0 (.lst [])) [] := ⟨Same.refl _, fun a o e => by
        rw [upd_ne (ne_of_none e gD0)]; exact st1.sm a o e, fun a o e _ => ⟨by rw [upd_ne (ne_of_none e hD0)]; exact e, rfl⟩⟩
      have nD : D0 ∉ os1 := fun q => by
        obtain ⟨⟨w, hw⟩, _⟩ := st1.sl.there _ q
        rw [hD0] at hw; cases hw
      refine ⟨G1, os1, [], [], Same.refl _, (st1.wipe hm).frame u (fun _ _ q => nomatch q), upd_same, gD0, ?_, List.nodup_cons.mpr ⟨nD, st1.nd⟩, GP.shift (u.weak fun _ q => nomatch q) (fun a h => (List.mem_cons.mp h).elim (fun e => .inr (e ▸ hD0)) .inl) g⟩
      cases b
      · exact ⟨.nil, rfl⟩
      · exact OwAL.nil
    · obtain ⟨G, os, o, accV, s1, st, _⟩ := hI
      exact s1.trans st.sm
    · obtain ⟨G, os, o, accV, s1, st, hD, gD, ha, nd, g⟩ := hI
      refine g G H os _ (D0 :: o) ?_ (ha.own hD gD) nd (Fr.refl st.sm _) (Sub.refl _ _)
      have := Sl.unwipe st1.sl s1 st.sl hm
      rw [overW_wipe] at this
      exact ⟨this, st.nd, st.sm, st.zt, st1.z, st.zb⟩
  | [], ok => simp [okE] at ok
theorem comp2_st {vs tg vs1 tg1 : List Nat} {it t it1 t1 e : IE} (hw : SW c it) (ht : ∀ u r, t = .cons u r → ST c u) (hw1 : SW c it1) (ht1 : ∀ u r, t1 = .cons u r → ST c u) (he : SE c e) : CompSt c (.comp2 vs tg it t vs1 tg1 it1 t1 e) := by
  intro X Γ z W x k ok tk
  cases x <;> try (simp only [okE, Bool.false_eq_true] at ok; done)
  rename_i xe gs scope pos
  match gs, ok with
  | [⟨xt, xi, xs, 0⟩, ⟨xt1, xi1, xs1, 0⟩], ok =>
    simp only [okE, Bool.and_eq_true] at ok
    obtain ⟨hh, h1, h2, h3, h4, h5, h6w, h7, h8, h9, h10, h11, h12w, h13, h14⟩ := ok
    have h6 := okTgW.one h6w
    have hen := okTgW.en h6w
    have h12 := okTgW.one h12w
    have hen1 := okTgW.en h12w
    have hh : c.hot = false := by simpa using hh
    have hm := noM_of h3
    have htg : ∀ i ∈ tg, i ∈ vs := fun i hi => by have := List.all_eq_true.mp h4 i hi; simpa using this
    have hv1 : ∀ i ∈ vs1, i ∈ vs := fun i hi => by have := List.all_eq_true.mp h8 i hi; simpa using this
    have htg1 : ∀ i ∈ tg1, i ∈ vs1 := fun i hi => by have := List.all_eq_true.mp h9 i hi; simpa using this
    have hm1 : ∀ i ∈ vs1, gM Γ i = .no := fun i hi => hm i (hv1 i hi)
    have hB := blkOk_by h5
    have hN : X.N.Nodup := by rw [k.N]; exact k.nd
    show ∃ t : TE, _ ∧ _ ∧ ∀ σ H Q, _ → tG X.K X.mg z Γ W (rO X.K (if modeE c.T e = .all then .all else .top)) _ σ H Q → t σ H Q
    have em : (if modeE c.T e = .all then Mode.all else .top) = mAcc (decide (modeE c.T e = .all)) := by
      by_cases q : modeE c.T e = .all
      · rw [if_pos q, decide_eq_true q]; rfl
      · rw [if_neg q, decide_eq_false q]; rfl
    rw [em]
    generalize hb : decide (modeE c.T e = .all) = b
    have pe := pe_lc2 (X := X) (pos := pos) (scope := scope) (elt := xe) (tg := xt) (iter := xi) (ifs := xs) (tg1 := xt1) (iter1 := xi1) (ifs1 := xs1) (own := vs.map fun i => (c.N.getD i "", i)) (vs1 := vs1) (g := tgG X.K tg) (tt := tG X.K X.mg z Γ WF rB (runTs c.T t)) (wi1 := tG X.K X.mg z Γ WF (rW X.K) (runW c.T it1)) (g1 := tgG X.K tg1) (tt1 := tG X.K X.mg z Γ WF rB (runTs c.T t1)) (te := tG X.K X.mg z Γ WF (rO X.K (mEl b)) (runE c.T e)) (k.calm hh) hN (hw X Γ z W xt xi k hen h1 tk) (by rw [k.N]; exact hB)
      (fun i hi => by rw [wipe_own]; exact hv1 i hi)
      (fun s H C cl fp => pg_of (X := X.blk s H scope (compEnvC scope cl C X.env) fp) (k.calm hh) hN (fn := cellFn scope) (fun _ q => q) (by show okTg X.N _ _ _ _ = _; rw [k.N]; exact h6))
      (fun s H C cl fp => pts_of (z := z) (W := WF) (k.blk hh s H scope (compEnvC scope cl C X.env) fp) ht h7 takes0N)
      (fun s H C cl fp => hw1 _ Γ z WF xt1 xi1 (k.blk hh s H scope (compEnvC scope cl C X.env) fp) hen1 h10 takes0N)
      (fun s H C cl fp => pg_of (X := X.blk s H scope (compEnvC scope cl C X.env) fp) (k.calm hh) hN (fn := cellFn scope) (fun _ q => q) (by show okTg X.N _ _ _ _ = _; rw [k.N]; exact h12))
      (fun s H C cl fp => pts_of (z := z) (W := WF) (k.blk hh s H scope (compEnvC scope cl C X.env) fp) ht1 h13 takes0N)
      (fun s H C cl fp => by have := SE.B he (z := z) (W := WF) (k.blk hh s H scope (compEnvC scope cl C X.env) fp) h14 takes0N; rw [hb] at this; exact this) (fold_of h2) (fun env => fold_of h11)
    have pl := fun {i : Nat} {y : Str} {py spos : Pos} (hi : X.N[i]? = some y) (hy : X.env.scope.names.lookup y = some .local) (hsw : swapsWith (.ListComp xe [⟨xt, xi, xs, 0⟩, ⟨xt1, xi1, xs1, 0⟩] scope pos) (some (.Name y py)) spos.line X.env = pure true) => ps_setLc2 (X := X) (pos := pos) (spos := spos) (py := py) (scope := scope) (elt := xe) (tg := xt) (iter := xi) (ifs := xs) (tg1 := xt1) (iter1 := xi1) (ifs1 := xs1) (own := vs.map fun i => (c.N.getD i "", i)) (vs1 := vs1) (g := tgG X.K tg) (tt := tG X.K X.mg z Γ WF rB (runTs c.T t)) (wi1 := tG X.K X.mg z Γ WF (rW X.K) (runW c.T it1)) (g1 := tgG X.K tg1) (tt1 := tG X.K X.mg z Γ WF rB (runTs c.T t1)) (te := tG X.K X.mg z Γ WF (rO X.K (mEl b)) (runE c.T e)) (k.calm hh) hN hi hy hsw (hw X Γ z W xt xi k hen h1 tk) (by rw [k.N]; exact hB)
      (fun i hi => by rw [wipe_own]; exact hv1 i hi)
      (fun s H C cl fp => pg_of (X := X.blk s H scope (compEnvC scope cl C X.env) fp) (k.calm hh) hN (fn := cellFn scope) (fun _ q => q) (by show okTg X.N _ _ _ _ = _; rw [k.N]; exact h6))
      (fun s H C cl fp => pts_of (z := z) (W := WF) (k.blk hh s H scope (compEnvC scope cl C X.env) fp) ht h7 takes0N)
      (fun s H C cl fp => hw1 _ Γ z WF xt1 xi1 (k.blk hh s H scope (compEnvC scope cl C X.env) fp) hen1 h10 takes0N)
      (fun s H C cl fp => pg_of (X := X.blk s H scope (compEnvC scope cl C X.env) fp) (k.calm hh) hN (fn := cellFn scope) (fun _ q => q) (by show okTg X.N _ _ _ _ = _; rw [k.N]; exact h12))
      (fun s H C cl fp => pts_of (z := z) (W := WF) (k.blk hh s H scope (compEnvC scope cl C X.env) fp) ht1 h13 takes0N)
      (fun s H C cl fp => by have := SE.B he (z := z) (W := WF) (k.blk hh s H scope (compEnvC scope cl C X.env) fp) h14 takes0N; rw [hb] at this; exact this) (fold_of h2) (fun env => fold_of h11)
    rw [wipe_own] at pe pl
    refine ⟨_, pe, fun hi hy hsw => pl hi hy hsw, fun σ H Q hlσ q => ?_⟩
    have q : tG X.K X.mg z Γ W (rO X.K (mAcc b)) (M.bind (runW c.T it) fun l ρ => (walkC (cBody2 c.T vs tg t vs1 tg1 it1 t1 e) l [] (wipeS ρ vs)).bind fun p => .ok (.lst p.1, unwipe ρ p.2 vs)) σ H Q := q
    refine (q.bind rW_z).mono fun J H1 q1 => ?_
    obtain ⟨ds, G1, ρ1, os1, st1, ⟨wk, _⟩, g⟩ := q1
    intro D0 hD0
    have gD0 := none_G st1 hD0
    have hlt : ∀ i ∈ vs, i < σ.length := fun i hi => by
      have e1 := hB.ix (c.N.getD i "", i) (List.mem_map.mpr ⟨i, hi, rfl⟩)
      rw [hlσ, k.N]
      exact (List.getElem?_eq_some_iff.mp e1).1
    have hlen : ∀ i ∈ tg, i < (L2.wipe σ vs).length := fun i hi => by rw [wipe_length]; exact hlt i (htg i hi)
    generalize hfin : (fun (r : R (List D × Slots)) => r.bind fun p => R.ok (D.lst p.1, unwipe ρ1 p.2 vs)) = fin
    have hfb : fin .bad = .bad := by rw [← hfin]; rfl
    refine walk_loop wk (cBody2 c.T vs tg t vs1 tg1 it1 t1 e) (AI X.K X.mg z Γ W b D0 G1 (L2.wipe σ vs) σ Q fin)
      (B := fun x H' N => tgG X.K tg x (L2.wipe σ vs) H' fun σ2 H2 => L2.wipe σ2 vs = L2.wipe σ vs ∧ tG X.K X.mg z Γ WF rB (runTs c.T t) σ2 H2 fun r H3 => if r = true then tG X.K X.mg z Γ WF (rW X.K) (runW c.T it1) σ2 H3 (fun J1 H4 => ∃ W1 : Nat → Nat → Hp → Prop, (∃ m, W1 0 m H4) ∧ ∀ j k H, W1 j k H →
      (J1.stop j H ∧ N H) ∨ (J1.go j H ∧ ∃ Nx1 : Hp → Prop, (∀ H', Nx1 H' → ∃ k', k' < k ∧ W1 (j + 1) k' H') ∧ ∀ x H', J1.yld j H x H' → tgG X.K tg1 x (L2.wipe σ2 vs1) H' fun σ3 H5 => L2.wipe σ3 vs1 = L2.wipe σ2 vs1 ∧ tG X.K X.mg z Γ WF rB (runTs c.T t1) σ3 H5 fun b1 H6 =>
        if b1 = true then tG X.K X.mg z Γ WF (rO X.K (mEl b)) (runE c.T e) σ3 H6 (fun y H7 => ∃ acc, H7 D0 = some (.lst acc) ∧ acc.length < sizeLine ∧ Nx1 (upd H7 D0 (.lst (acc ++ [y])))) else Nx1 H6)) else N H3)
      (QEnd := fun H => Q (.ref D0) H) (acc0 := []) (ρ0 := wipeS ρ1 vs) ?_ (fun acc ρ r H hI => ?_) (fun acc ρ H hI => ?_) (fun i d rest acc ρ H x H' ei hI yl => ?_)
    · have u : Fr G1 H1 G1 (upd H1 D0 (.lst [])) [] := ⟨Same.refl _, fun a o e => by
        rw [upd_ne (ne_of_none e gD0)]; exact st1.sm a o e, fun a o e _ => ⟨by rw [upd_ne (ne_of_none e hD0)]; exact e, rfl⟩⟩
      have nD : D0 ∉ os1 := fun q => by
        obtain ⟨⟨w, hw⟩, _⟩ := st1.sl.there _ q
        rw [hD0] at hw; cases hw
      have g : GP X.K X.mg z Γ W (rO X.K (mAcc b)) (fin (walkC (cBody2 c.T vs tg t vs1 tg1 it1 t1 e) ds [] (wipeS ρ1 vs))) G1 H1 os1 σ Q := by rw [← hfin]; exact g
      refine ⟨G1, os1, [], [], Same.refl _, (st1.wipe hm).frame u (fun _ _ q => nomatch q), upd_same, gD0, ?_, List.nodup_cons.mpr ⟨nD, st1.nd⟩, GP.shift (u.weak fun _ q => nomatch q) (fun a h => (List.mem_cons.mp h).elim (fun e => .inr (e ▸ hD0)) .inl) g⟩
      cases b
      · exact ⟨.nil, rfl⟩
      · exact OwAL.nil
    · obtain ⟨G, os, o, accV, s1, st, _⟩ := hI
      exact s1.trans st.sm
    · obtain ⟨G, os, o, accV, s1, st, hD, gD, ha, nd, g⟩ := hI
      rw [← hfin] at g
      refine g G H os _ (D0 :: o) ?_ (ha.own hD gD) nd (Fr.refl st.sm _) (Sub.refl _ _)
      have := Sl.unwipe st1.sl s1 st.sl hm
      rw [overW_wipe] at this
      exact ⟨this, st.nd, st.sm, st.zt, st1.z, st.zb⟩
    · obtain ⟨G, os, o, accV, s1, st, hD, gD, ha, nd, g⟩ := hI
      obtain ⟨G', fr0, fx⟩ := wk.yld i d G H x H' ei s1 st.sm yl
      obtain ⟨hD, gD, ha, nd, fr0', sb0⟩ := acc_keep ha hD gD nd (fr0.weak (os' := os) fun _ q => nomatch q) (Sub.refl H os) st.nd
      have st := st.frame fr0 fun _ _ q => nomatch q
      have s1 : Same G1 G' := s1.trans fr0.g
      have g := GP.shift fr0' sb0 g
      unfold cBody2 at g
      cases es : setT tg d ρ with
      | none =>
        simp only [es] at g
        have g : GP X.K X.mg z Γ W (rO X.K (mAcc b)) (fin .bad) G' H' (D0 :: o ++ os) σ Q := g
        rw [hfb] at g; exact g.elim
      | some ρ2 =>
        simp only [es] at g
        rw [R.bind_assoc] at g
        refine tgG_ok st fx es (fun j hj => hm j (htg j hj)) hlen fun σ2 st2 len2 w2 => ?_
        have hw : L2.wipe σ2 vs = L2.wipe σ vs := (w2 vs htg).trans (wipe_self σ vs)
        refine ⟨hw, G', ρ2, os, st2, GP.stepN (fun r => GP X.K X.mg z Γ W (rO X.K (mAcc b)) (fin r) G' H' (D0 :: o ++ os) σ Q) (by show ¬ GP X.K X.mg z Γ W (rO X.K (mAcc b)) (fin .bad) G' H' (D0 :: o ++ os) σ Q; rw [hfb]; exact id) g st2 (fun a ρ' ea => by unfold M.bind at g; rw [ea] at g; exact g) _ ?_⟩
        intro a ρ3 G3 H3 os3 r o3 ea g3 st3 ⟨er, eo⟩ n3 fr3 sb3
        subst er; subst eo
        have sb3 : Sub H' os os3 := sb3
        cases r with
        | false =>
          rw [if_neg (by simp)]
          have g3 : GP X.K X.mg z Γ W (rO X.K (mAcc b)) (fin (walkC (cBody2 c.T vs tg t vs1 tg1 it1 t1 e) rest acc (wipeS ρ3 vs))) G' H' (D0 :: o ++ os) σ Q := g3
          obtain ⟨hD3, gD3, ha3, nd3, fr3', sb3'⟩ := acc_keep ha hD gD nd fr3 sb3 st3.nd
          exact ⟨acc, wipeS ρ3 vs, G3, os3, o, accV, s1.trans fr3.g, hw ▸ st3.wipe hm, hD3, gD3, ha3, nd3, GP.shift fr3' sb3' g3⟩
        | true =>
          rw [if_pos rfl]
          have g3 : GP X.K X.mg z Γ W (rO X.K (mAcc b)) (fin (((M.bind (runW c.T it1) fun l1 ρ3 => walkC (cBody c.T vs1 tg1 t1 e) l1 acc (wipeS ρ3 vs1)) ρ3).nox.bind fun p => walkC (cBody2 c.T vs tg t vs1 tg1 it1 t1 e) rest p.1 (wipeS p.2 vs))) G' H' (D0 :: o ++ os) σ Q := g3
          refine ⟨G3, ρ3, os3, st3, GP.stepN (fun r => GP X.K X.mg z Γ W (rO X.K (mAcc b)) (fin r) G' H' (D0 :: o ++ os) σ Q) (by show ¬ GP X.K X.mg z Γ W (rO X.K (mAcc b)) (fin .bad) G' H' (D0 :: o ++ os) σ Q; rw [hfb]; exact id) g3 st3 (fun a ρ' ea => by unfold M.bind at g3; rw [ea] at g3; exact g3) _ ?_⟩
          intro l1 ρ4 G4 H4 os4 J1 o4 ey g4 st4 ⟨wk1, eo4⟩ n4 fr4 sb4
          subst eo4
          have sb4 : Sub H3 os3 os4 := sb4
          have frT := fr3.trans fr4 sb3
          have sbT := Sub.go fr3 sb3 sb4
          obtain ⟨hD4, gD4, ha4, nd4, fr4', sb4'⟩ := acc_keep ha hD gD nd frT sbT st4.nd
          have g4 := GP.shift fr4' sb4' g4
          generalize hfin2 : (fun (r : R (List D × Slots)) => fin (r.nox.bind fun p => walkC (cBody2 c.T vs tg t vs1 tg1 it1 t1 e) rest p.1 (wipeS p.2 vs))) = fin2
          have hfb2 : fin2 .bad = .bad := by rw [← hfin2]; exact hfb
          have g4 : GP X.K X.mg z Γ W (rO X.K (mAcc b)) (fin2 (walkC (cBody c.T vs1 tg1 t1 e) l1 acc (wipeS ρ4 vs1))) G4 H4 (D0 :: o ++ os4) σ Q := by rw [← hfin2]; exact g4
          have hlen1 : ∀ i ∈ tg1, i < (L2.wipe σ2 vs1).length := fun i hi => by rw [wipe_length, len2, wipe_length]; exact hlt i (hv1 i (htg1 i hi))
          refine walk_loop wk1 (cBody c.T vs1 tg1 t1 e) (AI X.K X.mg z Γ W b D0 G4 (L2.wipe σ2 vs1) σ Q fin2)
            (B := fun x H' N => tgG X.K tg1 x (L2.wipe σ2 vs1) H' fun σ3 H5 => L2.wipe σ3 vs1 = L2.wipe σ2 vs1 ∧ tG X.K X.mg z Γ WF rB (runTs c.T t1) σ3 H5 fun b1 H6 =>
              if b1 = true then tG X.K X.mg z Γ WF (rO X.K (mEl b)) (runE c.T e) σ3 H6 (fun y H7 => ∃ acc, H7 D0 = some (.lst acc) ∧ acc.length < sizeLine ∧ N (upd H7 D0 (.lst (acc ++ [y])))) else N H6)
            (acc0 := acc) (ρ0 := wipeS ρ4 vs1) ?_ (fun acc ρ r H hI => ?_) (fun acc ρ H hI => ?_) (fun i d rest acc ρ H x H' ei hI yl => lc_turn wk1 hfb2 (wipe_self σ2 vs1) hm1 htg1 hlen1 ei hI yl)
          · exact ⟨G4, os4, o, accV, Same.refl _, st4.wipe hm1, hD4, gD4, ha4, nd4, g4⟩
          · obtain ⟨G, os, o, accV, s1, st, _⟩ := hI
            exact s1.trans st.sm
          · obtain ⟨G5, os5, o5, accV5, s5, st5, hD5, gD5, ha5, nd5, g5⟩ := hI
            rw [← hfin2] at g5
            have st6 := st5.wipe hm
            rw [wipe_idem hv1, hw] at st6
            exact ⟨acc, wipeS ρ vs, G5, os5, o5, accV5, (s1.trans frT.g).trans s5, st6, hD5, gD5, ha5, nd5, g5⟩
  | [], ok => simp [okE] at ok
end OS
namespace OS
open PySem PySem.Spec PyProof.Rows L2
variable {c : SC}

/-! ### asked of the exception; scalars out of what is owned -/
theorem se_prim (j : Nat) : SE c (.prim j) := by
  intro X Γ z W x k ok t
  simp only [okE] at ok
  simp only [Bool.and_eq_true] at ok
  obtain ⟨hh, ok⟩ := ok
  cases ej : c.T[j]? with
  | none => rw [ej] at ok; cases ok
  | some s =>
    rw [ej] at ok
    simp only [Bool.and_eq_true, decide_eq_true_eq, Bool.not_eq_true'] at ok
    obtain ⟨h1, h2, h3⟩ := ok
    cases ep : s.pr with
    | none => rw [ep] at h3; cases h3
    | some p =>
      rw [ep] at h3
      obtain ⟨p0, i, v, B, hp0, _, ez, pr⟩ := k.prim hh
      have pe := pr X rfl rfl rfl rfl rfl rfl rfl hp0 j s p x ej ep h3
      show PE X _ (tG X.K X.mg z Γ W (rO X.K (match c.T[j]? with | some s => s.rm | none => .no)) _)
      rw [ej]
      refine PE.imp pe fun σ H Q q => ?_
      obtain ⟨G, ρ, os, st, g⟩ := q
      have g : GP X.K X.mg z Γ W (rO X.K s.rm) ((callD c.T j []).nox.bind fun p => .ok (p.1, ρ)) G H os σ Q := g
      refine ⟨st.z i v B ez, (st.zb i v B ez).trans st.sm, by rw [h1]; rfl, G, [], [], st.sm, h1.symm, by unfold ArgOk; rw [h2]; exact ⟨.nil, rfl⟩, ?_⟩
      unfold callD at g
      rw [ej] at g
      simp only [h2, Bool.false_eq_true, if_false] at g
      rw [if_pos (show ([] : List D).length = s.np from h1.symm)] at g
      cases eφ : s.φ [] with
      | ok p =>
        obtain ⟨r, d'⟩ := p
        rw [eφ] at g
        intro G' H' v o oz hw he nd fr sb
        have he : oz = [] := by unfold EndOk at he; rw [h2] at he; exact he
        subst he
        rw [List.append_nil] at nd sb
        have dj : ∀ b ∈ os, b ∉ ([] : List Addr) := fun _ _ q => nomatch q
        refine g G' H' os v o (st.frame fr dj) hw ?_ (fr.weak fun _ q => nomatch q) fun b hb => ?_
        · refine List.nodup_append.mpr ⟨nd, st.nd, fun a ha b hb e => ?_⟩
          subst e
          obtain ⟨⟨u, e⟩, _⟩ := st.sl.there a hb
          rcases sb a ha with z | z
          · cases z
          · rw [e] at z; cases z
        · rcases List.mem_append.mp hb with hb | hb
          · exact (sb b hb).elim (fun z => nomatch z) .inr
          · exact .inl hb
      | exn e fs => rw [eφ] at g; exact g.elim
      | bad => rw [eφ] at g; exact g.elim
theorem Sl.thaw {K : PySem.W.Frag} {G H : Hp} {S : List Addr} (sm : Same G H) {Γ : List Mode} {σ : L2.St} {ρ : Slots} {os : List Addr} (h : Sl K G H Γ σ ρ os) (hs : ∀ a ∈ os, a ∈ S) : Sl K (frz G H S) H (noG Γ) σ ρ [] := by
  induction h with
  | nil => exact .nil
  | skip _ ih => exact .skip (ih hs)
  | @«at» m Γ v d σ ρ o os ho hr ih =>
    have hf : Fz K (frz G H S) v d := by
      cases m with
      | no => exact ho.1.mono (frz_le sm)
      | top =>
        obtain ⟨a, vs, ds, rfl, rfl, e, _, r, rfl⟩ := ho
        exact .lst ((frz_in (hs a (by simp))).trans e) (r.mono (frz_le sm))
      | all => exact OwA.freeze sm ho fun a q => hs a (List.mem_append_left _ q)
    exact Sl.at (o := []) ⟨hf, rfl⟩ (ih fun a q => hs a (List.mem_append_right _ q))
theorem own_sca {K : PySem.W.Frag} {G G' H' : Hp} {m : Mode} {v : V} {d : D} {o : List Addr} (h : Own K G' H' m v d o) (e : sca1 d = true) : OwA K G H' v d [] := by
  cases m with
  | no =>
    obtain ⟨h, _⟩ := h
    cases h with
    | non => exact .non
    | bl _ => exact .bl _
    | int _ => exact .int _
    | str _ => exact .str _
    | _ => simp [sca1] at e
  | top =>
    obtain ⟨a, vs, ds, rfl, rfl, _⟩ := h
    simp [sca1] at e
  | all =>
    have h : OwA K G' H' v d o := h
    cases h with
    | non => exact .non
    | bl _ => exact .bl _
    | int _ => exact .int _
    | str _ => exact .str _
    | _ => simp [sca1] at e
theorem own_flatL {K : PySem.W.Frag} {G G' H' : Hp} : ∀ {vs : List V} {ds : List D} {o : List Addr}, OwAL K G' H' vs ds o → sca1L ds = true → OwAL K G H' vs ds o
  | _, _, _, .nil, _ => .nil
  | _, _, _, .cons (d := d) (o := o1) h r, e => by
    simp only [sca1L, Bool.and_eq_true] at e
    have h0 : o1 = [] := by
      cases h with
      | non => rfl
      | bl _ => rfl
      | int _ => rfl
      | str _ => rfl
      | _ => simp [sca1] at e
    subst h0
    exact .cons (own_sca (m := .all) h e.1) (own_flatL r e.2)
theorem fz_flatL {K : PySem.W.Frag} {G G' H' : Hp} : ∀ {vs : List V} {ds : List D}, FzL K G' vs ds → sca1L ds = true → OwAL K G H' vs ds []
  | _, _, .nil, _ => .nil
  | _, _, .cons h r, e => by
    simp only [sca1L, Bool.and_eq_true] at e
    exact OwAL.cons (o := []) (own_sca (m := .no) (G' := G') ⟨h, rfl⟩ e.1) (fz_flatL r e.2)
theorem own_flat {K : PySem.W.Frag} {G G' H' : Hp} (s : Same G G') {m : Mode} (hm : m ≠ .no) {v : V} {d : D} {o : List Addr} (h : Own K G' H' m v d o) (e : flat1 d = true) : ∃ o', OwA K G H' v d o' ∧ (o' = [] ∨ o' = o) := by
  have gn : ∀ a, G' a = none → G a = none := fun a h => by
    cases q : G a with
    | none => rfl
    | some u => rw [s a u q] at h; cases h
  by_cases hd : ∃ l, d = .lst l
  · obtain ⟨l, rfl⟩ := hd
    cases m with
    | no => exact absurd rfl hm
    | top =>
      obtain ⟨a, vs, ds, rfl, q, e1, e2, r, rfl⟩ := h
      cases q
      exact ⟨[a], .lst e1 (gn _ e2) (fz_flatL r e), .inr rfl⟩
    | all =>
      have h : OwA K G' H' v (.lst l) o := h
      cases h with
      | lst e1 e2 r => exact ⟨_, .lst e1 (gn _ e2) (own_flatL r e), .inr rfl⟩
  · have e' : sca1 d = true := by
      cases d <;> first | exact e | exact absurd ⟨_, rfl⟩ hd
    exact ⟨[], own_sca h e', .inl rfl⟩
theorem se_bor {a : IE} (ha : SE c a) : SE c (.bor a) := by
  intro X Γ z W x k ok t
  simp only [okE] at ok
  simp only [Bool.and_eq_true, decide_eq_true_eq] at ok
  have hh : c.hot = false := by simpa using ok.1
  refine PE.imp (ha X (noG Γ) none W x (k.noz hh) ok.2.2 t) fun σ H Q q => ?_
  obtain ⟨G, ρ, os, st, g⟩ := q
  have g : GP X.K X.mg z Γ W (rO X.K .all) ((runE c.T a ρ).bind fun p => if flat1 p.1 then .ok (p.1, ρ) else .bad) G H os σ Q := g
  refine ⟨frz G H os, ρ, [], ⟨st.sl.thaw st.sm fun _ q => q, List.nodup_nil, frz_same st.sm, fun _ _ e => (nomatch e), fun _ _ _ e => (nomatch e), fun _ _ _ e => (nomatch e)⟩, ?_⟩
  have back : ∀ {G' H' : Hp}, Fr (frz G H os) H G' H' [] → Fr G H G H' [] := fun f => ⟨Same.refl _, (frz_le st.sm).trans (f.g.trans f.s), fun a o e n => ⟨(f.k a o e n).1, rfl⟩⟩
  cases er : runE c.T a ρ with
  | ok p =>
    obtain ⟨d, ρ'⟩ := p
    rw [er] at g
    have g : GP X.K X.mg z Γ W (rO X.K .all) (if flat1 d then .ok (d, ρ) else .bad) G H os σ Q := g
    intro G' H' os' b o st' hw nd fr sb
    by_cases hs : flat1 d = true
    · rw [if_pos hs] at g
      have f0 := back fr
      obtain ⟨o', hw', ho⟩ := own_flat (G := G) ((frz_le st.sm).trans fr.g) ok.2.1 hw hs
      have fresh : ∀ b ∈ o', H b = none := fun b hb => by
        rcases ho with rfl | rfl
        · cases hb
        · exact (sb b (List.mem_append_left _ hb)).elim (fun q => nomatch q) id
      have ndo : o'.Nodup := by
        rcases ho with rfl | rfl
        · exact List.nodup_nil
        · exact (List.nodup_append.mp nd).1
      refine g G H' os b o' (st.frame f0 fun _ _ q => nomatch q) hw' (List.nodup_append.mpr ⟨ndo, st.nd, fun a ha b hb e => ?_⟩) (f0.weak fun _ q => nomatch q) fun b hb => (List.mem_append.mp hb).elim (fun q => .inr (fresh b q)) .inl
      subst e
      obtain ⟨⟨u, e⟩, _⟩ := st.sl.there a hb
      rw [fresh a ha] at e; cases e
    · rw [if_neg hs] at g; exact g.elim
  | exn e fs =>
    rw [er] at g
    exact fun G' H' cls dd hx fr => g G H' cls dd hx ((back fr).weak fun _ q => nomatch q)
  | bad => rw [er] at g; exact g.elim

/-! what is owned all through, worked out with nothing owned -/
mutual
theorem OwA.lists {K : PySem.W.Frag} {G H : Hp} : ∀ {v : V} {d : D} {o : List Addr}, OwA K G H v d o → ∀ a ∈ o, ∃ vs, H a = some (.lst vs)
  | _, _, _, .non, _, q => nomatch q
  | _, _, _, .bl _, _, q => nomatch q
  | _, _, _, .int _, _, q => nomatch q
  | _, _, _, .str _, _, q => nomatch q
  | _, _, _, .tup _ r, a, q => OwAL.lists r a q
  | _, _, _, .lst h g r, a, q => (List.mem_cons.mp q).elim (fun e => e ▸ ⟨_, h⟩) fun q => OwAL.lists r a q
theorem OwAL.lists {K : PySem.W.Frag} {G H : Hp} : ∀ {vs : List V} {ds : List D} {o : List Addr}, OwAL K G H vs ds o → ∀ a ∈ o, ∃ vs, H a = some (.lst vs)
  | _, _, _, .nil, _, q => nomatch q
  | _, _, _, .cons h r, a, q => (List.mem_append.mp q).elim (fun q => OwA.lists h a q) fun q => OwAL.lists r a q
end
theorem Own.lists {K : PySem.W.Frag} {G H : Hp} {m : Mode} {v : V} {d : D} {o : List Addr} (h : Own K G H m v d o) : ∀ a ∈ o, ∃ vs, H a = some (.lst vs) := by
  cases m with
  | no => rw [h.2]; exact fun _ q => nomatch q
  | top =>
    obtain ⟨a, vs, ds, rfl, rfl, e, g, r, rfl⟩ := h
    intro b q
    cases List.mem_singleton.mp q
    exact ⟨_, e⟩
  | all => exact OwA.lists h
theorem Sl.lists {K : PySem.W.Frag} {G H : Hp} {Γ : List Mode} {σ : L2.St} {ρ : Slots} {os : List Addr} (h : Sl K G H Γ σ ρ os) : ∀ a ∈ os, ∃ vs, H a = some (.lst vs) := by
  induction h with
  | nil => exact fun _ q => nomatch q
  | skip _ ih => exact ih
  | «at» w _ ih => exact fun a q => (List.mem_append.mp q).elim (fun q => w.lists a q) fun q => ih a q
def less (G : Hp) (S : List Addr) : Hp := fun a => if a ∈ S then none else G a
theorem less_le {G : Hp} {S : List Addr} : Same (less G S) G := fun a o e => by
  unfold less at e
  split at e
  · cases e
  · exact e
theorem less_none {G : Hp} {S : List Addr} {a : Addr} (h : G a = none) : less G S a = none := by
  unfold less
  split
  · rfl
  · exact h
theorem sqT_less {K : PySem.W.Frag} {G : Hp} {S : List Addr} (hS : ∀ a ∈ S, ∃ vs, G a = some (.lst vs)) {a : Addr} {xs : List V} (h : SqT K G a xs) : SqT K (less G S) a xs := by
  rcases h with h | h
  · refine .inl ?_
    have n : a ∉ S := fun q => by
      obtain ⟨vs, e⟩ := hS a q
      unfold Rd at h
      rcases h with h | ⟨p, h⟩ <;> (rw [e] at h; cases h)
    have e : less G S a = G a := if_neg n
    unfold Rd at h ⊢
    rw [e]; exact h
  · exact .inr h
mutual
theorem OwA.less {K : PySem.W.Frag} {G H : Hp} {S : List Addr} (hS : ∀ a ∈ S, ∃ vs, G a = some (.lst vs)) : ∀ {v : V} {d : D} {o : List Addr}, OwA K G H v d o → OwA K (OS.less G S) H v d o
  | _, _, _, .non => .non
  | _, _, _, .bl b => .bl b
  | _, _, _, .int b => .int b
  | _, _, _, .str b => .str b
  | _, _, _, .tup h r => .tup (sqT_less hS h) (OwAL.less hS r)
  | _, _, _, .lst h g r => .lst h (less_none g) (OwAL.less hS r)
theorem OwAL.less {K : PySem.W.Frag} {G H : Hp} {S : List Addr} (hS : ∀ a ∈ S, ∃ vs, G a = some (.lst vs)) : ∀ {vs : List V} {ds : List D} {o : List Addr}, OwAL K G H vs ds o → OwAL K (OS.less G S) H vs ds o
  | _, _, _, .nil => .nil
  | _, _, _, .cons h r => .cons (OwA.less hS h) (OwAL.less hS r)
end
theorem se_borA {a : IE} (ha : SE c a) : SE c (.borA a) := by
  intro X Γ z W x k ok t
  simp only [okE] at ok
  simp only [Bool.and_eq_true, decide_eq_true_eq] at ok
  have hh : c.hot = false := by simpa using ok.1
  have ha' := ha X (noG Γ) none W x (k.noz hh) ok.2.2 t
  rw [ok.2.1] at ha'
  refine PE.imp ha' fun σ H Q q => ?_
  obtain ⟨G, ρ, os, st, g⟩ := q
  have g : GP X.K X.mg z Γ W (rO X.K .all) ((runE c.T a ρ).bind fun p => .ok (p.1, ρ)) G H os σ Q := g
  refine ⟨frz G H os, ρ, [], ⟨st.sl.thaw st.sm fun _ q => q, List.nodup_nil, frz_same st.sm, fun _ _ e => (nomatch e), fun _ _ _ e => (nomatch e), fun _ _ _ e => (nomatch e)⟩, ?_⟩
  have back : ∀ {G' H' : Hp}, Fr (frz G H os) H G' H' [] → Fr G H G H' [] := fun f => ⟨Same.refl _, (frz_le st.sm).trans (f.g.trans f.s), fun a o e n => ⟨(f.k a o e n).1, rfl⟩⟩
  have backA : ∀ {G' H' : Hp}, Fr (frz G H os) H G' H' [] → Fr G H (less G' os) H' [] := fun {G' H'} f => ⟨fun b u e => by
      have n : b ∉ os := fun q => by
        rw [(st.sl.there b q).2] at e; cases e
      show (if b ∈ os then none else G' b) = some u
      rw [if_neg n]
      exact f.g b u (frz_le st.sm b u e), less_le.trans f.s, fun b u e n => by
      obtain ⟨k1, k2⟩ := f.k b u e n
      refine ⟨k1, ?_⟩
      show (if b ∈ os then none else G' b) = G b
      by_cases q : b ∈ os
      · rw [if_pos q, (st.sl.there b q).2]
      · rw [if_neg q, k2, frz_out q]⟩
  cases er : runE c.T a ρ with
  | ok p =>
    obtain ⟨d, ρ'⟩ := p
    rw [er] at g
    have g : GP X.K X.mg z Γ W (rO X.K .all) (.ok (d, ρ)) G H os σ Q := g
    intro G' H' os' b o st' hw nd fr sb
    have hw : OwA X.K G' H' b d o := hw
    have f0 := backA fr
    have hS : ∀ b ∈ os, ∃ vs, G' b = some (.lst vs) := fun b hb => by
      obtain ⟨vs, e⟩ := st.sl.lists b hb
      exact ⟨vs, fr.g b _ (by rw [frz_in hb]; exact e)⟩
    have fresh : ∀ b ∈ o, H b = none := fun b hb => (sb b (List.mem_append_left _ hb)).elim (fun q => nomatch q) id
    refine g (less G' os) H' os b o (st.frame f0 fun _ _ q => nomatch q) (OwA.less hS hw) (List.nodup_append.mpr ⟨(List.nodup_append.mp nd).1, st.nd, fun a ha b hb e => ?_⟩) (f0.weak fun _ q => nomatch q) fun b hb => (List.mem_append.mp hb).elim (fun q => .inr (fresh b q)) .inl
    subst e
    obtain ⟨⟨u, e⟩, _⟩ := st.sl.there a hb
    rw [fresh a ha] at e; cases e
  | exn e fs =>
    rw [er] at g
    exact fun G' H' cls dd hx fr => g G H' cls dd hx ((back fr).weak fun _ q => nomatch q)
  | bad => rw [er] at g; exact g.elim

theorem st_borT {a : IE} (ha : ST c a) : ST c (.borT a) := by
  intro X Γ z W x k ok t
  simp only [okT] at ok
  simp only [Bool.and_eq_true] at ok
  have hh : c.hot = false := by simpa using ok.1
  refine PT.imp (ha X (noG Γ) none W x (k.noz hh) ok.2 t) fun σ H Q q => ?_
  obtain ⟨G, ρ, os, st, g⟩ := q
  have g : GP X.K X.mg z Γ W rB ((runT c.T a ρ).bind fun p => .ok (p.1, ρ)) G H os σ Q := g
  refine ⟨frz G H os, ρ, [], ⟨st.sl.thaw st.sm fun _ q => q, List.nodup_nil, frz_same st.sm, fun _ _ e => (nomatch e), fun _ _ _ e => (nomatch e), fun _ _ _ e => (nomatch e)⟩, ?_⟩
  have back : ∀ {G' H' : Hp}, Fr (frz G H os) H G' H' [] → Fr G H G H' [] := fun f => ⟨Same.refl _, (frz_le st.sm).trans (f.g.trans f.s), fun a o e n => ⟨(f.k a o e n).1, rfl⟩⟩
  cases er : runT c.T a ρ with
  | ok p =>
    obtain ⟨d, ρ'⟩ := p
    rw [er] at g
    have g : GP X.K X.mg z Γ W rB (.ok (d, ρ)) G H os σ Q := g
    intro G' H' os' b o st' hw nd fr sb
    have f0 := back fr
    exact g G H' os b [] (st.frame f0 fun _ _ q => nomatch q) ⟨hw.1, rfl⟩ st.nd (f0.weak fun _ q => nomatch q) fun b hb => .inl hb
  | exn e fs =>
    rw [er] at g
    exact fun G' H' cls dd hx fr => g G H' cls dd hx ((back fr).weak fun _ q => nomatch q)
  | bad => rw [er] at g; exact g.elim

/-! ### all of it -/
def isComp : IE → Bool
  | .comp _ _ _ _ _ => true
  | .comp2 _ _ _ _ _ _ _ _ _ => true
  | _ => false
structure Snd (c : SC) (e : IE) : Prop where
  E : SE c e
  T : ST c e
  Ch : SCh c e
  L : SL c e
  LA : SLA c e
  O : SO c e
  W : SW c e
  M : isCmp e = true → CmpOk c e
  cn : ∀ u r, e = .cons u r → ST c u ∧ SE c u
  cs : isComp e = true → CompSt c e
  r1 : ∀ a, e = .wRng1 a → SE c a
  r2 : ∀ a b, e = .wRng2 a b → SE c a ∧ SE c b
  q : ∀ a, e = .wSeq a → SE c a
theorem ST.triv {e : IE} (h : ∀ sc Γ x, okT c sc Γ e x = false) : ST c e := fun X Γ z W x _ o _ => by rw [h] at o; cases o
theorem SCh.triv {e : IE} (h : ∀ sc Γ x y, okC c sc Γ e x y = false) : SCh c e := fun X Γ z W x y _ o _ => by rw [h] at o; cases o
theorem SL.triv {e : IE} (h : ∀ sc Γ x, okL c sc Γ e x = false) : SL c e := fun X Γ z W x _ o _ => by rw [h] at o; cases o
theorem SLA.triv {e : IE} (h : ∀ sc Γ x, okL c sc Γ e x = false) : SLA c e := fun _ X Γ z W x _ o _ => by rw [h] at o; cases o
theorem SO.triv {e : IE} (h : ∀ sc Γ x, okO c sc Γ e x = false) : SO c e := fun X Γ z W x _ o _ => by rw [h] at o; cases o
theorem SW.triv {e : IE} (h : ∀ sc Γ x, okW c sc Γ e x = false) : SW c e := fun X Γ z W tg x _ _ o _ => by rw [h] at o; cases o
theorem hotQ {tg : List Nat} {it : IE} (q : ∀ a, it = .wSeq a → SE c a) (_ : c.hot = true) (h : hotW tg it = true) : SWH c it := by
  unfold hotW at h
  split at h
  · exact swH_seq (q _ rfl)
  · cases h
end OS
namespace OS
open PySem PySem.Spec PyProof.Rows L2
variable {c : SC}

/-! ### what is put into an owned list -/
theorem sM_self : ∀ {Γ : List Mode} {i : Nat}, sM Γ i (gM Γ i) = Γ
  | [], _ => rfl
  | m :: r, 0 => rfl
  | m :: r, i + 1 => by simp [sM, gM, sM_self]
theorem set_self {σ : L2.St} {i : Nat} {v : V} (h : σ[i]? = some (some v)) : σ.set i (some v) = σ := by
  apply List.ext_getElem?
  intro j
  by_cases hj : i = j
  · subst hj
    have hl := (List.getElem?_eq_some_iff.mp h).1
    rw [List.getElem?_set_self hl, h]
  · rw [List.getElem?_set_ne hj]
theorem OwAL.insAt {K : PySem.W.Frag} {G H : Hp} {y : V} {d : D} {oy : List Addr} (h : OwA K G H y d oy) : ∀ (n : Nat) {vs : List V} {ds : List D} {o : List Addr}, OwAL K G H vs ds o → ∃ o', OwAL K G H (vs.take n ++ [y] ++ vs.drop n) (ds.take n ++ [d] ++ ds.drop n) o' ∧ o'.Perm (oy ++ o)
  | 0, _, _, o, r => ⟨oy ++ o, .cons h r, .refl _⟩
  | _ + 1, _, _, _, .nil => ⟨oy ++ [], .cons h .nil, .refl _⟩
  | n + 1, _, _, _, .cons (o := o1) (os := os) q r => by
    obtain ⟨o', h1, h2⟩ := OwAL.insAt h n r
    refine ⟨o1 ++ o', .cons q h1, ?_⟩
    refine (List.Perm.append_left o1 h2).trans ?_
    rw [← List.append_assoc, ← List.append_assoc]
    exact List.Perm.append_right os List.perm_append_comm
theorem OwAL.cat {K : PySem.W.Frag} {G H : Hp} {ws : List V} {es : List D} {o2 : List Addr} (h : OwAL K G H ws es o2) : ∀ {vs : List V} {ds : List D} {o : List Addr}, OwAL K G H vs ds o → OwAL K G H (vs ++ ws) (ds ++ es) (o ++ o2)
  | _, _, _, .nil => h
  | _, _, _, .cons (o := o1) (os := os) q r => by
    rw [List.append_assoc]
    exact .cons q (OwAL.cat h r)
theorem all_put {K : PySem.W.Frag} {z : Option (Nat × V × Hp)} {Γ : List Mode} {G H : Hp} {σ : L2.St} {ρ : Slots} {os : List Addr} {i : Nat} {ds : List D} (st : Stt K z Γ G H σ ρ os) (e : gS ρ i = some (.lst ds)) (m : gM Γ i = .all) :
    ∃ a vs oi, σ[i]? = some (some (.ref a)) ∧ H a = some (.lst vs) ∧ OwAL K G H vs ds oi ∧
      ∀ {oy : List Addr} {vs' : List V} {ds' : List D} {o' : List Addr}, (oy ++ os).Nodup → o'.Perm (oy ++ oi) → (Fr G H G (upd H a (.lst vs')) [a] → (∀ p ∈ oi, p ∉ [a]) → (∀ p ∈ oy, p ∉ [a]) → OwAL K G (upd H a (.lst vs')) vs' ds' o') →
        ∃ os3, Stt K z Γ G (upd H a (.lst vs')) σ (sS ρ i (some (.lst ds'))) os3 ∧ Fr G H G (upd H a (.lst vs')) (oy ++ os) ∧ Sub H (oy ++ os) os3 := by
  obtain ⟨v, o1, o, o2, h1, h2, h3, h4, h5⟩ := st.sl.take e
  rw [m] at h2
  have h2 : OwA K G H v (.lst ds) o := h2
  cases h2 with
  | @lst a vs _ oi ha ga r =>
    refine ⟨a, vs, oi, h1, ha, r, fun {oy vs' ds' o'} nd pm mk => ?_⟩
    have u : Fr G H G (upd H a (.lst vs')) [a] := ⟨Same.refl G, fun p x q => by
        have n : p ≠ a := fun w => by rw [w, ga] at q; cases q
        rw [upd_ne n]; exact st.sm p x q, fun p x q n => ⟨by rw [upd_ne (fun w => n (by simp [w]))]; exact q, rfl⟩⟩
    subst h3
    have pmT : (o1 ++ (a :: o') ++ o2).Perm (oy ++ (o1 ++ (a :: oi) ++ o2)) := by
      rw [List.perm_iff_count]
      intro x
      have := List.perm_iff_count.mp pm x
      simp only [List.count_append, List.count_cons] at this ⊢
      omega
    have nd3 : (o1 ++ (a :: o') ++ o2).Nodup := (pmT.nodup_iff).mpr nd
    have nda : ∀ p, p ∈ oy ∨ p ∈ oi ∨ p ∈ o1 ∨ p ∈ o2 → p ∉ [a] := fun p hp q => by
      cases List.mem_singleton.mp q
      have c1 := List.nodup_iff_count.mp nd a
      simp only [List.count_append, List.count_cons, beq_self_eq_true, if_true] at c1
      rcases hp with hp | hp | hp | hp <;> (have := List.count_pos_iff.mpr hp; omega)
    have w := mk u (fun p q => nda p (.inr (.inl q))) fun p q => nda p (.inl q)
    have ow : OwA K G (upd H a (.lst vs')) (.ref a) (.lst ds') (a :: o') := .lst upd_same ga w
    have sl := h5 (m' := .all) u (fun p q => by
      rcases List.mem_append.mp q with q | q
      · exact nda p (.inr (.inr (.inl q)))
      · exact nda p (.inr (.inr (.inr q)))) ow
    rw [set_self h1, ← m, sM_self] at sl
    refine ⟨_, ⟨sl, nd3, u.s, st.zt, st.z, st.zb⟩, ⟨u.g, u.s, fun p x q n => u.k p x q fun w => n ?_⟩, fun p q => .inl ((pmT.mem_iff).mp q)⟩
    cases List.mem_singleton.mp w
    simp
theorem GP.hasL {α β : Type} {K : PySem.W.Frag} {mg : Str → Option Value} {z : Option (Nat × V × Hp)} {Γ : List Mode} {W : WE0} {rel : Rel β α} {G H : Hp} {os : List Addr} {σ : L2.St} {ρ : Slots} {Q : β → Hp → Prop} {i : Nat} {m : M α} (h : GP K mg z Γ W rel (M.hasL i m ρ) G H os σ Q) :
    ∃ l, gS ρ i = some (.lst l) ∧ GP K mg z Γ W rel (m ρ) G H os σ Q := by
  unfold M.hasL at h
  cases e : gS ρ i with
  | none => rw [e] at h; exact h.elim
  | some d =>
    rw [e] at h
    cases d with
    | lst l => exact ⟨l, rfl, h⟩
    | _ => exact h.elim
/-- an owned list, of either kind, as it stands before an argument is worked out -/
theorem slot_list {K : PySem.W.Frag} {z : Option (Nat × V × Hp)} {Γ : List Mode} {G H : Hp} {σ : L2.St} {ρ : Slots} {os : List Addr} {i : Nat} {l : List D} (st : Stt K z Γ G H σ ρ os) (e : gS ρ i = some (.lst l)) (m : gM Γ i = .top ∨ gM Γ i = .all) :
    ∃ a, σ[i]? = some (some (.ref a)) ∧ tyV K "list" (.ref a) H := by
  rcases m with m | m
  · obtain ⟨a0, vs0, ds0, e1, _, ha0, _⟩ := st.store e m
    exact ⟨_, e1, .inl ⟨rfl, _, .inl (.inl ha0)⟩⟩
  · obtain ⟨a0, vs0, _, e1, ha0, _⟩ := all_put st e m
    exact ⟨_, e1, .inl ⟨rfl, _, .inl (.inl ha0)⟩⟩
theorem se_app {i : Nat} {a : IE} (ha : SE c a) : SE c (.app i a) := by
  intro X Γ z W x k ok t
  cases x <;> try (simp only [okE, Bool.false_eq_true] at ok; done)
  rename_i f as ks p
  obtain ⟨x, px, m, ap, xa, rfl, rfl, rfl⟩ : ∃ x px m ap xa, f = (.Attribute (.Name x px) m ap) ∧ as = (xa :: []) ∧ ks = [] := by
    cases f <;> try exact absurd (show false = true from ok) Bool.false_ne_true
    rename_i q1_ q2_ q3_
    cases q1_ <;> try exact absurd (show false = true from ok) Bool.false_ne_true
    rename_i q4_ q5_
    cases as <;> try exact absurd (show false = true from ok) Bool.false_ne_true
    rename_i q6_ q7_
    cases q7_ <;> try exact absurd (show false = true from ok) Bool.false_ne_true
    cases ks <;> try exact absurd (show false = true from ok) Bool.false_ne_true
    exact ⟨_, _, _, _, _, rfl, rfl, rfl⟩
  simp only [okE, Bool.and_eq_true, decide_eq_true_eq] at ok
  obtain ⟨rfl, hl, h1, h2, h3, h4, h5, h6, h7⟩ := ok
  have pv := pe_var (X := X) (pos := px) (i := i) (by rw [k.N]; exact h1) (vis_of h2) (dbg_of h4) (dbg_of h5)
  have hM : gM Γ i = .top ∨ gM Γ i = .all := h3.elim .inl fun q => .inr q.1
  have red : ∀ {te : TE}, PE X xa te → PE X (.Call (.Attribute (.Name x px) "append" ap) [xa] [] p) (tBM X.K "list" rAppend (tVar i) (tCons te tNil)) := fun pe => pe_bm PySem.F.plainAttrs_list PySem.F.slot_list_append PySem.F.type_list_append mt_append pv (pa_cons pe pa_nil (star_of h7)) rfl (by rw [star_of (xs := []) h7]; rfl) (beq_iff_eq.mpr hl) (star_of h7)
  rcases h3 with h3 | ⟨h3, h3'⟩
  · refine PE.imp (red (ha.F (z := z) k h6 t)) fun σ H Q q => ?_
    obtain ⟨G, ρ, os, st, h⟩ := q
    obtain ⟨l0, e, h⟩ := GP.hasL (m := M.bind (runE c.T a) fun x ρ => match gS ρ i with
      | some (.lst l) => if l.length < sizeLine then R.ok (D.non, sS ρ i (some (.lst (l ++ [x])))) else .bad
      | _ => .bad) h
    obtain ⟨a0, e1, ty⟩ := slot_list st e hM
    refine ⟨_, e1, ty, G, ρ, os, st, (GP.bind (rF_z (K := X.K)) h).mono fun _ H2 _ y _ _ _ _ _ _ _ _ _ q2 => ?_⟩
    obtain ⟨d2, G2, ρ2, os2, st2, ⟨f2, _⟩, sm, g⟩ := q2
    cases e2 : gS ρ2 i with
    | none => simp only [e2] at g; exact (show False from g).elim
    | some d' =>
      obtain ⟨a', vs, ds, e1', rfl, ha, fl, put⟩ := st2.store e2 h3
      rw [e1] at e1'
      cases e1'
      simp only [e2] at g
      by_cases hn : ds.length < sizeLine
      case neg => simp only [if_neg hn] at g; exact (show False from g).elim
      simp only [if_pos hn] at g
      refine ⟨_, vs, y, rfl, rfl, ha, by rw [fl.length]; exact hn, ?_⟩
      obtain ⟨st', fr⟩ := put (fl.append (.cons f2 .nil))
      exact g G2 _ os2 .non [] st' .non st2.nd fr (Sub.refl H2 os2)
  · have pa := ha X Γ z W xa k h6 t
    rw [h3'] at pa
    refine PE.imp (red pa) fun σ H Q q => ?_
    obtain ⟨G, ρ, os, st, h⟩ := q
    obtain ⟨l0, e, h⟩ := GP.hasL (m := M.bind (runE c.T a) fun x ρ => match gS ρ i with
      | some (.lst l) => if l.length < sizeLine then R.ok (D.non, sS ρ i (some (.lst (l ++ [x])))) else .bad
      | _ => .bad) h
    obtain ⟨a0, e1, ty⟩ := slot_list st e hM
    refine ⟨_, e1, ty, G, ρ, os, st, (GP.bindO (rel1 := rO X.K .all) h).mono fun _ H2 _ y _ _ _ _ _ _ _ _ _ q2 => ?_⟩
    obtain ⟨d2, G2, ρ2, os2, oy, st2, f2, ndy, g⟩ := q2
    have f2 : OwA X.K G2 H2 y d2 oy := f2
    cases e2 : gS ρ2 i with
    | none => simp only [e2] at g; exact (show False from g).elim
    | some d' =>
      simp only [e2] at g
      cases d' with
      | lst ds =>
        obtain ⟨a', vs, oi, e1', ha, r, put⟩ := all_put st2 e2 h3
        rw [e1] at e1'
        cases e1'
        by_cases hn : ds.length < sizeLine
        case neg => simp only [if_neg hn] at g; exact (show False from g).elim
        simp only [if_pos hn] at g
        refine ⟨_, vs, y, rfl, rfl, ha, by rw [r.length]; exact hn, ?_⟩
        obtain ⟨os3, st3, fr, sb⟩ := put ndy (vs' := vs ++ [y]) (ds' := ds ++ [d2]) (o' := oi ++ oy) List.perm_append_comm fun u n1 n2 => OwAL.append (OwA.frame u f2 n2) (OwAL.frame u r n1)
        exact g G2 _ os3 .non [] st3 .non st3.nd fr sb
      | _ => exact (show False from g).elim
theorem se_ins {i : Nat} {b a : IE} (hb : SE c b) (ha : SE c a) : SE c (.ins i b a) := by
  intro X Γ z W x k ok t
  cases x <;> try (simp only [okE, Bool.false_eq_true] at ok; done)
  rename_i f as ks p
  obtain ⟨x, px, m, ap, xk, xa, rfl, rfl, rfl⟩ : ∃ x px m ap xk xa, f = (.Attribute (.Name x px) m ap) ∧ as = (xk :: (xa :: [])) ∧ ks = [] := by
    cases f <;> try exact absurd (show false = true from ok) Bool.false_ne_true
    rename_i q1_ q2_ q3_
    cases q1_ <;> try exact absurd (show false = true from ok) Bool.false_ne_true
    rename_i q4_ q5_
    cases as <;> try exact absurd (show false = true from ok) Bool.false_ne_true
    rename_i q6_ q7_
    cases q7_ <;> try exact absurd (show false = true from ok) Bool.false_ne_true
    rename_i q8_ q9_
    cases q9_ <;> try exact absurd (show false = true from ok) Bool.false_ne_true
    cases ks <;> try exact absurd (show false = true from ok) Bool.false_ne_true
    exact ⟨_, _, _, _, _, _, rfl, rfl, rfl⟩
  simp only [okE, Bool.and_eq_true, decide_eq_true_eq] at ok
  obtain ⟨rfl, hl, h1, h2, h3, h4, h5, h8, h9, h6, h7⟩ := ok
  have pv := pe_var (X := X) (pos := px) (i := i) (by rw [k.N]; exact h1) (vis_of h2) (dbg_of h4) (dbg_of h5)
  have hM : gM Γ i = .top ∨ gM Γ i = .all := h3.elim .inl fun q => .inr q.1
  have red : ∀ {te : TE}, PE X xa te → PE X (.Call (.Attribute (.Name x px) "insert" ap) [xk, xa] [] p) (tBM X.K "list" (fun x vs H Q => ∃ (l : Addr) (xs : List V) (i : Int) (y : V), x = .ref l ∧ vs = [.int i, y] ∧ H l = some (.lst xs) ∧ xs.length < sizeLine ∧ 0 ≤ i ∧ i < 2 ^ 63 ∧
  Q .non (upd H l (.lst (xs.take i.toNat ++ [y] ++ xs.drop i.toNat)))) (tVar i) (tCons (tG X.K X.mg z Γ W (rF X.K) (runE c.T b)) (tCons te tNil))) := fun pe => pe_bm PySem.F.plainAttrs_list PySem.F.slot_list_insert PySem.F.type_list_insert mt_insert pv (pa_cons (hb.F (z := z) k h8 t) (pa_cons pe pa_nil (star_of h7)) (star_of h9)) rfl (by rw [star_of (xs := [xa]) h9, star_of (xs := []) h7]; rfl) (beq_iff_eq.mpr hl) (star_of h9) (by rw [star_of (xs := []) h7]; rfl)
  rcases h3 with h3 | ⟨h3, h3'⟩
  · refine PE.imp (red (ha.F (z := z) k h6 t)) fun σ H Q q => ?_
    obtain ⟨G, ρ, os, st, h⟩ := q
    obtain ⟨l0, e, h⟩ := GP.hasL (m := M.bind (runE c.T b) fun y => M.bind (runE c.T a) fun x ρ => match gS ρ i, y with
      | some (.lst l), .int n => if l.length < sizeLine ∧ 0 ≤ n ∧ n < 2 ^ 63 then R.ok (D.non, sS ρ i (some (.lst (l.take n.toNat ++ [x] ++ l.drop n.toNat)))) else .bad
      | _, _ => .bad) h
    obtain ⟨a0, e1, ty⟩ := slot_list st e hM
    refine ⟨_, e1, ty, ?_⟩
    refine (tG.two (mb := runE c.T a) ⟨G, ρ, os, st, h⟩).mono fun u H1 q1 => q1.mono fun y H2 q2 => ?_
    obtain ⟨d1, d2, G2, ρ2, os2, st2, f1, f2, g⟩ := q2
    cases e2 : gS ρ2 i with
    | none => simp only [e2] at g; exact (show False from g).elim
    | some d' =>
      obtain ⟨a', vs, ds, e1', rfl, ha, fl, put⟩ := st2.store e2 h3
      rw [e1] at e1'
      cases e1'
      simp only [e2] at g
      cases f1 with
      | int n =>
        by_cases hn : ds.length < sizeLine ∧ 0 ≤ n ∧ n < 2 ^ 63
        case neg => simp only [if_neg hn] at g; exact (show False from g).elim
        simp only [if_pos hn] at g
        refine ⟨_, vs, n, y, rfl, rfl, ha, by rw [fl.length]; exact hn.1, hn.2.1, hn.2.2, ?_⟩
        obtain ⟨st', fr⟩ := put (((fl.take n.toNat).append (.cons f2 .nil)).append (fl.drop n.toNat))
        exact g G2 _ os2 .non [] st' .non st2.nd fr (Sub.refl H2 os2)
      | _ => exact (show False from g).elim
  · have pa := ha X Γ z W xa k h6 t
    rw [h3'] at pa
    refine PE.imp (red pa) fun σ H Q q => ?_
    obtain ⟨G, ρ, os, st, h⟩ := q
    obtain ⟨l0, e, h⟩ := GP.hasL (m := M.bind (runE c.T b) fun y => M.bind (runE c.T a) fun x ρ => match gS ρ i, y with
      | some (.lst l), .int n => if l.length < sizeLine ∧ 0 ≤ n ∧ n < 2 ^ 63 then R.ok (D.non, sS ρ i (some (.lst (l.take n.toNat ++ [x] ++ l.drop n.toNat)))) else .bad
      | _, _ => .bad) h
    obtain ⟨a0, e1, ty⟩ := slot_list st e hM
    refine ⟨_, e1, ty, ?_⟩
    refine ⟨G, ρ, os, st, (GP.bind (rF_z (K := X.K)) h).mono fun _ H1 _ u _ _ _ _ _ _ _ _ _ q1 => ?_⟩
    obtain ⟨d1, G1, ρ1, os1, st1, ⟨f1, _⟩, sm, h⟩ := q1
    refine ⟨G1, ρ1, os1, st1, (GP.bindO (rel1 := rO X.K .all) h).mono fun _ H2 _ y _ _ _ _ _ _ _ _ _ q2 => ?_⟩
    obtain ⟨d2, G2, ρ2, os2, oy, st2, f2, ndy, g⟩ := q2
    have f2 : OwA X.K G2 H2 y d2 oy := f2
    cases e2 : gS ρ2 i with
    | none => simp only [e2] at g; exact (show False from g).elim
    | some d' =>
      simp only [e2] at g
      cases d' with
      | lst ds =>
        obtain ⟨a', vs, oi, e1', ha, r, put⟩ := all_put st2 e2 h3
        rw [e1] at e1'
        cases e1'
        cases f1 with
        | int n =>
          by_cases hn : ds.length < sizeLine ∧ 0 ≤ n ∧ n < 2 ^ 63
          case neg => simp only [if_neg hn] at g; exact (show False from g).elim
          simp only [if_pos hn] at g
          refine ⟨_, vs, n, y, rfl, rfl, ha, by rw [r.length]; exact hn.1, hn.2.1, hn.2.2, ?_⟩
          obtain ⟨o', hz, pm⟩ := OwAL.insAt f2 n.toNat r
          obtain ⟨os3, st3, fr, sb⟩ := put ndy (vs' := vs.take n.toNat ++ [y] ++ vs.drop n.toNat) (ds' := ds.take n.toNat ++ [d2] ++ ds.drop n.toNat) pm fun u n1 n2 => OwAL.frame u hz fun p hp => (List.mem_append.mp ((pm.mem_iff).mp hp)).elim (n2 p) (n1 p)
          exact g G2 _ os3 .non [] st3 .non st3.nd fr sb
        | _ => exact (show False from g).elim
      | _ => exact (show False from g).elim
theorem se_ext {i : Nat} {a : IE} (ha : SE c a) : SE c (.ext i a) := by
  intro X Γ z W x k ok t
  cases x <;> try (simp only [okE, Bool.false_eq_true] at ok; done)
  rename_i f as ks p
  obtain ⟨x, px, m, ap, xa, rfl, rfl, rfl⟩ : ∃ x px m ap xa, f = (.Attribute (.Name x px) m ap) ∧ as = (xa :: []) ∧ ks = [] := by
    cases f <;> try exact absurd (show false = true from ok) Bool.false_ne_true
    rename_i q1_ q2_ q3_
    cases q1_ <;> try exact absurd (show false = true from ok) Bool.false_ne_true
    rename_i q4_ q5_
    cases as <;> try exact absurd (show false = true from ok) Bool.false_ne_true
    rename_i q6_ q7_
    cases q7_ <;> try exact absurd (show false = true from ok) Bool.false_ne_true
    cases ks <;> try exact absurd (show false = true from ok) Bool.false_ne_true
    exact ⟨_, _, _, _, _, rfl, rfl, rfl⟩
  simp only [okE, Bool.and_eq_true, decide_eq_true_eq] at ok
  obtain ⟨rfl, hl, h1, h2, h3, h4, h5, h6, h7⟩ := ok
  have pv := pe_var (X := X) (pos := px) (i := i) (by rw [k.N]; exact h1) (vis_of h2) (dbg_of h4) (dbg_of h5)
  have hM : gM Γ i = .top ∨ gM Γ i = .all := h3.elim .inl fun q => .inr q.1
  have red : ∀ {te : TE}, PE X xa te → PE X (.Call (.Attribute (.Name x px) "extend" ap) [xa] [] p) (tBM X.K "list" rExtend (tVar i) (tCons te tNil)) := fun pe => pe_bm PySem.F.plainAttrs_list PySem.F.slot_list_extend PySem.F.type_list_extend mt_extend pv (pa_cons pe pa_nil (star_of h7)) rfl (by rw [star_of (xs := []) h7]; rfl) (beq_iff_eq.mpr hl) (star_of h7)
  rcases h3 with h3 | ⟨h3, h3'⟩
  · refine PE.imp (red (ha.F (z := z) k h6 t)) fun σ H Q q => ?_
    obtain ⟨G, ρ, os, st, h⟩ := q
    obtain ⟨l0, e, h⟩ := GP.hasL (m := M.bind (runE c.T a) fun x ρ => match gS ρ i, x with
      | some (.lst l), .lst k => if l.length + k.length ≤ sizeLine then R.ok (D.non, sS ρ i (some (.lst (l ++ k)))) else .bad
      | _, _ => .bad) h
    obtain ⟨a0, e1, ty⟩ := slot_list st e hM
    refine ⟨_, e1, ty, G, ρ, os, st, (GP.bind (rF_z (K := X.K)) h).mono fun _ H2 _ y _ _ _ _ _ _ _ _ _ q2 => ?_⟩
    obtain ⟨d2, G2, ρ2, os2, st2, ⟨f2, _⟩, sm, g⟩ := q2
    cases e2 : gS ρ2 i with
    | none => simp only [e2] at g; exact (show False from g).elim
    | some d' =>
      obtain ⟨a', vs, ds, e1', rfl, ha, fl, put⟩ := st2.store e2 h3
      rw [e1] at e1'
      cases e1'
      simp only [e2] at g
      cases f2 with
      | @lst b ws es hy r =>
        by_cases hn : ds.length + es.length ≤ sizeLine
        case neg => simp only [if_neg hn] at g; exact (show False from g).elim
        simp only [if_pos hn] at g
        refine ⟨_, b, vs, ws, rfl, rfl, ha, st2.sm _ _ hy, by rw [fl.length, r.length]; exact hn, ?_⟩
        obtain ⟨st', fr⟩ := put (fl.append r)
        exact g G2 _ os2 .non [] st' .non st2.nd fr (Sub.refl H2 os2)
      | _ => exact (show False from g).elim
  · have pa := ha X Γ z W xa k h6 t
    rw [h3'] at pa
    refine PE.imp (red pa) fun σ H Q q => ?_
    obtain ⟨G, ρ, os, st, h⟩ := q
    obtain ⟨l0, e, h⟩ := GP.hasL (m := M.bind (runE c.T a) fun x ρ => match gS ρ i, x with
      | some (.lst l), .lst k => if l.length + k.length ≤ sizeLine then R.ok (D.non, sS ρ i (some (.lst (l ++ k)))) else .bad
      | _, _ => .bad) h
    obtain ⟨a0, e1, ty⟩ := slot_list st e hM
    refine ⟨_, e1, ty, G, ρ, os, st, (GP.bindO (rel1 := rO X.K .all) h).mono fun _ H2 _ y _ _ _ _ _ _ _ _ _ q2 => ?_⟩
    obtain ⟨d2, G2, ρ2, os2, oy, st2, f2, ndy, g⟩ := q2
    have f2 : OwA X.K G2 H2 y d2 oy := f2
    cases e2 : gS ρ2 i with
    | none => simp only [e2] at g; exact (show False from g).elim
    | some d' =>
      simp only [e2] at g
      cases d' with
      | lst ds =>
        obtain ⟨a', vs, oi, e1', ha, r, put⟩ := all_put st2 e2 h3
        rw [e1] at e1'
        cases e1'
        cases f2 with
        | @lst b ws es oz hy gy ry =>
          by_cases hn : ds.length + es.length ≤ sizeLine
          case neg => simp only [if_neg hn] at g; exact (show False from g).elim
          simp only [if_pos hn] at g
          refine ⟨_, b, vs, ws, rfl, rfl, ha, hy, by rw [r.length, ry.length]; exact hn, ?_⟩
          have ndz : (oz ++ os2).Nodup := (List.nodup_cons.mp (show (b :: (oz ++ os2)).Nodup from ndy)).2
          obtain ⟨os3, st3, fr, sb⟩ := put ndz (vs' := vs ++ ws) (ds' := ds ++ es) (o' := oi ++ oz) List.perm_append_comm fun u n1 n2 => OwAL.cat (OwAL.frame u ry n2) (OwAL.frame u r n1)
          exact g G2 _ os3 .non [] st3 .non st3.nd (fr.weak fun p q => List.mem_cons_of_mem _ q) fun p q => (sb p q).elim (fun w => .inl (List.mem_cons_of_mem _ w)) .inr
        | _ => exact (show False from g).elim
      | _ => exact (show False from g).elim
theorem se_revM {i : Nat} : SE c (.revM i) := by
  intro X Γ z W x k ok t
  cases x <;> try (simp only [okE, Bool.false_eq_true] at ok; done)
  rename_i f as ks p
  obtain ⟨x, px, m, ap, rfl, rfl, rfl⟩ : ∃ x px m ap, f = (.Attribute (.Name x px) m ap) ∧ as = [] ∧ ks = [] := by
    cases f <;> try exact absurd (show false = true from ok) Bool.false_ne_true
    rename_i q1_ q2_ q3_
    cases q1_ <;> try exact absurd (show false = true from ok) Bool.false_ne_true
    rename_i q4_ q5_
    cases as <;> try exact absurd (show false = true from ok) Bool.false_ne_true
    cases ks <;> try exact absurd (show false = true from ok) Bool.false_ne_true
    exact ⟨_, _, _, _, rfl, rfl, rfl⟩
  simp only [okE, Bool.and_eq_true, decide_eq_true_eq] at ok
  obtain ⟨rfl, hl, h1, h2, h3, h4, h5⟩ := ok
  refine PE.imp (pe_bm0 PySem.F.plainAttrs_list PySem.F.slot_list_reverse PySem.F.type_list_reverse mt_reverse (pe_var (i := i) (by rw [k.N]; exact h1) (vis_of h2) (dbg_of h4) (dbg_of h5)) rfl (beq_iff_eq.mpr hl)) fun σ H Q q => ?_
  obtain ⟨G, ρ, os, st, h⟩ := q
  have h : GP X.K X.mg z Γ W (rO X.K .all) (match gS ρ i with | some (.lst l) => R.ok (.non, sS ρ i (some (.lst l.reverse))) | _ => .bad) G H os σ Q := h
  cases e : gS ρ i with
  | none => rw [e] at h; exact (show False from h).elim
  | some d =>
    obtain ⟨a, vs, ds, e1, rfl, ha, fl, put⟩ := st.store e h3
    rw [e] at h
    refine ⟨_, e1, .inl ⟨rfl, _, .inl (.inl ha)⟩, a, vs, rfl, rfl, ha, ?_⟩
    obtain ⟨st', fr⟩ := put fl.reverse
    exact h G _ os .non [] st' .non st.nd fr (Sub.refl H os)
/-! a list within one that is owned all through -/
theorem kc_int {X : Cx} {k : Int} {x : PySem.Expr} (h : kcB k x = true) : PE X x (fun σ H Q => Q (.int k) H) ∧ nslice x = true := by
  unfold kcB at h
  split at h
  · have h := of_decide_eq_true h
    subst h
    exact ⟨PE.imp pe_int fun σ H Q q => q, rfl⟩
  · have h := of_decide_eq_true h
    subst h
    exact ⟨PE.imp (pe_un un_neg pe_int) fun σ H Q q => ⟨_, rfl, q⟩, rfl⟩
  · cases h
theorem fr_upd {G H : Hp} {b : Addr} {u : HO} (sm : Same G H) (gb : G b = none) : Fr G H G (upd H b u) [b] := ⟨Same.refl G, fun p x q => by
    have n : p ≠ b := fun w => by rw [w, gb] at q; cases q
    rw [upd_ne n]; exact sm p x q, fun p x q n => ⟨by rw [upd_ne (fun w => n (by simp [w]))]; exact q, rfl⟩⟩
theorem OwAL.inner {K : PySem.W.Frag} {G H : Hp} {n : Int} (sm : Same G H) : ∀ {vs : List V} {ds : List D} {o : List Addr} (j : Nat) {l : List D}, OwAL K G H vs ds o → o.Nodup → ds[j]? = some (.lst l) →
    ∃ b ws, vs[j]? = some (.ref b) ∧ H b = some (.lst ws) ∧ G b = none ∧ b ∈ o ∧ ws.length = l.length ∧ OwAL K G (upd H b (.lst (ws ++ [.int n]))) vs (ds.set j (.lst (l ++ [.int n]))) o
  | _, _, _, 0, l, .cons (o := o1) (os := os) h r, nd, e => by
    obtain ⟨n1, n2, n3⟩ := List.nodup_append.mp nd
    have e := Option.some.inj e
    subst e
    cases h with
    | @lst b ws _ oi hb gb rw_ =>
      have u := fr_upd (u := .lst (ws ++ [.int n])) sm gb
      obtain ⟨m1, m2⟩ := List.nodup_cons.mp n1
      have w : OwAL K G (upd H b (.lst (ws ++ [.int n]))) (ws ++ [.int n]) (l ++ [.int n]) (oi ++ []) := OwAL.append (.int n) (OwAL.frame u rw_ fun p q q' => m1 (by rw [List.mem_singleton.mp q'] at q; exact q))
      rw [List.append_nil] at w
      refine ⟨b, ws, rfl, hb, gb, by simp, rw_.length, ?_⟩
      exact .cons (.lst upd_same gb w) (OwAL.frame u r fun p q q' => n3 b (by simp) p q (List.mem_singleton.mp q').symm)
  | _, _, _, j + 1, l, .cons (o := o1) (os := os) h r, nd, e => by
    obtain ⟨n1, n2, n3⟩ := List.nodup_append.mp nd
    obtain ⟨b, ws, e1, hb, gb, mb, hl, w⟩ := OwAL.inner sm j (l := l) r n2 e
    refine ⟨b, ws, e1, hb, gb, List.mem_append_right _ mb, hl, ?_⟩
    exact .cons (OwA.frame (fr_upd sm gb) h fun p q q' => n3 p q b mb (List.mem_singleton.mp q')) w
  | _, _, _, _, _, .nil, _, e => by simp at e
theorem inner_put {K : PySem.W.Frag} {z : Option (Nat × V × Hp)} {Γ : List Mode} {G H : Hp} {σ : L2.St} {ρ : Slots} {os : List Addr} {i : Nat} {l l2 : List D} {k n : Int} (st : Stt K z Γ G H σ ρ os) (e : gS ρ i = some (.lst l)) (m : gM Γ i = .all) (h : appD l k n = some l2) :
    ∃ a vs b ws, σ[i]? = some (some (.ref a)) ∧ H a = some (.lst vs) ∧ L2.atI vs k = some (.ref b) ∧ H b = some (.lst ws) ∧ ws.length < sizeLine ∧ Stt K z Γ G (upd H b (.lst (ws ++ [.int n]))) σ (sS ρ i (some (.lst l2))) os ∧ Fr G H G (upd H b (.lst (ws ++ [.int n]))) os := by
  obtain ⟨v, o1, o, o2, h1, h2, h3, h4, h5⟩ := st.sl.take e
  rw [m] at h2
  have h2 : OwA K G H v (.lst l) o := h2
  cases h2 with
  | @lst a vs _ oi ha ga r =>
    subst h3
    have nd := st.nd
    have nda : (a :: oi).Nodup := (List.nodup_append.mp (List.nodup_append.mp nd).1).2.1
    obtain ⟨m1, m2⟩ := List.nodup_cons.mp nda
    unfold appD at h
    cases ej : ixN l.length k with
    | none => rw [ej] at h; cases h
    | some j =>
      rw [ej] at h
      simp only at h
      split at h
      · rename_i q el eq
        split at h
        case isFalse => cases h
        rename_i hs
        cases h
        obtain ⟨b, ws, e1, hb, gb, mb, hl, w⟩ := OwAL.inner (n := n) st.sm j r m2 eq
        have nb : a ≠ b := fun q => m1 (q ▸ mb)
        have u := fr_upd (u := .lst (ws ++ [.int n])) st.sm gb
        have ow : OwA K G (upd H b (.lst (ws ++ [.int n]))) (.ref a) (.lst (l.set j (.lst (el ++ [.int n])))) (a :: oi) := .lst (by rw [upd_ne nb]; exact ha) ga w
        have sl := h5 (m' := .all) u (fun p q q' => by
          have q' := List.mem_singleton.mp q'
          subst q'
          have c1 := List.nodup_iff_count.mp nd p
          simp only [List.count_append, List.count_cons] at c1
          have c2 := List.count_pos_iff.mpr mb
          rcases List.mem_append.mp q with q | q <;> (have := List.count_pos_iff.mpr q; omega)) ow
        rw [set_self h1, ← m, sM_self] at sl
        refine ⟨a, vs, b, ws, h1, ha, ?_, hb, by rw [hl]; exact hs, ⟨sl, st.nd, u.s, st.zt, st.z, st.zb⟩, ⟨u.g, u.s, fun p x q n => u.k p x q fun w => n ?_⟩⟩
        · unfold L2.atI
          rw [r.length, ej]
          exact e1
        · have w := List.mem_singleton.mp w
          subst w
          simp [mb]
      · cases h
theorem se_appN {i : Nat} {k n : Int} : SE c (.appN i k n) := by
  intro X Γ z W x ck ok t
  cases x <;> try (simp only [okE, Bool.false_eq_true] at ok; done)
  rename_i f as ks p
  obtain ⟨x, px, xk, ps, m, ap, n', j1, pc, rfl, rfl, rfl⟩ : ∃ x px xk ps m ap n' j1 pc, f = (.Attribute (.Subscript (.Name x px) xk ps) m ap) ∧ as = ((.Constant (.int n') j1 pc) :: []) ∧ ks = [] := by
    cases f <;> try exact absurd (show false = true from ok) Bool.false_ne_true
    rename_i q1_ q2_ q3_
    cases q1_ <;> try exact absurd (show false = true from ok) Bool.false_ne_true
    rename_i q4_ q5_ q6_
    cases q4_ <;> try exact absurd (show false = true from ok) Bool.false_ne_true
    rename_i q7_ q8_
    cases as <;> try exact absurd (show false = true from ok) Bool.false_ne_true
    rename_i q9_ q10_
    cases q9_ <;> try exact absurd (show false = true from ok) Bool.false_ne_true
    rename_i q11_ q12_ q13_
    cases q11_ <;> try exact absurd (show false = true from ok) Bool.false_ne_true
    rename_i q14_
    cases q10_ <;> try exact absurd (show false = true from ok) Bool.false_ne_true
    cases ks <;> try exact absurd (show false = true from ok) Bool.false_ne_true
    exact ⟨_, _, _, _, _, _, _, _, _, rfl, rfl, rfl⟩
  simp only [okE, Bool.and_eq_true, decide_eq_true_eq] at ok
  obtain ⟨rfl, hl, h1, h2, h3, h4, h5, h6, rfl⟩ := ok
  obtain ⟨pk, hs⟩ := kc_int (X := X) h6
  have pv := pe_var (X := X) (pos := px) (i := i) (by rw [ck.N]; exact h1) (vis_of h2) (dbg_of h4) (dbg_of h5)
  have pr := pe_ix (X := X) (pos := ps) ix_seq pv pk (slice_of hs)
  refine PE.imp (pe_bm PySem.F.plainAttrs_list PySem.F.slot_list_append PySem.F.type_list_append mt_append pr (pa_cons (pe_int (X := X) (i := n') (j := j1) (pos := pc)) pa_nil rfl) rfl rfl (beq_iff_eq.mpr hl) rfl) fun σ H Q q => ?_
  obtain ⟨G, ρ, os, st, h⟩ := q
  have h : GP X.K X.mg z Γ W (rO X.K .all) (match gS ρ i with
    | some (.lst l) => (match appD l k n' with | some l2 => R.ok (D.non, sS ρ i (some (.lst l2))) | none => .bad)
    | _ => .bad) G H os σ Q := h
  cases e : gS ρ i with
  | none => simp only [e] at h; exact (show False from h).elim
  | some d =>
    simp only [e] at h
    cases d with
    | lst l =>
      simp only at h
      cases ea : appD l k n' with
      | none => simp only [ea] at h; exact (show False from h).elim
      | some l2 =>
        simp only [ea] at h
        obtain ⟨a, vs, b, ws, e1, ha, e2, hb, hlt, st', fr⟩ := inner_put st e h3 ea
        refine ⟨_, e1, .inl ⟨a, vs, k, .ref b, rfl, rfl, .inl (.inl ha), e2, .inl ⟨rfl, _, .inl (.inl hb)⟩, ?_⟩⟩
        exact ⟨b, ws, .int n', rfl, rfl, hb, hlt, h G _ os .non [] st' .non st'.nd fr (Sub.refl H os)⟩
    | _ => exact (show False from h).elim
end OS
namespace OS
open PySem PySem.Spec PyProof.Rows L2
variable {c : SC}
theorem okR_other {sc : Scope} {Γ : List Mode} {x : PySem.Expr} : ∀ {w : IE}, (∀ a, w ≠ .wRng1 a) → (∀ a b, w ≠ .wRng2 a b) → okR c sc Γ w x = false := by
  intro w h1 h2
  cases w <;> first
    | (exact absurd rfl (h1 _))
    | (exact absurd rfl (h2 _ _))
    | simp only [okR]
theorem se_rng_all {w : IE} (h : Snd c w) : SE c (.rng w) := by
  by_cases e1 : ∃ a, w = .wRng1 a
  · obtain ⟨a, rfl⟩ := e1
    exact se_rng1 (h.r1 a rfl)
  · by_cases e2 : ∃ a b, w = .wRng2 a b
    · obtain ⟨a, b, rfl⟩ := e2
      exact se_rng2 (h.r2 a b rfl).1 (h.r2 a b rfl).2
    · intro X Γ z W x k o t
      cases x <;> try (simp only [okE, Bool.false_eq_true] at o; done)
      rename_i f as ks p
      match f, as, ks, o with
      | .Name f pf, [xa], [], o =>
        simp only [okE, Bool.and_eq_true, decide_eq_true_eq] at o
        obtain ⟨_, _, o, _⟩ := o
        rw [okR_other (fun a e => e1 ⟨a, e⟩) (fun a b e => e2 ⟨a, b, e⟩)] at o
        cases o
theorem snd (c : SC) : ∀ e : IE, Snd c e := by
  intro e
  induction e with
  | nil  =>
    exact { E := (SE.triv fun sc Γ x => by simp only [okE]), T := (ST.triv fun sc Γ x => by simp only [okT]), Ch := (SCh.triv fun sc Γ x y => by simp only [okC]), L := sl_nil, LA := sla_nil, O := so_nil, W := (SW.triv fun sc Γ x => by simp only [okW]), M := (fun q => nomatch q), cn := (fun u r q => nomatch q), cs := (fun q => nomatch q), r1 := (fun a q => nomatch q), r2 := (fun a b q => nomatch q), q := (fun a q => nomatch q)}
  | cons a r ha hr =>
    exact { E := (SE.triv fun sc Γ x => by simp only [okE]), T := (ST.triv fun sc Γ x => by simp only [okT]), Ch := (SCh.triv fun sc Γ x y => by simp only [okC]), L := sl_cons ha.E hr.L, LA := sla_cons ha.E hr.LA, O := so_cons ha.E, W := (SW.triv fun sc Γ x => by simp only [okW]), M := (fun q => nomatch q), cn := (fun u r q => by cases q; exact ⟨ha.T, ha.E⟩), cs := (fun q => nomatch q), r1 := (fun a q => nomatch q), r2 := (fun a b q => nomatch q), q := (fun a q => nomatch q)}
  | var i =>
    exact { E := se_var i, T := (ST.triv fun sc Γ x => by simp only [okT]), Ch := (SCh.triv fun sc Γ x y => by simp only [okC]), L := (SL.triv fun sc Γ x => by simp only [okL]), LA := (SLA.triv fun sc Γ x => by simp only [okL]), O := (SO.triv fun sc Γ x => by simp only [okO]), W := (SW.triv fun sc Γ x => by simp only [okW]), M := (fun q => nomatch q), cn := (fun u r q => nomatch q), cs := (fun q => nomatch q), r1 := (fun a q => nomatch q), r2 := (fun a b q => nomatch q), q := (fun a q => nomatch q)}
  | int n =>
    exact { E := se_int n, T := (ST.triv fun sc Γ x => by simp only [okT]), Ch := (SCh.triv fun sc Γ x y => by simp only [okC]), L := (SL.triv fun sc Γ x => by simp only [okL]), LA := (SLA.triv fun sc Γ x => by simp only [okL]), O := (SO.triv fun sc Γ x => by simp only [okO]), W := (SW.triv fun sc Γ x => by simp only [okW]), M := (fun q => nomatch q), cn := (fun u r q => nomatch q), cs := (fun q => nomatch q), r1 := (fun a q => nomatch q), r2 := (fun a b q => nomatch q), q := (fun a q => nomatch q)}
  | bl b =>
    exact { E := se_bl b, T := (ST.triv fun sc Γ x => by simp only [okT]), Ch := (SCh.triv fun sc Γ x y => by simp only [okC]), L := (SL.triv fun sc Γ x => by simp only [okL]), LA := (SLA.triv fun sc Γ x => by simp only [okL]), O := (SO.triv fun sc Γ x => by simp only [okO]), W := (SW.triv fun sc Γ x => by simp only [okW]), M := (fun q => nomatch q), cn := (fun u r q => nomatch q), cs := (fun q => nomatch q), r1 := (fun a q => nomatch q), r2 := (fun a b q => nomatch q), q := (fun a q => nomatch q)}
  | non  =>
    exact { E := se_non, T := (ST.triv fun sc Γ x => by simp only [okT]), Ch := (SCh.triv fun sc Γ x y => by simp only [okC]), L := (SL.triv fun sc Γ x => by simp only [okL]), LA := (SLA.triv fun sc Γ x => by simp only [okL]), O := (SO.triv fun sc Γ x => by simp only [okO]), W := (SW.triv fun sc Γ x => by simp only [okW]), M := (fun q => nomatch q), cn := (fun u r q => nomatch q), cs := (fun q => nomatch q), r1 := (fun a q => nomatch q), r2 := (fun a b q => nomatch q), q := (fun a q => nomatch q)}
  | str x =>
    exact { E := se_str x, T := (ST.triv fun sc Γ x => by simp only [okT]), Ch := (SCh.triv fun sc Γ x y => by simp only [okC]), L := (SL.triv fun sc Γ x => by simp only [okL]), LA := (SLA.triv fun sc Γ x => by simp only [okL]), O := (SO.triv fun sc Γ x => by simp only [okO]), W := (SW.triv fun sc Γ x => by simp only [okW]), M := (fun q => nomatch q), cn := (fun u r q => nomatch q), cs := (fun q => nomatch q), r1 := (fun a q => nomatch q), r2 := (fun a b q => nomatch q), q := (fun a q => nomatch q)}
  | gint x n =>
    exact { E := se_gint x n, T := (ST.triv fun sc Γ x => by simp only [okT]), Ch := (SCh.triv fun sc Γ x y => by simp only [okC]), L := (SL.triv fun sc Γ x => by simp only [okL]), LA := (SLA.triv fun sc Γ x => by simp only [okL]), O := (SO.triv fun sc Γ x => by simp only [okO]), W := (SW.triv fun sc Γ x => by simp only [okW]), M := (fun q => nomatch q), cn := (fun u r q => nomatch q), cs := (fun q => nomatch q), r1 := (fun a q => nomatch q), r2 := (fun a b q => nomatch q), q := (fun a q => nomatch q)}
  | gstr x s =>
    exact { E := se_gstr x s, T := (ST.triv fun sc Γ x => by simp only [okT]), Ch := (SCh.triv fun sc Γ x y => by simp only [okC]), L := (SL.triv fun sc Γ x => by simp only [okL]), LA := (SLA.triv fun sc Γ x => by simp only [okL]), O := (SO.triv fun sc Γ x => by simp only [okO]), W := (SW.triv fun sc Γ x => by simp only [okW]), M := (fun q => nomatch q), cn := (fun u r q => nomatch q), cs := (fun q => nomatch q), r1 := (fun a q => nomatch q), r2 := (fun a b q => nomatch q), q := (fun a q => nomatch q)}
  | bin o a b ha hb =>
    exact { E := se_bin ha.E hb.E, T := (ST.triv fun sc Γ x => by simp only [okT]), Ch := (SCh.triv fun sc Γ x y => by simp only [okC]), L := (SL.triv fun sc Γ x => by simp only [okL]), LA := (SLA.triv fun sc Γ x => by simp only [okL]), O := (SO.triv fun sc Γ x => by simp only [okO]), W := (SW.triv fun sc Γ x => by simp only [okW]), M := (fun q => nomatch q), cn := (fun u r q => nomatch q), cs := (fun q => nomatch q), r1 := (fun a q => nomatch q), r2 := (fun a b q => nomatch q), q := (fun a q => nomatch q)}
  | neg a ha =>
    exact { E := se_neg ha.E, T := (ST.triv fun sc Γ x => by simp only [okT]), Ch := (SCh.triv fun sc Γ x y => by simp only [okC]), L := (SL.triv fun sc Γ x => by simp only [okL]), LA := (SLA.triv fun sc Γ x => by simp only [okL]), O := (SO.triv fun sc Γ x => by simp only [okO]), W := (SW.triv fun sc Γ x => by simp only [okW]), M := (fun q => nomatch q), cn := (fun u r q => nomatch q), cs := (fun q => nomatch q), r1 := (fun a q => nomatch q), r2 := (fun a b q => nomatch q), q := (fun a q => nomatch q)}
  | cmp o a b ha hb =>
    exact { E := (cmp_ok ha.E hb.E).se rfl, T := (ST.triv fun sc Γ x => by simp only [okT]), Ch := (SCh.triv fun sc Γ x y => by simp only [okC]), L := (SL.triv fun sc Γ x => by simp only [okL]), LA := (SLA.triv fun sc Γ x => by simp only [okL]), O := (SO.triv fun sc Γ x => by simp only [okO]), W := (SW.triv fun sc Γ x => by simp only [okW]), M := (fun _ => cmp_ok ha.E hb.E), cn := (fun u r q => nomatch q), cs := (fun q => nomatch q), r1 := (fun a q => nomatch q), r2 := (fun a b q => nomatch q), q := (fun a q => nomatch q)}
  | eq ne a b ha hb =>
    exact { E := (eq_ok ha.E hb.E).se rfl, T := (ST.triv fun sc Γ x => by simp only [okT]), Ch := (SCh.triv fun sc Γ x y => by simp only [okC]), L := (SL.triv fun sc Γ x => by simp only [okL]), LA := (SLA.triv fun sc Γ x => by simp only [okL]), O := (SO.triv fun sc Γ x => by simp only [okO]), W := (SW.triv fun sc Γ x => by simp only [okW]), M := (fun _ => eq_ok ha.E hb.E), cn := (fun u r q => nomatch q), cs := (fun q => nomatch q), r1 := (fun a q => nomatch q), r2 := (fun a b q => nomatch q), q := (fun a q => nomatch q)}
  | isN ne a ha =>
    exact { E := (isN_ok ha.E).se rfl, T := (ST.triv fun sc Γ x => by simp only [okT]), Ch := (SCh.triv fun sc Γ x y => by simp only [okC]), L := (SL.triv fun sc Γ x => by simp only [okL]), LA := (SLA.triv fun sc Γ x => by simp only [okL]), O := (SO.triv fun sc Γ x => by simp only [okO]), W := (SW.triv fun sc Γ x => by simp only [okW]), M := (fun _ => isN_ok ha.E), cn := (fun u r q => nomatch q), cs := (fun q => nomatch q), r1 := (fun a q => nomatch q), r2 := (fun a b q => nomatch q), q := (fun a q => nomatch q)}
  | inn ne a b ha hb =>
    exact { E := (inn_ok ha.E hb.E).se rfl, T := (ST.triv fun sc Γ x => by simp only [okT]), Ch := (SCh.triv fun sc Γ x y => by simp only [okC]), L := (SL.triv fun sc Γ x => by simp only [okL]), LA := (SLA.triv fun sc Γ x => by simp only [okL]), O := (SO.triv fun sc Γ x => by simp only [okO]), W := (SW.triv fun sc Γ x => by simp only [okW]), M := (fun _ => inn_ok ha.E hb.E), cn := (fun u r q => nomatch q), cs := (fun q => nomatch q), r1 := (fun a q => nomatch q), r2 := (fun a b q => nomatch q), q := (fun a q => nomatch q)}
  | chn a l ha hl =>
    exact { E := (chn_ok ha.E hl.Ch).se rfl, T := (ST.triv fun sc Γ x => by simp only [okT]), Ch := (SCh.triv fun sc Γ x y => by simp only [okC]), L := (SL.triv fun sc Γ x => by simp only [okL]), LA := (SLA.triv fun sc Γ x => by simp only [okL]), O := (SO.triv fun sc Γ x => by simp only [okO]), W := (SW.triv fun sc Γ x => by simp only [okW]), M := (fun _ => chn_ok ha.E hl.Ch), cn := (fun u r q => nomatch q), cs := (fun q => nomatch q), r1 := (fun a q => nomatch q), r2 := (fun a b q => nomatch q), q := (fun a q => nomatch q)}
  | lnk o b l hb hl =>
    exact { E := (SE.triv fun sc Γ x => by simp only [okE]), T := (ST.triv fun sc Γ x => by simp only [okT]), Ch := sch_link hb.E hl.Ch, L := (SL.triv fun sc Γ x => by simp only [okL]), LA := (SLA.triv fun sc Γ x => by simp only [okL]), O := (SO.triv fun sc Γ x => by simp only [okO]), W := (SW.triv fun sc Γ x => by simp only [okW]), M := (fun q => nomatch q), cn := (fun u r q => nomatch q), cs := (fun q => nomatch q), r1 := (fun a q => nomatch q), r2 := (fun a b q => nomatch q), q := (fun a q => nomatch q)}
  | lnkE o b hb =>
    exact { E := (SE.triv fun sc Γ x => by simp only [okE]), T := (ST.triv fun sc Γ x => by simp only [okT]), Ch := sch_last hb.E, L := (SL.triv fun sc Γ x => by simp only [okL]), LA := (SLA.triv fun sc Γ x => by simp only [okL]), O := (SO.triv fun sc Γ x => by simp only [okO]), W := (SW.triv fun sc Γ x => by simp only [okW]), M := (fun q => nomatch q), cn := (fun u r q => nomatch q), cs := (fun q => nomatch q), r1 := (fun a q => nomatch q), r2 := (fun a b q => nomatch q), q := (fun a q => nomatch q)}
  | and a b ha hb =>
    exact { E := se_and ha.E hb.E, T := st_and ha.T hb.T, Ch := (SCh.triv fun sc Γ x y => by simp only [okC]), L := (SL.triv fun sc Γ x => by simp only [okL]), LA := (SLA.triv fun sc Γ x => by simp only [okL]), O := (SO.triv fun sc Γ x => by simp only [okO]), W := (SW.triv fun sc Γ x => by simp only [okW]), M := (fun q => nomatch q), cn := (fun u r q => nomatch q), cs := (fun q => nomatch q), r1 := (fun a q => nomatch q), r2 := (fun a b q => nomatch q), q := (fun a q => nomatch q)}
  | or a b ha hb =>
    exact { E := se_or ha.E hb.E, T := st_or ha.T hb.T, Ch := (SCh.triv fun sc Γ x y => by simp only [okC]), L := (SL.triv fun sc Γ x => by simp only [okL]), LA := (SLA.triv fun sc Γ x => by simp only [okL]), O := (SO.triv fun sc Γ x => by simp only [okO]), W := (SW.triv fun sc Γ x => by simp only [okW]), M := (fun q => nomatch q), cn := (fun u r q => nomatch q), cs := (fun q => nomatch q), r1 := (fun a q => nomatch q), r2 := (fun a b q => nomatch q), q := (fun a q => nomatch q)}
  | one a ha =>
    exact { E := se_one ha.E, T := st_one ha.T, Ch := (SCh.triv fun sc Γ x y => by simp only [okC]), L := (SL.triv fun sc Γ x => by simp only [okL]), LA := (SLA.triv fun sc Γ x => by simp only [okL]), O := (SO.triv fun sc Γ x => by simp only [okO]), W := (SW.triv fun sc Γ x => by simp only [okW]), M := (fun q => nomatch q), cn := (fun u r q => nomatch q), cs := (fun q => nomatch q), r1 := (fun a q => nomatch q), r2 := (fun a b q => nomatch q), q := (fun a q => nomatch q)}
  | not a ha =>
    exact { E := se_not ha.E, T := st_not ha.T, Ch := (SCh.triv fun sc Γ x y => by simp only [okC]), L := (SL.triv fun sc Γ x => by simp only [okL]), LA := (SLA.triv fun sc Γ x => by simp only [okL]), O := (SO.triv fun sc Γ x => by simp only [okO]), W := (SW.triv fun sc Γ x => by simp only [okW]), M := (fun q => nomatch q), cn := (fun u r q => nomatch q), cs := (fun q => nomatch q), r1 := (fun a q => nomatch q), r2 := (fun a b q => nomatch q), q := (fun a q => nomatch q)}
  | ife t a b ht ha hb =>
    exact { E := se_ife ht.T ha.E hb.E, T := (ST.triv fun sc Γ x => by simp only [okT]), Ch := (SCh.triv fun sc Γ x y => by simp only [okC]), L := (SL.triv fun sc Γ x => by simp only [okL]), LA := (SLA.triv fun sc Γ x => by simp only [okL]), O := (SO.triv fun sc Γ x => by simp only [okO]), W := (SW.triv fun sc Γ x => by simp only [okW]), M := (fun q => nomatch q), cn := (fun u r q => nomatch q), cs := (fun q => nomatch q), r1 := (fun a q => nomatch q), r2 := (fun a b q => nomatch q), q := (fun a q => nomatch q)}
  | idx a b ha hb =>
    exact { E := se_idx ha.E hb.E, T := (ST.triv fun sc Γ x => by simp only [okT]), Ch := (SCh.triv fun sc Γ x y => by simp only [okC]), L := (SL.triv fun sc Γ x => by simp only [okL]), LA := (SLA.triv fun sc Γ x => by simp only [okL]), O := (SO.triv fun sc Γ x => by simp only [okO]), W := (SW.triv fun sc Γ x => by simp only [okW]), M := (fun q => nomatch q), cn := (fun u r q => nomatch q), cs := (fun q => nomatch q), r1 := (fun a q => nomatch q), r2 := (fun a b q => nomatch q), q := (fun a q => nomatch q)}
  | idxO i b hb =>
    exact { E := se_idxO hb.E, T := (ST.triv fun sc Γ x => by simp only [okT]), Ch := (SCh.triv fun sc Γ x y => by simp only [okC]), L := (SL.triv fun sc Γ x => by simp only [okL]), LA := (SLA.triv fun sc Γ x => by simp only [okL]), O := (SO.triv fun sc Γ x => by simp only [okO]), W := (SW.triv fun sc Γ x => by simp only [okW]), M := (fun q => nomatch q), cn := (fun u r q => nomatch q), cs := (fun q => nomatch q), r1 := (fun a q => nomatch q), r2 := (fun a b q => nomatch q), q := (fun a q => nomatch q)}
  | sl a lo hi ha hlo hhi =>
    exact { E := se_sl ha.E hlo.O hhi.O, T := (ST.triv fun sc Γ x => by simp only [okT]), Ch := (SCh.triv fun sc Γ x y => by simp only [okC]), L := (SL.triv fun sc Γ x => by simp only [okL]), LA := (SLA.triv fun sc Γ x => by simp only [okL]), O := (SO.triv fun sc Γ x => by simp only [okO]), W := (SW.triv fun sc Γ x => by simp only [okW]), M := (fun q => nomatch q), cn := (fun u r q => nomatch q), cs := (fun q => nomatch q), r1 := (fun a q => nomatch q), r2 := (fun a b q => nomatch q), q := (fun a q => nomatch q)}
  | slS a lo hi ha hlo hhi =>
    exact { E := se_slS ha.E hlo.O hhi.O, T := (ST.triv fun sc Γ x => by simp only [okT]), Ch := (SCh.triv fun sc Γ x y => by simp only [okC]), L := (SL.triv fun sc Γ x => by simp only [okL]), LA := (SLA.triv fun sc Γ x => by simp only [okL]), O := (SO.triv fun sc Γ x => by simp only [okO]), W := (SW.triv fun sc Γ x => by simp only [okW]), M := (fun q => nomatch q), cn := (fun u r q => nomatch q), cs := (fun q => nomatch q), r1 := (fun a q => nomatch q), r2 := (fun a b q => nomatch q), q := (fun a q => nomatch q)}
  | rev a ha =>
    exact { E := se_rev ha.E, T := (ST.triv fun sc Γ x => by simp only [okT]), Ch := (SCh.triv fun sc Γ x y => by simp only [okC]), L := (SL.triv fun sc Γ x => by simp only [okL]), LA := (SLA.triv fun sc Γ x => by simp only [okL]), O := (SO.triv fun sc Γ x => by simp only [okO]), W := (SW.triv fun sc Γ x => by simp only [okW]), M := (fun q => nomatch q), cn := (fun u r q => nomatch q), cs := (fun q => nomatch q), r1 := (fun a q => nomatch q), r2 := (fun a b q => nomatch q), q := (fun a q => nomatch q)}
  | len a ha =>
    exact { E := se_len ha.E, T := (ST.triv fun sc Γ x => by simp only [okT]), Ch := (SCh.triv fun sc Γ x y => by simp only [okC]), L := (SL.triv fun sc Γ x => by simp only [okL]), LA := (SLA.triv fun sc Γ x => by simp only [okL]), O := (SO.triv fun sc Γ x => by simp only [okO]), W := (SW.triv fun sc Γ x => by simp only [okW]), M := (fun q => nomatch q), cn := (fun u r q => nomatch q), cs := (fun q => nomatch q), r1 := (fun a q => nomatch q), r2 := (fun a b q => nomatch q), q := (fun a q => nomatch q)}
  | lenO i =>
    exact { E := se_lenO, T := (ST.triv fun sc Γ x => by simp only [okT]), Ch := (SCh.triv fun sc Γ x y => by simp only [okC]), L := (SL.triv fun sc Γ x => by simp only [okL]), LA := (SLA.triv fun sc Γ x => by simp only [okL]), O := (SO.triv fun sc Γ x => by simp only [okO]), W := (SW.triv fun sc Γ x => by simp only [okW]), M := (fun q => nomatch q), cn := (fun u r q => nomatch q), cs := (fun q => nomatch q), r1 := (fun a q => nomatch q), r2 := (fun a b q => nomatch q), q := (fun a q => nomatch q)}
  | call j as has =>
    exact { E := se_call has.L, T := (ST.triv fun sc Γ x => by simp only [okT]), Ch := (SCh.triv fun sc Γ x y => by simp only [okC]), L := (SL.triv fun sc Γ x => by simp only [okL]), LA := (SLA.triv fun sc Γ x => by simp only [okL]), O := (SO.triv fun sc Γ x => by simp only [okO]), W := (SW.triv fun sc Γ x => by simp only [okW]), M := (fun q => nomatch q), cn := (fun u r q => nomatch q), cs := (fun q => nomatch q), r1 := (fun a q => nomatch q), r2 := (fun a b q => nomatch q), q := (fun a q => nomatch q)}
  | callK j kw a b ha hb =>
    exact { E := se_callK ha.E hb.E, T := (ST.triv fun sc Γ x => by simp only [okT]), Ch := (SCh.triv fun sc Γ x y => by simp only [okC]), L := (SL.triv fun sc Γ x => by simp only [okL]), LA := (SLA.triv fun sc Γ x => by simp only [okL]), O := (SO.triv fun sc Γ x => by simp only [okO]), W := (SW.triv fun sc Γ x => by simp only [okW]), M := (fun q => nomatch q), cn := (fun u r q => nomatch q), cs := (fun q => nomatch q), r1 := (fun a q => nomatch q), r2 := (fun a b q => nomatch q), q := (fun a q => nomatch q)}
  | callD0 j a ha =>
    exact { E := se_callD0 ha.E, T := (ST.triv fun sc Γ x => by simp only [okT]), Ch := (SCh.triv fun sc Γ x y => by simp only [okC]), L := (SL.triv fun sc Γ x => by simp only [okL]), LA := (SLA.triv fun sc Γ x => by simp only [okL]), O := (SO.triv fun sc Γ x => by simp only [okO]), W := (SW.triv fun sc Γ x => by simp only [okW]), M := (fun q => nomatch q), cn := (fun u r q => nomatch q), cs := (fun q => nomatch q), r1 := (fun a q => nomatch q), r2 := (fun a b q => nomatch q), q := (fun a q => nomatch q)}
  | callIo j i as has =>
    exact { E := se_callIo has.L, T := (ST.triv fun sc Γ x => by simp only [okT]), Ch := (SCh.triv fun sc Γ x y => by simp only [okC]), L := (SL.triv fun sc Γ x => by simp only [okL]), LA := (SLA.triv fun sc Γ x => by simp only [okL]), O := (SO.triv fun sc Γ x => by simp only [okO]), W := (SW.triv fun sc Γ x => by simp only [okW]), M := (fun q => nomatch q), cn := (fun u r q => nomatch q), cs := (fun q => nomatch q), r1 := (fun a q => nomatch q), r2 := (fun a b q => nomatch q), q := (fun a q => nomatch q)}
  | bi f as has =>
    exact { E := se_bi has.L, T := (ST.triv fun sc Γ x => by simp only [okT]), Ch := (SCh.triv fun sc Γ x y => by simp only [okC]), L := (SL.triv fun sc Γ x => by simp only [okL]), LA := (SLA.triv fun sc Γ x => by simp only [okL]), O := (SO.triv fun sc Γ x => by simp only [okO]), W := (SW.triv fun sc Γ x => by simp only [okW]), M := (fun q => nomatch q), cn := (fun u r q => nomatch q), cs := (fun q => nomatch q), r1 := (fun a q => nomatch q), r2 := (fun a b q => nomatch q), q := (fun a q => nomatch q)}
  | isi ty a ha =>
    exact { E := se_isi ha.E, T := (ST.triv fun sc Γ x => by simp only [okT]), Ch := (SCh.triv fun sc Γ x y => by simp only [okC]), L := (SL.triv fun sc Γ x => by simp only [okL]), LA := (SLA.triv fun sc Γ x => by simp only [okL]), O := (SO.triv fun sc Γ x => by simp only [okO]), W := (SW.triv fun sc Γ x => by simp only [okW]), M := (fun q => nomatch q), cn := (fun u r q => nomatch q), cs := (fun q => nomatch q), r1 := (fun a q => nomatch q), r2 := (fun a b q => nomatch q), q := (fun a q => nomatch q)}
  | listOf a ha =>
    exact { E := se_listOf ha.E, T := (ST.triv fun sc Γ x => by simp only [okT]), Ch := (SCh.triv fun sc Γ x y => by simp only [okC]), L := (SL.triv fun sc Γ x => by simp only [okL]), LA := (SLA.triv fun sc Γ x => by simp only [okL]), O := (SO.triv fun sc Γ x => by simp only [okO]), W := (SW.triv fun sc Γ x => by simp only [okW]), M := (fun q => nomatch q), cn := (fun u r q => nomatch q), cs := (fun q => nomatch q), r1 := (fun a q => nomatch q), r2 := (fun a b q => nomatch q), q := (fun a q => nomatch q)}
  | tupOf a ha =>
    exact { E := se_tupOf ha.E, T := (ST.triv fun sc Γ x => by simp only [okT]), Ch := (SCh.triv fun sc Γ x y => by simp only [okC]), L := (SL.triv fun sc Γ x => by simp only [okL]), LA := (SLA.triv fun sc Γ x => by simp only [okL]), O := (SO.triv fun sc Γ x => by simp only [okO]), W := (SW.triv fun sc Γ x => by simp only [okW]), M := (fun q => nomatch q), cn := (fun u r q => nomatch q), cs := (fun q => nomatch q), r1 := (fun a q => nomatch q), r2 := (fun a b q => nomatch q), q := (fun a q => nomatch q)}
  | rng as has =>
    exact { E := se_rng_all has, T := (ST.triv fun sc Γ x => by simp only [okT]), Ch := (SCh.triv fun sc Γ x y => by simp only [okC]), L := (SL.triv fun sc Γ x => by simp only [okL]), LA := (SLA.triv fun sc Γ x => by simp only [okL]), O := (SO.triv fun sc Γ x => by simp only [okO]), W := (SW.triv fun sc Γ x => by simp only [okW]), M := (fun q => nomatch q), cn := (fun u r q => nomatch q), cs := (fun q => nomatch q), r1 := (fun a q => nomatch q), r2 := (fun a b q => nomatch q), q := (fun a q => nomatch q)}
  | sortI a ha =>
    exact { E := se_sortI ha.E, T := (ST.triv fun sc Γ x => by simp only [okT]), Ch := (SCh.triv fun sc Γ x y => by simp only [okC]), L := (SL.triv fun sc Γ x => by simp only [okL]), LA := (SLA.triv fun sc Γ x => by simp only [okL]), O := (SO.triv fun sc Γ x => by simp only [okO]), W := (SW.triv fun sc Γ x => by simp only [okW]), M := (fun q => nomatch q), cn := (fun u r q => nomatch q), cs := (fun q => nomatch q), r1 := (fun a q => nomatch q), r2 := (fun a b q => nomatch q), q := (fun a q => nomatch q)}
  | sortT a ha =>
    exact { E := se_sortT ha.E, T := (ST.triv fun sc Γ x => by simp only [okT]), Ch := (SCh.triv fun sc Γ x y => by simp only [okC]), L := (SL.triv fun sc Γ x => by simp only [okL]), LA := (SLA.triv fun sc Γ x => by simp only [okL]), O := (SO.triv fun sc Γ x => by simp only [okO]), W := (SW.triv fun sc Γ x => by simp only [okW]), M := (fun q => nomatch q), cn := (fun u r q => nomatch q), cs := (fun q => nomatch q), r1 := (fun a q => nomatch q), r2 := (fun a b q => nomatch q), q := (fun a q => nomatch q)}
  | tup as has =>
    exact { E := se_tup has.L has.LA, T := (ST.triv fun sc Γ x => by simp only [okT]), Ch := (SCh.triv fun sc Γ x y => by simp only [okC]), L := (SL.triv fun sc Γ x => by simp only [okL]), LA := (SLA.triv fun sc Γ x => by simp only [okL]), O := (SO.triv fun sc Γ x => by simp only [okO]), W := (SW.triv fun sc Γ x => by simp only [okW]), M := (fun q => nomatch q), cn := (fun u r q => nomatch q), cs := (fun q => nomatch q), r1 := (fun a q => nomatch q), r2 := (fun a b q => nomatch q), q := (fun a q => nomatch q)}
  | lst as has =>
    exact { E := se_lst has.L has.LA, T := (ST.triv fun sc Γ x => by simp only [okT]), Ch := (SCh.triv fun sc Γ x y => by simp only [okC]), L := (SL.triv fun sc Γ x => by simp only [okL]), LA := (SLA.triv fun sc Γ x => by simp only [okL]), O := (SO.triv fun sc Γ x => by simp only [okO]), W := (SW.triv fun sc Γ x => by simp only [okW]), M := (fun q => nomatch q), cn := (fun u r q => nomatch q), cs := (fun q => nomatch q), r1 := (fun a q => nomatch q), r2 := (fun a b q => nomatch q), q := (fun a q => nomatch q)}
  | cat a b ha hb =>
    exact { E := se_cat ha.E hb.E, T := (ST.triv fun sc Γ x => by simp only [okT]), Ch := (SCh.triv fun sc Γ x y => by simp only [okC]), L := (SL.triv fun sc Γ x => by simp only [okL]), LA := (SLA.triv fun sc Γ x => by simp only [okL]), O := (SO.triv fun sc Γ x => by simp only [okO]), W := (SW.triv fun sc Γ x => by simp only [okW]), M := (fun q => nomatch q), cn := (fun u r q => nomatch q), cs := (fun q => nomatch q), r1 := (fun a q => nomatch q), r2 := (fun a b q => nomatch q), q := (fun a q => nomatch q)}
  | rep a b ha hb =>
    exact { E := se_rep ha.E hb.E, T := (ST.triv fun sc Γ x => by simp only [okT]), Ch := (SCh.triv fun sc Γ x y => by simp only [okC]), L := (SL.triv fun sc Γ x => by simp only [okL]), LA := (SLA.triv fun sc Γ x => by simp only [okL]), O := (SO.triv fun sc Γ x => by simp only [okO]), W := (SW.triv fun sc Γ x => by simp only [okW]), M := (fun q => nomatch q), cn := (fun u r q => nomatch q), cs := (fun q => nomatch q), r1 := (fun a q => nomatch q), r2 := (fun a b q => nomatch q), q := (fun a q => nomatch q)}
  | popL i =>
    exact { E := se_popL, T := (ST.triv fun sc Γ x => by simp only [okT]), Ch := (SCh.triv fun sc Γ x y => by simp only [okC]), L := (SL.triv fun sc Γ x => by simp only [okL]), LA := (SLA.triv fun sc Γ x => by simp only [okL]), O := (SO.triv fun sc Γ x => by simp only [okO]), W := (SW.triv fun sc Γ x => by simp only [okW]), M := (fun q => nomatch q), cn := (fun u r q => nomatch q), cs := (fun q => nomatch q), r1 := (fun a q => nomatch q), r2 := (fun a b q => nomatch q), q := (fun a q => nomatch q)}
  | popAt i a ha =>
    exact { E := se_popAt ha.E, T := (ST.triv fun sc Γ x => by simp only [okT]), Ch := (SCh.triv fun sc Γ x y => by simp only [okC]), L := (SL.triv fun sc Γ x => by simp only [okL]), LA := (SLA.triv fun sc Γ x => by simp only [okL]), O := (SO.triv fun sc Γ x => by simp only [okO]), W := (SW.triv fun sc Γ x => by simp only [okW]), M := (fun q => nomatch q), cn := (fun u r q => nomatch q), cs := (fun q => nomatch q), r1 := (fun a q => nomatch q), r2 := (fun a b q => nomatch q), q := (fun a q => nomatch q)}
  | index a b ha hb =>
    exact { E := se_index ha.E hb.E, T := (ST.triv fun sc Γ x => by simp only [okT]), Ch := (SCh.triv fun sc Γ x y => by simp only [okC]), L := (SL.triv fun sc Γ x => by simp only [okL]), LA := (SLA.triv fun sc Γ x => by simp only [okL]), O := (SO.triv fun sc Γ x => by simp only [okO]), W := (SW.triv fun sc Γ x => by simp only [okW]), M := (fun q => nomatch q), cn := (fun u r q => nomatch q), cs := (fun q => nomatch q), r1 := (fun a q => nomatch q), r2 := (fun a b q => nomatch q), q := (fun a q => nomatch q)}
  | join a b ha hb =>
    exact { E := se_join ha.E hb.E, T := (ST.triv fun sc Γ x => by simp only [okT]), Ch := (SCh.triv fun sc Γ x y => by simp only [okC]), L := (SL.triv fun sc Γ x => by simp only [okL]), LA := (SLA.triv fun sc Γ x => by simp only [okL]), O := (SO.triv fun sc Γ x => by simp only [okO]), W := (SW.triv fun sc Γ x => by simp only [okW]), M := (fun q => nomatch q), cn := (fun u r q => nomatch q), cs := (fun q => nomatch q), r1 := (fun a q => nomatch q), r2 := (fun a b q => nomatch q), q := (fun a q => nomatch q)}
  | cntS a b ha hb =>
    exact { E := se_cntS ha.E hb.E, T := (ST.triv fun sc Γ x => by simp only [okT]), Ch := (SCh.triv fun sc Γ x y => by simp only [okC]), L := (SL.triv fun sc Γ x => by simp only [okL]), LA := (SLA.triv fun sc Γ x => by simp only [okL]), O := (SO.triv fun sc Γ x => by simp only [okO]), W := (SW.triv fun sc Γ x => by simp only [okW]), M := (fun q => nomatch q), cn := (fun u r q => nomatch q), cs := (fun q => nomatch q), r1 := (fun a q => nomatch q), r2 := (fun a b q => nomatch q), q := (fun a q => nomatch q)}
  | cntT a ha =>
    exact { E := se_cntT ha.E, T := (ST.triv fun sc Γ x => by simp only [okT]), Ch := (SCh.triv fun sc Γ x y => by simp only [okC]), L := (SL.triv fun sc Γ x => by simp only [okL]), LA := (SLA.triv fun sc Γ x => by simp only [okL]), O := (SO.triv fun sc Γ x => by simp only [okO]), W := (SW.triv fun sc Γ x => by simp only [okW]), M := (fun q => nomatch q), cn := (fun u r q => nomatch q), cs := (fun q => nomatch q), r1 := (fun a q => nomatch q), r2 := (fun a b q => nomatch q), q := (fun a q => nomatch q)}
  | wEnum a ha =>
    exact { E := (SE.triv fun sc Γ x => by simp only [okE]), T := (ST.triv fun sc Γ x => by simp only [okT]), Ch := (SCh.triv fun sc Γ x y => by simp only [okC]), L := (SL.triv fun sc Γ x => by simp only [okL]), LA := (SLA.triv fun sc Γ x => by simp only [okL]), O := (SO.triv fun sc Γ x => by simp only [okO]), W := sw_enum ha.E, M := (fun q => nomatch q), cn := (fun u r q => nomatch q), cs := (fun q => nomatch q), r1 := (fun a q => nomatch q), r2 := (fun a b q => nomatch q), q := (fun a q => nomatch q)}
  | app i a ha =>
    exact { E := (se_app ha.E), T := (ST.triv fun sc Γ x => by simp only [okT]), Ch := (SCh.triv fun sc Γ x y => by simp only [okC]), L := (SL.triv fun sc Γ x => by simp only [okL]), LA := (SLA.triv fun sc Γ x => by simp only [okL]), O := (SO.triv fun sc Γ x => by simp only [okO]), W := (SW.triv fun sc Γ x => by simp only [okW]), M := (fun q => nomatch q), cn := (fun u r q => nomatch q), cs := (fun q => nomatch q), r1 := (fun a q => nomatch q), r2 := (fun a b q => nomatch q), q := (fun a q => nomatch q) }
  | ins i k a hk ha =>
    exact { E := (se_ins hk.E ha.E), T := (ST.triv fun sc Γ x => by simp only [okT]), Ch := (SCh.triv fun sc Γ x y => by simp only [okC]), L := (SL.triv fun sc Γ x => by simp only [okL]), LA := (SLA.triv fun sc Γ x => by simp only [okL]), O := (SO.triv fun sc Γ x => by simp only [okO]), W := (SW.triv fun sc Γ x => by simp only [okW]), M := (fun q => nomatch q), cn := (fun u r q => nomatch q), cs := (fun q => nomatch q), r1 := (fun a q => nomatch q), r2 := (fun a b q => nomatch q), q := (fun a q => nomatch q) }
  | ext i a ha =>
    exact { E := (se_ext ha.E), T := (ST.triv fun sc Γ x => by simp only [okT]), Ch := (SCh.triv fun sc Γ x y => by simp only [okC]), L := (SL.triv fun sc Γ x => by simp only [okL]), LA := (SLA.triv fun sc Γ x => by simp only [okL]), O := (SO.triv fun sc Γ x => by simp only [okO]), W := (SW.triv fun sc Γ x => by simp only [okW]), M := (fun q => nomatch q), cn := (fun u r q => nomatch q), cs := (fun q => nomatch q), r1 := (fun a q => nomatch q), r2 := (fun a b q => nomatch q), q := (fun a q => nomatch q) }
  | revM i =>
    exact { E := se_revM, T := (ST.triv fun sc Γ x => by simp only [okT]), Ch := (SCh.triv fun sc Γ x y => by simp only [okC]), L := (SL.triv fun sc Γ x => by simp only [okL]), LA := (SLA.triv fun sc Γ x => by simp only [okL]), O := (SO.triv fun sc Γ x => by simp only [okO]), W := (SW.triv fun sc Γ x => by simp only [okW]), M := (fun q => nomatch q), cn := (fun u r q => nomatch q), cs := (fun q => nomatch q), r1 := (fun a q => nomatch q), r2 := (fun a b q => nomatch q), q := (fun a q => nomatch q) }
  | pl a ha =>
    exact { E := se_pl ha.E, T := (ST.triv fun sc Γ x => by simp only [okT]), Ch := (SCh.triv fun sc Γ x y => by simp only [okC]), L := (SL.triv fun sc Γ x => by simp only [okL]), LA := (SLA.triv fun sc Γ x => by simp only [okL]), O := (SO.triv fun sc Γ x => by simp only [okO]), W := (SW.triv fun sc Γ x => by simp only [okW]), M := (fun q => nomatch q), cn := (fun u r q => nomatch q), cs := (fun q => nomatch q), r1 := (fun a q => nomatch q), r2 := (fun a b q => nomatch q), q := (fun a q => nomatch q)}
  | pli a ha =>
    exact { E := se_pli ha.E, T := (ST.triv fun sc Γ x => by simp only [okT]), Ch := (SCh.triv fun sc Γ x y => by simp only [okC]), L := (SL.triv fun sc Γ x => by simp only [okL]), LA := (SLA.triv fun sc Γ x => by simp only [okL]), O := (SO.triv fun sc Γ x => by simp only [okO]), W := (SW.triv fun sc Γ x => by simp only [okW]), M := (fun q => nomatch q), cn := (fun u r q => nomatch q), cs := (fun q => nomatch q), r1 := (fun a q => nomatch q), r2 := (fun a b q => nomatch q), q := (fun a q => nomatch q)}
  | comp vs tg it t e hit ht he =>
    exact { E := (comp_st hit.W (hotQ hit.q) (fun u r q => (ht.cn u r q).1) he.E).se, T := (ST.triv fun sc Γ x => by simp only [okT]), Ch := (SCh.triv fun sc Γ x y => by simp only [okC]), L := (SL.triv fun sc Γ x => by simp only [okL]), LA := (SLA.triv fun sc Γ x => by simp only [okL]), O := (SO.triv fun sc Γ x => by simp only [okO]), W := (SW.triv fun sc Γ x => by simp only [okW]), M := (fun q => nomatch q), cn := (fun u r q => nomatch q), cs := (fun _ => comp_st hit.W (hotQ hit.q) (fun u r q => (ht.cn u r q).1) he.E), r1 := (fun a q => nomatch q), r2 := (fun a b q => nomatch q), q := (fun a q => nomatch q)}
  | comp2 vs tg it t vs1 tg1 it1 t1 e hit ht hit1 ht1 he =>
    exact { E := (comp2_st hit.W (fun u r q => (ht.cn u r q).1) hit1.W (fun u r q => (ht1.cn u r q).1) he.E).se, T := (ST.triv fun sc Γ x => by simp only [okT]), Ch := (SCh.triv fun sc Γ x y => by simp only [okC]), L := (SL.triv fun sc Γ x => by simp only [okL]), LA := (SLA.triv fun sc Γ x => by simp only [okL]), O := (SO.triv fun sc Γ x => by simp only [okO]), W := (SW.triv fun sc Γ x => by simp only [okW]), M := (fun q => nomatch q), cn := (fun u r q => nomatch q), cs := (fun _ => comp2_st hit.W (fun u r q => (ht.cn u r q).1) hit1.W (fun u r q => (ht1.cn u r q).1) he.E), r1 := (fun a q => nomatch q), r2 := (fun a b q => nomatch q), q := (fun a q => nomatch q)}
  | prim j =>
    exact { E := se_prim j, T := (ST.triv fun sc Γ x => by simp only [okT]), Ch := (SCh.triv fun sc Γ x y => by simp only [okC]), L := (SL.triv fun sc Γ x => by simp only [okL]), LA := (SLA.triv fun sc Γ x => by simp only [okL]), O := (SO.triv fun sc Γ x => by simp only [okO]), W := (SW.triv fun sc Γ x => by simp only [okW]), M := (fun q => nomatch q), cn := (fun u r q => nomatch q), cs := (fun q => nomatch q), r1 := (fun a q => nomatch q), r2 := (fun a b q => nomatch q), q := (fun a q => nomatch q)}
  | bor a ha =>
    exact { E := se_bor ha.E, T := (ST.triv fun sc Γ x => by simp only [okT]), Ch := (SCh.triv fun sc Γ x y => by simp only [okC]), L := (SL.triv fun sc Γ x => by simp only [okL]), LA := (SLA.triv fun sc Γ x => by simp only [okL]), O := (SO.triv fun sc Γ x => by simp only [okO]), W := (SW.triv fun sc Γ x => by simp only [okW]), M := (fun q => nomatch q), cn := (fun u r q => nomatch q), cs := (fun q => nomatch q), r1 := (fun a q => nomatch q), r2 := (fun a b q => nomatch q), q := (fun a q => nomatch q)}
  | tst a ha =>
    exact { E := (SE.triv fun sc Γ x => by simp only [okE]), T := st_tst ha.M, Ch := (SCh.triv fun sc Γ x y => by simp only [okC]), L := (SL.triv fun sc Γ x => by simp only [okL]), LA := (SLA.triv fun sc Γ x => by simp only [okL]), O := (SO.triv fun sc Γ x => by simp only [okO]), W := (SW.triv fun sc Γ x => by simp only [okW]), M := (fun q => nomatch q), cn := (fun u r q => nomatch q), cs := (fun q => nomatch q), r1 := (fun a q => nomatch q), r2 := (fun a b q => nomatch q), q := (fun a q => nomatch q)}
  | tru a ha =>
    exact { E := (SE.triv fun sc Γ x => by simp only [okE]), T := st_tru ha.E, Ch := (SCh.triv fun sc Γ x y => by simp only [okC]), L := (SL.triv fun sc Γ x => by simp only [okL]), LA := (SLA.triv fun sc Γ x => by simp only [okL]), O := (SO.triv fun sc Γ x => by simp only [okO]), W := (SW.triv fun sc Γ x => by simp only [okW]), M := (fun q => nomatch q), cn := (fun u r q => nomatch q), cs := (fun q => nomatch q), r1 := (fun a q => nomatch q), r2 := (fun a b q => nomatch q), q := (fun a q => nomatch q)}
  | wSeq a ha =>
    exact { E := (SE.triv fun sc Γ x => by simp only [okE]), T := (ST.triv fun sc Γ x => by simp only [okT]), Ch := (SCh.triv fun sc Γ x y => by simp only [okC]), L := (SL.triv fun sc Γ x => by simp only [okL]), LA := (SLA.triv fun sc Γ x => by simp only [okL]), O := (SO.triv fun sc Γ x => by simp only [okO]), W := sw_seq ha.E, M := (fun q => nomatch q), cn := (fun u r q => nomatch q), cs := (fun q => nomatch q), r1 := (fun a q => nomatch q), r2 := (fun a b q => nomatch q), q := (fun a q => by cases q; exact ha.E)}
  | wRng1 a ha =>
    exact { E := (SE.triv fun sc Γ x => by simp only [okE]), T := (ST.triv fun sc Γ x => by simp only [okT]), Ch := (SCh.triv fun sc Γ x y => by simp only [okC]), L := (SL.triv fun sc Γ x => by simp only [okL]), LA := (SLA.triv fun sc Γ x => by simp only [okL]), O := (SO.triv fun sc Γ x => by simp only [okO]), W := sw_rng1 ha.E, M := (fun q => nomatch q), cn := (fun u r q => nomatch q), cs := (fun q => nomatch q), r1 := (fun a q => by cases q; exact ha.E), r2 := (fun a b q => nomatch q), q := (fun a q => nomatch q)}
  | wRng2 a b ha hb =>
    exact { E := (SE.triv fun sc Γ x => by simp only [okE]), T := (ST.triv fun sc Γ x => by simp only [okT]), Ch := (SCh.triv fun sc Γ x y => by simp only [okC]), L := (SL.triv fun sc Γ x => by simp only [okL]), LA := (SLA.triv fun sc Γ x => by simp only [okL]), O := (SO.triv fun sc Γ x => by simp only [okO]), W := sw_rng2 ha.E hb.E, M := (fun q => nomatch q), cn := (fun u r q => nomatch q), cs := (fun q => nomatch q), r1 := (fun a q => nomatch q), r2 := (fun a b q => by cases q; exact ⟨ha.E, hb.E⟩), q := (fun a q => nomatch q)}
  | wRv1 a ha =>
    exact { E := (SE.triv fun sc Γ x => by simp only [okE]), T := (ST.triv fun sc Γ x => by simp only [okT]), Ch := (SCh.triv fun sc Γ x y => by simp only [okC]), L := (SL.triv fun sc Γ x => by simp only [okL]), LA := (SLA.triv fun sc Γ x => by simp only [okL]), O := (SO.triv fun sc Γ x => by simp only [okO]), W := sw_rv1 ha.E, M := (fun q => nomatch q), cn := (fun u r q => nomatch q), cs := (fun q => nomatch q), r1 := (fun a q => nomatch q), r2 := (fun a b q => nomatch q), q := (fun a q => nomatch q)}
  | wRv2 a b ha hb =>
    exact { E := (SE.triv fun sc Γ x => by simp only [okE]), T := (ST.triv fun sc Γ x => by simp only [okT]), Ch := (SCh.triv fun sc Γ x y => by simp only [okC]), L := (SL.triv fun sc Γ x => by simp only [okL]), LA := (SLA.triv fun sc Γ x => by simp only [okL]), O := (SO.triv fun sc Γ x => by simp only [okO]), W := sw_rv2 ha.E hb.E, M := (fun q => nomatch q), cn := (fun u r q => nomatch q), cs := (fun q => nomatch q), r1 := (fun a q => nomatch q), r2 := (fun a b q => nomatch q), q := (fun a q => nomatch q)}
  | borA a ha =>
    exact { E := se_borA ha.E, T := (ST.triv fun sc Γ x => by simp only [okT]), Ch := (SCh.triv fun sc Γ x y => by simp only [okC]), L := (SL.triv fun sc Γ x => by simp only [okL]), LA := (SLA.triv fun sc Γ x => by simp only [okL]), O := (SO.triv fun sc Γ x => by simp only [okO]), W := (SW.triv fun sc Γ x => by simp only [okW]), M := (fun q => nomatch q), cn := (fun u r q => nomatch q), cs := (fun q => nomatch q), r1 := (fun a q => nomatch q), r2 := (fun a b q => nomatch q), q := (fun a q => nomatch q)}
  | appN i k n =>
    exact { E := se_appN, T := (ST.triv fun sc Γ x => by simp only [okT]), Ch := (SCh.triv fun sc Γ x y => by simp only [okC]), L := (SL.triv fun sc Γ x => by simp only [okL]), LA := (SLA.triv fun sc Γ x => by simp only [okL]), O := (SO.triv fun sc Γ x => by simp only [okO]), W := (SW.triv fun sc Γ x => by simp only [okW]), M := (fun q => nomatch q), cn := (fun u r q => nomatch q), cs := (fun q => nomatch q), r1 := (fun a q => nomatch q), r2 := (fun a b q => nomatch q), q := (fun a q => nomatch q)}
  | borT a ha =>
    exact { E := (SE.triv fun sc Γ x => by simp only [okE]), T := st_borT ha.T, Ch := (SCh.triv fun sc Γ x y => by simp only [okC]), L := (SL.triv fun sc Γ x => by simp only [okL]), LA := (SLA.triv fun sc Γ x => by simp only [okL]), O := (SO.triv fun sc Γ x => by simp only [okO]), W := (SW.triv fun sc Γ x => by simp only [okW]), M := (fun q => nomatch q), cn := (fun u r q => nomatch q), cs := (fun q => nomatch q), r1 := (fun a q => nomatch q), r2 := (fun a b q => nomatch q), q := (fun a q => nomatch q)}
end OS
namespace OS
open PySem PySem.Spec PyProof.Rows L2

/-! ### what is spoilt -/
mutual
/-- its lists and tuples are short -/
def smD : D → Bool
  | .tup l => decide (l.length ≤ 800) && smL l
  | .lst l => decide (l.length ≤ 800) && smL l
  | _ => true
def smL : List D → Bool
  | [] => true
  | d :: r => smD d && smL r
end
/-- the promise of a def that is given something that is owned all through, and may change all of it -/
def spSpl (K : PySem.W.Frag) : Sp := fun vs H Q E => ∃ v d os G, vs = [v] ∧ Same G H ∧ OwA K G H v d os ∧ os.Nodup ∧ smD d = true ∧ ∀ v' H', Fr G H G H' os → Q v' H'
structure SplAt (X : Cx) (lv : Nat) (x : Str) : Prop where
  ex : ∃ f fd ps, FnOk X.prog X.w X.K X.mg X.base (L2N.CX X.prog X.w) lv f fd ps (spSpl X.K) ∧ X.mg x = some (.ref f) ∧ PySem.W.keepIn X.K (.ref f) = true ∧ Binds X.K fd ps []
/-! ### statements -/
inductive Out where
  | nx (ρ : Slots) | rt (d : D) (ρ : Slots) | bk (ρ : Slots) | ct (ρ : Slots) | exn (c : Str) (fs : List (Str × Int)) | bad
inductive IS where
  | nil | seq (s r : IS)
  /-- a slot is owned no more (no code) -/
  | frz (i : Nat)
  | ex (e : IE) | asg (tg : List Nat) (e : IE) | asgO (i : Nat) (m : Mode) (e : IE) | mv (i : Nat) (m : Mode) (j k : Nat)
  | par (i j : Nat) (a b : IE)
  | setI (i : Nat) (k v : IE) | swp (i : Nat) (k1 k2 v1 v2 : IE)
  | aug (i : Nat) (o : BOp) (e : IE)
  | ite (t : IE) (a b : IS) | fr (tg : List Nat) (w : IE) (b : IS) | wh (n : Nat) (t : IE) (b : IS)
  | ret (e : IE) | retM (i : Nat) | retN
  /-- raise C(a): the class, its fields, the values -/
  | rai (c : Str) (fs : List Str) (as : IE)
  /-- try: b  except StraightError as e: h (the slots of a def, all forgotten) -/
  | tryR (n : Nat) (b h : IS)
  | brk | cnt | pass
  /-- f(name): what is owned all through is spoilt -/
  | spl (i : Nat)
  /-- never run -/
  | unr
  /-- a slot that holds no list is owned all through (no code) -/
  | thaw (i : Nat)
  /-- y = x[k]; y.append(n) (two statements) -/
  | inn2 (j i : Nat) (k n : Int)
  /-- try: return (t, f(as))  except StraightError as e: h (the slot k is kept) -/
  | tryC (n : Nat) (t : Str) (j : Nat) (as : IE) (k : Nat) (h : IS)
  /-- f(x[k]): an item of what is owned all through is spoilt -/
  | splI (i k : Nat)
def M.out (m : M Out) : Slots → Out := fun ρ => match m ρ with
  | .ok (o, _) => o
  | .exn c fs => .exn c fs
  | .bad => .bad
/-- an expression, then what follows -/
def exec1 {α : Type} (m : M α) (f : α → Slots → Out) : Slots → Out := fun ρ => match m ρ with
  | .ok (a, ρ') => f a ρ'
  | .exn c fs => .exn c fs
  | .bad => .bad
def forL (tg : List Nat) (body : Slots → Out) : List D → Slots → Out
  | [], ρ => .nx ρ
  | d :: r, ρ => match setT tg d ρ with
    | none => .bad
    | some ρ1 => match body ρ1 with
      | .nx ρ2 => forL tg body r ρ2
      | .ct ρ2 => forL tg body r ρ2
      | .bk ρ2 => .nx ρ2
      | o => o
def whL (t : M Bool) (body : Slots → Out) : Nat → Slots → Out
  | 0, _ => .bad
  | n + 1, ρ => match t ρ with
    | .ok (true, ρ1) => (match body ρ1 with
      | .nx ρ2 => whL t body n ρ2
      | .ct ρ2 => whL t body n ρ2
      | .bk ρ2 => .nx ρ2
      | o => o)
    | .ok (false, ρ1) => .nx ρ1
    | .exn c fs => .exn c fs
    | .bad => .bad
def isLst : D → Bool
  | .lst _ => true
  | _ => false
def fields : List Str → List D → Option (List (Str × Int))
  | [], [] => some []
  | f :: fs, .int i :: ds => (fields fs ds).map ((f, i) :: ·)
  | _, _ => none
/-- a table that speaks of no exception -/
def noE (T : List Sig) : Bool := match T with
  | s :: _ => (match s.φ [] with | .ok _ => false | _ => true)
  | [] => true
/-- the name that a table's exception goes by -/
def evOf (T : List Sig) : Option Str := match T with
  | s :: _ => (match s.pr with | some (.isE y _) => some y | _ => none)
  | [] => none
/-- the list of a tuple, taken out of it -/
def mvD (k : Nat) : D → Option D
  | .tup l => l[k]?
  | _ => none
variable (rm : Mode) (io : Bool)
/-- the end of a def: what it gives must be of its mode, its first slot must hold something -/
def retD (d : D) (ρ : Slots) : Out := if rm = .top ∧ isLst d = false then .bad else if io = true ∧ (gS ρ 0).isNone = true then .bad else .rt d ρ
def runS' : (Str → List (Str × Int) → List Sig) → List Sig → IS → Slots → Out
  | TH, T, .nil, ρ => .nx ρ
  | TH, T, .seq s r, ρ => match runS' TH T s ρ with
    | .nx ρ1 => runS' TH T r ρ1
    | o => o
  | TH, T, .frz _, ρ => .nx ρ
  | TH, T, .ex e, ρ => exec1 (runE T e) (fun _ ρ1 => .nx ρ1) ρ
  | TH, T, .asg tg e, ρ => exec1 (runE T e) (fun d ρ1 => match setT tg d ρ1 with | some ρ2 => .nx ρ2 | none => .bad) ρ
  | TH, T, .asgO i m e, ρ => exec1 (runE T e) (fun d ρ1 => if m = .top ∧ isLst d = false then .bad else .nx (sS ρ1 i (some d))) ρ
  | TH, T, .mv i m j k, ρ => match gS ρ j with
    | some d => (match mvD k d with
      | some e => if m = .top ∧ isLst e = false then .bad else .nx (sS (sS ρ j none) i (some e))
      | none => .bad)
    | none => .bad
  | TH, T, .par i j a b, ρ => exec1 (runE T a) (fun x => exec1 (runE T b) fun y ρ1 => .nx (sS (sS ρ1 i (some x)) j (some y))) ρ
  | TH, T, .setI i k v, ρ => exec1 (runE T v) (fun x ρ0 => match gS ρ0 i with
    | none => .bad
    | some _ => exec1 (runE T k) (fun y ρ1 => match gS ρ1 i, y with
      | some (.lst l), .int n => (match ixN l.length n with | some j => .nx (sS ρ1 i (some (.lst (l.set j x)))) | none => .bad)
      | _, _ => .bad) ρ0) ρ
  | TH, T, .swp i k1 k2 v1 v2, ρ => exec1 (runE T (.tup (.cons v1 (.cons v2 .nil)))) (fun d ρ0 => match d with
    | .tup [x1, x2] => (match gS ρ0 i with
      | none => .bad
      | some _ => exec1 (runE T k1) (fun y1 ρ1 => match gS ρ1 i, y1 with
        | some (.lst l), .int n => (match ixN l.length n with
          | some j => exec1 (runE T k2) (fun y2 ρ2 => match gS ρ2 i, y2 with
            | some (.lst l2), .int n2 => (match ixN l2.length n2 with | some j2 => .nx (sS ρ2 i (some (.lst (l2.set j2 x2)))) | none => .bad)
            | _, _ => .bad) (sS ρ1 i (some (.lst (l.set j x1))))
          | none => .bad)
        | _, _ => .bad) ρ0)
    | _ => .bad) ρ
  | TH, T, .aug i o e, ρ => match gS ρ i with
    | some x => exec1 (runE T e) (fun y ρ1 => match binD o x y with | some z => .nx (sS ρ1 i (some z)) | none => .bad) ρ
    | none => .bad
  | TH, T, .ite t a b, ρ => exec1 (runT T t) (fun r => if r then runS' TH T a else runS' TH T b) ρ
  | TH, T, .fr tg w b, ρ => exec1 (runW T w) (fun l => forL tg (runS' TH T b) l) ρ
  | TH, T, .wh n t b, ρ => whL (runT T t) (runS' TH T b) n ρ
  | TH, T, .ret e, ρ => exec1 (runE T e) (fun d ρ1 => retD rm io d ρ1) ρ
  | TH, T, .retM i, ρ => match gS ρ i with
    | some d => retD rm io d (sS ρ i none)
    | none => .bad
  | TH, T, .retN, ρ => retD rm io .non ρ
  | TH, T, .rai c fs as, ρ => exec1 (runL T as) (fun ds ρ1 => match fields fs ds with | some p => .exn c p.reverse | none => .bad) ρ
  | TH, T, .tryR n b h, ρ => match runS' TH T b ρ with
    | .exn c fs => if noE (TH c fs) then .bad else (match runS' (fun _ _ => []) (TH c fs) h (List.replicate n none) with
      | .rt d ρ1 => .rt d ρ1
      | _ => .bad)
    | o => o
  | TH, T, .brk, ρ => .bk ρ
  | TH, T, .cnt, ρ => .ct ρ
  | TH, T, .pass, ρ => .nx ρ
  | TH, T, .spl i, ρ => match gS ρ i with
    | some d => if smD d then .nx (sS ρ i none) else .bad
    | none => .bad
  | TH, T, .unr, ρ => .bad
  | TH, T, .thaw i, ρ => match gS ρ i with
    | some d => if plain d then .nx ρ else .bad
    | none => .bad
  | TH, T, .inn2 j i k n, ρ => match gS ρ i with
    | some (.lst l) => (match appD l k n with | some l2 => .nx (sS (sS ρ i (some (.lst l2))) j none) | none => .bad)
    | _ => .bad
  | TH, T, .tryC n t j as k h, ρ => match runL T as ρ with
    | .ok (ds, ρ1) => (match callD T j ds with
      | .ok (d, _) => retD rm io (.tup [.str t, d]) ρ1
      | .exn c fs => if noE (TH c fs) then .bad else (match runS' (fun _ _ => []) (TH c fs) h (sS (List.replicate n none) k (gS ρ1 k)) with
        | .rt d ρ2 => .rt d ρ2
        | _ => .bad)
      | .bad => .bad)
    | _ => .bad
  | TH, T, .splI i k, ρ => match gS ρ i with
    | some (.tup l) => (match l[k]? with
      | some d => if smD d then .nx (sS ρ i none) else .bad
      | none => .bad)
    | _ => .bad
abbrev runS (TH : Str → List (Str × Int) → List Sig) (rm : Mode) (io : Bool) (T : List Sig) (s : IS) : Slots → Out := runS' rm io TH T s
variable (TH : Str → List (Str × Int) → List Sig) (T : List Sig)
/-- a def's value: io, the slots' number, the body -/
def runF (n : Nat) (b : IS) (ds : List D) : R (D × D) :=
  match runS TH rm io T b (ds.map some ++ List.replicate (n - ds.length) none) with
  | .rt d ρ => .ok (d, if io then (gS ρ 0).getD .non else .non)
  | .nx ρ => (match retD rm io .non ρ with | .rt d ρ => .ok (d, if io then (gS ρ 0).getD .non else .non) | _ => .bad)
  | .exn c fs => .exn c fs
  | _ => .bad
end OS
namespace OS
open PySem PySem.Spec PyProof.Rows L2

/-! ### statements: the check -/
def dead : IS → Bool
  | .ret _ => true
  | .retM _ => true
  | .retN => true
  | .rai _ _ _ => true
  | .brk => true
  | .unr => true
  | .cnt => true
  | .seq s r => dead s || dead r
  | .ite _ a b => dead a && dead b
  | .tryR _ b h => dead b && dead h
  | .tryC _ _ _ _ _ h => dead h
  | _ => false
def nxtM : IS → List Mode → List Mode
  | .frz i, Γ => sM Γ i .no
  | .asgO i m _, Γ => sM Γ i m
  | .mv i m j _, Γ => sM (sM Γ j .no) i m
  | .thaw i, Γ => sM Γ i .all
  | .spl i, Γ => sM Γ i .no
  | .splI i _, Γ => sM Γ i .no
  | .seq s r, Γ => nxtM r (nxtM s Γ)
  | .ite _ a b, Γ => if dead a then nxtM b Γ else nxtM a Γ
  | _, Γ => Γ
/-- name = e: no swap of the name with a comprehension's own -/
def swN (sc : Scope) (x : Str) (p : Pos) : PySem.Expr → Bool
  | .ListComp _ _ s q => if decide (sc.names.lookup x = some .local) then (p.line == q.line && !(s.names.any fun (n, k) => n == x && (k == .local || k == .cell))) || (!(p.line == q.line)) || (s.names.any fun (n, k) => n == x && (k == .local || k == .cell)) else true
  | .SetComp _ _ _ _ => false
  | .DictComp _ _ _ _ _ => false
  | _ => true
def ntup : PySem.Expr → Bool
  | .Tuple _ _ _ => false
  | _ => true
def noZ (zi : Option Nat) (tg : List Nat) : Bool := tg.all fun i => decide (zi ≠ some i)
/-- y = x[k]; y.append(n) -/
def okI2 (sc : Scope) (c : SC) (zi : Option Nat) (Γ : List Mode) (j i : Nat) (k n : Int) : Stmt → Stmt → Bool
  | .Assign [.Name y p] (.Subscript (.Name x _) xk _) _, .Expr (.Call (.Attribute (.Name y' _) m ap) [.Constant (.int n') _ _] [] cp) _ =>
    okTgs c.N sc (cellFn sc) [j] [.Name y p] && (decide (c.N[i]? = some x) && (visB sc x && (decide (gM Γ i = .all) && (decide (gM Γ j = .no) && (decide (x ≠ "__debug__") && (decide (x ≠ "__classdict__") && (kcB k xk && (noZ zi [j] && (decide (i ≠ j) &&
      (decide (y' = y) && (visB sc y && (decide (y ≠ "__debug__") && (decide (y ≠ "__classdict__") && (decide (m = "append") && (decide (ap.endLine = cp.line) && decide (n' = n))))))))))))))))
  | _, _ => false
section
def ioT (io : Bool) (Γ : List Mode) : Bool := !io || decide (gM Γ 0 = .top)
mutual
def ok1 (sc : Scope) (c : SC) (rm : Mode) (io : Bool) (zi : Option Nat) (Tq : List Sig) (Γl Γ : List Mode) : IS → Stmt → List Mode → Bool
  | .ex e, .Expr x _, Γ' => decide (Γ' = Γ) && (ncomp x && okE c sc Γ e x)
  | .unr, _, _ => true
  | .mv i m j k, .Assign [.Name x p] (.Subscript (.Name y _) (.Constant (.int k') _ _) _) _, Γ' => decide (Γ' = sM (sM Γ j .no) i m) && (okTgs c.N sc (cellFn sc) [i] [.Name x p] && (decide (c.N[j]? = some y) && (visB sc y && (decide (gM Γ j = .all) && (decide (y ≠ "__debug__") && (decide (y ≠ "__classdict__") && (decide (k' = k) && (noZ zi [i] && (noZ zi [j] && (decide (i ≠ j) && decide (m = .all ∨ m = .top)))))))))))
  | .spl i, .Expr (.Call (.Name g _) [.Name x _] [] _) _, Γ' => decide (Γ' = sM Γ i .no) && (!c.hot && (decide (c.E = some g) && (glB sc g && (decide (c.N[i]? = some x) && (visB sc x && (decide (gM Γ i = .all) && (decide (x ≠ "__debug__") && (decide (x ≠ "__classdict__") && noZ zi [i]))))))))
  | .pass, .Expr (.Constant (.str _) _ _) _, Γ' => decide (Γ' = Γ)
  | .pass, .Pass _, Γ' => decide (Γ' = Γ)
  | .asg tg e, .Assign [.Tuple es k p] x _, Γ' => decide (Γ' = Γ) && (okTg c.N sc (cellFn sc) tg (.Tuple es k p) && (noM Γ tg && (okE c sc Γ e x && (ncomp x && (ntup x && !c.hot)))))
  | .asgO i m e, .Assign [.Name x p] xe _, Γ' => decide (Γ' = sM Γ i m) && (okTgs c.N sc (cellFn sc) [i] [.Name x p] && (okE c sc Γ e xe && ((ncomp xe || (swN sc x p xe && isComp e)) && (noZ zi [i] && decide (m = .no ∨ modeE c.T e = m ∨ (m = .top ∧ modeE c.T e = .all))))))
  | .setI i k v, .Assign [.Subscript (.Name x _) xk _] xv _, Γ' => decide (Γ' = Γ) && (decide (c.N[i]? = some x) && (visB sc x && (decide (gM Γ i = .top) && (decide (x ≠ "__debug__") && (decide (x ≠ "__classdict__") && (okE c sc Γ k xk && (nslice xk && (okE c sc Γ v xv && ncomp xv))))))))
  | .swp i k1 k2 v1 v2, .Assign [.Tuple [.Subscript (.Name x _) xk1 _, .Subscript (.Name x' _) xk2 _] _ _] (.Tuple xs _ _) _, Γ' => decide (Γ' = Γ) && (decide (c.N[i]? = some x) && (decide (x' = x) && (visB sc x && (decide (gM Γ i = .top) && (decide (x ≠ "__debug__") && (decide (x ≠ "__classdict__") && (okE c sc Γ k1 xk1 && (nslice xk1 && (okE c sc Γ k2 xk2 && (nslice xk2 && (okL c sc Γ (.cons v1 (.cons v2 .nil)) xs && !c.hot)))))))))))
  | .aug i o e, .AugAssign (.Name x p) op xe _, Γ' => decide (Γ' = Γ) && (decide (o = .add ∨ o = .sub) && opB o op && (okTgs c.N sc (cellFn sc) [i] [.Name x p] && (decide (gM Γ i = .no) && okE c sc Γ e xe)))
  | .ite t a b, .If xt xa xb _, Γ' => okT c sc Γ t xt && (okS sc c rm io zi Tq Γl Γ a xa Γ' && okS sc c rm io zi Tq Γl Γ b xb Γ')
  | .fr tg w b, .For xt xi xb [] _, Γ' => decide (Γ' = Γ) && (!c.hot && (okW c sc Γ w xi && (nset xi && (okTgW c.N sc (cellFn sc) w tg xt && (noM Γ tg && okS sc c rm io zi Tq Γ Γ b xb Γ)))))
  | .wh _ t b, .While xt xb [] _, Γ' => decide (Γ' = Γ) && (okT c sc Γ t xt && okS sc c rm io zi Tq Γ Γ b xb Γ)
  | .ret e, .Return (some x) _, _ => ioT io Γ && okE c sc Γ e x && decide (rm = .no ∨ modeE c.T e = rm ∨ (rm = .top ∧ modeE c.T e = .all))
  | .retM i, .Return (some (.Name x _)) _, _ => ioT io Γ && decide (c.N[i]? = some x) && (visB sc x && (decide (x ≠ "__debug__") && (decide (x ≠ "__classdict__") && (decide (rm = .no ∨ gM Γ i = rm ∨ (gM Γ i = .all ∧ rm = .top)) && noZ zi [i]))))
  | .retN, .Return none _, _ => ioT io Γ && decide (rm ≠ .top)
  | .rai cn fs as, .Raise (some (.Call (.Name x _) xs [] _)) none _, _ => !c.hot && (decide (x = cn) && (decide (c.X.lookup cn = some fs) && (glB sc x && (okL c sc Γ as xs && decide (xs.length = fs.length)))))
  | .tryR n b h, .Try xb [.ExceptHandler (some (.Name ce _)) (some en) (h₀ :: hs) _] [] [] _, Γ' => !c.hot && (!io && (decide (n = c.N.length ∧ Γ.length = n) && (decide (ce = "StraightError") && (glB sc ce && (decide (sc.names.lookup en = some .local) && (decide (en ∈ c.N ∧ evOf Tq = some en) && (dead h && (okS sc c rm io zi Tq Γl Γ b xb Γ' &&
      okS sc { c with hot := true, T := Tq } rm io (some (c.N.idxOf en)) [] [] (sM (noG Γ) (c.N.idxOf en) .top) h (h₀ :: hs) (nxtM h (sM (noG Γ) (c.N.idxOf en) .top))))))))))
  | .splI i k, .Expr (.Call (.Name g _) [.Subscript (.Name x _) (.Constant (.int k') _ _) _] [] _) _, Γ' => decide (Γ' = sM Γ i .no) && (!c.hot && (decide (c.E = some g) && (glB sc g && (decide (c.N[i]? = some x) && (visB sc x && (decide (gM Γ i = .all) && (decide (x ≠ "__debug__") && (decide (x ≠ "__classdict__") && (decide (k' = (k : Int)) && noZ zi [i])))))))))
  | .tryC n t j as k h, .Try [.Return (some (.Tuple [.Constant (.str t') _ _, .Call (.Name f _) (y :: ys) [] _] _ _)) _] [.ExceptHandler (some (.Name ce _)) (some en) (h₀ :: hs) _] [] [] _, Γ' => !c.hot && (!io && (decide (n = c.N.length ∧ Γ.length = n) && (decide (ce = "StraightError") && (glB sc ce && (decide (sc.names.lookup en = some .local) && (decide (en ∈ c.N ∧ evOf Tq = some en) && (dead h && (decide (t' = t) &&
      ((match c.T[j]? with | some s => decide (s.name = f) && (!s.io && (s.kw.isNone && decide (s.rm = .all))) | none => false) && (glB sc f && (okL c sc Γ as (y :: ys) && (decide (gM Γ k = .no) && (decide (k ≠ c.N.idxOf en) && (decide (rm = .no ∨ rm = .all) &&
      okS sc { c with hot := true, T := Tq } rm io (some (c.N.idxOf en)) [] [] (sM (noG Γ) (c.N.idxOf en) .top) h (h₀ :: hs) (nxtM h (sM (noG Γ) (c.N.idxOf en) .top))))))))))))))))
  | .brk, .Break _, _ => decide (Γ = Γl)
  | .cnt, .Continue _, _ => decide (Γ = Γl)
  | _, _, _ => false
def okS (sc : Scope) (c : SC) (rm : Mode) (io : Bool) (zi : Option Nat) (Tq : List Sig) (Γl Γ : List Mode) : IS → List Stmt → List Mode → Bool
  | .nil, [], Γ' => decide (Γ' = Γ)
  | .seq (.frz i) r, xs, Γ' => noZ zi [i] && okS sc c rm io zi Tq Γl (sM Γ i .no) r xs Γ'
  | .seq (.thaw i) r, xs, Γ' => noZ zi [i] && (decide (gM Γ i = .no) && okS sc c rm io zi Tq Γl (sM Γ i .all) r xs Γ')
  | .seq (.inn2 j i k n) r, x1 :: x2 :: xs, Γ' => okI2 sc c zi Γ j i k n x1 x2 && okS sc c rm io zi Tq Γl Γ r xs Γ'
  | .seq s r, x :: xs, Γ' => ok1 sc c rm io zi Tq Γl Γ s x (nxtM s Γ) && okS sc c rm io zi Tq Γl (nxtM s Γ) r xs Γ'
  | _, _, _ => false
end
end
/-! ### what is wanted behind a statement -/
section
def EndZ (K : PySem.W.Frag) (io : Bool) (z : Option (Nat × V × Hp)) (ρ' : Slots) (G' H' : Hp) (oz : List Addr) : Prop :=
  if io then ∃ v0 B d2, z = some (0, v0, B) ∧ gS ρ' 0 = some d2 ∧ Own K G' H' .top v0 d2 oz else oz = []
def SPo (K : PySem.W.Frag) (mg : Str → Option Value) (z : Option (Nat × V × Hp)) (W : WE0) (rm : Mode) (io : Bool) (Γl Γ' : List Mode) (o : Out) (G H : Hp) (os : List Addr) (D : Ends) : Prop :=
  match o with
  | .nx ρ' => ∀ σ' G' H' os', Stt K z Γ' G' H' σ' ρ' os' → Fr G H G' H' os → Sub H os os' → D.nx σ' H'
  | .bk ρ' => ∀ σ' G' H' os', Stt K z Γl G' H' σ' ρ' os' → Fr G H G' H' os → Sub H os os' → D.bk σ' H'
  | .ct ρ' => ∀ σ' G' H' os', Stt K z Γl G' H' σ' ρ' os' → Fr G H G' H' os → Sub H os os' → D.ct σ' H'
  | .rt d ρ' => ∀ v G' H' o oz, Own K G' H' rm v d o → EndZ K io z ρ' G' H' oz → (o ++ oz).Nodup → Fr G H G' H' os → Sub H os (o ++ oz) → D.rt v H'
  | .exn c fs => ∀ G' H' cls dd, ExD mg H' c fs cls dd → Fr G H G' H' os → W cls dd H'
  | .bad => False
variable {K : PySem.W.Frag} {mg : Str → Option Value} {z : Option (Nat × V × Hp)} {W : WE0} {rm : Mode} {io : Bool} {Γ Γl Γ' : List Mode} {G H G1 H1 : Hp} {os os1 : List Addr} {σ : L2.St} {ρ : Slots} {D : Ends}
theorem SPo.shift {o : Out} (f : Fr G H G1 H1 os) (s : Sub H os os1) (h : SPo K mg z W rm io Γl Γ' o G H os D) : SPo K mg z W rm io Γl Γ' o G1 H1 os1 D := by
  cases o with
  | nx ρ' => exact fun σ' G' H' os' st f' s' => h σ' G' H' os' st (f.trans f' s) (Sub.go f s s')
  | bk ρ' => exact fun σ' G' H' os' st f' s' => h σ' G' H' os' st (f.trans f' s) (Sub.go f s s')
  | ct ρ' => exact fun σ' G' H' os' st f' s' => h σ' G' H' os' st (f.trans f' s) (Sub.go f s s')
  | rt d ρ' => exact fun v G' H' o oz w e n f' s' => h v G' H' o oz w e n (f.trans f' s) (Sub.go f s s')
  | exn c fs => exact fun G' H' cls dd e f' => h G' H' cls dd e (f.trans f' s)
  | bad => exact h
theorem SPo.exec {α β : Type} {rel : Rel β α} {m : M α} {f : α → Slots → Out} (h : SPo K mg z W rm io Γl Γ' (exec1 m f ρ) G H os D) :
    GP K mg z Γ W rel (m ρ) G H os σ (fun b H1 => ∃ a G1 ρ1 os1 o1, Stt K z Γ G1 H1 σ ρ1 os1 ∧ rel G1 H1 b a o1 ∧ (o1 ++ os1).Nodup ∧ SPo K mg z W rm io Γl Γ' (f a ρ1) G1 H1 (o1 ++ os1) D) := by
  unfold exec1 at h
  cases e : m ρ with
  | ok a =>
    obtain ⟨a, ρ1⟩ := a
    rw [e] at h
    exact fun G' H' os' b o st hr nd f' s' => ⟨a, G', ρ1, os', o, st, hr, nd, SPo.shift f' s' h⟩
  | exn c fs => rw [e] at h; exact h
  | bad => rw [e] at h; exact h
/-- a statement's reading -/
def tS (T : List Sig) (TH : Str → List (Str × Int) → List Sig) (K : PySem.W.Frag) (mg : Str → Option Value) (z : Option (Nat × V × Hp)) (W : WE0) (rm : Mode) (io : Bool) (Γl Γ Γ' : List Mode) (s : IS) : TS :=
  fun D σ H => ∃ G ρ os, Stt K z Γ G H σ ρ os ∧ SPo K mg z W rm io Γl Γ' (runS TH rm io T s ρ) G H os D
end
theorem PS.imp {X : Cx} {x : Stmt} {t t' : TS} (h : PS X x t) (i : ∀ D σ H, σ.length = X.N.length → t' D σ H → t D σ H) : PS X x t' := ⟨fun pins s σ H D I q => h.run pins s σ H D I (i D σ H I.len q)⟩
theorem PSs.imp {X : Cx} {x : List Stmt} {t t' : TS} (h : PSs X x t) (i : ∀ D σ H, σ.length = X.N.length → t' D σ H → t D σ H) : PSs X x t' := ⟨fun pins s σ H D I q => h.run pins s σ H D I (i D σ H I.len q)⟩
/-- a class whose instances are made with ints and thrown: its fields in the order of its arguments -/
structure RaiAt (X : Cx) (cn : Str) (fs : List Str) : Prop where
  made0 : fs = [] → ∀ {p pos : Pos}, Gl X cn → (cn == ("__debug__" : Str)) = false →
    L2N.PMk X (.Call (.Name cn p) [] [] pos) (fun _ H Q => ∀ H' cls dd, ExD X.mg H' cn [] cls dd → (∀ a, (∃ u, H a = some u) → H' a = H a) → Q cls dd H')
  made : ∀ {p pos : Pos} {x : PySem.Expr} {xs : List PySem.Expr} {ta : TA}, Gl X cn → (cn == ("__debug__" : Str)) = false → PA X (x :: xs) ta → (x :: xs).length = fs.length → nstar x = true → (backTo pos (starEach xs X.env)).any (·.1) = false →
    L2N.PMk X (.Call (.Name cn p) (x :: xs) [] pos) (fun σ H Q => ta σ H fun vs H1 => ∃ ns : List Int, vs = ns.map V.int ∧ ns.length = fs.length ∧ ∀ H' cls dd, ExD X.mg H' cn (fs.zip ns).reverse cls dd → (∀ a, (∃ u, H1 a = some u) → H' a = H1 a) → Q cls dd H')
/-- what a try asks of a context -/
structure TryAt (c : SC) (TH : Str → List (Str × Int) → List Sig) (X : Cx) : Prop where
  stk : X.stack = X.env :: X.outer
  frm : X.env.frame = some X.env.locals
  ex : ∃ C, X.mg "StraightError" = some (.ref C) ∧ ∀ cn fs H cls dd, noE (TH cn fs) = false → ExD X.mg H cn fs cls dd → PySem.W.exmOne X.K cls (.ref C) = some true
  suite : ∀ (cn : Str) (fs : List (Str × Int)) (i : Nat) (en : Str) (a : Addr) (oe : Obj) (cls : Value) (dd : Option Addr) (pn : List (Addr × Obj)) (B : Hp), noE (TH cn fs) = false → evOf (TH cn fs) = some en → X.N[i]? = some en → ExD X.mg B cn fs cls dd → L2N.Zn cls dd oe → (∃ vs, oe.data = .fields vs) →
    Cok { c with hot := true, T := TH cn fs } (X.suite a ((a, oe) :: pn)) (some (i, .ref a, B))
/-- what a context of statements has -/
structure Cos (c : SC) (io : Bool) (TH : Str → List (Str × Int) → List Sig) (X : Cx) (z : Option (Nat × V × Hp)) (zi : Option Nat) : Prop where
  k : Cok c X z
  fnc : ∀ x, cellFn X.env.scope x = true → X.fn x = true
  pass : PassesOwn (model X.prog X.w) X.A X.env X.xe
  kind : X.env.scope.kind = .function
  zi : ∀ i v, z = some (i, v) → zi = some i
  zio : io = true → ∃ v B, z = some (0, v, B)
  rai : c.hot = false → ∀ cn fs, c.X.lookup cn = some fs → ∀ pn xe, RaiAt (X.tr pn xe) cn fs
  tr : c.hot = false → TryAt c TH X
  eat : c.hot = false → ∀ x, c.E = some x → ∃ lv, Room lv X.A ∧ SplAt X lv x
end OS
namespace OS
open PySem PySem.Spec PyProof.Rows L2

/-! ### modes given and taken -/
theorem gM_sM : ∀ {Γ : List Mode} {i j : Nat} {m : Mode}, i ≠ j → gM (sM Γ i m) j = gM Γ j
  | [], _, _, _, _ => rfl
  | _ :: _, 0, 0, _, h => absurd rfl h
  | _ :: _, 0, _ + 1, _, _ => rfl
  | _ :: _, _ + 1, 0, _, _ => rfl
  | _ :: r, i + 1, j + 1, m, h => by
    show gM (sM r i m) j = gM r j
    exact gM_sM fun e => h (by rw [e])
theorem sS_self : ∀ {ρ : Slots} {i : Nat} {d : D}, gS ρ i = some d → sS ρ i (some d) = ρ
  | [], _, _, _ => rfl
  | _ :: _, 0, _, h => by
    simp only [gS] at h
    rw [h]; rfl
  | s :: r, i + 1, d, h => by
    show s :: sS r i (some d) = _
    rw [sS_self (ρ := r) h]
section
variable {K : PySem.W.Frag} {z : Option (Nat × V × Hp)} {Γ : List Mode} {G H : Hp} {σ : L2.St} {ρ : Slots} {os : List Addr}
theorem Sl.remode (h : Sl K G H Γ σ ρ os) : ∀ {i : Nat} {m : Mode}, gS ρ i = none → Sl K G H (sM Γ i m) σ ρ os := by
  induction h with
  | nil => intro i m _; exact .nil
  | skip hs ih =>
    intro i m e
    cases i with
    | zero => exact .skip hs
    | succ i => exact .skip (ih e)
  | «at» ho hs ih =>
    intro i m e
    cases i with
    | zero => simp [gS] at e
    | succ i => exact .at ho (ih e)
theorem Sl.assignX (h : Sl K G H Γ σ ρ os) : ∀ {i : Nat} {m : Mode} {v : V} {d : D} {o : List Addr}, i < σ.length → Own K G H m v d o → ∃ os' od, (od ++ os').Perm (o ++ os) ∧ Sl K G H (sM Γ i m) (σ.set i (some v)) (sS ρ i (some d)) os' := by
  induction h with
  | nil => intro i m v d o hi; exact absurd hi (Nat.not_lt_zero _)
  | @skip m0 Γ x σ ρ os hs ih =>
    intro i m v d o hi f
    cases i with
    | zero => exact ⟨_, [], .refl _, .at f hs⟩
    | succ i =>
      obtain ⟨os', od, p, q⟩ := ih (i := i) (by simpa using hi) f
      exact ⟨os', od, p, .skip q⟩
  | @«at» m0 Γ v0 d0 σ ρ o0 os ho hs ih =>
    intro i m v d o hi f
    cases i with
    | zero =>
      refine ⟨_, o0, ?_, .at f hs⟩
      rw [← List.append_assoc, ← List.append_assoc]
      exact List.Perm.append_right os List.perm_append_comm
    | succ i =>
      obtain ⟨os', od, p, q⟩ := ih (i := i) (by simpa using hi) f
      refine ⟨o0 ++ os', od, ?_, .at ho q⟩
      rw [List.perm_iff_count] at p ⊢
      intro x
      have := p x
      simp only [List.count_append] at this ⊢
      omega
/-- a slot is owned no more -/
theorem Stt.frz1 (st : Stt K z Γ G H σ ρ os) {i : Nat} (hz : ∀ v, z ≠ some (i, v)) : ∃ G' os', Stt K z (sM Γ i .no) G' H σ ρ os' ∧ Fr G H G' H os ∧ Sub H os os' := by
  have zt : ∀ j v, z = some (j, v) → gM (sM Γ i .no) j ≠ .no := fun j v e => by
    rw [gM_sM fun q => hz v (by rw [q]; exact e)]
    exact st.zt j v e
  cases e : gS ρ i with
  | none => exact ⟨G, os, ⟨st.sl.remode e, st.nd, st.sm, zt, st.z, st.zb⟩, Fr.refl st.sm os, Sub.refl H os⟩
  | some d =>
    obtain ⟨v, o1, o, o2, h1, h2, h3, _, h5⟩ := st.sl.take e
    have nd := st.nd
    rw [h3] at nd
    have dj : ∀ a ∈ o1 ++ o2, a ∉ o := fun a q q' => by
      have c1 := List.nodup_iff_count.mp nd a
      simp only [List.count_append] at c1
      have c2 := List.count_pos_iff.mpr q'
      have c3 := List.count_pos_iff.mpr q
      simp only [List.count_append] at c3
      omega
    have fr : Fr G H (frz G H o) H o := ⟨frz_le st.sm, frz_same st.sm, fun a u hu n => ⟨hu, frz_out n⟩⟩
    have sl := h5 (m' := .no) (v' := v) (d' := d) (o' := []) fr dj ⟨h2.freeze st.sm, rfl⟩
    rw [set_self h1, sS_self e] at sl
    have sub : ∀ a ∈ o1 ++ [] ++ o2, a ∈ os := fun a q => by
      rw [h3]
      simp only [List.append_nil, List.mem_append] at q ⊢
      rcases q with q | q
      · exact .inl (.inl q)
      · exact .inr q
    refine ⟨frz G H o, o1 ++ [] ++ o2, ⟨sl, ?_, frz_same st.sm, zt, st.z, fun j v B q => (st.zb j v B q).trans (frz_le st.sm)⟩, ⟨fr.g, fr.s, fun a u hu n => fr.k a u hu fun q => n (by rw [h3]; simp [q])⟩, fun a q => .inl (sub a q)⟩
    rw [List.nodup_iff_count] at nd ⊢
    intro a
    have := nd a
    simp only [List.count_append, List.count_nil] at this ⊢
    omega
/-- what is owned one way, owned another -/
theorem own_to {m0 m : Mode} {v : V} {d : D} {o : List Addr} (h : Own K G H m0 v d o) (sm : Same G H) (nd : o.Nodup) (c : m = .no ∨ m0 = m ∨ (m = .top ∧ m0 = .all)) (hb : ¬ (m = .top ∧ isLst d = false)) :
    ∃ G' o', Own K G' H m v d o' ∧ (∀ a ∈ o', a ∈ o) ∧ o'.Nodup ∧ Fr G H G' H o := by
  rcases c with rfl | rfl | ⟨rfl, rfl⟩
  · exact ⟨frz G H o, [], ⟨h.freeze sm, rfl⟩, fun _ q => (nomatch q), List.nodup_nil, frz_le sm, frz_same sm, fun a u hu n => ⟨hu, frz_out n⟩⟩
  · exact ⟨G, o, h, fun _ q => q, nd, Fr.refl sm o⟩
  · cases d with
    | lst ds =>
      obtain ⟨a, os, rfl, w⟩ := OwA.top sm h nd
      exact ⟨frz G H os, [a], w, fun b q => by rw [List.mem_singleton.mp q]; simp, by simp, frz_le sm, frz_same sm, fun b u hu n => ⟨hu, frz_out fun q => n (List.mem_cons_of_mem _ q)⟩⟩
    | _ => exact absurd ⟨rfl, rfl⟩ hb
theorem Stt.assignX (st : Stt K z Γ G H σ ρ os) {i : Nat} {m : Mode} {v : V} {d : D} {o : List Addr} (hi : i < σ.length) (hz : ∀ v, z ≠ some (i, v)) (w : Own K G H m v d o) (nd : (o ++ os).Nodup) :
    ∃ os', Stt K z (sM Γ i m) G H (σ.set i (some v)) (sS ρ i (some d)) os' ∧ ∀ a ∈ os', a ∈ o ++ os := by
  obtain ⟨os', od, p, sl⟩ := st.sl.assignX hi w
  refine ⟨os', ⟨sl, ?_, st.sm, fun j v e => ?_, fun j v B e => ?_, st.zb⟩, fun a q => (p.mem_iff).mp (List.mem_append_right _ q)⟩
  · exact (List.nodup_append.mp ((p.nodup_iff).mpr nd)).2.1
  · rw [gM_sM fun q => hz v (by rw [q]; exact e)]
    exact st.zt j v e
  · rw [List.getElem?_set_ne fun q => hz (v, B) (by rw [q]; exact e)]
    exact st.z j v B e
end
theorem noZ_of {zi : Option Nat} {z : Option (Nat × V × Hp)} (hz : ∀ i v, z = some (i, v) → zi = some i) {i : Nat} (h : noZ zi [i] = true) : ∀ v, z ≠ some (i, v) := fun v e => by
  have := hz i v e
  simp [noZ, this] at h
theorem endZ_of {K : PySem.W.Frag} {io : Bool} {z : Option (Nat × V × Hp)} {Γ : List Mode} {G H : Hp} {σ : L2.St} {ρ : Slots} {os : List Addr} (st : Stt K z Γ G H σ ρ os) (h1 : ioT io Γ = true) (h2 : io = true → ∃ v B, z = some (0, v, B)) (h3 : ¬ (io = true ∧ (gS ρ 0).isNone = true)) :
    ∃ oz, EndZ K io z ρ G H oz ∧ (∀ a ∈ oz, a ∈ os) ∧ oz.Nodup := by
  cases io with
  | false => exact ⟨[], rfl, fun _ q => (nomatch q), List.nodup_nil⟩
  | true =>
    obtain ⟨v, B, ez⟩ := h2 rfl
    simp only [ioT, Bool.not_true, Bool.false_or, decide_eq_true_eq] at h1
    cases e : gS ρ 0 with
    | none => exact absurd ⟨rfl, by rw [e]; rfl⟩ h3
    | some d =>
      obtain ⟨a, vs, ds, e1, rfl, ha, fl, ain, hw, _⟩ := st.top e h1
      have e2 := st.z 0 v B ez
      rw [e1] at e2
      cases e2
      exact ⟨[a], ⟨_, B, _, ez, e, hw⟩, fun b q => by rw [List.mem_singleton.mp q]; exact ain, by simp⟩
theorem sw_no {x : Str} {p : Pos} {e : PySem.Expr} {l : Nat} {env : Env} (h : ncomp e = true) : swapsWith e (some (.Name x p)) l env = pure false := by
  cases e <;> first | rfl | (simp [ncomp] at h)
theorem sw_noN {e : PySem.Expr} {l : Nat} {env : Env} (h : ncomp e = true) : swapsWith e none l env = pure false := by
  cases e <;> first | rfl | (simp [ncomp] at h)
theorem sw_noT {e t : PySem.Expr} {l : Nat} {env : Env} (h : ncomp e = true) : swapsWith e (some t) l env = pure false := by
  cases e <;> first | rfl | (simp [ncomp] at h)
theorem sws_no {e t : PySem.Expr} {l : Nat} {env : Env} (h : ncomp e = true) : swapsWithSole [t] e l env = pure false := by
  cases e <;> first | rfl | (simp [ncomp] at h)
theorem ss_no {es : List PySem.Expr} {k : Nat} {p : Pos} {e : PySem.Expr} {env : Env} (h : ntup e = true) : swappedStores [.Tuple es k p] e env = pure none := by
  cases e <;> first | rfl | (simp [ntup] at h)
end OS
namespace OS
open PySem PySem.Spec PyProof.Rows L2
variable {c : SC} {rm : Mode} {io : Bool} {zi : Option Nat} {TH : Str → List (Str × Int) → List Sig}

def SS1 (c : SC) (rm : Mode) (io : Bool) (zi : Option Nat) (TH : Str → List (Str × Int) → List Sig) (s : IS) : Prop := ∀ (X : Cx) (Γl Γ Γ' : List Mode) (z : Option (Nat × V × Hp)) (W : WE0) (x : Stmt), Cos c io TH X z zi → (∀ cn fs, ok1 X.env.scope c rm io zi (TH cn fs) Γl Γ s x Γ' = true) → TkX X W →
  PS X x (tS c.T TH X.K X.mg z W rm io Γl Γ Γ' s)
def SSL (c : SC) (rm : Mode) (io : Bool) (zi : Option Nat) (TH : Str → List (Str × Int) → List Sig) (s : IS) : Prop := ∀ (X : Cx) (Γl Γ Γ' : List Mode) (z : Option (Nat × V × Hp)) (W : WE0) (x : List Stmt), Cos c io TH X z zi → (∀ cn fs, okS X.env.scope c rm io zi (TH cn fs) Γl Γ s x Γ' = true) → TkX X W →
  PSs X x (tS c.T TH X.K X.mg z W rm io Γl Γ Γ' s)
theorem SS1.triv {s : IS} (h : ∀ sc Tq Γl Γ x Γ', ok1 sc c rm io zi Tq Γl Γ s x Γ' = false) : SS1 c rm io zi TH s := fun X Γl Γ Γ' z W x _ o _ => by
  have o := o "" []
  rw [h] at o; cases o
theorem SSL.triv {s : IS} (h : ∀ sc Tq Γl Γ x Γ', okS sc c rm io zi Tq Γl Γ s x Γ' = false) : SSL c rm io zi TH s := fun X Γl Γ Γ' z W x _ o _ => by
  have o := o "" []
  rw [h] at o; cases o

theorem ssl_nil : SSL c rm io zi TH .nil := by
  intro X Γl Γ Γ' z W x k okA t
  have ok := okA "" []
  cases x with
  | cons _ _ => simp [okS] at ok
  | nil =>
    simp only [okS, decide_eq_true_eq] at ok
    subst ok
    refine PSs.imp pss_nil fun D σ H hl q => ?_
    obtain ⟨G, ρ, os, st, h⟩ := q
    exact h σ G H os st (Fr.refl st.sm os) (Sub.refl H os)
theorem ssl_frz {i : Nat} {r : IS} (hr : SSL c rm io zi TH r) : SSL c rm io zi TH (.seq (.frz i) r) := by
  intro X Γl Γ Γ' z W x k okA t
  have ok := okA "" []
  have okB : ∀ cn fs, (noZ zi [i] && okS X.env.scope c rm io zi (TH cn fs) Γl (sM Γ i .no) r x Γ') = true := fun cn fs => by
    have := okA cn fs
    cases x <;> exact this
  simp only [Bool.and_eq_true] at okB
  have ok := okB "" []
  refine PSs.imp (hr X Γl _ Γ' z W x k (fun cn fs => (okB cn fs).2) t) fun D σ H hl q => ?_
  obtain ⟨G, ρ, os, st, h⟩ := q
  obtain ⟨G', os', st', fr, sb⟩ := st.frz1 (noZ_of k.zi ok.1)
  exact ⟨G', ρ, os', st', SPo.shift fr sb h⟩
/-- one statement, then the rest -/
theorem ssl_seq {s r : IS} (hs : SS1 c rm io zi TH s) (hr : SSL c rm io zi TH r) (hn : ∀ i, s ≠ .frz i) (hn1 : ∀ i, s ≠ .thaw i) (hn2 : ∀ j i k n, s ≠ .inn2 j i k n) : SSL c rm io zi TH (.seq s r) := by
  intro X Γl Γ Γ' z W x k okA t
  have ok := okA "" []
  cases x with
  | nil => cases s <;> first | (exact absurd rfl (hn _)) | (exact absurd rfl (hn1 _)) | (exact absurd rfl (hn2 _ _ _ _)) | (simp [okS] at ok)
  | cons x xs =>
    have okB : ∀ cn fs, (ok1 X.env.scope c rm io zi (TH cn fs) Γl Γ s x (nxtM s Γ) && okS X.env.scope c rm io zi (TH cn fs) Γl (nxtM s Γ) r xs Γ') = true := fun cn fs => by
      have := okA cn fs
      cases s <;> first | (exact absurd rfl (hn _)) | (exact absurd rfl (hn1 _)) | (exact absurd rfl (hn2 _ _ _ _)) | exact this
    simp only [Bool.and_eq_true] at okB
    refine PSs.imp (pss_cons (hs X Γl Γ _ z W x k (fun cn fs => (okB cn fs).1) t) (hr X Γl _ Γ' z W xs k (fun cn fs => (okB cn fs).2) t)) fun D σ H hl q => ?_
    obtain ⟨G, ρ, os, st, h⟩ := q
    refine ⟨G, ρ, os, st, ?_⟩
    have h : SPo X.K X.mg z W rm io Γl Γ' (match runS TH rm io c.T s ρ with | .nx ρ1 => runS TH rm io c.T r ρ1 | o => o) G H os D := h
    cases e : runS TH rm io c.T s ρ with
    | nx ρ1 =>
      rw [e] at h
      intro σ1 G1 H1 os1 st1 fr sb
      exact ⟨G1, ρ1, os1, st1, SPo.shift fr sb h⟩
    | bk ρ1 => rw [e] at h; exact h
    | ct ρ1 => rw [e] at h; exact h
    | rt d ρ1 => rw [e] at h; exact h
    | exn cc fs => rw [e] at h; exact h
    | bad => rw [e] at h; exact h
theorem ss_ex {e : IE} (he : SE c e) : SS1 c rm io zi TH (.ex e) := by
  intro X Γl Γ Γ' z W x k okA t
  have ok := okA "" []
  cases x <;> try (simp only [ok1, Bool.false_eq_true] at ok; done)
  rename_i x p
  simp only [ok1, Bool.and_eq_true, decide_eq_true_eq] at ok
  obtain ⟨rfl, h1, h2⟩ := ok
  refine PS.imp (ps_expr (he X _ z W x k.k h2 t) (sw_noN h1)) fun D σ H hl q => ?_
  obtain ⟨G, ρ, os, st, h⟩ := q
  refine ⟨G, ρ, os, st, (SPo.exec h).mono fun _ H1 _ v _ _ _ _ _ _ _ _ _ q => ?_⟩
  obtain ⟨d, G1, ρ1, os1, o1, st1, _, nd, h1⟩ := q
  exact h1 σ G1 H1 os1 st1 (Fr.refl st1.sm _) fun a q => .inl (List.mem_append_right _ q)
theorem ss_pass : SS1 c rm io zi TH .pass := by
  intro X Γl Γ Γ' z W x k okA t
  have ok := okA "" []
  have fin : ∀ {D σ H}, Γ' = Γ → tS c.T TH X.K X.mg z W rm io Γl Γ Γ' .pass D σ H → tNext D σ H := fun e q => by
    subst e
    obtain ⟨G, ρ, os, st, h⟩ := q
    exact h _ G _ os st (Fr.refl st.sm os) (Sub.refl _ os)
  cases x <;> try (simp only [ok1, Bool.false_eq_true] at ok; done)
  · rename_i x p
    cases x <;> try (simp only [ok1, Bool.false_eq_true] at ok; done)
    rename_i v j p'
    cases v <;> try (simp only [ok1, Bool.false_eq_true] at ok; done)
    simp only [ok1, decide_eq_true_eq] at ok
    exact PS.imp ps_doc fun D σ H _ q => fin ok q
  · simp only [ok1, decide_eq_true_eq] at ok
    exact PS.imp ps_pass fun D σ H _ q => fin ok q
theorem okTgs_lt {N : List Str} {sc : Scope} {fn : Str → Bool} : ∀ {tg : List Nat} {es : List PySem.Expr}, okTgs N sc fn tg es = true → ∀ i ∈ tg, i < N.length
  | [], _, _, _, h => nomatch h
  | i :: r, .Name x _ :: es, h, j, hj => by
    simp only [okTgs, Bool.and_eq_true, decide_eq_true_eq] at h
    rcases List.mem_cons.mp hj with rfl | hj
    · exact (List.getElem?_eq_some_iff.mp h.1.1).1
    · exact okTgs_lt h.2 j hj
theorem okTg_lt {N : List Str} {sc : Scope} {fn : Str → Bool} {tg : List Nat} {x : PySem.Expr} (h : okTg N sc fn tg x = true) : ∀ i ∈ tg, i < N.length := by
  match tg, x, h with
  | [i], .Name x p, h => exact okTgs_lt (tg := [i]) (es := [.Name x p]) (by simpa [okTg] using h)
  | i :: j :: r, .Tuple es k p, h => exact okTgs_lt (by simpa [okTg] using h)
theorem ss_asg {tg : List Nat} {e : IE} (he : SE c e) : SS1 c rm io zi TH (.asg tg e) := by
  intro X Γl Γ Γ' z W x k okA t
  have ok := okA "" []
  cases x <;> try (simp only [ok1, Bool.false_eq_true] at ok; done)
  rename_i ts x p
  obtain ⟨es, kk, pt, rfl⟩ : ∃ es kk pt, ts = ((.Tuple es kk pt) :: []) := by
    cases ts <;> try exact absurd (show false = true from ok) Bool.false_ne_true
    rename_i q1_ q2_
    cases q1_ <;> try exact absurd (show false = true from ok) Bool.false_ne_true
    rename_i q3_ q4_ q5_
    cases q2_ <;> try exact absurd (show false = true from ok) Bool.false_ne_true
    exact ⟨_, _, _, rfl⟩
  simp only [ok1, Bool.and_eq_true, decide_eq_true_eq] at ok
  obtain ⟨rfl, h1, h2, h3, h4, h5, hh⟩ := ok
  have hh : c.hot = false := by simpa using hh
  have hN : X.N.Nodup := by rw [k.k.N]; exact k.k.nd
  have hm := noM_of h2
  have hg := pg_of (X := X) (k.k.calm hh) hN k.fnc (by rw [k.k.N]; exact h1)
  refine PS.imp (ps_asg (pos := p) (he.F (z := z) k.k h3 t) hg (sws_no h4) (ss_no h5)) fun D σ H hl q => ?_
  obtain ⟨G, ρ, os, st, h⟩ := q
  refine ⟨G, ρ, os, st, (SPo.exec h).mono fun _ H1 _ v _ _ _ _ _ _ _ _ _ q => ?_⟩
  obtain ⟨d, G1, ρ1, os1, o1, st1, ⟨f, eo⟩, nd, h1'⟩ := q
  subst eo
  cases es' : setT tg d ρ1 with
  | none => rw [es'] at h1'; exact h1'.elim
  | some ρ2 =>
    rw [es'] at h1'
    have hlt := okTg_lt h1
    exact tgG_ok st1 f es' hm (fun i hi => by rw [hl, k.k.N]; exact hlt i hi) fun σ2 st2 _ _ => h1' σ2 G1 H1 os1 st2 (Fr.refl st2.sm _) (Sub.refl _ _)
theorem ss_asgO {i : Nat} {m : Mode} {e : IE} (he : Snd c e) : SS1 c rm io zi TH (.asgO i m e) := by
  intro X Γl Γ Γ' z W x k okA t
  have ok := okA "" []
  cases x <;> try (simp only [ok1, Bool.false_eq_true] at ok; done)
  rename_i ts xe p
  obtain ⟨x, px, rfl⟩ : ∃ x px, ts = ((.Name x px) :: []) := by
    cases ts <;> try exact absurd (show false = true from ok) Bool.false_ne_true
    rename_i q1_ q2_
    cases q1_ <;> try exact absurd (show false = true from ok) Bool.false_ne_true
    rename_i q3_ q4_
    cases q2_ <;> try exact absurd (show false = true from ok) Bool.false_ne_true
    exact ⟨_, _, rfl⟩
  simp only [ok1, Bool.and_eq_true, decide_eq_true_eq] at ok
  obtain ⟨rfl, h1, h2, h3, h4, h5⟩ := ok
  have hN : X.N.Nodup := by rw [k.k.N]; exact k.k.nd
  have hlt := okTgs_lt h1 i (by simp)
  simp only [okTgs, Bool.and_eq_true, decide_eq_true_eq, Bool.or_eq_true] at h1
  obtain ⟨⟨hx1, hx2⟩, _⟩ := h1
  have hxN : X.N[i]? = some x := by rw [k.k.N]; exact hx1
  have hloc : Loc X.env.scope x := hx2.elim .inl fun q => .inr q.1
  have hfn : X.fn x = true ∨ X.env.scope.names.lookup x = some .local := hx2.elim .inr fun q => .inl (k.fnc x q.2)
  have fin : ∀ D σ H, σ.length = X.N.length → tS c.T TH X.K X.mg z W rm io Γl Γ (sM Γ i m) (.asgO i m e) D σ H → tAsg (tG X.K X.mg z Γ W (rO X.K (modeE c.T e)) (runE c.T e)) (gName i) D σ H := fun D σ H hl q => by
    obtain ⟨G, ρ, os, st, h⟩ := q
    refine ⟨G, ρ, os, st, (SPo.exec h).mono fun _ H1 _ v _ _ _ _ _ _ _ _ _ q => ?_⟩
    obtain ⟨d, G1, ρ1, os1, o1, st1, w, nd, h1'⟩ := q
    by_cases hb : m = .top ∧ isLst d = false
    · rw [if_pos hb] at h1'; exact h1'.elim
    · rw [if_neg hb] at h1'
      obtain ⟨n1, n2, n3⟩ := List.nodup_append.mp nd
      obtain ⟨G2, o2, w2, sub, nd2, fr⟩ := own_to w st1.sm n1 h5 hb
      have st2 := st1.frame fr fun a q q' => n3 a q' a q rfl
      have nd3 : (o2 ++ os1).Nodup := List.nodup_append.mpr ⟨nd2, n2, fun a ha b hb => n3 a (sub a ha) b hb⟩
      obtain ⟨os3, st3, sub3⟩ := st2.assignX (i := i) (by rw [hl, k.k.N]; exact hlt) (noZ_of k.zi h4) w2 nd3
      refine h1' _ G2 H1 os3 st3 (fr.weak fun a q => List.mem_append_left _ q) fun a q => .inl ?_
      rcases List.mem_append.mp (sub3 a q) with q | q
      · exact List.mem_append_left _ (sub a q)
      · exact List.mem_append_right _ q
  by_cases hc : ncomp xe = true
  · exact PS.imp (ps_set (pos := p) (pos' := px) hN hxN hloc (he.E X Γ z W xe k.k h2 t) (sw_no hc) hfn) fin
  · have hc' : ncomp xe = false := by simpa using hc
    rw [hc', Bool.false_or, Bool.and_eq_true] at h3
    obtain ⟨h3, hcs⟩ := h3
    cases xe <;> first | (exact absurd rfl hc) | (simp [swN] at h3; done) | skip
    rename_i elt gs sc2 q2
    have plain : swapsWith (.ListComp elt gs sc2 q2) (some (.Name x px)) p.line X.env = pure false → _ := fun hs => PS.imp (ps_set (pos := p) (pos' := px) hN hxN hloc (he.E X Γ z W _ k.k h2 t) hs hfn) fin
    by_cases hx : X.env.scope.names.lookup x = some .local
    · simp only [swN, hx, decide_true, if_true] at h3
      by_cases hl : (px.line == q2.line) = true
      · cases ha : (sc2.names.any fun (n, k) => n == x && (k == .local || k == .cell)) with
        | false =>
          have hs := sw_true (elt := elt) (gs := gs) (pos := q2) (py := px) (l := p.line) k.kind hx hl ha
          obtain ⟨tt, _, ps, im⟩ := he.cs hcs X Γ z W _ k.k h2 t
          refine PS.imp (ps hxN hx hs) fun D σ H hl q => im _ _ _ hl (fin D σ H hl q)
        | true =>
          refine plain ?_
          unfold swapsWith
          simp [ha]
      · refine plain ?_
        have hl : (px.line == q2.line) = false := by simpa using hl
        unfold swapsWith
        simp only [Expr.pos, hl, Bool.and_false, Bool.false_and]
    · refine plain ?_
      have ky : (X.env.kindOf x == some .local) = false := by
        rw [beq_eq_false_iff_ne]
        exact hx
      unfold swapsWith
      simp only [ky, Bool.and_false, Bool.false_and]
theorem ss_ite {t : IE} {a b : IS} (ht : ST c t) (ha : SSL c rm io zi TH a) (hb : SSL c rm io zi TH b) : SS1 c rm io zi TH (.ite t a b) := by
  intro X Γl Γ Γ' z W x k okA tk
  have ok := okA "" []
  cases x <;> try (simp only [ok1, Bool.false_eq_true] at ok; done)
  rename_i xt xa xb p
  simp only [ok1, Bool.and_eq_true] at ok okA
  refine PS.imp (ps_if (ht X Γ z W xt k.k ok.1 tk) (ha X Γl Γ Γ' z W xa k (fun cn fs => (okA cn fs).2.1) tk) (hb X Γl Γ Γ' z W xb k (fun cn fs => (okA cn fs).2.2) tk)) fun D σ H hl q => ?_
  obtain ⟨G, ρ, os, st, h⟩ := q
  refine ⟨G, ρ, os, st, (SPo.exec (rel := rB) h).mono fun _ H1 _ v _ _ _ _ _ _ _ _ _ q => ?_⟩
  obtain ⟨d, G1, ρ1, os1, o1, st1, ⟨e1, eo⟩, nd, h1'⟩ := q
  subst e1; subst eo
  cases v with
  | true => exact ⟨G1, ρ1, os1, st1, h1'⟩
  | false => exact ⟨G1, ρ1, os1, st1, h1'⟩
theorem ss_brk : SS1 c rm io zi TH .brk := by
  intro X Γl Γ Γ' z W x k okA t
  have ok := okA "" []
  cases x <;> try (simp only [ok1, Bool.false_eq_true] at ok; done)
  simp only [ok1, decide_eq_true_eq] at ok
  subst ok
  refine PS.imp ps_break fun D σ H hl q => ?_
  obtain ⟨G, ρ, os, st, h⟩ := q
  exact h σ G H os st (Fr.refl st.sm os) (Sub.refl H os)
theorem ss_cnt : SS1 c rm io zi TH .cnt := by
  intro X Γl Γ Γ' z W x k okA t
  have ok := okA "" []
  cases x <;> try (simp only [ok1, Bool.false_eq_true] at ok; done)
  simp only [ok1, decide_eq_true_eq] at ok
  subst ok
  refine PS.imp ps_continue fun D σ H hl q => ?_
  obtain ⟨G, ρ, os, st, h⟩ := q
  exact h σ G H os st (Fr.refl st.sm os) (Sub.refl H os)
/-- the end with a value -/
theorem ret_fin {X : Cx} {Γ Γl Γ' : List Mode} {z : Option (Nat × V × Hp)} {W : WE0} {De : Ends} {G H : Hp} {σ : L2.St} {ρ : Slots} {os o : List Addr} {m : Mode} {v : V} {d : D} (hio : ioT io Γ = true) (hz : io = true → ∃ v B, z = some (0, v, B)) (st : Stt X.K z Γ G H σ ρ os) (w : Own X.K G H m v d o) (nd : (o ++ os).Nodup)
    (hm : rm = .no ∨ m = rm ∨ (rm = .top ∧ m = .all)) (h : SPo X.K X.mg z W rm io Γl Γ' (retD rm io d ρ) G H (o ++ os) De) : De.rt v H := by
  unfold retD at h
  by_cases hb : rm = .top ∧ isLst d = false
  · rw [if_pos hb] at h; exact h.elim
  · rw [if_neg hb] at h
    by_cases hc : io = true ∧ (gS ρ 0).isNone = true
    · rw [if_pos hc] at h; exact h.elim
    · rw [if_neg hc] at h
      obtain ⟨n1, n2, n3⟩ := List.nodup_append.mp nd
      obtain ⟨G2, o2, w2, sub, nd2, fr⟩ := own_to w st.sm n1 hm hb
      have st2 := st.frame fr fun a q q' => n3 a q' a q rfl
      obtain ⟨oz, ez, sz, ndz⟩ := endZ_of st2 hio hz hc
      refine h v G2 H o2 oz w2 ez (List.nodup_append.mpr ⟨nd2, ndz, fun a ha b hb => n3 a (sub a ha) b (sz b hb)⟩) (fr.weak fun a q => List.mem_append_left _ q) fun a q => .inl ?_
      rcases List.mem_append.mp q with q | q
      · exact List.mem_append_left _ (sub a q)
      · exact List.mem_append_right _ (sz a q)
theorem ss_ret {e : IE} (he : SE c e) : SS1 c rm io zi TH (.ret e) := by
  intro X Γl Γ Γ' z W x k okA t
  have ok := okA "" []
  cases x <;> try (simp only [ok1, Bool.false_eq_true] at ok; done)
  rename_i o p
  cases o <;> try (simp only [ok1, Bool.false_eq_true] at ok; done)
  rename_i x
  simp only [ok1, Bool.and_eq_true, decide_eq_true_eq] at ok
  obtain ⟨⟨h1, h2⟩, h3⟩ := ok
  refine PS.imp (ps_ret (he X Γ z W x k.k h2 t)) fun D σ H hl q => ?_
  obtain ⟨G, ρ, os, st, h⟩ := q
  refine ⟨G, ρ, os, st, (SPo.exec h).mono fun _ H1 _ v _ _ _ _ _ _ _ _ _ q => ?_⟩
  obtain ⟨d, G1, ρ1, os1, o1, st1, w, nd, h1'⟩ := q
  exact ret_fin h1 k.zio st1 w nd h3 h1'
theorem ss_retN : SS1 c rm io zi TH .retN := by
  intro X Γl Γ Γ' z W x k okA t
  have ok := okA "" []
  cases x <;> try (simp only [ok1, Bool.false_eq_true] at ok; done)
  rename_i o p
  cases o <;> try (simp only [ok1, Bool.false_eq_true] at ok; done)
  simp only [ok1, Bool.and_eq_true, decide_eq_true_eq] at ok
  obtain ⟨h1, h2⟩ := ok
  refine PS.imp ps_retN fun D σ H hl q => ?_
  obtain ⟨G, ρ, os, st, h⟩ := q
  refine ret_fin (m := .all) (o := []) h1 k.zio st .non st.nd ?_ h
  cases rm with
  | no => exact .inl rfl
  | top => exact absurd rfl h2
  | all => exact .inr (.inl rfl)
end OS
namespace OS
open PySem PySem.Spec PyProof.Rows L2
variable {c : SC} {rm : Mode} {io : Bool} {zi : Option Nat} {TH : Str → List (Str × Int) → List Sig}

theorem ss_for {tg : List Nat} {w : IE} {b : IS} (hw : SW c w) (hb : SSL c rm io zi TH b) : SS1 c rm io zi TH (.fr tg w b) := by
  intro X Γl Γ Γ' z W x k okA t
  have ok := okA "" []
  cases x <;> try (simp only [ok1, Bool.false_eq_true] at ok; done)
  rename_i xt xi xb xo p
  match xo, ok, okA with
  | [], ok, okA =>
    simp only [ok1, Bool.and_eq_true, decide_eq_true_eq] at ok okA
    obtain ⟨rfl, hh, h1, h2, h3w, h4, _⟩ := ok
    have h3 := okTgW.one h3w
    have h5 := fun cn fs => (okA cn fs).2.2.2.2.2.2
    have hh : c.hot = false := by simpa using hh
    have hN : X.N.Nodup := by rw [k.k.N]; exact k.k.nd
    have hm := noM_of h4
    have hlt := okTg_lt h3
    have hg := pg_of (X := X) (k.k.calm hh) hN k.fnc (by rw [k.k.N]; exact h3)
    refine PS.imp (ps_for k.pass (k.k.calm hh) (hw X Γ' z W xt xi k.k (okTgW.en h3w) h1 t) hg (hb X Γ' Γ' Γ' z W xb k h5 t) (fold_of h2)) fun D σ H hl q => ?_
    obtain ⟨G, ρ, os, st, h⟩ := q
    refine ⟨G, ρ, os, st, (SPo.exec (rel := rW X.K) h).mono fun _ H1 _ J _ _ _ _ _ _ _ _ _ q => ?_⟩
    obtain ⟨ds, G1, ρ1, os1, o1, st1, ⟨wk, eo⟩, nd, h1'⟩ := q
    subst eo
    have hΓ : Γ'.length = c.N.length := by
      have := st.sl.len
      rw [k.k.N] at hl
      omega
    refine ⟨fun i m σ H => m = ds.length - i ∧ i ≤ ds.length ∧ ∃ G ρ os, Same G1 G ∧ Stt X.K z Γ' G H σ ρ os ∧ SPo X.K X.mg z W rm io Γl Γ' (forL tg (runS TH rm io c.T b) (ds.drop i) ρ) G H os D, ⟨ds.length, by simp, Nat.zero_le _, G1, ρ1, os1, Same.refl _, st1, h1'⟩, ?_⟩
    rintro i m σ2 H2 ⟨rfl, hi, G2, ρ2, os2, s2, st2, h2'⟩
    by_cases hlt' : i < ds.length
    · refine .inr ⟨wk.go i H2 hlt' (s2.trans st2.sm), fun σ' H' => ∃ G ρ os, Same G1 G ∧ Stt X.K z Γ' G H' σ' ρ os ∧ SPo X.K X.mg z W rm io Γl Γ' (forL tg (runS TH rm io c.T b) (ds.drop (i + 1)) ρ) G H' os D, fun σ' H' n => ⟨ds.length - (i + 1), by omega, rfl, hlt', n⟩, fun x H' y => ?_⟩
      rw [List.drop_eq_getElem_cons hlt'] at h2'
      obtain ⟨G3, fr3, fx⟩ := wk.yld i ds[i] G2 H2 x H' (List.getElem?_eq_getElem hlt') s2 st2.sm y
      have st3 := st2.frame fr3 fun _ _ q => nomatch q
      have h3' := SPo.shift (fr3.weak (os' := os2) fun _ q => nomatch q) (Sub.refl _ _) h2'
      have h3' : SPo X.K X.mg z W rm io Γl Γ' (match setT tg ds[i] ρ2 with
        | none => .bad
        | some ρ1 => match runS TH rm io c.T b ρ1 with
          | .nx ρ2 => forL tg (runS TH rm io c.T b) (ds.drop (i + 1)) ρ2
          | .ct ρ2 => forL tg (runS TH rm io c.T b) (ds.drop (i + 1)) ρ2
          | .bk ρ2 => .nx ρ2
          | o => o) G3 H' os2 D := h3'
      cases es : setT tg ds[i] ρ2 with
      | none => rw [es] at h3'; exact h3'.elim
      | some ρ3 =>
        rw [es] at h3'
        refine tgG_ok st3 fx es hm (fun j hj => ?_) fun σ4 st4 _ _ => ⟨G3, ρ3, os2, st4, ?_⟩
        · have := st3.sl.len
          have := hlt j hj
          omega
        simp only at h3'
        cases er : runS TH rm io c.T b ρ3 with
        | nx ρ5 =>
          rw [er] at h3'
          exact fun σ' G' H'' os' st' fr sb => ⟨G', ρ5, os', s2.trans (fr3.g.trans fr.g), st', SPo.shift fr sb h3'⟩
        | ct ρ5 =>
          rw [er] at h3'
          exact fun σ' G' H'' os' st' fr sb => ⟨G', ρ5, os', s2.trans (fr3.g.trans fr.g), st', SPo.shift fr sb h3'⟩
        | bk ρ5 => rw [er] at h3'; exact h3'
        | rt d ρ5 => rw [er] at h3'; exact h3'
        | exn cc fs => rw [er] at h3'; exact h3'
        | bad => rw [er] at h3'; exact h3'
    · have e : i = ds.length := by omega
      subst e
      rw [List.drop_length] at h2'
      exact .inl ⟨wk.stop _ H2 (Nat.le_refl _) (s2.trans st2.sm), h2' σ2 G2 H2 os2 st2 (Fr.refl st2.sm _) (Sub.refl _ _)⟩
  | _ :: _, ok, _ => simp [ok1] at ok
theorem whL_exec {t : M Bool} {body : Slots → Out} {n : Nat} {ρ : Slots} : whL t body (n + 1) ρ = exec1 t (fun r ρ1 => if r then (match body ρ1 with
      | .nx ρ2 => whL t body n ρ2
      | .ct ρ2 => whL t body n ρ2
      | .bk ρ2 => .nx ρ2
      | o => o) else .nx ρ1) ρ := by
  unfold exec1
  show (match t ρ with
    | .ok (true, ρ1) => _
    | .ok (false, ρ1) => _
    | .exn c fs => _
    | .bad => _) = _
  cases t ρ with
  | ok a =>
    obtain ⟨b, ρ1⟩ := a
    cases b <;> rfl
  | exn c fs => rfl
  | bad => rfl
theorem ss_wh {n : Nat} {t : IE} {b : IS} (ht : ST c t) (hb : SSL c rm io zi TH b) : SS1 c rm io zi TH (.wh n t b) := by
  intro X Γl Γ Γ' z W x k okA tk
  have ok := okA "" []
  cases x <;> try (simp only [ok1, Bool.false_eq_true] at ok; done)
  rename_i xt xb xo p
  match xo, ok, okA with
  | [], ok, okA =>
    simp only [ok1, Bool.and_eq_true, decide_eq_true_eq] at ok okA
    obtain ⟨rfl, h1, _⟩ := ok
    have h2 := fun cn fs => (okA cn fs).2.2
    refine PS.imp (ps_while k.pass (ht X Γ' z W xt k.k h1 tk) (hb X Γ' Γ' Γ' z W xb k h2 tk)) fun D σ H hl q => ?_
    obtain ⟨G, ρ, os, st, h⟩ := q
    refine ⟨fun m σ H => ∃ G ρ os, Stt X.K z Γ' G H σ ρ os ∧ SPo X.K X.mg z W rm io Γl Γ' (whL (runT c.T t) (runS TH rm io c.T b) m ρ) G H os D, ⟨n, G, ρ, os, st, h⟩, ?_⟩
    rintro m σ2 H2 ⟨G2, ρ2, os2, st2, h2'⟩
    cases m with
    | zero => exact h2'.elim
    | succ m =>
      rw [whL_exec] at h2'
      refine ⟨G2, ρ2, os2, st2, (SPo.exec (rel := rB) h2').mono fun _ H1 _ v _ _ _ _ _ _ _ _ _ q => ?_⟩
      obtain ⟨d, G3, ρ3, os3, o3, st3, ⟨e1, eo⟩, nd, h3'⟩ := q
      subst e1; subst eo
      cases v with
      | false => exact h3' σ2 G3 H1 os3 st3 (Fr.refl st3.sm _) (Sub.refl _ _)
      | true =>
        have h3' : SPo X.K X.mg z W rm io Γl Γ' (match runS TH rm io c.T b ρ3 with
          | .nx ρ2 => whL (runT c.T t) (runS TH rm io c.T b) m ρ2
          | .ct ρ2 => whL (runT c.T t) (runS TH rm io c.T b) m ρ2
          | .bk ρ2 => .nx ρ2
          | o => o) G3 H1 os3 D := h3'
        refine ⟨fun σ' H' => ∃ G ρ os, Stt X.K z Γ' G H' σ' ρ os ∧ SPo X.K X.mg z W rm io Γl Γ' (whL (runT c.T t) (runS TH rm io c.T b) m ρ) G H' os D, fun σ' H' n => ⟨m, Nat.lt_succ_self m, n⟩, G3, ρ3, os3, st3, ?_⟩
        cases er : runS TH rm io c.T b ρ3 with
        | nx ρ5 =>
          rw [er] at h3'
          exact fun σ' G' H'' os' st' fr sb => ⟨G', ρ5, os', st', SPo.shift fr sb h3'⟩
        | ct ρ5 =>
          rw [er] at h3'
          exact fun σ' G' H'' os' st' fr sb => ⟨G', ρ5, os', st', SPo.shift fr sb h3'⟩
        | bk ρ5 => rw [er] at h3'; exact h3'
        | rt d ρ5 => rw [er] at h3'; exact h3'
        | exn cc fs => rw [er] at h3'; exact h3'
        | bad => rw [er] at h3'; exact h3'
  | _ :: _, ok, _ => simp [ok1] at ok
theorem ss_retM {i : Nat} : SS1 c rm io zi TH (.retM i) := by
  intro X Γl Γ Γ' z W x k okA t
  have ok := okA "" []
  cases x <;> try (simp only [ok1, Bool.false_eq_true] at ok; done)
  rename_i o p
  cases o <;> try (simp only [ok1, Bool.false_eq_true] at ok; done)
  rename_i x
  cases x <;> try (simp only [ok1, Bool.false_eq_true] at ok; done)
  rename_i x px
  simp only [ok1, Bool.and_eq_true, decide_eq_true_eq] at ok
  obtain ⟨⟨h0, h1⟩, h2, h3, h4, h5, h6⟩ := ok
  refine PS.imp (ps_ret (pe_var (i := i) (by rw [k.k.N]; exact h1) (vis_of h2) (dbg_of h3) (dbg_of h4))) fun D σ H hl q => ?_
  obtain ⟨G, ρ, os, st, h⟩ := q
  have h : SPo X.K X.mg z W rm io Γl Γ' (match gS ρ i with | some d => retD rm io d (sS ρ i none) | none => .bad) G H os D := h
  cases e : gS ρ i with
  | none => rw [e] at h; exact h.elim
  | some d =>
    rw [e] at h
    obtain ⟨v, o1, o, o2, e1, w, eos, sl, _⟩ := st.sl.take e
    have pm : (o ++ (o1 ++ o2)).Perm os := by
      rw [eos, List.perm_iff_count]
      intro x
      simp only [List.count_append]
      omega
    have nd := (pm.nodup_iff).mpr st.nd
    refine ⟨v, e1, ret_fin (m := gM Γ i) h0 k.zio (⟨sl, (List.nodup_append.mp nd).2.1, st.sm, st.zt, st.z, st.zb⟩ : Stt X.K z Γ G H σ (sS ρ i none) (o1 ++ o2)) w nd ?_ (SPo.shift (Fr.refl st.sm os) (fun a q => .inl ((pm.mem_iff).mp q)) h)⟩
    rcases h5 with h5 | h5 | ⟨h5, h5'⟩
    · exact .inl h5
    · exact .inr (.inl h5)
    · exact .inr (.inr ⟨h5', h5⟩)
theorem gS_sS_none : ∀ {ρ : Slots} {i : Nat}, gS (sS ρ i none) i = none
  | [], _ => rfl
  | _ :: _, 0 => rfl
  | _ :: r, i + 1 => gS_sS_none (ρ := r) (i := i)
theorem ss_spl {i : Nat} : SS1 c rm io zi TH (.spl i) := by
  intro X Γl Γ Γ' z W x k okA t
  have ok := okA "" []
  cases x <;> try (simp only [ok1, Bool.false_eq_true] at ok; done)
  rename_i x p
  cases x <;> try (simp only [ok1, Bool.false_eq_true] at ok; done)
  rename_i fx as ks pc
  obtain ⟨g, pg, y, py, rfl, rfl, rfl⟩ : ∃ g pg y py, fx = (.Name g pg) ∧ as = ((.Name y py) :: []) ∧ ks = [] := by
    cases fx <;> try exact absurd (show false = true from ok) Bool.false_ne_true
    rename_i q1_ q2_
    cases as <;> try exact absurd (show false = true from ok) Bool.false_ne_true
    rename_i q3_ q4_
    cases q3_ <;> try exact absurd (show false = true from ok) Bool.false_ne_true
    rename_i q5_ q6_
    cases q4_ <;> try exact absurd (show false = true from ok) Bool.false_ne_true
    cases ks <;> try exact absurd (show false = true from ok) Bool.false_ne_true
    exact ⟨_, _, _, _, rfl, rfl, rfl⟩
  simp only [ok1, Bool.and_eq_true, decide_eq_true_eq] at ok
  obtain ⟨rfl, hh, hE, h1, h2, h3, h4, h5, h6, h7⟩ := ok
  have hh : c.hot = false := by simpa using hh
  obtain ⟨lv, hr, ea⟩ := k.eat hh g hE
  obtain ⟨f, fd, ps, F, mg, kp, bd⟩ := ea.ex
  obtain ⟨g1, g2⟩ := gl_of h1
  have pvar : PE X (.Name y py) (tVar i) := pe_var (i := i) (by rw [k.k.N]; exact h2) (vis_of h3) (dbg_of h5) (dbg_of h6)
  have pe : PE X (.Call (.Name g pg) [.Name y py] [] pc) _ := pe_callS (E := WE fun c d _ H => W c d H) F hr g1 mg kp bd (fun σ => L2N.passAt t σ) (pa_cons pvar pa_nil rfl) g2
  refine PS.imp (ps_expr pe (sw_noN rfl)) fun D σ H hl q => ?_
  obtain ⟨G, ρ, os, st, h⟩ := q
  have h : SPo X.K X.mg z W rm io Γl (sM Γ i .no) (match gS ρ i with | some d => if smD d then .nx (sS ρ i none) else .bad | none => .bad) G H os D := h
  cases e : gS ρ i with
  | none => rw [e] at h; exact h.elim
  | some d =>
    rw [e] at h
    by_cases hs : smD d = true
    case neg => simp only [if_neg hs] at h; exact h.elim
    simp only [if_pos hs] at h
    obtain ⟨v, o1, o, o2, e1, w, eos, sl, _⟩ := st.sl.take e
    have pm : (o ++ (o1 ++ o2)).Perm os := by
      rw [eos, List.perm_iff_count]
      intro x
      simp only [List.count_append]
      omega
    have nd := (pm.nodup_iff).mpr st.nd
    have dj : ∀ a ∈ o1 ++ o2, a ∉ o := fun a q q' => (List.nodup_append.mp nd).2.2 a q' a q rfl
    rw [h4] at w
    refine ⟨v, e1, v, d, o, G, rfl, st.sm, w, (List.nodup_append.mp nd).1, hs, fun v' H' fr => ?_⟩
    have st0 : Stt X.K z (sM Γ i .no) G H σ (sS ρ i none) (o1 ++ o2) := ⟨sl.remode gS_sS_none, (List.nodup_append.mp nd).2.1, st.sm, fun j u q => by
      have hj : i ≠ j := fun q2 => by
        subst q2
        have := k.zi _ _ q
        simp [noZ, this] at h7
      rw [gM_sM hj]
      exact st.zt j u q, st.z, st.zb⟩
    exact h σ G H' (o1 ++ o2) (st0.frame fr dj) (fr.weak fun a q => (pm.mem_iff).mp (List.mem_append_left _ q)) fun a q => .inl ((pm.mem_iff).mp (List.mem_append_right _ q))
theorem fields_ok {K : PySem.W.Frag} {G : Hp} : ∀ {fs : List Str} {vs : List V} {ds : List D} {p : List (Str × Int)}, FzL K G vs ds → fields fs ds = some p → ∃ ns : List Int, vs = ns.map V.int ∧ ns.length = fs.length ∧ p = fs.zip ns
  | [], _, [], _, .nil, e => by
    simp only [fields, Option.some.injEq] at e
    exact ⟨[], rfl, rfl, e.symm⟩
  | [], _, _ :: _, _, _, e => by simp [fields] at e
  | _ :: _, _, [], _, _, e => by simp [fields] at e
  | f :: fs, _, d :: ds, _, .cons h t, e => by
    cases h <;> simp only [fields, reduceCtorEq] at e
    obtain ⟨q, e', rfl⟩ := Option.map_eq_some_iff.mp e
    obtain ⟨ns, h1, h2, h3⟩ := fields_ok t e'
    exact ⟨_ :: ns, by rw [h1]; rfl, by simp [h2], by rw [h3]; rfl⟩
theorem ss_rai {cn : Str} {fs : List Str} {as : IE} (ha : SL c as) : SS1 c rm io zi TH (.rai cn fs as) := by
  intro X Γl Γ Γ' z W x k okA t
  have ok := okA "" []
  cases x <;> try (simp only [ok1, Bool.false_eq_true] at ok; done)
  rename_i o1 o2 p
  obtain ⟨x, px, xs, pc, rfl, rfl⟩ : ∃ x px xs pc, o1 = (some (.Call (.Name x px) xs [] pc)) ∧ o2 = none := by
    cases o1 <;> try exact absurd (show false = true from ok) Bool.false_ne_true
    rename_i q1_
    cases q1_ <;> try exact absurd (show false = true from ok) Bool.false_ne_true
    rename_i q2_ q3_ q4_ q5_
    cases q2_ <;> try exact absurd (show false = true from ok) Bool.false_ne_true
    rename_i q6_ q7_
    cases q4_ <;> try exact absurd (show false = true from ok) Bool.false_ne_true
    cases o2 <;> try exact absurd (show false = true from ok) Bool.false_ne_true
    exact ⟨_, _, _, _, rfl, rfl⟩
  simp only [ok1, Bool.and_eq_true, decide_eq_true_eq] at ok
  obtain ⟨hh, rfl, h1, h2, h3, h4⟩ := ok
  have hh : c.hot = false := by simpa using hh
  obtain ⟨g1, g2⟩ := gl_of h2
  have R := k.rai hh _ _ h1 X.pn X.xe
  cases xs with
  | nil =>
    have hf : fs = [] := by cases fs with
      | nil => rfl
      | cons _ _ => simp at h4
    subst hf
    refine PS.imp (L2N.ps_raise (k.k.calm hh) t (R.made0 rfl g1 g2)) fun D σ H hl q => ?_
    cases as <;> try (simp [okL] at h3; done)
    obtain ⟨G, ρ, os, st, h⟩ := q
    have h : SPo X.K X.mg z W rm io Γl Γ' (.exn x []) G H os D := h
    exact fun H' cls dd hx keep => h G H' cls dd hx ⟨Same.refl _, fun a u q => by rw [keep a ⟨u, st.sm a u q⟩]; exact st.sm a u q, fun a u q _ => ⟨by rw [keep a ⟨u, q⟩]; exact q, rfl⟩⟩
  | cons y ys =>
    obtain ⟨_, _, rfl, _, na, hq⟩ := okL_cons h3
    refine PS.imp (L2N.ps_raise (k.k.calm hh) t (R.made g1 g2 (ha X Γ z W (y :: ys) k.k h3 t) h4 na (any_star hq))) fun D σ H hl q => ?_
    obtain ⟨G, ρ, os, st, h⟩ := q
    refine ⟨G, ρ, os, st, (SPo.exec h).mono fun _ H1 _ v _ _ _ _ _ _ _ _ _ q => ?_⟩
    obtain ⟨ds, G1, ρ1, os1, o1, st1, ⟨fl, eo⟩, nd, h1'⟩ := q
    subst eo
    cases ef : fields fs ds with
    | none => simp only [ef] at h1'; exact h1'.elim
    | some pp =>
      simp only [ef] at h1'
      obtain ⟨ns, e1, e2, rfl⟩ := fields_ok fl ef
      refine ⟨ns, e1, e2, fun H' cls dd hx keep => ?_⟩
      exact h1' G1 H' cls dd hx ⟨Same.refl _, fun a u q => by rw [keep a ⟨u, st1.sm a u q⟩]; exact st1.sm a u q, fun a u q _ => ⟨by rw [keep a ⟨u, q⟩]; exact q, rfl⟩⟩
theorem sub_plain {o i : PySem.Expr} {env : Env} {pos : Pos} (h : nslice i = true) : ∀ v, assign (.Subscript o i pos) env v = (do
      let ov ← holding [v] (eval o env)
      let iv ← holding [v, ov] (eval i env)
      standAt pos
      holding [v, ov, iv] (setItem ov iv v)
      release [v, ov, iv] []) := by
  intro v
  cases i <;> first | rfl | (simp [nslice] at h)
theorem SPo.execS {α β : Type} {K : PySem.W.Frag} {mg : Str → Option Value} {z : Option (Nat × V × Hp)} {W : WE0} {Γ Γl Γ' : List Mode} {G H : Hp} {os : List Addr} {σ : L2.St} {ρ : Slots} {De : Ends} {rel : Rel β α} {m : M α} {f : α → Slots → Out} (h : SPo K mg z W rm io Γl Γ' (exec1 m f ρ) G H os De) :
    GP K mg z Γ W rel (m ρ) G H os σ (fun b H1 => ∃ a G1 ρ1 os1 o1, Stt K z Γ G1 H1 σ ρ1 os1 ∧ rel G1 H1 b a o1 ∧ (o1 ++ os1).Nodup ∧ Same G G1 ∧ SPo K mg z W rm io Γl Γ' (f a ρ1) G1 H1 (o1 ++ os1) De) := by
  unfold exec1 at h
  cases e : m ρ with
  | ok a =>
    obtain ⟨a, ρ1⟩ := a
    rw [e] at h
    exact fun G' H' os' b o st hr nd f' s' => ⟨a, G', ρ1, os', o, st, hr, nd, f'.g, SPo.shift f' s' h⟩
  | exn c fs => rw [e] at h; exact h
  | bad => rw [e] at h; exact h
theorem ss_setI {i : Nat} {kk v : IE} (hk : SE c kk) (hv : SE c v) : SS1 c rm io zi TH (.setI i kk v) := by
  intro X Γl Γ Γ' z W x k okA t
  have ok := okA "" []
  cases x <;> try (simp only [ok1, Bool.false_eq_true] at ok; done)
  rename_i ts xv p
  obtain ⟨x, px, xk, ps, rfl⟩ : ∃ x px xk ps, ts = ((.Subscript (.Name x px) xk ps) :: []) := by
    cases ts <;> try exact absurd (show false = true from ok) Bool.false_ne_true
    rename_i q1_ q2_
    cases q1_ <;> try exact absurd (show false = true from ok) Bool.false_ne_true
    rename_i q3_ q4_ q5_
    cases q3_ <;> try exact absurd (show false = true from ok) Bool.false_ne_true
    rename_i q6_ q7_
    cases q2_ <;> try exact absurd (show false = true from ok) Bool.false_ne_true
    exact ⟨_, _, _, _, rfl⟩
  simp only [ok1, Bool.and_eq_true, decide_eq_true_eq] at ok
  obtain ⟨rfl, h1, h2, h3, h4, h5, h6, h7, h8, h9⟩ := ok
  have pv := pe_var (X := X) (pos := px) (i := i) (by rw [k.k.N]; exact h1) (vis_of h2) (dbg_of h4) (dbg_of h5)
  refine PS.imp (ps_asg (pos := p) (hv.F (z := z) k.k h8 t) (pg_sub (pos := ps) pv (hk.F (z := z) k.k h6 t) set_list (sub_plain h7)) (sws_no h9) (by cases xv <;> rfl)) fun D σ H hl q => ?_
  obtain ⟨G, ρ, os, st, h⟩ := q
  refine ⟨G, ρ, os, st, (SPo.exec h).mono fun _ H1 _ y _ _ _ _ _ _ _ _ _ q => ?_⟩
  obtain ⟨d1, G1, ρ1, os1, o1, st1, ⟨f1, eo⟩, nd, h1'⟩ := q
  subst eo
  have h1' : SPo X.K X.mg z W rm io Γl Γ' (match gS ρ1 i with
    | none => .bad
    | some _ => exec1 (runE c.T kk) (fun y ρ1 => match gS ρ1 i, y with
      | some (.lst l), .int n => (match ixN l.length n with | some j => .nx (sS ρ1 i (some (.lst (l.set j d1)))) | none => .bad)
      | _, _ => .bad) ρ1) G1 H1 os1 D := h1'
  cases e1 : gS ρ1 i with
  | none => rw [e1] at h1'; exact h1'.elim
  | some d0 =>
    rw [e1] at h1'
    obtain ⟨a0, vs0, ds0, ea, rfl, ha0, _⟩ := st1.store e1 h3
    refine ⟨_, ea, G1, ρ1, os1, st1, (SPo.execS h1').mono fun _ H2 _ w _ _ _ _ _ _ _ _ _ q2 => ?_⟩
    obtain ⟨d2, G2, ρ2, os2, o2, st2, ⟨f2, eo⟩, nd2, sm2, h2'⟩ := q2
    subst eo
    cases e2 : gS ρ2 i with
    | none => simp only [e2] at h2'; exact h2'.elim
    | some d' =>
      obtain ⟨a', vs, ds, ea', rfl, ha, fl, put⟩ := st2.store e2 h3
      rw [ea] at ea'
      cases ea'
      simp only [e2] at h2'
      cases f2 with
      | int n =>
        cases e3 : ixN ds.length n with
        | none => simp only [e3] at h2'; exact h2'.elim
        | some j =>
          simp only [e3] at h2'
          refine ⟨_, vs, n, j, rfl, rfl, ha, by rw [fl.length]; exact e3, ?_⟩
          obtain ⟨st', fr⟩ := put (fl.set (f1.mono sm2) j)
          exact h2' σ G2 _ os2 st' fr (Sub.refl _ _)
      | _ => exact (show False from h2').elim
theorem op_aug {X : Cx} {o : BOp} {op : Operator} (ho : opB o op = true) (hr : o = .add ∨ o = .sub) : ∃ r : TIp, PIp X op r ∧ ∀ {G H : Hp} {x y : V} {d1 d2 d : D} {Q : VK}, Fz X.K G x d1 → Fz X.K G y d2 → binD o d1 d2 = some d → (∀ v, OwA X.K G H v d [] → Q v H) → r x y H Q := by
  rcases hr with rfl | rfl
  · cases op <;> first | (exact absurd ho (by decide)) | skip
    refine ⟨_, OpR.or iop_add iop_add_str, fun {G H x y d1 d2 d Q} f1 f2 e q => ?_⟩
    cases f1 <;> cases f2 <;> simp only [binD, reduceCtorEq, Option.some.injEq] at e
    · subst e; exact .inl ⟨_, _, rfl, rfl, q _ (.int _)⟩
    · split at e
      · cases e; rename_i hz; exact .inr ⟨_, _, rfl, rfl, hz, q _ (.str _)⟩
      · cases e
  · cases op <;> first | (exact absurd ho (by decide)) | skip
    refine ⟨_, iop_sub, fun {G H x y d1 d2 d Q} f1 f2 e q => ?_⟩
    cases f1 <;> cases f2 <;> simp only [binD, reduceCtorEq, Option.some.injEq] at e
    subst e; exact ⟨_, _, rfl, rfl, q _ (.int _)⟩
theorem ss_aug {i : Nat} {o : BOp} {e : IE} (he : SE c e) : SS1 c rm io zi TH (.aug i o e) := by
  intro X Γl Γ Γ' z W x k okA t
  have ok := okA "" []
  cases x <;> try (simp only [ok1, Bool.false_eq_true] at ok; done)
  rename_i ts op xe p
  cases ts <;> try (simp only [ok1, Bool.false_eq_true] at ok; done)
  rename_i x px
  simp only [ok1, Bool.and_eq_true, decide_eq_true_eq] at ok
  obtain ⟨rfl, ⟨hr, h0⟩, h1, h2, h3⟩ := ok
  have hN : X.N.Nodup := by rw [k.k.N]; exact k.k.nd
  have hlt := okTgs_lt h1 i (by simp)
  simp only [okTgs, Bool.and_eq_true, decide_eq_true_eq, Bool.or_eq_true] at h1
  obtain ⟨⟨hx1, hx2⟩, _⟩ := h1
  have hxN : X.N[i]? = some x := by rw [k.k.N]; exact hx1
  have hloc : Loc X.env.scope x := hx2.elim .inl fun q => .inr q.1
  have hfn : X.fn x = true ∨ X.env.scope.names.lookup x = some .local := hx2.elim .inr fun q => .inl (k.fnc x q.2)
  obtain ⟨r, hp, hq⟩ := op_aug (X := X) h0 hr
  refine PS.imp (ps_aug hN hxN hloc (he.F (z := z) k.k h3 t) hp hfn) fun D σ H hl q => ?_
  obtain ⟨G, ρ, os, st, h⟩ := q
  have h : SPo X.K X.mg z W rm io Γl Γ' (match gS ρ i with
    | some x => exec1 (runE c.T e) (fun y ρ1 => match binD o x y with | some z => .nx (sS ρ1 i (some z)) | none => .bad) ρ
    | none => .bad) G H os D := h
  cases e1 : gS ρ i with
  | none => rw [e1] at h; exact h.elim
  | some d1 =>
    rw [e1] at h
    obtain ⟨v, ev, f⟩ := st.sl.get e1 h2
    refine ⟨v, ev, G, ρ, os, st, (SPo.execS h).mono fun _ H1 _ y _ _ _ _ _ _ _ _ _ q => ?_⟩
    obtain ⟨d2, G1, ρ1, os1, o1, st1, ⟨f2, eo⟩, nd, sm, h1'⟩ := q
    subst eo
    cases eb : binD o d1 d2 with
    | none => simp only [eb] at h1'; exact h1'.elim
    | some d =>
      simp only [eb] at h1'
      refine hq (f.mono sm) f2 eb fun w ow => ?_
      have fw : Fz X.K G1 w d := by
        have := OwA.freeze (os := []) st1.sm ow fun _ q => q
        rw [frz_nil] at this; exact this
      exact h1' _ G1 H1 os1 (st1.put fw h2 (by rw [hl, k.k.N]; exact hlt)) (Fr.refl st1.sm _) (Sub.refl _ _)
theorem ss_swp {i : Nat} {k1 k2 v1 v2 : IE} (hk1 : SE c k1) (hk2 : SE c k2) (hv : Snd c (.tup (.cons v1 (.cons v2 .nil)))) : SS1 c rm io zi TH (.swp i k1 k2 v1 v2) := by
  intro X Γl Γ Γ' z W x k okA t
  have ok := okA "" []
  cases x <;> try (simp only [ok1, Bool.false_eq_true] at ok; done)
  rename_i ts xv p
  obtain ⟨x, px, xk1, ps1, x', px', xk2, ps2, kk, pt, xs, kx, pv, rfl, rfl⟩ : ∃ x px xk1 ps1 x' px' xk2 ps2 kk pt xs kx pv, ts = ((.Tuple ((.Subscript (.Name x px) xk1 ps1) :: ((.Subscript (.Name x' px') xk2 ps2) :: [])) kk pt) :: []) ∧ xv = (.Tuple xs kx pv) := by
    cases ts <;> try exact absurd (show false = true from ok) Bool.false_ne_true
    rename_i q1_ q2_
    cases q1_ <;> try exact absurd (show false = true from ok) Bool.false_ne_true
    rename_i q3_ q4_ q5_
    cases q3_ <;> try exact absurd (show false = true from ok) Bool.false_ne_true
    rename_i q6_ q7_
    cases q6_ <;> try exact absurd (show false = true from ok) Bool.false_ne_true
    rename_i q8_ q9_ q10_
    cases q8_ <;> try exact absurd (show false = true from ok) Bool.false_ne_true
    rename_i q11_ q12_
    cases q7_ <;> try exact absurd (show false = true from ok) Bool.false_ne_true
    rename_i q13_ q14_
    cases q13_ <;> try exact absurd (show false = true from ok) Bool.false_ne_true
    rename_i q15_ q16_ q17_
    cases q15_ <;> try exact absurd (show false = true from ok) Bool.false_ne_true
    rename_i q18_ q19_
    cases q14_ <;> try exact absurd (show false = true from ok) Bool.false_ne_true
    cases q2_ <;> try exact absurd (show false = true from ok) Bool.false_ne_true
    cases xv <;> try exact absurd (show false = true from ok) Bool.false_ne_true
    rename_i q20_ q21_ q22_
    exact ⟨_, _, _, _, _, _, _, _, _, _, _, _, _, rfl, rfl⟩
  simp only [ok1, Bool.and_eq_true, decide_eq_true_eq] at ok
  obtain ⟨rfl, h1, rfl, h2, h3, h4, h5, h6, h7, h8, h9, h10, hh⟩ := ok
  have hh : c.hot = false := by simpa using hh
  have pv1 := pe_var (X := X) (pos := px) (i := i) (by rw [k.k.N]; exact h1) (vis_of h2) (dbg_of h4) (dbg_of h5)
  have pv2 := pe_var (X := X) (pos := px') (i := i) (by rw [k.k.N]; exact h1) (vis_of h2) (dbg_of h4) (dbg_of h5)
  have hval : PE X (.Tuple xs kx pv) _ := hv.E.F (z := z) (Γ := Γ') (W := W) k.k (by simp only [okE, Bool.and_eq_true]; exact ⟨h10, by simp [cnt]⟩) t
  have hg := pg_tup (X := X) (pos := pt) (k := kk) (k.k.calm hh) (pgs_cons (pg_sub (pos := ps1) pv1 (hk1.F (z := z) (Γ := Γ') (W := W) k.k h6 t) set_list (sub_plain h7)) (pgs_cons (pg_sub (pos := ps2) pv2 (hk2.F (z := z) (Γ := Γ') (W := W) k.k h8 t) set_list (sub_plain h9)) pgs_nil)) rfl rfl
  refine PS.imp (ps_asg (pos := p) hval hg rfl (by unfold swappedStores; simp)) fun D σ H hl q => ?_
  obtain ⟨G, ρ, os, st, h⟩ := q
  refine ⟨G, ρ, os, st, (SPo.execS h).mono fun _ H1 _ y _ _ _ _ _ _ _ _ _ q => ?_⟩
  obtain ⟨d1, G1, ρ1, os1, o1, st1, ⟨f1, eo⟩, nd, _, h1'⟩ := q
  subst eo
  match d1, f1, h1' with
  | .tup [x1, x2], f1, h1' =>
    obtain ⟨at_, w1, w2, rfl, hsq, fx1, fx2⟩ : ∃ a w1 w2, y = .ref a ∧ SqT X.K G1 a [w1, w2] ∧ Fz X.K G1 w1 x1 ∧ Fz X.K G1 w2 x2 := by
      cases f1 with
      | tup hsq r =>
        cases r with
        | cons a r =>
          cases r with
          | cons b r =>
            cases r
            exact ⟨_, _, _, rfl, hsq, a, b⟩
    refine ⟨at_, [w1, w2], rfl, Same.sqT st1.sm hsq, rfl, w1, [w2], rfl, ?_⟩
    have h1' : SPo X.K X.mg z W rm io Γl Γ' (match gS ρ1 i with
      | none => .bad
      | some _ => exec1 (runE c.T k1) (fun y1 ρ1 => match gS ρ1 i, y1 with
        | some (.lst l), .int n => (match ixN l.length n with
          | some j => exec1 (runE c.T k2) (fun y2 ρ2 => match gS ρ2 i, y2 with
            | some (.lst l2), .int n2 => (match ixN l2.length n2 with | some j2 => .nx (sS ρ2 i (some (.lst (l2.set j2 x2)))) | none => .bad)
            | _, _ => .bad) (sS ρ1 i (some (.lst (l.set j x1))))
          | none => .bad)
        | _, _ => .bad) ρ1) G1 H1 os1 D := h1'
    cases e1 : gS ρ1 i with
    | none => rw [e1] at h1'; exact h1'.elim
    | some d0 =>
      rw [e1] at h1'
      obtain ⟨a0, vs0, ds0, ea, rfl, ha0, _⟩ := st1.store e1 h3
      refine ⟨_, ea, G1, ρ1, os1, st1, (SPo.execS h1').mono fun _ H2 _ w _ _ _ _ _ _ _ _ _ q2 => ?_⟩
      obtain ⟨d2, G2, ρ2, os2, o2, st2, ⟨f2, eo⟩, nd2, sm2, h2'⟩ := q2
      subst eo
      cases e2 : gS ρ2 i with
      | none => simp only [e2] at h2'; exact h2'.elim
      | some d' =>
        obtain ⟨a', vs, ds, ea', rfl, ha, fl, put⟩ := st2.store e2 h3
        rw [ea] at ea'
        cases ea'
        simp only [e2] at h2'
        cases f2 with
        | int n =>
          cases e3 : ixN ds.length n with
          | none => simp only [e3] at h2'; exact h2'.elim
          | some j =>
            simp only [e3] at h2'
            refine ⟨_, vs, n, j, rfl, rfl, ha, by rw [fl.length]; exact e3, w2, [], rfl, ?_⟩
            obtain ⟨st', fr⟩ := put (fl.set (fx1.mono sm2) j)
            have h2' := SPo.shift fr (Sub.refl _ _) h2'
            refine ⟨_, ea, G2, _, os2, st', (SPo.execS h2').mono fun _ H3 _ w' _ _ _ _ _ _ _ _ _ q3 => ?_⟩
            obtain ⟨d3, G3, ρ3, os3, o3, st3, ⟨f3, eo⟩, nd3, sm3, h3'⟩ := q3
            subst eo
            cases e4 : gS ρ3 i with
            | none => simp only [e4] at h3'; exact h3'.elim
            | some d4 =>
              obtain ⟨a4, vs4, ds4, ea4, rfl, ha4, fl4, put4⟩ := st3.store e4 h3
              rw [ea] at ea4
              cases ea4
              simp only [e4] at h3'
              cases f3 with
              | int n3 =>
                cases e5 : ixN ds4.length n3 with
                | none => simp only [e5] at h3'; exact h3'.elim
                | some j3 =>
                  simp only [e5] at h3'
                  refine ⟨_, vs4, n3, j3, rfl, rfl, ha4, by rw [fl4.length]; exact e5, rfl, ?_⟩
                  obtain ⟨st5, fr5⟩ := put4 (fl4.set (fx2.mono (sm2.trans sm3)) j3)
                  exact h3' σ G3 _ os3 st5 fr5 (Sub.refl _ _)
              | _ => exact (show False from h3').elim
        | _ => exact (show False from h2').elim
  | .tup [], _, h1' => exact (show False from h1').elim
  | .tup [_], _, h1' => exact (show False from h1').elim
  | .tup (_ :: _ :: _ :: _), _, h1' => exact (show False from h1').elim
  | .non, _, h1' => exact (show False from h1').elim
  | .bl _, _, h1' => exact (show False from h1').elim
  | .int _, _, h1' => exact (show False from h1').elim
  | .str _, _, h1' => exact (show False from h1').elim
  | .lst _, _, h1' => exact (show False from h1').elim
  | .dic _ _, _, h1' => exact (show False from h1').elim
  | .obj _ _, _, h1' => exact (show False from h1').elim
  | .scr _, _, h1' => exact (show False from h1').elim
end OS
namespace OS
open PySem PySem.Spec PyProof.Rows L2
variable {c : SC} {rm : Mode} {io : Bool} {zi : Option Nat} {TH : Str → List (Str × Int) → List Sig}

/-! ### never run; moved out of a tuple; within a list of lists -/
theorem ss_unr : SS1 c rm io zi TH .unr := by
  intro X Γl Γ Γ' z W x k okA t
  refine ⟨fun pins s σ H D I q => ?_⟩
  obtain ⟨G, ρ, os, st, h⟩ := q
  exact (show False from h).elim
theorem OwAL.item {K : PySem.W.Frag} {G H : Hp} : ∀ {vs : List V} {ds : List D} {o : List Addr} (j : Nat) {d : D}, OwAL K G H vs ds o → ds[j]? = some d → ∃ v oe or, vs[j]? = some v ∧ OwA K G H v d oe ∧ (oe ++ or).Perm o
  | _, _, _, 0, d, .cons (v := v) (o := o1) (os := os) h r, e => by
    have e := Option.some.inj e
    subst e
    exact ⟨v, o1, os, rfl, h, .refl _⟩
  | _, _, _, j + 1, d, .cons (o := o1) (os := os) h r, e => by
    obtain ⟨v, oe, orr, e1, w, pm⟩ := OwAL.item j r e
    refine ⟨v, oe, o1 ++ orr, e1, w, ?_⟩
    rw [List.perm_iff_count]
    intro x
    have := List.perm_iff_count.mp pm x
    simp only [List.count_append] at this ⊢
    omega
  | _, _, _, _, _, .nil, e => by simp at e
theorem ss_mv {i : Nat} {m : Mode} {j k : Nat} : SS1 c rm io zi TH (.mv i m j k) := by
  intro X Γl Γ Γ' z W x kk okA tk
  have ok := okA "" []
  cases x <;> try (simp only [ok1, Bool.false_eq_true] at ok; done)
  rename_i ts xe p
  obtain ⟨x, px, y, py, k', j1, pc, ps, rfl, rfl⟩ : ∃ x px y py k' j1 pc ps, ts = ((.Name x px) :: []) ∧ xe = (.Subscript (.Name y py) (.Constant (.int k') j1 pc) ps) := by
    cases ts <;> try exact absurd (show false = true from ok) Bool.false_ne_true
    rename_i q1_ q2_
    cases q1_ <;> try exact absurd (show false = true from ok) Bool.false_ne_true
    rename_i q3_ q4_
    cases q2_ <;> try exact absurd (show false = true from ok) Bool.false_ne_true
    cases xe <;> try exact absurd (show false = true from ok) Bool.false_ne_true
    rename_i q5_ q6_ q7_
    cases q5_ <;> try exact absurd (show false = true from ok) Bool.false_ne_true
    rename_i q8_ q9_
    cases q6_ <;> try exact absurd (show false = true from ok) Bool.false_ne_true
    rename_i q10_ q11_ q12_
    cases q10_ <;> try exact absurd (show false = true from ok) Bool.false_ne_true
    rename_i q13_
    exact ⟨_, _, _, _, _, _, _, _, rfl, rfl⟩
  simp only [ok1, Bool.and_eq_true, decide_eq_true_eq] at ok
  obtain ⟨rfl, h1, h2, h3, h4, h5, h6, rfl, h8, h9, hij, hm⟩ := ok
  have hN : X.N.Nodup := by rw [kk.k.N]; exact kk.k.nd
  have hlt := okTgs_lt h1 i (by simp)
  simp only [okTgs, Bool.and_eq_true, decide_eq_true_eq, Bool.or_eq_true] at h1
  obtain ⟨⟨hx1, hx2⟩, _⟩ := h1
  have hxN : X.N[i]? = some x := by rw [kk.k.N]; exact hx1
  have hloc : Loc X.env.scope x := hx2.elim .inl fun q => .inr q.1
  have hfn : X.fn x = true ∨ X.env.scope.names.lookup x = some .local := hx2.elim .inr fun q => .inl (kk.fnc x q.2)
  have pv := pe_var (X := X) (pos := py) (i := j) (by rw [kk.k.N]; exact h2) (vis_of h3) (dbg_of h5) (dbg_of h6)
  have pr := pe_ix (X := X) (pos := ps) ix_seq pv (pe_int (X := X) (i := (k : Int)) (j := j1) (pos := pc)) (slice_of rfl)
  refine PS.imp (ps_set (pos := p) (pos' := px) hN hxN hloc pr (sw_no rfl) hfn) fun D σ H hl q => ?_
  obtain ⟨G, ρ, os, st, h⟩ := q
  have h : SPo X.K X.mg z W rm io Γl (sM (sM Γ j .no) i m) (match gS ρ j with
    | some d => (match mvD k d with
      | some e => if m = .top ∧ isLst e = false then .bad else .nx (sS (sS ρ j none) i (some e))
      | none => .bad)
    | none => .bad) G H os D := h
  cases e : gS ρ j with
  | none => simp only [e] at h; exact (show False from h).elim
  | some d =>
    simp only [e] at h
    cases em : mvD k d with
    | none => simp only [em] at h; exact (show False from h).elim
    | some d2 =>
      simp only [em] at h
      cases d with
      | tup l =>
        have em : l[k]? = some d2 := em
        obtain ⟨v, o1, o, o2, e1, w, eos, sl, _⟩ := st.sl.take e
        rw [h4] at w
        have w : OwA X.K G H v (.tup l) o := w
        cases w with
        | @tup a vs _ _ hsq r =>
          obtain ⟨v2, oe, orr, e2, w2, pm⟩ := OwAL.item k r em
          by_cases hb : m = .top ∧ isLst d2 = false
          · rw [if_pos hb] at h; exact (show False from h).elim
          · rw [if_neg hb] at h
            have pm2 : ((oe ++ orr) ++ (o1 ++ o2)).Perm os := by
              rw [eos, List.perm_iff_count]
              intro x
              have := List.perm_iff_count.mp pm x
              simp only [List.count_append] at this ⊢
              omega
            have nd := (pm2.nodup_iff).mpr st.nd
            have nd1 : (oe ++ (o1 ++ o2)).Nodup := by
              obtain ⟨n1, n2, n3⟩ := List.nodup_append.mp nd
              exact List.nodup_append.mpr ⟨(List.nodup_append.mp n1).1, n2, fun a ha b hb => n3 a (List.mem_append_left _ ha) b hb⟩
            have st0 : Stt X.K z (sM Γ j .no) G H σ (sS ρ j none) (o1 ++ o2) := ⟨sl.remode gS_sS_none, (List.nodup_append.mp nd).2.1, st.sm, fun i2 u q => by
              have hj : j ≠ i2 := fun q2 => by
                subst q2
                have := kk.zi _ _ q
                simp [noZ, this] at h9
              rw [gM_sM hj]
              exact st.zt i2 u q, st.z, st.zb⟩
            obtain ⟨n1, n2, n3⟩ := List.nodup_append.mp nd1
            obtain ⟨G2, o3, w3, sub, nd2, fr⟩ := own_to (m0 := .all) w2 st.sm n1 (by rcases hm with q | q; exact .inr (.inl q.symm); exact .inr (.inr ⟨q, rfl⟩)) hb
            have st2 := st0.frame fr fun a q q' => n3 a q' a q rfl
            have nd3 : (o3 ++ (o1 ++ o2)).Nodup := List.nodup_append.mpr ⟨nd2, n2, fun a ha b hb => n3 a (sub a ha) b hb⟩
            obtain ⟨os3, st3, sub3⟩ := st2.assignX (i := i) (by rw [hl, kk.k.N]; exact hlt) (noZ_of kk.zi h8) w3 nd3
            refine ⟨_, e1, .inr (.inl ⟨a, vs, k, v2, rfl, rfl, Same.sqT st.sm hsq, ?_, ?_⟩)⟩
            · rw [atI_nat e2]
            · refine h _ G2 H os3 st3 (fr.weak fun a q => (pm2.mem_iff).mp (List.mem_append_left _ (List.mem_append_left _ q))) fun a q => .inl ((pm2.mem_iff).mp ?_)
              rcases List.mem_append.mp (sub3 a q) with q | q
              · exact List.mem_append_left _ (List.mem_append_left _ (sub a q))
              · exact List.mem_append_right _ q
      | _ => simp [mvD] at em
theorem ssl_thaw {i : Nat} {r : IS} (hr : SSL c rm io zi TH r) : SSL c rm io zi TH (.seq (.thaw i) r) := by
  intro X Γl Γ Γ' z W x k okA t
  have okB : ∀ cn fs, (noZ zi [i] && (decide (gM Γ i = .no) && okS X.env.scope c rm io zi (TH cn fs) Γl (sM Γ i .all) r x Γ')) = true := fun cn fs => by
    have := okA cn fs
    cases x <;> exact this
  simp only [Bool.and_eq_true, decide_eq_true_eq] at okB
  have ok := okB "" []
  refine PSs.imp (hr X Γl _ Γ' z W x k (fun cn fs => (okB cn fs).2.2) t) fun D σ H hl q => ?_
  obtain ⟨G, ρ, os, st, h⟩ := q
  have h : SPo X.K X.mg z W rm io Γl Γ' (match (match gS ρ i with | some d => if plain d then Out.nx ρ else .bad | none => .bad) with | .nx ρ1 => runS TH rm io c.T r ρ1 | o => o) G H os D := h
  cases e : gS ρ i with
  | none => simp only [e] at h; exact (show False from h).elim
  | some d =>
    simp only [e] at h
    by_cases hp : plain d = true
    case neg => simp only [if_neg hp] at h; exact (show False from h).elim
    simp only [if_pos hp] at h
    obtain ⟨v, o1, o, o2, h1, h2, h3, h4, h5⟩ := st.sl.take e
    rw [ok.2.1] at h2
    obtain ⟨f, rfl⟩ := h2
    have sl := h5 (m' := .all) (Fr.refl st.sm []) (fun _ _ q => nomatch q) (show OwA X.K G H v d [] from Fz.own f hp)
    rw [set_self h1, sS_self e] at sl
    refine ⟨G, ρ, os, ⟨by rw [h3]; exact sl, st.nd, st.sm, fun j u q => ?_, st.z, st.zb⟩, h⟩
    have hj : i ≠ j := fun q2 => by
      subst q2
      exact noZ_of k.zi ok.1 u q
    rw [gM_sM hj]
    exact st.zt j u q
theorem Sl.hole {K : PySem.W.Frag} {G H : Hp} {Γ : List Mode} {σ : L2.St} {ρ : Slots} {os : List Addr} (h : Sl K G H Γ σ ρ os) : ∀ {j : Nat} {x : Option V}, gM Γ j = .no → Sl K G H Γ (σ.set j x) (sS ρ j none) os := by
  induction h with
  | nil => intro j x _; exact .nil
  | skip hs ih =>
    intro j x e
    cases j with
    | zero => exact .skip hs
    | succ j => exact .skip (ih e)
  | @«at» m Γ v d σ ρ o os w hs ih =>
    intro j x e
    cases j with
    | zero =>
      have e : m = .no := e
      subst e
      obtain ⟨_, rfl⟩ := w
      exact .skip hs
    | succ j => exact .at w (ih e)
theorem ssl_inn2 {j i : Nat} {kc n : Int} {r : IS} (hr : SSL c rm io zi TH r) : SSL c rm io zi TH (.seq (.inn2 j i kc n) r) := by
  intro X Γl Γ Γ' z W xs kk okA t
  have ok := okA "" []
  match xs, okA, ok with
  | [], okA, ok => simp [okS] at ok
  | [x1], okA, ok => simp [okS, ok1] at ok
  | x1 :: x2 :: xs, okA, ok =>
    have okB : ∀ cn fs, (okI2 X.env.scope c zi Γ j i kc n x1 x2 && okS X.env.scope c rm io zi (TH cn fs) Γl Γ r xs Γ') = true := fun cn fs => okA cn fs
    simp only [Bool.and_eq_true] at okB
    have ok := (okB "" []).1
    unfold okI2 at ok
    split at ok
    case h_2 => cases ok
    rename_i y py x px xk ps p y' py' m ap n' j1 pc cp p2 _
    simp only [Bool.and_eq_true, decide_eq_true_eq] at ok
    obtain ⟨h1, h2, h3, h4, h5, h6, h7, h8, h9, hij, rfl, h12, h13, h14, rfl, hl2, rfl⟩ := ok
    have hN : X.N.Nodup := by rw [kk.k.N]; exact kk.k.nd
    have hlt := okTgs_lt h1 j (by simp)
    simp only [okTgs, Bool.and_eq_true, decide_eq_true_eq, Bool.or_eq_true] at h1
    obtain ⟨⟨hx1, hx2⟩, _⟩ := h1
    have hyN : X.N[j]? = some y' := by rw [kk.k.N]; exact hx1
    have hloc : Loc X.env.scope y' := hx2.elim .inl fun q => .inr q.1
    have hfn : X.fn y' = true ∨ X.env.scope.names.lookup y' = some .local := hx2.elim .inr fun q => .inl (kk.fnc y' q.2)
    obtain ⟨pk, hs⟩ := kc_int (X := X) h8
    have pv := pe_var (X := X) (pos := px) (i := i) (by rw [kk.k.N]; exact h2) (vis_of h3) (dbg_of h6) (dbg_of h7)
    have pr := pe_ix (X := X) (pos := ps) ix_seq pv pk (slice_of hs)
    have ps1 := ps_set (pos := p) (pos' := py) hN hyN hloc pr (sw_no rfl) hfn
    have pv2 := pe_var (X := X) (pos := py') (i := j) (by rw [kk.k.N]; exact hx1) (vis_of h12) (dbg_of h13) (dbg_of h14)
    have ps2 := ps_expr (pos := p2) (pe_bm (X := X) (cpos := cp) PySem.F.plainAttrs_list PySem.F.slot_list_append PySem.F.type_list_append mt_append pv2 (pa_cons (pe_int (X := X) (i := n') (j := j1) (pos := pc)) pa_nil rfl) rfl rfl (beq_iff_eq.mpr hl2) rfl) (sw_noN rfl)
    refine PSs.imp (pss_cons ps1 (pss_cons ps2 (hr X Γl Γ Γ' z W xs kk (fun cn fs => (okB cn fs).2) t))) fun D σ H hl q => ?_
    obtain ⟨G, ρ, os, st, h⟩ := q
    have h : SPo X.K X.mg z W rm io Γl Γ' (match (match gS ρ i with
      | some (.lst l) => (match appD l kc n' with | some l2 => Out.nx (sS (sS ρ i (some (.lst l2))) j none) | none => .bad)
      | _ => .bad) with | .nx ρ1 => runS TH rm io c.T r ρ1 | o => o) G H os D := h
    cases e : gS ρ i with
    | none => simp only [e] at h; exact (show False from h).elim
    | some d =>
      simp only [e] at h
      cases d with
      | lst l =>
        simp only at h
        cases ea : appD l kc n' with
        | none => simp only [ea] at h; exact (show False from h).elim
        | some l2 =>
          simp only [ea] at h
          obtain ⟨a, vs, b, ws, e1, ha, e2, hb, hlt2, st', fr⟩ := inner_put st e h4 ea
          refine ⟨_, e1, .inl ⟨a, vs, kc, .ref b, rfl, rfl, .inl (.inl ha), e2, ?_⟩⟩
          refine ⟨.ref b, ?_, .inl ⟨rfl, _, .inl (.inl hb)⟩, ?_⟩
          · exact List.getElem?_set_self (by rw [hl, kk.k.N]; exact hlt)
          refine ⟨b, ws, .int n', rfl, rfl, hb, hlt2, ?_⟩
          refine ⟨G, sS (sS ρ i (some (.lst l2))) j none, os, ⟨st'.sl.hole h5, st'.nd, st'.sm, st'.zt, fun i2 v B e => ?_, st'.zb⟩, SPo.shift fr (Sub.refl H os) h⟩
          rw [List.getElem?_set_ne fun q => noZ_of kk.zi h9 (v, B) (by rw [q]; exact e)]
          exact st'.z i2 v B e
      | _ => exact (show False from h).elim
theorem ss_splI {i k : Nat} : SS1 c rm io zi TH (.splI i k) := by
  intro X Γl Γ Γ' z W x kk okA t
  have ok := okA "" []
  cases x <;> try (simp only [ok1, Bool.false_eq_true] at ok; done)
  rename_i x p
  cases x <;> try (simp only [ok1, Bool.false_eq_true] at ok; done)
  rename_i fx as ks pc
  obtain ⟨g, pg, y, py, k', j1, pk, ps, rfl, rfl, rfl⟩ : ∃ g pg y py k' j1 pk ps, fx = (.Name g pg) ∧ as = ((.Subscript (.Name y py) (.Constant (.int k') j1 pk) ps) :: []) ∧ ks = [] := by
    cases fx <;> try exact absurd (show false = true from ok) Bool.false_ne_true
    rename_i q1_ q2_
    cases as <;> try exact absurd (show false = true from ok) Bool.false_ne_true
    rename_i q3_ q4_
    cases q3_ <;> try exact absurd (show false = true from ok) Bool.false_ne_true
    rename_i q5_ q6_ q7_
    cases q5_ <;> try exact absurd (show false = true from ok) Bool.false_ne_true
    rename_i q8_ q9_
    cases q6_ <;> try exact absurd (show false = true from ok) Bool.false_ne_true
    rename_i q10_ q11_ q12_
    cases q10_ <;> try exact absurd (show false = true from ok) Bool.false_ne_true
    rename_i q13_
    cases q4_ <;> try exact absurd (show false = true from ok) Bool.false_ne_true
    cases ks <;> try exact absurd (show false = true from ok) Bool.false_ne_true
    exact ⟨_, _, _, _, _, _, _, _, rfl, rfl, rfl⟩
  simp only [ok1, Bool.and_eq_true, decide_eq_true_eq] at ok
  obtain ⟨rfl, hh, hE, h1, h2, h3, h4, h5, h6, rfl, h7⟩ := ok
  have hh : c.hot = false := by simpa using hh
  obtain ⟨lv, hr, ea⟩ := kk.eat hh g hE
  obtain ⟨f, fd, fps, F, mg, kp, bd⟩ := ea.ex
  obtain ⟨g1, g2⟩ := gl_of h1
  have pv := pe_var (X := X) (pos := py) (i := i) (by rw [kk.k.N]; exact h2) (vis_of h3) (dbg_of h5) (dbg_of h6)
  have pr := pe_ix (X := X) (pos := ps) ix_seq pv (pe_int (X := X) (i := (k : Int)) (j := j1) (pos := pk)) (slice_of rfl)
  have pe : PE X (.Call (.Name g pg) [.Subscript (.Name y py) (.Constant (.int (k : Int)) j1 pk) ps] [] pc) _ := pe_callS (E := WE fun c d _ H => W c d H) F hr g1 mg kp bd (fun σ => L2N.passAt t σ) (pa_cons pr pa_nil rfl) g2
  refine PS.imp (ps_expr pe (sw_noN rfl)) fun D σ H hl q => ?_
  obtain ⟨G, ρ, os, st, h⟩ := q
  have h : SPo X.K X.mg z W rm io Γl (sM Γ i .no) (match gS ρ i with
    | some (.tup l) => (match l[k]? with
      | some d => if smD d then .nx (sS ρ i none) else .bad
      | none => .bad)
    | _ => .bad) G H os D := h
  cases e : gS ρ i with
  | none => simp only [e] at h; exact (show False from h).elim
  | some d =>
    simp only [e] at h
    cases d with
    | tup l =>
      cases em : l[k]? with
      | none => simp only [em] at h; exact (show False from h).elim
      | some d2 =>
        simp only [em] at h
        by_cases hs : smD d2 = true
        case neg => simp only [if_neg hs] at h; exact (show False from h).elim
        simp only [if_pos hs] at h
        obtain ⟨v, o1, o, o2, e1, w, eos, sl, _⟩ := st.sl.take e
        rw [h4] at w
        have w : OwA X.K G H v (.tup l) o := w
        cases w with
        | @tup a vs _ _ hsq r =>
          obtain ⟨v2, oe, orr, e2, w2, pm⟩ := OwAL.item k r em
          have pm2 : ((oe ++ orr) ++ (o1 ++ o2)).Perm os := by
            rw [eos, List.perm_iff_count]
            intro x
            have := List.perm_iff_count.mp pm x
            simp only [List.count_append] at this ⊢
            omega
          have nd := (pm2.nodup_iff).mpr st.nd
          obtain ⟨n1, n2, n3⟩ := List.nodup_append.mp nd
          have dj : ∀ a ∈ o1 ++ o2, a ∉ oe := fun a q q' => n3 a (List.mem_append_left _ q') a q rfl
          refine ⟨_, e1, .inr (.inl ⟨a, vs, k, v2, rfl, rfl, Same.sqT st.sm hsq, by rw [atI_nat e2], v2, d2, oe, G, rfl, st.sm, w2, (List.nodup_append.mp n1).1, hs, fun v' H' fr => ?_⟩)⟩
          have st0 : Stt X.K z (sM Γ i .no) G H σ (sS ρ i none) (o1 ++ o2) := ⟨sl.remode gS_sS_none, n2, st.sm, fun j u q => by
            have hj : i ≠ j := fun q2 => by
              subst q2
              have := kk.zi _ _ q
              simp [noZ, this] at h7
            rw [gM_sM hj]
            exact st.zt j u q, st.z, st.zb⟩
          exact h σ G H' (o1 ++ o2) (st0.frame fr dj) (fr.weak fun a q => (pm2.mem_iff).mp (List.mem_append_left _ (List.mem_append_left _ q))) fun a q => .inl ((pm2.mem_iff).mp (List.mem_append_right _ q))
    | _ => exact (show False from h).elim
end OS
namespace OS
open PySem PySem.Spec PyProof.Rows L2
variable {c : SC} {rm : Mode} {io : Bool} {zi : Option Nat} {TH : Str → List (Str × Int) → List Sig}

/-! ### try -/
theorem takesLen {X : Cx} {W : WX} (t : L2N.Takes X W) : L2N.Takes X (fun c d _ H => ∀ σ', σ'.length = X.N.length → W c d σ' H) := fun u s' ⟨a, B, sI, pins, σ, H, cls, d, e, I, nb, up, sky, na, os, ag, w⟩ =>
  t u s' ⟨a, B, sI, pins, σ, H, cls, d, e, I, nb, up, sky, na, os, ag, w σ I.len⟩
/-- G with another word at the places of dd -/
def ovr (dd : Option Addr) (G1 G : Hp) : Hp := fun b => if dd = some b then G1 b else G b
theorem ovr_in {dd : Option Addr} {G1 G : Hp} {b : Addr} (h : dd = some b) : ovr dd G1 G b = G1 b := if_pos h
theorem ovr_out {dd : Option Addr} {G1 G : Hp} {b : Addr} (h : dd ≠ some b) : ovr dd G1 G b = G b := if_neg h
section
variable {K : PySem.W.Frag} {dd : Option Addr} {G1 G H : Hp}
theorem sqT_ovr (hx : ∀ b, dd = some b → ∃ fs, G b = some (.xd fs)) {a : Addr} {vs : List V} (h : SqT K G a vs) : SqT K (ovr dd G1 G) a vs := by
  rcases h with (h | ⟨o, h⟩) | h
  · refine .inl (.inl ?_)
    rw [ovr_out fun e => ?_]; exact h
    obtain ⟨fs, q⟩ := hx a e
    rw [q] at h; cases h
  · refine .inl (.inr ⟨o, ?_⟩)
    rw [ovr_out fun e => ?_]; exact h
    obtain ⟨fs, q⟩ := hx a e
    rw [q] at h; cases h
  · exact .inr h
theorem sqL_ovr (hx : ∀ b, dd = some b → ∃ fs, G b = some (.xd fs)) {a : Addr} {vs : List V} (h : SqL K G a vs) : SqL K (ovr dd G1 G) a vs := by
  rcases h with (h | ⟨o, h⟩) | h
  · refine .inl (.inl ?_)
    rw [ovr_out fun e => ?_]; exact h
    obtain ⟨fs, q⟩ := hx a e
    rw [q] at h; cases h
  · refine .inl (.inr ⟨o, ?_⟩)
    rw [ovr_out fun e => ?_]; exact h
    obtain ⟨fs, q⟩ := hx a e
    rw [q] at h; cases h
  · exact .inr h
mutual
theorem Fz.ovr (hx : ∀ b, dd = some b → ∃ fs, G b = some (.xd fs)) : ∀ {v : V} {d : D}, Fz K G v d → Fz K (ovr dd G1 G) v d
  | _, _, .non => .non
  | _, _, .bl b => .bl b
  | _, _, .int i => .int i
  | _, _, .str x => .str x
  | _, _, .tup h r => .tup (sqT_ovr hx h) (FzL.ovr hx r)
  | _, _, .lst (a := a) h r => .lst (by
      rw [ovr_out fun e => by
        obtain ⟨fs, q⟩ := hx a e
        rw [q] at h; cases h]
      exact h) (FzL.ovr hx r)
  | _, _, .scr h => .scr (sqL_ovr hx h)
theorem FzL.ovr (hx : ∀ b, dd = some b → ∃ fs, G b = some (.xd fs)) : ∀ {vs : List V} {ds : List D}, FzL K G vs ds → FzL K (ovr dd G1 G) vs ds
  | _, _, .nil => .nil
  | _, _, .cons h r => .cons (Fz.ovr hx h) (FzL.ovr hx r)
end
mutual
theorem OwA.ovr (hx : ∀ b, dd = some b → ∃ fs, G b = some (.xd fs)) (hh : ∀ b, dd = some b → ∃ fs, H b = some (.xd fs)) : ∀ {v : V} {d : D} {o : List Addr}, OwA K G H v d o → OwA K (OS.ovr dd G1 G) H v d o
  | _, _, _, .non => .non
  | _, _, _, .bl b => .bl b
  | _, _, _, .int i => .int i
  | _, _, _, .str x => .str x
  | _, _, _, .tup h r => .tup (sqT_ovr hx h) (OwAL.ovr hx hh r)
  | _, _, _, .lst (a := a) h g r => .lst h (by
      rw [ovr_out fun e => by
        obtain ⟨fs, q⟩ := hh a e
        rw [q] at h; cases h]
      exact g) (OwAL.ovr hx hh r)
theorem OwAL.ovr (hx : ∀ b, dd = some b → ∃ fs, G b = some (.xd fs)) (hh : ∀ b, dd = some b → ∃ fs, H b = some (.xd fs)) : ∀ {vs : List V} {ds : List D} {o : List Addr}, OwAL K G H vs ds o → OwAL K (OS.ovr dd G1 G) H vs ds o
  | _, _, _, .nil => .nil
  | _, _, _, .cons h r => .cons (OwA.ovr hx hh h) (OwAL.ovr hx hh r)
end
theorem Own.ovr (hx : ∀ b, dd = some b → ∃ fs, G b = some (.xd fs)) (hh : ∀ b, dd = some b → ∃ fs, H b = some (.xd fs)) {m : Mode} {v : V} {d : D} {o : List Addr} (h : Own K G H m v d o) : Own K (OS.ovr dd G1 G) H m v d o := by
  cases m with
  | no => exact ⟨h.1.ovr hx, h.2⟩
  | top =>
    obtain ⟨a, vs, ds, rfl, rfl, e, g, r, rfl⟩ := h
    refine ⟨a, vs, ds, rfl, rfl, e, ?_, r.ovr hx, rfl⟩
    rw [ovr_out fun q => by
      obtain ⟨fs, w⟩ := hh a q
      rw [w] at e; cases e]
    exact g
  | all => exact OwA.ovr hx hh h
end
theorem sl_none {K : PySem.W.Frag} {G H : Hp} : ∀ {Γ : List Mode} {σ : L2.St}, σ.length = Γ.length → Sl K G H Γ σ (List.replicate σ.length none) []
  | [], [], _ => .nil
  | _ :: _, _ :: σ, h => .skip (sl_none (by simpa using h))
  | [], _ :: _, h => by simp at h
  | _ :: _, [], h => by simp at h
theorem gM_sM_same : ∀ {Γ : List Mode} {i : Nat} {m : Mode}, i < Γ.length → gM (sM Γ i m) i = m
  | [], _, _, h => by simp at h
  | _ :: _, 0, _, _ => rfl
  | _ :: r, i + 1, m, h => gM_sM_same (Γ := r) (by simpa using h)
theorem sM_len : ∀ {Γ : List Mode} {i : Nat} {m : Mode}, (sM Γ i m).length = Γ.length
  | [], _, _ => rfl
  | _ :: _, 0, _ => rfl
  | _ :: r, i + 1, m => by simp [sM, sM_len (Γ := r)]
theorem ss_try {n : Nat} {b h : IS} (hb : SSL c rm io zi TH b)
    (hh : ∀ (cn : Str) (fs : List (Str × Int)) (zi' : Option Nat), SSL { c with hot := true, T := TH cn fs } rm io zi' (fun _ _ => []) h) : SS1 c rm io zi TH (.tryR n b h) := by
  intro X Γl Γ Γ' z W x k okA tk
  have ok := okA "" []
  cases x <;> try (simp only [ok1, Bool.false_eq_true] at ok; done)
  rename_i xb hds xe xf p
  obtain ⟨ce, pe, en, h₀, hs, ph, rfl, rfl, rfl⟩ : ∃ ce pe en h₀ hs ph, hds = ((.ExceptHandler (some (.Name ce pe)) (some en) (h₀ :: hs) ph) :: []) ∧ xe = [] ∧ xf = [] := by
    clear okA
    cases hds <;> try exact absurd (show false = true from ok) Bool.false_ne_true
    rename_i q1_ q2_
    cases q1_ <;> try exact absurd (show false = true from ok) Bool.false_ne_true
    rename_i q3_ q4_ q5_ q6_
    cases q3_ <;> try exact absurd (show false = true from ok) Bool.false_ne_true
    rename_i q7_
    cases q7_ <;> try exact absurd (show false = true from ok) Bool.false_ne_true
    rename_i q8_ q9_
    cases q4_ <;> try exact absurd (show false = true from ok) Bool.false_ne_true
    rename_i q10_
    cases q5_ <;> try exact absurd (show false = true from ok) Bool.false_ne_true
    rename_i q11_ q12_
    cases q2_ <;> try exact absurd (show false = true from ok) Bool.false_ne_true
    cases xe <;> try exact absurd (show false = true from ok) Bool.false_ne_true
    cases xf <;> try exact absurd (show false = true from ok) Bool.false_ne_true
    exact ⟨_, _, _, _, _, _, rfl, rfl, rfl⟩
  simp only [ok1, Bool.and_eq_true, decide_eq_true_eq] at ok okA
  obtain ⟨hc, hio, ⟨hn, hΓ⟩, rfl, h1, h2, ⟨h3, _⟩, h4, _⟩ := ok
  have hev := fun cn fs => (okA cn fs).2.2.2.2.2.2.1.2
  have hc : c.hot = false := by simpa using hc
  have hio : io = false := by simpa using hio
  subst hio
  have h5 := fun cn fs => (okA cn fs).2.2.2.2.2.2.2.2.1
  have h6 := fun cn fs => (okA cn fs).2.2.2.2.2.2.2.2.2
  obtain ⟨g1, g2⟩ := gl_of h1
  have T := k.tr hc
  obtain ⟨C, hC, hexm⟩ := T.ex
  have hN : X.N.Nodup := by rw [k.k.N]; exact k.k.nd
  have hi : X.N[c.N.idxOf en]? = some en := by
    rw [k.k.N, List.getElem?_eq_getElem (List.idxOf_lt_length_iff.mpr h3)]
    simp
  have hilt : c.N.idxOf en < c.N.length := List.idxOf_lt_length_iff.mpr h3
  refine PS.imp (L2N.ps_try_as (i := c.N.idxOf en) (ts := fun a cls d => fun De σ H => ∃ cn fs B, noE (TH cn fs) = false ∧ ExD X.mg B cn fs cls d ∧ tS (TH cn fs) (fun _ _ => []) X.K X.mg (some (c.N.idxOf en, .ref a, B)) WF rm false [] (sM (noG Γ) (c.N.idxOf en) .top) (nxtM h (sM (noG Γ) (c.N.idxOf en) .top)) h De σ H)
    (tb := fun (W0 : WX) => tS c.T TH X.K X.mg z (fun c d H => ∀ σ', σ'.length = X.N.length → W0 c d σ' H) rm false Γl Γ Γ' b)
    (Wout := fun c d _ H => W c d H) T.stk T.frm hN hi h2 ⟨g1, g2, .inl hC⟩ tk ?_ ?_) fun De σ H hl q => ?_
  · intro W0 pn xe tk0 hp
    have kk : Cos c false TH (X.tr pn xe) z zi := by
      refine ⟨⟨k.k.N, k.k.nd, k.k.hu, k.k.calm, fun e => ?_, (fun e => by rw [hc] at e; cases e), k.k.blt, k.k.con⟩, k.fnc, hp, k.kind, k.zi, k.zio, fun e cn fs q => ?_, fun e => ?_, fun e x q => ?_⟩
      · obtain ⟨lv, r, t⟩ := k.k.tab e
        exact ⟨lv, r, fun j s q => ⟨(t j s q).ex⟩⟩
      · exact fun pn' xe' => k.rai e cn fs q pn' xe'
      · exact ⟨T.stk, T.frm, T.ex, T.suite⟩
      · obtain ⟨lv, r, t⟩ := k.eat e x q
        exact ⟨lv, r, ⟨t.ex⟩⟩
    exact hb (X.tr pn xe) Γl Γ Γ' z _ xb kk h5 (takesLen tk0)
  · intro a oe cls d pn hz hf
    refine ⟨fun pins s σ H De I q => ?_⟩
    obtain ⟨cn, fs, B, e1, e2, q⟩ := q
    have ck := T.suite cn fs _ en a oe cls d pn B e1 (hev cn fs) hi e2 hz hf
    have kk : Cos { c with hot := true, T := TH cn fs } false (fun _ _ => []) (X.suite a ((a, oe) :: pn)) (some (c.N.idxOf en, .ref a, B)) (some (c.N.idxOf en)) := by
      refine ⟨ck, k.fnc, ?_, k.kind, fun i v e => by cases e; rfl, fun e => (nomatch e), fun e => (nomatch e), fun e => (nomatch e), fun e => (nomatch e)⟩
      exact PassesOwn.never
    have := hh cn fs (some (c.N.idxOf en)) (X.suite a ((a, oe) :: pn)) [] (sM (noG Γ) (c.N.idxOf en) .top) (nxtM h (sM (noG Γ) (c.N.idxOf en) .top)) (some (c.N.idxOf en, .ref a, B)) WF (h₀ :: hs) kk (fun _ _ => h6 cn fs) takes0N
    exact this.run pins s σ H De I q
  · obtain ⟨G, ρ, os, st, q⟩ := q
    have q : SPo X.K X.mg z W rm false Γl Γ' (match runS TH rm false c.T b ρ with
      | .exn c fs => if noE (TH c fs) then .bad else (match runS (fun _ _ => []) rm false (TH c fs) h (List.replicate n none) with
        | .rt d ρ1 => .rt d ρ1
        | _ => .bad)
      | o => o) G H os De := q
    refine ⟨G, ρ, os, st, ?_⟩
    cases er : runS TH rm false c.T b ρ with
    | nx ρ1 => rw [er] at q; exact q
    | bk ρ1 => rw [er] at q; exact q
    | ct ρ1 => rw [er] at q; exact q
    | rt d ρ1 => rw [er] at q; exact q
    | bad => rw [er] at q; exact q
    | exn cn fs =>
      rw [er] at q
      simp only at q
      intro G1 H1 cls dd hx fr σ' hl'
      cases he : noE (TH cn fs) with
      | true => rw [he, if_pos rfl] at q; exact q.elim
      | false =>
        rw [he, if_neg (by simp)] at q
        refine ⟨true, hexm cn fs H1 cls dd he hx, fun _ a na => ?_, fun e => (nomatch e)⟩
        have xdd : ∀ b, dd = some b → ∃ fs, H1 b = some (.xd fs) := fun b e => by
          obtain ⟨C', _, _, hd | hd⟩ := hx
          · rw [hd.2] at e; cases e
          · obtain ⟨_, d, ed, hd⟩ := hd
            rw [ed] at e; cases e
            exact ⟨_, hd⟩
        have xB : ExD X.mg (ovr dd H1 fun _ => none) cn fs cls dd := by
          obtain ⟨C', h1, h2, hd | hd⟩ := hx
          · exact ⟨C', h1, h2, .inl hd⟩
          · obtain ⟨nf, d, ed, hd⟩ := hd
            exact ⟨C', h1, h2, .inr ⟨nf, d, ed, by rw [ovr_in ed]; exact hd⟩⟩
        have hΓn : (noG Γ).length = n := by unfold noG; rw [List.length_map, hΓ]
        have hσn : (σ'.set (c.N.idxOf en) (some (V.ref a))).length = n := by rw [List.length_set, hl', k.k.N, hn]
        have sG0 : Same (ovr dd H1 G1) H1 := fun b o e => by
          by_cases w : dd = some b
          · rw [ovr_in w] at e; exact e
          · rw [ovr_out w] at e; exact fr.s b o e
        refine ⟨cn, fs, _, he, xB, ovr dd H1 G1, List.replicate n none, [], ⟨?_, List.nodup_nil, sG0, fun i v e => ?_, fun i v B e => ?_, fun i v B e => ?_⟩, ?_⟩
        · have := sl_none (K := X.K) (G := ovr dd H1 G1) (H := H1) (Γ := sM (noG Γ) (c.N.idxOf en) .top) (σ := σ'.set (c.N.idxOf en) (some (V.ref a))) (by rw [hσn, sM_len, hΓn])
          rw [hσn] at this; exact this
        · cases e
          rw [gM_sM_same (by rw [hΓn, hn]; exact hilt)]
          simp
        · cases e
          rw [List.getElem?_set_self (by rw [hl', k.k.N]; exact hilt)]
        · cases e
          intro b o e
          by_cases w : dd = some b
          · rw [ovr_in w] at e ⊢; exact e
          · rw [ovr_out w] at e; cases e
        · cases eh : runS (fun _ _ => []) rm false (TH cn fs) h (List.replicate n none) with
          | rt d ρ1 =>
            rw [eh] at q
            intro v G' H' o oz w ez nd fr2 sb
            have xG' : ∀ b, dd = some b → ∃ fs, G' b = some (.xd fs) := fun b e => by
              obtain ⟨f, q⟩ := xdd b e
              exact ⟨f, fr2.g b _ (by rw [ovr_in e]; exact q)⟩
            have xH' : ∀ b, dd = some b → ∃ fs, H' b = some (.xd fs) := fun b e => by
              obtain ⟨f, q⟩ := xG' b e
              exact ⟨f, fr2.s b _ q⟩
            refine q v (ovr dd G1 G') H' o oz (w.ovr xG' xH') ez nd ⟨fun b u e => ?_, fun b u e => ?_, fun b u e nb => ?_⟩ fun b hb => ?_
            · by_cases w : dd = some b
              · rw [ovr_in w]; exact fr.g b u e
              · rw [ovr_out w]; exact fr2.g b u (by rw [ovr_out w]; exact fr.g b u e)
            · by_cases w : dd = some b
              · rw [ovr_in w] at e
                exact (fr2.k b u (fr.s b u e) (by simp)).1
              · rw [ovr_out w] at e; exact fr2.s b u e
            · obtain ⟨k1, k2⟩ := fr.k b u e nb
              obtain ⟨k3, k4⟩ := fr2.k b u k1 (by simp)
              refine ⟨k3, ?_⟩
              by_cases w : dd = some b
              · rw [ovr_in w]; exact k2
              · rw [ovr_out w, k4, ovr_out w]; exact k2
            · rcases sb b hb with w | w
              · cases w
              · by_cases nb : b ∈ os
                · exact .inl nb
                · exact .inr (fr.fresh w nb)
          | nx ρ1 => rw [eh] at q; exact q.elim
          | bk ρ1 => rw [eh] at q; exact q.elim
          | ct ρ1 => rw [eh] at q; exact q.elim
          | exn cc ff => rw [eh] at q; exact q.elim
          | bad => rw [eh] at q; exact q.elim
theorem gM_noG : ∀ {Γ : List Mode} {i : Nat}, gM (noG Γ) i = .no
  | [], _ => rfl
  | _ :: _, 0 => rfl
  | _ :: r, i + 1 => gM_noG (Γ := r)
theorem sS_none_rep : ∀ {n k : Nat}, sS (List.replicate n none) k none = List.replicate n none
  | 0, _ => rfl
  | _ + 1, 0 => rfl
  | n + 1, k + 1 => by
    show none :: sS (List.replicate n none) k none = none :: List.replicate n none
    rw [sS_none_rep]
theorem set_keep {α : Type} : ∀ {l : List α} {i : Nat} {x : α}, l[i]? = some x → l.set i x = l
  | [], _, _, h => by simp at h
  | a :: r, 0, x, h => by simp at h; subst h; rfl
  | a :: r, i + 1, x, h => by rw [List.set_cons_succ, set_keep (l := r) (by simpa using h)]
theorem ss_tryC {n : Nat} {t : Str} {j : Nat} {as : IE} {k : Nat} {h : IS} (hs : SL c as)
    (hh : ∀ (cn : Str) (fs : List (Str × Int)) (zi' : Option Nat), SSL { c with hot := true, T := TH cn fs } rm io zi' (fun _ _ => []) h) : SS1 c rm io zi TH (.tryC n t j as k h) := by
  intro X Γl Γ Γ' z W x kk0 okA tk
  have ok := okA "" []
  cases x <;> try (simp only [ok1, Bool.false_eq_true] at ok; done)
  rename_i xb hds xe xf p
  obtain ⟨t', j1, pc, f, pf, y, ys, pcall, ctx, ptup, pret, ce, pe, en, h₀, hs', ph, rfl, rfl, rfl, rfl⟩ : ∃ t' j1 pc f pf y ys pcall ctx ptup pret ce pe en h₀ hs' ph, xb = ((.Return (some (.Tuple ((.Constant (.str t') j1 pc) :: ((.Call (.Name f pf) (y :: ys) [] pcall) :: [])) ctx ptup)) pret) :: []) ∧ hds = ((.ExceptHandler (some (.Name ce pe)) (some en) (h₀ :: hs') ph) :: []) ∧ xe = [] ∧ xf = [] := by
    clear okA
    cases xb <;> try exact absurd (show false = true from ok) Bool.false_ne_true
    rename_i q1_ q2_
    cases q1_ <;> try exact absurd (show false = true from ok) Bool.false_ne_true
    rename_i q3_ q4_
    cases q3_ <;> try exact absurd (show false = true from ok) Bool.false_ne_true
    rename_i q5_
    cases q5_ <;> try exact absurd (show false = true from ok) Bool.false_ne_true
    rename_i q6_ q7_ q8_
    cases q6_ <;> try exact absurd (show false = true from ok) Bool.false_ne_true
    rename_i q9_ q10_
    cases q9_ <;> try exact absurd (show false = true from ok) Bool.false_ne_true
    rename_i q11_ q12_ q13_
    cases q11_ <;> try exact absurd (show false = true from ok) Bool.false_ne_true
    rename_i q14_
    cases q10_ <;> try exact absurd (show false = true from ok) Bool.false_ne_true
    rename_i q15_ q16_
    cases q15_ <;> try exact absurd (show false = true from ok) Bool.false_ne_true
    rename_i q17_ q18_ q19_ q20_
    cases q17_ <;> try exact absurd (show false = true from ok) Bool.false_ne_true
    rename_i q21_ q22_
    cases q18_ <;> try exact absurd (show false = true from ok) Bool.false_ne_true
    rename_i q23_ q24_
    cases q19_ <;> try exact absurd (show false = true from ok) Bool.false_ne_true
    cases q16_ <;> try exact absurd (show false = true from ok) Bool.false_ne_true
    cases q2_ <;> try exact absurd (show false = true from ok) Bool.false_ne_true
    cases hds <;> try exact absurd (show false = true from ok) Bool.false_ne_true
    rename_i q25_ q26_
    cases q25_ <;> try exact absurd (show false = true from ok) Bool.false_ne_true
    rename_i q27_ q28_ q29_ q30_
    cases q27_ <;> try exact absurd (show false = true from ok) Bool.false_ne_true
    rename_i q31_
    cases q31_ <;> try exact absurd (show false = true from ok) Bool.false_ne_true
    rename_i q32_ q33_
    cases q28_ <;> try exact absurd (show false = true from ok) Bool.false_ne_true
    rename_i q34_
    cases q29_ <;> try exact absurd (show false = true from ok) Bool.false_ne_true
    rename_i q35_ q36_
    cases q26_ <;> try exact absurd (show false = true from ok) Bool.false_ne_true
    cases xe <;> try exact absurd (show false = true from ok) Bool.false_ne_true
    cases xf <;> try exact absurd (show false = true from ok) Bool.false_ne_true
    exact ⟨_, _, _, _, _, _, _, _, _, _, _, _, _, _, _, _, _, rfl, rfl, rfl, rfl⟩
  simp only [ok1, Bool.and_eq_true, decide_eq_true_eq] at ok okA
  obtain ⟨hc, hio, ⟨hn, hΓ⟩, rfl, h1, h2, ⟨h3, _⟩, h4, rfl, hT, hg, hL, hk, hken, hrm, _⟩ := ok
  have hev := fun cn fs => (okA cn fs).2.2.2.2.2.2.1.2
  have hc : c.hot = false := by simpa using hc
  have hio : io = false := by simpa using hio
  subst hio
  have h6 := fun cn fs => (okA cn fs).2.2.2.2.2.2.2.2.2.2.2.2.2.2.2
  obtain ⟨g1, g2⟩ := gl_of h1
  obtain ⟨gf1, gf2⟩ := gl_of hg
  have T := kk0.tr hc
  obtain ⟨C, hC, hexm⟩ := T.ex
  have hN : X.N.Nodup := by rw [kk0.k.N]; exact kk0.k.nd
  have hi : X.N[c.N.idxOf en]? = some en := by
    rw [kk0.k.N, List.getElem?_eq_getElem (List.idxOf_lt_length_iff.mpr h3)]
    simp
  have hilt : c.N.idxOf en < c.N.length := List.idxOf_lt_length_iff.mpr h3
  cases ej : c.T[j]? with
  | none => rw [ej] at hT; cases hT
  | some s =>
    rw [ej] at hT
    simp only [Bool.and_eq_true, decide_eq_true_eq, Bool.not_eq_true'] at hT
    obtain ⟨rfl, hsio, hskw, hsrm⟩ := hT
    obtain ⟨lv, hr, tab⟩ := kk0.k.tab hc
    obtain ⟨fa, fd, fps, F, mgf, kp, bd⟩ := (tab j s ej).ex
    have bd := bindS_none hskw bd
    obtain ⟨a0, q0, eas, ha0, na0, hq0⟩ := okL_cons hL
    subst eas
    refine PS.imp (L2N.ps_try_as (i := c.N.idxOf en) (ts := fun a cls d => fun De σ H => ∃ cn fs B, noE (TH cn fs) = false ∧ ExD X.mg B cn fs cls d ∧ tS (TH cn fs) (fun _ _ => []) X.K X.mg (some (c.N.idxOf en, .ref a, B)) WF rm false [] (sM (noG Γ) (c.N.idxOf en) .top) (nxtM h (sM (noG Γ) (c.N.idxOf en) .top)) h De σ H)
      (tb := fun (W0 : WX) => fun De σ H => tG X.K X.mg z Γ WF (rL X.K) (runL c.T (.cons a0 q0)) σ H fun vs H1 => spOf X.K X.mg s vs H1 (fun v H2 => [V.str t', v].length ≤ sizeLine ∧ ∀ p, H2 p = none → De.rt (.ref p) (upd H2 p (.tup [.str t', v]))) (WE W0 σ))
      (Wout := fun c d _ H => W c d H) T.stk T.frm hN hi h2 ⟨g1, g2, .inl hC⟩ tk ?_ ?_) fun De σ H hl q => ?_
    · intro W0 pn xe tk0 hp
      have kq : Cok c (X.tr pn xe) z := ⟨kk0.k.N, kk0.k.nd, kk0.k.hu, kk0.k.calm, fun e => ⟨lv, hr, fun j s q => ⟨(tab j s q).ex⟩⟩, (fun e => by rw [hc] at e; cases e), kk0.k.blt, kk0.k.con⟩
      exact pss_one (ps_ret (pe_tup (pa_cons pe_str (pa_cons (pe_callS (X := X.tr pn xe) F hr gf1 mgf kp bd (fun σ => L2N.passAt tk0 σ) (hs (X.tr pn xe) Γ z WF (y :: ys) kq hL takes0N) gf2 (star_of na0) (any_star hq0)) pa_nil rfl) rfl)))
    · intro a oe cls d pn hz hf
      refine ⟨fun pins s σ H De I q => ?_⟩
      obtain ⟨cn, fs, B, e1, e2, q⟩ := q
      have ck := T.suite cn fs _ en a oe cls d pn B e1 (hev cn fs) hi e2 hz hf
      have kk : Cos { c with hot := true, T := TH cn fs } false (fun _ _ => []) (X.suite a ((a, oe) :: pn)) (some (c.N.idxOf en, .ref a, B)) (some (c.N.idxOf en)) := by
        refine ⟨ck, kk0.fnc, ?_, kk0.kind, fun i v e => by cases e; rfl, fun e => (nomatch e), fun e => (nomatch e), fun e => (nomatch e), fun e => (nomatch e)⟩
        exact PassesOwn.never
      have := hh cn fs (some (c.N.idxOf en)) (X.suite a ((a, oe) :: pn)) [] (sM (noG Γ) (c.N.idxOf en) .top) (nxtM h (sM (noG Γ) (c.N.idxOf en) .top)) (some (c.N.idxOf en, .ref a, B)) WF (h₀ :: hs') kk (fun _ _ => h6 cn fs) takes0N
      exact this.run pins s σ H De I q
    · obtain ⟨G, ρ, os, st, q⟩ := q
      have q : SPo X.K X.mg z W rm false Γl Γ' (match runL c.T (.cons a0 q0) ρ with
        | .ok (ds, ρ1) => (match callD c.T j ds with
          | .ok (d, _) => retD rm false (.tup [.str t', d]) ρ1
          | .exn c fs => if noE (TH c fs) then .bad else (match runS (fun _ _ => []) rm false (TH c fs) h (sS (List.replicate n none) k (gS ρ1 k)) with
            | .rt d ρ2 => .rt d ρ2
            | _ => .bad)
          | .bad => .bad)
        | _ => .bad) G H os De := q
      refine ⟨G, ρ, os, st, ?_⟩
      cases er : runL c.T (.cons a0 q0) ρ with
      | exn _ _ => rw [er] at q; exact q.elim
      | bad => rw [er] at q; exact q.elim
      | ok pr =>
        obtain ⟨ds, ρ1⟩ := pr
        rw [er] at q
        simp only at q
        intro G1 H1 os1 vs o st1 hfl nd1 fr1 sb1
        obtain ⟨fl, eo⟩ := hfl
        subst eo
        have q := SPo.shift fr1 sb1 q
        unfold callD at q
        rw [ej] at q
        simp only [hsio, Bool.false_eq_true, if_false] at q
        by_cases hln : ds.length = s.np
        case neg => rw [if_neg hln] at q; exact (show False from q).elim
        rw [if_pos hln] at q
        refine ⟨by rw [fl.length]; exact hln, G1, ds, [], st1.sm, hln, by unfold ArgOk; rw [hsio]; exact ⟨fl, rfl⟩, ?_⟩
        cases eφ : s.φ ds with
        | bad => rw [eφ] at q; exact (show False from q).elim
        | ok p =>
          obtain ⟨r, d'⟩ := p
          rw [eφ] at q
          intro G' H' v o oz hw he nd fr sb
          have he : oz = [] := by unfold EndOk at he; rw [hsio] at he; exact he
          subst he
          rw [List.append_nil] at nd sb
          rw [hsrm] at hw
          have hw : OwA X.K G' H' v r o := hw
          have dj : ∀ b ∈ os1, b ∉ ([] : List Addr) := fun _ _ q => nomatch q
          have st2 := st1.frame fr dj
          refine ⟨by show 2 ≤ sizeLine; rw [sizeLine_eq]; decide, fun pa hp => ?_⟩
          have gp := none_G st2 hp
          have sG : Same G' (upd G' pa (.tup [.str t', v])) := fun a o e => by rw [upd_ne (ne_of_none e gp)]; exact e
          have sH : Same (upd G' pa (.tup [.str t', v])) (upd H' pa (.tup [.str t', v])) := fun a o e => by
            by_cases c : a = pa
            · subst c; rw [upd_same] at e ⊢; exact e
            · rw [upd_ne c] at e ⊢; exact st2.sm a o e
          have fr3 : Fr G' H' (upd G' pa (.tup [.str t', v])) (upd H' pa (.tup [.str t', v])) [] := ⟨sG, sH, fun a o e _ => ⟨by rw [upd_ne (ne_of_none e hp)]; exact e, by rw [upd_ne (ne_of_none e hp)]⟩⟩
          have st3 := st2.frame fr3 dj
          have w3 : OwA X.K (upd G' pa (.tup [.str t', v])) (upd H' pa (.tup [.str t', v])) (.ref pa) (.tup [.str t', r]) o := by
            have := OwA.tup (K := X.K) (.inl (.inl upd_same)) (OwAL.frame fr3 (OwAL.cons (o := []) (.str t') (OwAL.cons (os := []) hw .nil)) (fun _ _ q => nomatch q))
            simpa using this
          have nd3 : (o ++ os1).Nodup := List.nodup_append.mpr ⟨nd, st1.nd, fun a ha b hb e => by
            subst e
            obtain ⟨⟨u, e⟩, _⟩ := st1.sl.there a hb
            rcases sb a ha with z | z
            · cases z
            · rw [e] at z; cases z⟩
          have hio0 : ioT false Γ = true := rfl
          refine ret_fin (m := .all) (o := o) hio0 kk0.zio st3 w3 nd3 (hrm.elim .inl fun e => .inr (.inl e.symm)) (SPo.shift ((fr.weak fun _ q => nomatch q).trans (fr3.weak fun _ q => nomatch q) (Sub.refl _ _)) (fun b hb => ?_) q)
          rcases List.mem_append.mp hb with hb | hb
          · exact (sb b hb).elim (fun z => nomatch z) .inr
          · exact .inl hb
        | exn cn fs =>
          rw [eφ] at q
          simp only at q
          intro G2 H2 cls dd hx fr2
          have fr : Fr G1 H1 G2 H2 os1 := fr2.weak fun _ q => nomatch q
          cases he : noE (TH cn fs) with
          | true => rw [he, if_pos rfl] at q; exact q.elim
          | false =>
            rw [he, if_neg (by simp)] at q
            refine ⟨true, hexm cn fs H2 cls dd he hx, fun _ a na => ?_, fun e => (nomatch e)⟩
            have st2 := st1.frame fr2 fun _ _ q => nomatch q
            have xdd : ∀ b, dd = some b → ∃ fs, H2 b = some (.xd fs) := fun b e => by
              obtain ⟨C', _, _, hd | hd⟩ := hx
              · rw [hd.2] at e; cases e
              · obtain ⟨_, d, ed, hd⟩ := hd
                rw [ed] at e; cases e
                exact ⟨_, hd⟩
            have xB : ExD X.mg (ovr dd H2 fun _ => none) cn fs cls dd := by
              obtain ⟨C', h1, h2, hd | hd⟩ := hx
              · exact ⟨C', h1, h2, .inl hd⟩
              · obtain ⟨nf, d, ed, hd⟩ := hd
                exact ⟨C', h1, h2, .inr ⟨nf, d, ed, by rw [ovr_in ed]; exact hd⟩⟩
            have hΓn : (noG Γ).length = n := by unfold noG; rw [List.length_map, hΓ]
            have hσn : (σ.set (c.N.idxOf en) (some (V.ref a))).length = n := by rw [List.length_set, hl, kk0.k.N, hn]
            have sG0 : Same (ovr dd H2 G2) H2 := fun b o e => by
              by_cases w : dd = some b
              · rw [ovr_in w] at e; exact e
              · rw [ovr_out w] at e; exact fr.s b o e
            have sG2 : Same G2 (ovr dd H2 G2) := fun b o e => by
              by_cases w : dd = some b
              · rw [ovr_in w]; exact fr.s b o e
              · rw [ovr_out w]; exact e
            have slN : Sl X.K (ovr dd H2 G2) H2 (sM (noG Γ) (c.N.idxOf en) .top) (σ.set (c.N.idxOf en) (some (V.ref a))) (List.replicate n none) [] := by
              have := sl_none (K := X.K) (G := ovr dd H2 G2) (H := H2) (Γ := sM (noG Γ) (c.N.idxOf en) .top) (σ := σ.set (c.N.idxOf en) (some (V.ref a))) (by rw [hσn, sM_len, hΓn])
              rw [hσn] at this; exact this
            have slK : Sl X.K (ovr dd H2 G2) H2 (sM (noG Γ) (c.N.idxOf en) .top) (σ.set (c.N.idxOf en) (some (V.ref a))) (sS (List.replicate n none) k (gS ρ1 k)) [] := by
              cases eg : gS ρ1 k with
              | none =>
                rw [sS_none_rep]
                exact slN
              | some dk =>
                obtain ⟨vk, ek, fk⟩ := st2.sl.get eg hk
                have ek2 : (σ.set (c.N.idxOf en) (some (V.ref a)))[k]? = some (some vk) := by rw [List.getElem?_set_ne (Ne.symm hken)]; exact ek
                have hkl : k < (σ.set (c.N.idxOf en) (some (V.ref a))).length := (List.getElem?_eq_some_iff.mp ek2).1
                have := slN.put (i := k) hkl (fk.mono sG2) (by rw [gM_sM (Ne.symm hken)]; exact gM_noG)
                rw [set_keep ek2] at this
                exact this
            refine ⟨cn, fs, _, he, xB, ovr dd H2 G2, sS (List.replicate n none) k (gS ρ1 k), [], ⟨slK, List.nodup_nil, sG0, fun i v e => ?_, fun i v B e => ?_, fun i v B e => ?_⟩, ?_⟩
            · cases e
              rw [gM_sM_same (by rw [hΓn, hn]; exact hilt)]
              simp
            · cases e
              rw [List.getElem?_set_self (by rw [hl, kk0.k.N]; exact hilt)]
            · cases e
              intro b o e
              by_cases w : dd = some b
              · rw [ovr_in w] at e ⊢; exact e
              · rw [ovr_out w] at e; cases e
            · cases eh : runS (fun _ _ => []) rm false (TH cn fs) h (sS (List.replicate n none) k (gS ρ1 k)) with
              | rt d ρ2 =>
                rw [eh] at q
                intro v G' H' o oz w ez nd fr3 sb
                have xG' : ∀ b, dd = some b → ∃ fs, G' b = some (.xd fs) := fun b e => by
                  obtain ⟨f, q⟩ := xdd b e
                  exact ⟨f, fr3.g b _ (by rw [ovr_in e]; exact q)⟩
                have xH' : ∀ b, dd = some b → ∃ fs, H' b = some (.xd fs) := fun b e => by
                  obtain ⟨f, q⟩ := xG' b e
                  exact ⟨f, fr3.s b _ q⟩
                refine q v (ovr dd G2 G') H' o oz (w.ovr xG' xH') ez nd ⟨fun b u e => ?_, fun b u e => ?_, fun b u e nb => ?_⟩ fun b hb => ?_
                · by_cases w : dd = some b
                  · rw [ovr_in w]; exact fr.g b u e
                  · rw [ovr_out w]; exact fr3.g b u (by rw [ovr_out w]; exact fr.g b u e)
                · by_cases w : dd = some b
                  · rw [ovr_in w] at e
                    exact (fr3.k b u (fr.s b u e) (by simp)).1
                  · rw [ovr_out w] at e; exact fr3.s b u e
                · obtain ⟨k1, k2⟩ := fr.k b u e nb
                  obtain ⟨k3, k4⟩ := fr3.k b u k1 (by simp)
                  refine ⟨k3, ?_⟩
                  by_cases w : dd = some b
                  · rw [ovr_in w]; exact k2
                  · rw [ovr_out w, k4, ovr_out w]; exact k2
                · rcases sb b hb with w | w
                  · cases w
                  · by_cases nb : b ∈ os1
                    · exact .inl nb
                    · exact .inr (fr.fresh w nb)
              | nx ρ1 => rw [eh] at q; exact q.elim
              | bk ρ1 => rw [eh] at q; exact q.elim
              | ct ρ1 => rw [eh] at q; exact q.elim
              | exn cc ff => rw [eh] at q; exact q.elim
              | bad => rw [eh] at q; exact q.elim
end OS
namespace OS
open PySem PySem.Spec PyProof.Rows L2

/-! ### all statements -/
structure SndS (rm : Mode) (io : Bool) (s : IS) : Prop where
  one : ∀ (c : SC) (zi : Option Nat) (TH : Str → List (Str × Int) → List Sig), SS1 c rm io zi TH s
  all : ∀ (c : SC) (zi : Option Nat) (TH : Str → List (Str × Int) → List Sig), SSL c rm io zi TH s
theorem seqAll {rm : Mode} {io : Bool} {s r : IS} (hs : SndS rm io s) (hr : SndS rm io r) (c : SC) (zi : Option Nat) (TH : Str → List (Str × Int) → List Sig) : SSL c rm io zi TH (.seq s r) := by
  by_cases q : ∃ i, s = .frz i
  · obtain ⟨i, rfl⟩ := q
    exact ssl_frz (hr.all c zi TH)
  · by_cases q1 : ∃ i, s = .thaw i
    · obtain ⟨i, rfl⟩ := q1
      exact ssl_thaw (hr.all c zi TH)
    · by_cases q2 : ∃ j i k n, s = .inn2 j i k n
      · obtain ⟨j, i, k, n, rfl⟩ := q2
        exact ssl_inn2 (hr.all c zi TH)
      · exact ssl_seq (hs.one c zi TH) (hr.all c zi TH) (fun i e => q ⟨i, e⟩) (fun i e => q1 ⟨i, e⟩) fun j i k n e => q2 ⟨j, i, k, n, e⟩
theorem sndS (rm : Mode) (io : Bool) : ∀ s : IS, SndS rm io s := by
  intro s
  induction s with
  | nil  =>
    exact ⟨fun c zi TH => SS1.triv fun sc Tq Γl Γ x Γ' => by simp only [ok1], fun c zi TH => ssl_nil⟩
  | seq s r hs hr =>
    exact ⟨fun c zi TH => SS1.triv fun sc Tq Γl Γ x Γ' => by simp only [ok1], fun c zi TH => seqAll hs hr c zi TH⟩
  | frz i =>
    exact ⟨fun c zi TH => SS1.triv fun sc Tq Γl Γ x Γ' => by simp only [ok1], fun c zi TH => SSL.triv fun sc Tq Γl Γ x Γ' => by simp only [okS]⟩
  | ex e =>
    exact ⟨fun c zi TH => ss_ex (snd c e).E, fun c zi TH => SSL.triv fun sc Tq Γl Γ x Γ' => by simp only [okS]⟩
  | asg tg e =>
    exact ⟨fun c zi TH => ss_asg (snd c e).E, fun c zi TH => SSL.triv fun sc Tq Γl Γ x Γ' => by simp only [okS]⟩
  | asgO i m e =>
    exact ⟨fun c zi TH => ss_asgO (snd c e), fun c zi TH => SSL.triv fun sc Tq Γl Γ x Γ' => by simp only [okS]⟩
  | mv i m j k =>
    exact ⟨fun c zi TH => ss_mv, fun c zi TH => SSL.triv fun sc Tq Γl Γ x Γ' => by simp only [okS]⟩
  | par i j a b =>
    exact ⟨fun c zi TH => SS1.triv fun sc Tq Γl Γ x Γ' => by simp only [ok1], fun c zi TH => SSL.triv fun sc Tq Γl Γ x Γ' => by simp only [okS]⟩
  | setI i k v =>
    exact ⟨fun c zi TH => ss_setI (snd c k).E (snd c v).E, fun c zi TH => SSL.triv fun sc Tq Γl Γ x Γ' => by simp only [okS]⟩
  | swp i k1 k2 v1 v2 =>
    exact ⟨fun c zi TH => ss_swp (snd c k1).E (snd c k2).E (snd c _), fun c zi TH => SSL.triv fun sc Tq Γl Γ x Γ' => by simp only [okS]⟩
  | aug i o e =>
    exact ⟨fun c zi TH => ss_aug (snd c e).E, fun c zi TH => SSL.triv fun sc Tq Γl Γ x Γ' => by simp only [okS]⟩
  | ite t a b ha hb =>
    exact ⟨fun c zi TH => ss_ite (snd c t).T (ha.all c zi TH) (hb.all c zi TH), fun c zi TH => SSL.triv fun sc Tq Γl Γ x Γ' => by simp only [okS]⟩
  | fr tg w b hb =>
    exact ⟨fun c zi TH => ss_for (snd c w).W (hb.all c zi TH), fun c zi TH => SSL.triv fun sc Tq Γl Γ x Γ' => by simp only [okS]⟩
  | wh n t b hb =>
    exact ⟨fun c zi TH => ss_wh (snd c t).T (hb.all c zi TH), fun c zi TH => SSL.triv fun sc Tq Γl Γ x Γ' => by simp only [okS]⟩
  | ret e =>
    exact ⟨fun c zi TH => ss_ret (snd c e).E, fun c zi TH => SSL.triv fun sc Tq Γl Γ x Γ' => by simp only [okS]⟩
  | retM i =>
    exact ⟨fun c zi TH => ss_retM, fun c zi TH => SSL.triv fun sc Tq Γl Γ x Γ' => by simp only [okS]⟩
  | retN  =>
    exact ⟨fun c zi TH => ss_retN, fun c zi TH => SSL.triv fun sc Tq Γl Γ x Γ' => by simp only [okS]⟩
  | rai cn fs as =>
    exact ⟨fun c zi TH => ss_rai (snd c as).L, fun c zi TH => SSL.triv fun sc Tq Γl Γ x Γ' => by simp only [okS]⟩
  | tryR n b h hb hh =>
    exact ⟨fun c zi TH => ss_try (hb.all c zi TH) (fun cn fs zi' => hh.all _ zi' _), fun c zi TH => SSL.triv fun sc Tq Γl Γ x Γ' => by simp only [okS]⟩
  | tryC n t j as k h hh =>
    exact ⟨fun c zi TH => ss_tryC (snd c as).L (fun cn fs zi' => hh.all _ zi' _), fun c zi TH => SSL.triv fun sc Tq Γl Γ x Γ' => by simp only [okS]⟩
  | splI i k =>
    exact ⟨fun c zi TH => ss_splI, fun c zi TH => SSL.triv fun sc Tq Γl Γ x Γ' => by simp only [okS]⟩
  | brk  =>
    exact ⟨fun c zi TH => ss_brk, fun c zi TH => SSL.triv fun sc Tq Γl Γ x Γ' => by simp only [okS]⟩
  | cnt  =>
    exact ⟨fun c zi TH => ss_cnt, fun c zi TH => SSL.triv fun sc Tq Γl Γ x Γ' => by simp only [okS]⟩
  | spl i =>
    exact ⟨fun c zi TH => ss_spl, fun c zi TH => SSL.triv fun sc Tq Γl Γ x Γ' => by simp only [okS]⟩
  | pass  =>
    exact ⟨fun c zi TH => ss_pass, fun c zi TH => SSL.triv fun sc Tq Γl Γ x Γ' => by simp only [okS]⟩
  | unr  =>
    exact ⟨fun c zi TH => ss_unr, fun c zi TH => SSL.triv fun sc Tq Γl Γ x Γ' => by simp only [okS]⟩
  | thaw i =>
    exact ⟨fun c zi TH => SS1.triv fun sc Tq Γl Γ x Γ' => by simp only [ok1], fun c zi TH => SSL.triv fun sc Tq Γl Γ x Γ' => by simp only [okS]⟩
  | inn2 j i k n =>
    exact ⟨fun c zi TH => SS1.triv fun sc Tq Γl Γ x Γ' => by simp only [ok1], fun c zi TH => SSL.triv fun sc Tq Γl Γ x Γ' => by simp only [okS]⟩

theorem exec_nx {α : Type} {m : M α} {f : α → Slots → Out} {ρ ρ' : Slots} (h : exec1 m f ρ = .nx ρ') : ∃ a ρ1, m ρ = .ok (a, ρ1) ∧ f a ρ1 = .nx ρ' := by
  unfold exec1 at h
  cases e : m ρ with
  | ok a =>
    obtain ⟨a, ρ1⟩ := a
    rw [e] at h
    exact ⟨a, ρ1, rfl, h⟩
  | exn c fs => rw [e] at h; cases h
  | bad => rw [e] at h; cases h
theorem retD_nx {rm : Mode} {io : Bool} {d : D} {ρ ρ' : Slots} (h : retD rm io d ρ = .nx ρ') : False := by
  unfold retD at h
  split at h
  · cases h
  · split at h <;> cases h
theorem nx_dead {rm : Mode} {io : Bool} : ∀ (s : IS) (TH : Str → List (Str × Int) → List Sig) (T : List Sig) (ρ ρ' : Slots), dead s = true → runS TH rm io T s ρ = .nx ρ' → False := by
  intro s
  induction s with
  | ret e =>
    intro TH T ρ ρ' _ h
    obtain ⟨a, ρ1, _, h⟩ := exec_nx (m := runE T e) (f := fun d ρ1 => retD rm io d ρ1) h
    exact retD_nx h
  | retM i =>
    intro TH T ρ ρ' _ h
    have h : (match gS ρ i with | some d => retD rm io d (sS ρ i none) | none => Out.bad) = .nx ρ' := h
    cases e : gS ρ i with
    | none => rw [e] at h; cases h
    | some d => rw [e] at h; exact retD_nx h
  | retN => exact fun TH T ρ ρ' _ h => retD_nx (d := .non) (ρ := ρ) h
  | rai cn fs as =>
    intro TH T ρ ρ' _ h
    obtain ⟨a, ρ1, _, h⟩ := exec_nx (m := runL T as) (f := fun ds ρ1 => match fields fs ds with | some p => .exn cn p.reverse | none => .bad) h
    cases e : fields fs a with
    | none => simp only [e] at h; cases h
    | some d => simp only [e] at h; cases h
  | brk => exact fun TH T ρ ρ' _ h => nomatch h
  | unr => exact fun TH T ρ ρ' _ h => nomatch h
  | cnt => exact fun TH T ρ ρ' _ h => nomatch h
  | seq s r hs hr =>
    intro TH T ρ ρ' hd h
    have h : (match runS TH rm io T s ρ with | .nx ρ1 => runS TH rm io T r ρ1 | o => o) = .nx ρ' := h
    simp only [dead, Bool.or_eq_true] at hd
    cases e : runS TH rm io T s ρ with
    | nx ρ1 =>
      rw [e] at h
      rcases hd with hd | hd
      · exact hs TH T ρ ρ1 hd e
      · exact hr TH T ρ1 ρ' hd h
    | rt d ρ1 => rw [e] at h; cases h
    | bk ρ1 => rw [e] at h; cases h
    | ct ρ1 => rw [e] at h; cases h
    | exn c fs => rw [e] at h; cases h
    | bad => rw [e] at h; cases h
  | ite t a b ha hb =>
    intro TH T ρ ρ' hd h
    simp only [dead, Bool.and_eq_true] at hd
    obtain ⟨r, ρ1, _, h⟩ := exec_nx (m := runT T t) (f := fun r => if r then runS TH rm io T a else runS TH rm io T b) h
    cases r with
    | true => exact ha TH T ρ1 ρ' hd.1 h
    | false => exact hb TH T ρ1 ρ' hd.2 h
  | tryR n b h hb hh =>
    intro TH T ρ ρ' hd q
    simp only [dead, Bool.and_eq_true] at hd
    have q : (match runS TH rm io T b ρ with
        | .exn c fs => if noE (TH c fs) then Out.bad else (match runS (fun _ _ => []) rm io (TH c fs) h (List.replicate n none) with
          | .rt d ρ1 => Out.rt d ρ1
          | _ => Out.bad)
        | o => o) = .nx ρ' := q
    cases e : runS TH rm io T b ρ with
    | nx ρ1 => exact hb TH T ρ ρ1 hd.1 e
    | rt d ρ1 => rw [e] at q; cases q
    | bk ρ1 => rw [e] at q; cases q
    | ct ρ1 => rw [e] at q; cases q
    | bad => rw [e] at q; cases q
    | exn c fs =>
      rw [e] at q
      simp only at q
      split at q
      · cases q
      · split at q <;> cases q
  | tryC n t j as k h hh =>
    intro TH T ρ ρ' hd q
    have q : (match runL T as ρ with
      | .ok (ds, ρ1) => (match callD T j ds with
        | .ok (d, _) => retD rm io (.tup [.str t, d]) ρ1
        | .exn c fs => if noE (TH c fs) then Out.bad else (match runS (fun _ _ => []) rm io (TH c fs) h (sS (List.replicate n none) k (gS ρ1 k)) with
          | .rt d ρ2 => Out.rt d ρ2
          | _ => Out.bad)
        | .bad => Out.bad)
      | _ => Out.bad) = .nx ρ' := q
    cases e : runL T as ρ with
    | exn _ _ => rw [e] at q; cases q
    | bad => rw [e] at q; cases q
    | ok pr =>
      obtain ⟨ds, ρ1⟩ := pr
      rw [e] at q
      simp only at q
      cases e2 : callD T j ds with
      | bad => rw [e2] at q; cases q
      | ok pd =>
        obtain ⟨d, d'⟩ := pd
        rw [e2] at q
        exact retD_nx q
      | exn c fs =>
        rw [e2] at q
        simp only at q
        split at q
        · cases q
        · split at q <;> cases q
  | _ => intro TH T ρ ρ' hd _; simp [dead] at hd

/-! ### a def -/
theorem sl_start {K : PySem.W.Frag} {G H : Hp} : ∀ {k : Nat} {vs : List V} {ds : List D}, FzL K G vs ds → vs.length ≤ k → Sl K G H (List.replicate k .no) (vs.map some ++ List.replicate (k - vs.length) none) (ds.map some ++ List.replicate (k - ds.length) none) []
  | 0, _, _, .nil, _ => .nil
  | k + 1, _, _, .nil, _ => by
    have := sl_start (K := K) (G := G) (H := H) (k := k) .nil (Nat.zero_le _)
    exact .skip this
  | 0, _, _, .cons _ _, h => by simp at h
  | k + 1, _, _, .cons (v := v) (d := d) (vs := vs) (ds := ds) f r, h => by
    have := sl_start (k := k) (H := H) r (by simpa using h)
    have e1 : k + 1 - (v :: vs).length = k - vs.length := by simp
    have e2 : k + 1 - (d :: ds).length = k - ds.length := by simp
    rw [e1, e2]
    exact Sl.at (o := []) ⟨f, rfl⟩ this
/-- the modes at a def's start -/
def Γ0 (io : Bool) (n : Nat) : List Mode := if io then .top :: List.replicate (n - 1) .no else List.replicate n .no
/-- what a def's context needs of the world around: by the level -/
structure Wld (c : SC) (TH : Str → List (Str × Int) → List Sig) (lv : Nat) (P : Program) (w : World) (K : PySem.W.Frag) (mg : Str → Option Value) (base : Heap) : Prop where
  nd : c.N.Nodup
  hot : c.hot = false
  tab : ∀ (j : Nat) (s : Sig), c.T[j]? = some s → ∃ f fd ps, FnOk P w K mg base (L2N.CX P w) lv f fd ps (spOf K mg s) ∧ mg s.name = some (.ref f) ∧ PySem.W.keepIn K (.ref f) = true ∧ BindS K fd ps s.kw
  blt : ∀ (x : Str), x ∈ blts → mg x = none
  con : ∀ (x : Str) (v : V), c.C.lookup x = some v → ∃ u, mg x = some u ∧ RelV v u
  rai : ∀ cn fs, c.X.lookup cn = some fs → ∀ X : Cx, X.prog = P → X.w = w → X.K = K → X.mg = mg → X.base = base → Room lv X.A → RaiAt X cn fs
  tr : ∀ X : Cx, X.prog = P → X.w = w → X.K = K → X.mg = mg → X.base = base → X.N = c.N → Room lv X.A → X.stack = X.env :: X.outer → X.env.frame = some X.env.locals → TryAt c TH X
  eat : ∀ x, c.E = some x → ∃ f fd ps, FnOk P w K mg base (L2N.CX P w) lv f fd ps (spSpl K) ∧ mg x = some (.ref f) ∧ PySem.W.keepIn K (.ref f) = true ∧ Binds K fd ps []
theorem takesCx {P : Program} {w : World} {K : PySem.W.Frag} {mg : Str → Option Value} {base : Heap} {N : List Str} {qual : Str} {scope : Scope} {f : Addr} {cd : Value} {A : Around} {outer : List Env} {s : Shared} {H : Hp} {E : XK} :
    L2N.Takes (cxOf (L2N.CX P w) P w K mg base N qual scope f cd A outer s H E) (fun c d _ H => E c d H) := L2N.takes_of rfl rfl rfl rfl
theorem fn_def {P : Program} {w : World} {K : PySem.W.Frag} {mg : Str → Option Value} {base : Heap} {x qual : Str} {st : Stmt} {f : Addr} {fd : FuncData} {ps : List Str} {k : Nat} {c : SC} {TH : Str → List (Str × Int) → List Sig} {s : Sig} {body : IS}
    (W : Wld c TH k P w K mg base) (F : Fun K x qual st f fd) (S : FnScope c.N ps (defScope st)) (hps : ps.length = s.np) (hnp : s.np ≤ c.N.length) (hio : s.io = true → 1 ≤ s.np)
    (hφ : s.φ = runF s.rm s.io TH c.T c.N.length body)
    (ok : ∀ cn fs, okS (defScope st) c s.rm s.io (if s.io then some 0 else none) (TH cn fs) [] (Γ0 s.io c.N.length) body (defBody st) (nxtM body (Γ0 s.io c.N.length)) = true)
    (hend : dead body = true ∨ (s.rm ≠ .top ∧ ioT s.io (nxtM body (Γ0 s.io c.N.length)) = true)) : FnOk P w K mg base (L2N.CX P w) (k + 1) f fd ps (spOf K mg s) := by
  obtain ⟨oc, od, kV, doc, pm, an, cdv, ct, osl, rfl, lk, hcd⟩ := F.ex
  refine fn_of lk hcd S (fun vs H Q E h => h.1.trans hps.symm) fun A outer sh H vs Q E hr hsp => ?_
  obtain ⟨hvs, G, ds, os, sm, hds, arg, out⟩ := hsp
  have hu : (A.deeper (envOfC qual (defScope st) sh.heap.objs.size f cdv)).units + 199 < cLine := by have := hr.un; omega
  have mkc : ∀ (z : Option (Nat × V × Hp)), (∀ i v, z = some (i, v) → (if s.io then some 0 else none : Option Nat) = some i) → (s.io = true → ∃ v B, z = some (0, v, B)) →
      Cos c s.io TH (cxOf (L2N.CX P w) P w K mg base c.N qual (defScope st) f cdv A outer sh H E) z (if s.io then some 0 else none) := fun z h1 h2 =>
    ⟨⟨rfl, W.nd, hu, fun _ => rfl, fun _ => ⟨k, hr, fun j s e => ⟨W.tab j s e⟩⟩, (fun e => by rw [W.hot] at e; cases e), W.blt, W.con⟩, fun _ _ => rfl, L2.passes_of rfl, S.kind, h1, h2, fun _ cn fs e pn xe => W.rai cn fs e _ rfl rfl rfl rfl rfl hr, fun _ => W.tr _ rfl rfl rfl rfl rfl rfl hr rfl rfl, fun _ x e => ⟨k, hr, ⟨W.eat x e⟩⟩⟩
  have fin : ∀ (z : Option (Nat × V × Hp)), Cos c s.io TH (cxOf (L2N.CX P w) P w K mg base c.N qual (defScope st) f cdv A outer sh H E) z (if s.io then some 0 else none) →
      Stt K z (Γ0 s.io c.N.length) G H (L2.start c.N vs) (ds.map some ++ List.replicate (c.N.length - ds.length) none) os → (∀ {ρ' G' H' oz d2}, EndZ K s.io z ρ' G' H' oz → d2 = (if s.io then (gS ρ' 0).getD .non else .non) → EndOk K G' H' s.io vs d2 oz) →
      ∃ t, PSs (cxOf (L2N.CX P w) P w K mg base c.N qual (defScope st) f cdv A outer sh H E) (defBody st) t ∧ t { nx := fun _ H' => Q .non H', rt := Q } (L2.start c.N vs) H := fun z kk st0 ez => by
    refine ⟨_, (sndS s.rm s.io body).all c _ TH _ [] _ _ z (fun cls dd H => E cls dd H) (defBody st) kk ok takesCx, G, _, os, st0, ?_⟩
    rw [hφ] at out
    unfold runF at out
    cases er : runS TH s.rm s.io c.T body (ds.map some ++ List.replicate (c.N.length - ds.length) none) with
    | rt d ρ' =>
      rw [er] at out
      intro v G' H' o oz hw he nd fr sb
      exact out G' H' v o oz hw (ez he rfl) nd fr sb
    | exn cc fs =>
      rw [er] at out
      exact fun G' H' cls dd hx fr => out G' H' cls dd hx fr
    | nx ρ' =>
      rw [er] at out
      intro σ' G' H' os' st' fr sb
      rcases hend with hd | ⟨h1, h2⟩
      · exact (nx_dead body TH c.T _ _ hd er).elim
      · refine ret_fin (rm := s.rm) (io := s.io) (m := .all) (o := []) (W := fun cls dd H => E cls dd H) (Γl := []) (Γ' := []) (De := { nx := fun _ H' => Q .non H', rt := Q }) (X := cxOf (L2N.CX P w) P w K mg base c.N qual (defScope st) f cdv A outer sh H E) (ρ := ρ') (os := os') (σ := σ') h2 kk.zio st' .non st'.nd ?_ ?_
        · cases e : s.rm with
          | no => exact .inl rfl
          | top => exact absurd e h1
          | all => exact .inr (.inl rfl)
        · cases e2 : retD s.rm s.io .non ρ' with
          | rt d ρ2 =>
            simp only [e2] at out
            have ed : d = .non ∧ ρ2 = ρ' := by
              unfold retD at e2
              split at e2
              · cases e2
              · split at e2
                · cases e2
                · cases e2; exact ⟨rfl, rfl⟩
            obtain ⟨rfl, rfl⟩ := ed
            intro v G2 H2 o oz hw he nd fr2 sb2
            exact out G2 H2 v o oz hw (ez he rfl) nd (fr.trans fr2 sb) (Sub.go fr sb sb2)
          | nx _ => simp only [e2] at out
          | bk _ => simp only [e2] at out
          | ct _ => simp only [e2] at out
          | exn _ _ => simp only [e2] at out
          | bad => simp only [e2] at out
    | bk ρ' => rw [er] at out; exact out.elim
    | ct ρ' => rw [er] at out; exact out.elim
    | bad => rw [er] at out; exact out.elim
  unfold ArgOk at arg
  cases hi : s.io with
  | false =>
    rw [hi] at arg
    obtain ⟨fl, rfl⟩ := arg
    refine fin none (mkc none (fun _ _ e => nomatch e) (fun e => by rw [hi] at e; cases e)) ⟨?_, List.nodup_nil, sm, fun _ _ e => (nomatch e), fun _ _ _ e => (nomatch e), fun _ _ _ e => (nomatch e)⟩ fun {ρ' G' H' oz d2} he hd => ?_
    · unfold Γ0
      rw [hi]
      exact sl_start fl (by rw [hvs]; exact hnp)
    · unfold EndZ at he
      unfold EndOk
      rw [hi] at he ⊢
      exact he
  | true =>
    rw [hi] at arg
    obtain ⟨v, vs', d, ds', rfl, rfl, hw, fl⟩ := arg
    obtain ⟨a, vs0, ds0, rfl, rfl, ha, ga, fl0, rfl⟩ := id hw
    have hn1 : vs'.length ≤ c.N.length - 1 := by
      have : (V.ref a :: vs').length ≤ c.N.length := by rw [hvs]; exact hnp
      simp only [List.length_cons] at this
      omega
    refine fin (some (0, .ref a, fun _ => none)) (mkc _ (fun i v e => by cases e; rw [hi]; rfl) (fun _ => ⟨_, _, rfl⟩)) ⟨?_, by simp, sm, fun i v e => ?_, fun i v B e => ?_, fun i v B e => ?_⟩ fun {ρ' G' H' oz d2} he hd => ?_
    · unfold Γ0
      rw [hi]
      have := Sl.at hw (sl_start (H := H) fl hn1)
      rw [List.append_nil] at this
      have e1 : c.N.length - (V.ref a :: vs').length = c.N.length - 1 - vs'.length := by simp only [List.length_cons]; omega
      have e2 : c.N.length - (D.lst ds0 :: ds').length = c.N.length - 1 - ds'.length := by simp only [List.length_cons]; omega
      unfold L2.start
      rw [e1, e2]
      exact this
    · cases e
      unfold Γ0
      rw [hi]
      simp [gM]
    · cases e; rfl
    · cases e
      exact fun _ _ q => nomatch q
    · unfold EndZ at he
      unfold EndOk
      rw [hi] at he hd ⊢
      obtain ⟨v0, B, d3, ez, eg, hw'⟩ := he
      cases ez
      rw [eg] at hd
      subst hd
      exact ⟨_, rfl, hw'⟩
end OS
namespace OS
open PySem PySem.Spec PyProof.Rows L2

/-! ### exceptions made -/
/-- C(), C without an own __init__, its bases of the text or built in -/
theorem pmk_B0 {X : Cx} {C : Addr} {x : Str} {p pos : Pos} (q : PySem.W.excInitIn X.K C PySem.HandSPX.veTail "ValueError.__new__" = true) (hi : PySem.W.findIn X.K (.ref C) "__init__" = some (some (.builtin "ValueError.__init__"))) (gC : X.mg x = some (.ref C)) (kC : PySem.W.keepIn X.K (.ref C) = true) (r : Raises X (.ref C))
    (hg : Gl X x) (hdb : (x == ("__debug__" : Str)) = false) : L2N.PMk X (.Call (.Name x p) [] [] pos) (fun _ H Q => Q (.ref C) none H) := by
  intro pins s σ H Q I h
  refine wpAny_Call_Name_kw (ld_glob I hg gC ?_ hdb)
  refine PySem.W.callWith_K0 (first := []) I.kIn kC ?_
  obtain ⟨nm, N', qn, bs, bm, hdct, sn, sub, ab, col, dd, k0, k1, k2, k3, k5, hC, hT⟩ := PySem.W.excInit_of I.kIn q
  have hi' : PySem.W.Looks (model X.prog X.w) s.heap (typeLookup (.ref C) "__init__") (some (.builtin "ValueError.__init__")) := PySem.W.looks_findIn I.kIn hi
  obtain ⟨hh, g, d, tk, os⟩ := s
  refine PySem.W.call_B F.excBase_ValueError hT hC hi' (rest := []) (Nat.zero_le _) fun h' k he ht => ?_
  refine ⟨hh.objs.size + 1, _, _, ⟨hh, g, d, tk, os⟩, H, .ref C, none, rfl, I, k, Heap.get?_none_of_le (Nat.le_succ _), he, ⟨rfl, rfl, fun vs e => ?_⟩, rfl, rfl, I.hok.fresh (Nat.le_succ _), rfl, I.bare, r, h⟩
  cases e; rfl

/-- what OexC asks, to be decided -/
def oexB (K : PySem.W.Frag) (C : Addr) : Bool := (match K.lookup C with
  | some ⟨.type "type", _, .cls cd, sl⟩ => (match cd.mro, sl.toList with
    | .ref C' :: bm, [_, _, _, _, some (.builtin n), _] => C' == C && (n == "ValueError.__new__" && (!cd.hasDel && (cd.hasDict && PySem.HandSPX.refsVE bm)))
    | _, _ => false)
  | _ => false) && (decide (PySem.W.findIn K (.ref C) "__setattr__" = some (some (.builtin "object.__setattr__"))) && (decide (PySem.W.subIn K (.ref C) (.type "BaseException") = some true) && (decide (PySem.W.typeIn K (.ref C) = some (.type "type")) && PySem.W.keepIn K (.ref C))))
theorem oexC_of {K : PySem.W.Frag} {C : Addr} (h : oexB K C = true) : OexC K C := by
  unfold oexB at h
  rw [Bool.and_eq_true, Bool.and_eq_true, Bool.and_eq_true, Bool.and_eq_true] at h
  obtain ⟨q, h1, h2, h3, h4⟩ := h
  refine ⟨?_, of_decide_eq_true h1, of_decide_eq_true h2, of_decide_eq_true h3, h4⟩
  split at q
  · rename_i dd cd sl ho
    split at q
    · rename_i C' bm k0 k1 k2 k3 n k5 hm hs
      simp only [Bool.and_eq_true, beq_iff_eq, Bool.not_eq_true'] at q
      obtain ⟨rfl, rfl, hdel, hdc, ht⟩ := q
      obtain ⟨nm, bs, mro, ns, qn, hd, sn, sub, ab, col, del⟩ := cd
      dsimp only at hm hdel hdc
      subst hm hdel hdc
      have hsl : sl = #[k0, k1, k2, k3, some (.builtin "ValueError.__new__"), k5] := by
        obtain ⟨l⟩ := sl
        simp only at hs
        rw [hs]
      subst hsl
      exact ⟨nm, qn, ns, bs, bm, sn, sub, ab, col, dd, k0, k1, k2, k3, k5, ho, ht⟩
    · cases q
  · cases q
/-- what C's __init__ does: its arguments go into the fields -/
def spI (K : PySem.W.Frag) (fs : List Str) : Sp := fun vs H Q _ => ∃ (a C : Addr) (ns : List Int), vs = .ref a :: ns.map V.int ∧ ns.length = fs.length ∧ OexC K C ∧ (∀ f ∈ fs, PySem.W.findIn K (.ref C) f = some none) ∧ H a = some (exo a C none) ∧
  ∀ d, H d = none → d ≠ a → Q .non (upd (upd H a (exo a C (some d))) d (exd d ((fs.zip ns).reverse.map fun p => (p.1, V.int p.2))))
/-- C(e, ..), C's __init__ keeping spI -/
theorem pmk_oexN {CX : CXT} {X : Cx} {x : Str} {C fI : Addr} {k : Nat} {fd : FuncData} {ps : List Str} {fs : List Str} {e : PySem.Expr} {es : List PySem.Expr} {ta : TA} {p pos : Pos} (T : OexC X.K C) (iC : PySem.W.findIn X.K (.ref C) "__init__" = some (some (.ref fI))) (tI : PySem.W.typeIn X.K (.ref fI) = some (.type "function"))
    (hff : ∀ f ∈ fs, PySem.W.findIn X.K (.ref C) f = some none) (F1 : FnOk X.prog X.w X.K X.mg X.base CX k fI fd ps (spI X.K fs)) (hr : Room (k + 1) X.A) (hb : Binds X.K fd ps []) (hx : Passes CX X (fun _ _ _ => False)) (hg : Gl X x) (hm : X.mg x = some (.ref C)) (ha : PA X (e :: es) ta)
    (hdb : (x == ("__debug__" : Str)) = false) (he : starEach (e :: es) X.env = (false, eval e X.env) :: starEach es X.env) (hpl : (backTo pos (starEach es X.env)).any (·.1) = false) (hfs : 1 ≤ fs.length ∧ fs.length ≤ 900) :
    L2N.PMk X (.Call (.Name x p) (e :: es) [] pos) (fun σ H Q => ta σ H fun vs H1 => ∃ ns : List Int, vs = ns.map V.int ∧ ns.length = fs.length ∧ ∀ d H', H' d = some (.xd ((fs.zip ns).reverse.map fun p => (p.1, V.int p.2))) → (∀ a, (∃ u, H1 a = some u) → H' a = H1 a) → Q (.ref C) (some d) H') := by
  intro pins s σ H Q I h
  obtain ⟨nm, q, N, bs, bm, sn, sub, ab, col, dd, k0, k1, k2, k3, k5, hC, hbm⟩ := T.cls
  refine wpAny_Call_Name_kw (ld_glob I hg hm ?_ hdb)
  refine PySem.W.callWith_K (h₀ := X.base) I.ok.mod.kin T.kC (thn (ha.run pos pins s σ H _ I h) fun us s1 ⟨vs, H1, I1, r1, ns, hvs, hns, q1⟩ => ⟨I1.kIn, ?_⟩) he hpl
  show wpAny _ _ (call (.ref C) us) _ _ _
  obtain ⟨hp, g, dr, tk, os⟩ := s1
  have hsz : hp.objs.size ≤ hp.objs.size + 1 := Nat.le_succ _
  have hn : H1 (hp.objs.size + 1) = none := I1.hok.fresh hsz
  have kk : ∀ b o, hp.get? b = some o → ((hp.push (PySem.W.kdv_tup us)).push (PySem.HandSPX.excO C hp.objs.size)).get? b = some o := fun b o e => Heap.get?_push_of_some _ (Heap.get?_push_of_some _ e)
  have hget : ((hp.push (PySem.W.kdv_tup us)).push (PySem.HandSPX.excO C hp.objs.size)).get? (hp.objs.size + 1) = some (PySem.HandSPX.excO C hp.objs.size) := by heap_get
  have I2 : Inv X pins σ (upd H1 (hp.objs.size + 1) (exo (hp.objs.size + 1) C none)) ⟨(hp.push (PySem.W.kdv_tup us)).push (PySem.HandSPX.excO C hp.objs.size), g, dr, tk, os⟩ :=
    I1.laid (t' := tk) (a := hp.objs.size + 1) (o := exo (hp.objs.size + 1) C none) (h' := (hp.push (PySem.W.kdv_tup us)).push (PySem.HandSPX.excO C hp.objs.size)) kk hsz (exo_ok hget)
  have r2 : Vals (V.ref (hp.objs.size + 1) :: vs) (Value.ref (hp.objs.size + 1) :: us) := .cons rfl r1
  have hus : us.length ≤ sizeLine := by
    rw [← Paired.length r1, hvs, List.length_map, hns, sizeLine_eq]
    omega
  have hq : spI X.K fs (V.ref (hp.objs.size + 1) :: vs) (upd H1 (hp.objs.size + 1) (exo (hp.objs.size + 1) C none))
      (fun v H2 => v = .non ∧ ∃ (d : Addr) (ff : List (Str × V)), H2 (hp.objs.size + 1) = some (exo (hp.objs.size + 1) C (some d)) ∧ H2 d = some (exd d ff) ∧ H1 d = none ∧ Q (.ref C) (some d) (upd (del H2 (hp.objs.size + 1)) d (.xd ff))) (fun _ _ _ => False) := by
    refine ⟨_, C, ns, by rw [hvs], hns, T, hff, upd_same, fun d hd nd => ⟨rfl, d, _, ?_, upd_same, ?_, ?_⟩⟩
    · rw [upd_ne (Ne.symm nd), upd_same]
    · rw [upd_ne nd] at hd; exact hd
    · refine q1 d _ upd_same fun b hb => ?_
      obtain ⟨u, hb⟩ := hb
      have nb : b ≠ hp.objs.size + 1 := fun e => by rw [e, hn] at hb; cases hb
      have nbd : b ≠ d := fun e => by
        rw [upd_ne nd] at hd
        rw [e, hd] at hb; cases hb
      rw [upd_ne nbd, del_ne nb, upd_ne nbd, upd_ne nb, upd_ne nb]
  have hl : (Value.ref (hp.objs.size + 1) :: us ++ []).length = ps.length := by
    have e := r2.length
    rw [F1.len _ _ _ _ hq] at e
    rw [List.append_nil]; exact e.symm
  have b2 := hb _ (Value.ref (hp.objs.size + 1) :: us) I2.kIn hl
  rw [List.append_nil] at b2
  refine wpAny_call (PySem.HandSPX.call_own F.excBase_ValueError (fun Y => PySem.HandSPX.refsVE_contains Y bm hbm) (I1.kIn _ _ hC) (PySem.W.looks_findIn I1.kIn iC) (fun self => PySem.W.bind_fn I1.kIn self tI) hus
    (codeAny_mono (F1.run _ X.stack _ _ ⟨Value.ref (hp.objs.size + 1) :: us, []⟩ (Value.ref (hp.objs.size + 1) :: us) _ _ (fun _ _ _ => False) (hr.make C us []) (I2.env0.make C us []) b2 r2 hq) fun r s' hq' => ?_))
  cases r with
  | error er => exact hx pins σ _ _ er s' I2 hq'
  | ok fl =>
    cases fl with
    | ret u =>
      obtain ⟨v, H2, os2, bare2, un2, hok2, rv, ev, d, ff, ea, ed, hd1, q2⟩ := hq'
      subst ev
      obtain ⟨h2, g2, d2, t2, os'⟩ := s'
      obtain ⟨t0, G, J, kG, ge, hoe, na⟩ := mk_end0 (d2 := d2) (t2 := t2) I1 hsz kk un2 hok2 os2 bare2 ea ed hd1
      refine ⟨rv, hp.objs.size + 1, _, _, ⟨G, g2, d2, t2, os'⟩, _, .ref C, some d, rfl, J, kG, ge, hoe, ⟨rfl, rfl, fun vs hv => ?_⟩, rfl, rfl, na, rfl, bare2, raises_own T.exC T.tyC, q2⟩
      cases hv; rfl
    | next => exact False.elim hq'
    | brk => exact False.elim hq'
    | cont => exact False.elim hq'
end OS
namespace OS
open PySem PySem.Spec PyProof.Rows L2

/-! ### the __init__ of an exception class -/
def asgB (slf f y : Str) : Stmt → Bool
  | .Assign [.Attribute (.Name s _) f' _] (.Name y' _) _ => decide (s = slf) && (decide (f' = f) && decide (y' = y))
  | _ => false
def initB (slf : Str) : List Str → List Str → List Stmt → Bool
  | [f], [y], [s] => asgB slf f y s
  | [f, g], [y, z], [s, t] => asgB slf f y s && asgB slf g z t
  | _, _, _ => false
theorem upd_comm {H : Hp} {a b : Addr} {x y : HO} (h : a ≠ b) : upd (upd H a x) b y = upd (upd H b y) a x := by
  funext c
  by_cases h1 : c = a
  · subst h1
    rw [upd_ne h, upd_same, upd_same]
  · by_cases h2 : c = b
    · subst h2
      rw [upd_same, upd_ne h1, upd_same]
    · rw [upd_ne h2, upd_ne h1, upd_ne h1, upd_ne h2]
theorem upd_twice {H : Hp} {a : Addr} {x y : HO} : upd (upd H a x) a y = upd H a y := by
  funext c
  by_cases h1 : c = a
  · subst h1; rw [upd_same, upd_same]
  · rw [upd_ne h1, upd_ne h1, upd_ne h1]
theorem ps_asgI {X : Cx} {slf f y : Str} {s : Stmt} {i j : Nat} (h : asgB slf f y s = true) (h1 : X.N[i]? = some slf) (h2 : X.N[j]? = some y) (v1 : Vis X.env.scope slf) (v2 : Vis X.env.scope y) (d1 : slf ≠ "__debug__" ∧ slf ≠ "__classdict__") (d2 : y ≠ "__debug__" ∧ y ≠ "__classdict__") :
    PS X s (tOst X.K f (tVar i) (tVar j)) := by
  cases s <;> try (simp only [asgB, Bool.false_eq_true] at h; done)
  rename_i ts v p
  match ts, v, h with
  | [.Attribute (.Name s _) f' _], .Name y' _, h =>
    simp only [asgB, Bool.and_eq_true, decide_eq_true_eq] at h
    obtain ⟨rfl, rfl, rfl⟩ := h
    exact ps_ost (pe_var (i := i) h1 v1 (dbg_of d1.1) (dbg_of d1.2)) (pe_var (i := j) h2 v2 (dbg_of d2.1) (dbg_of d2.2))
theorem fn_init {P : Program} {w : World} {K : PySem.W.Frag} {mg : Str → Option Value} {base : Heap} {x qual : Str} {st : Stmt} {f : Addr} {fd : FuncData} {k : Nat} {slf : Str} {fs ys : List Str}
    (F : Fun K x qual st f fd) (S : FnScope (slf :: ys) (slf :: ys) (defScope st)) (hb : initB slf fs ys (defBody st) = true) (hd : ∀ y ∈ slf :: ys, y ≠ "__debug__" ∧ y ≠ "__classdict__") :
    FnOk P w K mg base (L2N.CX P w) (k + 1) f fd (slf :: ys) (spI K fs) := by
  obtain ⟨oc, od, kV, doc, pm, an, cdv, ct, osl, rfl, lk, hcd⟩ := F.ex
  have vis : ∀ y ∈ slf :: ys, Vis (defScope st) y := fun y hy => (S.par y hy).elim .inl fun q => .inr (.inl q)
  have hlen : fs.length = ys.length := by
    unfold initB at hb
    split at hb <;> first | rfl | cases hb
  refine fn_of lk hcd S (fun vs H Q E h => ?_) fun A outer sh H vs Q E hr hsp => ?_
  · obtain ⟨a, C, ns, rfl, hn, _⟩ := h
    simp [hn, hlen]
  · obtain ⟨a, C, ns, rfl, hn, T, hff, ha, q⟩ := hsp
    generalize hbd : defBody st = bd at hb
    match fs, ys, bd, ns, hb, hn with
    | [g], [y], [s], [n], hb, _ =>
      have h1 : PS (cxOf (L2N.CX P w) P w K mg base [slf, y] qual (defScope st) f cdv A outer sh H E) s _ := ps_asgI (i := 0) (j := 1) hb rfl rfl (vis _ (by simp)) (vis _ (by simp)) (hd _ (by simp)) (hd _ (by simp))
      refine ⟨_, pss_one h1, .int n, rfl, .ref a, rfl, a, C, rfl, T, hff g (by simp), .inl ⟨ha, fun d hd nd => ?_⟩⟩
      have := q d hd nd
      rw [upd_comm (Ne.symm nd)] at this
      exact this
    | [g, g'], [y, y'], [s, s'], [n, n'], hb, _ =>
      simp only [initB, Bool.and_eq_true] at hb
      have h1 : PS (cxOf (L2N.CX P w) P w K mg base [slf, y, y'] qual (defScope st) f cdv A outer sh H E) s _ := ps_asgI (i := 0) (j := 1) hb.1 rfl rfl (vis _ (by simp)) (vis _ (by simp)) (hd _ (by simp)) (hd _ (by simp))
      have h2 : PS (cxOf (L2N.CX P w) P w K mg base [slf, y, y'] qual (defScope st) f cdv A outer sh H E) s' _ := ps_asgI (i := 0) (j := 2) hb.2 rfl rfl (vis _ (by simp)) (vis _ (by simp)) (hd _ (by simp)) (hd _ (by simp))
      refine ⟨_, pss_cons h1 (pss_one h2), .int n, rfl, .ref a, rfl, a, C, rfl, T, hff g (by simp), .inl ⟨ha, fun d hd nd => ?_⟩⟩
      refine ⟨.int n', rfl, .ref a, rfl, a, C, rfl, T, hff g' (by simp), .inr ⟨d, [(g, .int n)], upd_same, ?_, (by simp), ?_⟩⟩
      · rw [upd_ne nd, upd_same]
      · have := q d hd nd
        have e : upd (upd (upd H d (exd d [(g, V.int n)])) a (exo a C (some d))) d (exd d ((g', V.int n') :: [(g, V.int n)])) = upd (upd H a (exo a C (some d))) d (exd d ((([g, g'] : List Str).zip [n, n']).reverse.map fun p => (p.1, V.int p.2))) := by
          rw [upd_comm (a := d) (b := a) nd, upd_twice]; rfl
        rw [e]; exact this
/-- what RaiAt asks, of a class without __init__ -/
theorem rai_B0 {X : Cx} {C : Addr} {cn : Str} (q : PySem.W.excInitIn X.K C PySem.HandSPX.veTail "ValueError.__new__" = true) (hi : PySem.W.findIn X.K (.ref C) "__init__" = some (some (.builtin "ValueError.__init__"))) (gC : X.mg cn = some (.ref C)) (kC : PySem.W.keepIn X.K (.ref C) = true)
    (h1 : PySem.W.subIn X.K (.ref C) (.type "BaseException") = some true) (h2 : PySem.W.typeIn X.K (.ref C) = some (.type "type")) : RaiAt X cn [] := by
  refine ⟨fun _ {p pos} hg hdb pins s σ H Q I h => pmk_B0 q hi gC kC (raises_own h1 h2) hg hdb pins s σ H Q I (h H (.ref C) none ⟨C, gC, rfl, .inl ⟨rfl, rfl⟩⟩ fun _ _ => rfl), fun {p pos x xs ta} _ _ _ hl _ _ => by simp at hl⟩
theorem passesF {X : Cx} : Passes (L2N.CX X.prog X.w) X (fun _ _ _ => False) := fun _ _ _ _ _ _ _ h => by
  obtain ⟨_, _, _, _, _, _, _, _, _, _, _, _, z⟩ := h
  exact z.elim
theorem PA.loose {X : Cx} {xs : List PySem.Expr} {ta : TA} (h : PA X xs ta) : PA X xs (fun σ H R => ∃ R0 : List V → Hp → Prop, ta σ H R0 ∧ ∀ vs H1, R0 vs H1 → R vs H1) :=
  ⟨fun pos pins s σ H R I ⟨R0, q, i⟩ => thn (h.run pos pins s σ H R0 I q) fun us s1 ⟨vs, H1, I1, r1, q1⟩ => ⟨vs, H1, I1, r1, i vs H1 q1⟩⟩
/-- .. of a class with one -/
theorem rai_oex {X : Cx} {cn : Str} {C fI : Addr} {k : Nat} {fd : FuncData} {ps fs : List Str} (T : OexC X.K C) (iC : PySem.W.findIn X.K (.ref C) "__init__" = some (some (.ref fI))) (tI : PySem.W.typeIn X.K (.ref fI) = some (.type "function"))
    (hff : ∀ f ∈ fs, PySem.W.findIn X.K (.ref C) f = some none) (F1 : FnOk X.prog X.w X.K X.mg X.base (L2N.CX X.prog X.w) k fI fd ps (spI X.K fs)) (hr : Room (k + 1) X.A) (hb : Binds X.K fd ps []) (hm : X.mg cn = some (.ref C)) (hfs : 1 ≤ fs.length ∧ fs.length ≤ 900) : RaiAt X cn fs := by
  refine ⟨fun e => by subst e; simp at hfs, fun {p pos x xs ta} hg hdb ha hl hs any pins s σ H Q I h => pmk_oexN T iC tI hff F1 hr hb passesF hg hm (PA.loose ha) hdb (star_of hs) any hfs pins s σ H Q I ⟨_, h, fun vs H1 ⟨ns, e1, e2, e3⟩ => ⟨ns, e1, e2, fun d H' hd keep => ?_⟩⟩⟩
  refine e3 H' _ _ ⟨C, hm, rfl, .inr ⟨?_, d, rfl, hd⟩⟩ keep
  intro e
  have := congrArg List.length e
  simp only [List.length_reverse, List.length_zip, List.length_nil, e2] at this
  omega
end OS
namespace OS
open PySem PySem.Spec PyProof.Rows L2

/-! ### asked of an exception that is handled -/
structure AskC (K : PySem.W.Frag) (D0 : Addr) : Prop where
  hcl : (PySem.W.clsIn K D0).isSome = true
  hga : PySem.W.findIn K (.ref D0) "__getattribute__" = some (some (.builtin "BaseException.__getattribute__"))
  hgt : PySem.W.findIn K (.ref D0) "__getattr__" = some none
  hsub : PySem.W.subIn K (.ref D0) (.type "BaseException") = some true
  ha : PySem.W.findIn K (.ref D0) "__class__" = some (some (.builtin "object.__class__"))
  hn : PySem.W.specialIn K (.builtin "object.__class__") "__get__" = some (some (.builtin "getset_descriptor.__get__"))
  htk : PySem.W.takesIn K (.builtin "object.__class__") = some true
  hm : PySem.W.mroIn K D0 (.type "object") = some true
  hd : PySem.W.hasDictIn K D0 = true
def askB (K : PySem.W.Frag) (D0 : Addr) : Bool := (PySem.W.clsIn K D0).isSome && (decide (PySem.W.findIn K (.ref D0) "__getattribute__" = some (some (.builtin "BaseException.__getattribute__"))) && (decide (PySem.W.findIn K (.ref D0) "__getattr__" = some none) && (decide (PySem.W.subIn K (.ref D0) (.type "BaseException") = some true) &&
  (decide (PySem.W.findIn K (.ref D0) "__class__" = some (some (.builtin "object.__class__"))) && (decide (PySem.W.specialIn K (.builtin "object.__class__") "__get__" = some (some (.builtin "getset_descriptor.__get__"))) && (decide (PySem.W.takesIn K (.builtin "object.__class__") = some true) && (decide (PySem.W.mroIn K D0 (.type "object") = some true) && PySem.W.hasDictIn K D0)))))))
theorem askC_of {K : PySem.W.Frag} {D0 : Addr} (h : askB K D0 = true) : AskC K D0 := by
  unfold askB at h
  simp only [Bool.and_eq_true, decide_eq_true_eq] at h
  obtain ⟨h1, h2, h3, h4, h5, h6, h7, h8, h9⟩ := h
  exact ⟨h1, h2, h3, h4, h5, h6, h7, h8, h9⟩
/-- the dict of an exception that has one -/
def DictAt (dd : Option Addr) (fs : List (Str × Int)) (H : Hp) : Prop := (fs = [] ∧ dd = none) ∨ (fs ≠ [] ∧ ∃ d, dd = some d ∧ H d = some (.xd (fs.map fun p => (p.1, V.int p.2))))
theorem inst_of {X : Cx} {pins : List (Addr × Obj)} {σ : L2.St} {H : Hp} {s : Shared} {a D0 : Addr} {oe : Obj} {dd : Option Addr} {fs : List (Str × Int)} (I : Inv X pins σ H s) (hz : Zc (.ref D0) dd oe) (hf : ∃ vs, oe.data = .fields vs) (hp : (a, oe) ∈ X.pn) (hd : DictAt dd fs H) :
    ∃ od, PySem.W.InstAt s.heap a oe D0 od ∧ (dd = none → od = none) ∧ ∀ d, dd = some d → ∃ (o : Obj) (mA : Str → Option Value), od = some o ∧ (∀ n, PySem.W.lookIn n o = some (mA n)) ∧ ∀ n, RelO ((fs.map fun p => (p.1, V.int p.2)).lookup n) (mA n) := by
  obtain ⟨hget, _⟩ := I.pin (a, oe) (List.mem_append_left _ hp)
  obtain ⟨vs, hv⟩ := hf
  rcases hd with ⟨_, rfl⟩ | ⟨_, d, rfl, hd⟩
  · refine ⟨none, ⟨hget, hz.1, by unfold PySem.W.notCls; rw [hv], by rw [hz.2]; trivial⟩, fun _ => rfl, fun d e => nomatch e⟩
  · have hx : ObjOk X.prog X.w H s.heap d (.xd (fs.map fun p => (p.1, V.int p.2))) := I.hok d _ hd
    obtain ⟨mA, hns, hr⟩ := hx
    obtain ⟨od, ho, hl⟩ := lookIn_ns hns
    exact ⟨some od, ⟨hget, hz.1, by unfold PySem.W.notCls; rw [hv], by rw [hz.2]; exact ho⟩, fun e => (nomatch e), fun d' e => by cases e; exact ⟨od, mA, rfl, hl, hr⟩⟩
def rIsN (K : PySem.W.Frag) (D0 a : Addr) (dd : Option Addr) (fs : List (Str × Int)) : List V → Hp → VK → Prop := fun xs H Q => ∃ (c : V) (cv : Value) (b : Bool), xs = [.ref a, c] ∧ (∀ u, RelV c u → u = cv) ∧ PySem.W.kitOne K (.ref D0) cv = some b ∧ DictAt dd fs H ∧ Q (.bl b) H
theorem call_isN {X : Cx} {a D0 : Addr} {oe : Obj} {dd : Option Addr} {fs : List (Str × Int)} (C : AskC X.K D0) (hz : Zc (.ref D0) dd oe) (hf : ∃ vs, oe.data = .fields vs) (hp : (a, oe) ∈ X.pn) : CallR X (.builtin "isinstance") (rIsN X.K D0 a dd fs) := by
  intro pins s σ H xs us Q I r h
  obtain ⟨c, cv, b, rfl, hcv, e, hd, q⟩ := h
  cases r with
  | cons rx rr =>
    cases rr with
    | cons rt rr =>
      cases rr
      cases rx
      have ec := hcv _ rt
      subst ec
      obtain ⟨od, J, _⟩ := inst_of I hz hf hp hd
      exact PySem.W.kia_one (PySem.W.kitx_exc C.hcl C.hga C.hgt C.hsub C.ha C.hn C.htk C.hm) I.kIn J e (fun z => nomatch z) fun tk => ⟨.bl b, H, I.kept (t' := tk) fun _ _ z => z, rfl, q⟩
/-- isinstance(e, C) -/
theorem prim_is {X : Cx} {a D0 : Addr} {oe : Obj} {dd : Option Addr} {fs : List (Str × Int)} {i : Nat} {y cn : Str} {x : PySem.Expr} {b : Bool} (C : AskC X.K D0) (hz : Zc (.ref D0) dd oe) (hf : ∃ vs, oe.data = .fields vs) (hp : (a, oe) ∈ X.pn) (hb : X.mg "isinstance" = none)
    (hi : X.N[i]? = some y) (ok : okP X.env.scope (.isE y cn) x = true) (hc : (∃ Cc, X.mg cn = some (.ref Cc) ∧ PySem.W.kitOne X.K (.ref D0) (.ref Cc) = some b) ∨ (∃ T, X.mg cn = none ∧ cn ≠ "__name__" ∧ bootBuiltins cn = some (.type T) ∧ PySem.W.kitOne X.K (.ref D0) (.type T) = some b)) :
    PE X x (fun σ H Q => σ[i]? = some (some (.ref a)) ∧ DictAt dd fs H ∧ Q (.bl b) H) := by
  cases x <;> try (simp only [okP, Bool.false_eq_true] at ok; done)
  rename_i f as ks p
  obtain ⟨g, pg, n, pn, tn, pt, rfl, rfl, rfl⟩ : ∃ g pg n pn tn pt, f = (.Name g pg) ∧ as = ((.Name n pn) :: ((.Name tn pt) :: [])) ∧ ks = [] := by
    cases f <;> try exact absurd (show false = true from ok) Bool.false_ne_true
    rename_i q1_ q2_
    cases as <;> try exact absurd (show false = true from ok) Bool.false_ne_true
    rename_i q3_ q4_
    cases q3_ <;> try exact absurd (show false = true from ok) Bool.false_ne_true
    rename_i q5_ q6_
    cases q4_ <;> try exact absurd (show false = true from ok) Bool.false_ne_true
    rename_i q7_ q8_
    cases q7_ <;> try exact absurd (show false = true from ok) Bool.false_ne_true
    rename_i q9_ q10_
    cases q8_ <;> try exact absurd (show false = true from ok) Bool.false_ne_true
    cases ks <;> try exact absurd (show false = true from ok) Bool.false_ne_true
    exact ⟨_, _, _, _, _, _, rfl, rfl, rfl⟩
  simp only [okP, Bool.and_eq_true, decide_eq_true_eq] at ok
  obtain ⟨rfl, h1, rfl, h2, h3, h4, rfl, h5⟩ := ok
  obtain ⟨g1, g2⟩ := gl_of h1
  obtain ⟨g3, g4⟩ := gl_of h5
  have pv := pe_var (X := X) (pos := pn) (i := i) hi (vis_of h2) (dbg_of h3) (dbg_of h4)
  have key : ∃ (c : V) (cv : Value), (∀ u, RelV c u → u = cv) ∧ PySem.W.kitOne X.K (.ref D0) cv = some b ∧ PE X (.Name tn pt) (tC c) := by
    rcases hc with ⟨Cc, hm, hk⟩ | ⟨T, hm, hn, hv, hk⟩
    · exact ⟨.ref Cc, .ref Cc, fun u r => r, hk, pe_glob g3 hm rfl g4⟩
    · exact ⟨.ty T, .type T, fun u r => r, hk, pe_bltn g3 hm hv rfl hn g4⟩
  obtain ⟨c, cv, h6, h7, pc⟩ := key
  refine PE.imp (pe_callB (call_isN (fs := fs) C hz hf hp) g1 hb (by decide +kernel) (pa_cons pv (pa_cons pc pa_nil)) (by decide) g2) fun σ H Q q => ?_
  obtain ⟨h8, h9, q⟩ := q
  exact ⟨_, h8, c, cv, b, rfl, h6, h7, h9, q⟩
/-- e.f -/
theorem prim_fld {X : Cx} {a D0 : Addr} {oe : Obj} {dd : Option Addr} {fs : List (Str × Int)} {i : Nat} {y fl : Str} {x : PySem.Expr} {m : Int} (C : AskC X.K D0) (hno : PySem.W.findIn X.K (.ref D0) fl = some none) (hz : Zc (.ref D0) dd oe) (hf : ∃ vs, oe.data = .fields vs) (hp : (a, oe) ∈ X.pn)
    (hi : X.N[i]? = some y) (ok : okP X.env.scope (.fld y fl) x = true) (hl : (fs.map fun p => (p.1, V.int p.2)).lookup fl = some (.int m)) :
    PE X x (fun σ H Q => σ[i]? = some (some (.ref a)) ∧ DictAt dd fs H ∧ Q (.int m) H) := by
  cases x <;> try (simp only [okP, Bool.false_eq_true] at ok; done)
  rename_i o n p
  cases o <;> try (simp only [okP, Bool.false_eq_true] at ok; done)
  rename_i n' pn
  simp only [okP, Bool.and_eq_true, decide_eq_true_eq] at ok
  obtain ⟨rfl, rfl, h2, h3, h4⟩ := ok
  have pv := pe_var (X := X) (pos := pn) (i := i) hi (vis_of h2) (dbg_of h3) (dbg_of h4)
  refine ⟨fun pins s σ H Q I h => ?_⟩
  obtain ⟨h8, h9, q⟩ := h
  refine attr_of (by rfl) (thn (pv.run pins s σ H (fun x H1 => x = .ref a ∧ DictAt dd fs H1 ∧ Q (.int m) H1) I ⟨_, h8, rfl, h9, q⟩) fun u s1 hh => ?_)
  obtain ⟨x, H1, I1, rx, ex, hd, q⟩ := hh
  subst ex
  obtain rfl : u = Value.ref a := rx
  obtain ⟨od, J, _, hx⟩ := inst_of I1 hz hf hp hd
  rcases hd with ⟨rfl, _⟩ | ⟨_, d, rfl, _⟩
  · cases hl
  · obtain ⟨o, mA, rfl, h10, h11⟩ := hx d rfl
    obtain ⟨u, hu, ru⟩ := RelO.some_of (v := V.int m) (o := mA n) (by rw [← hl]; exact h11 n)
    exact HandSPX.exc_get I1.kIn J C.hga C.hgt C.hsub (PySem.W.findObj_own C.hd hno rfl (by rw [h10, hu])) (handed_of ru) ⟨.int m, H1, I1.tok _, ru, q⟩
end OS
namespace OS
open PySem PySem.Spec PyProof.Rows L2 L2H HotX

/-! ### a def that is called with the exception that is handled -/
structure FnE (P : Program) (w : World) (K : PySem.W.Frag) (mg : Str → Option Value) (base : Heap) (CX : CXT) (k : Nat) (f : Addr) (fd : FuncData) (ps : List Str) (sp : Addr × Obj → Sp) : Prop where
  len : ∀ p vs H Q E, sp p vs H Q E → vs.length = ps.length
  run : ∀ (A : Around) (outer : List Env) (s : Shared) (H : Hp) (args : Args) (us : List Value) (vs : List V) (Q : VK) (E : XK) (p : Addr × Obj), RoomH k A → Hot1 A p → PinOk outer H s p → Env0 P w K mg base A outer s H → BindsTo s fd args (ps.zip us) → Vals vs us → sp p vs H Q E →
    codeAny (model P w) A (.call (.ref f) args) (CR CX outer P w H s Q E) s
theorem fn_ofE {CX : CXT} {P : Program} {w : World} {K : PySem.W.Frag} {mg : Str → Option Value} {base : Heap} {k : Nat} {f : Addr} {name qual : Str} {params : Arguments} {body : List Stmt} {scope : Scope} {dV kV doc pm cdv ct oc : Value} {an od : Option Addr}
    {osl : Array (Option Value)} {N ps : List Str} {sp : Addr × Obj → Sp} (lk : K.lookup f = some ⟨oc, od, .func (PySem.W.fnOf name qual params body scope dV kV doc pm an cdv ct), osl⟩) (hcd : PySem.W.codeIn K cdv qual = true) (S : FnScope N ps scope)
    (len : ∀ p vs H Q E, sp p vs H Q E → vs.length = ps.length)
    (hbody : ∀ (A : Around) (outer : List Env) (s : Shared) (H : Hp) (vs : List V) (Q : VK) (E : XK) (p : Addr × Obj), Hot1 A p → RoomH k (A.deeper (envOfC qual scope s.heap.objs.size f cdv)) → sp p vs H Q E →
      ∃ t, PSs (cxH CX P w K mg base N qual scope f cdv A outer s H E p) body t ∧ t { nx := fun _ H' => Q .non H', rt := Q } (L2.start N vs) H) :
    FnE P w K mg base CX (k + 1) f (PySem.W.fnOf name qual params body scope dV kV doc pm an cdv ct) ps sp := by
  refine ⟨len, fun A outer s H args us vs Q E p hr hot hpin e0 hb r hsp => ?_⟩
  have hl := len _ _ _ _ _ hsp
  have KX : K.In s.heap := e0.mod.kin.keeps fun b o e => (e0.bs b o e).1
  have lim : s.heap.NoLimit := e0.mod.nolimit.keeps fun b o e => (e0.bs b o e).1
  have hkind : ∀ y ∈ ps.zip us, scope.names.lookup y.1 = some .local ∨ (scope.names.lookup y.1 = some .cell ∧ ((cellsFrom (s.heap.objs.size + 1) scope.names []).lookup y.1).isSome = true) := fun ⟨n, v⟩ hy => by
    rcases S.par n (List.of_mem_zip hy).1 with q | q
    · exact .inl q
    · exact .inr ⟨q, PySem.W.cellsFrom_some _ _ _ (.inl q)⟩
  refine codeAny_call_function hr.depth (KX _ _ lk) rfl S.co S.gen rfl (PySem.W.codeRec_of KX hcd) (hb _ _ _ _ ?_)
  refine wpAny_newFunctionEnv_cells S.kind hkind fun env he s1 x => ?_
  subst he
  refine ⟨lim.keeps x.toInCall.keep, codeAny_func ?_⟩
  obtain ⟨t, ht, hq⟩ := hbody A outer s H vs Q E p hot (hr.deeper _) hsp
  have I : Inv (cxH CX P w K mg base N qual scope f cdv A outer s H E p) [] (L2.start N vs) H s1 := inv_startH S hpin e0 hl r x
  refine wpAny_mono (ht.run [] s1 (L2.start N vs) H _ I hq) (fun fl s' hs => ?_) fun e s' hs => hs
  cases fl with
  | ret u =>
    obtain ⟨v, σ', H', J, rv, q⟩ := hs
    exact ⟨v, H', J.os, J.bare, J.base, J.hok, rv, q⟩
  | next =>
    obtain ⟨σ', H', J, q⟩ := hs
    exact ⟨V.non, H', J.os, J.bare, J.base, J.hok, rfl, q⟩
  | brk =>
    obtain ⟨_, _, _, q⟩ := hs
    exact False.elim q
  | cont =>
    obtain ⟨_, _, _, q⟩ := hs
    exact False.elim q
/-- what such a def is worth -/
def valE (TE : Str → List (Str × Int) → List Sig) (rm : Mode) (n : Nat) (body : IS) (cn : Str) (fs : List (Str × Int)) : R (D × D) :=
  match runS (fun _ _ => []) rm false (TE cn fs) body (List.replicate n none) with
  | .rt d _ => .ok (d, .non)
  | _ => .bad
def spE (K : PySem.W.Frag) (mg : Str → Option Value) (TE : Str → List (Str × Int) → List Sig) (rm : Mode) (n : Nat) (body : IS) : Addr × Obj → Sp := fun p vs H Q _ => vs = [.ref p.1] ∧ ∃ cn fs cls dd G, Same G H ∧ L2N.Zn cls dd p.2 ∧ (∃ vs, p.2.data = .fields vs) ∧ ExD mg H cn fs cls dd ∧ noE (TE cn fs) = false ∧
  match valE TE rm n body cn fs with
  | .ok (r, _) => ∀ G' H' v o, Own K G' H' rm v r o → o.Nodup → Fr G H G' H' [] → Sub H [] o → Q v H'
  | _ => False
/-- what the contexts of exceptions have in common -/
structure AskAt (c : SC) (TE : Str → List (Str × Int) → List Sig) (P : Program) (w : World) (K : PySem.W.Frag) (mg : Str → Option Value) (base : Heap) (lv : Nat) (en : Str) : Prop where
  ok : ∀ (X : Cx) (cn : Str) (fs : List (Str × Int)) (i : Nat) (p : Addr × Obj) (cls : Value) (dd : Option Addr) (B : Hp), X.prog = P → X.w = w → X.K = K → X.mg = mg → X.base = base → X.N = c.N → RoomH lv X.A → Hot1 X.A p → p ∈ X.pn →
    noE (TE cn fs) = false → X.N[i]? = some en → ExD mg B cn fs cls dd → L2N.Zn cls dd p.2 → (∃ vs, p.2.data = .fields vs) → Cok { c with hot := true, T := TE cn fs } X (some (i, .ref p.1, B))
theorem exd_dict {mg : Str → Option Value} {H : Hp} {cn : Str} {fs : List (Str × Int)} {cls : Value} {dd : Option Addr} (hx : ExD mg H cn fs cls dd) : ∀ b, dd = some b → ∃ fs, H b = some (.xd fs) := fun b e => by
  obtain ⟨C', _, _, hd | hd⟩ := hx
  · rw [hd.2] at e; cases e
  · obtain ⟨_, d, ed, hd⟩ := hd
    rw [ed] at e; cases e
    exact ⟨_, hd⟩
theorem exd_base {mg : Str → Option Value} {H : Hp} {cn : Str} {fs : List (Str × Int)} {cls : Value} {dd : Option Addr} (hx : ExD mg H cn fs cls dd) : ExD mg (ovr dd H fun _ => none) cn fs cls dd := by
  obtain ⟨C', h1, h2, hd | hd⟩ := hx
  · exact ⟨C', h1, h2, .inl hd⟩
  · obtain ⟨nf, d, ed, hd⟩ := hd
    exact ⟨C', h1, h2, .inr ⟨nf, d, ed, by rw [ovr_in ed]; exact hd⟩⟩
theorem fn_exc {P : Program} {w : World} {K : PySem.W.Frag} {mg : Str → Option Value} {base : Heap} {x qual : Str} {st : Stmt} {f : Addr} {fd : FuncData} {k : Nat} {c : SC} {TE : Str → List (Str × Int) → List Sig} {rm : Mode} {body : IS} {en : Str}
    (A0 : AskAt c TE P w K mg base k en) (F : Fun K x qual st f fd) (S : FnScope c.N [en] (defScope st)) (h0 : c.N[0]? = some en)
    (ok : ∀ cn fs, okS (defScope st) { c with hot := true, T := TE cn fs } rm false (some 0) [] [] (sM (List.replicate c.N.length .no) 0 .top) body (defBody st) (nxtM body (sM (List.replicate c.N.length .no) 0 .top)) = true)
    (hd : dead body = true) : FnE P w K mg base (L2N.CX P w) (k + 1) f fd [en] (spE K mg TE rm c.N.length body) := by
  obtain ⟨oc, od, kV, doc, pm, an, cdv, ct, osl, rfl, lk, hcd⟩ := F.ex
  refine fn_ofE lk hcd S (fun p vs H Q E h => by rw [h.1]; rfl) fun A outer sh H vs Q E p hot hr hsp => ?_
  obtain ⟨rfl, cn, fs, cls, dd, G, sm, hz, hf, hx, he, out⟩ := hsp
  have hn : 0 < c.N.length := (List.getElem?_eq_some_iff.mp h0).1
  have ck := A0.ok (cxH (L2N.CX P w) P w K mg base c.N qual (defScope st) f cdv A outer sh H E p) cn fs 0 p cls dd (ovr dd H fun _ => none) rfl rfl rfl rfl rfl rfl hr hot (List.mem_singleton.mpr rfl) he h0 (exd_base hx) hz hf
  have kk : Cos { c with hot := true, T := TE cn fs } false (fun _ _ => []) (cxH (L2N.CX P w) P w K mg base c.N qual (defScope st) f cdv A outer sh H E p) (some (0, .ref p.1, ovr dd H fun _ => none)) (some 0) :=
    ⟨ck, fun _ _ => rfl, L2.passes_of rfl, S.kind, fun i v e => by cases e; rfl, fun e => (nomatch e), fun e => (nomatch e), fun e => (nomatch e), fun e => (nomatch e)⟩
  have xdd := exd_dict hx
  have sG0 : Same (ovr dd H G) H := fun b o e => by
    by_cases w : dd = some b
    · rw [ovr_in w] at e; exact e
    · rw [ovr_out w] at e; exact sm b o e
  have hσ : (L2.start c.N [V.ref p.1]).length = c.N.length := by
    unfold L2.start
    simp only [List.length_append, List.length_map, List.length_replicate, List.length_cons, List.length_nil]
    omega
  refine ⟨_, (sndS rm false body).all _ _ _ _ [] _ _ _ WF (defBody st) kk (fun _ _ => ok cn fs) takes0N, ovr dd H G, List.replicate c.N.length none, [], ⟨?_, List.nodup_nil, sG0, fun i v e => ?_, fun i v B e => ?_, fun i v B e => ?_⟩, ?_⟩
  · have := sl_none (K := K) (G := ovr dd H G) (H := H) (Γ := sM (List.replicate c.N.length .no) 0 .top) (σ := L2.start c.N [V.ref p.1]) (by rw [hσ, sM_len, List.length_replicate])
    rw [hσ] at this; exact this
  · cases e
    rw [gM_sM_same (by rw [List.length_replicate]; exact hn)]
    simp
  · cases e; rfl
  · cases e
    intro b o e
    by_cases w : dd = some b
    · rw [ovr_in w] at e ⊢; exact e
    · rw [ovr_out w] at e; cases e
  · unfold valE at out
    cases eh : runS (fun _ _ => []) rm false (TE cn fs) body (List.replicate c.N.length none) with
    | rt d ρ1 =>
      rw [eh] at out
      intro v G' H' o oz w ez nd fr2 sb
      have ez : oz = [] := ez
      subst ez
      rw [List.append_nil] at nd sb
      have xG' : ∀ b, dd = some b → ∃ fs, G' b = some (.xd fs) := fun b e => by
        obtain ⟨f, q⟩ := xdd b e
        exact ⟨f, fr2.g b _ (by rw [ovr_in e]; exact q)⟩
      have xH' : ∀ b, dd = some b → ∃ fs, H' b = some (.xd fs) := fun b e => by
        obtain ⟨f, q⟩ := xG' b e
        exact ⟨f, fr2.s b _ q⟩
      refine out (ovr dd G G') H' v o (w.ovr xG' xH') nd ⟨fun b u e => ?_, fun b u e => ?_, fun b u e nb => ?_⟩ sb
      · by_cases w : dd = some b
        · rw [ovr_in w]; exact e
        · rw [ovr_out w]; exact fr2.g b u (by rw [ovr_out w]; exact e)
      · by_cases w : dd = some b
        · rw [ovr_in w] at e
          exact (fr2.k b u (sm b u e) (by simp)).1
        · rw [ovr_out w] at e; exact fr2.s b u e
      · obtain ⟨k3, k4⟩ := fr2.k b u e (by simp)
        refine ⟨k3, ?_⟩
        by_cases w : dd = some b
        · rw [ovr_in w]
        · rw [ovr_out w, k4, ovr_out w]
    | nx ρ1 => rw [eh] at out; exact out.elim
    | bk ρ1 => rw [eh] at out; exact out.elim
    | ct ρ1 => rw [eh] at out; exact out.elim
    | exn cc ff => rw [eh] at out; exact out.elim
    | bad => rw [eh] at out; exact out.elim
end OS
namespace OS
open PySem PySem.Spec PyProof.Rows L2 L2H HotX

/-! ### the table of what may be asked of an exception -/
theorem prim_app {X : Cx} {k : Nat} {f : Addr} {fd : FuncData} {en : Str} {TE : Str → List (Str × Int) → List Sig} {rm : Mode} {n i : Nat} {body : IS} {p : Addr × Obj} {g y : Str} {x : PySem.Expr}
    (F : FnE X.prog X.w X.K X.mg X.base (L2N.CX X.prog X.w) k f fd [en] (spE X.K X.mg TE rm n body)) (hr : RoomH k X.A) (hot : Hot1 X.A p) (hp : p ∈ X.pn) (hb : Binds X.K fd [en] []) (hm : X.mg g = some (.ref f)) (hk : PySem.W.keepIn X.K (.ref f) = true)
    (hi : X.N[i]? = some y) (ok : okP X.env.scope (.app g y) x = true) :
    PE X x (fun σ H Q => σ[i]? = some (some (.ref p.1)) ∧ spE X.K X.mg TE rm n body p [.ref p.1] H Q (fun _ _ _ => False)) := by
  cases x <;> try (simp only [okP, Bool.false_eq_true] at ok; done)
  rename_i fx as ks pos
  obtain ⟨g', pg, y', py, rfl, rfl, rfl⟩ : ∃ g' pg y' py, fx = (.Name g' pg) ∧ as = ((.Name y' py) :: []) ∧ ks = [] := by
    cases fx <;> try exact absurd (show false = true from ok) Bool.false_ne_true
    rename_i q1_ q2_
    cases as <;> try exact absurd (show false = true from ok) Bool.false_ne_true
    rename_i q3_ q4_
    cases q3_ <;> try exact absurd (show false = true from ok) Bool.false_ne_true
    rename_i q5_ q6_
    cases q4_ <;> try exact absurd (show false = true from ok) Bool.false_ne_true
    cases ks <;> try exact absurd (show false = true from ok) Bool.false_ne_true
    exact ⟨_, _, _, _, rfl, rfl, rfl⟩
  simp only [okP, Bool.and_eq_true, decide_eq_true_eq] at ok
  obtain ⟨rfl, h1, rfl, h2, h3, h4⟩ := ok
  obtain ⟨g1, g2⟩ := gl_of h1
  have pv := pe_var (X := X) (pos := py) (i := i) hi (vis_of h2) (dbg_of h3) (dbg_of h4)
  refine ⟨fun pins s σ H Q I h => ?_⟩
  obtain ⟨h8, h9⟩ := h
  refine wpAny_Call_Name_kw (ld_glob I g1 hm ?_ g2)
  refine PySem.W.callWith_K (h₀ := X.base) I.ok.mod.kin hk (thn ((pa_cons pv pa_nil rfl).run pos pins s σ H (fun vs H1 => vs = [V.ref p.1] ∧ spE X.K X.mg TE rm n body p [.ref p.1] H1 Q (fun _ _ _ => False)) I ⟨_, h8, rfl, h9⟩) fun us s1 ⟨vs, H1, I1, r, e1, q⟩ => ⟨I1.kIn, ?_⟩)
  subst e1
  have hl : us.length = [en].length := by rw [← r.length]; rfl
  have b := hb s1 us I1.kIn (by rw [List.append_nil]; exact hl)
  rw [List.append_nil] at b
  have P1 := I1.pin p (List.mem_append_left _ hp)
  have hpin : PinOk X.stack H1 s1 p := ⟨P1.1, P1.2.1, fun hm => (List.mem_cons.mp (I1.stkSub p.1 hm)).elim P1.2.2.1 P1.2.2.2.1, P1.2.2.2.2⟩
  refine wpAny_call (codeAny_mono (F.run X.A X.stack s1 H1 ⟨us, []⟩ us _ Q _ p hr hot hpin I1.env0 b r q) fun r s' hq => ?_)
  cases r with
  | error e =>
    obtain ⟨_, _, _, _, _, _, _, _, _, _, _, _, z⟩ := hq
    exact z.elim
  | ok fl =>
    cases fl with
    | ret u => exact I1.after hq
    | next => exact False.elim hq
    | brk => exact False.elim hq
    | cont => exact False.elim hq
/-- a scalar's promise -/
theorem spOf_sca {K : PySem.W.Frag} {mg : Str → Option Value} {s : Sig} {H : Hp} {Q : VK} {v : V} {d : D} {dx : D} (hio : s.io = false) (hrm : s.rm = .all) (hφ : s.φ [] = .ok (d, dx)) (hv : ∀ G, OwA K G H v d []) (h : spOf K mg s [] H Q (fun _ _ _ => False)) : Q v H := by
  obtain ⟨_, G, ds, os, sm, hds, arg, out⟩ := h
  unfold ArgOk at arg
  rw [hio] at arg
  obtain ⟨fl, rfl⟩ := arg
  cases fl
  rw [hφ] at out
  refine out G H v [] [] (by rw [hrm]; exact hv G) (by unfold EndOk; rw [hio]; rfl) List.nodup_nil (Fr.refl sm _) (Sub.refl _ _)
/-- the promise of a def called with the exception -/
theorem spOf_exc {K : PySem.W.Frag} {mg : Str → Option Value} {s : Sig} {H : Hp} {Q : VK} {TE : Str → List (Str × Int) → List Sig} {n : Nat} {body : IS} {p : Addr × Obj} {cn : Str} {fs : List (Str × Int)} {cls : Value} {dd : Option Addr} (hio : s.io = false) (hφ : s.φ [] = valE TE s.rm n body cn fs)
    (hz : L2N.Zn cls dd p.2) (hf : ∃ vs, p.2.data = .fields vs) (hx : ExD mg H cn fs cls dd) (he : noE (TE cn fs) = false) (h : spOf K mg s [] H Q (fun _ _ _ => False)) : spE K mg TE s.rm n body p [.ref p.1] H Q (fun _ _ _ => False) := by
  obtain ⟨_, G, ds, os, sm, hds, arg, out⟩ := h
  unfold ArgOk at arg
  rw [hio] at arg
  obtain ⟨fl, rfl⟩ := arg
  cases fl
  rw [hφ] at out
  refine ⟨rfl, cn, fs, cls, dd, G, sm, hz, hf, hx, he, ?_⟩
  cases e : valE TE s.rm n body cn fs with
  | ok r =>
    obtain ⟨r, d'⟩ := r
    rw [e] at out
    exact fun G' H' v o hw nd fr sb => out G' H' v o [] hw (by unfold EndOk; rw [hio]; rfl) (by simpa using nd) fr (by simpa using sb)
  | exn cc ff =>
    exfalso
    unfold valE at e
    split at e <;> cases e
  | bad => rw [e] at out; exact out
end OS
namespace OS
open PySem PySem.Spec PyProof.Rows L2 L2H HotX

/-! ### the table of a handler, and the contexts that keep it -/
/-- what the program's exceptions are: known ones with their fields; which is of which class -/
structure ExT where
  known : Str → List (Str × Int) → Bool
  sub : Str → Str → Bool
def sgIs (X : ExT) (en : Str) (cn : Str) (fs : List (Str × Int)) (C : Str) : Sig := { name := "", np := 0, io := false, rm := .all, φ := fun _ => if X.known cn fs then .ok (.bl (X.sub cn C), .non) else .bad, pr := some (.isE en C) }
def sgFl (en : Str) (fs : List (Str × Int)) (f : Str) : Sig := { name := "", np := 0, io := false, rm := .all, φ := fun _ => match fs.lookup f with | some m => .ok (.int m, .non) | none => .bad, pr := some (.fld en f) }
def tabE (X : ExT) (en : Str) (Cs Fs : List Str) (cn : Str) (fs : List (Str × Int)) : List Sig := Cs.map (sgIs X en cn fs) ++ Fs.map (sgFl en fs)
def sgAp (en g : Str) (rm : Mode) (φ : R (D × D)) : Sig := { name := "", np := 0, io := false, rm := rm, φ := fun _ => φ, pr := some (.app g en) }
/-- what is known of the classes -/
structure AskW (E : ExT) (Cs Fs : List Str) (K : PySem.W.Frag) (mg : Str → Option Value) : Prop where
  isi : mg "isinstance" = none
  known : ∀ cn fs D0, E.known cn fs = true → mg cn = some (.ref D0) → AskC K D0 ∧ (∀ C ∈ Cs, (∃ Cc, mg C = some (.ref Cc) ∧ PySem.W.kitOne K (.ref D0) (.ref Cc) = some (E.sub cn C)) ∨ (∃ T, mg C = none ∧ C ≠ "__name__" ∧ bootBuiltins C = some (.type T) ∧ PySem.W.kitOne K (.ref D0) (.type T) = some (E.sub cn C))) ∧
    ∀ f ∈ Fs, PySem.W.findIn K (.ref D0) f = some none
theorem lookup_map (fs : List (Str × Int)) (f : Str) : (fs.map fun p => (p.1, V.int p.2)).lookup f = (fs.lookup f).map V.int := by
  induction fs with
  | nil => rfl
  | cons p r ih =>
    obtain ⟨g, m⟩ := p
    simp only [List.map_cons, List.lookup_cons]
    cases f == g
    · exact ih
    · rfl
theorem exd_at {mg : Str → Option Value} {B H : Hp} {cn : Str} {fs : List (Str × Int)} {cls : Value} {dd : Option Addr} (hx : ExD mg B cn fs cls dd) (s : Same B H) : DictAt dd fs H := by
  obtain ⟨_, _, _, h | ⟨h1, d, h2, h3⟩⟩ := hx
  · exact .inl h
  · exact .inr ⟨h1, d, h2, s _ _ h3⟩
/-- the facts that a table of isinstance and fields asks -/
theorem tab_prim {E : ExT} {Cs Fs : List Str} {X : Cx} {en : Str} {i : Nat} {p : Addr × Obj} {cn : Str} {fs : List (Str × Int)} {cls : Value} {dd : Option Addr} {B : Hp} (W : AskW E Cs Fs X.K X.mg) (hk : E.known cn fs = true) (hi : X.N[i]? = some en) (hp : p ∈ X.pn) (hx : ExD X.mg B cn fs cls dd) (hz : L2N.Zn cls dd p.2) (hf : ∃ vs, p.2.data = .fields vs) :
    ∀ (s : Sig) (q : Prim) (x : PySem.Expr), s ∈ tabE E en Cs Fs cn fs → s.pr = some q → okP X.env.scope q x = true → PE X x (fun σ H Q => σ[i]? = some (some (.ref p.1)) ∧ Same B H ∧ spOf X.K X.mg s [] H Q (fun _ _ _ => False)) := by
  intro s q x hs hq ok
  obtain ⟨D0, h1, rfl, hd⟩ := id hx
  obtain ⟨A, hC, hF⟩ := W.known cn fs D0 hk h1
  have hz' : Zc (.ref D0) dd p.2 := hz.zc
  unfold tabE at hs
  rcases List.mem_append.mp hs with hs | hs
  · obtain ⟨C, hCs, rfl⟩ := List.mem_map.mp hs
    cases hq
    refine PE.imp (prim_is (fs := fs) A hz' hf hp W.isi hi ok (hC C hCs)) fun σ H Q q => ?_
    obtain ⟨q1, q2, q3⟩ := q
    refine ⟨q1, exd_at hx q2, spOf_sca (d := .bl (E.sub cn C)) (dx := .non) rfl rfl ?_ (fun _ => .bl _) q3⟩
    show (if E.known cn fs then _ else _) = _
    rw [if_pos hk]
  · obtain ⟨f, hfs, rfl⟩ := List.mem_map.mp hs
    cases hq
    cases hl : fs.lookup f with
    | none =>
      refine ⟨fun pins s σ H Q I q => ?_⟩
      obtain ⟨_, _, _, G, ds, os, _, _, arg, out⟩ := q
      have : (match fs.lookup f with | some m => R.ok (D.int m, D.non) | none => R.bad) = .bad := by rw [hl]
      exact False.elim (by
        have e : (sgFl en fs f).φ ds = .bad := this
        rw [e] at out; exact out)
    | some m =>
      refine PE.imp (prim_fld (fs := fs) (m := m) A (hF f hfs) hz' hf hp hi ok (by rw [lookup_map, hl]; rfl)) fun σ H Q q => ?_
      obtain ⟨q1, q2, q3⟩ := q
      refine ⟨q1, exd_at hx q2, spOf_sca (d := .int m) (dx := .non) rfl rfl ?_ (fun _ => .int _) q3⟩
      show (match fs.lookup f with | some m => R.ok (D.int m, D.non) | none => R.bad) = _
      rw [hl]
theorem noE_tab {E : ExT} {Cs Fs : List Str} {en cn : Str} {fs : List (Str × Int)} {r : List Sig} (h : noE (tabE E en Cs Fs cn fs ++ r) = false) (hc : Cs ≠ []) : E.known cn fs = true := by
  cases Cs with
  | nil => exact absurd rfl hc
  | cons C Cs =>
    have h : (match (if E.known cn fs then R.ok (D.bl (E.sub cn C), D.non) else .bad) with | .ok _ => false | _ => true) = false := h
    cases e : E.known cn fs with
    | true => rfl
    | false => rw [e] at h; cases h

/-- a table's context: of a def called with the exception, of a suite -/
theorem askAt_of {E : ExT} {Cs Fs : List Str} {en : Str} {c : SC} {P : Program} {w : World} {K : PySem.W.Frag} {mg : Str → Option Value} {base : Heap} {lv : Nat} (W : AskW E Cs Fs K mg) (hC : Cs ≠ []) (nd : c.N.Nodup) (blt : ∀ (x : Str), x ∈ blts → mg x = none)
    (con : ∀ (x : Str) (v : V), c.C.lookup x = some v → ∃ u, mg x = some u ∧ RelV v u) : AskAt c (tabE E en Cs Fs) P w K mg base lv en := by
  refine ⟨fun X cn fs i p cls dd B e1 e2 e3 e4 e5 hN hr hot hp he hi hx hz hf => ?_⟩
  subst e1 e2 e3 e4 e5
  have hk : E.known cn fs = true := noE_tab (r := []) (by rw [List.append_nil]; exact he) hC
  refine ⟨hN, nd, by have := hr.un; omega, (fun e => nomatch e), (fun e => nomatch e), fun _ => ⟨p, i, _, B, hp, hot, rfl, fun X' b1 b2 b3 b4 b5 b6 b7 hp' j s q x hj hq ok => ?_⟩, blt, con⟩
  exact tab_prim (X := X') (by rw [b3, b4]; exact W) hk (by rw [b6]; exact hi) hp' (by rw [b4]; exact hx) hz hf s q x (List.mem_of_getElem? hj) hq ok
/-- the same, the def behind it too -/
theorem tryAt_of {E : ExT} {Cs Fs : List Str} {en en' g : Str} {c c' : SC} {X : Cx} {lv n : Nat} {rm : Mode} {body : IS} {f C : Addr} {fd : FuncData} (W : AskW E Cs Fs X.K X.mg) (hC : Cs ≠ []) (nd : c.N.Nodup) (hN : X.N = c.N) (blt : ∀ (x : Str), x ∈ blts → X.mg x = none)
    (con : ∀ (x : Str) (v : V), c.C.lookup x = some v → ∃ u, X.mg x = some u ∧ RelV v u) (hs : X.stack = X.env :: X.outer) (hf0 : X.env.frame = some X.env.locals) (hr : Room lv X.A)
    (F : FnE X.prog X.w X.K X.mg X.base (L2N.CX X.prog X.w) lv f fd [en'] (spE X.K X.mg (tabE E en' Cs Fs) rm n body)) (hb : Binds X.K fd [en'] []) (hm : X.mg g = some (.ref f)) (hkp : PySem.W.keepIn X.K (.ref f) = true)
    (hS : X.mg "StraightError" = some (.ref C)) (hE : ∀ cn fs D0, E.known cn fs = true → X.mg cn = some (.ref D0) → PySem.W.exmOne X.K (.ref D0) (.ref C) = some true) :
    TryAt c (fun cn fs => tabE E en Cs Fs cn fs ++ [sgAp en g rm (valE (tabE E en' Cs Fs) rm n body cn fs)]) X := by
  refine ⟨hs, hf0, ⟨C, hS, fun cn fs H cls dd he hx => ?_⟩, fun cn fs i e a oe cls dd pn B he hev hi hx hz hf => ?_⟩
  · obtain ⟨D0, h1, rfl, _⟩ := hx
    exact hE cn fs D0 (noE_tab he hC) h1
  · have hk : E.known cn fs = true := noE_tab he hC
    have hee : e = en := by
      cases Cs with
      | nil => exact absurd rfl hC
      | cons C0 Cs =>
        have : some en = some e := hev
        exact (Option.some.inj this).symm
    subst hee
    have hrH : RoomH lv (X.suite a ((a, oe) :: pn)).A := ⟨hr.dp, hr.un⟩
    have hot : Hot1 (X.suite a ((a, oe) :: pn)).A (a, oe) := by
      obtain ⟨vs, hv⟩ := hf
      exact ⟨rfl, vs, hv, hz.2.2 vs hv⟩
    refine ⟨hN, nd, by have := hr.un; show X.A.units + 199 < _; omega, (fun e => nomatch e), (fun e => nomatch e), fun _ => ⟨(a, oe), i, _, B, List.mem_cons_self, hot, rfl, fun X' b1 b2 b3 b4 b5 b6 b7 hp' j s q x hj hq ok => ?_⟩, blt, con⟩
    rcases List.mem_append.mp (List.mem_of_getElem? hj) with hs | hs
    · exact tab_prim (X := X') (p := (a, oe)) (by rw [b3, b4]; exact W) hk (by rw [b6]; exact hi) hp' (by rw [b4]; exact hx) hz hf s q x hs hq ok
    · cases List.mem_singleton.mp hs
      cases hq
      refine PE.imp (prim_app (X := X') (p := (a, oe)) (by rw [b1, b2, b3, b4, b5]; exact F) (by rw [b7]; exact hrH) (by rw [b7]; exact hot) hp' (by rw [b3]; exact hb) (by rw [b4]; exact hm) (by rw [b3]; exact hkp) (by rw [b6]; exact hi) ok) fun σ H Q q => ?_
      obtain ⟨q1, q2, q3⟩ := q
      refine ⟨q1, spOf_exc (s := sgAp e g rm (valE (tabE E en' Cs Fs) rm n body cn fs)) (cn := cn) (fs := fs) (cls := cls) (dd := dd) rfl rfl hz hf ?_ ?_ q3⟩
      · rw [b4]
        obtain ⟨D0, h1, h2, h | ⟨h3, d, h4, h5⟩⟩ := hx
        · exact ⟨D0, h1, h2, .inl h⟩
        · exact ⟨D0, h1, h2, .inr ⟨h3, d, h4, q2 _ _ h5⟩⟩
      · cases Cs with
        | nil => exact absurd rfl hC
        | cons C0 Cs =>
          show (match (if E.known cn fs then R.ok (D.bl (E.sub cn C0), D.non) else .bad) with | .ok _ => false | _ => true) = false
          rw [if_pos hk]
/-- the same, with no def behind it -/
theorem tryAt_of0 {E : ExT} {Cs Fs : List Str} {en : Str} {c : SC} {X : Cx} {lv : Nat} {C : Addr} (W : AskW E Cs Fs X.K X.mg) (hC : Cs ≠ []) (nd : c.N.Nodup) (hN : X.N = c.N) (blt : ∀ (x : Str), x ∈ blts → X.mg x = none)
    (con : ∀ (x : Str) (v : V), c.C.lookup x = some v → ∃ u, X.mg x = some u ∧ RelV v u) (hs : X.stack = X.env :: X.outer) (hf0 : X.env.frame = some X.env.locals) (hr : Room lv X.A)
    (hS : X.mg "StraightError" = some (.ref C)) (hE : ∀ cn fs D0, E.known cn fs = true → X.mg cn = some (.ref D0) → PySem.W.exmOne X.K (.ref D0) (.ref C) = some true) :
    TryAt c (fun cn fs => tabE E en Cs Fs cn fs) X := by
  have known : ∀ cn fs, noE (tabE E en Cs Fs cn fs) = false → E.known cn fs = true := fun cn fs he => noE_tab (r := []) (by rw [List.append_nil]; exact he) hC
  refine ⟨hs, hf0, ⟨C, hS, fun cn fs H cls dd he hx => ?_⟩, fun cn fs i e a oe cls dd pn B he hev hi hx hz hf => ?_⟩
  · obtain ⟨D0, h1, rfl, _⟩ := hx
    exact hE cn fs D0 (known cn fs he) h1
  · have hk : E.known cn fs = true := known cn fs he
    have hee : e = en := by
      cases Cs with
      | nil => exact absurd rfl hC
      | cons C0 Cs =>
        have : some en = some e := hev
        exact (Option.some.inj this).symm
    subst hee
    have hot : Hot1 (X.suite a ((a, oe) :: pn)).A (a, oe) := by
      obtain ⟨vs, hv⟩ := hf
      exact ⟨rfl, vs, hv, hz.2.2 vs hv⟩
    refine ⟨hN, nd, by have := hr.un; show X.A.units + 199 < _; omega, (fun e => nomatch e), (fun e => nomatch e), fun _ => ⟨(a, oe), i, _, B, List.mem_cons_self, hot, rfl, fun X' b1 b2 b3 b4 b5 b6 b7 hp' j s q x hj hq ok => ?_⟩, blt, con⟩
    exact tab_prim (X := X') (p := (a, oe)) (by rw [b3, b4]; exact W) hk (by rw [b6]; exact hi) hp' (by rw [b4]; exact hx) hz hf s q x (List.mem_of_getElem? hj) hq ok
end OS
namespace OS
open PySem PySem.Spec PyProof.Rows L2

/-! ### a def that spoils what it is given -/
/-- what may be reached of it: scalars, its lists, its tuples -/
inductive Gd (K : PySem.W.Frag) (G : Hp) (S : List Addr) : V → Prop
  | non : Gd K G S .non
  | bl (b : Bool) : Gd K G S (.bl b)
  | int (i : Int) : Gd K G S (.int i)
  | str (x : Str) : Gd K G S (.str x)
  | tup {a : Addr} {vs : List V} : SqT K G a vs → vs.length ≤ 800 → (∀ v ∈ vs, Gd K G S v) → Gd K G S (.ref a)
  | lst {a : Addr} : a ∈ S → Gd K G S (.ref a)
mutual
theorem OwA.gd {K : PySem.W.Frag} {G H : Hp} {S : List Addr} : ∀ {v : V} {d : D} {o : List Addr}, OwA K G H v d o → smD d = true → (∀ a ∈ o, a ∈ S) → Gd K G S v ∧ ∀ a ∈ o, ∃ vs, H a = some (.lst vs) ∧ G a = none ∧ vs.length ≤ 800 ∧ ∀ v ∈ vs, Gd K G S v
  | _, _, _, .non, _, _ => ⟨.non, fun _ q => nomatch q⟩
  | _, _, _, .bl b, _, _ => ⟨.bl b, fun _ q => nomatch q⟩
  | _, _, _, .int b, _, _ => ⟨.int b, fun _ q => nomatch q⟩
  | _, _, _, .str b, _, _ => ⟨.str b, fun _ q => nomatch q⟩
  | _, _, _, .tup h r, e, m => by
    simp only [smD, Bool.and_eq_true, decide_eq_true_eq] at e
    obtain ⟨h1, h2⟩ := OwAL.gd r e.2 m
    exact ⟨.tup h (by rw [OwAL.length r]; exact e.1) h1, h2⟩
  | _, _, _, .lst h g r, e, m => by
    simp only [smD, Bool.and_eq_true, decide_eq_true_eq] at e
    obtain ⟨h1, h2⟩ := OwAL.gd r e.2 fun a q => m a (List.mem_cons_of_mem _ q)
    refine ⟨.lst (m _ List.mem_cons_self), fun a q => ?_⟩
    rcases List.mem_cons.mp q with q | q
    · subst q; exact ⟨_, h, g, by rw [OwAL.length r]; exact e.1, h1⟩
    · exact h2 a q
theorem OwAL.gd {K : PySem.W.Frag} {G H : Hp} {S : List Addr} : ∀ {vs : List V} {ds : List D} {o : List Addr}, OwAL K G H vs ds o → smL ds = true → (∀ a ∈ o, a ∈ S) → (∀ v ∈ vs, Gd K G S v) ∧ ∀ a ∈ o, ∃ vs, H a = some (.lst vs) ∧ G a = none ∧ vs.length ≤ 800 ∧ ∀ v ∈ vs, Gd K G S v
  | _, _, _, .nil, _, _ => ⟨fun _ q => (nomatch q), fun _ q => (nomatch q)⟩
  | _, _, _, .cons h r, e, m => by
    simp only [smL, Bool.and_eq_true] at e
    obtain ⟨h1, h2⟩ := OwA.gd h e.1 fun a q => m a (List.mem_append_left _ q)
    obtain ⟨h3, h4⟩ := OwAL.gd r e.2 fun a q => m a (List.mem_append_right _ q)
    refine ⟨fun v q => (List.mem_cons.mp q).elim (fun e => e ▸ h1) (h3 v), fun a q => (List.mem_append.mp q).elim (h2 a) (h4 a)⟩
end
/-- the lists stand, with items of that kind -/
def ClS (K : PySem.W.Frag) (G : Hp) (S : List Addr) (n : Nat) (H : Hp) : Prop := ∀ a ∈ S, ∃ vs, H a = some (.lst vs) ∧ vs.length ≤ n ∧ ∀ v ∈ vs, Gd K G S v
theorem ClS.upd {K : PySem.W.Frag} {G H : Hp} {S : List Addr} {n : Nat} {a : Addr} {o : HO} (h : ClS K G S n H) (na : a ∉ S) : ClS K G S n (upd H a o) := fun b hb => by
  obtain ⟨vs, e, r⟩ := h b hb
  exact ⟨vs, by rw [upd_ne (fun q => na (by rw [← q]; exact hb))]; exact e, r⟩
/-- walked: a list or a tuple -/
def iSeq (K : PySem.W.Frag) (tl : TE) : TI := fun σ H R => tl σ H fun x H1 => ∃ a, x = .ref a ∧ ((∃ xs, H1 a = some (.lst xs) ∧ R (Itl K a) H1) ∨ (∃ xs, SqT K H1 a xs ∧ R (Itt K a) H1))
theorem pi_seqS {X : Cx} {tg l : PySem.Expr} {tl : TE} (hl : PE X l tl) : PI X tg l (iSeq X.K tl) := by
  refine ⟨fun pins s σ H R I h => ?_⟩
  refine thn (hl.run pins s σ H _ I h) fun v s1 ⟨x, H1, I1, r1, q1⟩ => ?_
  obtain ⟨a, rfl, q⟩ := q1
  cases r1
  rcases q with ⟨xs, hq, q⟩ | ⟨xs, hq, q⟩
  · obtain ⟨its, rv, p, hz⟩ := I1.list (.inl (.inl hq))
    refine wpAny_pyIter_list p.isList ?_
    refine ⟨s1.heap.objs.size, [s1.heap.objs.size], _, _, H1, rfl, I1.kept (t' := s1.toks) fun b o e => Heap.get?_push_of_some _ e, turn_list a _, ⟨_, Heap.get?_push_size _ rfl, rfl, rfl⟩, fun b hb => ?_, q⟩
    have e : b = s1.heap.objs.size := by simpa using hb
    subst e
    exact I1.fpOk (Nat.le_refl _) (I1.hok.fresh (Nat.le_refl _))
  · obtain ⟨its, rv, p, hz⟩ := I1.tuple hq
    refine wpAny_pyIter_tuple (show s1.heap.IsTuple a its.toArray from p) ?_
    refine ⟨s1.heap.objs.size, [s1.heap.objs.size], _, _, H1, rfl, I1.kept (t' := s1.toks) fun b o e => Heap.get?_push_of_some _ e, turn_tuple a _, ⟨_, Heap.get?_push_size _ rfl, rfl, rfl⟩, fun b hb => ?_, q⟩
    have e : b = s1.heap.objs.size := by simpa using hb
    subst e
    exact I1.fpOk (Nat.le_refl _) (I1.hok.fresh (Nat.le_refl _))
/-- what isinstance(v, list), isinstance(v, tuple) say -/
def isL (K : PySem.W.Frag) (H : Hp) (n : String) (v : V) (b : Bool) : Prop := ∃ tt, TyX K H v tt ∧ PySem.W.kitOne K tt (.type n) = some b
theorem tupTy {K : PySem.W.Frag} {H : Hp} {a : Addr} {vs : List V} (h : SqT K H a vs) : TyX K H (.ref a) (.type "tuple") := by
  rcases h with (h | ⟨o, h⟩) | ⟨o, _, _, h, hc, _⟩
  · exact .base (.tup h)
  · exact .fTuple h
  · exact .kTuple h hc
/-- a value's kind, by the two questions -/
theorem Gd.kind {K : PySem.W.Frag} {G H : Hp} {S : List Addr} {n : Nat} {v : V} (g : Gd K G S v) (sm : Same G H) (c : ClS K G S n H) :
    (∃ a vs, v = .ref a ∧ a ∈ S ∧ H a = some (.lst vs) ∧ vs.length ≤ n ∧ (∀ w ∈ vs, Gd K G S w) ∧ isL K H "list" v true) ∨
    (∃ a vs, v = .ref a ∧ SqT K G a vs ∧ vs.length ≤ 800 ∧ (∀ w ∈ vs, Gd K G S w) ∧ isL K H "list" v false ∧ isL K H "tuple" v true) ∨
    (isL K H "list" v false ∧ isL K H "tuple" v false) := by
  cases g with
  | non => exact .inr (.inr ⟨⟨_, .base .non, kit_ty (by decide +kernel)⟩, ⟨_, .base .non, kit_ty (by decide +kernel)⟩⟩)
  | bl b => exact .inr (.inr ⟨⟨_, .base (.bl _), kit_ty (by decide +kernel)⟩, ⟨_, .base (.bl _), kit_ty (by decide +kernel)⟩⟩)
  | int i => exact .inr (.inr ⟨⟨_, .base (.int _), kit_ty (by decide +kernel)⟩, ⟨_, .base (.int _), kit_ty (by decide +kernel)⟩⟩)
  | str x => exact .inr (.inr ⟨⟨_, .base (.str _), kit_ty (by decide +kernel)⟩, ⟨_, .base (.str _), kit_ty (by decide +kernel)⟩⟩)
  | tup h l w => exact .inr (.inl ⟨_, _, rfl, h, l, w, ⟨_, tupTy (Same.sqT sm h), kit_ty (by decide +kernel)⟩, ⟨_, tupTy (Same.sqT sm h), kit_ty (by decide +kernel)⟩⟩)
  | lst h =>
    obtain ⟨vs, e, l, w⟩ := c _ h
    exact .inl ⟨_, vs, rfl, h, e, l, w, ⟨_, .base (.lst e), kit_ty (by decide +kernel)⟩⟩
/-- isinstance(name, T) -/
theorem pt_isS {X : Cx} {i : Nat} {x T : Str} {n : String} {p1 p2 p3 p4 : Pos} (g1 : Gl X "isinstance") (m1 : X.mg "isinstance" = none) (pv : PE X (.Name x p2) (tVar i)) (pn : PE X (.Name T p3) (tC (.ty n))) :
    PT X (.Call (.Name "isinstance" p1) [.Name x p2, .Name T p3] [] p4) (fun σ H Q => ∃ v b, σ[i]? = some (some v) ∧ isL X.K H n v b ∧ Q b H) := by
  have pe := pe_callB (p := p1) (pos := p4) call_isi g1 m1 (by decide +kernel) (pa_cons pv (pa_cons pn pa_nil)) (by decide) (by decide)
  refine PT.imp (pt_truth pe fun _ => rfl) fun σ H Q q => ?_
  obtain ⟨v, b, e, ⟨tt, h1, h2⟩, q⟩ := q
  exact ⟨v, e, v, .ty n, tt, _, b, rfl, .ty n, h1, h2, b, rfl, q⟩

theorem fn_spoil {P : Program} {w : World} {K : PySem.W.Frag} {mg : Str → Option Value} {base : Heap} {x qual : Str} {st : Stmt} {f : Addr} {fd : FuncData} {k : Nat} (F : Fun K x qual st f fd)
    (S : FnScope ["told", "left", "turn", "item", "part"] ["told"] (defScope st)) (hl : ∀ y ∈ (["told", "left", "turn", "item", "part"] : List Str), (defScope st).names.lookup y = some .local)
    (hg : ∀ y ∈ (["range", "len", "isinstance", "list", "tuple"] : List Str), (defScope st).names.lookup y = some .globalImplicit) (blt : ∀ (x : Str), x ∈ blts → mg x = none)
    {p1 p2 p3 p4 p5 p6 p7 p8 p9 p10 p11 p12 p13 p14 p15 p16 p17 p18 p19 p20 p21 p22 p23 p24 p25 p26 p27 p28 p29 p30 p31 p32 p33 p34 p35 p36 p37 p38 p39 p40 p41 p42 p43 p44 p45 p46 p47 p48 p49 p50 p51 p52 p53 : Pos} {k1 k2 k3 k4 k5 k6 : _}
    (hb : defBody st = [.Assign [.Name "left" p1] (.List [.Name "told" p2] p3) p4,
      .For (.Name "turn" p5) (.Call (.Name "range" p6) [.Constant (.int 5000) k1 p7] [] p8)
        [.If (.Compare (.Call (.Name "len" p9) [.Name "left" p10] [] p11) [.Eq] [.Constant (.int 0) k2 p12] p13) [.Return (some (.Constant (.int 0) k3 p14)) p15] [] p16,
         .Assign [.Name "item" p17] (.Call (.Attribute (.Name "left" p18) "pop" p19) [] [] p20) p21,
         .If (.BoolOp .Or [.Call (.Name "isinstance" p22) [.Name "item" p23, .Name "list" p24] [] p25, .Call (.Name "isinstance" p26) [.Name "item" p27, .Name "tuple" p28] [] p29] p30)
           [.For (.Name "part" p31) (.Name "item" p32) [.Expr (.Call (.Attribute (.Name "left" p33) "append" p34) [.Name "part" p35] [] p36) p37] [] p38] [] p39,
         .If (.Call (.Name "isinstance" p40) [.Name "item" p41, .Name "list" p42] [] p43) [.Expr (.Call (.Attribute (.Name "item" p44) "insert" p45) [.Constant (.int 0) k4 p46, .Constant (.int 9) k5 p47] [] p48) p49] [] p50] [] p51,
      .Return (some (.Constant (.int 0) k6 p52)) p53]) (e1 : p19.endLine = p20.line) (e2 : p34.endLine = p36.line) (e3 : p45.endLine = p48.line) :
    FnOk P w K mg base (L2N.CX P w) (k + 1) f fd ["told"] (spSpl K) := by
  obtain ⟨oc, od, kV, doc, pm, an, cdv, ct, osl, rfl, lk, hcd⟩ := F.ex
  refine fn_of lk hcd S (fun vs H Q E h => by obtain ⟨v, _, _, _, rfl, _⟩ := h; rfl) fun A outer sh H vs Q E hr hsp => ?_
  obtain ⟨v0, d, os, G, rfl, sm, ow, nd, hsm, out⟩ := hsp
  obtain ⟨gd0, cl0⟩ := OwA.gd ow hsm (fun _ q => q)
  rw [hb]
  have vis : ∀ y ∈ (["told", "left", "turn", "item", "part"] : List Str), Vis (defScope st) y := fun y h => .inl (hl y h)
  have loc : ∀ y ∈ (["told", "left", "turn", "item", "part"] : List Str), Loc (defScope st) y := fun y h => .inl (hl y h)
  have gl : ∀ y ∈ (["range", "len", "isinstance", "list", "tuple"] : List Str), Gl (cxOf (L2N.CX P w) P w K mg base ["told", "left", "turn", "item", "part"] qual (defScope st) f cdv A outer sh H E) y := hg
  have pv : ∀ (i : Nat) (y : Str) (p : Pos), (["told", "left", "turn", "item", "part"] : List Str)[i]? = some y → y ∈ (["told", "left", "turn", "item", "part"] : List Str) → (y == ("__debug__" : Str)) = false → (y == ("__classdict__" : Str)) = false →
      PE (cxOf (L2N.CX P w) P w K mg base ["told", "left", "turn", "item", "part"] qual (defScope st) f cdv A outer sh H E) (.Name y p) (tVar i) := fun i y p h1 h2 h3 h4 => pe_var h1 (vis y h2) h3 h4
  have isl : ∀ (p1 p2 p3 p4 : Pos), PT (cxOf (L2N.CX P w) P w K mg base ["told", "left", "turn", "item", "part"] qual (defScope st) f cdv A outer sh H E) (.Call (.Name "isinstance" p1) [.Name "item" p2, .Name "list" p3] [] p4) (fun σ H Q => ∃ v b, σ[3]? = some (some v) ∧ isL K H "list" v b ∧ Q b H) := fun p1 p2 p3 p4 =>
    pt_isS (gl _ (by decide)) (blt _ (by decide)) (pv 3 _ _ rfl (by decide) (by decide) (by decide)) (pe_bltn (gl _ (by decide)) (blt _ (by decide)) (by decide +kernel) rfl)
  have ist : ∀ (p1 p2 p3 p4 : Pos), PT (cxOf (L2N.CX P w) P w K mg base ["told", "left", "turn", "item", "part"] qual (defScope st) f cdv A outer sh H E) (.Call (.Name "isinstance" p1) [.Name "item" p2, .Name "tuple" p3] [] p4) (fun σ H Q => ∃ v b, σ[3]? = some (some v) ∧ isL K H "tuple" v b ∧ Q b H) := fun p1 p2 p3 p4 =>
    pt_isS (gl _ (by decide)) (blt _ (by decide)) (pv 3 _ _ rfl (by decide) (by decide) (by decide)) (pe_bltn (gl _ (by decide)) (blt _ (by decide)) (by decide +kernel) rfl)
  have ior : PT (cxOf (L2N.CX P w) P w K mg base ["told", "left", "turn", "item", "part"] qual (defScope st) f cdv A outer sh H E) (.BoolOp .Or [.Call (.Name "isinstance" p22) [.Name "item" p23, .Name "list" p24] [] p25, .Call (.Name "isinstance" p26) [.Name "item" p27, .Name "tuple" p28] [] p29] p30)
      (fun σ H Q => ∃ v b, σ[3]? = some (some v) ∧ isL K H "list" v b ∧ (if b = true then Q true H else ∃ v b, σ[3]? = some (some v) ∧ isL K H "tuple" v b ∧ Q b H)) := by
    refine ⟨fun pins s σ H Q I q => ?_⟩
    obtain ⟨v, b, q1, q2, q3⟩ := q
    refine isTrue_or (thn ((isl _ _ _ _).run pins s σ H (fun b' H' => b' = b ∧ H' = H) I ⟨v, b, q1, q2, rfl, rfl⟩) fun b' s1 ⟨H1, I1, e1, e2⟩ => ?_)
    subst e1 e2
    cases b' with
    | true => exact ⟨H1, I1, q3⟩
    | false => exact (pw_or1 (pos := p30) (ist _ _ _ _)).pt.run pins s1 σ H1 Q I1 q3
  refine ⟨_, pss_cons (ps_set (i := 1) S.nd rfl (loc _ (by decide)) (pe_lst (pa_cons (pv 0 _ _ rfl (by decide) (by decide) (by decide)) pa_nil)))
    (pss_cons (ps_for (L2.passes_of rfl) rfl (pi_range1 (gl _ (by decide)) (blt _ (by decide)) (pa_cons pe_int pa_nil)) (pg_name (i := 2) S.nd rfl (loc _ (by decide)))
      (pss_cons (ps_if (pt_cmpR op_eq (pe_callB call_len_seq (gl _ (by decide)) (blt _ (by decide)) PySem.boot_len (pa_cons (pv 1 _ _ rfl (by decide) (by decide) (by decide)) pa_nil)) pe_int rfl) (pss_one (ps_ret pe_int)) pss_nil)
      (pss_cons (ps_set (i := 3) S.nd rfl (loc _ (by decide)) (pe_bm0 PySem.F.plainAttrs_list PySem.F.slot_list_pop PySem.F.type_list_pop mt_pop (pv 1 _ _ rfl (by decide) (by decide) (by decide)) rfl (beq_iff_eq.mpr e1)))
      (pss_cons (ps_if ior (pss_one (ps_for (L2.passes_of rfl) rfl (pi_seqS (pv 3 _ _ rfl (by decide) (by decide) (by decide))) (pg_name (i := 4) S.nd rfl (loc _ (by decide)))
          (pss_one (ps_expr (pe_bm PySem.F.plainAttrs_list PySem.F.slot_list_append PySem.F.type_list_append mt_append (pv 1 _ _ rfl (by decide) (by decide) (by decide)) (pa_cons (pv 4 _ _ rfl (by decide) (by decide) (by decide)) pa_nil) rfl rfl (beq_iff_eq.mpr e2)))))) pss_nil)
      (pss_one (ps_if (isl _ _ _ _) (pss_one (ps_expr (pe_bm PySem.F.plainAttrs_list PySem.F.slot_list_insert PySem.F.type_list_insert mt_insert (pv 3 _ _ rfl (by decide) (by decide) (by decide)) (pa_cons pe_int (pa_cons pe_int pa_nil)) rfl rfl (beq_iff_eq.mpr e3)))) pss_nil))))))
    (pss_one (ps_ret pe_int))), ?_⟩
  have osH : ∀ a ∈ os, ∃ u, H a = some u := fun a ha => by
    obtain ⟨vs, e, _⟩ := cl0 a ha
    exact ⟨_, e⟩
  have osG : ∀ a ∈ os, G a = none := fun a ha => by
    obtain ⟨vs, _, e, _⟩ := cl0 a ha
    exact e
  refine ⟨v0, rfl, by rw [sizeLine_eq]; simp, fun l nl => ?_⟩
  have lo : l ∉ os := fun q => by
    obtain ⟨u, e⟩ := osH l q
    rw [nl] at e; cases e
  have Gl0 : G l = none := by
    cases e : G l with
    | none => rfl
    | some u => rw [sm _ _ e] at nl; cases nl
  have lne : ∀ a ∈ os, a ≠ l := fun a ha e => lo (e ▸ ha)
  have fin : ∀ H2 : Hp, (∀ a o, H a = some o → a ∉ os → H2 a = some o) → Fr G H G H2 os := fun H2 kp => ⟨Same.refl _, fun a o e => kp a o (sm _ _ e) (fun q => by
    rw [osG a q] at e; cases e), fun a o e n => ⟨kp a o e n, rfl⟩⟩
  have sz : sizeLine = 16777216 := sizeLine_eq
  refine ⟨5000, rfl, by decide, by decide, fun i m σ H2 => m = 5000 - i ∧ i ≤ 5000 ∧ ∃ y2 y3 y4 ws, σ = [some v0, some (.ref l), y2, y3, y4] ∧ H2 l = some (.lst ws) ∧ 2 * ws.length ≤ 2 + 1600 * i + i * i ∧ (∀ w ∈ ws, Gd K G os w) ∧ ClS K G os (800 + i) H2 ∧ (∀ a o, H a = some o → a ∉ os → H2 a = some o), ?_, ?_⟩
  · refine ⟨5000, rfl, by decide, none, none, none, [v0], rfl, upd_same, by simp, fun w hw => (List.mem_singleton.mp hw) ▸ gd0, fun a ha => ?_, fun a o e n => ?_⟩
    · obtain ⟨vs, e, _, r⟩ := cl0 a ha
      exact ⟨vs, by rw [upd_ne (lne a ha)]; exact e, r⟩
    · rw [upd_ne (fun q => by rw [q, nl] at e; cases e)]; exact e
  · rintro i m σ H2 ⟨rfl, hi, y2, y3, y4, ws, rfl, hl2, hlen, hgd, hcl, hkp⟩
    by_cases hlt : i < 5000
    case neg =>
      refine .inl ⟨by show 5000 ≤ i; omega, ?_⟩
      exact out _ _ (fin _ hkp)
    refine .inr ⟨hlt, fun σ' H' => i + 1 ≤ 5000 ∧ ∃ y2 y3 y4 ws, σ' = [some v0, some (.ref l), y2, y3, y4] ∧ H' l = some (.lst ws) ∧ 2 * ws.length ≤ 2 + 1600 * (i + 1) + (i + 1) * (i + 1) ∧ (∀ w ∈ ws, Gd K G os w) ∧ ClS K G os (800 + (i + 1)) H' ∧ (∀ a o, H a = some o → a ∉ os → H' a = some o), fun σ' H' n => ⟨5000 - (i + 1), by omega, rfl, n⟩, fun z H' y => ?_⟩
    obtain ⟨eH, rfl⟩ := y
    rw [eH]
    clear eH H'
    refine ⟨.ref l, rfl, l, ws, rfl, .inl (.inl (.inl hl2)), rfl, _, rfl, ite2 (fun e => ?_) (fun e => ?_)⟩
    · exact out _ _ (fin _ hkp)
    · have wne : ws ≠ [] := fun q => by
        subst q
        exact e (decide_eq_true rfl)
      have hlast : ws[ws.length - 1]? = some (ws.getLast wne) := by rw [← List.getLast?_eq_getElem?, List.getLast?_eq_getLast wne]
      have gl0 : Gd K G os (ws.getLast wne) := hgd _ (List.getLast_mem wne)
      have gdl : ∀ w ∈ ws.dropLast, Gd K G os w := fun w q => hgd _ ((List.dropLast_sublist ws).subset q)
      have ldl : ws.dropLast.length = ws.length - 1 := List.length_dropLast
      have wpos : 0 < ws.length := List.length_pos_iff.mpr wne
      refine ⟨.ref l, rfl, .inl ⟨rfl, _, .inl (.inl hl2)⟩, l, ws, ws.getLast wne, rfl, rfl, hl2, hlast, ?_⟩
      generalize ws.getLast wne = it at gl0
      generalize hws : ws.dropLast = wd at gdl ldl
      have kp3 : ∀ wz : List V, ∀ a o, H a = some o → a ∉ os → (upd H2 l (.lst wz)) a = some o := fun wz a o e n => by
        rw [upd_ne (fun q => by rw [q, nl] at e; cases e)]; exact hkp a o e n
      have cl3 : ∀ wz : List V, ClS K G os (800 + i) (upd H2 l (.lst wz)) := fun wz => hcl.upd lo
      have sm3 : ∀ wz : List V, Same G (upd H2 l (.lst wz)) := fun wz => (fin _ (kp3 wz)).s
      have ii : (i + 1) * (i + 1) = i * i + 2 * i + 1 := by rw [Nat.succ_mul, Nat.mul_succ]; omega
      have i2 : i * i ≤ 4999 * 4999 := Nat.mul_le_mul (by omega) (by omega)
      -- the inner loop
      have inner : ∀ (J : It) (vs : List V) (De : Ends) (g2 : Option V), vs.length ≤ 800 + i → (∀ wz : List V, (∀ j, j < vs.length → J.go j (upd H2 l (.lst wz))) ∧ (∀ j z H', J.yld j (upd H2 l (.lst wz)) z H' → H' = upd H2 l (.lst wz) ∧ vs[j]? = some z) ∧ (∀ j, vs.length ≤ j → J.stop j (upd H2 l (.lst wz)))) →
          (∀ y4, De.nx [some v0, some (.ref l), g2, some it, y4] (upd H2 l (.lst (wd ++ vs)))) →
          ∃ W : Nat → Nat → L2.St → Hp → Prop, (∃ m, W 0 m [some v0, some (.ref l), g2, some it, y4] (upd H2 l (.lst wd))) ∧ ∀ j m σ H, W j m σ H →
            (J.stop j H ∧ De.nx σ H) ∨ (J.go j H ∧ ∃ N : L2.St → Hp → Prop, (∀ σ' H', N σ' H' → ∃ m', m' < m ∧ W (j + 1) m' σ' H') ∧ ∀ z H', J.yld j H z H' → gName 4 z σ H' fun σ2 H2 => tDrop (tBM K "list" rAppend (tVar 1) (tCons (tVar 4) tNil)) { De with nx := N, ct := N, bk := De.nx } σ2 H2) := by
        intro J vs De g2 hv hJ hnx
        refine ⟨fun j m σ H' => m = vs.length - j ∧ j ≤ vs.length ∧ ∃ y4, σ = [some v0, some (.ref l), g2, some it, y4] ∧ H' = upd H2 l (.lst (wd ++ vs.take j)), ⟨_, rfl, Nat.zero_le _, y4, rfl, by simp⟩, ?_⟩
        rintro j m σ H' ⟨rfl, hj, z4, rfl, rfl⟩
        obtain ⟨j1, j2, j3⟩ := hJ (wd ++ vs.take j)
        by_cases hjl : j < vs.length
        case neg =>
          have e : j = vs.length := by omega
          subst e
          refine .inl ⟨j3 _ (Nat.le_refl _), ?_⟩
          rw [List.take_length]
          exact hnx z4
        refine .inr ⟨j1 j hjl, fun σ' H' => ∃ y4, σ' = [some v0, some (.ref l), g2, some it, y4] ∧ H' = upd H2 l (.lst (wd ++ vs.take (j + 1))), fun σ' H' n => ⟨vs.length - (j + 1), by omega, rfl, hjl, n⟩, fun z H' y => ?_⟩
        obtain ⟨rfl, hz⟩ := j2 j z H' y
        refine ⟨.ref l, rfl, .inl ⟨rfl, _, .inl (.inl upd_same)⟩, z, rfl, l, _, _, rfl, rfl, upd_same, ?_, ?_⟩
        · rw [List.length_append, List.length_take, sz]
          omega
        · refine ⟨some z, rfl, ?_⟩
          rw [upd_twice, List.append_assoc, List.take_add_one, hz]
          rfl
      have close : ∀ (vs : List V), vs.length ≤ 800 + i → (∀ w ∈ vs, Gd K G os w) → ∀ y2 y3 y4 H5, H5 l = some (.lst (wd ++ vs)) → ClS K G os (800 + (i + 1)) H5 → (∀ a o, H a = some o → a ∉ os → H5 a = some o) →
          (i + 1 ≤ 5000 ∧ ∃ y2' y3' y4' ws, [some v0, some (.ref l), y2, y3, y4] = [some v0, some (.ref l), y2', y3', y4'] ∧ H5 l = some (.lst ws) ∧ 2 * ws.length ≤ 2 + 1600 * (i + 1) + (i + 1) * (i + 1) ∧ (∀ w ∈ ws, Gd K G os w) ∧ ClS K G os (800 + (i + 1)) H5 ∧ (∀ a o, H a = some o → a ∉ os → H5 a = some o)) := by
        intro vs hv hg y2 y3 y4 H5 h1 h2 h3
        refine ⟨hlt, y2, y3, y4, _, rfl, h1, ?_, fun w q => (List.mem_append.mp q).elim (gdl w) (hg w), h2, h3⟩
        rw [List.length_append, ii]
        omega
      have clUp : ∀ H5, ClS K G os (800 + i) H5 → ClS K G os (800 + (i + 1)) H5 := fun H5 h a ha => by
        obtain ⟨vs, e1, e2, e3⟩ := h a ha
        exact ⟨vs, e1, by omega, e3⟩
      rcases gl0.kind (sm3 wd) (cl3 wd) with ⟨a, vs, rfl, ha, ea, hv, hg', h1⟩ | ⟨a, vs, rfl, ea, hv, hg', h1, h2⟩ | ⟨h1, h2⟩
      · have ea2 : H2 a = some (.lst vs) := by rw [upd_ne (lne a ha)] at ea; exact ea
        refine ⟨.ref a, true, rfl, h1, ?_⟩
        refine ⟨.ref a, rfl, a, rfl, .inl ⟨vs, ea, inner (Itl K a) vs _ _ hv (fun wz => ?_) fun y4 => ?_⟩⟩
        · have e : (upd H2 l (.lst wz)) a = some (.lst vs) := by rw [upd_ne (lne a ha)]; exact ea2
          refine ⟨fun j hj => ⟨vs, vs[j], .inl (.inl e), List.getElem?_eq_getElem hj⟩, fun j z H' y => ?_, fun j hj => ⟨vs, .inl (.inl e), hj⟩⟩
          obtain ⟨rfl, y⟩ := y
          exact ⟨rfl, y vs (.inl (.inl e))⟩
        · have e : (upd H2 l (.lst (wd ++ vs))) a = some (.lst vs) := by rw [upd_ne (lne a ha)]; exact ea2
          refine ⟨.ref a, true, rfl, ⟨_, .base (.lst e), kit_ty (by decide +kernel)⟩, ?_⟩
          refine ⟨.ref a, rfl, .inl ⟨rfl, _, .inl (.inl e)⟩, a, vs, 0, .int 9, rfl, rfl, e, by rw [sz]; omega, by decide, by decide, ?_⟩
          refine close vs hv hg' _ _ _ _ ?_ (fun b hb => ?_) (fun b o e n => ?_)
          · rw [upd_ne (fun q => lne a ha q.symm), upd_same]
          · by_cases eb : b = a
            · subst eb
              refine ⟨_, upd_same, ?_, fun w q => ?_⟩
              · simp; omega
              · simp at q
                rcases q with rfl | q
                · exact .int 9
                · exact hg' w q
            · obtain ⟨us, e1, e2, e3⟩ := cl3 (wd ++ vs) b hb
              exact ⟨us, by rw [upd_ne eb]; exact e1, by omega, e3⟩
          · rw [upd_ne (fun q => n (by rw [q]; exact ha))]
            exact kp3 _ b o e n
      · have ea2 : ∀ wz : List V, SqT K (upd H2 l (.lst wz)) a vs := fun wz => Same.sqT (sm3 wz) ea
        refine ⟨.ref a, false, rfl, h1, .ref a, true, rfl, h2, ?_⟩
        refine ⟨.ref a, rfl, a, rfl, .inr ⟨vs, ea2 wd, inner (Itt K a) vs _ _ (by omega) (fun wz => ?_) fun y4 => ?_⟩⟩
        · refine ⟨fun j hj => ⟨vs, vs[j], ea2 wz, List.getElem?_eq_getElem hj⟩, fun j z H' y => ?_, fun j hj => ⟨vs, ea2 wz, hj⟩⟩
          obtain ⟨rfl, y⟩ := y
          exact ⟨rfl, y vs (ea2 wz)⟩
        · refine ⟨.ref a, false, rfl, ⟨_, tupTy (ea2 _), kit_ty (by decide +kernel)⟩, ?_⟩
          exact close vs (by omega) hg' _ _ _ _ upd_same (clUp _ (cl3 _)) (kp3 _)
      · refine ⟨it, false, rfl, h1, it, false, rfl, h2, ?_⟩
        refine ⟨it, false, rfl, h1, ?_⟩
        exact close [] (Nat.zero_le _) (fun _ q => nomatch q) _ _ _ (upd H2 l (.lst wd)) (by rw [upd_same, List.append_nil]) (clUp _ (cl3 _)) (kp3 _)
end OS
namespace OS
open PySem PySem.Spec PyProof.Rows L2
/-! ### another def that spoils what it is given: its lists, and those right within -/
theorem Gd.isl {K : PySem.W.Frag} {G H : Hp} {S : List Addr} {n : Nat} {v : V} (g : Gd K G S v) (sm : Same G H) (c : ∀ a ∈ S, ∃ us, H a = some (.lst us) ∧ us.length ≤ n) :
    (∃ a us, v = .ref a ∧ a ∈ S ∧ H a = some (.lst us) ∧ us.length ≤ n ∧ isL K H "list" v true) ∨ isL K H "list" v false := by
  cases g with
  | non => exact .inr ⟨_, .base .non, kit_ty (by decide +kernel)⟩
  | bl b => exact .inr ⟨_, .base (.bl _), kit_ty (by decide +kernel)⟩
  | int i => exact .inr ⟨_, .base (.int _), kit_ty (by decide +kernel)⟩
  | str x => exact .inr ⟨_, .base (.str _), kit_ty (by decide +kernel)⟩
  | tup h l w => exact .inr ⟨_, tupTy (Same.sqT sm h), kit_ty (by decide +kernel)⟩
  | lst h =>
    obtain ⟨us, e, l⟩ := c _ h
    exact .inl ⟨_, us, rfl, h, e, l, _, .base (.lst e), kit_ty (by decide +kernel)⟩
def tAp (K : PySem.W.Frag) (i : Nat) : TS := tDrop (tBM K "list" rAppend (tVar i) (tCons (tOp (rI0 fun i j => .int (i - j)) (tC (.int 0)) (tC (.int 7))) tNil))
def tIs (K : PySem.W.Frag) (i : Nat) (n : String) : TT := fun σ H Q => ∃ v b, σ[i]? = some (some v) ∧ isL K H n v b ∧ Q b H
def spB (K : PySem.W.Frag) : TS := tIfS (tIs K 1 "list") (tAp K 1) tNext
def tOr2 (K : PySem.W.Frag) : TT := fun σ H Q => ∃ v b, σ[0]? = some (some v) ∧ isL K H "list" v b ∧ (if b = true then Q true H else ∃ v b, σ[0]? = some (some v) ∧ isL K H "tuple" v b ∧ Q b H)
def spT (K : PySem.W.Frag) : TS := tSeq (tIfS (tOr2 K) (tFor (iSeq K (tVar 0)) (gName 1) (spB K)) tNext) (tIfS (tIs K 0 "list") (tAp K 0) tNext)
theorem fn_spoil2 {P : Program} {w : World} {K : PySem.W.Frag} {mg : Str → Option Value} {base : Heap} {x qual : Str} {st : Stmt} {f : Addr} {fd : FuncData} {k : Nat} (F : Fun K x qual st f fd)
    (S : FnScope ["value", "part"] ["value"] (defScope st)) (hl : ∀ y ∈ (["value", "part"] : List Str), (defScope st).names.lookup y = some .local)
    (hg : ∀ y ∈ (["isinstance", "list", "tuple"] : List Str), (defScope st).names.lookup y = some .globalImplicit) (blt : ∀ (x : Str), x ∈ blts → mg x = none)
    {p1 p2 p3 p4 p5 p6 p7 p8 p9 p10 p11 p12 p13 p14 p15 p16 p17 p18 p19 p20 p21 p22 p23 p24 p25 p26 p27 p28 p29 p30 p31 p32 p33 p34 p35 p36 p37 : Pos} {k1 k2 k3 k4 : _}
    (hb : defBody st = [.If (.BoolOp .Or [.Call (.Name "isinstance" p1) [.Name "value" p2, .Name "list" p3] [] p4, .Call (.Name "isinstance" p5) [.Name "value" p6, .Name "tuple" p7] [] p8] p9)
        [.For (.Name "part" p10) (.Name "value" p11) [.If (.Call (.Name "isinstance" p12) [.Name "part" p13, .Name "list" p14] [] p15)
          [.Expr (.Call (.Attribute (.Name "part" p16) "append" p17) [.BinOp (.Constant (.int 0) k1 p18) .Sub (.Constant (.int 7) k2 p19) p20] [] p21) p22] [] p23] [] p24] [] p25,
      .If (.Call (.Name "isinstance" p26) [.Name "value" p27, .Name "list" p28] [] p29)
        [.Expr (.Call (.Attribute (.Name "value" p30) "append" p31) [.BinOp (.Constant (.int 0) k3 p32) .Sub (.Constant (.int 7) k4 p33) p34] [] p35) p36] [] p37]) (e1 : p17.endLine = p21.line) (e2 : p31.endLine = p35.line) :
    FnOk P w K mg base (L2N.CX P w) (k + 1) f fd ["value"] (spSpl K) := by
  obtain ⟨oc, od, kV, doc, pm, an, cdv, ct, osl, rfl, lk, hcd⟩ := F.ex
  refine fn_of lk hcd S (fun vs H Q E h => by obtain ⟨v, _, _, _, rfl, _⟩ := h; rfl) fun A outer sh H vs Q E hr hsp => ?_
  obtain ⟨v0, d, os, G, rfl, sm, ow, nd, hsm, out⟩ := hsp
  obtain ⟨gd0, cl0⟩ := OwA.gd ow hsm (fun _ q => q)
  rw [hb]
  have vis : ∀ y ∈ (["value", "part"] : List Str), Vis (defScope st) y := fun y h => .inl (hl y h)
  have loc : ∀ y ∈ (["value", "part"] : List Str), Loc (defScope st) y := fun y h => .inl (hl y h)
  have gl : ∀ y ∈ (["isinstance", "list", "tuple"] : List Str), Gl (cxOf (L2N.CX P w) P w K mg base ["value", "part"] qual (defScope st) f cdv A outer sh H E) y := hg
  have pv : ∀ (i : Nat) (y : Str) (p : Pos), (["value", "part"] : List Str)[i]? = some y → y ∈ (["value", "part"] : List Str) → (y == ("__debug__" : Str)) = false → (y == ("__classdict__" : Str)) = false →
      PE (cxOf (L2N.CX P w) P w K mg base ["value", "part"] qual (defScope st) f cdv A outer sh H E) (.Name y p) (tVar i) := fun i y p h1 h2 h3 h4 => pe_var h1 (vis y h2) h3 h4
  have isl : ∀ (i : Nat) (y : Str) (p1 p2 p3 p4 : Pos), (["value", "part"] : List Str)[i]? = some y → y ∈ (["value", "part"] : List Str) → (y == ("__debug__" : Str)) = false → (y == ("__classdict__" : Str)) = false → PT (cxOf (L2N.CX P w) P w K mg base ["value", "part"] qual (defScope st) f cdv A outer sh H E) (.Call (.Name "isinstance" p1) [.Name y p2, .Name "list" p3] [] p4) (fun σ H Q => ∃ v b, σ[i]? = some (some v) ∧ isL K H "list" v b ∧ Q b H) := fun i y p1 p2 p3 p4 h1 h2 h3 h4 =>
    pt_isS (gl _ (by decide)) (blt _ (by decide)) (pv i y _ h1 h2 h3 h4) (pe_bltn (gl _ (by decide)) (blt _ (by decide)) (by decide +kernel) rfl)
  have ist : ∀ (p1 p2 p3 p4 : Pos), PT (cxOf (L2N.CX P w) P w K mg base ["value", "part"] qual (defScope st) f cdv A outer sh H E) (.Call (.Name "isinstance" p1) [.Name "value" p2, .Name "tuple" p3] [] p4) (fun σ H Q => ∃ v b, σ[0]? = some (some v) ∧ isL K H "tuple" v b ∧ Q b H) := fun p1 p2 p3 p4 =>
    pt_isS (gl _ (by decide)) (blt _ (by decide)) (pv 0 _ _ rfl (by decide) (by decide) (by decide)) (pe_bltn (gl _ (by decide)) (blt _ (by decide)) (by decide +kernel) rfl)
  have ior : PT (cxOf (L2N.CX P w) P w K mg base ["value", "part"] qual (defScope st) f cdv A outer sh H E) (.BoolOp .Or [.Call (.Name "isinstance" p1) [.Name "value" p2, .Name "list" p3] [] p4, .Call (.Name "isinstance" p5) [.Name "value" p6, .Name "tuple" p7] [] p8] p9)
      (fun σ H Q => ∃ v b, σ[0]? = some (some v) ∧ isL K H "list" v b ∧ (if b = true then Q true H else ∃ v b, σ[0]? = some (some v) ∧ isL K H "tuple" v b ∧ Q b H)) := by
    refine ⟨fun pins s σ H Q I q => ?_⟩
    obtain ⟨v, b, q1, q2, q3⟩ := q
    refine isTrue_or (thn ((isl 0 _ _ _ _ _ rfl (by decide) (by decide) (by decide)).run pins s σ H (fun b' H' => b' = b ∧ H' = H) I ⟨v, b, q1, q2, rfl, rfl⟩) fun b' s1 ⟨H1, I1, e1, e2⟩ => ?_)
    subst e1 e2
    cases b' with
    | true => exact ⟨H1, I1, q3⟩
    | false => exact (pw_or1 (pos := p9) (ist _ _ _ _)).pt.run pins s1 σ H1 Q I1 q3
  refine ⟨_, pss_cons (ps_if ior (pss_one (ps_for (L2.passes_of rfl) rfl (pi_seqS (pv 0 _ _ rfl (by decide) (by decide) (by decide))) (pg_name (i := 1) S.nd rfl (loc _ (by decide)))
      (pss_one (ps_if (isl 1 _ _ _ _ _ rfl (by decide) (by decide) (by decide)) (pss_one (ps_expr (pe_bm PySem.F.plainAttrs_list PySem.F.slot_list_append PySem.F.type_list_append mt_append (pv 1 _ _ rfl (by decide) (by decide) (by decide)) (pa_cons (pe_op op_sub pe_int pe_int) pa_nil) rfl rfl (beq_iff_eq.mpr e1)))) pss_nil)))) pss_nil)
    (pss_one (ps_if (isl 0 _ _ _ _ _ rfl (by decide) (by decide) (by decide)) (pss_one (ps_expr (pe_bm PySem.F.plainAttrs_list PySem.F.slot_list_append PySem.F.type_list_append mt_append (pv 0 _ _ rfl (by decide) (by decide) (by decide)) (pa_cons (pe_op op_sub pe_int pe_int) pa_nil) rfl rfl (beq_iff_eq.mpr e2)))) pss_nil)), ?_⟩
  have osG : ∀ a ∈ os, G a = none := fun a ha => by
    obtain ⟨vs, _, e, _⟩ := cl0 a ha
    exact e
  have fin : ∀ H2 : Hp, (∀ a o, H a = some o → a ∉ os → H2 a = some o) → Fr G H G H2 os := fun H2 kp => ⟨Same.refl _, fun a o e => kp a o (sm _ _ e) (fun q => by
    rw [osG a q] at e; cases e), fun a o e n => ⟨kp a o e n, rfl⟩⟩
  have sz : sizeLine = 16777216 := sizeLine_eq
  -- the loop over the parts
  have loop : ∀ (J : It) (vs : List V) (S' : List Addr) (De : Ends), vs.length ≤ 800 → (∀ w ∈ vs, Gd K G S' w) → (∀ b ∈ S', b ∈ os) →
      (∀ H2 : Hp, (∀ b o, H b = some o → b ∉ S' → H2 b = some o) → (∀ j, j < vs.length → J.go j H2) ∧ (∀ j z H', J.yld j H2 z H' → H' = H2 ∧ vs[j]? = some z) ∧ (∀ j, vs.length ≤ j → J.stop j H2)) →
      (∀ y H2, (∀ b o, H b = some o → b ∉ S' → H2 b = some o) → De.nx [some v0, y] H2) →
      ∃ W : Nat → Nat → L2.St → Hp → Prop, (∃ m, W 0 m [some v0, none] H) ∧ ∀ j m σ H, W j m σ H →
        (J.stop j H ∧ De.nx σ H) ∨ (J.go j H ∧ ∃ N : L2.St → Hp → Prop, (∀ σ' H', N σ' H' → ∃ m', m' < m ∧ W (j + 1) m' σ' H') ∧ ∀ z H', J.yld j H z H' → gName 1 z σ H' fun σ2 H2 =>
          spB K { De with nx := N, ct := N, bk := De.nx } σ2 H2) := by
    intro J vs S' De hv hg' hS hJ hnx
    refine ⟨fun j m σ H' => m = vs.length - j ∧ j ≤ vs.length ∧ ∃ y, σ = [some v0, y] ∧ (∀ a ∈ S', ∃ us, H' a = some (.lst us) ∧ us.length ≤ 800 + j) ∧ (∀ b o, H b = some o → b ∉ S' → H' b = some o), ⟨_, rfl, Nat.zero_le _, none, rfl, fun a ha => ?_, fun _ _ e _ => e⟩, ?_⟩
    · obtain ⟨us, e, _, l, _⟩ := cl0 a (hS a ha)
      exact ⟨us, e, l⟩
    rintro j m σ H' ⟨rfl, hj, y, rfl, hcl, hkp⟩
    obtain ⟨j1, j2, j3⟩ := hJ H' hkp
    by_cases hjl : j < vs.length
    case neg => exact .inl ⟨j3 _ (by omega), hnx _ _ hkp⟩
    refine .inr ⟨j1 j hjl, fun σ' H'' => ∃ y, σ' = [some v0, y] ∧ (∀ a ∈ S', ∃ us, H'' a = some (.lst us) ∧ us.length ≤ 800 + (j + 1)) ∧ (∀ b o, H b = some o → b ∉ S' → H'' b = some o), fun σ' H'' n => ⟨vs.length - (j + 1), by omega, rfl, hjl, n⟩, fun z H2 yl => ?_⟩
    obtain ⟨rfl, hz⟩ := j2 j z H2 yl
    have sm2 : Same G H2 := (fin H2 fun b o e n => hkp b o e fun q => n (hS b q)).s
    have up : ∀ a ∈ S', ∃ us, H2 a = some (.lst us) ∧ us.length ≤ 800 + (j + 1) := fun a ha => by
      obtain ⟨us, e, l⟩ := hcl a ha
      exact ⟨us, e, by omega⟩
    rcases (hg' z (List.mem_of_getElem? hz)).isl sm2 hcl with ⟨a, us, rfl, ha, ea, l, h1⟩ | h1
    · refine ⟨.ref a, true, rfl, h1, ?_⟩
      refine ⟨.ref a, rfl, .inl ⟨rfl, _, .inl (.inl ea)⟩, 0, 7, rfl, rfl, a, us, .int (0 - 7), rfl, rfl, ea, by rw [sz]; omega, ?_⟩
      refine ⟨some (.ref a), rfl, fun b hb => ?_, fun b o e n => ?_⟩
      · by_cases eb : b = a
        · subst eb
          exact ⟨_, upd_same, by simp; omega⟩
        · obtain ⟨us2, e2, l2⟩ := up b hb
          exact ⟨us2, by rw [upd_ne eb]; exact e2, l2⟩
      · rw [upd_ne (fun q => n (by rw [q]; exact ha))]
        exact hkp b o e n
    · exact ⟨z, false, rfl, h1, some z, rfl, up, hkp⟩
  have skip : isL K H "list" v0 false → isL K H "tuple" v0 false → os = [] → _ := fun h1 h2 h3 => (⟨v0, false, rfl, h1, v0, false, rfl, h2, v0, false, rfl, h1, out _ _ (fin H fun _ _ e _ => e)⟩ : spT K { nx := fun _ H' => Q .non H', rt := Q } [some v0, none] H)
  cases ow with
  | non => exact skip ⟨_, .base .non, kit_ty (by decide +kernel)⟩ ⟨_, .base .non, kit_ty (by decide +kernel)⟩ rfl
  | bl b => exact skip ⟨_, .base (.bl _), kit_ty (by decide +kernel)⟩ ⟨_, .base (.bl _), kit_ty (by decide +kernel)⟩ rfl
  | int i => exact skip ⟨_, .base (.int _), kit_ty (by decide +kernel)⟩ ⟨_, .base (.int _), kit_ty (by decide +kernel)⟩ rfl
  | str x => exact skip ⟨_, .base (.str _), kit_ty (by decide +kernel)⟩ ⟨_, .base (.str _), kit_ty (by decide +kernel)⟩ rfl
  | @tup a vs ds o h r =>
    simp only [smD, Bool.and_eq_true, decide_eq_true_eq] at hsm
    obtain ⟨gds, _⟩ := OwAL.gd r hsm.2 (S := os) (fun _ q => q)
    have hlen : vs.length ≤ 800 := by rw [OwAL.length r]; exact hsm.1
    have st : ∀ H2 : Hp, (∀ b o, H b = some o → b ∉ os → H2 b = some o) → SqT K H2 a vs := fun H2 kp => Same.sqT (fin H2 kp).s h
    refine ⟨.ref a, false, rfl, ⟨_, tupTy (st H fun _ _ e _ => e), kit_ty (by decide +kernel)⟩, .ref a, true, rfl, ⟨_, tupTy (st H fun _ _ e _ => e), kit_ty (by decide +kernel)⟩, ?_⟩
    refine ⟨.ref a, rfl, a, rfl, .inr ⟨vs, st H fun _ _ e _ => e, loop (Itt K a) vs os _ hlen gds (fun _ q => q) (fun H2 kp => ⟨fun j hj => ⟨vs, vs[j], st H2 kp, List.getElem?_eq_getElem hj⟩, fun j z H' y => ?_, fun j hj => ⟨vs, st H2 kp, hj⟩⟩) fun y H2 kp => ?_⟩⟩
    · obtain ⟨rfl, y⟩ := y
      exact ⟨rfl, y vs (st _ kp)⟩
    · exact ⟨.ref a, false, rfl, ⟨_, tupTy (st H2 kp), kit_ty (by decide +kernel)⟩, out _ _ (fin H2 kp)⟩
  | @lst a vs ds o h g r =>
    simp only [smD, Bool.and_eq_true, decide_eq_true_eq] at hsm
    obtain ⟨gds, _⟩ := OwAL.gd r hsm.2 (S := o) (fun _ q => q)
    have hlen : vs.length ≤ 800 := by rw [OwAL.length r]; exact hsm.1
    have na : a ∉ o := (List.nodup_cons.mp nd).1
    refine ⟨.ref a, true, rfl, ⟨_, .base (.lst h), kit_ty (by decide +kernel)⟩, ?_⟩
    refine ⟨.ref a, rfl, a, rfl, .inl ⟨vs, h, loop (Itl K a) vs o _ hlen gds (fun _ q => List.mem_cons_of_mem _ q) (fun H2 kp => ⟨fun j hj => ⟨vs, vs[j], .inl (.inl (kp _ _ h na)), List.getElem?_eq_getElem hj⟩, fun j z H' y => ?_, fun j hj => ⟨vs, .inl (.inl (kp _ _ h na)), hj⟩⟩) fun y H2 kp => ?_⟩⟩
    · obtain ⟨rfl, y⟩ := y
      exact ⟨rfl, y vs (.inl (.inl (kp _ _ h na)))⟩
    · have e := kp _ _ h na
      refine ⟨.ref a, true, rfl, ⟨_, .base (.lst e), kit_ty (by decide +kernel)⟩, ?_⟩
      refine ⟨.ref a, rfl, .inl ⟨rfl, _, .inl (.inl e)⟩, 0, 7, rfl, rfl, a, vs, .int (0 - 7), rfl, rfl, e, by rw [sz]; omega, out _ _ (fin _ fun b o2 e2 n => ?_)⟩
      rw [upd_ne (fun q => n (by rw [q]; exact List.mem_cons_self))]
      exact kp b o2 e2 fun q => n (List.mem_cons_of_mem _ q)
end OS
namespace OS
open PySem PySem.Spec PyProof.Rows L2

/-! ### a law's defs, level by level -/
section
variable (P : Program) (w : World) (K : PySem.W.Frag) (mg : Str → Option Value) (base : Heap)
def TabAt (lv : Nat) (s : Sig) : Prop := ∃ f fd ps, FnOk P w K mg base (L2N.CX P w) lv f fd ps (spOf K mg s) ∧ mg s.name = some (.ref f) ∧ PySem.W.keepIn K (.ref f) = true ∧ BindS K fd ps s.kw
def TabL (lv : Nat) : List Sig → Prop
  | [] => True
  | s :: r => TabAt P w K mg base lv s ∧ TabL lv r
/-- a def as the top has written it -/
structure DefAt (x : Str) (st : Stmt) (ps : List Str) (kw : Option Str := none) : Prop where
  ex : ∃ f fd, Fun K x x st f fd ∧ mg x = some (.ref f) ∧ BindS K fd ps kw
/-- an exception class without __init__ -/
structure ClsB (cn : Str) : Prop where
  ex : ∃ C, mg cn = some (.ref C) ∧ PySem.W.excInitIn K C PySem.HandSPX.veTail "ValueError.__new__" = true ∧ PySem.W.findIn K (.ref C) "__init__" = some (some (.builtin "ValueError.__init__")) ∧ PySem.W.keepIn K (.ref C) = true ∧
    PySem.W.subIn K (.ref C) (.type "BaseException") = some true ∧ PySem.W.typeIn K (.ref C) = some (.type "type")
/-- .. with one -/
structure ClsO (cn : Str) (fs : List Str) (q : Str) (st : Stmt) (ps : List Str) : Prop where
  ex : ∃ C fI fd, mg cn = some (.ref C) ∧ oexB K C = true ∧ PySem.W.findIn K (.ref C) "__init__" = some (some (.ref fI)) ∧ PySem.W.typeIn K (.ref fI) = some (.type "function") ∧ (∀ f ∈ fs, PySem.W.findIn K (.ref C) f = some none) ∧ Fun K "__init__" q st fI fd ∧ Binds K fd ps []
/-- what all contexts share -/
structure WB (Xl : List (Str × List Str)) (Cl : List (Str × V)) : Prop where
  blt : ∀ (x : Str), x ∈ blts → mg x = none
  con : ∀ (x : Str) (v : V), Cl.lookup x = some v → ∃ u, mg x = some u ∧ RelV v u
  se : ∃ C, mg "StraightError" = some (.ref C)
  rai : ∀ cn fs, Xl.lookup cn = some fs → ∀ X : Cx, X.prog = P → X.w = w → X.K = K → X.mg = mg → X.base = base → Room 2 X.A → RaiAt X cn fs
end
section
variable {P : Program} {w : World} {K : PySem.W.Frag} {mg : Str → Option Value} {base : Heap}
theorem TabL.get {lv : Nat} : ∀ {T : List Sig}, TabL P w K mg base lv T → ∀ (j : Nat) (s : Sig), T[j]? = some s → TabAt P w K mg base lv s
  | [], _, j, s, e => by simp at e
  | _ :: _, h, 0, s, e => by
    simp at e; subst e; exact h.1
  | _ :: _, h, j + 1, s, e => TabL.get h.2 j s (by simpa using e)
theorem wld_mk {Xl : List (Str × List Str)} {Cl : List (Str × V)} {c : SC} {TH : Str → List (Str × Int) → List Sig} {lv : Nat} (B : WB P w K mg base Xl Cl) (h2 : 2 ≤ lv) (hX : c.X = Xl) (hC : c.C = Cl) (hh : c.hot = false) (nd : c.N.Nodup) (T : TabL P w K mg base lv c.T)
    (tr : ∀ X : Cx, X.prog = P → X.w = w → X.K = K → X.mg = mg → X.base = base → X.N = c.N → Room lv X.A → X.stack = X.env :: X.outer → X.env.frame = some X.env.locals → TryAt c TH X)
    (eat : ∀ x, c.E = some x → ∃ f fd ps, FnOk P w K mg base (L2N.CX P w) lv f fd ps (spSpl K) ∧ mg x = some (.ref f) ∧ PySem.W.keepIn K (.ref f) = true ∧ Binds K fd ps []) : Wld c TH lv P w K mg base :=
  ⟨nd, hh, T.get, B.blt, by rw [hC]; exact B.con, by rw [hX]; exact fun cn fs e X h1 h2' h3 h4 h5 hr => B.rai cn fs e X h1 h2' h3 h4 h5 (hr.mono h2), tr, eat⟩
theorem wld_no {Xl : List (Str × List Str)} {Cl : List (Str × V)} {c : SC} {lv : Nat} (B : WB P w K mg base Xl Cl) (h2 : 2 ≤ lv) (hX : c.X = Xl) (hC : c.C = Cl) (hh : c.hot = false) (nd : c.N.Nodup) (T : TabL P w K mg base lv c.T)
    (eat : ∀ x, c.E = some x → ∃ f fd ps, FnOk P w K mg base (L2N.CX P w) lv f fd ps (spSpl K) ∧ mg x = some (.ref f) ∧ PySem.W.keepIn K (.ref f) = true ∧ Binds K fd ps []) : Wld c (fun _ _ => []) lv P w K mg base :=
  wld_mk B h2 hX hC hh nd T (fun X h1 h2 h3 h4 h5 h6 h7 h8 h9 => ⟨h8, h9, by
    obtain ⟨C, e⟩ := B.se
    exact ⟨C, by rw [h4]; exact e, fun _ _ _ _ _ q => nomatch q⟩, fun _ _ _ _ _ _ _ _ _ _ q => nomatch q⟩) eat
theorem tab_def {c : SC} {TH : Str → List (Str × Int) → List Sig} {lv : Nat} {st : Stmt} {ps : List Str} {s : Sig} {body : IS} (W : Wld c TH lv P w K mg base) (Df : DefAt K mg s.name st ps s.kw) (S : FnScope c.N ps (defScope st)) (hps : ps.length = s.np) (hnp : s.np ≤ c.N.length) (hio : s.io = true → 1 ≤ s.np)
    (hφ : s.φ = runF s.rm s.io TH c.T c.N.length body)
    (ok : ∀ cn fs, okS (defScope st) c s.rm s.io (if s.io then some 0 else none) (TH cn fs) [] (Γ0 s.io c.N.length) body (defBody st) (nxtM body (Γ0 s.io c.N.length)) = true)
    (hend : dead body = true ∨ (s.rm ≠ .top ∧ ioT s.io (nxtM body (Γ0 s.io c.N.length)) = true)) : TabAt P w K mg base (lv + 1) s := by
  obtain ⟨f, fd, F, hm, hb⟩ := Df.ex
  exact ⟨f, fd, ps, fn_def W F S hps hnp hio hφ ok hend, hm, F.kp, hb⟩
theorem defAt_mk {h : Heap} {x : Str} {st : Stmt} {ps : List Str} {f : Addr} {oc : Value} {od an : Option Addr} {osl : Array (Option Value)} {kV doc pm cdv ct : Value} (X : K.In h) (G : h.Ns mainGlobals mg)
    (a : PySem.W.nsIn K mainGlobals x = some (some (.ref f))) (l : K.lookup f = some ⟨oc, od, .func (PySem.W.fnOf x x (defArgs st) (defBody st) (defScope st) .none kV doc pm an cdv ct), osl⟩) (c : PySem.W.codeIn K cdv x = true) (k : PySem.W.keepIn K (.ref f) = true)
    (hb : ∀ (kV doc pm : Value) (an : Option Addr) (cdv ct : Value) (us : List Value), us.length = ps.length → bindArgs (PySem.W.fnOf x x (defArgs st) (defBody st) (defScope st) .none kV doc pm an cdv ct) ⟨us, []⟩ = pure (ps.zip us)) : DefAt K mg x st ps :=
  ⟨f, _, fun_mk l c k, PySem.W.mg_of X G a, (fun_mk l c k).binds hb⟩
/-- a def with one keyword-only parameter behind one other, None by default -/
theorem defAt_mkK {h : Heap} {x kw : Str} {st : Stmt} {ps : List Str} {f D : Addr} {oc : Value} {od an : Option Addr} {osl : Array (Option Value)} {doc pm cdv ct : Value} (X : K.In h) (G : h.Ns mainGlobals mg)
    (a : PySem.W.nsIn K mainGlobals x = some (some (.ref f))) (l : K.lookup f = some ⟨oc, od, .func (PySem.W.fnOf x x (defArgs st) (defBody st) (defScope st) .none (.ref D) doc pm an cdv ct), osl⟩) (c : PySem.W.codeIn K cdv x = true) (k : PySem.W.keepIn K (.ref f) = true)
    (dk : PySem.W.nsIn K D kw = some (some .none)) (hl : ps.length = 2)
    (h0 : ∀ (D : Addr) (doc pm : Value) (an : Option Addr) (cdv ct : Value) (us ks : List Value), us.length = 1 → ks.length = 1 →
      KwChain D (([kw] : List Str).zip ks) (bindArgs (PySem.W.fnOf x x (defArgs st) (defBody st) (defScope st) .none (.ref D) doc pm an cdv ct) ⟨us, []⟩) (ps.zip (us ++ ks)))
    (h1 : ∀ (kV doc pm : Value) (an : Option Addr) (cdv ct : Value) (us ws : List Value), us.length = 1 → ws.length = 1 → bindArgs (PySem.W.fnOf x x (defArgs st) (defBody st) (defScope st) .none kV doc pm an cdv ct) ⟨us, ([kw] : List Str).zip ws⟩ = pure (ps.zip (us ++ ws))) : DefAt K mg x st ps (some kw) :=
  ⟨f, _, fun_mk l c k, PySem.W.mg_of X G a, ⟨[.none], .cons rfl .nil, fun s us X2 hlen => by
      have l2 : us.length = 1 := by
        rw [List.length_append, hl] at hlen
        simpa using hlen
      refine BindsTo.of_looks fun M => KwChain.looks X2 (l := ([kw] : List Str).zip [.none]) (fun q hq => ?_) (h0 D doc pm an cdv ct us [.none] l2 rfl)
      rw [List.mem_singleton.mp hq]
      exact dk⟩, fun s us ws _ q1 q2 => .of_eq (h1 _ doc pm an cdv ct us ws q1 (by simpa using q2)), fun r1 r2 => r1.append r2⟩
theorem rai_clsB {X : Cx} {cn : Str} (c : ClsB X.K X.mg cn) : RaiAt X cn [] := by
  obtain ⟨C, h1, h2, h3, h4, h5, h6⟩ := c.ex
  exact rai_B0 h2 h3 h1 h4 h5 h6
theorem rai_clsO {X : Cx} {cn q slf : Str} {fs ys : List Str} {st : Stmt} (c : ClsO X.K X.mg cn fs q st (slf :: ys)) (S : FnScope (slf :: ys) (slf :: ys) (defScope st)) (hb : initB slf fs ys (defBody st) = true) (hd : ∀ y ∈ slf :: ys, y ≠ "__debug__" ∧ y ≠ "__classdict__") (hfs : 1 ≤ fs.length ∧ fs.length ≤ 900) (hr : Room 2 X.A) : RaiAt X cn fs := by
  obtain ⟨C, fI, fd, h1, h2, h3, h4, h5, F, hbn⟩ := c.ex
  exact rai_oex (k := 1) (oexC_of h2) h3 h4 h5 (fn_init F S hb hd) hr hbn h1 hfs
theorem clsB_mk {h : Heap} {cn : Str} {C : Addr} (X : K.In h) (G : h.Ns mainGlobals mg) (a : PySem.W.nsIn K mainGlobals cn = some (some (.ref C))) (h2 : PySem.W.excInitIn K C PySem.HandSPX.veTail "ValueError.__new__" = true) (h3 : PySem.W.findIn K (.ref C) "__init__" = some (some (.builtin "ValueError.__init__"))) (h4 : PySem.W.keepIn K (.ref C) = true)
    (h5 : PySem.W.subIn K (.ref C) (.type "BaseException") = some true) (h6 : PySem.W.typeIn K (.ref C) = some (.type "type")) : ClsB K mg cn := ⟨C, PySem.W.mg_of X G a, h2, h3, h4, h5, h6⟩
theorem clsO_mk {h : Heap} {cn q : Str} {fs ps : List Str} {st : Stmt} {C fI : Addr} {oc : Value} {od an : Option Addr} {osl : Array (Option Value)} {kV doc pm cdv ct : Value} (X : K.In h) (G : h.Ns mainGlobals mg) (a : PySem.W.nsIn K mainGlobals cn = some (some (.ref C))) (h2 : oexB K C = true)
    (h3 : PySem.W.findIn K (.ref C) "__init__" = some (some (.ref fI))) (h4 : PySem.W.typeIn K (.ref fI) = some (.type "function")) (h5 : ∀ f ∈ fs, PySem.W.findIn K (.ref C) f = some none)
    (l : K.lookup fI = some ⟨oc, od, .func (PySem.W.fnOf "__init__" q (defArgs st) (defBody st) (defScope st) .none kV doc pm an cdv ct), osl⟩) (c : PySem.W.codeIn K cdv q = true) (k : PySem.W.keepIn K (.ref fI) = true)
    (hb : ∀ (kV doc pm : Value) (an : Option Addr) (cdv ct : Value) (us : List Value), us.length = ps.length → bindArgs (PySem.W.fnOf "__init__" q (defArgs st) (defBody st) (defScope st) .none kV doc pm an cdv ct) ⟨us, []⟩ = pure (ps.zip us)) : ClsO K mg cn fs q st ps :=
  ⟨C, fI, _, PySem.W.mg_of X G a, h2, h3, h4, h5, fun_mk l c k, (fun_mk l c k).binds hb⟩
/-- what is asked of a known class, to be decided -/
def knownB (E : ExT) (K : PySem.W.Frag) (D0 S : Addr) (cn : Str) (CA : List (Str × Value)) (Fs : List Str) : Bool :=
  askB K D0 && (CA.all (fun p => decide (PySem.W.kitOne K (.ref D0) p.2 = some (E.sub cn p.1))) && (Fs.all (fun f => decide (PySem.W.findIn K (.ref D0) f = some none)) && decide (PySem.W.exmOne K (.ref D0) (.ref S) = some true)))
theorem known_of {E : ExT} {D0 S : Addr} {cn : Str} {CA : List (Str × Value)} {Fs : List Str} (h : knownB E K D0 S cn CA Fs = true) : AskC K D0 ∧ (∀ p ∈ CA, PySem.W.kitOne K (.ref D0) p.2 = some (E.sub cn p.1)) ∧ (∀ f ∈ Fs, PySem.W.findIn K (.ref D0) f = some none) ∧ PySem.W.exmOne K (.ref D0) (.ref S) = some true := by
  unfold knownB at h
  simp only [Bool.and_eq_true, List.all_eq_true, decide_eq_true_eq] at h
  exact ⟨askC_of h.1, h.2.1, h.2.2.1, h.2.2.2⟩
/-- a class's name and its value -/
def NmV (mg : Str → Option Value) (p : Str × Value) : Prop := (∃ a, p.2 = .ref a ∧ mg p.1 = some (.ref a)) ∨ (∃ T, p.2 = .type T ∧ mg p.1 = none ∧ p.1 ≠ "__name__" ∧ bootBuiltins p.1 = some (.type T))
theorem askW_mk {E : ExT} {CA : List (Str × Value)} {Cs Fs : List Str} {S : Addr} (isi : mg "isinstance" = none) (hC : Cs = CA.map Prod.fst) (nm : ∀ p ∈ CA, NmV mg p) (kn : ∀ cn fs, E.known cn fs = true → ∃ D0, mg cn = some (.ref D0) ∧ knownB E K D0 S cn CA Fs = true) :
    AskW E Cs Fs K mg ∧ ∀ cn fs D0, E.known cn fs = true → mg cn = some (.ref D0) → PySem.W.exmOne K (.ref D0) (.ref S) = some true := by
  subst hC
  refine ⟨⟨isi, fun cn fs D0 hk hm => ?_⟩, fun cn fs D0 hk hm => ?_⟩
  · obtain ⟨D1, h1, h2⟩ := kn cn fs hk
    rw [hm] at h1
    cases h1
    obtain ⟨k1, k2, k3, k4⟩ := known_of h2
    refine ⟨k1, fun C hC => ?_, k3⟩
    obtain ⟨p, hp, rfl⟩ := List.mem_map.mp hC
    have kp := k2 p hp
    rcases nm p hp with ⟨a, e, m⟩ | ⟨T, e, m, n, b⟩
    · rw [e] at kp; exact .inl ⟨a, m, kp⟩
    · rw [e] at kp; exact .inr ⟨T, m, n, b, kp⟩
  · obtain ⟨D1, h1, h2⟩ := kn cn fs hk
    rw [hm] at h1
    cases h1
    exact (known_of h2).2.2.2
def spLw (K : PySem.W.Frag) : Sp := fun vs H Q _ => ∃ (a : Addr) (ns : List Int), vs = [.ref a] ∧ SqL K H a (ns.map V.int) ∧ ns.length ≤ 63 ∧ (∀ z ∈ ns, Builtin.Int.intBits z ≤ 1048576) ∧ ∀ H', Q (.bl true) H'
/-- the law keeps what is asked, where its value is true at every script -/
theorem law_sp {CX : CXT} {k : Nat} {f : Addr} {fd : FuncData} {s : Sig} (hn : s.np = 1) (hio : s.io = false) (hrm : s.rm = .all) (F : FnOk P w K mg base CX k f fd ["script"] (spOf K mg s))
    (pure : ∀ ns : List Int, ns.length ≤ 63 → (∀ z ∈ ns, Builtin.Int.intBits z ≤ 1048576) → ∃ d, s.φ [.scr ns] = .ok (.bl true, d)) : FnOk P w K mg base CX k f fd ["script"] (spLw K) := by
  have imp : ∀ vs H Q E, spLw K vs H Q E → spOf K mg s vs H Q E := fun vs H Q E h => by
    obtain ⟨a, ns, rfl, hS, hl, hb, q⟩ := h
    obtain ⟨d, e⟩ := pure ns hl hb
    refine ⟨hn.symm, H, [.scr ns], [], Same.refl H, hn.symm, ?_, ?_⟩
    · unfold ArgOk
      rw [hio]
      exact ⟨.cons (.scr hS) .nil, rfl⟩
    · rw [e]
      intro G' H' v o oz hw _ _ _ _
      rw [hrm] at hw
      have hw : OwA K G' H' v (.bl true) o := hw
      cases hw
      exact q H'
  exact ⟨fun vs H Q E h => F.len vs H Q E (imp vs H Q E h), fun A outer s H args us vs Q E hr e0 hb r h => F.run A outer s H args us vs Q E hr e0 hb r (imp vs H Q E h)⟩
end
end OS
namespace OS
open PySem PySem.Spec PyProof.Rows L2

/-! ### the interpreter, read backwards -/
abbrev EX := Str → List (Str × Int) → Prop
def MPd {α : Type} (r : R (α × Slots)) (Q : α → Slots → Prop) (X : EX) : Prop := match r with
  | .ok (a, ρ) => Q a ρ
  | .exn c fs => X c fs
  | .bad => False
structure MP {α : Type} (r : R (α × Slots)) (Q : α → Slots → Prop) (X : EX) : Prop where
  h : MPd r Q X
structure Po where
  N : Slots → Prop
  B : Slots → Prop
  C : Slots → Prop
  Rt : D → Slots → Prop
  X : EX
def OPd (o : Out) (p : Po) : Prop := match o with
  | .nx ρ => p.N ρ
  | .bk ρ => p.B ρ
  | .ct ρ => p.C ρ
  | .rt d ρ => p.Rt d ρ
  | .exn c fs => p.X c fs
  | .bad => False
structure OP (o : Out) (p : Po) : Prop where
  h : OPd o p
def FPd (r : R (D × D)) (Q : D → D → Prop) (X : EX) : Prop := match r with
  | .ok (d, e) => Q d e
  | .exn c fs => X c fs
  | .bad => False
structure FP (r : R (D × D)) (Q : D → D → Prop) (X : EX) : Prop where
  h : FPd r Q X
def NoX : EX := fun _ _ => False
def OPT {α : Type} (o : Option α) (Q : α → Prop) : Prop := match o with
  | some a => Q a
  | none => False
def BL (x : D) (P : Bool → Prop) : Prop := match x with
  | .bl b => P b
  | _ => False
def IN (x : D) (P : Int → Prop) : Prop := match x with
  | .int b => P b
  | _ => False
def LS (x : D) (P : List D → Prop) : Prop := match x with
  | .lst b => P b
  | _ => False
def SQ (x : D) (P : List D → Prop) : Prop := match x with
  | .lst b => P b
  | .tup b => P b
  | _ => False
def SS (x : D) (P : Str → Prop) : Prop := match x with
  | .str b => P b
  | _ => False
section
variable {α β : Type} {T : List Sig} {ρ : Slots} {X X' : EX}
theorem MP.mono {r : R (α × Slots)} {Q Q' : α → Slots → Prop} (h : MP r Q X) (i : ∀ a ρ, Q a ρ → Q' a ρ) (j : ∀ c fs, X c fs → X' c fs := by exact fun _ _ h => h) : MP r Q' X' := by
  obtain ⟨h⟩ := h
  refine ⟨?_⟩
  unfold MPd at h ⊢
  cases r with
  | ok a => exact i _ _ h
  | exn c fs => exact j _ _ h
  | bad => exact h
theorem OP.mono {o : Out} {p q : Po} (h : OP o p) (n : ∀ ρ, p.N ρ → q.N ρ) (b : ∀ ρ, p.B ρ → q.B ρ) (c : ∀ ρ, p.C ρ → q.C ρ) (r : ∀ d ρ, p.Rt d ρ → q.Rt d ρ) (x : ∀ c fs, p.X c fs → q.X c fs) : OP o q := by
  obtain ⟨h⟩ := h
  refine ⟨?_⟩
  unfold OPd at h ⊢
  cases o with
  | nx ρ => exact n _ h
  | bk ρ => exact b _ h
  | ct ρ => exact c _ h
  | rt d ρ => exact r _ _ h
  | exn c fs => exact x _ _ h
  | bad => exact h
theorem FP.mono {r : R (D × D)} {Q Q' : D → D → Prop} (h : FP r Q X) (i : ∀ a e, Q a e → Q' a e) (j : ∀ c fs, X c fs → X' c fs := by exact fun _ _ h => h) : FP r Q' X' := by
  obtain ⟨h⟩ := h
  refine ⟨?_⟩
  unfold FPd at h ⊢
  cases r with
  | ok a => exact i _ _ h
  | exn c fs => exact j _ _ h
  | bad => exact h
theorem FP.ok {r : R (D × D)} {Q : D → D → Prop} (h : FP r Q NoX) : ∃ d e, r = .ok (d, e) ∧ Q d e := by
  cases r with
  | ok a => exact ⟨a.1, a.2, rfl, h.h⟩
  | exn c fs => exact h.h.elim
  | bad => exact h.h.elim
theorem FP.of {r : R (D × D)} {d e : D} {Q : D → D → Prop} (h : r = .ok (d, e)) (q : Q d e) : FP r Q X := by rw [h]; exact ⟨q⟩
theorem FP.ofX {r : R (D × D)} {c : Str} {fs : List (Str × Int)} {Q : D → D → Prop} (h : r = .exn c fs) (q : X c fs) : FP r Q X := by rw [h]; exact ⟨q⟩
theorem opt_some {o : Option α} {a : α} {Q : α → Prop} (h : o = some a) (q : Q a) : OPT o Q := by rw [h]; exact q
theorem OPT.mono {o : Option α} {Q Q' : α → Prop} (h : OPT o Q) (i : ∀ a, Q a → Q' a) : OPT o Q' := by
  cases o with
  | none => exact h
  | some a => exact i a h
theorem mp_bind {m : M α} {f : α → M β} {Q : β → Slots → Prop} (h : MP (m ρ) (fun a ρ1 => MP (f a ρ1) Q X) X) : MP (M.bind m f ρ) Q X := by
  unfold M.bind
  cases e : m ρ with
  | ok a => rw [e] at h; exact h.h
  | exn c fs => rw [e] at h; exact ⟨h.h⟩
  | bad => rw [e] at h; exact h.h.elim
theorem mp_ret {a : α} {Q : α → Slots → Prop} (h : Q a ρ) : MP (M.ret a ρ) Q X := ⟨h⟩
theorem mp_opt {o : Option α} {Q : α → Slots → Prop} (h : OPT o fun a => Q a ρ) : MP (M.opt o ρ) Q X := by
  cases o with
  | none => exact h.elim
  | some a => exact ⟨h⟩
theorem mp_rbind {r : R (α × Slots)} {f : α × Slots → R (β × Slots)} {Q : β → Slots → Prop} (h : MP r (fun a ρ1 => MP (f (a, ρ1)) Q X) X) : MP (r.bind f) Q X := by
  cases r with
  | ok a => exact h.h
  | exn c fs => exact ⟨h.h⟩
  | bad => exact h.h.elim
theorem mp_fbind {r : R (D × D)} {f : D × D → R (β × Slots)} {Q : β → Slots → Prop} (h : FP r (fun a e => MP (f (a, e)) Q X) X) : MP (r.bind f) Q X := by
  cases r with
  | ok a => exact h.h
  | exn c fs => exact ⟨h.h⟩
  | bad => exact h.h.elim
theorem mp_nox {r : R (α × Slots)} {Q : α → Slots → Prop} (h : MP r Q NoX) : MP r.nox Q X := by
  cases r with
  | ok a => exact ⟨h.h⟩
  | exn c fs => exact h.h.elim
  | bad => exact h.h.elim
theorem fp_nox {r : R (D × D)} {Q : D → D → Prop} (h : FP r Q NoX) : FP r.nox Q X := by
  cases r with
  | ok a => exact ⟨h.h⟩
  | exn c fs => exact h.h.elim
  | bad => exact h.h.elim
theorem mp_ite {c : Prop} [Decidable c] {a b : R (α × Slots)} {Q : α → Slots → Prop} (hc : c) (h : MP a Q X) : MP (if c then a else b) Q X := by rw [if_pos hc]; exact h

theorem mp_iteM {c : Prop} [Decidable c] {a b : M α} {Q : α → Slots → Prop} (hc : c) (h : MP (a ρ) Q X) : MP ((if c then a else b) ρ) Q X := by rw [if_pos hc]; exact h

/-! ### expressions -/
variable {Q : D → Slots → Prop} {a b c e : IE}
theorem mp_var {i : Nat} {d : D} (h : gS ρ i = some d) (q : Q d ρ) : MP (runE T (.var i) ρ) Q X := by
  show MP (match gS ρ i with | some d => R.ok (d, ρ) | none => .bad) Q X
  rw [h]; exact ⟨q⟩
theorem mp_int {n : Int} (q : Q (.int n) ρ) : MP (runE T (.int n) ρ) Q X := ⟨q⟩
theorem mp_bl {n : Bool} (q : Q (.bl n) ρ) : MP (runE T (.bl n) ρ) Q X := ⟨q⟩
theorem mp_non (q : Q .non ρ) : MP (runE T .non ρ) Q X := ⟨q⟩
theorem mp_str {n : Str} (q : Q (.str n) ρ) : MP (runE T (.str n) ρ) Q X := ⟨q⟩
theorem mp_gint {x : Str} {n : Int} (q : Q (.int n) ρ) : MP (runE T (.gint x n) ρ) Q X := ⟨q⟩
theorem mp_bin {o : BOp} (h : MP (runE T a ρ) (fun x ρ1 => MP (runE T b ρ1) (fun y ρ2 => OPT (binD o x y) fun z => Q z ρ2) X) X) : MP (runE T (.bin o a b) ρ) Q X := mp_bind (h.mono fun _ _ h => mp_bind (h.mono fun _ _ h => mp_opt h))
theorem mp_neg (h : MP (runE T a ρ) (fun x ρ1 => IN x fun i => Q (.int (-i)) ρ1) X) : MP (runE T (.neg a) ρ) Q X := mp_bind (h.mono fun x _ h => by cases x <;> first | exact h.elim | exact mp_ret h)
theorem mp_cmp {o : COp} (h : MP (runE T a ρ) (fun x ρ1 => MP (runE T b ρ1) (fun y ρ2 => IN x fun i => IN y fun j => Q (.bl (cmpI o i j)) ρ2) X) X) : MP (runE T (.cmp o a b) ρ) Q X := mp_bind (h.mono fun x _ h => mp_bind (h.mono fun y _ h => mp_opt (by
  cases x <;> first | exact h.elim | skip
  cases y <;> first | exact h.elim | exact h)))
theorem mp_eq {ne : Bool} (h : MP (runE T a ρ) (fun x ρ1 => MP (runE T b ρ1) (fun y ρ2 => OPT (eqTop x y) fun r => Q (.bl (if ne then !r else r)) ρ2) X) X) : MP (runE T (.eq ne a b) ρ) Q X := mp_bind (h.mono fun x _ h => mp_bind (h.mono fun y _ h => mp_opt (by
  cases q : eqTop x y with
  | none => rw [q] at h; exact h.elim
  | some r => rw [q] at h; exact h)))
def isNon : D → Bool
  | .non => true
  | _ => false
theorem mp_isN {ne : Bool} (h : MP (runE T a ρ) (fun x ρ1 => Q (.bl (if isNon x then !ne else ne)) ρ1) X) : MP (runE T (.isN ne a) ρ) Q X := mp_bind (h.mono fun x _ h => by cases x <;> exact mp_ret h)
theorem mp_inn {ne : Bool} (h : MP (runE T a ρ) (fun x ρ1 => MP (runE T b ρ1) (fun y ρ2 => OPT (inTop x y) fun r => Q (.bl (if ne then !r else r)) ρ2) X) X) : MP (runE T (.inn ne a b) ρ) Q X := mp_bind (h.mono fun x _ h => mp_bind (h.mono fun y _ h => mp_opt (by
  cases q : inTop x y with
  | none => rw [q] at h; exact h.elim
  | some r => rw [q] at h; exact h)))
theorem mp_chn (h : MP (runE T a ρ) (fun x ρ1 => MP (runC T b x ρ1) (fun r ρ2 => Q (.bl r) ρ2) X) X) : MP (runE T (.chn a b) ρ) Q X := mp_bind (h.mono fun x _ h => mp_bind (h.mono fun y _ h => mp_ret h))
theorem mp_lnk {o : COp} {x : D} {Q : Bool → Slots → Prop} (h : MP (runE T b ρ) (fun y ρ1 => IN x fun i => IN y fun j => if cmpI o i j = true then MP (runC T c y ρ1) Q X else Q false ρ1) X) : MP (runC T (.lnk o b c) x ρ) Q X := mp_bind (h.mono fun y _ h => mp_bind (mp_opt (by
  cases x with
  | int i =>
    cases y with
    | int j =>
      show OPT (some (cmpI o i j)) _
      cases q : cmpI o i j with
      | true => simp only [IN, q, if_true] at h; exact h
      | false => simp only [IN, q, Bool.false_eq_true, if_false] at h; exact mp_ret h
    | _ => exact h.elim
  | _ => exact h.elim)))
theorem mp_lnkE {o : COp} {x : D} {Q : Bool → Slots → Prop} (h : MP (runE T b ρ) (fun y ρ1 => IN x fun i => IN y fun j => Q (cmpI o i j) ρ1) X) : MP (runC T (.lnkE o b) x ρ) Q X := mp_bind (h.mono fun y _ h => mp_opt (by
  cases x <;> first | exact h.elim | skip
  cases y <;> first | exact h.elim | exact h))
theorem mp_and (h : MP (runE T a ρ) (fun x ρ1 => BL x fun t => if t = true then MP (runE T b ρ1) Q X else Q (.bl false) ρ1) X) : MP (runE T (.and a b) ρ) Q X := mp_bind (h.mono fun x _ h => by
  cases x <;> first | exact h.elim | skip
  rename_i t
  cases t with
  | true => simpa [BL] using h
  | false => simp only [BL, Bool.false_eq_true, if_false] at h; exact mp_ret h)
theorem mp_or (h : MP (runE T a ρ) (fun x ρ1 => BL x fun t => if t = true then Q (.bl true) ρ1 else MP (runE T b ρ1) Q X) X) : MP (runE T (.or a b) ρ) Q X := mp_bind (h.mono fun x _ h => by
  cases x <;> first | exact h.elim | skip
  rename_i t
  cases t with
  | true => simp only [BL, if_true] at h; exact mp_ret h
  | false => simp only [BL, Bool.false_eq_true, if_false] at h; exact h)
theorem mp_one (h : MP (runE T a ρ) Q X) : MP (runE T (.one a) ρ) Q X := h
theorem mp_not (h : MP (runE T a ρ) (fun x ρ1 => OPT (truD x) fun r => Q (.bl (!r)) ρ1) X) : MP (runE T (.not a) ρ) Q X := mp_bind (h.mono fun x _ h => mp_opt (by
  cases q : truD x with
  | none => rw [q] at h; exact h.elim
  | some r => rw [q] at h; exact h))
theorem mp_ife (h : MP (runT T c ρ) (fun r ρ1 => if r = true then MP (runE T a ρ1) Q X else MP (runE T b ρ1) Q X) X) : MP (runE T (.ife c a b) ρ) Q X := mp_bind (h.mono fun r _ h => by
  cases r with
  | true => simpa using h
  | false => simpa using h)
theorem mp_idx (h : MP (runE T a ρ) (fun x ρ1 => MP (runE T b ρ1) (fun y ρ2 => OPT (idxD x y) fun z => Q z ρ2) X) X) : MP (runE T (.idx a b) ρ) Q X := mp_bind (h.mono fun _ _ h => mp_bind (h.mono fun _ _ h => mp_opt h))
theorem mp_has {i : Nat} {m : M α} {Q : α → Slots → Prop} {d : D} (e : gS ρ i = some d) (h : MP (m ρ) Q X) : MP (M.has i m ρ) Q X := by
  unfold M.has
  rw [e]; exact h
theorem mp_hasL {i : Nat} {m : M α} {Q : α → Slots → Prop} {d : List D} (e : gS ρ i = some (.lst d)) (h : MP (m ρ) Q X) : MP (M.hasL i m ρ) Q X := by
  unfold M.hasL
  rw [e]; exact h
theorem mp_idxO {i : Nat} {d : D} (e : gS ρ i = some d) (h : MP (runE T b ρ) (fun y ρ1 => OPT (gS ρ1 i) fun d => OPT (idxD d y) fun z => Q z ρ1) X) : MP (runE T (.idxO i b) ρ) Q X := mp_has e (mp_bind (h.mono fun y ρ1 h => by
  cases q : gS ρ1 i with
  | none => rw [q] at h; exact h.elim
  | some d => rw [q] at h; simp only [q]; exact mp_opt h))
theorem mp_sl (h : MP (runE T a ρ) (fun x ρ1 => MP (runO T b ρ1) (fun l ρ2 => MP (runO T c ρ2) (fun u ρ3 => OPT (cutD l u x) fun z => Q z ρ3) X) X) X) : MP (runE T (.sl a b c) ρ) Q X := mp_bind (h.mono fun _ _ h => mp_bind (h.mono fun _ _ h => mp_bind (h.mono fun _ _ h => mp_opt h)))
theorem mp_slS (h : MP (runE T a ρ) (fun x ρ1 => MP (runO T b ρ1) (fun l ρ2 => MP (runO T c ρ2) (fun u ρ3 => OPT (OS.cutS l u x) fun z => Q z ρ3) X) X) X) : MP (runE T (.slS a b c) ρ) Q X := mp_bind (h.mono fun _ _ h => mp_bind (h.mono fun _ _ h => mp_bind (h.mono fun _ _ h => mp_opt h)))
theorem mp_join (h : MP (runE T a ρ) (fun x ρ1 => SS x fun s => MP (runE T b ρ1) (fun y ρ2 => OPT (joinD s y) fun z => Q z ρ2) X) X) : MP (runE T (.join a b) ρ) Q X := mp_bind (h.mono fun x _ h => by
  cases x <;> first | exact h.elim | skip
  exact mp_bind (MP.mono h fun _ _ h => mp_opt h))
theorem mp_index (h : MP (runE T a ρ) (fun x ρ1 => LS x fun l => MP (runE T b ρ1) (fun y ρ2 => (eqOk 20 y = true ∧ eqOkL 20 l = true) ∧ OPT (idxOfD l y) fun (j : Nat) => Q (.int (j : Int)) ρ2) X) X) : MP (runE T (.index a b) ρ) Q X := mp_bind (h.mono fun x ρ1 h => by
  cases x with
  | lst l =>
    refine mp_bind (MP.mono (Q := fun y ρ2 => (eqOk 20 y = true ∧ eqOkL 20 l = true) ∧ OPT (idxOfD l y) fun (j : Nat) => Q (.int (j : Int)) ρ2) h fun y ρ2 h => ?_)
    obtain ⟨⟨h1, h2⟩, h3⟩ := h
    refine mp_iteM (by rw [h1, h2]; rfl) (mp_opt ?_)
    cases q : idxOfD l y with
    | none => rw [q] at h3; exact h3.elim
    | some j => rw [q] at h3; exact h3
  | _ => exact h.elim)
theorem mp_cntS (h : MP (runE T a ρ) (fun x ρ1 => SS x fun s => MP (runE T b ρ1) (fun y ρ2 => SS y fun t => Q (.int (Txt.count s t)) ρ2) X) X) : MP (runE T (.cntS a b) ρ) Q X := mp_bind (h.mono fun x _ h => by
  cases x <;> first | exact h.elim | skip
  exact mp_bind (MP.mono h fun y _ h => by
    cases y <;> first | exact h.elim | exact mp_ret h))
theorem mp_cntT (h : MP (runE T a ρ) (fun x ρ1 => LS x fun l => OPT (allBls l) fun bs => Q (.int ((bs.count true : Nat) : Int)) ρ1) X) : MP (runE T (.cntT a) ρ) Q X := mp_bind (h.mono fun x _ h => by
  cases x <;> first | exact h.elim | skip
  rename_i l
  refine mp_opt ?_
  have h : OPT (allBls l) _ := h
  cases q : allBls l with
  | none => rw [q] at h; exact h.elim
  | some r => rw [q] at h; exact h)
theorem mp_len (h : MP (runE T a ρ) (fun x ρ1 => OPT (lenD x) fun n => Q (.int n) ρ1) X) : MP (runE T (.len a) ρ) Q X := mp_bind (h.mono fun x _ h => mp_opt (by
  cases q : lenD x with
  | none => rw [q] at h; exact h.elim
  | some r => rw [q] at h; exact h))
theorem mp_lenO {i : Nat} {l : List D} (h : gS ρ i = some (.lst l)) (q : Q (.int l.length) ρ) : MP (runE T (.lenO i) ρ) Q X := by
  show MP (match gS ρ i with | some (.lst l) => R.ok (.int l.length, ρ) | _ => .bad) Q X
  rw [h]; exact ⟨q⟩
theorem mp_call {j : Nat} (h : MP (runL T a ρ) (fun ds ρ1 => FP (callD T j ds) (fun d _ => Q d ρ1) X) X) : MP (runE T (.call j a) ρ) Q X := mp_bind (h.mono fun ds ρ1 h => mp_fbind (h.mono fun _ _ h => ⟨h⟩))
theorem mp_callK {j : Nat} {kw : Str} {b : IE} (h : MP (runE T a ρ) (fun x ρ1 => MP (runE T b ρ1) (fun y ρ2 => FP (callD T j [x, y]) (fun d _ => Q d ρ2) X) X) X) : MP (runE T (.callK j kw a b) ρ) Q X := mp_bind (h.mono fun x ρ1 h => mp_bind (h.mono fun y ρ2 h => mp_fbind (h.mono fun _ _ h => ⟨h⟩)))
theorem mp_callD0 {j : Nat} (h : MP (runE T a ρ) (fun x ρ1 => FP (callD T j [x, .non]) (fun d _ => Q d ρ1) X) X) : MP (runE T (.callD0 j a) ρ) Q X := mp_bind (h.mono fun x ρ1 h => mp_fbind (h.mono fun _ _ h => ⟨h⟩))
theorem fp_call {j : Nat} {s : Sig} {ds : List D} {F : D → D → Prop} (h1 : T[j]? = some s) (h2 : s.io = false) (h3 : ds.length = s.np) (h : FP (s.φ ds) F X) : FP (callD T j ds) F X := by
  unfold callD
  rw [h1]
  simp only [h2, Bool.false_eq_true, if_false, h3, if_true]
  exact h
theorem mp_callIo {j i : Nat} {d : D} (e : gS ρ i = some d) (h : MP (runL T a ρ) (fun ds ρ1 => OPT (gS ρ1 i) fun d => FP (callIoD T j (d :: ds)) (fun r d' => Q r (sS ρ1 i (some d'))) X) X) : MP (runE T (.callIo j i a) ρ) Q X := mp_has e (mp_bind (h.mono fun ds ρ1 h => by
  cases q : gS ρ1 i with
  | none => rw [q] at h; exact h.elim
  | some d => rw [q] at h; have h : FP (callIoD T j (d :: ds)) _ _ := h; simp only [q]; exact mp_fbind (h.mono fun _ _ h => ⟨h⟩)))
theorem fp_callIo {j : Nat} {s : Sig} {ds : List D} {F : D → D → Prop} (h1 : T[j]? = some s) (h2 : s.io = true) (h3 : ds.length = s.np) (h : FP (s.φ ds) F X) : FP (callIoD T j ds) F X := by
  unfold callIoD
  rw [h1]
  simp only [h2, h3, if_true]
  exact h
theorem mp_prim {j : Nat} (h : FP (callD T j []) (fun d _ => Q d ρ) NoX) : MP (runE T (.prim j) ρ) Q X := mp_fbind (fp_nox (h.mono fun _ _ h => ⟨h⟩))
theorem mp_bor (h : MP (runE T a ρ) (fun x _ => flat1 x = true ∧ Q x ρ) X) : MP (runE T (.bor a) ρ) Q X := mp_rbind (h.mono fun x _ h => mp_ite h.1 ⟨h.2⟩)
theorem mp_borA (h : MP (runE T a ρ) (fun x _ => Q x ρ) X) : MP (runE T (.borA a) ρ) Q X := mp_rbind (h.mono fun x _ h => ⟨h⟩)
theorem mp_appN {i : Nat} {k n : Int} {l : List D} (e : gS ρ i = some (.lst l)) (h : OPT (appD l k n) fun l2 => Q .non (sS ρ i (some (.lst l2)))) : MP (runE T (.appN i k n) ρ) Q X := by
  show MP (match gS ρ i with
    | some (.lst l) => (match appD l k n with | some l2 => R.ok (D.non, sS ρ i (some (.lst l2))) | none => .bad)
    | _ => .bad) Q X
  rw [e]
  cases q : appD l k n with
  | none => rw [q] at h; exact h.elim
  | some l2 => rw [q] at h; simp only [q]; exact ⟨h⟩
theorem mp_bi {f : BI} (h : MP (runL T a ρ) (fun ds ρ1 => OPT (biD f ds) fun z => Q z ρ1) X) : MP (runE T (.bi f a) ρ) Q X := mp_bind (h.mono fun _ _ h => mp_opt h)
theorem mp_isi {t : Ty} (h : MP (runE T a ρ) (fun x ρ1 => OPT (isTy t x) fun r => Q (.bl r) ρ1) X) : MP (runE T (.isi t a) ρ) Q X := mp_bind (h.mono fun x _ h => mp_opt (by
  cases q : isTy t x with
  | none => rw [q] at h; exact h.elim
  | some r => rw [q] at h; exact h))
theorem mp_listOf (h : MP (runE T a ρ) (fun x ρ1 => SQ x fun l => Q (.lst l) ρ1) X) : MP (runE T (.listOf a) ρ) Q X := mp_bind (h.mono fun x _ h => by cases x <;> first | exact h.elim | exact mp_ret h)
theorem mp_tupOf (h : MP (runE T a ρ) (fun x ρ1 => SQ x fun l => Q (.tup l) ρ1) X) : MP (runE T (.tupOf a) ρ) Q X := mp_bind (h.mono fun x _ h => by cases x <;> first | exact h.elim | exact mp_ret h)
theorem mp_rng (h : MP (runW T a ρ) (fun l ρ1 => l.length ≤ 2 ^ 24 ∧ Q (.lst l) ρ1) X) : MP (runE T (.rng a) ρ) Q X := mp_bind (h.mono fun l _ h => mp_iteM h.1 (mp_ret h.2))
theorem mp_sortI (h : MP (runE T a ρ) (fun x ρ1 => LS x fun l => OPT (allInts l) fun ns => Q (.lst ((sortZ ns).map .int)) ρ1) X) : MP (runE T (.sortI a) ρ) Q X := mp_bind (h.mono fun x _ h => by
  cases x <;> first | exact h.elim | skip
  rename_i l
  refine mp_opt ?_
  have h : OPT (allInts l) _ := h
  cases q : allInts l with
  | none => rw [q] at h; exact h.elim
  | some r => rw [q] at h; exact h)
theorem mp_sortT (h : MP (runE T a ρ) (fun x ρ1 => LS x fun l => OPT (allTups l) fun ks => Q (.lst ((sortTs ks).map fun k => .tup (k.map .int))) ρ1) X) : MP (runE T (.sortT a) ρ) Q X := mp_bind (h.mono fun x _ h => by
  cases x <;> first | exact h.elim | skip
  rename_i l
  refine mp_opt ?_
  have h : OPT (allTups l) _ := h
  cases q : allTups l with
  | none => rw [q] at h; exact h.elim
  | some r => rw [q] at h; exact h)
theorem mp_tup (h : MP (runL T a ρ) (fun ds ρ1 => Q (.tup ds) ρ1) X) : MP (runE T (.tup a) ρ) Q X := mp_bind (h.mono fun _ _ h => mp_ret h)
theorem mp_lst (h : MP (runL T a ρ) (fun ds ρ1 => Q (.lst ds) ρ1) X) : MP (runE T (.lst a) ρ) Q X := mp_bind (h.mono fun _ _ h => mp_ret h)
theorem mp_cat (h : MP (runE T a ρ) (fun x ρ1 => MP (runE T b ρ1) (fun y ρ2 => LS x fun l => LS y fun k => l.length + k.length ≤ sizeLine ∧ Q (.lst (l ++ k)) ρ2) X) X) : MP (runE T (.cat a b) ρ) Q X := mp_bind (h.mono fun x _ h => mp_bind (h.mono fun y _ h => by
  cases x <;> first | exact h.elim | skip
  cases y <;> first | exact h.elim | skip
  exact mp_iteM h.1 (mp_ret h.2)))
theorem mp_rep (h : MP (runE T a ρ) (fun x ρ1 => MP (runE T b ρ1) (fun y ρ2 => LS x fun l => IN y fun k => (l.length * k.toNat ≤ sizeLine ∧ -(2 ^ 63) ≤ k ∧ k < 2 ^ 63) ∧ Q (.lst (List.replicate k.toNat l).flatten) ρ2) X) X) : MP (runE T (.rep a b) ρ) Q X := mp_bind (h.mono fun x _ h => mp_bind (h.mono fun y _ h => by
  cases x <;> first | exact h.elim | skip
  cases y <;> first | exact h.elim | skip
  exact mp_iteM h.1 (mp_ret h.2)))
theorem mp_popL {i : Nat} {l : List D} {d : D} (h : gS ρ i = some (.lst l)) (h2 : l[l.length - 1]? = some d) (q : Q d (sS ρ i (some (.lst l.dropLast)))) : MP (runE T (.popL i) ρ) Q X := by
  show MP (match gS ρ i with | some (.lst l) => (match l[l.length - 1]? with | some d => R.ok (d, sS ρ i (some (.lst l.dropLast))) | none => .bad) | _ => .bad) Q X
  rw [h]; simp only [h2]; exact ⟨q⟩
theorem mp_popAt {i : Nat} {d : D} (e : gS ρ i = some d) (h : MP (runE T a ρ) (fun x ρ1 => ∃ l k j d, gS ρ1 i = some (.lst l) ∧ x = .int k ∧ (-(2 ^ 63) ≤ k ∧ k < 2 ^ 63) ∧ ixN l.length k = some j ∧ l[j]? = some d ∧ Q d (sS ρ1 i (some (.lst (l.eraseIdx j))))) X) : MP (runE T (.popAt i a) ρ) Q X := mp_has e (mp_bind (h.mono fun x ρ1 h => by
  obtain ⟨l, k, j, d, h1, rfl, h2, h3, h4, q⟩ := h
  simp only [h1, if_pos h2, h3, h4]
  exact ⟨q⟩))
theorem mp_app {i : Nat} {l0 : List D} (e : gS ρ i = some (.lst l0)) (h : MP (runE T a ρ) (fun x ρ1 => OPT (gS ρ1 i) fun d => LS d fun l => l.length < sizeLine ∧ Q .non (sS ρ1 i (some (.lst (l ++ [x]))))) X) : MP (runE T (.app i a) ρ) Q X := mp_hasL e (mp_bind (h.mono fun x ρ1 h => by
  cases q : gS ρ1 i with
  | none => rw [q] at h; exact h.elim
  | some d =>
    rw [q] at h
    cases d <;> first | exact h.elim | skip
    simp only [q]
    exact mp_ite h.1 ⟨h.2⟩))
theorem mp_ins {i : Nat} {l0 : List D} (e : gS ρ i = some (.lst l0)) (h : MP (runE T a ρ) (fun y ρ1 => MP (runE T b ρ1) (fun x ρ2 => OPT (gS ρ2 i) fun d => LS d fun l => IN y fun n => (l.length < sizeLine ∧ 0 ≤ n ∧ n < 2 ^ 63) ∧ Q .non (sS ρ2 i (some (.lst (l.take n.toNat ++ [x] ++ l.drop n.toNat))))) X) X) : MP (runE T (.ins i a b) ρ) Q X := mp_hasL e (mp_bind (h.mono fun y ρ1 h => mp_bind (h.mono fun x ρ2 h => by
  cases q : gS ρ2 i with
  | none => rw [q] at h; exact h.elim
  | some d =>
    rw [q] at h
    cases d <;> first | exact h.elim | skip
    cases y <;> first | exact h.elim | skip
    simp only [q]
    exact mp_ite h.1 ⟨h.2⟩)))
theorem mp_pl (h : MP (runE T a ρ) (fun x ρ1 => plain x = true ∧ Q x ρ1) X) : MP (runE T (.pl a) ρ) Q X := mp_bind (h.mono fun x _ h => mp_iteM h.1 (mp_ret h.2))
theorem mp_pli (h : MP (runE T a ρ) (fun x ρ1 => LS x fun l => plainL l = true ∧ Q (.lst l) ρ1) X) : MP (runE T (.pli a) ρ) Q X := mp_bind (h.mono fun x _ h => by
  cases x <;> first | exact h.elim | skip
  exact mp_iteM h.1 (mp_ret h.2))
/-! tests, lists of arguments -/
variable {Qb : Bool → Slots → Prop} {Ql : List D → Slots → Prop}
theorem mp_tand (h : MP (runT T a ρ) (fun r ρ1 => if r = true then MP (runT T b ρ1) Qb X else Qb false ρ1) X) : MP (runT T (.and a b) ρ) Qb X := mp_bind (h.mono fun r _ h => by
  cases r with
  | true => simpa using h
  | false => simp only [Bool.false_eq_true, if_false] at h ⊢; exact mp_ret h)
theorem mp_tor (h : MP (runT T a ρ) (fun r ρ1 => if r = true then Qb true ρ1 else MP (runT T b ρ1) Qb X) X) : MP (runT T (.or a b) ρ) Qb X := mp_bind (h.mono fun r _ h => by
  cases r with
  | true => simp only [if_true] at h ⊢; exact mp_ret h
  | false => simpa using h)
theorem mp_tone (h : MP (runT T a ρ) Qb X) : MP (runT T (.one a) ρ) Qb X := h
theorem mp_tnot (h : MP (runT T a ρ) (fun r ρ1 => Qb (!r) ρ1) X) : MP (runT T (.not a) ρ) Qb X := mp_bind (h.mono fun r _ h => mp_ret h)
theorem mp_tst (h : MP (runE T a ρ) (fun x ρ1 => BL x fun r => Qb r ρ1) X) : MP (runT T (.tst a) ρ) Qb X := mp_bind (h.mono fun x _ h => by cases x <;> first | exact h.elim | exact mp_ret h)
theorem mp_tru (h : MP (runE T a ρ) (fun x ρ1 => OPT (truD x) fun r => Qb r ρ1) X) : MP (runT T (.tru a) ρ) Qb X := mp_bind (h.mono fun x _ h => mp_opt h)
theorem mp_borT (h : MP (runT T a ρ) (fun r _ => Qb r ρ) X) : MP (runT T (.borT a) ρ) Qb X := mp_rbind (h.mono fun x _ h => ⟨h⟩)
theorem mp_tsn (h : Qb true ρ) : MP (runTs T .nil ρ) Qb X := ⟨h⟩
theorem mp_tsc (h : MP (runT T a ρ) Qb X) : MP (runTs T (.cons a b) ρ) Qb X := h
theorem mp_ln (h : Ql [] ρ) : MP (runL T .nil ρ) Ql X := ⟨h⟩
theorem mp_lc (h : MP (runE T a ρ) (fun x ρ1 => MP (runL T b ρ1) (fun xs ρ2 => Ql (x :: xs) ρ2) X) X) : MP (runL T (.cons a b) ρ) Ql X := mp_bind (h.mono fun _ _ h => mp_bind (h.mono fun _ _ h => mp_ret h))
theorem mp_on {Qo : Option Int → Slots → Prop} (h : Qo none ρ) : MP (runO T .nil ρ) Qo X := ⟨h⟩
theorem mp_oc {Qo : Option Int → Slots → Prop} (h : MP (runE T a ρ) (fun x ρ1 => IN x fun i => Qo (some i) ρ1) X) : MP (runO T (.cons a b) ρ) Qo X := by
  show MP (M.bind (runE T a) (fun x => M.opt ((asInt x).map some)) ρ) Qo X
  exact mp_bind (h.mono fun x _ h => mp_opt (by cases x <;> first | exact h.elim | exact h))
theorem mp_wSeq (h : MP (runE T a ρ) (fun x ρ1 => SQ x fun l => Ql l ρ1) X) : MP (runW T (.wSeq a) ρ) Ql X := by
  show MP (M.bind (runE T a) (fun x => match x with | .lst l => M.ret l | .tup l => M.ret l | _ => M.bad) ρ) Ql X
  exact mp_bind (h.mono fun x _ h => by cases x <;> first | exact h.elim | exact mp_ret h)
theorem mp_wEnum (h : MP (runE T a ρ) (fun x ρ1 => LS x fun l => Ql (enumL l) ρ1) X) : MP (runW T (.wEnum a) ρ) Ql X := by
  show MP (M.bind (runE T a) (fun x => match x with | .lst l => M.ret (enumL l) | _ => M.bad) ρ) Ql X
  exact mp_bind (h.mono fun x _ h => by cases x <;> first | exact h.elim | exact mp_ret h)
theorem mp_wRng1 (h : MP (runE T a ρ) (fun x ρ1 => IN x fun j => (-(2 ^ 62) ≤ j ∧ j < 2 ^ 62) ∧ Ql (rngL 0 j.toNat) ρ1) X) : MP (runW T (.wRng1 a) ρ) Ql X := by
  show MP (M.bind (runE T a) (fun x => match x with | .int j => if -(2 ^ 62) ≤ j ∧ j < 2 ^ 62 then M.ret (rngL 0 j.toNat) else M.bad | _ => M.bad) ρ) Ql X
  refine mp_bind (h.mono fun x _ h => by
  cases x <;> first | exact h.elim | skip
  exact mp_iteM h.1 (mp_ret h.2))
theorem mp_wRng2 (h : MP (runE T a ρ) (fun x ρ1 => MP (runE T b ρ1) (fun y ρ2 => IN x fun i => IN y fun j => (-(2 ^ 62) ≤ i ∧ i < 2 ^ 62 ∧ -(2 ^ 62) ≤ j ∧ j < 2 ^ 62) ∧ Ql (rngL i (j - i).toNat) ρ2) X) X) : MP (runW T (.wRng2 a b) ρ) Ql X := by
  show MP (M.bind (runE T a) (fun x => M.bind (runE T b) fun y => match x, y with | .int i, .int j => if -(2 ^ 62) ≤ i ∧ i < 2 ^ 62 ∧ -(2 ^ 62) ≤ j ∧ j < 2 ^ 62 then M.ret (rngL i (j - i).toNat) else M.bad | _, _ => M.bad) ρ) Ql X
  refine mp_bind (h.mono fun x _ h => mp_bind (h.mono fun y _ h => by
  cases x <;> first | exact h.elim | skip
  cases y <;> first | exact h.elim | skip
  exact mp_iteM h.1 (mp_ret h.2)))
theorem mp_wRv1 (h : MP (runE T a ρ) (fun x ρ1 => IN x fun j => (-(2 ^ 62) ≤ j ∧ j < 2 ^ 62) ∧ Ql (rngL 0 j.toNat).reverse ρ1) X) : MP (runW T (.wRv1 a) ρ) Ql X := by
  show MP (M.bind (runE T a) (fun x => match x with | .int j => if -(2 ^ 62) ≤ j ∧ j < 2 ^ 62 then M.ret (rngL 0 j.toNat).reverse else M.bad | _ => M.bad) ρ) Ql X
  refine mp_bind (h.mono fun x _ h => by
  cases x <;> first | exact h.elim | skip
  exact mp_iteM h.1 (mp_ret h.2))
theorem mp_wRv2 (h : MP (runE T a ρ) (fun x ρ1 => MP (runE T b ρ1) (fun y ρ2 => IN x fun i => IN y fun j => (-(2 ^ 62) ≤ i ∧ i < 2 ^ 62 ∧ -(2 ^ 62) ≤ j ∧ j < 2 ^ 62) ∧ Ql (rngL i (j - i).toNat).reverse ρ2) X) X) : MP (runW T (.wRv2 a b) ρ) Ql X := by
  show MP (M.bind (runE T a) (fun x => M.bind (runE T b) fun y => match x, y with | .int i, .int j => if -(2 ^ 62) ≤ i ∧ i < 2 ^ 62 ∧ -(2 ^ 62) ≤ j ∧ j < 2 ^ 62 then M.ret (rngL i (j - i).toNat).reverse else M.bad | _, _ => M.bad) ρ) Ql X
  refine mp_bind (h.mono fun x _ h => mp_bind (h.mono fun y _ h => by
  cases x <;> first | exact h.elim | skip
  cases y <;> first | exact h.elim | skip
  exact mp_iteM h.1 (mp_ret h.2)))
end
end OS
namespace OS
open PySem PySem.Spec PyProof.Rows L2
section
variable {T : List Sig} {TH : Str → List (Str × Int) → List Sig} {rm : Mode} {io : Bool} {ρ : Slots} {p : Po} {a b e t : IE} {s r : IS}
theorem op_exec {α : Type} {m : M α} {f : α → Slots → Out} (h : MP (m ρ) (fun a ρ1 => OP (f a ρ1) p) p.X) : OP (exec1 m f ρ) p := by
  unfold exec1
  cases q : m ρ with
  | ok a => rw [q] at h; (first | exact h | exact h.h | exact ⟨h.h⟩ | exact ⟨h⟩)
  | exn c fs => rw [q] at h; (first | exact h | exact h.h | exact ⟨h.h⟩ | exact ⟨h⟩)
  | bad => rw [q] at h; (first | exact h | exact h.h | exact ⟨h.h⟩ | exact ⟨h⟩)
theorem op_nil (h : p.N ρ) : OP (runS TH rm io T .nil ρ) p := ⟨h⟩
theorem op_seq (h : OP (runS TH rm io T s ρ) ⟨fun ρ1 => OP (runS TH rm io T r ρ1) p, p.B, p.C, p.Rt, p.X⟩) : OP (runS TH rm io T (.seq s r) ρ) p := by
  show OP (match runS TH rm io T s ρ with | .nx ρ1 => runS TH rm io T r ρ1 | o => o) p
  cases q : runS TH rm io T s ρ with
  | nx ρ1 => rw [q] at h; (first | exact h | exact h.h | exact ⟨h.h⟩ | exact ⟨h⟩)
  | bk ρ1 => rw [q] at h; (first | exact h | exact h.h | exact ⟨h.h⟩ | exact ⟨h⟩)
  | ct ρ1 => rw [q] at h; (first | exact h | exact h.h | exact ⟨h.h⟩ | exact ⟨h⟩)
  | rt d ρ1 => rw [q] at h; (first | exact h | exact h.h | exact ⟨h.h⟩ | exact ⟨h⟩)
  | exn c fs => rw [q] at h; (first | exact h | exact h.h | exact ⟨h.h⟩ | exact ⟨h⟩)
  | bad => rw [q] at h; (first | exact h | exact h.h | exact ⟨h.h⟩ | exact ⟨h⟩)
theorem op_frz {i : Nat} (h : p.N ρ) : OP (runS TH rm io T (.frz i) ρ) p := ⟨h⟩
theorem op_pass (h : p.N ρ) : OP (runS TH rm io T .pass ρ) p := ⟨h⟩
theorem op_brk (h : p.B ρ) : OP (runS TH rm io T .brk ρ) p := ⟨h⟩
theorem op_cnt (h : p.C ρ) : OP (runS TH rm io T .cnt ρ) p := ⟨h⟩
theorem op_ex (h : MP (runE T e ρ) (fun _ ρ1 => p.N ρ1) p.X) : OP (runS TH rm io T (.ex e) ρ) p := op_exec (h.mono fun _ _ h => ⟨h⟩)
theorem op_asg {tg : List Nat} (h : MP (runE T e ρ) (fun d ρ1 => OPT (setT tg d ρ1) fun ρ2 => p.N ρ2) p.X) : OP (runS TH rm io T (.asg tg e) ρ) p := op_exec (h.mono fun d ρ1 h => by
  cases q : setT tg d ρ1 with
  | none => rw [q] at h; (first | exact h.elim | exact h.h.elim)
  | some ρ2 => rw [q] at h; (first | exact h | exact h.h | exact ⟨h.h⟩ | exact ⟨h⟩))
theorem op_asgN {i : Nat} (h : MP (runE T e ρ) (fun d ρ1 => p.N (sS ρ1 i (some d))) p.X) : OP (runS TH rm io T (.asgO i .no e) ρ) p := op_exec (h.mono fun d ρ1 h => by
  rw [if_neg (by simp)]; (first | exact h | exact h.h | exact ⟨h.h⟩ | exact ⟨h⟩))
theorem op_asgA {i : Nat} (h : MP (runE T e ρ) (fun d ρ1 => p.N (sS ρ1 i (some d))) p.X) : OP (runS TH rm io T (.asgO i .all e) ρ) p := op_exec (h.mono fun d ρ1 h => by
  rw [if_neg (by simp)]; (first | exact h | exact h.h | exact ⟨h.h⟩ | exact ⟨h⟩))
theorem op_asgT {i : Nat} (h : MP (runE T e ρ) (fun d ρ1 => LS d fun l => p.N (sS ρ1 i (some (.lst l)))) p.X) : OP (runS TH rm io T (.asgO i .top e) ρ) p := op_exec (h.mono fun d ρ1 h => by
  cases d <;> first | (first | exact h.elim | exact h.h.elim) | skip
  rw [if_neg (by simp [isLst])]; (first | exact h | exact h.h | exact ⟨h.h⟩ | exact ⟨h⟩))
theorem op_setI {i : Nat} {k v : IE} (h : MP (runE T v ρ) (fun x ρ0 => OPT (gS ρ0 i) fun _ => MP (runE T k ρ0) (fun y ρ1 => OPT (gS ρ1 i) fun d => LS d fun l => IN y fun n => OPT (ixN l.length n) fun j => p.N (sS ρ1 i (some (.lst (l.set j x))))) p.X) p.X) : OP (runS TH rm io T (.setI i k v) ρ) p := op_exec (h.mono fun x ρ0 h => by
  cases q : gS ρ0 i with
  | none => rw [q] at h; (first | exact h.elim | exact h.h.elim)
  | some d0 =>
    rw [q] at h
    refine op_exec (MP.mono h fun y ρ1 h => ?_)
    cases q1 : gS ρ1 i with
    | none => rw [q1] at h; (first | exact h.elim | exact h.h.elim)
    | some d =>
      rw [q1] at h
      cases d <;> first | (first | exact h.elim | exact h.h.elim) | skip
      rename_i l
      cases y <;> first | (first | exact h.elim | exact h.h.elim) | skip
      rename_i n
      have h : OPT (ixN l.length n) fun j => p.N (sS ρ1 i (some (.lst (l.set j x)))) := h
      simp only [q1]
      cases q2 : ixN l.length n with
      | none => rw [q2] at h; (first | exact h.elim | exact h.h.elim)
      | some j => rw [q2] at h; (first | exact h | exact h.h | exact ⟨h.h⟩ | exact ⟨h⟩))
theorem op_swp {i : Nat} {k1 k2 v1 v2 : IE} (h : MP (runE T v1 ρ) (fun x1 ρa => MP (runE T v2 ρa) (fun x2 ρ0 => OPT (gS ρ0 i) fun _ => MP (runE T k1 ρ0) (fun y1 ρ1 => OPT (gS ρ1 i) fun d => LS d fun l => IN y1 fun n => OPT (ixN l.length n) fun j =>
    MP (runE T k2 (sS ρ1 i (some (.lst (l.set j x1))))) (fun y2 ρ2 => OPT (gS ρ2 i) fun d2 => LS d2 fun l2 => IN y2 fun n2 => OPT (ixN l2.length n2) fun j2 => p.N (sS ρ2 i (some (.lst (l2.set j2 x2))))) p.X) p.X) p.X) p.X) : OP (runS TH rm io T (.swp i k1 k2 v1 v2) ρ) p := by
  refine op_exec (m := runE T (.tup (.cons v1 (.cons v2 .nil)))) (mp_tup (mp_lc (h.mono fun x1 ρa h => mp_lc (h.mono fun x2 ρ0 h => mp_ln ?_))))
  cases q : gS ρ0 i with
  | none => rw [q] at h; (first | exact h.elim | exact h.h.elim)
  | some d0 =>
    rw [q] at h
    simp only [q]
    refine op_exec (MP.mono h fun y ρ1 h => ?_)
    cases q1 : gS ρ1 i with
    | none => rw [q1] at h; (first | exact h.elim | exact h.h.elim)
    | some d =>
      rw [q1] at h
      cases d <;> first | (first | exact h.elim | exact h.h.elim) | skip
      rename_i l
      cases y <;> first | (first | exact h.elim | exact h.h.elim) | skip
      rename_i n
      have h : OPT (ixN l.length n) _ := h
      simp only [q1]
      cases q2 : ixN l.length n with
      | none => rw [q2] at h; (first | exact h.elim | exact h.h.elim)
      | some j =>
        rw [q2] at h
        refine op_exec (MP.mono h fun y2 ρ2 h => ?_)
        cases q3 : gS ρ2 i with
        | none => rw [q3] at h; (first | exact h.elim | exact h.h.elim)
        | some d =>
          rw [q3] at h
          cases d <;> first | (first | exact h.elim | exact h.h.elim) | skip
          rename_i l2
          cases y2 <;> first | (first | exact h.elim | exact h.h.elim) | skip
          rename_i n2
          have h : OPT (ixN l2.length n2) fun j2 => p.N (sS ρ2 i (some (.lst (l2.set j2 x2)))) := h
          simp only [q3]
          cases q4 : ixN l2.length n2 with
          | none => rw [q4] at h; (first | exact h.elim | exact h.h.elim)
          | some j => rw [q4] at h; (first | exact h | exact h.h | exact ⟨h.h⟩ | exact ⟨h⟩)
theorem opW_aug {i : Nat} {o : BOp} {x : D} (hg : gS ρ i = some x) (h : MP (runE T e ρ) (fun y ρ1 => OPT (binD o x y) fun z => p.N (sS ρ1 i (some z))) p.X) : OP (runS TH rm io T (.aug i o e) ρ) p := by
  show OP (match gS ρ i with | some x => exec1 (runE T e) (fun y ρ1 => match binD o x y with | some z => .nx (sS ρ1 i (some z)) | none => .bad) ρ | none => .bad) p
  rw [hg]
  refine op_exec (h.mono fun y ρ1 h => ?_)
  cases q : binD o x y with
  | none => rw [q] at h; (first | exact h.elim | exact h.h.elim)
  | some z => rw [q] at h; (first | exact h | exact h.h | exact ⟨h.h⟩ | exact ⟨h⟩)
theorem op_ite (h : MP (runT T t ρ) (fun c ρ1 => if c = true then OP (runS TH rm io T s ρ1) p else OP (runS TH rm io T r ρ1) p) p.X) : OP (runS TH rm io T (.ite t s r) ρ) p := op_exec (h.mono fun c ρ1 h => by
  cases c with
  | true => simpa using h
  | false => simpa using h)
theorem op_fr {tg : List Nat} {w : IE} (h : MP (runW T w ρ) (fun l ρ1 => OP (forL tg (runS TH rm io T s) l ρ1) p) p.X) : OP (runS TH rm io T (.fr tg w s) ρ) p := op_exec h
theorem op_retD {d : D} (h1 : rm = .top → isLst d = true) (h2 : io = true → (gS ρ 0).isNone = false) (h : p.Rt d ρ) : OP (retD rm io d ρ) p := by
  unfold retD
  rw [if_neg (fun q => by have := h1 q.1; rw [q.2] at this; cases this), if_neg (fun q => by have := h2 q.1; rw [q.2] at this; cases this)]
  (first | exact h | exact h.h | exact ⟨h.h⟩ | exact ⟨h⟩)
theorem op_ret (h : MP (runE T e ρ) (fun d ρ1 => (rm = .top → isLst d = true) ∧ (io = true → (gS ρ1 0).isNone = false) ∧ p.Rt d ρ1) p.X) : OP (runS TH rm io T (.ret e) ρ) p := op_exec (h.mono fun _ _ h => op_retD h.1 h.2.1 h.2.2)
theorem op_retM {i : Nat} {d : D} (hg : gS ρ i = some d) (h : (rm = .top → isLst d = true) ∧ (io = true → (gS (sS ρ i none) 0).isNone = false) ∧ p.Rt d (sS ρ i none)) : OP (runS TH rm io T (.retM i) ρ) p := by
  show OP (match gS ρ i with | some d => retD rm io d (sS ρ i none) | none => .bad) p
  rw [hg]
  exact op_retD h.1 h.2.1 h.2.2
theorem op_retN (h : (rm = .top → isLst .non = true) ∧ (io = true → (gS ρ 0).isNone = false) ∧ p.Rt .non ρ) : OP (runS TH rm io T .retN ρ) p := op_retD h.1 h.2.1 h.2.2
theorem op_rai {c : Str} {fs : List Str} (h : MP (runL T a ρ) (fun ds _ => OPT (fields fs ds) fun q => p.X c q.reverse) p.X) : OP (runS TH rm io T (.rai c fs a) ρ) p := op_exec (h.mono fun ds ρ1 h => by
  cases q : fields fs ds with
  | none => rw [q] at h; (first | exact h.elim | exact h.h.elim)
  | some z => rw [q] at h; (first | exact h | exact h.h | exact ⟨h.h⟩ | exact ⟨h⟩))
theorem op_spl {i : Nat} {d : D} (hg : gS ρ i = some d) (h : smD d = true ∧ p.N (sS ρ i none)) : OP (runS TH rm io T (.spl i) ρ) p := by
  show OP (match gS ρ i with | some d => if smD d then .nx (sS ρ i none) else .bad | none => .bad) p
  rw [hg]
  simp only
  rw [if_pos h.1]
  exact ⟨h.2⟩
theorem op_splI {i k : Nat} {l : List D} {d : D} (hg : gS ρ i = some (.tup l)) (hk : l[k]? = some d) (h : smD d = true ∧ p.N (sS ρ i none)) : OP (runS TH rm io T (.splI i k) ρ) p := by
  show OP (match gS ρ i with
    | some (.tup l) => (match l[k]? with
      | some d => if smD d then .nx (sS ρ i none) else .bad
      | none => .bad)
    | _ => .bad) p
  rw [hg]
  simp only [hk]
  rw [if_pos h.1]
  exact ⟨h.2⟩
theorem op_mv {i j k : Nat} {m : Mode} {l : List D} {d : D} (hg : gS ρ j = some (.tup l)) (hk : l[k]? = some d) (h : ¬ (m = .top ∧ isLst d = false) ∧ p.N (sS (sS ρ j none) i (some d))) : OP (runS TH rm io T (.mv i m j k) ρ) p := by
  show OP (match gS ρ j with
      | some d => (match mvD k d with
        | some e => if m = .top ∧ isLst e = false then .bad else .nx (sS (sS ρ j none) i (some e))
        | none => .bad)
      | none => .bad) p
  rw [hg]
  have : mvD k (.tup l) = some d := hk
  simp only [this]
  rw [if_neg h.1]
  exact ⟨h.2⟩
theorem op_thaw {i : Nat} {d : D} (hg : gS ρ i = some d) (h : plain d = true ∧ p.N ρ) : OP (runS TH rm io T (.thaw i) ρ) p := by
  show OP (match gS ρ i with | some d => if plain d then Out.nx ρ else .bad | none => .bad) p
  rw [hg]
  simp only
  rw [if_pos h.1]
  exact ⟨h.2⟩
theorem op_inn2 {j i : Nat} {k n : Int} {l : List D} (hg : gS ρ i = some (.lst l)) (h : OPT (appD l k n) fun l2 => p.N (sS (sS ρ i (some (.lst l2))) j none)) : OP (runS TH rm io T (.inn2 j i k n) ρ) p := by
  show OP (match gS ρ i with
      | some (.lst l) => (match appD l k n with | some l2 => Out.nx (sS (sS ρ i (some (.lst l2))) j none) | none => .bad)
      | _ => .bad) p
  rw [hg]
  cases q : appD l k n with
  | none => rw [q] at h; exact h.elim
  | some l2 => rw [q] at h; simp only [q]; exact ⟨h⟩
theorem op_try {n : Nat} (h : OP (runS TH rm io T s ρ) ⟨p.N, p.B, p.C, p.Rt, fun c fs => noE (TH c fs) = false ∧ OP (runS (fun _ _ => []) rm io (TH c fs) r (List.replicate n none)) ⟨fun _ => False, fun _ => False, fun _ => False, p.Rt, NoX⟩⟩) : OP (runS TH rm io T (.tryR n s r) ρ) p := by
  show OP (match runS TH rm io T s ρ with
    | .exn c fs => if noE (TH c fs) then .bad else (match runS (fun _ _ => []) rm io (TH c fs) r (List.replicate n none) with
      | .rt d ρ1 => .rt d ρ1
      | _ => .bad)
    | o => o) p
  cases q : runS TH rm io T s ρ with
  | nx ρ1 => rw [q] at h; (first | exact h | exact h.h | exact ⟨h.h⟩ | exact ⟨h⟩)
  | bk ρ1 => rw [q] at h; (first | exact h | exact h.h | exact ⟨h.h⟩ | exact ⟨h⟩)
  | ct ρ1 => rw [q] at h; (first | exact h | exact h.h | exact ⟨h.h⟩ | exact ⟨h⟩)
  | rt d ρ1 => rw [q] at h; (first | exact h | exact h.h | exact ⟨h.h⟩ | exact ⟨h⟩)
  | bad => rw [q] at h; (first | exact h | exact h.h | exact ⟨h.h⟩ | exact ⟨h⟩)
  | exn c fs =>
    rw [q] at h
    obtain ⟨⟨h1, h2⟩⟩ := h
    simp only
    rw [if_neg (by rw [h1]; simp)]
    cases q2 : runS (fun _ _ => []) rm io (TH c fs) r (List.replicate n none) with
    | rt d ρ1 => rw [q2] at h2; exact ⟨h2.h⟩
    | nx ρ1 => rw [q2] at h2; (first | exact h2.elim | exact h2.h.elim)
    | bk ρ1 => rw [q2] at h2; (first | exact h2.elim | exact h2.h.elim)
    | ct ρ1 => rw [q2] at h2; (first | exact h2.elim | exact h2.h.elim)
    | exn c fs => rw [q2] at h2; (first | exact h2.elim | exact h2.h.elim)
    | bad => rw [q2] at h2; (first | exact h2.elim | exact h2.h.elim)
theorem op_tryC {n j k : Nat} {t : Str} (h : MP (runL T a ρ) (fun ds ρ1 => FP (callD T j ds) (fun d _ => OP (retD rm io (.tup [.str t, d]) ρ1) p) (fun c fs => noE (TH c fs) = false ∧ OP (runS (fun _ _ => []) rm io (TH c fs) r (sS (List.replicate n none) k (gS ρ1 k))) ⟨fun _ => False, fun _ => False, fun _ => False, p.Rt, NoX⟩)) NoX) : OP (runS TH rm io T (.tryC n t j a k r) ρ) p := by
  show OP (match runL T a ρ with
    | .ok (ds, ρ1) => (match callD T j ds with
      | .ok (d, _) => retD rm io (.tup [.str t, d]) ρ1
      | .exn c fs => if noE (TH c fs) then .bad else (match runS (fun _ _ => []) rm io (TH c fs) r (sS (List.replicate n none) k (gS ρ1 k)) with
        | .rt d ρ2 => .rt d ρ2
        | _ => .bad)
      | .bad => .bad)
    | _ => .bad) p
  cases q : runL T a ρ with
  | exn c fs => rw [q] at h; exact h.h.elim
  | bad => rw [q] at h; exact h.h.elim
  | ok pr =>
    obtain ⟨ds, ρ1⟩ := pr
    rw [q] at h
    have h : FP (callD T j ds) _ _ := h.h
    simp only
    cases q2 : callD T j ds with
    | bad => rw [q2] at h; exact h.h.elim
    | ok pd =>
      obtain ⟨d, d'⟩ := pd
      rw [q2] at h
      exact h.h
    | exn c fs =>
      rw [q2] at h
      obtain ⟨⟨h1, h2⟩⟩ := h
      simp only
      rw [if_neg (by rw [h1]; simp)]
      cases q3 : runS (fun _ _ => []) rm io (TH c fs) r (sS (List.replicate n none) k (gS ρ1 k)) with
      | rt d ρ2 => rw [q3] at h2; exact ⟨h2.h⟩
      | nx ρ2 => rw [q3] at h2; exact h2.h.elim
      | bk ρ2 => rw [q3] at h2; exact h2.h.elim
      | ct ρ2 => rw [q3] at h2; exact h2.h.elim
      | exn cc ff => rw [q3] at h2; exact h2.h.elim
      | bad => rw [q3] at h2; exact h2.h.elim
/-- a def, run -/
theorem fp_run {n : Nat} {ds : List D} {Q : D → D → Prop} {X : EX} (h : OP (runS TH rm io T s (ds.map some ++ List.replicate (n - ds.length) none)) ⟨fun ρ => OP (retD rm io .non ρ) ⟨fun _ => False, fun _ => False, fun _ => False, fun d ρ => Q d (if io then (gS ρ 0).getD .non else .non), NoX⟩, fun _ => False, fun _ => False, fun d ρ => Q d (if io then (gS ρ 0).getD .non else .non), X⟩) : FP (runF rm io TH T n s ds) Q X := by
  unfold runF
  cases q : runS TH rm io T s (ds.map some ++ List.replicate (n - ds.length) none) with
  | nx ρ1 =>
    rw [q] at h
    have h : OP (retD rm io .non ρ1) _ := h.h
    cases q2 : retD rm io .non ρ1 with
    | rt d ρ2 => rw [q2] at h; simp only [q2]; (first | exact h | exact h.h | exact ⟨h.h⟩ | exact ⟨h⟩)
    | nx ρ1 => rw [q2] at h; (first | exact h.elim | exact h.h.elim)
    | bk ρ1 => rw [q2] at h; (first | exact h.elim | exact h.h.elim)
    | ct ρ1 => rw [q2] at h; (first | exact h.elim | exact h.h.elim)
    | exn c fs => rw [q2] at h; (first | exact h.elim | exact h.h.elim)
    | bad => rw [q2] at h; (first | exact h.elim | exact h.h.elim)
  | bk ρ1 => rw [q] at h; (first | exact h.elim | exact h.h.elim)
  | ct ρ1 => rw [q] at h; (first | exact h.elim | exact h.h.elim)
  | rt d ρ1 => rw [q] at h; (first | exact h | exact h.h | exact ⟨h.h⟩ | exact ⟨h⟩)
  | exn c fs => rw [q] at h; (first | exact h | exact h.h | exact ⟨h.h⟩ | exact ⟨h⟩)
  | bad => rw [q] at h; (first | exact h.elim | exact h.h.elim)

theorem opt_add {i j : Int} {Q : D → Prop} (q : Q (.int (i + j))) : OPT (binD .add (.int i) (.int j)) Q := q
theorem opt_sub {i j : Int} {Q : D → Prop} (q : Q (.int (i - j))) : OPT (binD .sub (.int i) (.int j)) Q := q
theorem isMod {x y : D} {Q : D → Prop} (q : OPT (binD .mod x y) Q) : OPT (binD .mod x y) Q := q
theorem isFdiv {x y : D} {Q : D → Prop} (q : OPT (binD .fdiv x y) Q) : OPT (binD .fdiv x y) Q := q
theorem isMul {x y : D} {Q : D → Prop} (q : OPT (binD .mul x y) Q) : OPT (binD .mul x y) Q := q
theorem isCut {l u : Option Int} {x : D} {Q : D → Prop} (q : OPT (cutD l u x) Q) : OPT (cutD l u x) Q := q
theorem opt_mod {i m : Int} {Q : D → Prop} (hm : 0 < m) (q : Q (.int (i % m))) : OPT (binD .mod (.int i) (.int m)) Q := by
  show OPT (if 0 < m then some (D.int (i % m)) else none) Q
  rw [if_pos hm]; exact q
theorem opt_modr {i m : Int} {Q : D → Prop} (hm : 0 < m) (q : ∀ r, 0 ≤ r → r < m → Q (.int r)) : OPT (binD .mod (.int i) (.int m)) Q := opt_mod hm (q _ (Int.emod_nonneg _ (by omega)) (Int.emod_lt_of_pos _ hm))
theorem opt_fdiv {i m : Int} {Q : D → Prop} (hm : 0 < m ∧ m.natAbs.log2 < 9000) (q : Q (.int (i / m))) : OPT (binD .fdiv (.int i) (.int m)) Q := by
  show OPT (if 0 < m ∧ m.natAbs.log2 < 9000 then some (D.int (i / m)) else none) Q
  rw [if_pos hm]; exact q
theorem opt_mul {i j : Int} {Q : D → Prop} (a b : Nat) (hi : i.natAbs < 2 ^ a) (hj : j.natAbs < 2 ^ b) (h : a + b ≤ 134217728) (q : Q (.int (i * j))) : OPT (binD .mul (.int i) (.int j)) Q := by
  have h1 : Builtin.Int.intBits i ≤ a := PyProof.Rows.intBits_le hi
  have h2 : Builtin.Int.intBits j ≤ b := PyProof.Rows.intBits_le hj
  show OPT (if Builtin.Int.intBits i + Builtin.Int.intBits j ≤ 134217728 then some (D.int (i * j)) else none) Q
  rw [if_pos (by omega)]; exact q
theorem opt_pow {i j : Int} {Q : D → Prop} (a : Nat) (hi : i.natAbs < 2 ^ a) (hj : 0 ≤ j) (h : (a : Int) * j ≤ 134217728) (q : Q (.int (i ^ j.toNat))) : OPT (binD .pow (.int i) (.int j)) Q := by
  have h1 : Builtin.Int.intBits i ≤ a := PyProof.Rows.intBits_le hi
  have h2 : (Builtin.Int.intBits i : Int) * j ≤ (a : Int) * j := Int.mul_le_mul_of_nonneg_right (by exact_mod_cast h1) hj
  show OPT (if 0 ≤ j ∧ (Builtin.Int.intBits i : Int) * j ≤ 134217728 then some (D.int (i ^ j.toNat)) else none) Q
  rw [if_pos ⟨hj, by omega⟩]; exact q
theorem in_mk {i : Int} {P : Int → Prop} (h : P i) : IN (.int i) P := h
theorem bl_mk {i : Bool} {P : Bool → Prop} (h : P i) : BL (.bl i) P := h
theorem ls_mk {i : List D} {P : List D → Prop} (h : P i) : LS (.lst i) P := h
theorem ss_mk {i : Str} {P : Str → Prop} (h : P i) : SS (.str i) P := h
theorem sq_l {i : List D} {P : List D → Prop} (h : P i) : SQ (.lst i) P := h
theorem sq_t {i : List D} {P : List D → Prop} (h : P i) : SQ (.tup i) P := h
theorem ite_b {c : Bool} {P Q : Prop} (h1 : c = true → P) (h2 : c = false → Q) : if c = true then P else Q := by
  cases c with
  | true => simpa using h1 rfl
  | false => simpa using h2 rfl
theorem iteF {P Q : Prop} (h : Q) : if false = true then P else Q := by simpa using h
theorem iteT {P Q : Prop} (h : P) : if true = true then P else Q := by simpa using h
theorem iteNT {P Q : Prop} (h : Q) : if (!true) = true then P else Q := by simpa using h
theorem iteNF {P Q : Prop} (h : P) : if (!false) = true then P else Q := by simpa using h
theorem ite_t {c : Bool} {P Q : Prop} (e : c = true) (h : P) : if c = true then P else Q := by rw [if_pos e]; exact h
theorem ite_f {c : Bool} {P Q : Prop} (e : c = false) (h : Q) : if c = true then P else Q := by rw [if_neg (by rw [e]; simp)]; exact h
theorem op_seqI (M : Slots → Prop) (h : OP (runS TH rm io T s ρ) ⟨M, p.B, p.C, p.Rt, p.X⟩) (h2 : ∀ ρ1, M ρ1 → OP (runS TH rm io T r ρ1) p) : OP (runS TH rm io T (.seq s r) ρ) p := op_seq (h.mono h2 (fun _ h => h) (fun _ h => h) (fun _ _ h => h) fun _ _ h => h)
theorem atI_of {α : Type} {l : List α} {i : Int} (h0 : 0 ≤ i) (h1 : i < l.length) : atI l i = l[i.toNat]? := by
  obtain ⟨k, rfl⟩ := Int.eq_ofNat_of_zero_le h0
  have hk : k < l.length := by omega
  rw [List.getElem?_eq_getElem (by simpa using hk)]
  exact atI_nat (List.getElem?_eq_getElem hk)
theorem opt_idx {l : List D} {i : Int} {Q : D → Prop} (h0 : 0 ≤ i) (h1 : i < l.length) (q : ∀ d, l[i.toNat]? = some d → Q d) : OPT (idxD (.lst l) (.int i)) Q := by
  have hk : i.toNat < l.length := by omega
  show OPT (atI l i) Q
  rw [atI_of h0 h1, List.getElem?_eq_getElem hk]
  exact q _ (List.getElem?_eq_getElem hk)
theorem opt_ixN {n : Nat} {i : Int} {Q : Nat → Prop} (h0 : 0 ≤ i) (h1 : i < n) (q : Q i.toNat) : OPT (ixN n i) Q := by
  have : ixN n i = some i.toNat := by
    unfold ixN
    rw [if_pos h0, if_pos h1]
  rw [this]; exact q
/-- slots, written out -/
theorem op_norm {s : IS} {ρ ρ' : Slots} (e : ρ = ρ') (h : OP (runS TH rm io T s ρ') p) : OP (runS TH rm io T s ρ) p := by rw [e]; exact h
/-! ### loops -/
theorem for_rule {tg : List Nat} {body : Slots → Out} (I : List D → Slots → Prop) (step : ∀ d r ρ, I (d :: r) ρ → OPT (setT tg d ρ) fun ρ1 => OP (body ρ1) ⟨I r, p.N, I r, p.Rt, p.X⟩) (fin : ∀ ρ, I [] ρ → p.N ρ) :
    ∀ (l : List D) (ρ : Slots), I l ρ → OP (forL tg body l ρ) p
  | [], ρ, h => ⟨fin ρ h⟩
  | d :: r, ρ, h => by
    have s := step d r ρ h
    unfold forL
    cases q : setT tg d ρ with
    | none => rw [q] at s; exact (by first | exact s.elim | exact s.h.elim)
    | some ρ1 =>
      rw [q] at s
      have s : OP (body ρ1) _ := s
      simp only
      cases q2 : body ρ1 with
      | nx ρ2 => rw [q2] at s; exact for_rule I step fin r ρ2 s.h
      | ct ρ2 => rw [q2] at s; exact for_rule I step fin r ρ2 s.h
      | bk ρ2 => rw [q2] at s; exact ⟨s.h⟩
      | rt d ρ2 => rw [q2] at s; exact ⟨s.h⟩
      | exn c fs => rw [q2] at s; exact ⟨s.h⟩
      | bad => rw [q2] at s; exact (by first | exact s.elim | exact s.h.elim)
theorem for_idx {tg : List Nat} {body : Slots → Out} {l : List D} (I : Nat → Slots → Prop) (step : ∀ i d ρ, l[i]? = some d → I i ρ → OPT (setT tg d ρ) fun ρ1 => OP (body ρ1) ⟨I (i + 1), p.N, I (i + 1), p.Rt, p.X⟩) (fin : ∀ ρ, I l.length ρ → p.N ρ) (h0 : I 0 ρ) : OP (forL tg body l ρ) p := by
  refine for_rule (fun r ρ => ∃ i, r = l.drop i ∧ i ≤ l.length ∧ I i ρ) (fun d r ρ ⟨i, e, hi, h⟩ => ?_) (fun ρ ⟨i, e, hi, h⟩ => ?_) l ρ ⟨0, rfl, Nat.zero_le _, h0⟩
  · have hlt : i < l.length := by
      rcases Nat.lt_or_ge i l.length with q | q
      · exact q
      · rw [List.drop_eq_nil_iff.mpr q] at e; cases e
    rw [List.drop_eq_getElem_cons hlt] at e
    cases e
    refine OPT.mono (step i _ ρ (List.getElem?_eq_getElem hlt) h) fun ρ1 h => h.mono (fun _ h => ⟨i + 1, rfl, hlt, h⟩) (fun _ h => h) (fun _ h => ⟨i + 1, rfl, hlt, h⟩) (fun _ _ h => h) fun _ _ h => h
  · have : l.length ≤ i := List.drop_eq_nil_iff.mp e.symm
    have e2 : i = l.length := by omega
    subst e2
    exact fin ρ h
theorem rngL_len {lo : Int} {n : Nat} : (rngL lo n).length = n := by simp [rngL]
theorem rngL_get {lo : Int} {n i : Nat} {d : D} (h : (rngL lo n)[i]? = some d) : i < n ∧ d = .int (lo + i) := by
  unfold rngL at h
  rw [List.getElem?_map] at h
  obtain ⟨k, hk, rfl⟩ := Option.map_eq_some_iff.mp h
  obtain ⟨hlt, he⟩ := List.getElem?_eq_some_iff.mp hk
  rw [List.getElem_range] at he
  rw [← he]
  exact ⟨by simpa using hlt, rfl⟩
theorem for_rng {tg : List Nat} {body : Slots → Out} {lo : Int} {n : Nat} (I : Nat → Slots → Prop) (step : ∀ i ρ, i < n → I i ρ → OPT (setT tg (.int (lo + i)) ρ) fun ρ1 => OP (body ρ1) ⟨I (i + 1), p.N, I (i + 1), p.Rt, p.X⟩) (fin : ∀ ρ, I n ρ → p.N ρ) (h0 : I 0 ρ) : OP (forL tg body (rngL lo n) ρ) p :=
  for_idx I (fun i d ρ e h => by
    obtain ⟨hi, rfl⟩ := rngL_get e
    exact step i ρ hi h) (fun ρ h => fin ρ (by rw [rngL_len] at h; exact h)) h0

/-! ### comprehensions -/
theorem walk_idx {F : D → List D → M (List D)} {l : List D} {X : EX} {Q : List D → Slots → Prop} (J : Nat → List D → Slots → Prop) (step : ∀ i d acc ρ, l[i]? = some d → J i acc ρ → MP (F d acc ρ) (J (i + 1)) X) : ∀ (k : Nat) (acc : List D) (ρ : Slots), k ≤ l.length → J k acc ρ → (∀ acc ρ, J l.length acc ρ → Q acc ρ) → MP (walkC F (l.drop k) acc ρ) Q X := by
  intro k
  generalize hm : l.length - k = m
  induction m generalizing k with
  | zero =>
    intro acc ρ hk h q
    have e : k = l.length := by omega
    subst e
    rw [List.drop_length]
    exact ⟨q acc ρ h⟩
  | succ m ih =>
    intro acc ρ hk h q
    have hlt : k < l.length := by omega
    rw [List.drop_eq_getElem_cons hlt]
    exact mp_bind ((step k _ acc ρ (List.getElem?_eq_getElem hlt) h).mono fun acc1 ρ1 h1 => ih (k + 1) (by omega) acc1 ρ1 hlt h1 q)
/-- a comprehension of one clause, by an invariant -/
theorem mp_comp {vs tg : List Nat} {it tt el : IE} {Q : D → Slots → Prop} {X : EX} (h : MP (runW T it ρ) (fun l ρ1 => ∃ J : Nat → List D → Slots → Prop, J 0 [] (wipeS ρ1 vs) ∧
      (∀ i d acc ρ2, l[i]? = some d → J i acc ρ2 → OPT (setT tg d ρ2) fun ρ3 => MP (runTs T tt ρ3) (fun c ρ4 => if c = true then MP (runE T el ρ4) (fun x ρ5 => acc.length < sizeLine ∧ J (i + 1) (acc ++ [x]) (wipeS ρ5 vs)) NoX else J (i + 1) acc (wipeS ρ4 vs)) NoX) ∧
      (∀ acc ρ2, J l.length acc ρ2 → Q (.lst acc) (unwipe ρ1 ρ2 vs))) X) : MP (runE T (.comp vs tg it tt el) ρ) Q X := by
  refine mp_bind (m := runW T it) (h.mono fun l ρ1 ⟨J, h0, hs, hf⟩ => ?_)
  refine mp_rbind (walk_idx (l := l) J (fun i d acc ρ2 hd hj => ?_) 0 [] _ (Nat.zero_le _) h0 fun acc ρ2 h => ⟨hf acc ρ2 h⟩)
  have hs := hs i d acc ρ2 hd hj
  cases q : setT tg d ρ2 with
  | none => rw [q] at hs; exact hs.elim
  | some ρ3 =>
    rw [q] at hs
    refine mp_rbind (mp_nox (mp_bind (MP.mono hs fun c ρ4 h => ?_)))
    cases c with
    | true =>
      simp only [if_true] at h ⊢
      exact mp_bind (h.mono fun x ρ5 h => mp_iteM h.1 (mp_ret ⟨h.2⟩))
    | false =>
      simp only [Bool.false_eq_true, if_false] at h ⊢
      exact mp_ret ⟨h⟩
end
end OS
namespace OS
open PySem PySem.Spec PyProof.Rows L2
section
variable {T : List Sig} {ρ : Slots}
/-- a comprehension of one clause and one name: what is kept, what is made of it -/
theorem mp_compG {i : Nat} {it tt el : IE} {Q : D → Slots → Prop} {X : EX} (p : D → Bool) (f : D → D) (h : MP (runW T it ρ) (fun l ρ1 => l.length ≤ sizeLine ∧
      (∀ d ∈ l, MP (runTs T tt (sS (wipeS ρ1 [i]) i (some d))) (fun c ρ4 => c = p d ∧ ρ4 = sS (wipeS ρ1 [i]) i (some d)) NoX) ∧
      (∀ d ∈ l, p d = true → MP (runE T el (sS (wipeS ρ1 [i]) i (some d))) (fun x ρ4 => x = f d ∧ ρ4 = sS (wipeS ρ1 [i]) i (some d)) NoX) ∧
      (∀ d, wipeS (sS (wipeS ρ1 [i]) i (some d)) [i] = wipeS ρ1 [i]) ∧
      Q (.lst ((l.filter p).map f)) (unwipe ρ1 (wipeS ρ1 [i]) [i])) X) : MP (runE T (.comp [i] [i] it tt el) ρ) Q X := by
  refine mp_comp (h.mono fun l ρ1 ⟨hl, ht, he, hw, q⟩ => ?_)
  refine ⟨fun k acc ρ2 => acc = ((l.take k).filter p).map f ∧ ρ2 = wipeS ρ1 [i], ⟨rfl, rfl⟩, ?_, ?_⟩
  · rintro k d acc ρ2 hd ⟨rfl, rfl⟩
    have hk := (List.getElem?_eq_some_iff.mp hd).1
    have hm := List.mem_of_getElem? hd
    have et : l.take (k + 1) = l.take k ++ [d] := by rw [List.take_add_one, hd]; rfl
    show OPT (some (sS (wipeS ρ1 [i]) i (some d))) _
    refine (ht d hm).mono fun c ρ4 ⟨e1, e2⟩ => ?_
    subst e1 e2
    refine ite_b (fun c1 => ?_) (fun c1 => ?_)
    · refine (he d hm c1).mono fun x ρ5 ⟨e1, e2⟩ => ?_
      subst e1 e2
      refine ⟨?_, ?_, hw d⟩
      · rw [List.length_map]
        have := List.length_filter_le p (l.take k)
        rw [List.length_take] at this
        omega
      · rw [et, List.filter_append, List.map_append]
        simp [c1]
    · refine ⟨?_, hw d⟩
      rw [et, List.filter_append, List.map_append]
      simp [c1]
  · rintro acc ρ2 ⟨rfl, rfl⟩
    rw [List.take_length]
    exact q
end
end OS
namespace OS
open PySem PySem.Spec PyProof.Rows L2
def topS (i : Nat) : Stmt := (PySem.Challenge.rw_onestraight_k05_codes_rows_and_numbers.prog).main.body.getD i (.Pass ⟨0, 0, 0, 0⟩)
abbrev noTH : Str → List (Str × Int) → List Sig := fun _ _ => []
def Xl : List (Str × List Str) := [("TooLarge", ["limit"]), ("BadOrder", [])]
def Cl : List (Str × V) := [("ROW_LIMIT", .int 30)]
def x_is_order : IS := (.seq (.ite (.tst (.cmp .gt (.len (.var 0)) (.gint "ROW_LIMIT" 30))) (.seq (.rai "TooLarge" ["limit"] (.cons (.gint "ROW_LIMIT" 30) .nil))
  .nil) .nil)
  (.seq (.ret (.eq false (.sortI (.var 0)) (.rng (.wRng1 (.len (.var 0))))))
  .nil))
def c_is_order : SC := { hot := false, N := ["row"], T := [], X := Xl, C := Cl }
def s_is_order : Sig := { name := "is_order", np := 1, io := false, rm := .all, φ := runF .all false noTH c_is_order.T 1 x_is_order }
theorem ok_is_order : ∀ cn fs, okS (defScope (topS 16)) c_is_order .all false none (noTH cn fs) [] (Γ0 false 1) x_is_order (defBody (topS 16)) (nxtM x_is_order (Γ0 false 1)) = true := by
  have h : okS (defScope (topS 16)) c_is_order .all false none [] [] (Γ0 false 1) x_is_order (defBody (topS 16)) (nxtM x_is_order (Γ0 false 1)) = true := by decide +kernel
  exact fun _ _ => h
def x_check_order : IS := (.seq (.ite (.not (.tru (.call 0 (.cons (.var 0) .nil)))) (.seq (.rai "BadOrder" [] .nil)
  .nil) .nil)
  (.seq (.ret (.listOf (.var 0)))
  .nil))
def c_check_order : SC := { hot := false, N := ["row"], T := [s_is_order], X := Xl, C := Cl }
def s_check_order : Sig := { name := "check_order", np := 1, io := false, rm := .top, φ := runF .top false noTH c_check_order.T 1 x_check_order }
theorem ok_check_order : ∀ cn fs, okS (defScope (topS 17)) c_check_order .top false none (noTH cn fs) [] (Γ0 false 1) x_check_order (defBody (topS 17)) (nxtM x_check_order (Γ0 false 1)) = true := by
  have h : okS (defScope (topS 17)) c_check_order .top false none [] [] (Γ0 false 1) x_check_order (defBody (topS 17)) (nxtM x_check_order (Γ0 false 1)) = true := by decide +kernel
  exact fun _ _ => h
def x_from_listing : IS := (.seq (.asgO 1 .no (.len (.var 0)))
  (.seq (.asgO 2 .top (.rep (.lst (.cons (.int 0) .nil)) (.var 1)))
  (.seq (.fr [3] (.wRng1 (.var 1)) (.seq (.setI 2 (.idx (.var 0) (.var 3)) (.bin .sub (.bin .sub (.var 1) (.int 1)) (.var 3)))
  .nil))
  (.seq (.retM 2)
  .nil))))
def c_from_listing : SC := { hot := false, N := ["listing", "many", "row", "place"], T := [], X := Xl, C := Cl }
def s_from_listing : Sig := { name := "from_listing", np := 1, io := false, rm := .top, φ := runF .top false noTH c_from_listing.T 4 x_from_listing }
theorem ok_from_listing : ∀ cn fs, okS (defScope (topS 18)) c_from_listing .top false none (noTH cn fs) [] (Γ0 false 4) x_from_listing (defBody (topS 18)) (nxtM x_from_listing (Γ0 false 4)) = true := by
  have h : okS (defScope (topS 18)) c_from_listing .top false none [] [] (Γ0 false 4) x_from_listing (defBody (topS 18)) (nxtM x_from_listing (Γ0 false 4)) = true := by decide +kernel
  exact fun _ _ => h
def x_check_many : IS := (.seq (.ite (.tst (.cmp .lt (.var 0) (.int 0))) (.seq (.rai "BadOrder" [] .nil)
  .nil) .nil)
  (.seq (.ite (.tst (.cmp .gt (.var 0) (.gint "ROW_LIMIT" 30))) (.seq (.rai "TooLarge" ["limit"] (.cons (.gint "ROW_LIMIT" 30) .nil))
  .nil) .nil)
  .nil))
def c_check_many : SC := { hot := false, N := ["n"], T := [], X := Xl, C := Cl }
def s_check_many : Sig := { name := "check_many", np := 1, io := false, rm := .all, φ := runF .all false noTH c_check_many.T 1 x_check_many }
theorem ok_check_many : ∀ cn fs, okS (defScope (topS 20)) c_check_many .all false none (noTH cn fs) [] (Γ0 false 1) x_check_many (defBody (topS 20)) (nxtM x_check_many (Γ0 false 1)) = true := by
  have h : okS (defScope (topS 20)) c_check_many .all false none [] [] (Γ0 false 1) x_check_many (defBody (topS 20)) (nxtM x_check_many (Γ0 false 1)) = true := by decide +kernel
  exact fun _ _ => h
def x_is_code : IS := (.seq (.ite (.tst (.cmp .gt (.len (.var 0)) (.gint "ROW_LIMIT" 30))) (.seq (.rai "TooLarge" ["limit"] (.cons (.gint "ROW_LIMIT" 30) .nil))
  .nil) .nil)
  (.seq (.ret (.bi .all (.cons (.comp [1] [1] (.wRng1 (.len (.var 0))) .nil (.chn (.int 0) (.lnk .le (.idx (.var 0) (.var 1)) (.lnkE .le (.var 1))))) .nil)))
  .nil))
def c_is_code : SC := { hot := false, N := ["code", "d"], T := [], X := Xl, C := Cl }
def s_is_code : Sig := { name := "is_code", np := 1, io := false, rm := .all, φ := runF .all false noTH c_is_code.T 2 x_is_code }
theorem ok_is_code : ∀ cn fs, okS (defScope (topS 22)) c_is_code .all false none (noTH cn fs) [] (Γ0 false 2) x_is_code (defBody (topS 22)) (nxtM x_is_code (Γ0 false 2)) = true := by
  have h : okS (defScope (topS 22)) c_is_code .all false none [] [] (Γ0 false 2) x_is_code (defBody (topS 22)) (nxtM x_is_code (Γ0 false 2)) = true := by decide +kernel
  exact fun _ _ => h
def x_check_code : IS := (.seq (.ite (.not (.tru (.call 0 (.cons (.var 0) .nil)))) (.seq (.rai "BadOrder" [] .nil)
  .nil) .nil)
  .nil)
def c_check_code : SC := { hot := false, N := ["code"], T := [s_is_code], X := Xl, C := Cl }
def s_check_code : Sig := { name := "check_code", np := 1, io := false, rm := .all, φ := runF .all false noTH c_check_code.T 1 x_check_code }
theorem ok_check_code : ∀ cn fs, okS (defScope (topS 23)) c_check_code .all false none (noTH cn fs) [] (Γ0 false 1) x_check_code (defBody (topS 23)) (nxtM x_check_code (Γ0 false 1)) = true := by
  have h : okS (defScope (topS 23)) c_check_code .all false none [] [] (Γ0 false 1) x_check_code (defBody (topS 23)) (nxtM x_check_code (Γ0 false 1)) = true := by decide +kernel
  exact fun _ _ => h
def x_code_of : IS := (.seq (.ex (.call 0 (.cons (.var 0) .nil)))
  (.seq (.ret (.comp [1] [1] (.wRng1 (.len (.var 0))) .nil (.len (.comp [2] [2] (.wRng1 (.var 1)) (.cons (.tst (.cmp .gt (.idx (.var 0) (.var 2)) (.idx (.var 0) (.var 1)))) .nil) (.var 2)))))
  .nil))
def c_code_of : SC := { hot := false, N := ["row", "d", "e"], T := [s_check_order], X := Xl, C := Cl }
def s_code_of : Sig := { name := "code_of", np := 1, io := false, rm := .all, φ := runF .all false noTH c_code_of.T 3 x_code_of }
theorem ok_code_of : ∀ cn fs, okS (defScope (topS 24)) c_code_of .all false none (noTH cn fs) [] (Γ0 false 3) x_code_of (defBody (topS 24)) (nxtM x_code_of (Γ0 false 3)) = true := by
  have h : okS (defScope (topS 24)) c_code_of .all false none [] [] (Γ0 false 3) x_code_of (defBody (topS 24)) (nxtM x_code_of (Γ0 false 3)) = true := by decide +kernel
  exact fun _ _ => h
def x_from_code : IS := (.seq (.asgO 1 .top (.lst .nil))
  (.seq (.fr [2] (.wRng1 (.len (.var 0))) (.seq (.ex (.ins 1 (.idx (.var 0) (.var 2)) (.var 2)))
  .nil))
  (.seq (.frz 1)
  (.seq (.ret (.call 0 (.cons (.var 1) .nil)))
  .nil))))
def c_from_code : SC := { hot := false, N := ["code", "listing", "d"], T := [s_from_listing], X := Xl, C := Cl }
def s_from_code : Sig := { name := "from_code", np := 1, io := false, rm := .top, φ := runF .top false noTH c_from_code.T 3 x_from_code }
theorem ok_from_code : ∀ cn fs, okS (defScope (topS 25)) c_from_code .top false none (noTH cn fs) [] (Γ0 false 3) x_from_code (defBody (topS 25)) (nxtM x_from_code (Γ0 false 3)) = true := by
  have h : okS (defScope (topS 25)) c_from_code .top false none [] [] (Γ0 false 3) x_from_code (defBody (topS 25)) (nxtM x_from_code (Γ0 false 3)) = true := by decide +kernel
  exact fun _ _ => h
def x_row_of_code : IS := (.seq (.ex (.call 0 (.cons (.var 0) .nil)))
  (.seq (.ret (.call 1 (.cons (.var 0) .nil)))
  .nil))
def c_row_of_code : SC := { hot := false, N := ["code"], T := [s_check_code, s_from_code], X := Xl, C := Cl }
def s_row_of_code : Sig := { name := "row_of_code", np := 1, io := false, rm := .top, φ := runF .top false noTH c_row_of_code.T 1 x_row_of_code }
theorem ok_row_of_code : ∀ cn fs, okS (defScope (topS 26)) c_row_of_code .top false none (noTH cn fs) [] (Γ0 false 1) x_row_of_code (defBody (topS 26)) (nxtM x_row_of_code (Γ0 false 1)) = true := by
  have h : okS (defScope (topS 26)) c_row_of_code .top false none [] [] (Γ0 false 1) x_row_of_code (defBody (topS 26)) (nxtM x_row_of_code (Γ0 false 1)) = true := by decide +kernel
  exact fun _ _ => h
def x_number_of : IS := (.seq (.asgO 1 .no (.call 0 (.cons (.var 0) .nil)))
  (.seq (.asgO 2 .no (.int 0))
  (.seq (.fr [3] (.wRng1 (.len (.var 1))) (.seq (.asgO 2 .no (.bin .add (.bin .mul (.var 2) (.bin .add (.var 3) (.int 1))) (.idx (.var 1) (.var 3))))
  .nil))
  (.seq (.ret (.var 2))
  .nil))))
def c_number_of : SC := { hot := false, N := ["row", "code", "number", "d"], T := [s_code_of], X := Xl, C := Cl }
def s_number_of : Sig := { name := "number_of", np := 1, io := false, rm := .no, φ := runF .no false noTH c_number_of.T 4 x_number_of }
theorem ok_number_of : ∀ cn fs, okS (defScope (topS 27)) c_number_of .no false none (noTH cn fs) [] (Γ0 false 4) x_number_of (defBody (topS 27)) (nxtM x_number_of (Γ0 false 4)) = true := by
  have h : okS (defScope (topS 27)) c_number_of .no false none [] [] (Γ0 false 4) x_number_of (defBody (topS 27)) (nxtM x_number_of (Γ0 false 4)) = true := by decide +kernel
  exact fun _ _ => h
def x_count_rows : IS := (.seq (.asgO 1 .no (.int 1))
  (.seq (.fr [2] (.wRng1 (.var 0)) (.seq (.asgO 1 .no (.bin .mul (.var 1) (.bin .add (.var 2) (.int 1))))
  .nil))
  (.seq (.ret (.var 1))
  .nil)))
def c_count_rows : SC := { hot := false, N := ["n", "count", "d"], T := [], X := Xl, C := Cl }
def s_count_rows : Sig := { name := "count_rows", np := 1, io := false, rm := .no, φ := runF .no false noTH c_count_rows.T 3 x_count_rows }
theorem ok_count_rows : ∀ cn fs, okS (defScope (topS 28)) c_count_rows .no false none (noTH cn fs) [] (Γ0 false 3) x_count_rows (defBody (topS 28)) (nxtM x_count_rows (Γ0 false 3)) = true := by
  have h : okS (defScope (topS 28)) c_count_rows .no false none [] [] (Γ0 false 3) x_count_rows (defBody (topS 28)) (nxtM x_count_rows (Γ0 false 3)) = true := by decide +kernel
  exact fun _ _ => h
def x_code_numbered : IS := (.seq (.asgO 2 .top (.rep (.lst (.cons (.int 0) .nil)) (.var 0)))
  (.seq (.asgO 3 .no (.var 1))
  (.seq (.fr [4] (.wRng1 (.var 0)) (.seq (.asgO 5 .no (.bin .sub (.bin .sub (.var 0) (.int 1)) (.var 4)))
  (.seq (.setI 2 (.var 5) (.bin .mod (.var 3) (.bin .add (.var 5) (.int 1))))
  (.seq (.asgO 3 .no (.bin .fdiv (.var 3) (.bin .add (.var 5) (.int 1))))
  .nil))))
  (.seq (.retM 2)
  .nil))))
def c_code_numbered : SC := { hot := false, N := ["n", "number", "code", "left", "place", "d"], T := [], X := Xl, C := Cl }
def s_code_numbered : Sig := { name := "code_numbered", np := 2, io := false, rm := .top, φ := runF .top false noTH c_code_numbered.T 6 x_code_numbered }
theorem ok_code_numbered : ∀ cn fs, okS (defScope (topS 29)) c_code_numbered .top false none (noTH cn fs) [] (Γ0 false 6) x_code_numbered (defBody (topS 29)) (nxtM x_code_numbered (Γ0 false 6)) = true := by
  have h : okS (defScope (topS 29)) c_code_numbered .top false none [] [] (Γ0 false 6) x_code_numbered (defBody (topS 29)) (nxtM x_code_numbered (Γ0 false 6)) = true := by decide +kernel
  exact fun _ _ => h
def x_row_numbered : IS := (.seq (.ex (.call 0 (.cons (.var 0) .nil)))
  (.seq (.ite (.not (.tst (.chn (.int 0) (.lnk .le (.var 1) (.lnkE .lt (.call 3 (.cons (.var 0) .nil))))))) (.seq (.rai "BadOrder" [] .nil)
  .nil) .nil)
  (.seq (.ret (.call 1 (.cons (.call 2 (.cons (.var 0) (.cons (.var 1) .nil))) .nil)))
  .nil)))
def c_row_numbered : SC := { hot := false, N := ["n", "number"], T := [s_check_many, s_from_code, s_code_numbered, s_count_rows], X := Xl, C := Cl }
def s_row_numbered : Sig := { name := "row_numbered", np := 2, io := false, rm := .top, φ := runF .top false noTH c_row_numbered.T 2 x_row_numbered }
theorem ok_row_numbered : ∀ cn fs, okS (defScope (topS 30)) c_row_numbered .top false none (noTH cn fs) [] (Γ0 false 2) x_row_numbered (defBody (topS 30)) (nxtM x_row_numbered (Γ0 false 2)) = true := by
  have h : okS (defScope (topS 30)) c_row_numbered .top false none [] [] (Γ0 false 2) x_row_numbered (defBody (topS 30)) (nxtM x_row_numbered (Γ0 false 2)) = true := by decide +kernel
  exact fun _ _ => h
def x_next_row : IS := (.seq (.asgO 1 .no (.bin .add (.call 1 (.cons (.var 0) .nil)) (.int 1)))
  (.seq (.ite (.tst (.eq false (.var 1) (.call 2 (.cons (.len (.var 0)) .nil)))) (.seq (.ret .non)
  .nil) .nil)
  (.seq (.ret (.pli (.call 0 (.cons (.call 3 (.cons (.len (.var 0)) (.cons (.var 1) .nil))) .nil))))
  .nil)))
def c_next_row : SC := { hot := false, N := ["row", "number"], T := [s_from_code, s_number_of, s_count_rows, s_code_numbered], X := Xl, C := Cl }
def s_next_row : Sig := { name := "next_row", np := 1, io := false, rm := .all, φ := runF .all false noTH c_next_row.T 2 x_next_row }
theorem ok_next_row : ∀ cn fs, okS (defScope (topS 31)) c_next_row .all false none (noTH cn fs) [] (Γ0 false 2) x_next_row (defBody (topS 31)) (nxtM x_next_row (Γ0 false 2)) = true := by
  have h : okS (defScope (topS 31)) c_next_row .all false none [] [] (Γ0 false 2) x_next_row (defBody (topS 31)) (nxtM x_next_row (Γ0 false 2)) = true := by decide +kernel
  exact fun _ _ => h
def x_children_codes : IS := (.seq (.ex (.call 0 (.cons (.var 0) .nil)))
  (.seq (.asgO 1 .no (.len (.var 0)))
  (.seq (.ite (.tst (.eq false (.var 1) (.gint "ROW_LIMIT" 30))) (.seq (.rai "TooLarge" ["limit"] (.cons (.gint "ROW_LIMIT" 30) .nil))
  .nil) .nil)
  (.seq (.ret (.comp [2] [2] (.wRng1 (.bin .add (.var 1) (.int 1))) .nil (.pli (.cat (.listOf (.var 0)) (.lst (.cons (.pl (.var 2)) .nil))))))
  .nil))))
def c_children_codes : SC := { hot := false, N := ["code", "many", "more"], T := [s_check_code], X := Xl, C := Cl }
def s_children_codes : Sig := { name := "children_codes", np := 1, io := false, rm := .all, φ := runF .all false noTH c_children_codes.T 3 x_children_codes }
theorem ok_children_codes : ∀ cn fs, okS (defScope (topS 32)) c_children_codes .all false none (noTH cn fs) [] (Γ0 false 3) x_children_codes (defBody (topS 32)) (nxtM x_children_codes (Γ0 false 3)) = true := by
  have h : okS (defScope (topS 32)) c_children_codes .all false none [] [] (Γ0 false 3) x_children_codes (defBody (topS 32)) (nxtM x_children_codes (Γ0 false 3)) = true := by decide +kernel
  exact fun _ _ => h
def x_law_errorof : IS := (.seq (.asgO 1 .no (.lst (.cons (.prim 0) (.cons (.prim 1) (.cons (.prim 2) .nil)))))
  (.seq (.asgO 1 .no (.cat (.var 1) (.lst (.cons (.prim 3) (.cons (.prim 4) (.cons (.prim 5) .nil))))))
  (.seq (.asgO 1 .no (.cat (.var 1) (.lst (.cons (.prim 6) (.cons (.prim 7) (.cons (.prim 8) .nil))))))
  (.seq (.asgO 1 .no (.cat (.var 1) (.lst (.cons (.prim 9) (.cons (.prim 10) (.cons (.prim 11) .nil))))))
  (.seq (.ite (.or (.tst (.eq true (.len (.comp [2] [2] (.wSeq (.var 1)) (.cons (.tru (.var 2)) .nil) (.pl (.var 2)))) (.int 1))) (.one (.not (.tru (.prim 12))))) (.seq (.ret (.tup (.cons (.str "none") (.cons (.int 0) .nil))))
  .nil) .nil)
  (.seq (.ite (.tru (.idx (.var 1) (.int 10))) (.seq (.ret (.tup (.cons (.str "BadText") (.cons (.prim 13) (.cons (.prim 14) .nil)))))
  .nil) .nil)
  (.seq (.ite (.tru (.idx (.var 1) (.int 11))) (.seq (.ret (.tup (.cons (.str "TooLarge") (.cons (.prim 15) .nil))))
  .nil) .nil)
  (.seq (.asgO 3 .no (.lst (.cons (.str "BadCell") (.cons (.str "BadRoad") (.cons (.str "BadOrder") (.cons (.str "BadWorld") (.cons (.str "BadRule") (.cons (.str "BadLot") (.cons (.str "BadPlane") (.cons (.str "BadTree") (.cons (.str "BadScene") .nil)))))))))))
  (.seq (.ret (.tup (.cons (.pl (.idx (.cat (.var 3) (.lst (.cons (.str "NotTold") .nil))) (.index (.var 1) (.bl true)))) (.cons (.int 0) .nil))))
  .nil)))))))))
def Cs : List Str := ["BadCell", "BadRoad", "BadOrder", "BadWorld", "BadRule", "BadLot", "BadPlane", "BadTree", "BadScene", "NotTold", "BadText", "TooLarge", "ValueError"]
def Fs : List Str := ["row", "column", "limit"]
def ET : ExT := { known := fun cn fs => decide ((cn, fs.map Prod.fst) ∈ ([("TooLarge", ["limit"]), ("BadOrder", [])] : List (Str × List Str))), sub := fun cn C => decide (cn = C) || (decide (C = "ValueError") || decide (C = "StraightError")) }
def c_law_errorof : SC := { hot := false, N := ["error", "kinds", "kind", "names"], T := [], X := Xl, C := Cl }
theorem ok_law_errorof : ∀ cn fs, okS (defScope (topS 34)) { c_law_errorof with hot := true, T := tabE ET "error" Cs Fs cn fs } .all false (some 0) [] [] (sM (List.replicate 4 .no) 0 .top) x_law_errorof (defBody (topS 34)) (nxtM x_law_errorof (sM (List.replicate 4 .no) 0 .top)) = true := fun cn fs => rfl
def x_law_stir : IS := (.seq (.asgO 2 .no (.bin .mod (.bi .int (.cons (.bin .add (.bin .add (.bin .mul (.var 0) (.int 48271)) (.bin .mul (.var 1) (.int 69621))) (.int 11)) .nil)) (.int 2147483647)))
  (.seq (.asgO 3 .no (.bin .mod (.bi .int (.cons (.bin .add (.bin .add (.bin .add (.bin .mul (.var 2) (.var 2)) (.bin .mul (.var 2) (.int 16807))) (.bin .mul (.var 1) (.int 7919))) (.int 5)) .nil)) (.int 2147483629)))
  (.seq (.ret (.bin .mod (.bi .int (.cons (.bin .add (.bin .add (.bin .add (.bin .mul (.var 3) (.var 3)) (.bin .mul (.var 3) (.int 40692))) (.var 2)) (.var 1)) .nil)) (.int 2147483587)))
  .nil)))
def c_law_stir : SC := { hot := false, N := ["seed", "turn", "low", "mid"], T := [], X := Xl, C := Cl }
def s_law_stir : Sig := { name := "_law_stir", np := 2, io := false, rm := .all, φ := runF .all false noTH c_law_stir.T 4 x_law_stir }
theorem ok_law_stir : ∀ cn fs, okS (defScope (topS 35)) c_law_stir .all false none (noTH cn fs) [] (Γ0 false 4) x_law_stir (defBody (topS 35)) (nxtM x_law_stir (Γ0 false 4)) = true := by
  have h : okS (defScope (topS 35)) c_law_stir .all false none [] [] (Γ0 false 4) x_law_stir (defBody (topS 35)) (nxtM x_law_stir (Γ0 false 4)) = true := by decide +kernel
  exact fun _ _ => h
def x_law_store : IS := (.seq (.asgO 1 .top (.lst .nil))
  (.seq (.asgO 2 .no (.int 1009))
  (.seq (.fr [3] (.wSeq (.sl (.var 0) .nil (.cons (.int 63) .nil))) (.seq (.asgO 4 .no (.bi .int (.cons (.var 3) .nil)))
  (.seq (.ite (.tst (.cmp .lt (.var 4) (.int 0))) (.seq (.asgO 4 .no (.bin .sub (.int 1) (.bin .mul (.int 2) (.var 4))))
  .nil) .nil)
  (.seq (.asgO 4 .no (.bin .mod (.bi .int (.cons (.var 4) .nil)) (.bin .pow (.bin .pow (.int 10) (.int 60)) (.int 8))))
  (.seq (.ex (.app 1 (.var 4)))
  (.seq (.asgO 2 .no (.bin .mod (.bi .int (.cons (.bin .add (.bin .add (.bin .mul (.var 2) (.int 69069)) (.var 4)) (.int 12345)) .nil)) (.int 2147483647)))
  .nil))))))
  (.seq (.frz 1)
  (.seq (.ret (.lst (.cons (.var 1) (.cons (.int 0) (.cons (.int 0) (.cons (.int 0) (.cons (.var 2) .nil)))))))
  .nil)))))
def c_law_store : SC := { hot := false, N := ["script", "cells", "seed", "cell", "size"], T := [], X := Xl, C := Cl }
def s_law_store : Sig := { name := "_law_store", np := 1, io := false, rm := .top, φ := runF .top false noTH c_law_store.T 5 x_law_store }
theorem ok_law_store : ∀ cn fs, okS (defScope (topS 36)) c_law_store .top false none (noTH cn fs) [] (Γ0 false 5) x_law_store (defBody (topS 36)) (nxtM x_law_store (Γ0 false 5)) = true := by
  have h : okS (defScope (topS 36)) c_law_store .top false none [] [] (Γ0 false 5) x_law_store (defBody (topS 36)) (nxtM x_law_store (Γ0 false 5)) = true := by decide +kernel
  exact fun _ _ => h
def x_law_take : IS := (.seq (.ite (.tst (.cmp .le (.var 1) (.int 1))) (.seq (.ret (.int 0))
  .nil) .nil)
  (.seq (.setI 0 (.int 3) (.bin .add (.idxO 0 (.int 3)) (.int 1)))
  (.seq (.asgO 2 .no (.idxO 0 (.int 4)))
  (.seq (.ite (.and (.tst (.eq false (.idxO 0 (.int 2)) (.int 0))) (.one (.tst (.cmp .lt (.idxO 0 (.int 1)) (.len (.idxO 0 (.int 0))))))) (.seq (.asgO 2 .no (.idx (.idxO 0 (.int 0)) (.idxO 0 (.int 1))))
  (.seq (.setI 0 (.int 1) (.bin .add (.idxO 0 (.int 1)) (.int 1)))
  (.seq (.ite (.tst (.cmp .ge (.var 2) (.bin .pow (.int 10) (.int 18)))) (.seq (.setI 0 (.int 2) (.var 2))
  .nil) .nil)
  .nil))) .nil)
  (.seq (.ite (.tst (.cmp .gt (.idxO 0 (.int 2)) (.int 0))) (.seq (.asgO 3 .no (.idxO 0 (.int 2)))
  (.seq (.setI 0 (.int 2) (.bin .fdiv (.bi .int (.cons (.var 3) .nil)) (.var 1)))
  (.seq (.ret (.bin .mod (.bi .int (.cons (.var 3) .nil)) (.var 1)))
  .nil))) .nil)
  (.seq (.ret (.bin .mod (.bi .int (.cons (.call 0 (.cons (.bin .add (.var 2) (.idxO 0 (.int 4))) (.cons (.idxO 0 (.int 3)) .nil))) .nil)) (.var 1)))
  .nil))))))
def c_law_take : SC := { hot := false, N := ["store", "many", "cell", "rest"], T := [s_law_stir], X := Xl, C := Cl }
def s_law_take : Sig := { name := "_law_take", np := 2, io := true, rm := .all, φ := runF .all true noTH c_law_take.T 4 x_law_take }
theorem ok_law_take : ∀ cn fs, okS (defScope (topS 37)) c_law_take .all true (some 0) (noTH cn fs) [] (Γ0 true 4) x_law_take (defBody (topS 37)) (nxtM x_law_take (Γ0 true 4)) = true := by
  have h : okS (defScope (topS 37)) c_law_take .all true (some 0) [] [] (Γ0 true 4) x_law_take (defBody (topS 37)) (nxtM x_law_take (Γ0 true 4)) = true := by decide +kernel
  exact fun _ _ => h
def x_law_pick : IS := (.seq (.ret (.idx (.var 1) (.callIo 0 0 (.cons (.len (.var 1)) .nil))))
  .nil)
def c_law_pick : SC := { hot := false, N := ["store", "items"], T := [s_law_take], X := Xl, C := Cl }
def s_law_pick : Sig := { name := "_law_pick", np := 2, io := true, rm := .no, φ := runF .no true noTH c_law_pick.T 2 x_law_pick }
theorem ok_law_pick : ∀ cn fs, okS (defScope (topS 38)) c_law_pick .no true (some 0) (noTH cn fs) [] (Γ0 true 2) x_law_pick (defBody (topS 38)) (nxtM x_law_pick (Γ0 true 2)) = true := by
  have h : okS (defScope (topS 38)) c_law_pick .no true (some 0) [] [] (Γ0 true 2) x_law_pick (defBody (topS 38)) (nxtM x_law_pick (Γ0 true 2)) = true := by decide +kernel
  exact fun _ _ => h
def x_law_near : IS := (.seq (.ite (.tst (.cmp .le (.var 2) (.var 1))) (.seq (.ret (.var 1))
  .nil) .nil)
  (.seq (.asgO 3 .no (.callIo 0 0 (.cons (.int 6) .nil)))
  (.seq (.ite (.tst (.eq false (.var 3) (.int 0))) (.seq (.ret (.var 1))
  .nil) .nil)
  (.seq (.ite (.tst (.eq false (.var 3) (.int 1))) (.seq (.ret (.var 2))
  .nil) .nil)
  (.seq (.ret (.bin .add (.var 1) (.callIo 0 0 (.cons (.bin .add (.bin .sub (.var 2) (.var 1)) (.int 1)) .nil))))
  .nil)))))
def c_law_near : SC := { hot := false, N := ["store", "low", "high", "kind"], T := [s_law_take], X := Xl, C := Cl }
def s_law_near : Sig := { name := "_law_near", np := 3, io := true, rm := .no, φ := runF .no true noTH c_law_near.T 4 x_law_near }
theorem ok_law_near : ∀ cn fs, okS (defScope (topS 39)) c_law_near .no true (some 0) (noTH cn fs) [] (Γ0 true 4) x_law_near (defBody (topS 39)) (nxtM x_law_near (Γ0 true 4)) = true := by
  have h : okS (defScope (topS 39)) c_law_near .no true (some 0) [] [] (Γ0 true 4) x_law_near (defBody (topS 39)) (nxtM x_law_near (Γ0 true 4)) = true := by decide +kernel
  exact fun _ _ => h
def x_law_order : IS := (.seq (.asgO 2 .top (.listOf (.var 1)))
  (.seq (.asgO 3 .top (.lst .nil))
  (.seq (.fr [4] (.wRng1 (.len (.var 1))) (.seq (.ex (.app 3 (.popAt 2 (.callIo 0 0 (.cons (.lenO 2) .nil)))))
  .nil))
  (.seq (.retM 3)
  .nil))))
def c_law_order : SC := { hot := false, N := ["store", "items", "left", "made", "turn"], T := [s_law_take], X := Xl, C := Cl }
def s_law_order : Sig := { name := "_law_order", np := 2, io := true, rm := .top, φ := runF .top true noTH c_law_order.T 5 x_law_order }
theorem ok_law_order : ∀ cn fs, okS (defScope (topS 40)) c_law_order .top true (some 0) (noTH cn fs) [] (Γ0 true 5) x_law_order (defBody (topS 40)) (nxtM x_law_order (Γ0 true 5)) = true := by
  have h : okS (defScope (topS 40)) c_law_order .top true (some 0) [] [] (Γ0 true 5) x_law_order (defBody (topS 40)) (nxtM x_law_order (Γ0 true 5)) = true := by decide +kernel
  exact fun _ _ => h
def x_law_length : IS := (.seq (.asgO 2 .no (.callIo 0 0 (.cons (.int 9) .nil)))
  (.seq (.ite (.tst (.cmp .lt (.var 2) (.int 2))) (.seq (.ret (.bi .min2 (.cons (.var 2) (.cons (.var 1) .nil))))
  .nil) .nil)
  (.seq (.ite (.tst (.eq false (.var 2) (.int 2))) (.seq (.ret (.var 1))
  .nil) .nil)
  (.seq (.ret (.bi .min2 (.cons (.var 1) (.cons (.bin .add (.int 2) (.callIo 0 0 (.cons (.int 4) .nil))) .nil))))
  .nil))))
def c_law_length : SC := { hot := false, N := ["store", "most", "kind"], T := [s_law_take], X := Xl, C := Cl }
def s_law_length : Sig := { name := "_law_length", np := 2, io := true, rm := .no, φ := runF .no true noTH c_law_length.T 3 x_law_length }
theorem ok_law_length : ∀ cn fs, okS (defScope (topS 41)) c_law_length .no true (some 0) (noTH cn fs) [] (Γ0 true 3) x_law_length (defBody (topS 41)) (nxtM x_law_length (Γ0 true 3)) = true := by
  have h : okS (defScope (topS 41)) c_law_length .no true (some 0) [] [] (Γ0 true 3) x_law_length (defBody (topS 41)) (nxtM x_law_length (Γ0 true 3)) = true := by decide +kernel
  exact fun _ _ => h
def x_law_row : IS := (.seq (.asgO 2 .no (.callIo 0 0 (.cons (.int 9) .nil)))
  (.seq (.asgO 3 .top (.rng (.wRng1 (.var 1))))
  (.seq (.ite (.tst (.eq false (.var 2) (.int 0))) (.seq (.retM 3)
  .nil) .nil)
  (.seq (.ite (.tst (.eq false (.var 2) (.int 1))) (.seq (.ret (.comp [4] [4] (.wRng1 (.var 1)) .nil (.bin .sub (.bin .sub (.var 1) (.int 1)) (.var 4))))
  .nil) .nil)
  (.seq (.ite (.and (.tst (.eq false (.var 2) (.int 2))) (.one (.tst (.cmp .gt (.var 1) (.int 1))))) (.seq (.asgO 5 .no (.callIo 0 0 (.cons (.bin .sub (.var 1) (.int 1)) .nil)))
  (.seq (.swp 3 (.var 5) (.bin .add (.var 5) (.int 1)) (.idxO 3 (.bin .add (.var 5) (.int 1))) (.idxO 3 (.var 5)))
  (.seq (.retM 3)
  .nil))) .nil)
  (.seq (.frz 3)
  (.seq (.ret (.callIo 1 0 (.cons (.var 3) .nil)))
  .nil)))))))
def c_law_row : SC := { hot := false, N := ["store", "n", "kind", "row", "d", "j"], T := [s_law_take, s_law_order], X := Xl, C := Cl }
def s_law_row : Sig := { name := "_law_row", np := 2, io := true, rm := .top, φ := runF .top true noTH c_law_row.T 6 x_law_row }
theorem ok_law_row : ∀ cn fs, okS (defScope (topS 42)) c_law_row .top true (some 0) (noTH cn fs) [] (Γ0 true 6) x_law_row (defBody (topS 42)) (nxtM x_law_row (Γ0 true 6)) = true := by
  have h : okS (defScope (topS 42)) c_law_row .top true (some 0) [] [] (Γ0 true 6) x_law_row (defBody (topS 42)) (nxtM x_law_row (Γ0 true 6)) = true := by decide +kernel
  exact fun _ _ => h
def x_law_badrow : IS := (.seq (.asgO 3 .no (.callIo 0 0 (.cons (.int 6) .nil)))
  (.seq (.ite (.tst (.eq false (.var 3) (.int 0))) (.seq (.ret (.tup (.cons (.callIo 1 0 (.cons (.bin .add (.var 2) (.int 1)) .nil)) (.cons (.tup (.cons (.str "TooLarge") (.cons (.var 2) .nil))) .nil))))
  .nil) .nil)
  (.seq (.asgO 4 .top (.callIo 1 0 (.cons (.bi .max2 (.cons (.int 1) (.cons (.bi .min2 (.cons (.var 1) (.cons (.var 2) .nil))) .nil))) .nil)))
  (.seq (.asgO 5 .no (.callIo 0 0 (.cons (.lenO 4) .nil)))
  (.seq (.ite (.and (.tst (.eq false (.var 3) (.int 1))) (.one (.tst (.cmp .gt (.lenO 4) (.int 1))))) (.seq (.setI 4 (.var 5) (.idxO 4 (.bin .mod (.bi .int (.cons (.bin .add (.bin .add (.var 5) (.int 1)) (.callIo 0 0 (.cons (.bin .sub (.lenO 4) (.int 1)) .nil))) .nil)) (.lenO 4))))
  .nil) (.seq (.ite (.tst (.eq false (.var 3) (.int 2))) (.seq (.setI 4 (.var 5) (.bin .sub (.bin .sub (.int 0) (.int 1)) (.callIo 0 0 (.cons (.int 2) .nil))))
  .nil) (.seq (.ite (.tst (.eq false (.var 3) (.int 3))) (.seq (.setI 4 (.var 5) (.bin .pow (.int 10) (.int 30)))
  .nil) (.seq (.setI 4 (.var 5) (.lenO 4))
  .nil))
  .nil))
  .nil))
  (.seq (.frz 4)
  (.seq (.ret (.tup (.cons (.var 4) (.cons (.tup (.cons (.str "BadOrder") (.cons (.int 0) .nil))) .nil))))
  .nil)))))))
def c_law_badrow : SC := { hot := false, N := ["store", "n", "limit", "kind", "row", "place"], T := [s_law_take, s_law_row], X := Xl, C := Cl }
def s_law_badrow : Sig := { name := "_law_badrow", np := 3, io := true, rm := .no, φ := runF .no true noTH c_law_badrow.T 6 x_law_badrow }
theorem ok_law_badrow : ∀ cn fs, okS (defScope (topS 43)) c_law_badrow .no true (some 0) (noTH cn fs) [] (Γ0 true 6) x_law_badrow (defBody (topS 43)) (nxtM x_law_badrow (Γ0 true 6)) = true := by
  have h : okS (defScope (topS 43)) c_law_badrow .no true (some 0) [] [] (Γ0 true 6) x_law_badrow (defBody (topS 43)) (nxtM x_law_badrow (Γ0 true 6)) = true := by decide +kernel
  exact fun _ _ => h
def x_law_rowof : IS := (.seq (.asgO 1 .top (.rep (.lst (.cons (.int 0) .nil)) (.len (.var 0))))
  (.seq (.fr [2] (.wRng1 (.len (.var 0))) (.seq (.setI 1 (.idx (.var 0) (.var 2)) (.bin .sub (.bin .sub (.len (.var 0)) (.int 1)) (.var 2)))
  .nil))
  (.seq (.retM 1)
  .nil)))
def c_law_rowof : SC := { hot := false, N := ["listing", "row", "place"], T := [], X := Xl, C := Cl }
def s_law_rowof : Sig := { name := "_law_rowof", np := 1, io := false, rm := .top, φ := runF .top false noTH c_law_rowof.T 3 x_law_rowof }
theorem ok_law_rowof : ∀ cn fs, okS (defScope (topS 44)) c_law_rowof .top false none (noTH cn fs) [] (Γ0 false 3) x_law_rowof (defBody (topS 44)) (nxtM x_law_rowof (Γ0 false 3)) = true := by
  have h : okS (defScope (topS 44)) c_law_rowof .top false none [] [] (Γ0 false 3) x_law_rowof (defBody (topS 44)) (nxtM x_law_rowof (Γ0 false 3)) = true := by decide +kernel
  exact fun _ _ => h
def x_law_code : IS := (.seq (.ret (.comp [2] [2] (.wRng1 (.var 1)) .nil (.callIo 0 0 (.cons (.int 0) (.cons (.var 2) .nil)))))
  .nil)
def c_law_code : SC := { hot := false, N := ["store", "n", "d"], T := [s_law_near], X := Xl, C := Cl }
def s_law_code : Sig := { name := "_law_code", np := 2, io := true, rm := .top, φ := runF .top true noTH c_law_code.T 3 x_law_code }
theorem ok_law_code : ∀ cn fs, okS (defScope (topS 45)) c_law_code .top true (some 0) (noTH cn fs) [] (Γ0 true 3) x_law_code (defBody (topS 45)) (nxtM x_law_code (Γ0 true 3)) = true := by
  have h : okS (defScope (topS 45)) c_law_code .top true (some 0) [] [] (Γ0 true 3) x_law_code (defBody (topS 45)) (nxtM x_law_code (Γ0 true 3)) = true := by decide +kernel
  exact fun _ _ => h
def x_law_rowofcode : IS := (.seq (.asgO 1 .top (.lst .nil))
  (.seq (.fr [2] (.wRng1 (.len (.var 0))) (.seq (.ex (.ins 1 (.idx (.var 0) (.var 2)) (.var 2)))
  .nil))
  (.seq (.frz 1)
  (.seq (.ret (.call 0 (.cons (.var 1) .nil)))
  .nil))))
def c_law_rowofcode : SC := { hot := false, N := ["code", "listing", "d"], T := [s_law_rowof], X := Xl, C := Cl }
def s_law_rowofcode : Sig := { name := "_law_rowofcode", np := 1, io := false, rm := .top, φ := runF .top false noTH c_law_rowofcode.T 3 x_law_rowofcode }
theorem ok_law_rowofcode : ∀ cn fs, okS (defScope (topS 46)) c_law_rowofcode .top false none (noTH cn fs) [] (Γ0 false 3) x_law_rowofcode (defBody (topS 46)) (nxtM x_law_rowofcode (Γ0 false 3)) = true := by
  have h : okS (defScope (topS 46)) c_law_rowofcode .top false none [] [] (Γ0 false 3) x_law_rowofcode (defBody (topS 46)) (nxtM x_law_rowofcode (Γ0 false 3)) = true := by decide +kernel
  exact fun _ _ => h
def x_law_badcode : IS := (.seq (.asgO 3 .no (.callIo 0 0 (.cons (.int 4) .nil)))
  (.seq (.ite (.tst (.eq false (.var 3) (.int 0))) (.seq (.ret (.tup (.cons (.callIo 1 0 (.cons (.bin .add (.var 2) (.int 1)) .nil)) (.cons (.tup (.cons (.str "TooLarge") (.cons (.var 2) .nil))) .nil))))
  .nil) .nil)
  (.seq (.asgO 4 .top (.callIo 1 0 (.cons (.bi .max2 (.cons (.int 1) (.cons (.bi .min2 (.cons (.var 1) (.cons (.var 2) .nil))) .nil))) .nil)))
  (.seq (.asgO 5 .no (.callIo 0 0 (.cons (.lenO 4) .nil)))
  (.seq (.ite (.tst (.eq false (.var 3) (.int 1))) (.seq (.setI 4 (.var 5) (.bin .sub (.int 0) (.int 1)))
  .nil) (.seq (.setI 4 (.var 5) (.callIo 2 0 (.cons (.lst (.cons (.bin .add (.var 5) (.int 1)) (.cons (.bin .add (.var 5) (.int 2)) (.cons (.bin .pow (.int 10) (.int 30)) .nil)))) .nil)))
  .nil))
  (.seq (.frz 4)
  (.seq (.ret (.tup (.cons (.var 4) (.cons (.tup (.cons (.str "BadOrder") (.cons (.int 0) .nil))) .nil))))
  .nil)))))))
def c_law_badcode : SC := { hot := false, N := ["store", "n", "limit", "kind", "code", "place"], T := [s_law_take, s_law_code, s_law_pick], X := Xl, C := Cl }
def s_law_badcode : Sig := { name := "_law_badcode", np := 3, io := true, rm := .no, φ := runF .no true noTH c_law_badcode.T 6 x_law_badcode }
theorem ok_law_badcode : ∀ cn fs, okS (defScope (topS 47)) c_law_badcode .no true (some 0) (noTH cn fs) [] (Γ0 true 6) x_law_badcode (defBody (topS 47)) (nxtM x_law_badcode (Γ0 true 6)) = true := by
  have h : okS (defScope (topS 47)) c_law_badcode .no true (some 0) [] [] (Γ0 true 6) x_law_badcode (defBody (topS 47)) (nxtM x_law_badcode (Γ0 true 6)) = true := by decide +kernel
  exact fun _ _ => h
def x_law_badn : IS := (.seq (.asgO 2 .no (.callIo 0 0 (.cons (.int 3) .nil)))
  (.seq (.ite (.tst (.eq false (.var 2) (.int 0))) (.seq (.ret (.tup (.cons (.bin .sub (.bin .sub (.int 0) (.int 1)) (.callIo 0 0 (.cons (.int 3) .nil))) (.cons (.tup (.cons (.str "BadOrder") (.cons (.int 0) .nil))) .nil))))
  .nil) .nil)
  (.seq (.ite (.tst (.eq false (.var 2) (.int 1))) (.seq (.ret (.tup (.cons (.bin .add (.bin .add (.var 1) (.int 1)) (.callIo 0 0 (.cons (.int 3) .nil))) (.cons (.tup (.cons (.str "TooLarge") (.cons (.var 1) .nil))) .nil))))
  .nil) .nil)
  (.seq (.ret (.tup (.cons (.bin .pow (.int 10) (.int 30)) (.cons (.tup (.cons (.str "TooLarge") (.cons (.var 1) .nil))) .nil))))
  .nil))))
def c_law_badn : SC := { hot := false, N := ["store", "limit", "kind"], T := [s_law_take], X := Xl, C := Cl }
def s_law_badn : Sig := { name := "_law_badn", np := 2, io := true, rm := .no, φ := runF .no true noTH c_law_badn.T 3 x_law_badn }
theorem ok_law_badn : ∀ cn fs, okS (defScope (topS 48)) c_law_badn .no true (some 0) (noTH cn fs) [] (Γ0 true 3) x_law_badn (defBody (topS 48)) (nxtM x_law_badn (Γ0 true 3)) = true := by
  have h : okS (defScope (topS 48)) c_law_badn .no true (some 0) [] [] (Γ0 true 3) x_law_badn (defBody (topS 48)) (nxtM x_law_badn (Γ0 true 3)) = true := by decide +kernel
  exact fun _ _ => h
def x_law_same : IS := (.seq (.asgO 2 .top (.lst (.cons (.tup (.cons (.var 0) (.cons (.var 1) .nil))) .nil)))
  (.seq (.fr [3] (.wRng1 (.int 200000)) (.seq (.ite (.tst (.eq false (.lenO 2) (.int 0))) (.seq (.ret (.bl true))
  .nil) .nil)
  (.seq (.asg [4, 5] (.popL 2))
  (.seq (.ite (.or (.tst (.isN false (.var 5))) (.one (.tst (.isN false (.var 4))))) (.seq (.ite (.or (.tst (.isN true (.var 5))) (.one (.tst (.isN true (.var 4))))) (.seq (.ret (.bl false))
  .nil) .nil)
  .nil) (.seq (.ite (.or (.tru (.isi .bool (.var 5))) (.one (.tru (.isi .bool (.var 4))))) (.seq (.ite (.or (.not (.tru (.isi .bool (.var 5)))) (.or (.not (.tru (.isi .bool (.var 4)))) (.one (.tst (.eq true (.var 4) (.var 5)))))) (.seq (.ret (.bl false))
  .nil) .nil)
  .nil) (.seq (.ite (.or (.tru (.isi .list (.var 5))) (.one (.tru (.isi .tuple (.var 5))))) (.seq (.ite (.and (.tru (.isi .list (.var 5))) (.one (.not (.tru (.isi .list (.var 4)))))) (.seq (.ret (.bl false))
  .nil) .nil)
  (.seq (.ite (.and (.tru (.isi .tuple (.var 5))) (.one (.not (.tru (.isi .tuple (.var 4)))))) (.seq (.ret (.bl false))
  .nil) .nil)
  (.seq (.ite (.tst (.eq true (.len (.var 4)) (.len (.var 5)))) (.seq (.ret (.bl false))
  .nil) .nil)
  (.seq (.fr [6] (.wRng1 (.len (.var 5))) (.seq (.ex (.app 2 (.tup (.cons (.idx (.var 4) (.var 6)) (.cons (.idx (.var 5) (.var 6)) .nil)))))
  .nil))
  .nil)))) (.seq (.ite (.tru (.isi .int (.var 5))) (.seq (.ite (.or (.not (.tru (.isi .int (.var 4)))) (.one (.tst (.eq true (.var 4) (.var 5))))) (.seq (.ret (.bl false))
  .nil) .nil)
  .nil) (.seq (.ite (.tru (.isi .str (.var 5))) (.seq (.ite (.or (.not (.tru (.isi .str (.var 4)))) (.one (.tst (.eq true (.var 4) (.var 5))))) (.seq (.ret (.bl false))
  .nil) .nil)
  .nil) (.seq (.ret (.bl false))
  .nil))
  .nil))
  .nil))
  .nil))
  .nil))
  .nil))))
  (.seq (.ret (.bl false))
  .nil)))
def c_law_same : SC := { hot := false, N := ["one", "two", "left", "turn", "seen", "due", "k"], T := [], X := Xl, C := Cl }
def s_law_same : Sig := { name := "_law_same", np := 2, io := false, rm := .all, φ := runF .all false noTH c_law_same.T 7 x_law_same }
theorem ok_law_same : ∀ cn fs, okS (defScope (topS 49)) c_law_same .all false none (noTH cn fs) [] (Γ0 false 7) x_law_same (defBody (topS 49)) (nxtM x_law_same (Γ0 false 7)) = true := by
  have h : okS (defScope (topS 49)) c_law_same .all false none [] [] (Γ0 false 7) x_law_same (defBody (topS 49)) (nxtM x_law_same (Γ0 false 7)) = true := by decide +kernel
  exact fun _ _ => h
def th_law_ask : Str → List (Str × Int) → List Sig := fun cn fs => tabE ET "e" Cs Fs cn fs ++ [sgAp "e" "_law_errorof" .all (valE (tabE ET "error" Cs Fs) .all 4 x_law_errorof cn fs)]
def x_law_ask : IS := (.seq (.tryR 4 (.seq (.ite (.tst (.eq false (.var 0) (.str "is_code"))) (.seq (.ret (.tup (.cons (.str "told") (.cons (.call 1 (.cons (.var 1) .nil)) .nil))))
  .nil) .nil)
  (.seq (.ite (.tst (.eq false (.var 0) (.str "code_of"))) (.seq (.ret (.tup (.cons (.str "told") (.cons (.call 2 (.cons (.var 1) .nil)) .nil))))
  .nil) .nil)
  (.seq (.ite (.tst (.eq false (.var 0) (.str "row_of_code"))) (.seq (.ret (.tup (.cons (.str "told") (.cons (.pli (.call 3 (.cons (.var 1) .nil))) .nil))))
  .nil) .nil)
  (.seq (.ite (.tst (.eq false (.var 0) (.str "number_of"))) (.seq (.ret (.tup (.cons (.str "told") (.cons (.pl (.call 4 (.cons (.var 1) .nil))) .nil))))
  .nil) .nil)
  (.seq (.ite (.tst (.eq false (.var 0) (.str "row_numbered"))) (.seq (.ret (.tup (.cons (.str "told") (.cons (.pli (.call 5 (.cons (.var 1) (.cons (.var 2) .nil)))) .nil))))
  .nil) .nil)
  (.seq (.ite (.tst (.eq false (.var 0) (.str "next_row"))) (.seq (.ret (.tup (.cons (.str "told") (.cons (.call 6 (.cons (.var 1) .nil)) .nil))))
  .nil) .nil)
  (.seq (.ret (.tup (.cons (.str "told") (.cons (.call 0 (.cons (.var 1) .nil)) .nil))))
  .nil))))))) (.seq (.ret (.tup (.cons (.str "refused") (.cons (.prim 16) .nil))))
  .nil))
  .nil)
def c_law_ask : SC := { hot := false, N := ["what", "one", "two", "e"], T := [s_children_codes, s_is_code, s_code_of, s_row_of_code, s_number_of, s_row_numbered, s_next_row], X := Xl, C := Cl }
def s_law_ask : Sig := { name := "_law_ask", np := 3, io := false, rm := .all, φ := runF .all false th_law_ask c_law_ask.T 4 x_law_ask }
theorem ok_law_ask : ∀ cn fs, okS (defScope (topS 50)) c_law_ask .all false none (th_law_ask cn fs) [] (Γ0 false 4) x_law_ask (defBody (topS 50)) (nxtM x_law_ask (Γ0 false 4)) = true := fun cn fs => rfl
def x_law_holds : IS := (.seq (.fr [4] (.wRng1 (.int 2)) (.seq (.asgO 5 .no (.var 1))
  (.seq (.ite (.tru (.isi .list (.var 1))) (.seq (.asgO 5 .all (.pli (.listOf (.var 1))))
  .nil) (.seq (.thaw 5)
  .nil))
  (.seq (.asgO 6 .all (.borA (.call 0 (.cons (.var 0) (.cons (.var 5) (.cons (.var 2) .nil))))))
  (.seq (.ite (.or (.not (.borT (.tru (.call 1 (.cons (.var 6) (.cons (.var 3) .nil)))))) (.one (.borT (.tst (.eq true (.var 5) (.var 1)))))) (.seq (.ret (.bl false))
  .nil) .nil)
  (.seq (.ite (.and (.borT (.tst (.eq false (.idx (.var 6) (.int 0)) (.str "told")))) (.one (.borT (.tru (.isi .list (.idx (.var 6) (.int 1))))))) (.seq (.mv 7 .all 6 1)
  (.seq (.ite (.and (.borT (.tst (.cmp .gt (.len (.var 7)) (.int 0)))) (.one (.borT (.tru (.isi .list (.idx (.var 7) (.int 0))))))) (.seq (.inn2 8 7 (0) (9))
  .nil) .nil)
  (.seq (.ex (.ins 7 (.int 0) (.int 77)))
  (.seq (.ite (.borT (.tst (.eq true (.var 5) (.var 1)))) (.seq (.ret (.bl false))
  .nil) .nil)
  (.seq (.frz 7)
  .nil))))) (.seq (.frz 6)
  .nil))
  (.seq (.ite (.tru (.isi .list (.var 1))) (.seq (.ex (.ins 5 (.int 0) (.int 1)))
  .nil) .nil)
  (.seq (.frz 5)
  .nil))))))))
  (.seq (.ret (.bl true))
  .nil))
def c_law_holds : SC := { hot := false, N := ["what", "one", "two", "due", "turn", "passed", "answer", "told", "inner"], T := [s_law_ask, s_law_same], X := Xl, C := Cl }
def s_law_holds : Sig := { name := "_law_holds", np := 4, io := false, rm := .all, φ := runF .all false noTH c_law_holds.T 9 x_law_holds }
theorem ok_law_holds : ∀ cn fs, okS (defScope (topS 51)) c_law_holds .all false none (noTH cn fs) [] (Γ0 false 9) x_law_holds (defBody (topS 51)) (nxtM x_law_holds (Γ0 false 9)) = true := by
  have h : okS (defScope (topS 51)) c_law_holds .all false none [] [] (Γ0 false 9) x_law_holds (defBody (topS 51)) (nxtM x_law_holds (Γ0 false 9)) = true := by decide +kernel
  exact fun _ _ => h
def x_law_numberof : IS := (.seq (.asgO 1 .no (.int 0))
  (.seq (.asgO 2 .no (.int 1))
  (.seq (.fr [3] (.wRv1 (.len (.var 0))) (.seq (.asgO 1 .no (.bin .add (.var 1) (.bin .mul (.idx (.var 0) (.var 3)) (.var 2))))
  (.seq (.asgO 2 .no (.bin .mul (.var 2) (.bin .add (.var 3) (.int 1))))
  .nil)))
  (.seq (.ret (.var 1))
  .nil))))
def c_law_numberof : SC := { hot := false, N := ["code", "total", "weight", "d"], T := [], X := Xl, C := Cl }
def s_law_numberof : Sig := { name := "_law_numberof", np := 1, io := false, rm := .no, φ := runF .no false noTH c_law_numberof.T 4 x_law_numberof }
theorem ok_law_numberof : ∀ cn fs, okS (defScope (topS 52)) c_law_numberof .no false none (noTH cn fs) [] (Γ0 false 4) x_law_numberof (defBody (topS 52)) (nxtM x_law_numberof (Γ0 false 4)) = true := by
  have h : okS (defScope (topS 52)) c_law_numberof .no false none [] [] (Γ0 false 4) x_law_numberof (defBody (topS 52)) (nxtM x_law_numberof (Γ0 false 4)) = true := by decide +kernel
  exact fun _ _ => h
def x_law_after : IS := (.seq (.asgO 1 .top (.listOf (.var 0)))
  (.seq (.fr [2] (.wRv1 (.lenO 1)) (.seq (.ite (.tst (.cmp .lt (.idxO 1 (.var 2)) (.var 2))) (.seq (.setI 1 (.var 2) (.bin .add (.idxO 1 (.var 2)) (.int 1)))
  (.seq (.retM 1)
  .nil)) .nil)
  (.seq (.setI 1 (.var 2) (.int 0))
  .nil)))
  (.seq (.ret .non)
  .nil)))
def c_law_after : SC := { hot := false, N := ["code", "made", "d"], T := [], X := Xl, C := Cl }
def s_law_after : Sig := { name := "_law_after", np := 1, io := false, rm := .no, φ := runF .no false noTH c_law_after.T 3 x_law_after }
theorem ok_law_after : ∀ cn fs, okS (defScope (topS 53)) c_law_after .no false none (noTH cn fs) [] (Γ0 false 3) x_law_after (defBody (topS 53)) (nxtM x_law_after (Γ0 false 3)) = true := by
  have h : okS (defScope (topS 53)) c_law_after .no false none [] [] (Γ0 false 3) x_law_after (defBody (topS 53)) (nxtM x_law_after (Γ0 false 3)) = true := by decide +kernel
  exact fun _ _ => h
def x_law_right : IS := (.seq (.asgO 1 .no (.len (.var 0)))
  (.seq (.asgO 2 .no (.call 0 (.cons (.var 0) .nil)))
  (.seq (.asgO 3 .no (.call 1 (.cons (.var 0) .nil)))
  (.seq (.asgO 4 .no (.call 2 (.cons (.var 0) .nil)))
  (.seq (.ite (.tst (.isN true (.var 4))) (.seq (.asgO 4 .no (.call 0 (.cons (.var 4) .nil)))
  .nil) .nil)
  (.seq (.asgO 5 .no (.tup (.cons (.str "told") (.cons (.comp [6] [6] (.wRng1 (.bin .add (.var 1) (.int 1))) .nil (.cat (.var 0) (.lst (.cons (.var 6) .nil)))) .nil))))
  (.seq (.ite (.tst (.eq false (.var 1) (.int 30))) (.seq (.asgO 5 .no (.tup (.cons (.str "refused") (.cons (.tup (.cons (.str "TooLarge") (.cons (.int 30) .nil))) .nil))))
  .nil) .nil)
  (.seq (.asgO 7 .top (.lst (.cons (.tup (.cons (.str "is_code") (.cons (.var 0) (.cons (.int 0) (.cons (.tup (.cons (.str "told") (.cons (.bl true) .nil))) .nil))))) (.cons (.tup (.cons (.str "row_of_code") (.cons (.var 0) (.cons (.int 0) (.cons (.tup (.cons (.str "told") (.cons (.var 2) .nil))) .nil))))) .nil))))
  (.seq (.frz 7)
  (.seq (.asgO 7 .top (.cat (.var 7) (.lst (.cons (.tup (.cons (.str "code_of") (.cons (.var 2) (.cons (.int 0) (.cons (.tup (.cons (.str "told") (.cons (.var 0) .nil))) .nil))))) (.cons (.tup (.cons (.str "number_of") (.cons (.var 2) (.cons (.int 0) (.cons (.tup (.cons (.str "told") (.cons (.var 3) .nil))) .nil))))) .nil)))))
  (.seq (.frz 7)
  (.seq (.asgO 7 .top (.cat (.var 7) (.lst (.cons (.tup (.cons (.str "row_numbered") (.cons (.var 1) (.cons (.var 3) (.cons (.tup (.cons (.str "told") (.cons (.var 2) .nil))) .nil))))) (.cons (.tup (.cons (.str "next_row") (.cons (.var 2) (.cons (.int 0) (.cons (.tup (.cons (.str "told") (.cons (.var 4) .nil))) .nil))))) .nil)))))
  (.seq (.ex (.app 7 (.tup (.cons (.str "children_codes") (.cons (.var 0) (.cons (.int 0) (.cons (.var 5) .nil)))))))
  (.seq (.frz 7)
  (.seq (.fr [8, 9, 10, 11] (.wSeq (.var 7)) (.seq (.ite (.not (.tru (.call 3 (.cons (.var 8) (.cons (.var 9) (.cons (.var 10) (.cons (.var 11) .nil))))))) (.seq (.ret (.bl false))
  .nil) .nil)
  .nil))
  (.seq (.ret (.bl true))
  .nil))))))))))))))))
def c_law_right : SC := { hot := false, N := ["code", "n", "row", "number", "behind", "more", "last", "asks", "what", "one", "two", "due"], T := [s_law_rowofcode, s_law_numberof, s_law_after, s_law_holds], X := Xl, C := Cl }
def s_law_right : Sig := { name := "_law_right", np := 1, io := false, rm := .all, φ := runF .all false noTH c_law_right.T 12 x_law_right }
theorem ok_law_right : ∀ cn fs, okS (defScope (topS 54)) c_law_right .all false none (noTH cn fs) [] (Γ0 false 12) x_law_right (defBody (topS 54)) (nxtM x_law_right (Γ0 false 12)) = true := by
  have h : okS (defScope (topS 54)) c_law_right .all false none [] [] (Γ0 false 12) x_law_right (defBody (topS 54)) (nxtM x_law_right (Γ0 false 12)) = true := by decide +kernel
  exact fun _ _ => h
def x_law_codeofnumber : IS := (.seq (.asgO 2 .top (.lst .nil))
  (.seq (.asgO 3 .no (.var 1))
  (.seq (.fr [4] (.wRv2 (.int 1) (.bin .add (.var 0) (.int 1))) (.seq (.ex (.ins 2 (.int 0) (.bin .mod (.bi .int (.cons (.var 3) .nil)) (.var 4))))
  (.seq (.asgO 3 .no (.bin .fdiv (.var 3) (.var 4)))
  .nil)))
  (.seq (.retM 2)
  .nil))))
def c_law_codeofnumber : SC := { hot := false, N := ["n", "number", "code", "rest", "size"], T := [], X := Xl, C := Cl }
def s_law_codeofnumber : Sig := { name := "_law_codeofnumber", np := 2, io := false, rm := .top, φ := runF .top false noTH c_law_codeofnumber.T 5 x_law_codeofnumber }
theorem ok_law_codeofnumber : ∀ cn fs, okS (defScope (topS 55)) c_law_codeofnumber .top false none (noTH cn fs) [] (Γ0 false 5) x_law_codeofnumber (defBody (topS 55)) (nxtM x_law_codeofnumber (Γ0 false 5)) = true := by
  have h : okS (defScope (topS 55)) c_law_codeofnumber .top false none [] [] (Γ0 false 5) x_law_codeofnumber (defBody (topS 55)) (nxtM x_law_codeofnumber (Γ0 false 5)) = true := by decide +kernel
  exact fun _ _ => h
def x_law_refused : IS := (.seq (.asgO 2 .no (.tup (.cons (.str "refused") (.cons (.var 1) .nil))))
  (.seq (.ite (.or (.not (.tru (.call 0 (.cons (.str "row_of_code") (.cons (.var 0) (.cons (.int 0) (.cons (.var 2) .nil))))))) (.one (.not (.tru (.call 0 (.cons (.str "children_codes") (.cons (.var 0) (.cons (.int 0) (.cons (.var 2) .nil))))))))) (.seq (.ret (.bl false))
  .nil) .nil)
  (.seq (.ite (.tst (.eq false (.idx (.var 1) (.int 0)) (.str "BadOrder"))) (.seq (.asgO 2 .no (.tup (.cons (.str "told") (.cons (.bl false) .nil))))
  .nil) .nil)
  (.seq (.ret (.call 0 (.cons (.str "is_code") (.cons (.var 0) (.cons (.int 0) (.cons (.var 2) .nil))))))
  .nil))))
def c_law_refused : SC := { hot := false, N := ["wrong", "due", "told"], T := [s_law_holds], X := Xl, C := Cl }
def s_law_refused : Sig := { name := "_law_refused", np := 2, io := false, rm := .all, φ := runF .all false noTH c_law_refused.T 3 x_law_refused }
theorem ok_law_refused : ∀ cn fs, okS (defScope (topS 56)) c_law_refused .all false none (noTH cn fs) [] (Γ0 false 3) x_law_refused (defBody (topS 56)) (nxtM x_law_refused (Γ0 false 3)) = true := by
  have h : okS (defScope (topS 56)) c_law_refused .all false none [] [] (Γ0 false 3) x_law_refused (defBody (topS 56)) (nxtM x_law_refused (Γ0 false 3)) = true := by decide +kernel
  exact fun _ _ => h
def x_law : IS := (.seq (.asgO 1 .top (.call 0 (.cons (.var 0) .nil)))
  (.seq (.asgO 2 .no (.callIo 1 1 (.cons (.int 30) .nil)))
  (.seq (.ite (.tst (.eq false (.callIo 6 1 (.cons (.int 4) .nil)) (.int 0))) (.seq (.asgO 2 .no (.bi .min2 (.cons (.int 30) (.cons (.bin .add (.var 2) (.callIo 6 1 (.cons (.int 29) .nil))) .nil))))
  .nil) .nil)
  (.seq (.asgO 3 .no (.callIo 2 1 (.cons (.var 2) .nil)))
  (.seq (.asgO 4 .no (.rep (.lst (.cons (.int 0) .nil)) (.var 2)))
  (.seq (.asgO 5 .no (.rng (.wRng1 (.var 2))))
  (.seq (.asgO 6 .top (.listOf (.var 5)))
  (.seq (.ite (.tst (.cmp .gt (.var 2) (.int 1))) (.seq (.asgO 7 .no (.bin .add (.int 1) (.callIo 6 1 (.cons (.bin .sub (.var 2) (.int 1)) .nil))))
  (.seq (.setI 6 (.var 7) (.callIo 6 1 (.cons (.var 7) .nil)))
  .nil)) .nil)
  (.seq (.frz 6)
  (.seq (.fr [8] (.wSeq (.lst (.cons (.var 3) (.cons (.var 4) (.cons (.var 5) (.cons (.var 6) .nil)))))) (.seq (.ite (.not (.tru (.call 9 (.cons (.var 8) .nil)))) (.seq (.ret (.bl false))
  .nil) .nil)
  .nil))
  (.seq (.asgO 9 .no (.int 1))
  (.seq (.fr [10] (.wRng2 (.int 1) (.bin .add (.var 2) (.int 1))) (.seq (.asgO 9 .no (.bin .mul (.var 9) (.var 10)))
  .nil))
  (.seq (.asgO 11 .no (.int 0))
  (.seq (.fr [12] (.wRng1 (.int 6)) (.seq (.asgO 11 .no (.bin .add (.bin .mul (.var 11) (.bin .pow (.int 10) (.int 6))) (.callIo 6 1 (.cons (.bin .pow (.int 10) (.int 6)) .nil))))
  .nil))
  (.seq (.asgO 11 .no (.bin .mod (.bi .int (.cons (.var 11) .nil)) (.var 9)))
  (.seq (.ite (.not (.tru (.call 7 (.cons (.str "row_numbered") (.cons (.var 2) (.cons (.var 11) (.cons (.tup (.cons (.str "told") (.cons (.call 10 (.cons (.call 11 (.cons (.var 2) (.cons (.var 11) .nil))) .nil)) .nil))) .nil))))))) (.seq (.ret (.bl false))
  .nil) .nil)
  (.seq (.fr [13] (.wSeq (.lst (.cons (.bin .sub (.int 0) (.int 1)) (.cons (.var 9) (.cons (.bin .add (.var 9) (.int 1)) (.cons (.bin .sub (.int 0) (.var 9)) (.cons (.bin .pow (.int 10) (.int 39)) .nil))))))) (.seq (.ite (.not (.tru (.call 7 (.cons (.str "row_numbered") (.cons (.var 2) (.cons (.var 13) (.cons (.tup (.cons (.str "refused") (.cons (.tup (.cons (.str "BadOrder") (.cons (.int 0) .nil))) .nil))) .nil))))))) (.seq (.ret (.bl false))
  .nil) .nil)
  .nil))
  (.seq (.asgO 14 .no (.callIo 3 1 (.cons (.int 30) .nil)))
  (.seq (.fr [15] (.wSeq (.lst (.cons (.int 0) (.cons (.bin .sub (.int 0) (.int 1)) .nil)))) (.seq (.ite (.not (.tru (.call 7 (.cons (.str "row_numbered") (.cons (.idx (.var 14) (.int 0)) (.cons (.var 15) (.cons (.tup (.cons (.str "refused") (.cons (.idx (.var 14) (.int 1)) .nil))) .nil))))))) (.seq (.ret (.bl false))
  .nil) .nil)
  .nil))
  (.seq (.asgO 13 .no (.callIo 4 1 (.cons (.var 2) (.cons (.int 30) .nil))))
  (.seq (.fr [16] (.wSeq (.lst (.cons (.str "code_of") (.cons (.str "number_of") (.cons (.str "next_row") .nil))))) (.seq (.ite (.not (.tru (.call 7 (.cons (.var 16) (.cons (.idx (.var 13) (.int 0)) (.cons (.int 0) (.cons (.tup (.cons (.str "refused") (.cons (.idx (.var 13) (.int 1)) .nil))) .nil))))))) (.seq (.ret (.bl false))
  .nil) .nil)
  (.seq (.ite (.not (.tru (.call 7 (.cons (.var 16) (.cons (.rng (.wRng1 (.int 31))) (.cons (.int 0) (.cons (.tup (.cons (.str "refused") (.cons (.tup (.cons (.str "TooLarge") (.cons (.int 30) .nil))) .nil))) .nil))))))) (.seq (.ret (.bl false))
  .nil) .nil)
  .nil)))
  (.seq (.asgO 13 .no (.callIo 5 1 (.cons (.var 2) (.cons (.int 30) .nil))))
  (.seq (.ret (.pl (.and (.call 8 (.cons (.idx (.var 13) (.int 0)) (.cons (.idx (.var 13) (.int 1)) .nil))) (.one (.call 8 (.cons (.rep (.lst (.cons (.int 0) .nil)) (.int 31)) (.cons (.tup (.cons (.str "TooLarge") (.cons (.int 30) .nil))) .nil)))))))
  .nil)))))))))))))))))))))))
def c_law : SC := { hot := false, N := ["script", "store", "n", "code", "low", "high", "carried", "place", "one", "total", "size", "great", "turn", "wrong", "lost", "number", "what"], T := [s_law_store, s_law_length, s_law_code, s_law_badn, s_law_badrow, s_law_badcode, s_law_take, s_law_holds, s_law_refused, s_law_right, s_law_rowofcode, s_law_codeofnumber], X := Xl, C := Cl }
def s_law : Sig := { name := "law", np := 1, io := false, rm := .all, φ := runF .all false noTH c_law.T 17 x_law }
theorem ok_law : ∀ cn fs, okS (defScope (topS 57)) c_law .all false none (noTH cn fs) [] (Γ0 false 17) x_law (defBody (topS 57)) (nxtM x_law (Γ0 false 17)) = true := by
  have h : okS (defScope (topS 57)) c_law .all false none [] [] (Γ0 false 17) x_law (defBody (topS 57)) (nxtM x_law (Γ0 false 17)) = true := by decide +kernel
  exact fun _ _ => h
end OS
namespace OS
open PySem PySem.Spec PyProof.Rows L2
theorem bn_is_order : ∀ (kV doc pm : Value) (an : Option Addr) (cdv ct : Value) (us : List Value), us.length = (["row"] : List Str).length → bindArgs (PySem.W.fnOf "is_order" "is_order" (defArgs (topS 16)) (defBody (topS 16)) (defScope (topS 16)) .none kV doc pm an cdv ct) ⟨us, []⟩ = pure ((["row"] : List Str).zip us) := fun _ _ _ _ _ _ us hl => match us, hl with | [_], _ => rfl
theorem bn_check_order : ∀ (kV doc pm : Value) (an : Option Addr) (cdv ct : Value) (us : List Value), us.length = (["row"] : List Str).length → bindArgs (PySem.W.fnOf "check_order" "check_order" (defArgs (topS 17)) (defBody (topS 17)) (defScope (topS 17)) .none kV doc pm an cdv ct) ⟨us, []⟩ = pure ((["row"] : List Str).zip us) := fun _ _ _ _ _ _ us hl => match us, hl with | [_], _ => rfl
theorem bn_from_listing : ∀ (kV doc pm : Value) (an : Option Addr) (cdv ct : Value) (us : List Value), us.length = (["listing"] : List Str).length → bindArgs (PySem.W.fnOf "from_listing" "from_listing" (defArgs (topS 18)) (defBody (topS 18)) (defScope (topS 18)) .none kV doc pm an cdv ct) ⟨us, []⟩ = pure ((["listing"] : List Str).zip us) := fun _ _ _ _ _ _ us hl => match us, hl with | [_], _ => rfl
theorem bn_check_many : ∀ (kV doc pm : Value) (an : Option Addr) (cdv ct : Value) (us : List Value), us.length = (["n"] : List Str).length → bindArgs (PySem.W.fnOf "check_many" "check_many" (defArgs (topS 20)) (defBody (topS 20)) (defScope (topS 20)) .none kV doc pm an cdv ct) ⟨us, []⟩ = pure ((["n"] : List Str).zip us) := fun _ _ _ _ _ _ us hl => match us, hl with | [_], _ => rfl
theorem bn_is_code : ∀ (kV doc pm : Value) (an : Option Addr) (cdv ct : Value) (us : List Value), us.length = (["code"] : List Str).length → bindArgs (PySem.W.fnOf "is_code" "is_code" (defArgs (topS 22)) (defBody (topS 22)) (defScope (topS 22)) .none kV doc pm an cdv ct) ⟨us, []⟩ = pure ((["code"] : List Str).zip us) := fun _ _ _ _ _ _ us hl => match us, hl with | [_], _ => rfl
theorem bn_check_code : ∀ (kV doc pm : Value) (an : Option Addr) (cdv ct : Value) (us : List Value), us.length = (["code"] : List Str).length → bindArgs (PySem.W.fnOf "check_code" "check_code" (defArgs (topS 23)) (defBody (topS 23)) (defScope (topS 23)) .none kV doc pm an cdv ct) ⟨us, []⟩ = pure ((["code"] : List Str).zip us) := fun _ _ _ _ _ _ us hl => match us, hl with | [_], _ => rfl
theorem bn_code_of : ∀ (kV doc pm : Value) (an : Option Addr) (cdv ct : Value) (us : List Value), us.length = (["row"] : List Str).length → bindArgs (PySem.W.fnOf "code_of" "code_of" (defArgs (topS 24)) (defBody (topS 24)) (defScope (topS 24)) .none kV doc pm an cdv ct) ⟨us, []⟩ = pure ((["row"] : List Str).zip us) := fun _ _ _ _ _ _ us hl => match us, hl with | [_], _ => rfl
theorem bn_from_code : ∀ (kV doc pm : Value) (an : Option Addr) (cdv ct : Value) (us : List Value), us.length = (["code"] : List Str).length → bindArgs (PySem.W.fnOf "from_code" "from_code" (defArgs (topS 25)) (defBody (topS 25)) (defScope (topS 25)) .none kV doc pm an cdv ct) ⟨us, []⟩ = pure ((["code"] : List Str).zip us) := fun _ _ _ _ _ _ us hl => match us, hl with | [_], _ => rfl
theorem bn_row_of_code : ∀ (kV doc pm : Value) (an : Option Addr) (cdv ct : Value) (us : List Value), us.length = (["code"] : List Str).length → bindArgs (PySem.W.fnOf "row_of_code" "row_of_code" (defArgs (topS 26)) (defBody (topS 26)) (defScope (topS 26)) .none kV doc pm an cdv ct) ⟨us, []⟩ = pure ((["code"] : List Str).zip us) := fun _ _ _ _ _ _ us hl => match us, hl with | [_], _ => rfl
theorem bn_number_of : ∀ (kV doc pm : Value) (an : Option Addr) (cdv ct : Value) (us : List Value), us.length = (["row"] : List Str).length → bindArgs (PySem.W.fnOf "number_of" "number_of" (defArgs (topS 27)) (defBody (topS 27)) (defScope (topS 27)) .none kV doc pm an cdv ct) ⟨us, []⟩ = pure ((["row"] : List Str).zip us) := fun _ _ _ _ _ _ us hl => match us, hl with | [_], _ => rfl
theorem bn_count_rows : ∀ (kV doc pm : Value) (an : Option Addr) (cdv ct : Value) (us : List Value), us.length = (["n"] : List Str).length → bindArgs (PySem.W.fnOf "count_rows" "count_rows" (defArgs (topS 28)) (defBody (topS 28)) (defScope (topS 28)) .none kV doc pm an cdv ct) ⟨us, []⟩ = pure ((["n"] : List Str).zip us) := fun _ _ _ _ _ _ us hl => match us, hl with | [_], _ => rfl
theorem bn_code_numbered : ∀ (kV doc pm : Value) (an : Option Addr) (cdv ct : Value) (us : List Value), us.length = (["n", "number"] : List Str).length → bindArgs (PySem.W.fnOf "code_numbered" "code_numbered" (defArgs (topS 29)) (defBody (topS 29)) (defScope (topS 29)) .none kV doc pm an cdv ct) ⟨us, []⟩ = pure ((["n", "number"] : List Str).zip us) := fun _ _ _ _ _ _ us hl => match us, hl with | [_, _], _ => rfl
theorem bn_row_numbered : ∀ (kV doc pm : Value) (an : Option Addr) (cdv ct : Value) (us : List Value), us.length = (["n", "number"] : List Str).length → bindArgs (PySem.W.fnOf "row_numbered" "row_numbered" (defArgs (topS 30)) (defBody (topS 30)) (defScope (topS 30)) .none kV doc pm an cdv ct) ⟨us, []⟩ = pure ((["n", "number"] : List Str).zip us) := fun _ _ _ _ _ _ us hl => match us, hl with | [_, _], _ => rfl
theorem bn_next_row : ∀ (kV doc pm : Value) (an : Option Addr) (cdv ct : Value) (us : List Value), us.length = (["row"] : List Str).length → bindArgs (PySem.W.fnOf "next_row" "next_row" (defArgs (topS 31)) (defBody (topS 31)) (defScope (topS 31)) .none kV doc pm an cdv ct) ⟨us, []⟩ = pure ((["row"] : List Str).zip us) := fun _ _ _ _ _ _ us hl => match us, hl with | [_], _ => rfl
theorem bn_children_codes : ∀ (kV doc pm : Value) (an : Option Addr) (cdv ct : Value) (us : List Value), us.length = (["code"] : List Str).length → bindArgs (PySem.W.fnOf "children_codes" "children_codes" (defArgs (topS 32)) (defBody (topS 32)) (defScope (topS 32)) .none kV doc pm an cdv ct) ⟨us, []⟩ = pure ((["code"] : List Str).zip us) := fun _ _ _ _ _ _ us hl => match us, hl with | [_], _ => rfl
theorem bn_law_errorof : ∀ (kV doc pm : Value) (an : Option Addr) (cdv ct : Value) (us : List Value), us.length = (["error"] : List Str).length → bindArgs (PySem.W.fnOf "_law_errorof" "_law_errorof" (defArgs (topS 34)) (defBody (topS 34)) (defScope (topS 34)) .none kV doc pm an cdv ct) ⟨us, []⟩ = pure ((["error"] : List Str).zip us) := fun _ _ _ _ _ _ us hl => match us, hl with | [_], _ => rfl
theorem bn_law_stir : ∀ (kV doc pm : Value) (an : Option Addr) (cdv ct : Value) (us : List Value), us.length = (["seed", "turn"] : List Str).length → bindArgs (PySem.W.fnOf "_law_stir" "_law_stir" (defArgs (topS 35)) (defBody (topS 35)) (defScope (topS 35)) .none kV doc pm an cdv ct) ⟨us, []⟩ = pure ((["seed", "turn"] : List Str).zip us) := fun _ _ _ _ _ _ us hl => match us, hl with | [_, _], _ => rfl
theorem bn_law_store : ∀ (kV doc pm : Value) (an : Option Addr) (cdv ct : Value) (us : List Value), us.length = (["script"] : List Str).length → bindArgs (PySem.W.fnOf "_law_store" "_law_store" (defArgs (topS 36)) (defBody (topS 36)) (defScope (topS 36)) .none kV doc pm an cdv ct) ⟨us, []⟩ = pure ((["script"] : List Str).zip us) := fun _ _ _ _ _ _ us hl => match us, hl with | [_], _ => rfl
theorem bn_law_take : ∀ (kV doc pm : Value) (an : Option Addr) (cdv ct : Value) (us : List Value), us.length = (["store", "many"] : List Str).length → bindArgs (PySem.W.fnOf "_law_take" "_law_take" (defArgs (topS 37)) (defBody (topS 37)) (defScope (topS 37)) .none kV doc pm an cdv ct) ⟨us, []⟩ = pure ((["store", "many"] : List Str).zip us) := fun _ _ _ _ _ _ us hl => match us, hl with | [_, _], _ => rfl
theorem bn_law_pick : ∀ (kV doc pm : Value) (an : Option Addr) (cdv ct : Value) (us : List Value), us.length = (["store", "items"] : List Str).length → bindArgs (PySem.W.fnOf "_law_pick" "_law_pick" (defArgs (topS 38)) (defBody (topS 38)) (defScope (topS 38)) .none kV doc pm an cdv ct) ⟨us, []⟩ = pure ((["store", "items"] : List Str).zip us) := fun _ _ _ _ _ _ us hl => match us, hl with | [_, _], _ => rfl
theorem bn_law_near : ∀ (kV doc pm : Value) (an : Option Addr) (cdv ct : Value) (us : List Value), us.length = (["store", "low", "high"] : List Str).length → bindArgs (PySem.W.fnOf "_law_near" "_law_near" (defArgs (topS 39)) (defBody (topS 39)) (defScope (topS 39)) .none kV doc pm an cdv ct) ⟨us, []⟩ = pure ((["store", "low", "high"] : List Str).zip us) := fun _ _ _ _ _ _ us hl => match us, hl with | [_, _, _], _ => rfl
theorem bn_law_order : ∀ (kV doc pm : Value) (an : Option Addr) (cdv ct : Value) (us : List Value), us.length = (["store", "items"] : List Str).length → bindArgs (PySem.W.fnOf "_law_order" "_law_order" (defArgs (topS 40)) (defBody (topS 40)) (defScope (topS 40)) .none kV doc pm an cdv ct) ⟨us, []⟩ = pure ((["store", "items"] : List Str).zip us) := fun _ _ _ _ _ _ us hl => match us, hl with | [_, _], _ => rfl
theorem bn_law_length : ∀ (kV doc pm : Value) (an : Option Addr) (cdv ct : Value) (us : List Value), us.length = (["store", "most"] : List Str).length → bindArgs (PySem.W.fnOf "_law_length" "_law_length" (defArgs (topS 41)) (defBody (topS 41)) (defScope (topS 41)) .none kV doc pm an cdv ct) ⟨us, []⟩ = pure ((["store", "most"] : List Str).zip us) := fun _ _ _ _ _ _ us hl => match us, hl with | [_, _], _ => rfl
theorem bn_law_row : ∀ (kV doc pm : Value) (an : Option Addr) (cdv ct : Value) (us : List Value), us.length = (["store", "n"] : List Str).length → bindArgs (PySem.W.fnOf "_law_row" "_law_row" (defArgs (topS 42)) (defBody (topS 42)) (defScope (topS 42)) .none kV doc pm an cdv ct) ⟨us, []⟩ = pure ((["store", "n"] : List Str).zip us) := fun _ _ _ _ _ _ us hl => match us, hl with | [_, _], _ => rfl
theorem bn_law_badrow : ∀ (kV doc pm : Value) (an : Option Addr) (cdv ct : Value) (us : List Value), us.length = (["store", "n", "limit"] : List Str).length → bindArgs (PySem.W.fnOf "_law_badrow" "_law_badrow" (defArgs (topS 43)) (defBody (topS 43)) (defScope (topS 43)) .none kV doc pm an cdv ct) ⟨us, []⟩ = pure ((["store", "n", "limit"] : List Str).zip us) := fun _ _ _ _ _ _ us hl => match us, hl with | [_, _, _], _ => rfl
theorem bn_law_rowof : ∀ (kV doc pm : Value) (an : Option Addr) (cdv ct : Value) (us : List Value), us.length = (["listing"] : List Str).length → bindArgs (PySem.W.fnOf "_law_rowof" "_law_rowof" (defArgs (topS 44)) (defBody (topS 44)) (defScope (topS 44)) .none kV doc pm an cdv ct) ⟨us, []⟩ = pure ((["listing"] : List Str).zip us) := fun _ _ _ _ _ _ us hl => match us, hl with | [_], _ => rfl
theorem bn_law_code : ∀ (kV doc pm : Value) (an : Option Addr) (cdv ct : Value) (us : List Value), us.length = (["store", "n"] : List Str).length → bindArgs (PySem.W.fnOf "_law_code" "_law_code" (defArgs (topS 45)) (defBody (topS 45)) (defScope (topS 45)) .none kV doc pm an cdv ct) ⟨us, []⟩ = pure ((["store", "n"] : List Str).zip us) := fun _ _ _ _ _ _ us hl => match us, hl with | [_, _], _ => rfl
theorem bn_law_rowofcode : ∀ (kV doc pm : Value) (an : Option Addr) (cdv ct : Value) (us : List Value), us.length = (["code"] : List Str).length → bindArgs (PySem.W.fnOf "_law_rowofcode" "_law_rowofcode" (defArgs (topS 46)) (defBody (topS 46)) (defScope (topS 46)) .none kV doc pm an cdv ct) ⟨us, []⟩ = pure ((["code"] : List Str).zip us) := fun _ _ _ _ _ _ us hl => match us, hl with | [_], _ => rfl
theorem bn_law_badcode : ∀ (kV doc pm : Value) (an : Option Addr) (cdv ct : Value) (us : List Value), us.length = (["store", "n", "limit"] : List Str).length → bindArgs (PySem.W.fnOf "_law_badcode" "_law_badcode" (defArgs (topS 47)) (defBody (topS 47)) (defScope (topS 47)) .none kV doc pm an cdv ct) ⟨us, []⟩ = pure ((["store", "n", "limit"] : List Str).zip us) := fun _ _ _ _ _ _ us hl => match us, hl with | [_, _, _], _ => rfl
theorem bn_law_badn : ∀ (kV doc pm : Value) (an : Option Addr) (cdv ct : Value) (us : List Value), us.length = (["store", "limit"] : List Str).length → bindArgs (PySem.W.fnOf "_law_badn" "_law_badn" (defArgs (topS 48)) (defBody (topS 48)) (defScope (topS 48)) .none kV doc pm an cdv ct) ⟨us, []⟩ = pure ((["store", "limit"] : List Str).zip us) := fun _ _ _ _ _ _ us hl => match us, hl with | [_, _], _ => rfl
theorem bn_law_same : ∀ (kV doc pm : Value) (an : Option Addr) (cdv ct : Value) (us : List Value), us.length = (["one", "two"] : List Str).length → bindArgs (PySem.W.fnOf "_law_same" "_law_same" (defArgs (topS 49)) (defBody (topS 49)) (defScope (topS 49)) .none kV doc pm an cdv ct) ⟨us, []⟩ = pure ((["one", "two"] : List Str).zip us) := fun _ _ _ _ _ _ us hl => match us, hl with | [_, _], _ => rfl
theorem bn_law_ask : ∀ (kV doc pm : Value) (an : Option Addr) (cdv ct : Value) (us : List Value), us.length = (["what", "one", "two"] : List Str).length → bindArgs (PySem.W.fnOf "_law_ask" "_law_ask" (defArgs (topS 50)) (defBody (topS 50)) (defScope (topS 50)) .none kV doc pm an cdv ct) ⟨us, []⟩ = pure ((["what", "one", "two"] : List Str).zip us) := fun _ _ _ _ _ _ us hl => match us, hl with | [_, _, _], _ => rfl
theorem bn_law_holds : ∀ (kV doc pm : Value) (an : Option Addr) (cdv ct : Value) (us : List Value), us.length = (["what", "one", "two", "due"] : List Str).length → bindArgs (PySem.W.fnOf "_law_holds" "_law_holds" (defArgs (topS 51)) (defBody (topS 51)) (defScope (topS 51)) .none kV doc pm an cdv ct) ⟨us, []⟩ = pure ((["what", "one", "two", "due"] : List Str).zip us) := fun _ _ _ _ _ _ us hl => match us, hl with | [_, _, _, _], _ => rfl
theorem bn_law_numberof : ∀ (kV doc pm : Value) (an : Option Addr) (cdv ct : Value) (us : List Value), us.length = (["code"] : List Str).length → bindArgs (PySem.W.fnOf "_law_numberof" "_law_numberof" (defArgs (topS 52)) (defBody (topS 52)) (defScope (topS 52)) .none kV doc pm an cdv ct) ⟨us, []⟩ = pure ((["code"] : List Str).zip us) := fun _ _ _ _ _ _ us hl => match us, hl with | [_], _ => rfl
theorem bn_law_after : ∀ (kV doc pm : Value) (an : Option Addr) (cdv ct : Value) (us : List Value), us.length = (["code"] : List Str).length → bindArgs (PySem.W.fnOf "_law_after" "_law_after" (defArgs (topS 53)) (defBody (topS 53)) (defScope (topS 53)) .none kV doc pm an cdv ct) ⟨us, []⟩ = pure ((["code"] : List Str).zip us) := fun _ _ _ _ _ _ us hl => match us, hl with | [_], _ => rfl
theorem bn_law_right : ∀ (kV doc pm : Value) (an : Option Addr) (cdv ct : Value) (us : List Value), us.length = (["code"] : List Str).length → bindArgs (PySem.W.fnOf "_law_right" "_law_right" (defArgs (topS 54)) (defBody (topS 54)) (defScope (topS 54)) .none kV doc pm an cdv ct) ⟨us, []⟩ = pure ((["code"] : List Str).zip us) := fun _ _ _ _ _ _ us hl => match us, hl with | [_], _ => rfl
theorem bn_law_codeofnumber : ∀ (kV doc pm : Value) (an : Option Addr) (cdv ct : Value) (us : List Value), us.length = (["n", "number"] : List Str).length → bindArgs (PySem.W.fnOf "_law_codeofnumber" "_law_codeofnumber" (defArgs (topS 55)) (defBody (topS 55)) (defScope (topS 55)) .none kV doc pm an cdv ct) ⟨us, []⟩ = pure ((["n", "number"] : List Str).zip us) := fun _ _ _ _ _ _ us hl => match us, hl with | [_, _], _ => rfl
theorem bn_law_refused : ∀ (kV doc pm : Value) (an : Option Addr) (cdv ct : Value) (us : List Value), us.length = (["wrong", "due"] : List Str).length → bindArgs (PySem.W.fnOf "_law_refused" "_law_refused" (defArgs (topS 56)) (defBody (topS 56)) (defScope (topS 56)) .none kV doc pm an cdv ct) ⟨us, []⟩ = pure ((["wrong", "due"] : List Str).zip us) := fun _ _ _ _ _ _ us hl => match us, hl with | [_, _], _ => rfl
theorem bn_law : ∀ (kV doc pm : Value) (an : Option Addr) (cdv ct : Value) (us : List Value), us.length = (["script"] : List Str).length → bindArgs (PySem.W.fnOf "law" "law" (defArgs (topS 57)) (defBody (topS 57)) (defScope (topS 57)) .none kV doc pm an cdv ct) ⟨us, []⟩ = pure ((["script"] : List Str).zip us) := fun _ _ _ _ _ _ us hl => match us, hl with | [_], _ => rfl
structure Defs (K : PySem.W.Frag) (mg : Str → Option Value) : Prop where
  d_is_order : DefAt K mg "is_order" (topS 16) ["row"]
  d_check_order : DefAt K mg "check_order" (topS 17) ["row"]
  d_from_listing : DefAt K mg "from_listing" (topS 18) ["listing"]
  d_check_many : DefAt K mg "check_many" (topS 20) ["n"]
  d_is_code : DefAt K mg "is_code" (topS 22) ["code"]
  d_check_code : DefAt K mg "check_code" (topS 23) ["code"]
  d_code_of : DefAt K mg "code_of" (topS 24) ["row"]
  d_from_code : DefAt K mg "from_code" (topS 25) ["code"]
  d_row_of_code : DefAt K mg "row_of_code" (topS 26) ["code"]
  d_number_of : DefAt K mg "number_of" (topS 27) ["row"]
  d_count_rows : DefAt K mg "count_rows" (topS 28) ["n"]
  d_code_numbered : DefAt K mg "code_numbered" (topS 29) ["n", "number"]
  d_row_numbered : DefAt K mg "row_numbered" (topS 30) ["n", "number"]
  d_next_row : DefAt K mg "next_row" (topS 31) ["row"]
  d_children_codes : DefAt K mg "children_codes" (topS 32) ["code"]
  d_law_errorof : DefAt K mg "_law_errorof" (topS 34) ["error"]
  d_law_stir : DefAt K mg "_law_stir" (topS 35) ["seed", "turn"]
  d_law_store : DefAt K mg "_law_store" (topS 36) ["script"]
  d_law_take : DefAt K mg "_law_take" (topS 37) ["store", "many"]
  d_law_pick : DefAt K mg "_law_pick" (topS 38) ["store", "items"]
  d_law_near : DefAt K mg "_law_near" (topS 39) ["store", "low", "high"]
  d_law_order : DefAt K mg "_law_order" (topS 40) ["store", "items"]
  d_law_length : DefAt K mg "_law_length" (topS 41) ["store", "most"]
  d_law_row : DefAt K mg "_law_row" (topS 42) ["store", "n"]
  d_law_badrow : DefAt K mg "_law_badrow" (topS 43) ["store", "n", "limit"]
  d_law_rowof : DefAt K mg "_law_rowof" (topS 44) ["listing"]
  d_law_code : DefAt K mg "_law_code" (topS 45) ["store", "n"]
  d_law_rowofcode : DefAt K mg "_law_rowofcode" (topS 46) ["code"]
  d_law_badcode : DefAt K mg "_law_badcode" (topS 47) ["store", "n", "limit"]
  d_law_badn : DefAt K mg "_law_badn" (topS 48) ["store", "limit"]
  d_law_same : DefAt K mg "_law_same" (topS 49) ["one", "two"]
  d_law_ask : DefAt K mg "_law_ask" (topS 50) ["what", "one", "two"]
  d_law_holds : DefAt K mg "_law_holds" (topS 51) ["what", "one", "two", "due"]
  d_law_numberof : DefAt K mg "_law_numberof" (topS 52) ["code"]
  d_law_after : DefAt K mg "_law_after" (topS 53) ["code"]
  d_law_right : DefAt K mg "_law_right" (topS 54) ["code"]
  d_law_codeofnumber : DefAt K mg "_law_codeofnumber" (topS 55) ["n", "number"]
  d_law_refused : DefAt K mg "_law_refused" (topS 56) ["wrong", "due"]
theorem sc_is_order : FnScope ["row"] ["row"] (defScope (topS 16)) := ⟨rfl, rfl, rfl, by decide +kernel, rfl, by decide +kernel, by decide +kernel⟩
theorem sc_check_order : FnScope ["row"] ["row"] (defScope (topS 17)) := ⟨rfl, rfl, rfl, by decide +kernel, rfl, by decide +kernel, by decide +kernel⟩
theorem sc_from_listing : FnScope ["listing", "many", "row", "place"] ["listing"] (defScope (topS 18)) := ⟨rfl, rfl, rfl, by decide +kernel, rfl, by decide +kernel, by decide +kernel⟩
theorem sc_check_many : FnScope ["n"] ["n"] (defScope (topS 20)) := ⟨rfl, rfl, rfl, by decide +kernel, rfl, by decide +kernel, by decide +kernel⟩
theorem sc_is_code : FnScope ["code", "d"] ["code"] (defScope (topS 22)) := ⟨rfl, rfl, rfl, by decide +kernel, rfl, by decide +kernel, by decide +kernel⟩
theorem sc_check_code : FnScope ["code"] ["code"] (defScope (topS 23)) := ⟨rfl, rfl, rfl, by decide +kernel, rfl, by decide +kernel, by decide +kernel⟩
theorem sc_code_of : FnScope ["row", "d", "e"] ["row"] (defScope (topS 24)) := ⟨rfl, rfl, rfl, by decide +kernel, rfl, by decide +kernel, by decide +kernel⟩
theorem sc_from_code : FnScope ["code", "listing", "d"] ["code"] (defScope (topS 25)) := ⟨rfl, rfl, rfl, by decide +kernel, rfl, by decide +kernel, by decide +kernel⟩
theorem sc_row_of_code : FnScope ["code"] ["code"] (defScope (topS 26)) := ⟨rfl, rfl, rfl, by decide +kernel, rfl, by decide +kernel, by decide +kernel⟩
theorem sc_number_of : FnScope ["row", "code", "number", "d"] ["row"] (defScope (topS 27)) := ⟨rfl, rfl, rfl, by decide +kernel, rfl, by decide +kernel, by decide +kernel⟩
theorem sc_count_rows : FnScope ["n", "count", "d"] ["n"] (defScope (topS 28)) := ⟨rfl, rfl, rfl, by decide +kernel, rfl, by decide +kernel, by decide +kernel⟩
theorem sc_code_numbered : FnScope ["n", "number", "code", "left", "place", "d"] ["n", "number"] (defScope (topS 29)) := ⟨rfl, rfl, rfl, by decide +kernel, rfl, by decide +kernel, by decide +kernel⟩
theorem sc_row_numbered : FnScope ["n", "number"] ["n", "number"] (defScope (topS 30)) := ⟨rfl, rfl, rfl, by decide +kernel, rfl, by decide +kernel, by decide +kernel⟩
theorem sc_next_row : FnScope ["row", "number"] ["row"] (defScope (topS 31)) := ⟨rfl, rfl, rfl, by decide +kernel, rfl, by decide +kernel, by decide +kernel⟩
theorem sc_children_codes : FnScope ["code", "many", "more"] ["code"] (defScope (topS 32)) := ⟨rfl, rfl, rfl, by decide +kernel, rfl, by decide +kernel, by decide +kernel⟩
theorem sc_law_errorof : FnScope ["error", "kinds", "kind", "names"] ["error"] (defScope (topS 34)) := ⟨rfl, rfl, rfl, by decide +kernel, rfl, by decide +kernel, by decide +kernel⟩
theorem sc_law_stir : FnScope ["seed", "turn", "low", "mid"] ["seed", "turn"] (defScope (topS 35)) := ⟨rfl, rfl, rfl, by decide +kernel, rfl, by decide +kernel, by decide +kernel⟩
theorem sc_law_store : FnScope ["script", "cells", "seed", "cell", "size"] ["script"] (defScope (topS 36)) := ⟨rfl, rfl, rfl, by decide +kernel, rfl, by decide +kernel, by decide +kernel⟩
theorem sc_law_take : FnScope ["store", "many", "cell", "rest"] ["store", "many"] (defScope (topS 37)) := ⟨rfl, rfl, rfl, by decide +kernel, rfl, by decide +kernel, by decide +kernel⟩
theorem sc_law_pick : FnScope ["store", "items"] ["store", "items"] (defScope (topS 38)) := ⟨rfl, rfl, rfl, by decide +kernel, rfl, by decide +kernel, by decide +kernel⟩
theorem sc_law_near : FnScope ["store", "low", "high", "kind"] ["store", "low", "high"] (defScope (topS 39)) := ⟨rfl, rfl, rfl, by decide +kernel, rfl, by decide +kernel, by decide +kernel⟩
theorem sc_law_order : FnScope ["store", "items", "left", "made", "turn"] ["store", "items"] (defScope (topS 40)) := ⟨rfl, rfl, rfl, by decide +kernel, rfl, by decide +kernel, by decide +kernel⟩
theorem sc_law_length : FnScope ["store", "most", "kind"] ["store", "most"] (defScope (topS 41)) := ⟨rfl, rfl, rfl, by decide +kernel, rfl, by decide +kernel, by decide +kernel⟩
theorem sc_law_row : FnScope ["store", "n", "kind", "row", "d", "j"] ["store", "n"] (defScope (topS 42)) := ⟨rfl, rfl, rfl, by decide +kernel, rfl, by decide +kernel, by decide +kernel⟩
theorem sc_law_badrow : FnScope ["store", "n", "limit", "kind", "row", "place"] ["store", "n", "limit"] (defScope (topS 43)) := ⟨rfl, rfl, rfl, by decide +kernel, rfl, by decide +kernel, by decide +kernel⟩
theorem sc_law_rowof : FnScope ["listing", "row", "place"] ["listing"] (defScope (topS 44)) := ⟨rfl, rfl, rfl, by decide +kernel, rfl, by decide +kernel, by decide +kernel⟩
theorem sc_law_code : FnScope ["store", "n", "d"] ["store", "n"] (defScope (topS 45)) := ⟨rfl, rfl, rfl, by decide +kernel, rfl, by decide +kernel, by decide +kernel⟩
theorem sc_law_rowofcode : FnScope ["code", "listing", "d"] ["code"] (defScope (topS 46)) := ⟨rfl, rfl, rfl, by decide +kernel, rfl, by decide +kernel, by decide +kernel⟩
theorem sc_law_badcode : FnScope ["store", "n", "limit", "kind", "code", "place"] ["store", "n", "limit"] (defScope (topS 47)) := ⟨rfl, rfl, rfl, by decide +kernel, rfl, by decide +kernel, by decide +kernel⟩
theorem sc_law_badn : FnScope ["store", "limit", "kind"] ["store", "limit"] (defScope (topS 48)) := ⟨rfl, rfl, rfl, by decide +kernel, rfl, by decide +kernel, by decide +kernel⟩
theorem sc_law_same : FnScope ["one", "two", "left", "turn", "seen", "due", "k"] ["one", "two"] (defScope (topS 49)) := ⟨rfl, rfl, rfl, by decide +kernel, rfl, by decide +kernel, by decide +kernel⟩
theorem sc_law_ask : FnScope ["what", "one", "two", "e"] ["what", "one", "two"] (defScope (topS 50)) := ⟨rfl, rfl, rfl, by decide +kernel, rfl, by decide +kernel, by decide +kernel⟩
theorem sc_law_holds : FnScope ["what", "one", "two", "due", "turn", "passed", "answer", "told", "inner"] ["what", "one", "two", "due"] (defScope (topS 51)) := ⟨rfl, rfl, rfl, by decide +kernel, rfl, by decide +kernel, by decide +kernel⟩
theorem sc_law_numberof : FnScope ["code", "total", "weight", "d"] ["code"] (defScope (topS 52)) := ⟨rfl, rfl, rfl, by decide +kernel, rfl, by decide +kernel, by decide +kernel⟩
theorem sc_law_after : FnScope ["code", "made", "d"] ["code"] (defScope (topS 53)) := ⟨rfl, rfl, rfl, by decide +kernel, rfl, by decide +kernel, by decide +kernel⟩
theorem sc_law_right : FnScope ["code", "n", "row", "number", "behind", "more", "last", "asks", "what", "one", "two", "due"] ["code"] (defScope (topS 54)) := ⟨rfl, rfl, rfl, by decide +kernel, rfl, by decide +kernel, by decide +kernel⟩
theorem sc_law_codeofnumber : FnScope ["n", "number", "code", "rest", "size"] ["n", "number"] (defScope (topS 55)) := ⟨rfl, rfl, rfl, by decide +kernel, rfl, by decide +kernel, by decide +kernel⟩
theorem sc_law_refused : FnScope ["wrong", "due", "told"] ["wrong", "due"] (defScope (topS 56)) := ⟨rfl, rfl, rfl, by decide +kernel, rfl, by decide +kernel, by decide +kernel⟩
theorem sc_law : FnScope ["script", "store", "n", "code", "low", "high", "carried", "place", "one", "total", "size", "great", "turn", "wrong", "lost", "number", "what"] ["script"] (defScope (topS 57)) := ⟨rfl, rfl, rfl, by decide +kernel, rfl, by decide +kernel, by decide +kernel⟩
structure AskF (K : PySem.W.Frag) (mg : Str → Option Value) : Prop where
  aw : AskW ET Cs Fs K mg
  se : ∃ C, mg "StraightError" = some (.ref C) ∧ ∀ cn fs D0, ET.known cn fs = true → mg cn = some (.ref D0) → PySem.W.exmOne K (.ref D0) (.ref C) = some true
section
variable {P : Program} {w : World} {K : PySem.W.Frag} {mg : Str → Option Value} {base : Heap} (B : WB P w K mg base Xl Cl) (D : Defs K mg) (A : AskF K mg)
include B D A
theorem lv_is_order (k : Nat) : TabAt P w K mg base (k + 3) s_is_order := tab_def (lv := k + 2) (c := c_is_order) (body := x_is_order) (wld_no B (by omega) rfl rfl rfl (by decide) trivial (fun _ e => nomatch e)) D.d_is_order sc_is_order rfl (by decide) (by decide) rfl ok_is_order (.inl rfl)
theorem lv_check_order (k : Nat) : TabAt P w K mg base (k + 4) s_check_order := tab_def (lv := k + 3) (c := c_check_order) (body := x_check_order) (wld_no B (by omega) rfl rfl rfl (by decide) ⟨lv_is_order B D A (k + 0), trivial⟩ (fun _ e => nomatch e)) D.d_check_order sc_check_order rfl (by decide) (by decide) rfl ok_check_order (.inl rfl)
theorem lv_from_listing (k : Nat) : TabAt P w K mg base (k + 3) s_from_listing := tab_def (lv := k + 2) (c := c_from_listing) (body := x_from_listing) (wld_no B (by omega) rfl rfl rfl (by decide) trivial (fun _ e => nomatch e)) D.d_from_listing sc_from_listing rfl (by decide) (by decide) rfl ok_from_listing (.inl rfl)
theorem lv_check_many (k : Nat) : TabAt P w K mg base (k + 3) s_check_many := tab_def (lv := k + 2) (c := c_check_many) (body := x_check_many) (wld_no B (by omega) rfl rfl rfl (by decide) trivial (fun _ e => nomatch e)) D.d_check_many sc_check_many rfl (by decide) (by decide) rfl ok_check_many (.inr ⟨by decide, rfl⟩)
theorem lv_is_code (k : Nat) : TabAt P w K mg base (k + 3) s_is_code := tab_def (lv := k + 2) (c := c_is_code) (body := x_is_code) (wld_no B (by omega) rfl rfl rfl (by decide) trivial (fun _ e => nomatch e)) D.d_is_code sc_is_code rfl (by decide) (by decide) rfl ok_is_code (.inl rfl)
theorem lv_check_code (k : Nat) : TabAt P w K mg base (k + 4) s_check_code := tab_def (lv := k + 3) (c := c_check_code) (body := x_check_code) (wld_no B (by omega) rfl rfl rfl (by decide) ⟨lv_is_code B D A (k + 0), trivial⟩ (fun _ e => nomatch e)) D.d_check_code sc_check_code rfl (by decide) (by decide) rfl ok_check_code (.inr ⟨by decide, rfl⟩)
theorem lv_code_of (k : Nat) : TabAt P w K mg base (k + 5) s_code_of := tab_def (lv := k + 4) (c := c_code_of) (body := x_code_of) (wld_no B (by omega) rfl rfl rfl (by decide) ⟨lv_check_order B D A (k + 0), trivial⟩ (fun _ e => nomatch e)) D.d_code_of sc_code_of rfl (by decide) (by decide) rfl ok_code_of (.inl rfl)
theorem lv_from_code (k : Nat) : TabAt P w K mg base (k + 4) s_from_code := tab_def (lv := k + 3) (c := c_from_code) (body := x_from_code) (wld_no B (by omega) rfl rfl rfl (by decide) ⟨lv_from_listing B D A (k + 0), trivial⟩ (fun _ e => nomatch e)) D.d_from_code sc_from_code rfl (by decide) (by decide) rfl ok_from_code (.inl rfl)
theorem lv_row_of_code (k : Nat) : TabAt P w K mg base (k + 5) s_row_of_code := tab_def (lv := k + 4) (c := c_row_of_code) (body := x_row_of_code) (wld_no B (by omega) rfl rfl rfl (by decide) ⟨lv_check_code B D A (k + 0), lv_from_code B D A (k + 0), trivial⟩ (fun _ e => nomatch e)) D.d_row_of_code sc_row_of_code rfl (by decide) (by decide) rfl ok_row_of_code (.inl rfl)
theorem lv_number_of (k : Nat) : TabAt P w K mg base (k + 6) s_number_of := tab_def (lv := k + 5) (c := c_number_of) (body := x_number_of) (wld_no B (by omega) rfl rfl rfl (by decide) ⟨lv_code_of B D A (k + 0), trivial⟩ (fun _ e => nomatch e)) D.d_number_of sc_number_of rfl (by decide) (by decide) rfl ok_number_of (.inl rfl)
theorem lv_count_rows (k : Nat) : TabAt P w K mg base (k + 3) s_count_rows := tab_def (lv := k + 2) (c := c_count_rows) (body := x_count_rows) (wld_no B (by omega) rfl rfl rfl (by decide) trivial (fun _ e => nomatch e)) D.d_count_rows sc_count_rows rfl (by decide) (by decide) rfl ok_count_rows (.inl rfl)
theorem lv_code_numbered (k : Nat) : TabAt P w K mg base (k + 3) s_code_numbered := tab_def (lv := k + 2) (c := c_code_numbered) (body := x_code_numbered) (wld_no B (by omega) rfl rfl rfl (by decide) trivial (fun _ e => nomatch e)) D.d_code_numbered sc_code_numbered rfl (by decide) (by decide) rfl ok_code_numbered (.inl rfl)
theorem lv_row_numbered (k : Nat) : TabAt P w K mg base (k + 5) s_row_numbered := tab_def (lv := k + 4) (c := c_row_numbered) (body := x_row_numbered) (wld_no B (by omega) rfl rfl rfl (by decide) ⟨lv_check_many B D A (k + 1), lv_from_code B D A (k + 0), lv_code_numbered B D A (k + 1), lv_count_rows B D A (k + 1), trivial⟩ (fun _ e => nomatch e)) D.d_row_numbered sc_row_numbered rfl (by decide) (by decide) rfl ok_row_numbered (.inl rfl)
theorem lv_next_row (k : Nat) : TabAt P w K mg base (k + 7) s_next_row := tab_def (lv := k + 6) (c := c_next_row) (body := x_next_row) (wld_no B (by omega) rfl rfl rfl (by decide) ⟨lv_from_code B D A (k + 2), lv_number_of B D A (k + 0), lv_count_rows B D A (k + 3), lv_code_numbered B D A (k + 3), trivial⟩ (fun _ e => nomatch e)) D.d_next_row sc_next_row rfl (by decide) (by decide) rfl ok_next_row (.inl rfl)
theorem lv_children_codes (k : Nat) : TabAt P w K mg base (k + 5) s_children_codes := tab_def (lv := k + 4) (c := c_children_codes) (body := x_children_codes) (wld_no B (by omega) rfl rfl rfl (by decide) ⟨lv_check_code B D A (k + 0), trivial⟩ (fun _ e => nomatch e)) D.d_children_codes sc_children_codes rfl (by decide) (by decide) rfl ok_children_codes (.inl rfl)
theorem hot_law_errorof (k : Nat) : ∃ f fd, FnE P w K mg base (L2N.CX P w) (k + 1) f fd ["error"] (spE K mg (tabE ET "error" Cs Fs) .all 4 x_law_errorof) ∧ mg "_law_errorof" = some (.ref f) ∧ PySem.W.keepIn K (.ref f) = true ∧ Binds K fd ["error"] [] := by
  obtain ⟨f, fd, F, hm, hb⟩ := D.d_law_errorof.ex
  exact ⟨f, fd, fn_exc (c := c_law_errorof) (askAt_of A.aw (by decide) (by decide) B.blt B.con) F sc_law_errorof rfl ok_law_errorof rfl, hm, F.kp, hb⟩
theorem lv_law_stir (k : Nat) : TabAt P w K mg base (k + 3) s_law_stir := tab_def (lv := k + 2) (c := c_law_stir) (body := x_law_stir) (wld_no B (by omega) rfl rfl rfl (by decide) trivial (fun _ e => nomatch e)) D.d_law_stir sc_law_stir rfl (by decide) (by decide) rfl ok_law_stir (.inl rfl)
theorem lv_law_store (k : Nat) : TabAt P w K mg base (k + 3) s_law_store := tab_def (lv := k + 2) (c := c_law_store) (body := x_law_store) (wld_no B (by omega) rfl rfl rfl (by decide) trivial (fun _ e => nomatch e)) D.d_law_store sc_law_store rfl (by decide) (by decide) rfl ok_law_store (.inl rfl)
theorem lv_law_take (k : Nat) : TabAt P w K mg base (k + 4) s_law_take := tab_def (lv := k + 3) (c := c_law_take) (body := x_law_take) (wld_no B (by omega) rfl rfl rfl (by decide) ⟨lv_law_stir B D A (k + 0), trivial⟩ (fun _ e => nomatch e)) D.d_law_take sc_law_take rfl (by decide) (by decide) rfl ok_law_take (.inl rfl)
theorem lv_law_pick (k : Nat) : TabAt P w K mg base (k + 5) s_law_pick := tab_def (lv := k + 4) (c := c_law_pick) (body := x_law_pick) (wld_no B (by omega) rfl rfl rfl (by decide) ⟨lv_law_take B D A (k + 0), trivial⟩ (fun _ e => nomatch e)) D.d_law_pick sc_law_pick rfl (by decide) (by decide) rfl ok_law_pick (.inl rfl)
theorem lv_law_near (k : Nat) : TabAt P w K mg base (k + 5) s_law_near := tab_def (lv := k + 4) (c := c_law_near) (body := x_law_near) (wld_no B (by omega) rfl rfl rfl (by decide) ⟨lv_law_take B D A (k + 0), trivial⟩ (fun _ e => nomatch e)) D.d_law_near sc_law_near rfl (by decide) (by decide) rfl ok_law_near (.inl rfl)
theorem lv_law_order (k : Nat) : TabAt P w K mg base (k + 5) s_law_order := tab_def (lv := k + 4) (c := c_law_order) (body := x_law_order) (wld_no B (by omega) rfl rfl rfl (by decide) ⟨lv_law_take B D A (k + 0), trivial⟩ (fun _ e => nomatch e)) D.d_law_order sc_law_order rfl (by decide) (by decide) rfl ok_law_order (.inl rfl)
theorem lv_law_length (k : Nat) : TabAt P w K mg base (k + 5) s_law_length := tab_def (lv := k + 4) (c := c_law_length) (body := x_law_length) (wld_no B (by omega) rfl rfl rfl (by decide) ⟨lv_law_take B D A (k + 0), trivial⟩ (fun _ e => nomatch e)) D.d_law_length sc_law_length rfl (by decide) (by decide) rfl ok_law_length (.inl rfl)
theorem lv_law_row (k : Nat) : TabAt P w K mg base (k + 6) s_law_row := tab_def (lv := k + 5) (c := c_law_row) (body := x_law_row) (wld_no B (by omega) rfl rfl rfl (by decide) ⟨lv_law_take B D A (k + 1), lv_law_order B D A (k + 0), trivial⟩ (fun _ e => nomatch e)) D.d_law_row sc_law_row rfl (by decide) (by decide) rfl ok_law_row (.inl rfl)
theorem lv_law_badrow (k : Nat) : TabAt P w K mg base (k + 7) s_law_badrow := tab_def (lv := k + 6) (c := c_law_badrow) (body := x_law_badrow) (wld_no B (by omega) rfl rfl rfl (by decide) ⟨lv_law_take B D A (k + 2), lv_law_row B D A (k + 0), trivial⟩ (fun _ e => nomatch e)) D.d_law_badrow sc_law_badrow rfl (by decide) (by decide) rfl ok_law_badrow (.inl rfl)
theorem lv_law_rowof (k : Nat) : TabAt P w K mg base (k + 3) s_law_rowof := tab_def (lv := k + 2) (c := c_law_rowof) (body := x_law_rowof) (wld_no B (by omega) rfl rfl rfl (by decide) trivial (fun _ e => nomatch e)) D.d_law_rowof sc_law_rowof rfl (by decide) (by decide) rfl ok_law_rowof (.inl rfl)
theorem lv_law_code (k : Nat) : TabAt P w K mg base (k + 6) s_law_code := tab_def (lv := k + 5) (c := c_law_code) (body := x_law_code) (wld_no B (by omega) rfl rfl rfl (by decide) ⟨lv_law_near B D A (k + 0), trivial⟩ (fun _ e => nomatch e)) D.d_law_code sc_law_code rfl (by decide) (by decide) rfl ok_law_code (.inl rfl)
theorem lv_law_rowofcode (k : Nat) : TabAt P w K mg base (k + 4) s_law_rowofcode := tab_def (lv := k + 3) (c := c_law_rowofcode) (body := x_law_rowofcode) (wld_no B (by omega) rfl rfl rfl (by decide) ⟨lv_law_rowof B D A (k + 0), trivial⟩ (fun _ e => nomatch e)) D.d_law_rowofcode sc_law_rowofcode rfl (by decide) (by decide) rfl ok_law_rowofcode (.inl rfl)
theorem lv_law_badcode (k : Nat) : TabAt P w K mg base (k + 7) s_law_badcode := tab_def (lv := k + 6) (c := c_law_badcode) (body := x_law_badcode) (wld_no B (by omega) rfl rfl rfl (by decide) ⟨lv_law_take B D A (k + 2), lv_law_code B D A (k + 0), lv_law_pick B D A (k + 1), trivial⟩ (fun _ e => nomatch e)) D.d_law_badcode sc_law_badcode rfl (by decide) (by decide) rfl ok_law_badcode (.inl rfl)
theorem lv_law_badn (k : Nat) : TabAt P w K mg base (k + 5) s_law_badn := tab_def (lv := k + 4) (c := c_law_badn) (body := x_law_badn) (wld_no B (by omega) rfl rfl rfl (by decide) ⟨lv_law_take B D A (k + 0), trivial⟩ (fun _ e => nomatch e)) D.d_law_badn sc_law_badn rfl (by decide) (by decide) rfl ok_law_badn (.inl rfl)
theorem lv_law_same (k : Nat) : TabAt P w K mg base (k + 3) s_law_same := tab_def (lv := k + 2) (c := c_law_same) (body := x_law_same) (wld_no B (by omega) rfl rfl rfl (by decide) trivial (fun _ e => nomatch e)) D.d_law_same sc_law_same rfl (by decide) (by decide) rfl ok_law_same (.inl rfl)
theorem lv_law_ask (k : Nat) : TabAt P w K mg base (k + 8) s_law_ask := by
  refine tab_def (lv := k + 7) (c := c_law_ask) (body := x_law_ask) (wld_mk B (by omega) rfl rfl rfl (by decide) ⟨lv_children_codes B D A (k + 2), lv_is_code B D A (k + 4), lv_code_of B D A (k + 2), lv_row_of_code B D A (k + 2), lv_number_of B D A (k + 1), lv_row_numbered B D A (k + 2), lv_next_row B D A (k + 0), trivial⟩ (fun X h1 h2 h3 h4 h5 h6 h7 h8 h9 => ?_) (fun _ e => nomatch e)) D.d_law_ask sc_law_ask rfl (by decide) (by decide) rfl ok_law_ask (.inr ⟨by decide, rfl⟩)
  obtain ⟨f, fd, F, hm, hkp, hb⟩ := hot_law_errorof B D A (base := base) (k + 6)
  obtain ⟨C, hS, hE⟩ := A.se
  subst h1 h2 h3 h4 h5
  exact tryAt_of (c := c_law_ask) (c' := c_law_ask) A.aw (by decide) (by decide) h6 B.blt B.con h8 h9 h7 F hb hm hkp hS hE
theorem lv_law_holds (k : Nat) : TabAt P w K mg base (k + 9) s_law_holds := tab_def (lv := k + 8) (c := c_law_holds) (body := x_law_holds) (wld_no B (by omega) rfl rfl rfl (by decide) ⟨lv_law_ask B D A (k + 0), lv_law_same B D A (k + 5), trivial⟩ (fun _ e => nomatch e)) D.d_law_holds sc_law_holds rfl (by decide) (by decide) rfl ok_law_holds (.inl rfl)
theorem lv_law_numberof (k : Nat) : TabAt P w K mg base (k + 3) s_law_numberof := tab_def (lv := k + 2) (c := c_law_numberof) (body := x_law_numberof) (wld_no B (by omega) rfl rfl rfl (by decide) trivial (fun _ e => nomatch e)) D.d_law_numberof sc_law_numberof rfl (by decide) (by decide) rfl ok_law_numberof (.inl rfl)
theorem lv_law_after (k : Nat) : TabAt P w K mg base (k + 3) s_law_after := tab_def (lv := k + 2) (c := c_law_after) (body := x_law_after) (wld_no B (by omega) rfl rfl rfl (by decide) trivial (fun _ e => nomatch e)) D.d_law_after sc_law_after rfl (by decide) (by decide) rfl ok_law_after (.inl rfl)
theorem lv_law_right (k : Nat) : TabAt P w K mg base (k + 10) s_law_right := tab_def (lv := k + 9) (c := c_law_right) (body := x_law_right) (wld_no B (by omega) rfl rfl rfl (by decide) ⟨lv_law_rowofcode B D A (k + 5), lv_law_numberof B D A (k + 6), lv_law_after B D A (k + 6), lv_law_holds B D A (k + 0), trivial⟩ (fun _ e => nomatch e)) D.d_law_right sc_law_right rfl (by decide) (by decide) rfl ok_law_right (.inl rfl)
theorem lv_law_codeofnumber (k : Nat) : TabAt P w K mg base (k + 3) s_law_codeofnumber := tab_def (lv := k + 2) (c := c_law_codeofnumber) (body := x_law_codeofnumber) (wld_no B (by omega) rfl rfl rfl (by decide) trivial (fun _ e => nomatch e)) D.d_law_codeofnumber sc_law_codeofnumber rfl (by decide) (by decide) rfl ok_law_codeofnumber (.inl rfl)
theorem lv_law_refused (k : Nat) : TabAt P w K mg base (k + 10) s_law_refused := tab_def (lv := k + 9) (c := c_law_refused) (body := x_law_refused) (wld_no B (by omega) rfl rfl rfl (by decide) ⟨lv_law_holds B D A (k + 0), trivial⟩ (fun _ e => nomatch e)) D.d_law_refused sc_law_refused rfl (by decide) (by decide) rfl ok_law_refused (.inl rfl)
theorem law_ok {f : Addr} {fd : FuncData} (F : Fun K "law" "law" (topS 57) f fd) (k : Nat) : FnOk P w K mg base (L2N.CX P w) (k + 11) f fd ["script"] (spOf K mg s_law) :=
  fn_def (k := k + 10) (c := c_law) (body := x_law) (wld_no B (by omega) rfl rfl rfl (by decide) ⟨lv_law_store B D A (k + 7), lv_law_length B D A (k + 5), lv_law_code B D A (k + 4), lv_law_badn B D A (k + 5), lv_law_badrow B D A (k + 3), lv_law_badcode B D A (k + 3), lv_law_take B D A (k + 6), lv_law_holds B D A (k + 1), lv_law_refused B D A (k + 0), lv_law_right B D A (k + 0), lv_law_rowofcode B D A (k + 6), lv_law_codeofnumber B D A (k + 7), trivial⟩ (fun _ e => nomatch e)) F sc_law rfl (by decide) (by decide) rfl ok_law (.inl rfl)
end
def initS (i : Nat) : Stmt := match topS i with
  | .ClassDef _ _ _ (s :: _) _ _ _ _ _ _ _ => s
  | s => s
theorem sc_ITooLarge : FnScope (["self", "limit"]) (["self", "limit"]) (defScope (initS 13)) := ⟨rfl, rfl, rfl, by decide +kernel, rfl, by decide +kernel, by decide +kernel⟩
theorem bn_ITooLarge : ∀ (kV doc pm : Value) (an : Option Addr) (cdv ct : Value) (us : List Value), us.length = (["self", "limit"] : List Str).length → bindArgs (PySem.W.fnOf "__init__" "TooLarge.__init__" (defArgs (initS 13)) (defBody (initS 13)) (defScope (initS 13)) .none kV doc pm an cdv ct) ⟨us, []⟩ = pure ((["self", "limit"] : List Str).zip us) := fun _ _ _ _ _ _ us hl => match us, hl with | [_, _], _ => rfl
theorem all_mk {l : PySem.W.OpenLaw} {w : World} {K : PySem.W.Frag} {h : Heap} {mg : Str → Option Value} {fa fL c_BadCell c_BadRoad c_BadOrder c_BadWorld c_BadRule c_BadLot c_BadPlane c_BadTree c_BadScene c_NotTold c_BadText c_TooLarge c_StraightError : Addr} {oc : Value} {od an : Option Addr} {osl : Array (Option Value)} {kV doc pm cdv ct : Value}  {u_ROW_LIMIT : Value} {i_TooLarge : Addr} {oc_TooLarge : Value} {od_TooLarge an_TooLarge : Option Addr} {osl_TooLarge : Array (Option Value)} {kV_TooLarge doc_TooLarge pm_TooLarge cdv_TooLarge ct_TooLarge : Value}
    (KX : K.In h) (G : h.Ns mainGlobals mg) (hfa : mg "law" = some (.ref fa))
    (pure : ∀ ns : List Int, ns.length ≤ 63 → (∀ z ∈ ns, Builtin.Int.intBits z ≤ 1048576) → ∃ d, s_law.φ [.scr ns] = .ok (.bl true, d))
    (g_BadCell : PySem.W.nsIn K mainGlobals "BadCell" = some (some (.ref c_BadCell)))
    (g_BadRoad : PySem.W.nsIn K mainGlobals "BadRoad" = some (some (.ref c_BadRoad)))
    (g_BadOrder : PySem.W.nsIn K mainGlobals "BadOrder" = some (some (.ref c_BadOrder)))
    (g_BadWorld : PySem.W.nsIn K mainGlobals "BadWorld" = some (some (.ref c_BadWorld)))
    (g_BadRule : PySem.W.nsIn K mainGlobals "BadRule" = some (some (.ref c_BadRule)))
    (g_BadLot : PySem.W.nsIn K mainGlobals "BadLot" = some (some (.ref c_BadLot)))
    (g_BadPlane : PySem.W.nsIn K mainGlobals "BadPlane" = some (some (.ref c_BadPlane)))
    (g_BadTree : PySem.W.nsIn K mainGlobals "BadTree" = some (some (.ref c_BadTree)))
    (g_BadScene : PySem.W.nsIn K mainGlobals "BadScene" = some (some (.ref c_BadScene)))
    (g_NotTold : PySem.W.nsIn K mainGlobals "NotTold" = some (some (.ref c_NotTold)))
    (g_BadText : PySem.W.nsIn K mainGlobals "BadText" = some (some (.ref c_BadText)))
    (g_TooLarge : PySem.W.nsIn K mainGlobals "TooLarge" = some (some (.ref c_TooLarge)))
    (g_StraightError : PySem.W.nsIn K mainGlobals "StraightError" = some (some (.ref c_StraightError)))
    (z_len : PySem.W.nsIn K mainGlobals "len" = some none)
    (z_range : PySem.W.nsIn K mainGlobals "range" = some none)
    (z_min : PySem.W.nsIn K mainGlobals "min" = some none)
    (z_max : PySem.W.nsIn K mainGlobals "max" = some none)
    (z_abs : PySem.W.nsIn K mainGlobals "abs" = some none)
    (z_int : PySem.W.nsIn K mainGlobals "int" = some none)
    (z_sum : PySem.W.nsIn K mainGlobals "sum" = some none)
    (z_any : PySem.W.nsIn K mainGlobals "any" = some none)
    (z_all : PySem.W.nsIn K mainGlobals "all" = some none)
    (z_isinstance : PySem.W.nsIn K mainGlobals "isinstance" = some none)
    (z_list : PySem.W.nsIn K mainGlobals "list" = some none)
    (z_tuple : PySem.W.nsIn K mainGlobals "tuple" = some none)
    (z_sorted : PySem.W.nsIn K mainGlobals "sorted" = some none)
    (z_bool : PySem.W.nsIn K mainGlobals "bool" = some none)
    (z_str : PySem.W.nsIn K mainGlobals "str" = some none)
    (z_reversed : PySem.W.nsIn K mainGlobals "reversed" = some none)
    (z_enumerate : PySem.W.nsIn K mainGlobals "enumerate" = some none)
    (z_ValueError : PySem.W.nsIn K mainGlobals "ValueError" = some none)
    (q_ROW_LIMIT : PySem.W.nsIn K mainGlobals "ROW_LIMIT" = some (some u_ROW_LIMIT))
    (r_ROW_LIMIT : RelV (.int 30) u_ROW_LIMIT)
    (b1_TooLarge : oexB K c_TooLarge = true)
    (b2_TooLarge : PySem.W.findIn K (.ref c_TooLarge) "__init__" = some (some (.ref i_TooLarge)))
    (b3_TooLarge : PySem.W.typeIn K (.ref i_TooLarge) = some (.type "function"))
    (b4_TooLarge_limit : PySem.W.findIn K (.ref c_TooLarge) "limit" = some none)
    (b5_TooLarge : K.lookup i_TooLarge = some ⟨oc_TooLarge, od_TooLarge, .func (PySem.W.fnOf "__init__" "TooLarge.__init__" (defArgs (initS 13)) (defBody (initS 13)) (defScope (initS 13)) .none kV_TooLarge doc_TooLarge pm_TooLarge an_TooLarge cdv_TooLarge ct_TooLarge), osl_TooLarge⟩)
    (b6_TooLarge : PySem.W.codeIn K cdv_TooLarge "TooLarge.__init__" = true)
    (b7_TooLarge : PySem.W.keepIn K (.ref i_TooLarge) = true)
    (b1_BadOrder : PySem.W.excInitIn K c_BadOrder PySem.HandSPX.veTail "ValueError.__new__" = true)
    (b2_BadOrder : PySem.W.findIn K (.ref c_BadOrder) "__init__" = some (some (.builtin "ValueError.__init__")))
    (b3_BadOrder : PySem.W.keepIn K (.ref c_BadOrder) = true)
    (b4_BadOrder : PySem.W.subIn K (.ref c_BadOrder) (.type "BaseException") = some true)
    (b5_BadOrder : PySem.W.typeIn K (.ref c_BadOrder) = some (.type "type"))
    (kn_TooLarge : knownB ET K c_TooLarge c_StraightError "TooLarge" [("BadCell", .ref c_BadCell), ("BadRoad", .ref c_BadRoad), ("BadOrder", .ref c_BadOrder), ("BadWorld", .ref c_BadWorld), ("BadRule", .ref c_BadRule), ("BadLot", .ref c_BadLot), ("BadPlane", .ref c_BadPlane), ("BadTree", .ref c_BadTree), ("BadScene", .ref c_BadScene), ("NotTold", .ref c_NotTold), ("BadText", .ref c_BadText), ("TooLarge", .ref c_TooLarge), ("ValueError", .type "ValueError")] Fs = true)
    (kn_BadOrder : knownB ET K c_BadOrder c_StraightError "BadOrder" [("BadCell", .ref c_BadCell), ("BadRoad", .ref c_BadRoad), ("BadOrder", .ref c_BadOrder), ("BadWorld", .ref c_BadWorld), ("BadRule", .ref c_BadRule), ("BadLot", .ref c_BadLot), ("BadPlane", .ref c_BadPlane), ("BadTree", .ref c_BadTree), ("BadScene", .ref c_BadScene), ("NotTold", .ref c_NotTold), ("BadText", .ref c_BadText), ("TooLarge", .ref c_TooLarge), ("ValueError", .type "ValueError")] Fs = true)
    (dd : Defs K mg)
    (aL : PySem.W.nsIn K mainGlobals "law" = some (some (.ref fL)))
    (lL : K.lookup fL = some ⟨oc, od, .func (PySem.W.fnOf "law" "law" (defArgs (topS 57)) (defBody (topS 57)) (defScope (topS 57)) .none kV doc pm an cdv ct), osl⟩)
    (cL : PySem.W.codeIn K cdv "law" = true)
    (kL : PySem.W.keepIn K (.ref fL) = true) :
    ∃ fd : FuncData, (∀ (s : Shared) (v : Value), BindsTo s fd ⟨[v], []⟩ [("script", v)]) ∧ ∀ base : Heap, K.In base → base.Ns mainGlobals mg → FnOk l.prog w K mg base (L2N.CX l.prog w) 20 fa fd ["script"] (spLw K) := by
  have e := hfa.symm.trans (PySem.W.mg_of KX G aL)
  cases e
  have blt : ∀ (x : Str), x ∈ blts → mg x = none := fun x hx => by
    unfold blts at hx
    simp only [List.mem_cons, List.not_mem_nil, or_false] at hx
    rcases hx with rfl | rfl | rfl | rfl | rfl | rfl | rfl | rfl | rfl | rfl | rfl | rfl | rfl | rfl | rfl | rfl | rfl
    · exact PySem.W.mg_none_of KX G z_len
    · exact PySem.W.mg_none_of KX G z_range
    · exact PySem.W.mg_none_of KX G z_min
    · exact PySem.W.mg_none_of KX G z_max
    · exact PySem.W.mg_none_of KX G z_abs
    · exact PySem.W.mg_none_of KX G z_int
    · exact PySem.W.mg_none_of KX G z_sum
    · exact PySem.W.mg_none_of KX G z_any
    · exact PySem.W.mg_none_of KX G z_all
    · exact PySem.W.mg_none_of KX G z_isinstance
    · exact PySem.W.mg_none_of KX G z_list
    · exact PySem.W.mg_none_of KX G z_tuple
    · exact PySem.W.mg_none_of KX G z_sorted
    · exact PySem.W.mg_none_of KX G z_bool
    · exact PySem.W.mg_none_of KX G z_str
    · exact PySem.W.mg_none_of KX G z_reversed
    · exact PySem.W.mg_none_of KX G z_enumerate
  have hB : ∀ base : Heap, WB l.prog w K mg base Xl Cl := fun base => by
    refine ⟨blt, fun x v e => ?_, ⟨_, PySem.W.mg_of KX G g_StraightError⟩, fun cn fs e X h1 h2 h3 h4 h5 hr => ?_⟩
    · unfold Cl at e
      rw [List.lookup_cons] at e
      split at e
      · rename_i q
        have q := eq_of_beq q
        subst q
        cases e
        exact ⟨_, PySem.W.mg_of KX G q_ROW_LIMIT, r_ROW_LIMIT⟩
      cases e
    · subst h2 h3 h4 h5
      unfold Xl at e
      rw [List.lookup_cons] at e
      split at e
      · rename_i q
        have q := eq_of_beq q
        subst q
        cases e
        exact rai_clsO (clsO_mk KX G g_TooLarge b1_TooLarge b2_TooLarge b3_TooLarge (fun f hf => by simp only [List.mem_cons, List.not_mem_nil, or_false] at hf; rcases hf with rfl; all_goals assumption) b5_TooLarge b6_TooLarge b7_TooLarge bn_ITooLarge) sc_ITooLarge rfl (by decide) (by decide) hr
      rw [List.lookup_cons] at e
      split at e
      · rename_i q
        have q := eq_of_beq q
        subst q
        cases e
        exact rai_clsB (clsB_mk KX G g_BadOrder b1_BadOrder b2_BadOrder b3_BadOrder b4_BadOrder b5_BadOrder)
      cases e
  have hA : AskF K mg := by
    have q := askW_mk (K := K) (mg := mg) (E := ET) (CA := [("BadCell", .ref c_BadCell), ("BadRoad", .ref c_BadRoad), ("BadOrder", .ref c_BadOrder), ("BadWorld", .ref c_BadWorld), ("BadRule", .ref c_BadRule), ("BadLot", .ref c_BadLot), ("BadPlane", .ref c_BadPlane), ("BadTree", .ref c_BadTree), ("BadScene", .ref c_BadScene), ("NotTold", .ref c_NotTold), ("BadText", .ref c_BadText), ("TooLarge", .ref c_TooLarge), ("ValueError", .type "ValueError")]) (Cs := Cs) (Fs := Fs) (S := c_StraightError) (blt _ (by decide)) rfl (fun p hp => ?_) (fun cn fs hk => ?_)
    · exact ⟨q.1, _, PySem.W.mg_of KX G g_StraightError, q.2⟩
    · simp only [List.mem_cons, List.not_mem_nil, or_false] at hp
      rcases hp with rfl | rfl | rfl | rfl | rfl | rfl | rfl | rfl | rfl | rfl | rfl | rfl | rfl
      · exact .inl ⟨_, rfl, PySem.W.mg_of KX G g_BadCell⟩
      · exact .inl ⟨_, rfl, PySem.W.mg_of KX G g_BadRoad⟩
      · exact .inl ⟨_, rfl, PySem.W.mg_of KX G g_BadOrder⟩
      · exact .inl ⟨_, rfl, PySem.W.mg_of KX G g_BadWorld⟩
      · exact .inl ⟨_, rfl, PySem.W.mg_of KX G g_BadRule⟩
      · exact .inl ⟨_, rfl, PySem.W.mg_of KX G g_BadLot⟩
      · exact .inl ⟨_, rfl, PySem.W.mg_of KX G g_BadPlane⟩
      · exact .inl ⟨_, rfl, PySem.W.mg_of KX G g_BadTree⟩
      · exact .inl ⟨_, rfl, PySem.W.mg_of KX G g_BadScene⟩
      · exact .inl ⟨_, rfl, PySem.W.mg_of KX G g_NotTold⟩
      · exact .inl ⟨_, rfl, PySem.W.mg_of KX G g_BadText⟩
      · exact .inl ⟨_, rfl, PySem.W.mg_of KX G g_TooLarge⟩
      · exact .inr ⟨_, rfl, PySem.W.mg_none_of KX G z_ValueError, by decide, by decide +kernel⟩
    · have hk : decide ((cn, fs.map Prod.fst) ∈ (Xl : List (Str × List Str))) = true := hk
      have hk := of_decide_eq_true hk
      unfold Xl at hk
      simp only [List.mem_cons, List.not_mem_nil, or_false, Prod.mk.injEq] at hk
      rcases hk with ⟨rfl, _⟩ | ⟨rfl, _⟩
      · exact ⟨_, PySem.W.mg_of KX G g_TooLarge, kn_TooLarge⟩
      · exact ⟨_, PySem.W.mg_of KX G g_BadOrder, kn_BadOrder⟩
  have F := fun_mk (st := topS 57) lL cL kL
  exact ⟨_, fun s v => .of_eq (bn_law kV doc pm an cdv ct [v] rfl), fun base _ _ => law_sp rfl rfl rfl (law_ok (hB base) dd hA F 9) pure⟩
end OS
namespace OS
open PySem PySem.Spec PyProof.Rows L2
local macro_rules | `(tactic| walk_at "own S") => `(tactic| (((fail_if_success (with_reducible refine isMod ?_)); (fail_if_success (with_reducible refine isFdiv ?_)); (fail_if_success (with_reducible refine isMul ?_)); (fail_if_success (with_reducible refine isCut ?_)); (with_reducible apply opt_some); rfl)))
local macro_rules | `(tactic| walk_at "own S") => `(tactic| (with_reducible refine opt_sub ?_))
local macro_rules | `(tactic| walk_at "own S") => `(tactic| (with_reducible refine opt_add ?_))
local macro_rules | `(tactic| walk_at "own S") => `(tactic| (((with_reducible apply fp_callIo); rfl; rfl; rfl)))
local macro_rules | `(tactic| walk_at "own S") => `(tactic| (((with_reducible apply fp_call); rfl; rfl; rfl)))
local macro_rules | `(tactic| walk_at "own S") => `(tactic| (((with_reducible apply op_inn2); rfl)))
local macro_rules | `(tactic| walk_at "own S") => `(tactic| (((with_reducible apply mp_appN); rfl)))
local macro_rules | `(tactic| walk_at "own S") => `(tactic| (((with_reducible apply op_retM); rfl)))
local macro_rules | `(tactic| walk_at "own S") => `(tactic| (((with_reducible apply opW_aug); rfl)))
local macro_rules | `(tactic| walk_at "own S") => `(tactic| (((with_reducible apply mp_popAt); rfl)))
local macro_rules | `(tactic| walk_at "own S") => `(tactic| (((with_reducible apply mp_ins); rfl)))
local macro_rules | `(tactic| walk_at "own S") => `(tactic| (((with_reducible apply mp_app); rfl)))
local macro_rules | `(tactic| walk_at "own S") => `(tactic| (((with_reducible apply mp_callIo); rfl)))
local macro_rules | `(tactic| walk_at "own S") => `(tactic| (((with_reducible apply mp_lenO); rfl)))
local macro_rules | `(tactic| walk_at "own S") => `(tactic| (((with_reducible apply mp_idxO); rfl)))
local macro_rules | `(tactic| walk_at "own S") => `(tactic| (((with_reducible apply mp_var); rfl)))
local macro_rules | `(tactic| walk_at "own S") => `(tactic| (with_reducible refine sq_t ?_))
local macro_rules | `(tactic| walk_at "own S") => `(tactic| (with_reducible refine sq_l ?_))
local macro_rules | `(tactic| walk_at "own S") => `(tactic| (with_reducible refine ls_mk ?_))
local macro_rules | `(tactic| walk_at "own S") => `(tactic| (with_reducible refine ss_mk ?_))
local macro_rules | `(tactic| walk_at "own S") => `(tactic| (with_reducible refine bl_mk ?_))
local macro_rules | `(tactic| walk_at "own S") => `(tactic| (with_reducible refine mp_slS ?_))
local macro_rules | `(tactic| walk_at "own S") => `(tactic| (with_reducible refine op_tryC ?_))
local macro_rules | `(tactic| walk_at "own S") => `(tactic| (with_reducible refine mp_wEnum ?_))
local macro_rules | `(tactic| walk_at "own S") => `(tactic| (with_reducible refine mp_cntT ?_))
local macro_rules | `(tactic| walk_at "own S") => `(tactic| (with_reducible refine mp_cntS ?_))
local macro_rules | `(tactic| walk_at "own S") => `(tactic| (with_reducible refine mp_index ?_))
local macro_rules | `(tactic| walk_at "own S") => `(tactic| (with_reducible refine mp_join ?_))
local macro_rules | `(tactic| walk_at "own S") => `(tactic| (with_reducible refine iteNF ?_))
local macro_rules | `(tactic| walk_at "own S") => `(tactic| (with_reducible refine iteNT ?_))
local macro_rules | `(tactic| walk_at "own S") => `(tactic| (with_reducible refine iteT ?_))
local macro_rules | `(tactic| walk_at "own S") => `(tactic| (with_reducible refine iteF ?_))
local macro_rules | `(tactic| walk_at "own S") => `(tactic| (with_reducible refine in_mk ?_))
local macro_rules | `(tactic| walk_at "own S") => `(tactic| (with_reducible refine mp_tsc ?_))
local macro_rules | `(tactic| walk_at "own S") => `(tactic| (with_reducible refine mp_tsn ?_))
local macro_rules | `(tactic| walk_at "own S") => `(tactic| (with_reducible refine mp_sortT ?_))
local macro_rules | `(tactic| walk_at "own S") => `(tactic| (with_reducible refine mp_sortI ?_))
local macro_rules | `(tactic| walk_at "own S") => `(tactic| (with_reducible refine mp_wRv2 ?_))
local macro_rules | `(tactic| walk_at "own S") => `(tactic| (with_reducible refine mp_wRv1 ?_))
local macro_rules | `(tactic| walk_at "own S") => `(tactic| (with_reducible refine mp_borT ?_))
local macro_rules | `(tactic| walk_at "own S") => `(tactic| (with_reducible refine mp_borA ?_))
local macro_rules | `(tactic| walk_at "own S") => `(tactic| (with_reducible refine mp_bor ?_))
local macro_rules | `(tactic| walk_at "own S") => `(tactic| (with_reducible refine mp_prim ?_))
local macro_rules | `(tactic| walk_at "own S") => `(tactic| (with_reducible refine mp_pli ?_))
local macro_rules | `(tactic| walk_at "own S") => `(tactic| (with_reducible refine mp_pl ?_))
local macro_rules | `(tactic| walk_at "own S") => `(tactic| (with_reducible refine mp_rep ?_))
local macro_rules | `(tactic| walk_at "own S") => `(tactic| (with_reducible refine mp_cat ?_))
local macro_rules | `(tactic| walk_at "own S") => `(tactic| (with_reducible refine mp_oc ?_))
local macro_rules | `(tactic| walk_at "own S") => `(tactic| (with_reducible refine mp_on ?_))
local macro_rules | `(tactic| walk_at "own S") => `(tactic| (with_reducible refine mp_sl ?_))
local macro_rules | `(tactic| walk_at "own S") => `(tactic| (with_reducible refine mp_ife ?_))
local macro_rules | `(tactic| walk_at "own S") => `(tactic| (with_reducible refine mp_isi ?_))
local macro_rules | `(tactic| walk_at "own S") => `(tactic| (with_reducible refine mp_tupOf ?_))
local macro_rules | `(tactic| walk_at "own S") => `(tactic| (with_reducible refine mp_listOf ?_))
local macro_rules | `(tactic| walk_at "own S") => `(tactic| (with_reducible refine mp_rng ?_))
local macro_rules | `(tactic| walk_at "own S") => `(tactic| (with_reducible refine mp_wRng2 ?_))
local macro_rules | `(tactic| walk_at "own S") => `(tactic| (with_reducible refine mp_wRng1 ?_))
local macro_rules | `(tactic| walk_at "own S") => `(tactic| (with_reducible refine mp_wSeq ?_))
local macro_rules | `(tactic| walk_at "own S") => `(tactic| (with_reducible refine mp_len ?_))
local macro_rules | `(tactic| walk_at "own S") => `(tactic| (with_reducible refine mp_lnkE ?_))
local macro_rules | `(tactic| walk_at "own S") => `(tactic| (with_reducible refine mp_lnk ?_))
local macro_rules | `(tactic| walk_at "own S") => `(tactic| (with_reducible refine mp_chn ?_))
local macro_rules | `(tactic| walk_at "own S") => `(tactic| (with_reducible refine mp_inn ?_))
local macro_rules | `(tactic| walk_at "own S") => `(tactic| (with_reducible refine mp_isN ?_))
local macro_rules | `(tactic| walk_at "own S") => `(tactic| (with_reducible refine mp_neg ?_))
local macro_rules | `(tactic| walk_at "own S") => `(tactic| (with_reducible refine mp_not ?_))
local macro_rules | `(tactic| walk_at "own S") => `(tactic| (with_reducible refine mp_or ?_))
local macro_rules | `(tactic| walk_at "own S") => `(tactic| (with_reducible refine mp_and ?_))
local macro_rules | `(tactic| walk_at "own S") => `(tactic| (with_reducible refine mp_one ?_))
local macro_rules | `(tactic| walk_at "own S") => `(tactic| (with_reducible refine mp_tnot ?_))
local macro_rules | `(tactic| walk_at "own S") => `(tactic| (with_reducible refine mp_tor ?_))
local macro_rules | `(tactic| walk_at "own S") => `(tactic| (with_reducible refine mp_tand ?_))
local macro_rules | `(tactic| walk_at "own S") => `(tactic| (with_reducible refine mp_tone ?_))
local macro_rules | `(tactic| walk_at "own S") => `(tactic| (with_reducible refine mp_tru ?_))
local macro_rules | `(tactic| walk_at "own S") => `(tactic| (with_reducible refine mp_gint ?_))
local macro_rules | `(tactic| walk_at "own S") => `(tactic| (with_reducible refine mp_non ?_))
local macro_rules | `(tactic| walk_at "own S") => `(tactic| (with_reducible refine mp_bl ?_))
local macro_rules | `(tactic| walk_at "own S") => `(tactic| (with_reducible refine mp_str ?_))
local macro_rules | `(tactic| walk_at "own S") => `(tactic| (with_reducible refine mp_lst ?_))
local macro_rules | `(tactic| walk_at "own S") => `(tactic| (with_reducible refine mp_tup ?_))
local macro_rules | `(tactic| walk_at "own S") => `(tactic| (with_reducible refine mp_bi ?_))
local macro_rules | `(tactic| walk_at "own S") => `(tactic| (with_reducible refine mp_eq ?_))
local macro_rules | `(tactic| walk_at "own S") => `(tactic| (with_reducible refine mp_idx ?_))
local macro_rules | `(tactic| walk_at "own S") => `(tactic| (with_reducible refine mp_tst ?_))
local macro_rules | `(tactic| walk_at "own S") => `(tactic| (with_reducible refine mp_ln ?_))
local macro_rules | `(tactic| walk_at "own S") => `(tactic| (with_reducible refine mp_lc ?_))
local macro_rules | `(tactic| walk_at "own S") => `(tactic| (with_reducible refine mp_callD0 ?_))
local macro_rules | `(tactic| walk_at "own S") => `(tactic| (with_reducible refine mp_callK ?_))
local macro_rules | `(tactic| walk_at "own S") => `(tactic| (with_reducible refine mp_call ?_))
local macro_rules | `(tactic| walk_at "own S") => `(tactic| (with_reducible refine mp_cmp ?_))
local macro_rules | `(tactic| walk_at "own S") => `(tactic| (with_reducible refine mp_int ?_))
local macro_rules | `(tactic| walk_at "own S") => `(tactic| (with_reducible refine mp_bin ?_))
local macro_rules | `(tactic| walk_at "own S") => `(tactic| (with_reducible refine op_retN ?_))
local macro_rules | `(tactic| walk_at "own S") => `(tactic| (with_reducible refine op_swp ?_))
local macro_rules | `(tactic| walk_at "own S") => `(tactic| (with_reducible refine op_try ?_))
local macro_rules | `(tactic| walk_at "own S") => `(tactic| (with_reducible refine op_asg ?_))
local macro_rules | `(tactic| walk_at "own S") => `(tactic| (with_reducible refine op_rai ?_))
local macro_rules | `(tactic| walk_at "own S") => `(tactic| (with_reducible refine op_cnt ?_))
local macro_rules | `(tactic| walk_at "own S") => `(tactic| (with_reducible refine op_brk ?_))
local macro_rules | `(tactic| walk_at "own S") => `(tactic| (with_reducible refine op_pass ?_))
local macro_rules | `(tactic| walk_at "own S") => `(tactic| (with_reducible refine op_frz ?_))
local macro_rules | `(tactic| walk_at "own S") => `(tactic| (with_reducible refine op_setI ?_))
local macro_rules | `(tactic| walk_at "own S") => `(tactic| (with_reducible refine op_fr ?_))
local macro_rules | `(tactic| walk_at "own S") => `(tactic| (with_reducible refine op_nil ?_))
local macro_rules | `(tactic| walk_at "own S") => `(tactic| (with_reducible refine op_ret ?_))
local macro_rules | `(tactic| walk_at "own S") => `(tactic| (with_reducible refine op_ite ?_))
local macro_rules | `(tactic| walk_at "own S") => `(tactic| (with_reducible refine op_ex ?_))
local macro_rules | `(tactic| walk_at "own S") => `(tactic| (with_reducible refine op_asgT ?_))
local macro_rules | `(tactic| walk_at "own S") => `(tactic| (with_reducible refine op_asgA ?_))
local macro_rules | `(tactic| walk_at "own S") => `(tactic| (with_reducible refine op_asgN ?_))
local macro_rules | `(tactic| walk_at "own EVX s") => `(tactic| (((with_reducible apply ite_f); rfl)))
local macro_rules | `(tactic| walk_at "own EVX s") => `(tactic| (((with_reducible apply ite_t); rfl)))
local macro_rules | `(tactic| walk_at "own EVX s") => `(tactic| (walk_at "own S"))
local macro_rules | `(tactic| walk_at "own EVX s") => `(tactic| (with_reducible refine op_seq ?_))
local macro_rules | `(tactic| walk_at "own EVX") => `(tactic| (repeat walk_at "own EVX s"))
local macro_rules | `(tactic| walk_at "own EV s") => `(tactic| (walk_at "own S"))
local macro_rules | `(tactic| walk_at "own EV s") => `(tactic| (with_reducible refine op_seq ?_))
local macro_rules | `(tactic| walk_at "own EV") => `(tactic| (repeat walk_at "own EV s"))
local macro_rules | `(tactic| walk_at "own EVX1 s") => `(tactic| (((with_reducible apply ite_f); rfl)))
local macro_rules | `(tactic| walk_at "own EVX1 s") => `(tactic| (((with_reducible apply ite_t); rfl)))
local macro_rules | `(tactic| walk_at "own EVX1 s") => `(tactic| (walk_at "own S"))
local macro_rules | `(tactic| walk_at "own EVX1") => `(tactic| (repeat walk_at "own EVX1 s"))
local macro_rules | `(tactic| walk_at "own EV1 s") => `(tactic| (walk_at "own S"))
local macro_rules | `(tactic| walk_at "own EV1") => `(tactic| (repeat walk_at "own EV1 s"))
theorem small_of {r m : Int} (h0 : 0 ≤ r) (h1 : r < m) (n : Nat) (hm : m ≤ 2 ^ n) : r.natAbs < 2 ^ n := by
  have : (r.natAbs : Int) < 2 ^ n := by omega
  exact_mod_cast this
theorem stir_ok (a b : Int) (ha : a.natAbs < 2 ^ 2000) (hb : b.natAbs < 2 ^ 2000) {X : EX} : FP (s_law_stir.φ [.int a, .int b]) (fun d _ => ∃ i, d = .int i ∧ 0 ≤ i ∧ i < 2147483648) X := by
  unfold s_law_stir
  with_reducible refine fp_run ?_
  unfold x_law_stir
  walk_at "own EV"
  refine opt_mul 2000 17 ha (by decide) (by decide) ?_
  walk_at "own EV"
  refine opt_mul 2000 17 hb (by decide) (by decide) ?_
  walk_at "own EV"
  refine opt_modr (by decide) fun low l0 l1 => ?_
  have hl := small_of l0 l1 31 (by decide)
  walk_at "own EV"
  refine opt_mul 31 31 hl hl (by decide) ?_
  walk_at "own EV"
  refine opt_mul 31 17 hl (by decide) (by decide) ?_
  walk_at "own EV"
  refine opt_mul 2000 17 hb (by decide) (by decide) ?_
  walk_at "own EV"
  refine opt_modr (by decide) fun mid m0 m1 => ?_
  have hm := small_of m0 m1 31 (by decide)
  walk_at "own EV"
  refine opt_mul 31 31 hm hm (by decide) ?_
  walk_at "own EV"
  refine opt_mul 31 17 hm (by decide) (by decide) ?_
  walk_at "own EV"
  refine opt_modr (by decide) fun r r0 r1 => ?_
  exact ⟨fun e => (nomatch e), fun e => (nomatch e), r, rfl, r0, by omega⟩
def B480 : Int := 10 ^ 480
theorem b480_gt : 2147483647 < B480 := by unfold B480; decide
theorem b480_60 : 2 ^ 60 < B480 := by unfold B480; decide
theorem b480_of {i : Int} (h0 : 0 ≤ i) (h1 : i < B480 + 2147483647) : i.natAbs < 2 ^ 2000 := by
  have c : B480 + 2147483647 ≤ ((2 ^ 2000 : Nat) : Int) := by unfold B480; decide +kernel
  have : (i.natAbs : Int) < ((2 ^ 2000 : Nat) : Int) := by rw [Int.natAbs_of_nonneg h0]; exact Int.lt_of_lt_of_le h1 c
  exact Int.ofNat_lt.mp this
def Sto (b : Nat) (st : D) : Prop := ∃ (cs : List Int) (pos rest turn seed : Int), st = .lst [.lst (cs.map .int), .int pos, .int rest, .int turn, .int seed] ∧ (∀ c ∈ cs, 0 ≤ c ∧ c < B480) ∧ 0 ≤ pos ∧ 0 ≤ rest ∧ rest < B480 ∧ 0 ≤ turn ∧ turn + b < 2 ^ 60 ∧ 0 ≤ seed ∧ seed < 2147483647
theorem Sto.le {b b' : Nat} {st : D} (h : Sto b st) (l : b' ≤ b) : Sto b' st := by
  obtain ⟨cs, pos, rest, turn, seed, rfl, hcs, hp, hr0, hr1, ht0, ht1, hs0, hs1⟩ := h
  exact ⟨cs, pos, rest, turn, seed, rfl, hcs, hp, hr0, hr1, ht0, by omega, hs0, hs1⟩
theorem take_ok {st : D} {b : Nat} {many : Int} {X : EX} (hs : Sto (b + 1) st) (hm : many ≤ 1000000) : FP (s_law_take.φ [st, .int many]) (fun d st' => ∃ r, d = .int r ∧ 0 ≤ r ∧ (r < many ∨ r = 0) ∧ Sto b st') X := by
  obtain ⟨cs, pos, rest, turn, seed, rfl, hcs, hp, hr0, hr1, ht0, ht1, hs0, hs1⟩ := hs
  unfold s_law_take
  with_reducible refine fp_run ?_
  unfold x_law_take
  refine op_seq ?_
  walk_at "own EV1"
  refine ite_b (fun h => ?_) (fun h => ?_)
  · walk_at "own EV"
    exact ⟨fun e => (nomatch e), fun _ => rfl, 0, rfl, by omega, .inr rfl, cs, pos, rest, turn, seed, rfl, hcs, hp, hr0, hr1, ht0, by omega, hs0, hs1⟩
  simp [cmpI] at h
  have big := b480_gt
  have big6 := b480_60
  walk_at "own EV1"
  refine op_seq ?_
  walk_at "own EV1"
  refine op_seq ?_
  walk_at "own EV1"
  refine op_seqI (fun ρ => ∃ pos' rest' cell, ρ = [some (.lst [.lst (cs.map .int), .int pos', .int rest', .int (turn + 1), .int seed]), some (.int many), some (.int cell), none] ∧ 0 ≤ pos' ∧ 0 ≤ rest' ∧ rest' < B480 ∧ 0 ≤ cell ∧ cell < B480) ?_ ?_
  · have keep : ∃ pos' rest' cell, ([some (.lst [.lst (cs.map .int), .int pos, .int rest, .int (turn + 1), .int seed]), some (.int many), some (.int seed), none] : Slots) = [some (.lst [.lst (cs.map .int), .int pos', .int rest', .int (turn + 1), .int seed]), some (.int many), some (.int cell), none] ∧ 0 ≤ pos' ∧ 0 ≤ rest' ∧ rest' < B480 ∧ 0 ≤ cell ∧ cell < B480 := ⟨pos, rest, seed, rfl, hp, hr0, hr1, hs0, by omega⟩
    walk_at "own EV1"
    refine ite_b (fun h1 => ?_) (fun h1 => ?_)
    · walk_at "own EV1"
      refine ite_b (fun h2 => ?_) (fun h2 => ?_)
      · simp [cmpI] at h2
        walk_at "own EV"
        refine opt_idx hp (by simpa using h2) fun d hd => ?_
        rw [List.getElem?_map] at hd
        obtain ⟨c, hc, rfl⟩ := Option.map_eq_some_iff.mp hd
        obtain ⟨c0, c1⟩ := hcs c (List.mem_of_getElem? hc)
        walk_at "own EV"
        refine ite_b (fun h3 => ?_) (fun h3 => ?_)
        · walk_at "own EV"
          exact ⟨pos + 1, c, c, rfl, by omega, c0, c1, c0, c1⟩
        · walk_at "own EV"
          exact ⟨pos + 1, rest, c, rfl, by omega, hr0, hr1, c0, c1⟩
      · walk_at "own EV"
        exact keep
    · walk_at "own EV"
      exact keep
  · rintro ρ ⟨pos', rest', cell, rfl, q0, q1, q2, q3, q4⟩
    refine op_seq ?_
    walk_at "own EV1"
    refine ite_b (fun h1 => ?_) (fun h1 => ?_)
    · simp [cmpI] at h1
      have hlog : many.natAbs.log2 < 9000 := by
        have : many.natAbs < 2 ^ 20 := by omega
        have := (Nat.log2_lt (by omega)).mpr this
        omega
      walk_at "own EV"
      refine opt_fdiv ⟨by omega, hlog⟩ ?_
      walk_at "own EV"
      refine opt_modr (by omega) fun r r0 r1 => ?_
      have d1 : rest' / many ≤ rest' := Int.ediv_le_self _ q1
      exact ⟨fun e => (nomatch e), fun _ => rfl, r, rfl, r0, .inl r1, cs, pos', rest' / many, turn + 1, seed, rfl, hcs, q0, Int.ediv_nonneg q1 (by omega), by omega, by omega, by omega, hs0, hs1⟩
    · walk_at "own EV"
      refine (stir_ok (X := X) (cell + seed) (turn + 1) ?_ ?_).mono fun d _ ⟨i, e, i0, i1⟩ => ?_
      · exact b480_of (by omega) (by omega)
      · exact b480_of (by omega) (by omega)
      subst e
      walk_at "own EV"
      refine opt_modr (by omega) fun r r0 r1 => ?_
      exact ⟨fun e => (nomatch e), fun _ => rfl, r, rfl, r0, .inl r1, cs, pos', rest', turn + 1, seed, rfl, hcs, q0, q1, q2, by omega, by omega, hs0, hs1⟩
abbrev dl (l : List Int) : D := .lst (l.map .int)
def rngI (n : Nat) : List Int := (List.range n).map fun (i : Nat) => (i : Int)
theorem rngI_len {n : Nat} : (rngI n).length = n := by simp [rngI]
theorem rngL_rngI {n : Nat} : rngL 0 n = (rngI n).map .int := by
  unfold rngL rngI
  rw [List.map_map]
  refine List.map_congr_left fun i _ => ?_
  simp
theorem noTop : Mode.no = .top → False := fun e => nomatch e
theorem allTop : Mode.all = .top → False := fun e => nomatch e
theorem pick_ok {st : D} {b : Nat} {l : List D} {X : EX} (hs : Sto (b + 1) st) (h0 : 0 < l.length) (h1 : l.length ≤ 1000) : FP (s_law_pick.φ [st, .lst l]) (fun d st' => d ∈ l ∧ Sto b st') X := by
  unfold s_law_pick
  with_reducible refine fp_run ?_
  unfold x_law_pick
  walk_at "own EV"
  refine (take_ok hs (by omega)).mono fun d st' ⟨r, e, r0, r1, hs'⟩ => ?_
  subst e
  walk_at "own EV"
  refine opt_idx r0 (by omega) fun d hd => ?_
  exact ⟨fun e => (nomatch e), fun _ => rfl, List.mem_of_getElem? hd, hs'⟩
theorem near_ok {st : D} {b : Nat} {low high : Int} {X : EX} (hs : Sto (b + 2) st) (hh : high - low ≤ 100000) : FP (s_law_near.φ [st, .int low, .int high]) (fun d st' => ∃ r, d = .int r ∧ low ≤ r ∧ (r ≤ high ∨ r = low) ∧ Sto b st') X := by
  unfold s_law_near
  with_reducible refine fp_run ?_
  unfold x_law_near
  walk_at "own EV"
  refine ite_b (fun h => ?_) (fun h => ?_)
  · walk_at "own EV"
    exact ⟨fun e => (nomatch e), fun _ => rfl, low, rfl, by omega, .inr rfl, hs.le (by omega)⟩
  simp [cmpI] at h
  walk_at "own EV"
  refine (take_ok hs (by omega)).mono fun d st' ⟨r, e, r0, r1, hs'⟩ => ?_
  subst e
  walk_at "own EV"
  refine ite_b (fun h1 => ?_) (fun h1 => ?_)
  · walk_at "own EV"
    exact ⟨fun e => (nomatch e), fun _ => rfl, low, rfl, by omega, .inr rfl, hs'.le (by omega)⟩
  walk_at "own EV"
  refine ite_b (fun h2 => ?_) (fun h2 => ?_)
  · walk_at "own EV"
    exact ⟨fun e => (nomatch e), fun _ => rfl, high, rfl, by omega, .inl (by omega), hs'.le (by omega)⟩
  walk_at "own EV"
  refine (take_ok hs' (by omega)).mono fun d st' ⟨r, e, r0, r1, hs'⟩ => ?_
  subst e
  walk_at "own EV"
  exact ⟨fun e => (nomatch e), fun _ => rfl, low + r, rfl, by omega, by omega, hs'⟩
theorem eraseIdx_perm {α : Type} : ∀ {l : List α} {j : Nat} {d : α}, l[j]? = some d → (d :: l.eraseIdx j).Perm l
  | [], j, d, h => by simp at h
  | x :: r, 0, d, h => by
    simp at h; subst h
    exact List.Perm.refl _
  | x :: r, j + 1, d, h => by
    have ih := eraseIdx_perm (l := r) (j := j) (d := d) (by simpa using h)
    show (d :: x :: r.eraseIdx j).Perm (x :: r)
    exact (List.Perm.swap x d _).trans (ih.cons x)
theorem order_ok {st : D} {b : Nat} {l : List D} {X : EX} (hs : Sto (b + l.length) st) (h1 : l.length ≤ 1000) : FP (s_law_order.φ [st, .lst l]) (fun d st' => ∃ l', d = .lst l' ∧ l'.Perm l ∧ Sto b st') X := by
  unfold s_law_order
  with_reducible refine fp_run ?_
  unfold x_law_order
  walk_at "own EV"
  refine ⟨⟨by omega, by omega⟩, ?_⟩
  have sz : sizeLine = 16777216 := sizeLine_eq
  refine for_rng (fun i ρ => ∃ st' left made y, ρ = [some st', some (.lst l), some (.lst left), some (.lst made), y] ∧ (made ++ left).Perm l ∧ made.length = i ∧ i + left.length = l.length ∧ Sto (b + left.length) st') ?_ ?_ ?_
  · rintro i ρ hi ⟨st', left, made, y, rfl, hp, hm, hl, hs'⟩
    have hi : i < l.length := by simpa using hi
    walk_at "own EV"
    have hs2 : Sto (b + (left.length - 1) + 1) st' := hs'.le (by omega)
    refine (take_ok hs2 (by omega)).mono fun d st2 ⟨r, e, r0, r1, hs3⟩ => ?_
    subst e
    have hr : r < left.length := by omega
    have hk : r.toNat < left.length := by omega
    refine ⟨left, r, r.toNat, left[r.toNat], rfl, rfl, ⟨by omega, by omega⟩, ?_, List.getElem?_eq_getElem hk, ?_⟩
    · unfold ixN
      rw [if_pos r0, if_pos hr]
    walk_at "own EV"
    refine ⟨by omega, ?_⟩
    walk_at "own EV"
    refine ⟨st2, left.eraseIdx r.toNat, made ++ [left[r.toNat]], _, rfl, ?_, by simp [hm], ?_, ?_⟩
    · rw [List.append_assoc]
      exact ((List.Perm.append_left made (eraseIdx_perm (List.getElem?_eq_getElem hk)))).trans hp
    · rw [List.length_eraseIdx, if_pos hk]; omega
    · rw [List.length_eraseIdx, if_pos hk]; exact hs3
  · rintro ρ ⟨st', left, made, y, rfl, hp, hm, hl, hs'⟩
    have hm : made.length = l.length := by simpa using hm
    have e : left = [] := List.eq_nil_of_length_eq_zero (by omega)
    subst e
    walk_at "own EV"
    exact ⟨fun _ => rfl, fun _ => rfl, made, rfl, by simpa using hp, hs'.le (by simp)⟩
  · exact ⟨st, l, [], none, rfl, by simp, rfl, by simp, hs⟩
theorem perm_ints {l' : List D} {L : List Int} (h : l'.Perm (L.map .int)) : ∃ r : List Int, l' = r.map .int ∧ r.Perm L := by
  refine ⟨l'.map fun d => (asInt d).getD 0, ?_, ?_⟩
  · rw [List.map_map]
    have : ∀ d ∈ l', (D.int ∘ fun d => (asInt d).getD 0) d = id d := fun d hd => by
      obtain ⟨i, _, rfl⟩ := List.mem_map.mp ((h.mem_iff).mp hd)
      rfl
    rw [List.map_congr_left this, List.map_id]
  · have := h.map fun d => (asInt d).getD 0
    rw [List.map_map] at this
    have e : (L.map ((fun d => (asInt d).getD 0) ∘ D.int)) = L := by
      have : ∀ i ∈ L, ((fun d => (asInt d).getD 0) ∘ D.int) i = id i := fun i _ => rfl
      rw [List.map_congr_left this, List.map_id]
    rw [e] at this
    exact this
theorem rev_perm (n : Nat) : ((List.range n).map fun (k : Nat) => (n : Int) - 1 - k).Perm (rngI n) := by
  have e : ((List.range n).map fun (k : Nat) => (n : Int) - 1 - k) = (rngI n).reverse := by
    refine List.ext_getElem (by simp [rngI]) fun i h1 h2 => ?_
    have hi : i < n := by simpa using h1
    rw [List.getElem_map, List.getElem_range, List.getElem_reverse]
    unfold rngI
    rw [List.getElem_map, List.getElem_range, List.length_map, List.length_range]
    omega
  rw [e]
  exact List.reverse_perm _
theorem row_ok {st : D} {b n : Nat} {X : EX} (hs : Sto (b + n + 2) st) (hn : n ≤ 1000) : FP (s_law_row.φ [st, .int n]) (fun d st' => ∃ r : List Int, d = dl r ∧ r.Perm (rngI n) ∧ Sto b st') X := by
  have sz : sizeLine = 16777216 := sizeLine_eq
  unfold s_law_row
  with_reducible refine fp_run ?_
  unfold x_law_row
  walk_at "own EV"
  refine (take_ok (hs.le (b' := b + n + 1 + 1) (by omega)) (by omega)).mono fun d st' ⟨kind, e, _, _, hs'⟩ => ?_
  subst e
  walk_at "own EV"
  refine ⟨⟨by omega, by omega⟩, by rw [rngL_len]; omega, ?_⟩
  have el : rngL 0 ((n : Int)).toNat = (rngI n).map .int := by rw [Int.toNat_natCast]; exact rngL_rngI
  rw [el]
  walk_at "own EV"
  refine ite_b (fun h1 => ?_) (fun h1 => ?_)
  · walk_at "own EV"
    exact ⟨fun _ => rfl, fun _ => rfl, rngI n, rfl, List.Perm.refl _, hs'.le (by omega)⟩
  walk_at "own EV"
  refine ite_b (fun h2 => ?_) (fun h2 => ?_)
  · walk_at "own EV"
    refine mp_comp ?_
    walk_at "own EV"
    refine ⟨⟨by omega, by omega⟩, fun i acc ρ => acc = (List.range i).map (fun (k : Nat) => D.int ((n : Int) - 1 - k)) ∧ ρ = [some st', some (.int n), some (.int kind), some (dl (rngI n)), none, none], ⟨rfl, rfl⟩, ?_, ?_⟩
    · rintro i d acc ρ hd ⟨rfl, rfl⟩
      obtain ⟨hi, rfl⟩ := rngL_get hd
      walk_at "own EV"
      refine ⟨by simp at hi ⊢; omega, ?_, rfl⟩
      rw [List.range_succ, List.map_append]
      simp
    · rintro acc ρ ⟨rfl, rfl⟩
      refine ⟨fun _ => rfl, fun _ => rfl, _, ?_, rev_perm n, hs'.le (by omega)⟩
      show D.lst _ = D.lst _
      rw [List.map_map, rngL_len, Int.toNat_natCast]
      rfl
  walk_at "own EV"
  refine ite_b (fun h3 => ?_) (fun h3 => ?_)
  · walk_at "own EV"
    refine ite_b (fun h4 => ?_) (fun h4 => ?_)
    · simp [cmpI] at h4
      walk_at "own EV"
      refine (take_ok (hs'.le (b' := b + 1) (by omega)) (by omega)).mono fun d st2 ⟨j, e, j0, j1, hs2⟩ => ?_
      subst e
      have hj : j + 1 < n := by omega
      have hlen : ((rngI n).map D.int).length = n := by rw [List.length_map, rngI_len]
      have hj1 : (j + 1).toNat < (rngI n).length := by rw [rngI_len]; omega
      have hj2 : j.toNat < (rngI n).length := by rw [rngI_len]; omega
      walk_at "own EV"
      refine opt_idx (by omega) (by rw [hlen]; omega) fun d1 e1 => ?_
      walk_at "own EV"
      refine opt_idx (by omega) (by rw [hlen]; omega) fun d2 e2 => ?_
      walk_at "own EV"
      refine opt_ixN (by omega) (by rw [hlen]; omega) ?_
      walk_at "own EV"
      refine opt_ixN (by omega) (by rw [List.length_set, hlen]; omega) ?_
      walk_at "own EV"
      rw [List.getElem?_map, List.getElem?_eq_getElem hj1] at e1
      rw [List.getElem?_map, List.getElem?_eq_getElem hj2] at e2
      cases e1
      cases e2
      refine ⟨fun _ => rfl, fun _ => rfl, ((rngI n).set j.toNat (rngI n)[(j + 1).toNat]).set (j + 1).toNat (rngI n)[j.toNat], ?_, List.set_set_perm hj2 hj1, hs2⟩
      show D.lst _ = D.lst _
      rw [List.map_set, List.map_set]
    · walk_at "own EV"
      refine (order_ok (b := b) (l := (rngI n).map .int) (hs'.le (by rw [List.length_map, rngI_len]; omega)) (by rw [List.length_map, rngI_len]; exact hn)).mono fun d st2 ⟨l', e, hp, hs2⟩ => ?_
      subst e
      obtain ⟨r, rfl, hr⟩ := perm_ints hp
      exact ⟨fun _ => rfl, fun _ => rfl, r, rfl, hr, hs2⟩
  · walk_at "own EV"
    refine (order_ok (b := b) (l := (rngI n).map .int) (hs'.le (by rw [List.length_map, rngI_len]; omega)) (by rw [List.length_map, rngI_len]; exact hn)).mono fun d st2 ⟨l', e, hp, hs2⟩ => ?_
    subst e
    obtain ⟨r, rfl, hr⟩ := perm_ints hp
    exact ⟨fun _ => rfl, fun _ => rfl, r, rfl, hr, hs2⟩
/-- a code: at place d a number from 0 to d -/
def IsCode (cs : List Int) : Prop := ∀ (k : Nat) (c : Int), cs[k]? = some c → 0 ≤ c ∧ c ≤ (k : Int)
theorem IsCode.snoc {cs : List Int} {c : Int} (h : IsCode cs) (h0 : 0 ≤ c) (h1 : c ≤ cs.length) : IsCode (cs ++ [c]) := fun k x e => by
  rcases Nat.lt_or_ge k cs.length with q | q
  · rw [List.getElem?_append_left q] at e
    exact h k x e
  · rw [List.getElem?_append_right q] at e
    have hk : k = cs.length := by
      rcases Nat.eq_or_lt_of_le q with w | w
      · exact w.symm
      · rw [List.getElem?_eq_none (by simp; omega)] at e; cases e
    subst hk
    simp at e
    subst e
    exact ⟨h0, h1⟩
theorem code_ok {st : D} {b n : Nat} {X : EX} (hs : Sto (b + 2 * n) st) (hn : n ≤ 1000) : FP (s_law_code.φ [st, .int n]) (fun d st' => ∃ cs : List Int, d = dl cs ∧ cs.length = n ∧ IsCode cs ∧ Sto b st') X := by
  have sz : sizeLine = 16777216 := sizeLine_eq
  unfold s_law_code
  with_reducible refine fp_run ?_
  unfold x_law_code
  walk_at "own EV"
  refine mp_comp ?_
  walk_at "own EV"
  refine ⟨⟨by omega, by omega⟩, fun i acc ρ => ∃ st' cs, acc = cs.map .int ∧ cs.length = i ∧ IsCode cs ∧ Sto (b + 2 * (n - i)) st' ∧ ρ = [some st', some (.int n), none], ⟨st, [], rfl, rfl, fun k c e => by simp at e, by simpa using hs, rfl⟩, ?_, ?_⟩
  · rintro i d acc ρ hd ⟨st', cs, rfl, rfl, hc, hs', rfl⟩
    obtain ⟨hi, rfl⟩ := rngL_get hd
    have hi : cs.length < n := by simpa using hi
    walk_at "own EV"
    refine (near_ok (b := b + 2 * (n - (cs.length + 1))) (hs'.le (by omega)) (by omega)).mono fun d st2 ⟨r, e, r0, r1, hs2⟩ => ?_
    subst e
    refine ⟨by simp; omega, st2, cs ++ [r], by simp, by simp, hc.snoc r0 (by omega), hs2, rfl⟩
  · rintro acc ρ ⟨st', cs, rfl, hl, hc, hs', rfl⟩
    have hl : cs.length = n := by rw [hl, rngL_len, Int.toNat_natCast]
    exact ⟨fun _ => rfl, fun _ => rfl, cs, rfl, hl, hc, hs'.le (by omega)⟩
theorem max_min (n : Int) (h : 0 ≤ n) (h2 : n ≤ 30) : ∃ m : Nat, 1 ≤ m ∧ m ≤ 30 ∧ (if (if (30 : Int) < n then (30 : Int) else n) > 1 then (if (30 : Int) < n then (30 : Int) else n) else 1) = (m : Int) := by
  have e : (if (30 : Int) < n then (30 : Int) else n) = n := if_neg (by omega)
  rw [e]
  split
  · exact ⟨n.toNat, by omega, by omega, by omega⟩
  · exact ⟨1, by omega, by omega, rfl⟩
theorem rngI_mem {n : Nat} {x : Int} : x ∈ rngI n ↔ 0 ≤ x ∧ x < n := by
  unfold rngI
  rw [List.mem_map]
  constructor
  · rintro ⟨i, hi, rfl⟩
    have := List.mem_range.mp hi
    omega
  · rintro ⟨h0, h1⟩
    exact ⟨x.toNat, List.mem_range.mpr (by omega), by omega⟩
theorem rngI_nodup {n : Nat} : (rngI n).Nodup := by
  unfold rngI
  refine List.Pairwise.map _ ?_ List.nodup_range
  intro a b h e
  exact h (by omega)
theorem bad_mem {l : List Int} {x : Int} (hx : x ∈ l) (h : ¬ (0 ≤ x ∧ x < (l.length : Int))) : ¬ l.Perm (rngI l.length) := fun p => h (rngI_mem.mp ((p.mem_iff).mp hx))
theorem set_mem {l : List Int} {k : Nat} {x : Int} (hk : k < l.length) : x ∈ l.set k x := List.mem_iff_getElem.mpr ⟨k, by simpa using hk, by simp⟩
theorem bad_dup {l : List Int} {p q : Nat} (hp : p < l.length) (hq : q < l.length) (hne : q ≠ p) : ¬ (l.set p l[q]).Perm (rngI (l.set p l[q]).length) := fun h => by
  have nd : (l.set p l[q]).Nodup := (h.nodup_iff).mpr rngI_nodup
  have h1 : p < (l.set p l[q]).length := by simpa using hp
  have h2 : q < (l.set p l[q]).length := by simpa using hq
  have e : (l.set p l[q])[p] = (l.set p l[q])[q] := by
    rw [List.getElem_set_self, List.getElem_set_ne (Ne.symm hne)]
  have pw := List.pairwise_iff_getElem.mp nd
  rcases Nat.lt_or_gt_of_ne hne with w | w
  · exact pw q p h2 h1 w e.symm
  · exact pw p q h1 h2 w e
/-- what _law_badrow, _law_badcode give -/
def BadRow (d : D) : Prop := ∃ bad : List Int, (d = .tup [dl bad, .tup [.str "TooLarge", .int 30]] ∧ bad.length = 31) ∨ (d = .tup [dl bad, .tup [.str "BadOrder", .int 0]] ∧ bad.length ≤ 30 ∧ ¬ bad.Perm (rngI bad.length))
theorem badrow_ok {st : D} {b : Nat} {n : Int} {X : EX} (hs : Sto (b + 40) st) (h0 : 0 ≤ n) (h1 : n ≤ 30) : FP (s_law_badrow.φ [st, .int n, .int 30]) (fun d st' => BadRow d ∧ Sto b st') X := by
  unfold s_law_badrow
  with_reducible refine fp_run ?_
  unfold x_law_badrow
  refine op_seq ?_
  walk_at "own EV1"
  refine (take_ok (b := b + 39) hs (by omega)).mono fun d st' ⟨kind, e, _, _, hs'⟩ => ?_
  subst e
  refine op_seq ?_
  walk_at "own EV1"
  refine ite_b (fun g1 => ?_) (fun g1 => ?_)
  · walk_at "own EV"
    refine (row_ok (b := b) (n := 31) (hs'.le (by omega)) (by omega)).mono fun d st2 ⟨r, e, hp, hs2⟩ => ?_
    subst e
    walk_at "own EV"
    exact ⟨fun e => (nomatch e), fun _ => rfl, ⟨r, .inl ⟨rfl, by rw [hp.length_eq, rngI_len]⟩⟩, hs2⟩
  obtain ⟨m, m0, m1, em⟩ := max_min n h0 h1
  walk_at "own EV1"
  refine op_seq ?_
  walk_at "own EV1"
  rw [em]
  refine (row_ok (b := b + 3) (n := m) (hs'.le (by omega)) (by omega)).mono fun d st2 ⟨r, e, hp, hs2⟩ => ?_
  subst e
  have hrl : r.length = m := by rw [hp.length_eq, rngI_len]
  have hll : (r.map D.int).length = m := by rw [List.length_map, hrl]
  walk_at "own EV1"
  refine op_seq ?_
  walk_at "own EV1"
  refine (take_ok (b := b + 2) (hs2.le (by omega)) (by rw [hll]; omega)).mono fun d st3 ⟨pl, e, p0, p1, hs3⟩ => ?_
  subst e
  rw [hll] at p1
  have hp1 : pl < m := by omega
  have hpn : pl.toNat < r.length := by omega
  refine op_seqI (fun ρ => ∃ st' v, ρ = [some st', some (.int n), some (.int 30), some (.int kind), some (dl (r.set pl.toNat v)), some (.int pl)] ∧ ¬ (r.set pl.toNat v).Perm (rngI (r.set pl.toNat v).length) ∧ Sto b st') ?_ ?_
  · have fin : ∀ (st' : D) (v : Int), Sto b st' → ¬ (0 ≤ v ∧ v < (m : Int)) → ∃ st'' v', ([some st', some (.int n), some (.int 30), some (.int kind), some (.lst ((r.map D.int).set pl.toNat (.int v))), some (.int pl)] : Slots) = [some st'', some (.int n), some (.int 30), some (.int kind), some (dl (r.set pl.toNat v')), some (.int pl)] ∧ ¬ (r.set pl.toNat v').Perm (rngI (r.set pl.toNat v').length) ∧ Sto b st'' := fun st' v hs hv =>
      ⟨st', v, by unfold dl; rw [List.map_set], bad_mem (set_mem hpn) (by rw [List.length_set, hrl]; exact hv), hs⟩
    have other : OP (runS noTH .no true c_law_badrow.T (.ite (.tst (.eq false (.var 3) (.int 2))) (.seq (.setI 4 (.var 5) (.bin .sub (.bin .sub (.int 0) (.int 1)) (.callIo 0 0 (.cons (.int 2) .nil)))) .nil) (.seq (.ite (.tst (.eq false (.var 3) (.int 3))) (.seq (.setI 4 (.var 5) (.bin .pow (.int 10) (.int 30))) .nil) (.seq (.setI 4 (.var 5) (.lenO 4)) .nil)) .nil)) [some st3, some (.int n), some (.int 30), some (.int kind), some (dl r), some (.int pl)])
        ⟨fun ρ => ∃ st' v, ρ = [some st', some (.int n), some (.int 30), some (.int kind), some (dl (r.set pl.toNat v)), some (.int pl)] ∧ ¬ (r.set pl.toNat v).Perm (rngI (r.set pl.toNat v).length) ∧ Sto b st', fun _ => False, fun _ => False, fun _ _ => False, NoX⟩ := by
      walk_at "own EV"
      refine ite_b (fun g2 => ?_) (fun g2 => ?_)
      · walk_at "own EV"
        refine (take_ok (b := b + 1) (hs3.le (by omega)) (by omega)).mono fun d st4 ⟨v, e, v0, v1, hs4⟩ => ?_
        subst e
        walk_at "own EV"
        refine opt_ixN p0 (by rw [hll]; exact hp1) ?_
        walk_at "own EV"
        exact fin st4 (0 - 1 - v) (hs4.le (by omega)) (by omega)
      · walk_at "own EV"
        refine ite_b (fun g3 => ?_) (fun g3 => ?_)
        · walk_at "own EV"
          refine opt_ixN p0 (by rw [hll]; exact hp1) ?_
          walk_at "own EV"
          refine fin st3 _ (hs3.le (by omega)) ?_
          have : (m : Int) < 10 ^ (Int.toNat 30) := by
            have : (30 : Int) < 10 ^ (Int.toNat 30) := by decide
            omega
          omega
        · walk_at "own EV"
          refine opt_ixN p0 (by rw [hll]; exact hp1) ?_
          walk_at "own EV"
          exact fin st3 _ (hs3.le (by omega)) (by rw [hll]; omega)
    have other2 := fun p : Po => fun (hN : ∀ ρ, (∃ st' v, ρ = [some st', some (.int n), some (.int 30), some (.int kind), some (dl (r.set pl.toNat v)), some (.int pl)] ∧ ¬ (r.set pl.toNat v).Perm (rngI (r.set pl.toNat v).length) ∧ Sto b st') → p.N ρ) => OP.mono (q := p) other hN (fun _ h => h.elim) (fun _ h => h.elim) (fun _ _ h => h.elim) (fun _ _ h => h.elim)
    walk_at "own EV1"
    refine ite_b (fun g2 => ?_) (fun g2 => ?_)
    · walk_at "own EV1"
      refine ite_b (fun g3 => ?_) (fun g3 => ?_)
      · simp [cmpI, hll] at g3
        walk_at "own EV"
        refine (take_ok (b := b + 1) (hs3.le (by omega)) (by rw [hll]; omega)).mono fun d st4 ⟨v, e, v0, v1, hs4⟩ => ?_
        subst e
        rw [hll] at v1
        walk_at "own EV"
        refine opt_mod (by rw [hll]; omega) ?_
        rw [hll]
        have q0 : 0 ≤ (pl + 1 + v) % (m : Int) := Int.emod_nonneg _ (by omega)
        have q1 : (pl + 1 + v) % (m : Int) < m := Int.emod_lt_of_pos _ (by omega)
        have qn : (pl + 1 + v) % (m : Int) ≠ pl := by
          by_cases hw : pl + 1 + v < m
          · rw [Int.emod_eq_of_lt (by omega) hw]; omega
          · have e : (pl + 1 + v) % (m : Int) = pl + 1 + v - m := by
              rw [← Int.sub_emod_right, Int.emod_eq_of_lt (by omega) (by omega)]
            rw [e]; omega
        refine opt_idx q0 (by rw [hll]; exact q1) fun dv hdv => ?_
        generalize hq : (pl + 1 + v) % (m : Int) = q at q0 q1 qn hdv
        have hqn : q.toNat < r.length := by omega
        rw [List.getElem?_map, List.getElem?_eq_getElem hqn] at hdv
        cases hdv
        walk_at "own EV"
        refine opt_ixN p0 (by rw [hll]; exact hp1) ?_
        walk_at "own EV"
        refine ⟨st4, r[q.toNat], ?_, bad_dup hpn hqn (by omega), hs4.le (by omega)⟩
        unfold dl
        rw [List.map_set]
        rfl
      · walk_at "own EV1"
        refine op_seq ?_
        exact other2 _ fun _ h => op_nil h
    · walk_at "own EV1"
      refine op_seq ?_
      exact other2 _ fun _ h => op_nil h
  · rintro ρ ⟨st', v, rfl, hb, hs4⟩
    walk_at "own EV"
    exact ⟨fun e => (nomatch e), fun _ => rfl, ⟨_, .inr ⟨rfl, by rw [List.length_set, hrl]; exact m1, hb⟩⟩, hs4⟩
def BadCode (d : D) : Prop := ∃ bad : List Int, (d = .tup [dl bad, .tup [.str "TooLarge", .int 30]] ∧ bad.length = 31) ∨ (d = .tup [dl bad, .tup [.str "BadOrder", .int 0]] ∧ bad.length ≤ 30 ∧ ¬ IsCode bad)
theorem bad_code {l : List Int} {k : Nat} {v : Int} (hk : k < l.length) (hv : ¬ (0 ≤ v ∧ v ≤ (k : Int))) : ¬ IsCode (l.set k v) := fun h => hv (h k v (by rw [List.getElem?_set_self hk]))
theorem badcode_ok {st : D} {b : Nat} {n : Int} {X : EX} (hs : Sto (b + 70) st) (h0 : 0 ≤ n) (h1 : n ≤ 30) : FP (s_law_badcode.φ [st, .int n, .int 30]) (fun d st' => BadCode d ∧ Sto b st') X := by
  unfold s_law_badcode
  with_reducible refine fp_run ?_
  unfold x_law_badcode
  refine op_seq ?_
  walk_at "own EV1"
  refine (take_ok (b := b + 69) hs (by omega)).mono fun d st' ⟨kind, e, _, _, hs'⟩ => ?_
  subst e
  refine op_seq ?_
  walk_at "own EV1"
  refine ite_b (fun g1 => ?_) (fun g1 => ?_)
  · walk_at "own EV"
    refine (code_ok (b := b) (n := 31) (hs'.le (by omega)) (by omega)).mono fun d st2 ⟨r, e, hl, hc, hs2⟩ => ?_
    subst e
    walk_at "own EV"
    exact ⟨fun e => (nomatch e), fun _ => rfl, ⟨r, .inl ⟨rfl, hl⟩⟩, hs2⟩
  obtain ⟨m, m0, m1, em⟩ := max_min n h0 h1
  walk_at "own EV1"
  refine op_seq ?_
  walk_at "own EV1"
  rw [em]
  refine (code_ok (b := b + 3) (n := m) (hs'.le (by omega)) (by omega)).mono fun d st2 ⟨r, e, hrl, hc, hs2⟩ => ?_
  subst e
  have hll : (r.map D.int).length = m := by rw [List.length_map, hrl]
  walk_at "own EV1"
  refine op_seq ?_
  walk_at "own EV1"
  refine (take_ok (b := b + 2) (hs2.le (by omega)) (by rw [hll]; omega)).mono fun d st3 ⟨pl, e, p0, p1, hs3⟩ => ?_
  subst e
  rw [hll] at p1
  have hp1 : pl < m := by omega
  have hpn : pl.toNat < r.length := by omega
  refine op_seqI (fun ρ => ∃ st' v, ρ = [some st', some (.int n), some (.int 30), some (.int kind), some (dl (r.set pl.toNat v)), some (.int pl)] ∧ ¬ IsCode (r.set pl.toNat v) ∧ Sto b st') ?_ ?_
  · have fin : ∀ (st' : D) (v : Int), Sto b st' → ¬ (0 ≤ v ∧ v ≤ (pl : Int)) → ∃ st'' v', ([some st', some (.int n), some (.int 30), some (.int kind), some (.lst ((r.map D.int).set pl.toNat (.int v))), some (.int pl)] : Slots) = [some st'', some (.int n), some (.int 30), some (.int kind), some (dl (r.set pl.toNat v')), some (.int pl)] ∧ ¬ IsCode (r.set pl.toNat v') ∧ Sto b st'' := fun st' v hs hv =>
      ⟨st', v, by unfold dl; rw [List.map_set], bad_code hpn (by rw [Int.toNat_of_nonneg p0]; exact hv), hs⟩
    walk_at "own EV"
    refine ite_b (fun g2 => ?_) (fun g2 => ?_)
    · walk_at "own EV"
      refine opt_ixN p0 (by rw [hll]; exact hp1) ?_
      walk_at "own EV"
      exact fin st3 _ (hs3.le (by omega)) (by omega)
    · walk_at "own EV"
      refine (pick_ok (b := b + 1) (l := [.int (pl + 1), .int (pl + 2), .int (10 ^ Int.toNat 30)]) (hs3.le (by omega)) (by simp) (by simp)).mono fun d st4 ⟨hd, hs4⟩ => ?_
      have hv : ∃ v, d = .int v ∧ pl < v := by
        have b30 : (1000 : Int) < 10 ^ (Int.toNat 30) := by decide
        simp only [List.mem_cons, List.not_mem_nil, or_false] at hd
        rcases hd with rfl | rfl | rfl
        · exact ⟨_, rfl, by omega⟩
        · exact ⟨_, rfl, by omega⟩
        · exact ⟨_, rfl, by omega⟩
      obtain ⟨v, rfl, hv⟩ := hv
      walk_at "own EV"
      refine opt_ixN p0 (by rw [hll]; exact hp1) ?_
      walk_at "own EV"
      exact fin st4 _ (hs4.le (by omega)) (by omega)
  · rintro ρ ⟨st', v, rfl, hb, hs4⟩
    walk_at "own EV"
    exact ⟨fun e => (nomatch e), fun _ => rfl, ⟨_, .inr ⟨rfl, by rw [List.length_set, hrl]; exact m1, hb⟩⟩, hs4⟩
theorem opt_mulB {i j : Int} {Q : D → Prop} (h : Builtin.Int.intBits i + Builtin.Int.intBits j ≤ 134217728) (q : Q (.int (i * j))) : OPT (binD .mul (.int i) (.int j)) Q := by
  show OPT (if Builtin.Int.intBits i + Builtin.Int.intBits j ≤ 134217728 then some (D.int (i * j)) else none) Q
  rw [if_pos h]; exact q
theorem p480 : ((10 : Int) ^ Int.toNat 60) ^ Int.toNat 8 = B480 := by unfold B480; decide +kernel
theorem store_ok {ns : List Int} {X : EX} (hl : ns.length ≤ 63) (hb : ∀ z ∈ ns, Builtin.Int.intBits z ≤ 1048576) : FP (s_law_store.φ [.scr ns]) (fun d _ => Sto 1000000 d) X := by
  have sz : sizeLine = 16777216 := sizeLine_eq
  have b0 : 0 < B480 := by have := b480_gt; omega
  have bg := b480_gt
  unfold s_law_store
  with_reducible refine fp_run ?_
  unfold x_law_store
  walk_at "own EV"
  refine opt_some rfl ?_
  walk_at "own EV"
  refine for_rule (fun r ρ => ∃ (cs : List Int) (seed : Int) (y3 y4 : Option D), ρ = [some (.scr ns), some (.lst (cs.map .int)), some (.int seed), y3, y4] ∧ (∀ c ∈ cs, 0 ≤ c ∧ c < B480) ∧ 0 ≤ seed ∧ seed < 2147483647 ∧ cs.length + r.length ≤ 63 ∧ ∀ d ∈ r, ∃ z ∈ ns, d = .int z) ?_ ?_ _ _ ?_
  · rintro d r ρ ⟨cs, seed, y3, y4, rfl, hcs, s0, s1, hlen, hr⟩
    obtain ⟨z, hz, rfl⟩ := hr d List.mem_cons_self
    have hr' : ∀ d ∈ r, ∃ z ∈ ns, d = .int z := fun d hd => hr d (List.mem_cons_of_mem _ hd)
    rw [List.length_cons] at hlen
    refine opt_some rfl ?_
    refine op_seq ?_
    walk_at "own EV1"
    refine op_seqI (fun ρ => ∃ z', ρ = [some (.scr ns), some (.lst (cs.map .int)), some (.int seed), some (.int z), some (.int z')]) ?_ ?_
    · walk_at "own EV"
      refine ite_b (fun h1 => ?_) (fun h1 => ?_)
      · walk_at "own EV"
        refine opt_mulB ?_ ?_
        · have h2 : Builtin.Int.intBits 2 ≤ 2 := PyProof.Rows.intBits_le (by decide)
          have := hb z hz
          omega
        walk_at "own EV"
        exact ⟨1 - 2 * z, rfl⟩
      · walk_at "own EV"
        exact ⟨z, rfl⟩
    · rintro ρ ⟨z', rfl⟩
      walk_at "own EV"
      rw [p480]
      refine opt_modr b0 fun c c0 c1 => ?_
      walk_at "own EV"
      refine ⟨by rw [List.length_map, sz]; omega, ?_⟩
      walk_at "own EV"
      refine opt_mul 31 17 (small_of s0 s1 31 (by decide)) (by decide) (by decide) ?_
      walk_at "own EV"
      refine opt_modr (by decide) fun s2 s20 s21 => ?_
      walk_at "own EV"
      exact ⟨cs ++ [c], s2, some (.int z), some (.int c), by rw [List.map_append]; rfl, fun x hx => (List.mem_append.mp hx).elim (hcs x) (fun q => by
        have : x = c := by simpa using q
        subst this
        exact ⟨c0, c1⟩), s20, s21, by rw [List.length_append]; simp; omega, hr'⟩
  · rintro ρ ⟨cs, seed, y3, y4, rfl, hcs, s0, s1, hlen, hr⟩
    walk_at "own EV"
    exact ⟨fun _ => rfl, fun e => (nomatch e), cs, 0, 0, 0, seed, rfl, hcs, by omega, by omega, b0, by omega, by omega, s0, s1⟩
  · refine ⟨[], 1009, none, none, rfl, fun _ q => (nomatch q), by omega, by omega, ?_, fun d hd => ?_⟩
    · rw [List.length_take, List.length_drop, List.length_map, List.length_nil]; omega
    · have := List.mem_of_mem_drop (List.mem_of_mem_take hd)
      obtain ⟨z, hz, rfl⟩ := List.mem_map.mp this
      exact ⟨z, hz, rfl⟩
/-! ### rows, listings, codes: the mathematics -/
def IsRow (r : List Int) : Prop := r.Perm (rngI r.length)
theorem rngI_succ {n : Nat} : rngI (n + 1) = rngI n ++ [(n : Int)] := by
  unfold rngI
  rw [List.range_succ, List.map_append]
  rfl
theorem rngI_sorted {n : Nat} : (rngI n).Pairwise (· ≤ ·) := by
  unfold rngI
  rw [List.pairwise_map]
  exact List.Pairwise.imp (fun h => by omega) List.pairwise_lt_range
theorem sort_row {r : List Int} : sortZ r = rngI r.length ↔ IsRow r := by
  constructor
  · intro h
    have := (sortZ_perm r).symm
    rw [h] at this
    exact this
  · intro h
    exact sorted_eq ((sortZ_perm r).trans h) (sortZ_sorted r) rngI_sorted
theorem IsRow.mem {r : List Int} (h : IsRow r) {x : Int} : x ∈ r ↔ 0 ≤ x ∧ x < r.length := by
  rw [h.mem_iff]; exact rngI_mem
theorem row_rng (n : Nat) : IsRow (rngI n) := by unfold IsRow; rw [rngI_len]
theorem row_of_perm {r : List Int} {n : Nat} (h : r.Perm (rngI n)) : IsRow r := by
  have : r.length = n := by rw [h.length_eq, rngI_len]
  unfold IsRow; rw [this]; exact h
/-- the row with one more diagonal, of rank k -/
def up1 (f v : Int) : Int := if v ≥ f then v + 1 else v
def grown (r : List Int) (k : Int) : List Int := r.map (up1 ((r.length : Int) - k)) ++ [(r.length : Int) - k]
theorem grown_len {r : List Int} {k : Int} : (grown r k).length = r.length + 1 := by simp [grown]
theorem rng_grow (n f : Nat) (h : f ≤ n) : ((rngI n).map (up1 (f : Int)) ++ [(f : Int)]).Perm (rngI (n + 1)) := by
  induction n with
  | zero =>
    have : f = 0 := by omega
    subst this
    exact List.Perm.refl _
  | succ n ih =>
    rcases Nat.lt_or_ge n f with q | q
    · have e : f = n + 1 := by omega
      subst e
      have e2 : (rngI (n + 1)).map (up1 ((n + 1 : Nat) : Int)) = rngI (n + 1) := by
        have : ∀ x ∈ rngI (n + 1), up1 ((n + 1 : Nat) : Int) x = id x := fun x hx => by
          have := (rngI_mem.mp hx).2
          unfold up1
          rw [if_neg (by omega)]; rfl
        rw [List.map_congr_left this, List.map_id]
      rw [e2, rngI_succ (n := n + 1)]
    · have e : up1 (f : Int) (n : Int) = ((n + 1 : Nat) : Int) := by
        unfold up1
        rw [if_pos (by omega)]; rfl
      rw [rngI_succ (n := n), List.map_append, List.map_cons, List.map_nil, e, rngI_succ (n := n + 1), List.append_assoc]
      have p1 : ((rngI n).map (up1 (f : Int)) ++ ([((n + 1 : Nat) : Int)] ++ [(f : Int)])).Perm (((rngI n).map (up1 (f : Int)) ++ [(f : Int)]) ++ [((n + 1 : Nat) : Int)]) := by
        rw [List.append_assoc]
        exact List.Perm.append_left _ List.perm_append_comm
      exact p1.trans (List.Perm.append_right _ (ih q))
theorem grown_row {r : List Int} {k : Int} (h : IsRow r) (h0 : 0 ≤ k) (h1 : k ≤ r.length) : IsRow (grown r k) := by
  unfold IsRow
  rw [grown_len]
  have hf : ((r.length : Int) - k) = (((r.length : Int) - k).toNat : Int) := by omega
  unfold grown
  rw [hf]
  exact (List.Perm.append_right _ (List.Perm.map _ h)).trans (rng_grow _ _ (by omega))
theorem up1_lt {f a b : Int} : up1 f a < up1 f b ↔ a < b := by
  unfold up1
  split <;> split <;> omega
/-- how many of the first d are greater than the d-th -/
def cntG (r : List Int) (d : Nat) : Int := (((List.range d).filter fun e => decide ((r.getD d 0) < (r.getD e 0))).length : Nat)
def codeof (r : List Int) : List Int := (List.range r.length).map (cntG r)
theorem codeof_len {r : List Int} : (codeof r).length = r.length := by simp [codeof]
theorem codeof_get {r : List Int} {k : Nat} {c : Int} (h : (codeof r)[k]? = some c) : k < r.length ∧ c = cntG r k := by
  unfold codeof at h
  rw [List.getElem?_map] at h
  obtain ⟨j, hj, rfl⟩ := Option.map_eq_some_iff.mp h
  obtain ⟨hlt, he⟩ := List.getElem?_eq_some_iff.mp hj
  rw [List.getElem_range] at he
  subst he
  exact ⟨by simpa using hlt, rfl⟩
theorem codeof_code {r : List Int} : IsCode (codeof r) := fun k c h => by
  obtain ⟨_, rfl⟩ := codeof_get h
  unfold cntG
  have := List.length_filter_le (fun e => decide ((r.getD k 0) < (r.getD e 0))) (List.range k)
  rw [List.length_range] at this
  omega
theorem grown_getD {r : List Int} {k : Int} {e : Nat} (he : e < r.length) : (grown r k).getD e 0 = up1 ((r.length : Int) - k) (r.getD e 0) := by
  unfold grown
  rw [List.getD_eq_getElem?_getD, List.getElem?_append_left (by simpa using he), List.getElem?_map, List.getD_eq_getElem?_getD, List.getElem?_eq_getElem he]
  rfl
theorem grown_getL {r : List Int} {k : Int} : (grown r k).getD r.length 0 = (r.length : Int) - k := by
  unfold grown
  rw [List.getD_eq_getElem?_getD, List.getElem?_append_right (by simp)]
  simp
theorem cnt_ge (n f : Nat) (h : f ≤ n) : ((rngI n).filter fun v => decide ((f : Int) ≤ v)).length = n - f := by
  induction n with
  | zero =>
    have : f = 0 := by omega
    subst this; rfl
  | succ n ih =>
    rw [rngI_succ, List.filter_append, List.length_append]
    rcases Nat.lt_or_ge n f with q | q
    · have e : f = n + 1 := by omega
      subst e
      have : ∀ x ∈ rngI n, ¬ (decide (((n + 1 : Nat) : Int) ≤ x) = true) := fun x hx => by
        have := (rngI_mem.mp hx).2
        simp; omega
      rw [List.filter_eq_nil_iff.mpr this]
      have : decide (((n + 1 : Nat) : Int) ≤ (n : Int)) = false := decide_eq_false (by omega)
      rw [List.filter_cons, this]
      simp
    · rw [ih q]
      have : ((f : Nat) : Int) ≤ (n : Int) := by omega
      simp [this]
      omega
theorem map_getD_range (r : List Int) : (List.range r.length).map (fun e => r.getD e 0) = r := by
  refine List.ext_getElem (by simp) fun i h1 h2 => ?_
  rw [List.getElem_map, List.getElem_range, List.getD_eq_getElem?_getD, List.getElem?_eq_getElem h2]
  rfl
theorem codeof_grown {r : List Int} {k : Int} (h : IsRow r) (h0 : 0 ≤ k) (h1 : k ≤ r.length) : codeof (grown r k) = codeof r ++ [k] := by
  unfold codeof
  rw [grown_len, List.range_succ, List.map_append, List.map_cons, List.map_nil]
  congr 1
  · refine List.map_congr_left fun d hd => ?_
    have hd : d < r.length := List.mem_range.mp hd
    unfold cntG
    congr 1
    congr 1
    refine List.filter_congr fun e he => ?_
    have he : e < d := List.mem_range.mp he
    rw [grown_getD hd, grown_getD (by omega)]
    exact decide_eq_decide.mpr up1_lt
  · congr 1
    unfold cntG
    rw [grown_getL]
    have e1 : ((List.range r.length).filter fun e => decide ((r.length : Int) - k < (grown r k).getD e 0)).length = (r.filter fun v => decide ((((r.length : Int) - k).toNat : Int) ≤ v)).length := by
      have : (List.range r.length).filter (fun e => decide ((r.length : Int) - k < (grown r k).getD e 0)) = (List.range r.length).filter ((fun v => decide ((((r.length : Int) - k).toNat : Int) ≤ v)) ∘ fun e => r.getD e 0) := List.filter_congr fun e he => by
        have he : e < r.length := List.mem_range.mp he
        rw [grown_getD he]
        refine decide_eq_decide.mpr ?_
        show (r.length : Int) - k < up1 ((r.length : Int) - k) (r.getD e 0) ↔ ((((r.length : Int) - k).toNat : Nat) : Int) ≤ r.getD e 0
        have : (((r.length : Int) - k).toNat : Int) = (r.length : Int) - k := by omega
        rw [this]
        unfold up1
        split <;> omega
      rw [this]
      have q := List.filter_map (f := fun e => r.getD e 0) (p := fun v => decide ((((r.length : Int) - k).toNat : Int) ≤ v)) (l := List.range r.length)
      rw [map_getD_range] at q
      rw [q, List.length_map]
    rw [e1, (h.filter _).length_eq, cnt_ge _ _ (by omega)]
    omega
/-- L lists the diagonals of r from the strongest on -/
structure LsOf (L : List Nat) (r : List Int) : Prop where
  len : L.length = r.length
  get : ∀ (p x : Nat), L[p]? = some x → r[x]? = some ((r.length : Int) - 1 - p)
  sur : ∀ x, x < r.length → x ∈ L
def insL (L : List Nat) (c n : Nat) : List Nat := L.take c ++ [n] ++ L.drop c
theorem LsOf.nil : LsOf [] [] := ⟨rfl, fun p x h => by simp at h, fun x h => by simp at h⟩
theorem LsOf.grow {L : List Nat} {r : List Int} {k : Nat} (h : LsOf L r) (hk : k ≤ r.length) : LsOf (insL L k r.length) (grown r k) := by
  have lt : ∀ {p x : Nat}, L[p]? = some x → x < r.length ∧ p < r.length := fun {p x} e => by
    have := h.get p x e
    exact ⟨(List.getElem?_eq_some_iff.mp this).1, by rw [← h.len]; exact (List.getElem?_eq_some_iff.mp e).1⟩
  have gg : ∀ {x : Nat} {v : Int}, r[x]? = some v → (grown r k)[x]? = some (up1 ((r.length : Int) - k) v) := fun {x v} e => by
    unfold grown
    rw [List.getElem?_append_left (by simpa using (List.getElem?_eq_some_iff.mp e).1), List.getElem?_map, e]
    rfl
  have hkl : k ≤ L.length := by rw [h.len]; exact hk
  refine ⟨?_, fun p x e => ?_, fun x hx => ?_⟩
  · rw [grown_len]
    unfold insL
    rw [List.length_append, List.length_append, List.length_take, List.length_drop, h.len]
    simp
    omega
  · rw [grown_len]
    unfold insL at e
    rw [List.append_assoc] at e
    have tl : (L.take k).length = k := by rw [List.length_take]; omega
    rcases Nat.lt_or_ge p k with q | q
    · rw [List.getElem?_append_left (by rw [tl]; exact q), List.getElem?_take_of_lt q] at e
      rw [gg (h.get p x e)]
      unfold up1
      rw [if_pos (by omega)]
      congr 1
      push_cast
      omega
    · rw [List.getElem?_append_right (by rw [tl]; exact q), tl] at e
      rcases Nat.eq_or_lt_of_le q with w | w
      · subst w
        simp at e
        subst e
        unfold grown
        rw [List.getElem?_append_right (by simp)]
        simp
      · obtain ⟨j, rfl⟩ : ∃ j, p = k + 1 + j := ⟨p - k - 1, by omega⟩
        have e2 : k + 1 + j - k = j + 1 := by omega
        rw [e2, List.singleton_append, List.getElem?_cons_succ, List.getElem?_drop] at e
        rw [gg (h.get _ x e)]
        unfold up1
        rw [if_neg (by push_cast; omega)]
        congr 1
        push_cast
        omega
  · rw [grown_len] at hx
    unfold insL
    rw [List.append_assoc, List.mem_append, List.mem_append]
    rcases Nat.lt_or_ge x r.length with q | q
    · have := h.sur x q
      rw [← List.take_append_drop k L, List.mem_append] at this
      exact this.elim .inl fun w => .inr (.inr w)
    · exact .inr (.inl (by simp; omega))
/-- every row is grown -/
theorem row_snoc {r' : List Int} {x : Int} (h : IsRow (r' ++ [x])) : ∃ (r : List Int) (k : Int), IsRow r ∧ r.length = r'.length ∧ 0 ≤ k ∧ k ≤ r.length ∧ r' ++ [x] = grown r k := by
  have hx : 0 ≤ x ∧ x < (r' ++ [x]).length := (h.mem).mp (by simp)
  rw [List.length_append, List.length_singleton] at hx
  have nd : (r' ++ [x]).Nodup := (h.nodup_iff).mpr rngI_nodup
  have hne : ∀ v ∈ r', v ≠ x := fun v hv e => (List.nodup_append.mp nd).2.2 v hv x (by simp) e
  let dn : Int → Int := fun v => if v > x then v - 1 else v
  have e0 : (r'.map dn).length = r'.length := by simp
  refine ⟨r'.map dn, (r'.length : Int) - x, ?_, e0, by omega, by rw [e0]; omega, ?_⟩
  · -- a row
    have up : ∀ v ∈ r', up1 x (dn v) = v := fun v hv => by
      have := hne v hv
      unfold up1
      show (if (if v > x then v - 1 else v) ≥ x then (if v > x then v - 1 else v) + 1 else (if v > x then v - 1 else v)) = v
      split <;> split <;> omega
    have p1 : (r' ++ [x]).Perm ((rngI r'.length).map (up1 x) ++ [x]) := by
      have q := rng_grow r'.length x.toNat (by omega)
      have ex : ((x.toNat : Nat) : Int) = x := by omega
      rw [ex] at q
      have h' : (r' ++ [x]).Perm (rngI (r'.length + 1)) := by
        have := h
        unfold IsRow at this
        rw [List.length_append, List.length_singleton] at this
        exact this
      exact h'.trans q.symm
    have p2 : r'.Perm ((rngI r'.length).map (up1 x)) := (List.perm_append_right_iff [x]).mp p1
    have p3 := p2.map dn
    rw [List.map_map] at p3
    have e1 : (rngI r'.length).map (dn ∘ up1 x) = rngI r'.length := by
      have : ∀ v ∈ rngI r'.length, (dn ∘ up1 x) v = id v := fun v _ => by
        show (if up1 x v > x then up1 x v - 1 else up1 x v) = v
        unfold up1
        split <;> split <;> omega
      rw [List.map_congr_left this, List.map_id]
    rw [e1] at p3
    unfold IsRow
    rw [e0]; exact p3
  · unfold grown
    rw [e0, List.map_map]
    have ef : (r'.length : Int) - ((r'.length : Int) - x) = x := by omega
    rw [ef]
    congr 1
    have : ∀ v ∈ r', (up1 x ∘ dn) v = id v := fun v hv => by
      have := hne v hv
      show up1 x (if v > x then v - 1 else v) = v
      unfold up1
      split <;> split <;> omega
    rw [List.map_congr_left this, List.map_id]
/-- what insertions make of a code -/
def listing (c : List Int) : List Nat := (List.range c.length).foldl (fun L d => insL L (c.getD d 0).toNat d) []
theorem listing_snoc (c : List Int) (k : Int) : listing (c ++ [k]) = insL (listing c) k.toNat c.length := by
  unfold listing
  rw [List.length_append, List.length_singleton, List.range_succ, List.foldl_append]
  have e : ∀ (l : List Nat) (L : List Nat), (∀ d ∈ l, d < c.length) → l.foldl (fun L d => insL L ((c ++ [k]).getD d 0).toNat d) L = l.foldl (fun L d => insL L (c.getD d 0).toNat d) L := by
    intro l
    induction l with
    | nil => intro L _; rfl
    | cons d r ih =>
      intro L hl
      have hd : d < c.length := hl d List.mem_cons_self
      have e1 : (c ++ [k]).getD d 0 = c.getD d 0 := by
        rw [List.getD_eq_getElem?_getD, List.getD_eq_getElem?_getD, List.getElem?_append_left hd]
      rw [List.foldl_cons, List.foldl_cons, e1]
      exact ih _ fun x hx => hl x (List.mem_cons_of_mem _ hx)
  rw [e _ _ fun d hd => List.mem_range.mp hd]
  show insL _ ((c ++ [k]).getD c.length 0).toNat c.length = _
  have : (c ++ [k]).getD c.length 0 = k := by
    rw [List.getD_eq_getElem?_getD, List.getElem?_append_right (Nat.le_refl _)]
    simp
  rw [this]
/-- a code's row -/
theorem code_row : ∀ (n : Nat) (c : List Int), c.length = n → IsCode c → ∃ r, IsRow r ∧ r.length = n ∧ LsOf (listing c) r ∧ codeof r = c := by
  intro n
  induction n with
  | zero =>
    intro c hc _
    have : c = [] := List.eq_nil_of_length_eq_zero hc
    subst this
    exact ⟨[], List.Perm.refl _, rfl, LsOf.nil, rfl⟩
  | succ n ih =>
    intro c hc h
    rcases List.eq_nil_or_concat c with e | ⟨c', k, e⟩
    · subst e; simp at hc
    · rw [List.concat_eq_append] at e
      subst e
      have hl : c'.length = n := by simpa using hc
      have hc' : IsCode c' := fun j x e => h j x (by
        rw [List.getElem?_append_left (List.getElem?_eq_some_iff.mp e).1]; exact e)
      obtain ⟨k0, k1⟩ := h n k (by rw [List.getElem?_append_right (by omega), hl]; simp)
      obtain ⟨r, h1, h2, h3, h4⟩ := ih c' hl hc'
      refine ⟨grown r k, grown_row h1 k0 (by rw [h2]; exact k1), by rw [grown_len, h2], ?_, ?_⟩
      · rw [listing_snoc, hl, ← h2]
        have := LsOf.grow (k := k.toNat) h3 (by rw [h2]; omega)
        rw [Int.toNat_of_nonneg k0] at this
        exact this
      · rw [codeof_grown h1 k0 (by rw [h2]; exact k1), h4]
/-- a row is told by its code -/
theorem row_code : ∀ (n : Nat) (r : List Int), r.length = n → IsRow r → LsOf (listing (codeof r)) r := by
  intro n
  induction n with
  | zero =>
    intro r hr _
    have : r = [] := List.eq_nil_of_length_eq_zero hr
    subst this
    exact LsOf.nil
  | succ n ih =>
    intro r hr h
    rcases List.eq_nil_or_concat r with e | ⟨r', x, e⟩
    · subst e; simp at hr
    · rw [List.concat_eq_append] at e
      subst e
      have hl : r'.length = n := by simpa using hr
      obtain ⟨r0, k, h1, h2, k0, k1, e⟩ := row_snoc h
      rw [e, codeof_grown h1 k0 k1, listing_snoc, codeof_len]
      have := LsOf.grow (k := k.toNat) (ih r0 (by omega) h1) (by omega)
      rw [Int.toNat_of_nonneg k0] at this
      exact this
theorem LsOf.uniq {L : List Nat} {r s : List Int} (h : LsOf L r) (h' : LsOf L s) : r = s := by
  have hl : r.length = s.length := by rw [← h.len, h'.len]
  refine List.ext_getElem hl fun i h1 h2 => ?_
  obtain ⟨p, hp, e⟩ := List.getElem_of_mem (h.sur i h1)
  have e' : L[p]? = some i := by rw [List.getElem?_eq_getElem hp, e]
  have a := h.get p i e'
  have b := h'.get p i e'
  rw [List.getElem?_eq_getElem h1] at a
  rw [List.getElem?_eq_getElem h2, ← hl] at b
  rw [Option.some.inj a, Option.some.inj b]
/-! ### what the program's functions are worth -/
def TL : EX := fun c fs => c = "TooLarge" ∧ fs = [(("limit" : Str), (30 : Int))]
def BO : EX := fun c fs => c = "BadOrder" ∧ fs = []
def NT : EX := fun c fs => c = "NotTold" ∧ fs = []
def GV (d : D) : D → D → Prop := fun x _ => x = d
def NoV : D → D → Prop := fun _ _ => False
theorem FP.no {r : R (D × D)} {Q : D → D → Prop} {X X' : EX} (h : FP r NoV X) (j : ∀ c fs, X c fs → X' c fs) : FP r Q X' := h.mono (fun _ _ h => h.elim) j
theorem allInts_map : ∀ r : List Int, allInts (r.map .int) = some r
  | [] => rfl
  | x :: r => by
    show (allInts (r.map .int)).map (x :: ·) = _
    rw [allInts_map r]; rfl
theorem eqDL_ints : ∀ a b : List Int, eqDL (a.map .int) (b.map .int) = decide (a = b)
  | [], [] => rfl
  | [], y :: b => rfl
  | x :: a, [] => rfl
  | x :: a, y :: b => by
    show (x == y && eqDL (a.map .int) (b.map .int)) = _
    rw [eqDL_ints a b, Bool.eq_iff_iff]
    simp
theorem eqOkL_ints (n : Nat) : ∀ a : List Int, eqOkL n (a.map .int) = true
  | [] => by simp [eqOkL]
  | x :: a => by simp [eqOkL, eqOk, eqOkL_ints n a]
theorem eqTop_ints (a b : List Int) : eqTop (dl a) (dl b) = some (decide (a = b)) := by
  have h1 : eqOk 20 (dl a) = true := eqOkL_ints 19 a
  have h2 : eqOk 20 (dl b) = true := eqOkL_ints 19 b
  unfold eqTop
  rw [h1, h2]
  have : eqD (dl a) (dl b) = decide (a = b) := eqDL_ints a b
  rw [this]
  simp
theorem opt_idxI {l : List Int} {i : Int} {Q : D → Prop} (k : Nat) (e : i = (k : Int)) (h : k < l.length) (q : Q (.int (l.getD k 0))) : OPT (idxD (.lst (l.map .int)) (.int i)) Q := by
  subst e
  refine opt_idx (by omega) (by rw [List.length_map]; omega) fun d hd => ?_
  rw [Int.toNat_natCast, List.getElem?_map, List.getElem?_eq_getElem h] at hd
  cases hd
  rw [List.getD_eq_getElem?_getD, List.getElem?_eq_getElem h] at q
  exact q
theorem is_order_ok {r : List Int} {b : Bool} {X : EX} (hl : r.length ≤ 30) (hb : b = true ↔ IsRow r) : FP (s_is_order.φ [dl r]) (GV (.bl b)) X := by
  unfold s_is_order
  with_reducible refine fp_run ?_
  unfold x_is_order
  walk_at "own EV"
  refine ite_f (by simp [cmpI]; omega) ?_
  walk_at "own EV"
  refine opt_some (allInts_map r) ?_
  walk_at "own EV"
  refine ⟨⟨by omega, by rw [List.length_map]; omega⟩, by rw [rngL_len, List.length_map]; omega, ?_⟩
  rw [List.length_map, Int.toNat_natCast, rngL_rngI]
  refine opt_some (eqTop_ints _ _) ?_
  refine ⟨fun e => (nomatch e), fun e => (nomatch e), ?_⟩
  show D.bl _ = D.bl b
  congr 1
  have : decide (sortZ r = rngI r.length) = b := by
    rw [Bool.eq_iff_iff, decide_eq_true_eq, hb]
    exact sort_row
  simpa using this
theorem is_order_big {r : List Int} {Q : D → D → Prop} (hl : 30 < r.length) : FP (s_is_order.φ [dl r]) Q TL := by
  unfold s_is_order
  with_reducible refine fp_run ?_
  unfold x_is_order
  walk_at "own EV"
  refine ite_t (by simp [cmpI]; omega) ?_
  walk_at "own EV"
  exact ⟨rfl, rfl⟩
theorem check_order_ok {r : List Int} {X : EX} (hl : r.length ≤ 30) (h : IsRow r) : FP (s_check_order.φ [dl r]) (GV (dl r)) X := by
  unfold s_check_order
  with_reducible refine fp_run ?_
  unfold x_check_order
  walk_at "own EV"
  refine (is_order_ok (b := true) hl (by simp [h])).mono fun d _ e => ?_
  have e : d = .bl true := e
  subst e
  walk_at "own EV"
  exact ⟨fun _ => rfl, fun e => (nomatch e), rfl⟩
theorem check_order_bad {r : List Int} {Q : D → D → Prop} (hl : r.length ≤ 30) (h : ¬ IsRow r) : FP (s_check_order.φ [dl r]) Q BO := by
  unfold s_check_order
  with_reducible refine fp_run ?_
  unfold x_check_order
  walk_at "own EV"
  refine (is_order_ok (b := false) hl (by simp [h])).mono fun d _ e => ?_
  have e : d = .bl false := e
  subst e
  walk_at "own EV"
  exact ⟨rfl, rfl⟩
theorem check_order_big {r : List Int} {Q : D → D → Prop} (hl : 30 < r.length) : FP (s_check_order.φ [dl r]) Q TL := by
  unfold s_check_order
  with_reducible refine fp_run ?_
  unfold x_check_order
  walk_at "own EV"
  exact is_order_big hl
abbrev dn (L : List Nat) : D := .lst (L.map fun (x : Nat) => D.int (x : Int))
theorem opt_idxN {l : List Nat} {i : Int} {Q : D → Prop} (k : Nat) (e : i = (k : Int)) {x : Nat} (h : l[k]? = some x) (q : Q (.int (x : Int))) : OPT (idxD (.lst (l.map fun (x : Nat) => D.int (x : Int))) (.int i)) Q := by
  subst e
  have hk := (List.getElem?_eq_some_iff.mp h).1
  refine opt_idx (by omega) (by rw [List.length_map]; omega) fun d hd => ?_
  rw [Int.toNat_natCast, List.getElem?_map, h] at hd
  cases hd
  exact q
theorem rep0 (n : Nat) : (List.replicate n [D.int 0]).flatten = (List.replicate n (0 : Int)).map .int := by
  induction n with
  | zero => rfl
  | succ n ih => rw [List.replicate_succ, List.flatten_cons, ih]; rfl
/-- the loop that makes a row of a listing -/
theorem row_step {L : List Nat} {r R : List Int} (h : LsOf L r) {i : Nat} {x : Nat} (e : L[i]? = some x) (hl : R.length = r.length) (hR : ∀ y ∈ L.take i, R[y]? = r[y]?) :
    x < R.length ∧ (R.set x ((r.length : Int) - 1 - i)).length = r.length ∧ ∀ y ∈ L.take (i + 1), (R.set x ((r.length : Int) - 1 - i))[y]? = r[y]? := by
  have hx := h.get i x e
  have hxl := (List.getElem?_eq_some_iff.mp hx).1
  refine ⟨by omega, by rw [List.length_set]; exact hl, fun y hy => ?_⟩
  by_cases w : y = x
  · subst w
    rw [List.getElem?_set_self (by omega), hx]
  · rw [List.getElem?_set_ne (Ne.symm w)]
    rw [List.take_add_one, e, List.mem_append] at hy
    rcases hy with hy | hy
    · exact hR y hy
    · simp at hy; exact absurd hy w
theorem row_end {L : List Nat} {r R : List Int} (h : LsOf L r) (hl : R.length = r.length) (hR : ∀ y ∈ L.take r.length, R[y]? = r[y]?) : R = r := by
  have e : L.take r.length = L := by rw [← h.len]; exact List.take_length
  rw [e] at hR
  refine List.ext_getElem hl fun i h1 h2 => ?_
  have := hR i (h.sur i h2)
  rw [List.getElem?_eq_getElem h1, List.getElem?_eq_getElem h2] at this
  exact Option.some.inj this
theorem from_listing_ok {L : List Nat} {r : List Int} {X : EX} (h : LsOf L r) (hl : r.length ≤ 1000) : FP (s_from_listing.φ [dn L]) (GV (dl r)) X := by
  have sz : sizeLine = 16777216 := sizeLine_eq
  have hL : (L.map fun (x : Nat) => D.int (x : Int)).length = r.length := by rw [List.length_map, h.len]
  unfold s_from_listing
  with_reducible refine fp_run ?_
  unfold x_from_listing
  walk_at "own EV"
  rw [hL]
  refine ⟨⟨by simp; omega, by omega, by omega⟩, ?_⟩
  rw [Int.toNat_natCast, rep0]
  walk_at "own EV"
  refine ⟨⟨by omega, by omega⟩, ?_⟩
  rw [Int.toNat_natCast]
  refine for_rng (fun i ρ => ∃ R y, ρ = [some (dn L), some (.int r.length), some (dl R), y] ∧ R.length = r.length ∧ ∀ y ∈ L.take i, R[y]? = r[y]?) ?_ ?_ ?_
  · rintro i ρ hi ⟨R, y, rfl, hRl, hR⟩
    have hiL : i < L.length := by rw [h.len]; exact hi
    have e : L[i]? = some L[i] := List.getElem?_eq_getElem hiL
    obtain ⟨q1, q2, q3⟩ := row_step h e hRl hR
    walk_at "own EV"
    refine opt_idxN i (by omega) e ?_
    walk_at "own EV"
    refine opt_ixN (by omega) (by rw [List.length_map]; omega) ?_
    walk_at "own EV"
    refine ⟨R.set L[i] ((r.length : Int) - 1 - i), some (.int (0 + i)), ?_, q2, q3⟩
    unfold dl
    rw [List.map_set, Int.toNat_natCast, Int.zero_add]
    rfl
  · rintro ρ ⟨R, y, rfl, hRl, hR⟩
    have := row_end h hRl hR
    subst this
    walk_at "own EV"
    exact ⟨fun _ => rfl, fun e => (nomatch e), rfl⟩
  · exact ⟨_, none, rfl, by simp, fun y hy => by simp at hy⟩
theorem law_rowof_ok {L : List Nat} {r : List Int} {X : EX} (h : LsOf L r) (hl : r.length ≤ 1000) : FP (s_law_rowof.φ [dn L]) (GV (dl r)) X := by
  have sz : sizeLine = 16777216 := sizeLine_eq
  have hL : (L.map fun (x : Nat) => D.int (x : Int)).length = r.length := by rw [List.length_map, h.len]
  unfold s_law_rowof
  with_reducible refine fp_run ?_
  unfold x_law_rowof
  walk_at "own EV"
  rw [hL]
  refine ⟨⟨by simp; omega, by omega, by omega⟩, ?_⟩
  rw [Int.toNat_natCast, rep0]
  walk_at "own EV"
  rw [hL]
  refine ⟨⟨by omega, by omega⟩, ?_⟩
  rw [Int.toNat_natCast]
  refine for_rng (fun i ρ => ∃ R y, ρ = [some (dn L), some (dl R), y] ∧ R.length = r.length ∧ ∀ y ∈ L.take i, R[y]? = r[y]?) ?_ ?_ ?_
  · rintro i ρ hi ⟨R, y, rfl, hRl, hR⟩
    have hiL : i < L.length := by rw [h.len]; exact hi
    have e : L[i]? = some L[i] := List.getElem?_eq_getElem hiL
    obtain ⟨q1, q2, q3⟩ := row_step h e hRl hR
    walk_at "own EV"
    rw [hL]
    refine opt_idxN i (by omega) e ?_
    walk_at "own EV"
    refine opt_ixN (by omega) (by rw [List.length_map]; omega) ?_
    walk_at "own EV"
    refine ⟨R.set L[i] ((r.length : Int) - 1 - i), some (.int (0 + i)), ?_, q2, q3⟩
    unfold dl
    rw [List.map_set, Int.toNat_natCast, Int.zero_add]
    rfl
  · rintro ρ ⟨R, y, rfl, hRl, hR⟩
    have := row_end h hRl hR
    subst this
    walk_at "own EV"
    exact ⟨fun _ => rfl, fun e => (nomatch e), rfl⟩
  · exact ⟨_, none, rfl, by simp, fun y hy => by simp at hy⟩
theorem insL_map {L : List Nat} {c n : Nat} : ((insL L c n).map fun (x : Nat) => D.int (x : Int)) = (L.map fun (x : Nat) => D.int (x : Int)).take c ++ [D.int (n : Int)] ++ (L.map fun (x : Nat) => D.int (x : Int)).drop c := by
  unfold insL
  rw [List.map_append, List.map_append, List.map_take, List.map_drop]
  rfl
theorem insL_len {L : List Nat} {c n : Nat} : (insL L c n).length = L.length + 1 := by
  unfold insL
  rw [List.length_append, List.length_append, List.length_take, List.length_drop]
  simp
  omega
theorem listing_len : ∀ (c : List Int), (listing c).length = c.length := by
  intro c
  unfold listing
  have : ∀ (l : List Nat) (L : List Nat), (l.foldl (fun L d => insL L (c.getD d 0).toNat d) L).length = L.length + l.length := by
    intro l
    induction l with
    | nil => intro L; simp
    | cons d r ih => intro L; rw [List.foldl_cons, ih, insL_len, List.length_cons]; omega
  rw [this]; simp
theorem take_succ {c : List Int} {i : Nat} (h : i < c.length) : c.take (i + 1) = c.take i ++ [c.getD i 0] := by
  rw [List.take_add_one, List.getElem?_eq_getElem h, List.getD_eq_getElem?_getD, List.getElem?_eq_getElem h]
  rfl
theorem code_getD {c : List Int} (h : IsCode c) {i : Nat} (hi : i < c.length) : 0 ≤ c.getD i 0 ∧ c.getD i 0 ≤ i := by
  have := h i (c.getD i 0) (by rw [List.getD_eq_getElem?_getD, List.getElem?_eq_getElem hi]; rfl)
  exact this
theorem listing_step {c : List Int} {i : Nat} (h : i < c.length) : listing (c.take (i + 1)) = insL (listing (c.take i)) (c.getD i 0).toNat i := by
  rw [take_succ h, listing_snoc, List.length_take, Nat.min_eq_left (by omega)]
theorem from_code_ok {c r : List Int} {X : EX} (hc : IsCode c) (h : LsOf (listing c) r) (hl : r.length ≤ 1000) : FP (s_from_code.φ [dl c]) (GV (dl r)) X := by
  have sz : sizeLine = 16777216 := sizeLine_eq
  have hcl : c.length = r.length := by rw [← h.len, listing_len]
  unfold s_from_code
  with_reducible refine fp_run ?_
  unfold x_from_code
  walk_at "own EV"
  rw [List.length_map]
  refine ⟨⟨by omega, by omega⟩, ?_⟩
  rw [Int.toNat_natCast]
  refine for_rng (fun i ρ => ∃ y, ρ = [some (dl c), some (dn (listing (c.take i))), y]) ?_ ?_ ?_
  · rintro i ρ hi ⟨y, rfl⟩
    obtain ⟨c0, c1⟩ := code_getD hc hi
    walk_at "own EV"
    refine opt_idxI i (by omega) hi ?_
    walk_at "own EV"
    refine ⟨⟨by rw [List.length_map, listing_len, List.length_take]; omega, c0, by omega⟩, ?_⟩
    walk_at "own EV"
    refine ⟨some (.int (0 + i)), ?_⟩
    unfold dn
    rw [listing_step hi, insL_map, Int.zero_add]
    rfl
  · rintro ρ ⟨y, rfl⟩
    rw [List.take_length]
    walk_at "own EV"
    refine (from_listing_ok h hl).mono fun d _ e => ?_
    have e : d = dl r := e
    subst e
    exact ⟨fun _ => rfl, fun e => (nomatch e), rfl⟩
  · exact ⟨none, rfl⟩
theorem law_rowofcode_ok {c r : List Int} {X : EX} (hc : IsCode c) (h : LsOf (listing c) r) (hl : r.length ≤ 1000) : FP (s_law_rowofcode.φ [dl c]) (GV (dl r)) X := by
  have sz : sizeLine = 16777216 := sizeLine_eq
  have hcl : c.length = r.length := by rw [← h.len, listing_len]
  unfold s_law_rowofcode
  with_reducible refine fp_run ?_
  unfold x_law_rowofcode
  walk_at "own EV"
  rw [List.length_map]
  refine ⟨⟨by omega, by omega⟩, ?_⟩
  rw [Int.toNat_natCast]
  refine for_rng (fun i ρ => ∃ y, ρ = [some (dl c), some (dn (listing (c.take i))), y]) ?_ ?_ ?_
  · rintro i ρ hi ⟨y, rfl⟩
    obtain ⟨c0, c1⟩ := code_getD hc hi
    walk_at "own EV"
    refine opt_idxI i (by omega) hi ?_
    walk_at "own EV"
    refine ⟨⟨by rw [List.length_map, listing_len, List.length_take]; omega, c0, by omega⟩, ?_⟩
    walk_at "own EV"
    refine ⟨some (.int (0 + i)), ?_⟩
    unfold dn
    rw [listing_step hi, insL_map, Int.zero_add]
    rfl
  · rintro ρ ⟨y, rfl⟩
    rw [List.take_length]
    walk_at "own EV"
    refine (law_rowof_ok h hl).mono fun d _ e => ?_
    have e : d = dl r := e
    subst e
    exact ⟨fun _ => rfl, fun e => (nomatch e), rfl⟩
  · exact ⟨none, rfl⟩
theorem allBls_map : ∀ r : List Bool, allBls (r.map .bl) = some r
  | [] => rfl
  | x :: r => by
    show (allBls (r.map .bl)).map (x :: ·) = _
    rw [allBls_map r]; rfl
theorem is_code_ok {c : List Int} {b : Bool} {X : EX} (hl : c.length ≤ 30) (hb : b = true ↔ IsCode c) : FP (s_is_code.φ [dl c]) (GV (.bl b)) X := by
  have sz : sizeLine = 16777216 := sizeLine_eq
  unfold s_is_code
  with_reducible refine fp_run ?_
  unfold x_is_code
  walk_at "own EV"
  refine ite_f (by simp [cmpI]; omega) ?_
  walk_at "own EV"
  refine mp_comp ?_
  walk_at "own EV"
  rw [List.length_map]
  refine ⟨⟨by omega, by omega⟩, fun i acc ρ => ∃ bs : List Bool, acc = bs.map .bl ∧ bs.length = i ∧ (bs.all id = true ↔ ∀ (k : Nat) (x : Int), k < i → c[k]? = some x → 0 ≤ x ∧ x ≤ (k : Int)) ∧ ρ = [some (dl c), none], ⟨[], rfl, rfl, ?_, rfl⟩, ?_, ?_⟩
  · simp
  · rintro i d acc ρ hd ⟨bs, rfl, rfl, hbs, rfl⟩
    obtain ⟨hi, rfl⟩ := rngL_get hd
    have hi : bs.length < c.length := by simpa using hi
    have hci : c[bs.length]? = some (c.getD bs.length 0) := by rw [List.getD_eq_getElem?_getD, List.getElem?_eq_getElem hi]; rfl
    have fin : ∀ v : Bool, (v = true ↔ 0 ≤ c.getD bs.length 0 ∧ c.getD bs.length 0 ≤ (bs.length : Int)) → ∃ bs' : List Bool, bs.map D.bl ++ [D.bl v] = bs'.map .bl ∧ bs'.length = bs.length + 1 ∧ (bs'.all id = true ↔ ∀ (k : Nat) (x : Int), k < bs.length + 1 → c[k]? = some x → 0 ≤ x ∧ x ≤ (k : Int)) ∧ wipeS [some (dl c), some (D.int (0 + (bs.length : Int)))] [1] = [some (dl c), none] := fun v hv => by
      refine ⟨bs ++ [v], by rw [List.map_append]; rfl, by simp, ?_, rfl⟩
      rw [List.all_append, Bool.and_eq_true, hbs]
      simp only [List.all_cons, List.all_nil, Bool.and_true, id]
      rw [hv]
      constructor
      · rintro ⟨h1, h2⟩ k x hk e
        rcases Nat.lt_or_ge k bs.length with q | q
        · exact h1 k x q e
        · have : k = bs.length := by omega
          subst this
          rw [hci] at e; cases e
          exact h2
      · intro h
        exact ⟨fun k x hk e => h k x (by omega) e, h _ _ (by omega) hci⟩
    walk_at "own EV"
    refine opt_idxI bs.length (by omega) hi ?_
    walk_at "own EV"
    refine ite_b (fun h1 => ?_) (fun h1 => ?_)
    · simp only [cmpI, decide_eq_true_eq] at h1
      walk_at "own EV"
      refine ⟨by rw [List.length_map]; omega, fin _ ?_⟩
      simp only [cmpI, decide_eq_true_eq]
      omega
    · simp only [cmpI, decide_eq_false_iff_not] at h1
      exact ⟨by rw [List.length_map]; omega, fin _ ⟨fun e => (nomatch e), fun e => absurd e.1 h1⟩⟩
  · rintro acc ρ ⟨bs, rfl, hbl, hbs, rfl⟩
    walk_at "own EV"
    have e : biD .all [D.lst (bs.map .bl)] = some (.bl (bs.all id)) := by
      show (allBls (bs.map .bl)).map _ = _
      rw [allBls_map]; rfl
    refine opt_some e ?_
    refine ⟨fun e => (nomatch e), fun e => (nomatch e), ?_⟩
    show D.bl _ = D.bl b
    congr 1
    rw [Bool.eq_iff_iff, hbs, hb]
    rw [rngL_len] at *
    constructor
    · intro h k x e
      exact h k x (by rw [Int.toNat_natCast]; exact (List.getElem?_eq_some_iff.mp e).1) e
    · intro h k x _ e
      exact h k x e
theorem is_code_big {r : List Int} {Q : D → D → Prop} (hl : 30 < r.length) : FP (s_is_code.φ [dl r]) Q TL := by
  unfold s_is_code
  with_reducible refine fp_run ?_
  unfold x_is_code
  walk_at "own EV"
  refine ite_t (by simp [cmpI]; omega) ?_
  walk_at "own EV"
  exact ⟨rfl, rfl⟩
theorem check_code_ok {r : List Int} {X : EX} (hl : r.length ≤ 30) (h : IsCode r) : FP (s_check_code.φ [dl r]) (fun _ _ => True) X := by
  unfold s_check_code
  with_reducible refine fp_run ?_
  unfold x_check_code
  walk_at "own EV"
  refine (is_code_ok (b := true) hl (by simp [h])).mono fun d _ e => ?_
  have e : d = .bl true := e
  subst e
  walk_at "own EV"
  exact op_retD (fun e => (nomatch e)) (fun e => (nomatch e)) trivial
theorem check_code_bad {r : List Int} {Q : D → D → Prop} (hl : r.length ≤ 30) (h : ¬ IsCode r) : FP (s_check_code.φ [dl r]) Q BO := by
  unfold s_check_code
  with_reducible refine fp_run ?_
  unfold x_check_code
  walk_at "own EV"
  refine (is_code_ok (b := false) hl (by simp [h])).mono fun d _ e => ?_
  have e : d = .bl false := e
  subst e
  walk_at "own EV"
  exact ⟨rfl, rfl⟩
theorem check_code_big {r : List Int} {Q : D → D → Prop} (hl : 30 < r.length) : FP (s_check_code.φ [dl r]) Q TL := by
  unfold s_check_code
  with_reducible refine fp_run ?_
  unfold x_check_code
  walk_at "own EV"
  exact is_code_big hl
theorem row_of_code_ok {c r : List Int} {X : EX} (hc : IsCode c) (h : LsOf (listing c) r) (hl : c.length ≤ 30) : FP (s_row_of_code.φ [dl c]) (GV (dl r)) X := by
  have hcl : c.length = r.length := by rw [← h.len, listing_len]
  unfold s_row_of_code
  with_reducible refine fp_run ?_
  unfold x_row_of_code
  walk_at "own EV"
  refine (check_code_ok hl hc).mono fun d _ _ => ?_
  walk_at "own EV"
  refine (from_code_ok hc h (by omega)).mono fun d _ e => ?_
  have e : d = dl r := e
  subst e
  exact ⟨fun _ => rfl, fun e => (nomatch e), rfl⟩
theorem row_of_code_X {c : List Int} {Q : D → D → Prop} {X : EX} (h : ∀ Q, FP (s_check_code.φ [dl c]) Q X) : FP (s_row_of_code.φ [dl c]) Q X := by
  unfold s_row_of_code
  with_reducible refine fp_run ?_
  unfold x_row_of_code
  walk_at "own EV"
  exact h _
/-- the codes with one more item -/
def kids (c : List Int) : D := .lst ((List.range (c.length + 1)).map fun (k : Nat) => dl (c ++ [(k : Int)]))
theorem plainL_ints : ∀ l : List Int, plainL (l.map .int) = true
  | [] => rfl
  | x :: l => by
    show (plain (.int x) && plainL (l.map .int)) = true
    rw [plainL_ints l]; rfl
theorem children_ok {c : List Int} {X : EX} (hc : IsCode c) (hl : c.length < 30) : FP (s_children_codes.φ [dl c]) (GV (kids c)) X := by
  have sz : sizeLine = 16777216 := sizeLine_eq
  unfold s_children_codes
  with_reducible refine fp_run ?_
  unfold x_children_codes
  walk_at "own EV"
  refine (check_code_ok (by omega) hc).mono fun d _ _ => ?_
  walk_at "own EV"
  rw [List.length_map]
  refine ite_f (by simp [eqD]; omega) ?_
  walk_at "own EV"
  refine mp_comp ?_
  walk_at "own EV"
  have en : ((c.length : Int) + 1).toNat = c.length + 1 := by omega
  rw [en]
  refine ⟨⟨by omega, by omega⟩, fun i acc ρ => acc = (List.range i).map (fun (k : Nat) => dl (c ++ [(k : Int)])) ∧ ρ = [some (dl c), some (.int c.length), none], ⟨rfl, rfl⟩, ?_, ?_⟩
  · rintro i d acc ρ hd ⟨rfl, rfl⟩
    obtain ⟨hi, rfl⟩ := rngL_get hd
    walk_at "own EV"
    refine ⟨rfl, ?_⟩
    walk_at "own EV"
    refine ⟨by rw [List.length_map]; simp; omega, ?_⟩
    walk_at "own EV"
    refine ⟨?_, by simp; omega, ?_, rfl⟩
    · have : (c.map D.int ++ [D.int (0 + (i : Int))]) = (c ++ [0 + (i : Int)]).map .int := by rw [List.map_append]; rfl
      rw [this]
      exact plainL_ints _
    · rw [List.range_succ, List.map_append]
      congr 1
      show [D.lst _] = [D.lst _]
      rw [List.map_append, Int.zero_add]
      rfl
  · rintro acc ρ ⟨rfl, rfl⟩
    rw [rngL_len]
    exact ⟨fun e => (nomatch e), fun e => (nomatch e), rfl⟩
theorem children_full {c : List Int} {Q : D → D → Prop} (hc : IsCode c) (hl : c.length = 30) : FP (s_children_codes.φ [dl c]) Q TL := by
  unfold s_children_codes
  with_reducible refine fp_run ?_
  unfold x_children_codes
  walk_at "own EV"
  refine (check_code_ok (by omega) hc).mono fun d _ _ => ?_
  walk_at "own EV"
  rw [List.length_map]
  refine ite_t (by simp [eqD]; omega) ?_
  walk_at "own EV"
  exact ⟨rfl, rfl⟩
theorem children_X {c : List Int} {Q : D → D → Prop} {X : EX} (h : ∀ Q, FP (s_check_code.φ [dl c]) Q X) : FP (s_children_codes.φ [dl c]) Q X := by
  unfold s_children_codes
  with_reducible refine fp_run ?_
  unfold x_children_codes
  walk_at "own EV"
  exact h _
theorem range_filter_succ {p : Nat → Bool} {j : Nat} : (List.range (j + 1)).filter p = (List.range j).filter p ++ (if p j then [j] else []) := by
  rw [List.range_succ, List.filter_append]
  cases h : p j <;> simp [h]
theorem code_of_ok {r : List Int} {X : EX} (hl : r.length ≤ 30) (h : IsRow r) : FP (s_code_of.φ [dl r]) (GV (dl (codeof r))) X := by
  have sz : sizeLine = 16777216 := sizeLine_eq
  unfold s_code_of
  with_reducible refine fp_run ?_
  unfold x_code_of
  walk_at "own EV"
  refine (check_order_ok hl h).mono fun d _ _ => ?_
  walk_at "own EV"
  refine mp_comp ?_
  walk_at "own EV"
  rw [List.length_map]
  refine ⟨⟨by omega, by omega⟩, fun i acc ρ => acc = ((List.range i).map (cntG r)).map .int ∧ ρ = [some (dl r), none, none], ⟨rfl, rfl⟩, ?_, ?_⟩
  · rintro i d acc ρ hd ⟨rfl, rfl⟩
    obtain ⟨hi, rfl⟩ := rngL_get hd
    rw [Int.toNat_natCast] at hi
    walk_at "own EV"
    refine mp_comp ?_
    walk_at "own EV"
    have ei : (0 + (i : Int)).toNat = i := by omega
    rw [ei]
    refine ⟨⟨by omega, by omega⟩, fun j acc ρ => acc = ((List.range j).filter fun e => decide ((r.getD i 0) < (r.getD e 0))).map (fun (e : Nat) => D.int (0 + (e : Int))) ∧ ρ = [some (dl r), some (.int (0 + (i : Int))), none], ⟨rfl, rfl⟩, ?_, ?_⟩
    · rintro j d acc ρ hd ⟨rfl, rfl⟩
      obtain ⟨hj, rfl⟩ := rngL_get hd
      have hacc : (((List.range j).filter fun e => decide ((r.getD i 0) < (r.getD e 0))).map (fun (e : Nat) => D.int (0 + (e : Int)))).length < sizeLine := by
        rw [List.length_map]
        have := List.length_filter_le (fun e => decide ((r.getD i 0) < (r.getD e 0))) (List.range j)
        rw [List.length_range] at this
        omega
      walk_at "own EV"
      refine opt_idxI j (by omega) (by omega) ?_
      walk_at "own EV"
      refine opt_idxI i (by omega) (by omega) ?_
      walk_at "own EV"
      refine ite_b (fun g => ?_) (fun g => ?_)
      · walk_at "own EV"
        refine ⟨hacc, ?_, rfl⟩
        have g : decide ((r.getD i 0) < (r.getD j 0)) = true := g
        rw [range_filter_succ, g, List.map_append]
        rfl
      · refine ⟨?_, rfl⟩
        have g : decide ((r.getD i 0) < (r.getD j 0)) = false := g
        rw [range_filter_succ, g]
        simp
    · rintro acc ρ ⟨rfl, rfl⟩
      walk_at "own EV"
      refine ⟨by rw [List.length_map, List.length_map, List.length_range]; omega, ?_, rfl⟩
      rw [List.range_succ, List.map_append, List.map_append, rngL_len]
      congr 1
      show [D.int _] = [D.int _]
      congr 2
      rw [List.length_map]
      rfl
  · rintro acc ρ ⟨rfl, rfl⟩
    rw [rngL_len, Int.toNat_natCast]
    exact ⟨fun e => (nomatch e), fun e => (nomatch e), rfl⟩
theorem code_of_X {c : List Int} {Q : D → D → Prop} {X : EX} (h : ∀ Q, FP (s_check_order.φ [dl c]) Q X) : FP (s_code_of.φ [dl c]) Q X := by
  unfold s_code_of
  with_reducible refine fp_run ?_
  unfold x_code_of
  walk_at "own EV"
  exact h _
/-- a code's number -/
def numAt (c : List Int) (i : Nat) : Int := (List.range i).foldl (fun (a : Int) (d : Nat) => a * ((d : Int) + 1) + c.getD d 0) 0
theorem numAt_succ {c : List Int} {i : Nat} : numAt c (i + 1) = numAt c i * ((i : Int) + 1) + c.getD i 0 := by
  unfold numAt
  rw [List.range_succ, List.foldl_append]
  rfl
theorem numAt_bd {c : List Int} (h : IsCode c) : ∀ i : Nat, i ≤ c.length → i ≤ 31 → 0 ≤ numAt c i ∧ numAt c i < 2 ^ (5 * i)
  | 0, _, _ => by unfold numAt; simp
  | i + 1, h1, h2 => by
    obtain ⟨a, b⟩ := numAt_bd h i (by omega) (by omega)
    obtain ⟨c0, c1⟩ := code_getD h (i := i) (by omega)
    rw [numAt_succ]
    have e : (2 : Int) ^ (5 * (i + 1)) = 2 ^ (5 * i) * 32 := by
      rw [show 5 * (i + 1) = 5 * i + 5 by omega, Int.pow_add]; rfl
    rw [e]
    generalize (2 : Int) ^ (5 * i) = P at b
    have q1 : numAt c i * ((i : Int) + 1) ≤ (P - 1) * ((i : Int) + 1) := Int.mul_le_mul_of_nonneg_right (by omega) (by omega)
    have q2 : (P - 1) * ((i : Int) + 1) ≤ (P - 1) * 32 := Int.mul_le_mul_of_nonneg_left (by omega) (by omega)
    have q3 : 0 ≤ numAt c i * ((i : Int) + 1) := Int.mul_nonneg a (by omega)
    constructor <;> omega
theorem numAt_small {c : List Int} (h : IsCode c) {i : Nat} (h1 : i ≤ c.length) (h2 : i ≤ 31) : (numAt c i).natAbs < 2 ^ 155 := by
  obtain ⟨a, b⟩ := numAt_bd h i h1 h2
  have : (2 : Int) ^ (5 * i) ≤ 2 ^ 155 := by
    have := Nat.pow_le_pow_right (n := 2) (by decide) (show 5 * i ≤ 155 by omega)
    exact_mod_cast this
  omega
theorem number_of_ok {r : List Int} {X : EX} (hl : r.length ≤ 30) (h : IsRow r) : FP (s_number_of.φ [dl r]) (GV (.int (numAt (codeof r) r.length))) X := by
  have hc : IsCode (codeof r) := codeof_code
  have hcl : (codeof r).length = r.length := codeof_len
  unfold s_number_of
  with_reducible refine fp_run ?_
  unfold x_number_of
  walk_at "own EV"
  refine (code_of_ok hl h).mono fun d _ e => ?_
  have e : d = dl (codeof r) := e
  subst e
  walk_at "own EV"
  rw [List.length_map, hcl]
  refine ⟨⟨by omega, by omega⟩, ?_⟩
  rw [Int.toNat_natCast]
  refine for_rng (fun i ρ => ∃ y, ρ = [some (dl r), some (dl (codeof r)), some (.int (numAt (codeof r) i)), y]) ?_ ?_ ?_
  · rintro i ρ hi ⟨y, rfl⟩
    walk_at "own EV"
    refine opt_mul 155 6 (numAt_small hc (by omega) (by omega)) (small_of (by omega) (show (0 + (i : Int)) + 1 < 64 by omega) 6 (by decide)) (by decide) ?_
    walk_at "own EV"
    refine opt_idxI i (by omega) (by omega) ?_
    walk_at "own EV"
    refine ⟨some (.int (0 + (i : Int))), ?_⟩
    rw [numAt_succ, Int.zero_add]
    rfl
  · rintro ρ ⟨y, rfl⟩
    walk_at "own EV"
    exact ⟨fun e => (nomatch e), fun e => (nomatch e), rfl⟩
  · exact ⟨none, rfl⟩
theorem number_of_X {c : List Int} {Q : D → D → Prop} {X : EX} (h : ∀ Q, FP (s_check_order.φ [dl c]) Q X) : FP (s_number_of.φ [dl c]) Q X := by
  unfold s_number_of
  with_reducible refine fp_run ?_
  unfold x_number_of
  walk_at "own EV"
  exact code_of_X h
/-! numbers of codes -/
def fct : Nat → Int
  | 0 => 1
  | n + 1 => fct n * ((n : Int) + 1)
theorem fct_pos : ∀ n, 0 < fct n
  | 0 => by decide
  | n + 1 => by
    have := fct_pos n
    exact Int.mul_pos this (by omega)
theorem fct_mono : ∀ {n m : Nat}, n ≤ m → fct n ≤ fct m := by
  intro n m h
  induction h with
  | refl => exact Int.le_refl _
  | @step m _ ih =>
    refine Int.le_trans ih ?_
    have h1 := fct_pos m
    show fct m ≤ fct m * ((m : Int) + 1)
    have : fct m * 1 ≤ fct m * ((m : Int) + 1) := Int.mul_le_mul_of_nonneg_left (by omega) (by omega)
    rw [Int.mul_one] at this
    exact this
theorem fct30 : fct 30 < 2 ^ 108 := by decide
theorem fct_bd {n : Nat} (h : n ≤ 30) : 0 < fct n ∧ fct n < 2 ^ 108 := ⟨fct_pos n, Int.lt_of_le_of_lt (fct_mono h) fct30⟩
theorem fct_small {n : Nat} (h : n ≤ 30) : (fct n).natAbs < 2 ^ 108 := by
  have := fct_bd h
  have : ((fct n).natAbs : Int) < ((2 ^ 108 : Nat) : Int) := by
    have e : ((2 ^ 108 : Nat) : Int) = 2 ^ 108 := by decide
    rw [e]; omega
  exact_mod_cast this
/-- the code of a number -/
def codeN : Nat → Int → List Int
  | 0, _ => []
  | n + 1, N => codeN n (N / ((n : Int) + 1)) ++ [N % ((n : Int) + 1)]
theorem codeN_len : ∀ (n : Nat) (N : Int), (codeN n N).length = n
  | 0, _ => rfl
  | n + 1, N => by simp [codeN, codeN_len n]
theorem codeN_code : ∀ (n : Nat) (N : Int), IsCode (codeN n N)
  | 0, _ => fun k c e => by simp [codeN] at e
  | n + 1, N => by
    refine IsCode.snoc (codeN_code n _) (Int.emod_nonneg _ (by omega)) ?_
    rw [codeN_len]
    have := Int.emod_lt_of_pos N (show (0 : Int) < (n : Int) + 1 by omega)
    omega
theorem numAt_app {c : List Int} {x : Int} : ∀ {i : Nat}, i ≤ c.length → numAt (c ++ [x]) i = numAt c i
  | 0, _ => rfl
  | i + 1, h => by
    rw [numAt_succ, numAt_succ, numAt_app (by omega)]
    congr 1
    rw [List.getD_eq_getElem?_getD, List.getD_eq_getElem?_getD, List.getElem?_append_left (by omega)]
theorem numAt_snoc {c : List Int} {x : Int} : numAt (c ++ [x]) (c.length + 1) = numAt c c.length * ((c.length : Int) + 1) + x := by
  rw [numAt_succ, numAt_app (Nat.le_refl _)]
  congr 1
  rw [List.getD_eq_getElem?_getD, List.getElem?_append_right (Nat.le_refl _)]
  simp
theorem IsCode.init {c : List Int} {x : Int} (h : IsCode (c ++ [x])) : IsCode c ∧ 0 ≤ x ∧ x ≤ c.length := by
  refine ⟨fun k y e => h k y (by rw [List.getElem?_append_left (List.getElem?_eq_some_iff.mp e).1]; exact e), ?_⟩
  have := h c.length x (by rw [List.getElem?_append_right (Nat.le_refl _)]; simp)
  exact this
theorem code_ind {P : List Int → Prop} (h0 : P []) (hs : ∀ (c : List Int) (x : Int), IsCode c → 0 ≤ x → x ≤ c.length → P c → P (c ++ [x])) : ∀ (n : Nat) (c : List Int), c.length = n → IsCode c → P c
  | 0, c, e, _ => by
    have := List.length_eq_zero_iff.mp e
    subst this; exact h0
  | n + 1, c, e, h => by
    rcases List.eq_nil_or_concat c with q | ⟨c', x, q⟩
    · subst q; simp at e
    · rw [List.concat_eq_append] at q
      subst q
      obtain ⟨h1, h2, h3⟩ := h.init
      exact hs c' x h1 h2 h3 (code_ind h0 hs n c' (by simpa using e) h1)
theorem num_ok {c : List Int} (h : IsCode c) : 0 ≤ numAt c c.length ∧ numAt c c.length < fct c.length ∧ codeN c.length (numAt c c.length) = c := by
  refine code_ind (P := fun c => 0 ≤ numAt c c.length ∧ numAt c c.length < fct c.length ∧ codeN c.length (numAt c c.length) = c) ⟨Int.le_refl _, by decide, rfl⟩ (fun c x hc h0 h1 ⟨i0, i1, i2⟩ => ?_) _ c rfl h
  have el : (c ++ [x]).length = c.length + 1 := by simp
  rw [el, numAt_snoc]
  generalize numAt c c.length = N at *
  generalize hn : c.length = n at *
  have hN : 0 ≤ N * ((n : Int) + 1) := Int.mul_nonneg i0 (by omega)
  refine ⟨by omega, ?_, ?_⟩
  · show N * ((n : Int) + 1) + x < fct n * ((n : Int) + 1)
    have : (N + 1) * ((n : Int) + 1) ≤ fct n * ((n : Int) + 1) := Int.mul_le_mul_of_nonneg_right (by omega) (by omega)
    rw [Int.add_mul, Int.one_mul] at this
    omega
  · show codeN n ((N * ((n : Int) + 1) + x) / ((n : Int) + 1)) ++ [(N * ((n : Int) + 1) + x) % ((n : Int) + 1)] = _
    have d1 : (N * ((n : Int) + 1) + x) / ((n : Int) + 1) = N := by
      rw [Int.add_comm, Int.add_mul_ediv_right _ _ (by omega), Int.ediv_eq_zero_of_lt h0 (by omega)]
      omega
    have d2 : (N * ((n : Int) + 1) + x) % ((n : Int) + 1) = x := by
      rw [Int.add_comm, Int.add_mul_emod_self_right]
      exact Int.emod_eq_of_lt h0 (by omega)
    rw [d1, d2, i2]
/-- the code behind -/
def nextC : Nat → List Int → Option (List Int)
  | 0, _ => none
  | n + 1, c => if c.getD n 0 < (n : Int) then some (c.set n (c.getD n 0 + 1)) else nextC n (c.set n 0)
theorem nextC_app {x : Int} : ∀ (n : Nat) (c : List Int), n ≤ c.length → nextC n (c ++ [x]) = (nextC n c).map (· ++ [x])
  | 0, _, _ => rfl
  | n + 1, c, h => by
    have e : (c ++ [x]).getD n 0 = c.getD n 0 := by
      rw [List.getD_eq_getElem?_getD, List.getD_eq_getElem?_getD, List.getElem?_append_left (by omega)]
    have es : ∀ y, (c ++ [x]).set n y = c.set n y ++ [x] := fun y => List.set_append_left n y (by omega)
    unfold nextC
    rw [e, es, es]
    by_cases hlt : c.getD n 0 < (n : Int)
    · rw [if_pos hlt, if_pos hlt]; rfl
    · rw [if_neg hlt, if_neg hlt]
      exact nextC_app n _ (by rw [List.length_set]; omega)
theorem nextC_snoc {c : List Int} {x : Int} (h1 : x ≤ c.length) : nextC (c.length + 1) (c ++ [x]) = if x < c.length then some (c ++ [x + 1]) else (nextC c.length c).map (· ++ [0]) := by
  have e : (c ++ [x]).getD c.length 0 = x := by
    rw [List.getD_eq_getElem?_getD, List.getElem?_append_right (Nat.le_refl _)]
    simp
  have es : ∀ y, (c ++ [x]).set c.length y = c ++ [y] := fun y => by
    rw [List.set_append_right _ _ (Nat.le_refl _)]
    simp
  show (if (c ++ [x]).getD c.length 0 < (c.length : Int) then some ((c ++ [x]).set c.length ((c ++ [x]).getD c.length 0 + 1)) else nextC c.length ((c ++ [x]).set c.length 0)) = _
  rw [e, es, es, nextC_app _ _ (Nat.le_refl _)]
theorem next_ok {c : List Int} (h : IsCode c) : (nextC c.length c = none ∧ numAt c c.length + 1 = fct c.length) ∨ ∃ c', nextC c.length c = some c' ∧ IsCode c' ∧ c'.length = c.length ∧ numAt c' c.length = numAt c c.length + 1 := by
  refine code_ind (P := fun c => (nextC c.length c = none ∧ numAt c c.length + 1 = fct c.length) ∨ ∃ c', nextC c.length c = some c' ∧ IsCode c' ∧ c'.length = c.length ∧ numAt c' c.length = numAt c c.length + 1) (.inl ⟨rfl, rfl⟩) (fun c x hc h0 h1 ih => ?_) _ c rfl h
  have el : (c ++ [x]).length = c.length + 1 := by simp
  rw [el, nextC_snoc h1, numAt_snoc]
  by_cases hx : x < c.length
  · rw [if_pos hx]
    refine .inr ⟨_, rfl, hc.snoc (by omega) (by omega), by simp, ?_⟩
    rw [numAt_snoc]; omega
  · have hx : x = c.length := by omega
    rw [if_neg (by omega)]
    rcases ih with ⟨i1, i2⟩ | ⟨c', i1, i2, i3, i4⟩
    · refine .inl ⟨by rw [i1]; rfl, ?_⟩
      show _ = fct c.length * ((c.length : Int) + 1)
      rw [← i2, Int.add_mul]
      omega
    · refine .inr ⟨c' ++ [0], by rw [i1]; rfl, i2.snoc (by omega) (by omega), by simp [i3], ?_⟩
      rw [← i3, numAt_snoc, i3, i4, Int.add_mul]
      omega
theorem for_mem {tg : List Nat} {body : Slots → Out} {l : List D} {p : Po} {ρ : Slots} (I : Slots → Prop) (step : ∀ d ∈ l, ∀ ρ, I ρ → OPT (setT tg d ρ) fun ρ1 => OP (body ρ1) ⟨I, p.N, I, p.Rt, p.X⟩) (fin : ∀ ρ, I ρ → p.N ρ) (h0 : I ρ) : OP (forL tg body l ρ) p :=
  for_idx (fun _ ρ => I ρ) (fun i d ρ e h => step d (List.mem_of_getElem? e) ρ h) (fun ρ h => fin ρ h) h0
theorem rngR_get {lo : Int} {n i : Nat} {d : D} (h : (rngL lo n).reverse[i]? = some d) : i < n ∧ d = .int (lo + ((n - 1 - i : Nat) : Int)) := by
  have hi : i < n := by
    have := (List.getElem?_eq_some_iff.mp h).1
    rw [List.length_reverse, rngL_len] at this
    exact this
  rw [List.getElem?_reverse (by rw [rngL_len]; exact hi), rngL_len] at h
  exact ⟨hi, (rngL_get h).2⟩
theorem for_rv {tg : List Nat} {body : Slots → Out} {lo : Int} {n : Nat} {p : Po} {ρ : Slots} (I : Nat → Slots → Prop) (step : ∀ i ρ, i < n → I i ρ → OPT (setT tg (.int (lo + ((n - 1 - i : Nat) : Int))) ρ) fun ρ1 => OP (body ρ1) ⟨I (i + 1), p.N, I (i + 1), p.Rt, p.X⟩) (fin : ∀ ρ, I n ρ → p.N ρ) (h0 : I 0 ρ) : OP (forL tg body (rngL lo n).reverse ρ) p :=
  for_idx I (fun i d ρ e h => by
    obtain ⟨hi, rfl⟩ := rngR_get e
    exact step i ρ hi h) (fun ρ h => fin ρ (by rw [List.length_reverse, rngL_len] at h; exact h)) h0
theorem count_rows_ok {n : Nat} {X : EX} (hn : n ≤ 30) : FP (s_count_rows.φ [.int n]) (GV (.int (fct n))) X := by
  unfold s_count_rows
  with_reducible refine fp_run ?_
  unfold x_count_rows
  walk_at "own EV"
  refine ⟨⟨by omega, by omega⟩, ?_⟩
  rw [Int.toNat_natCast]
  refine for_rng (fun i ρ => ∃ y, ρ = [some (.int n), some (.int (fct i)), y]) ?_ ?_ ?_
  · rintro i ρ hi ⟨y, rfl⟩
    have ei : (0 : Int) + (i : Int) = (i : Int) := by omega
    rw [ei]
    walk_at "own EV"
    refine opt_mul 108 6 (fct_small (by omega)) (by omega) (by decide) ?_
    walk_at "own EV"
    exact ⟨_, rfl⟩
  · rintro ρ ⟨y, rfl⟩
    walk_at "own EV"
    exact ⟨fun e => (nomatch e), fun e => (nomatch e), rfl⟩
  · exact ⟨none, rfl⟩
theorem check_many_ok {n : Int} {X : EX} (h0 : 0 ≤ n) (h1 : n ≤ 30) : FP (s_check_many.φ [.int n]) (fun _ _ => True) X := by
  unfold s_check_many
  with_reducible refine fp_run ?_
  unfold x_check_many
  walk_at "own EV"
  refine ite_f (by simp [cmpI]; omega) ?_
  walk_at "own EV"
  refine ite_f (by simp [cmpI]; omega) ?_
  walk_at "own EV"
  exact op_retD (fun e => (nomatch e)) (fun e => (nomatch e)) trivial
theorem check_many_neg {n : Int} {Q : D → D → Prop} (h0 : n < 0) : FP (s_check_many.φ [.int n]) Q BO := by
  unfold s_check_many
  with_reducible refine fp_run ?_
  unfold x_check_many
  walk_at "own EV"
  refine ite_t (by simp [cmpI]; omega) ?_
  walk_at "own EV"
  exact ⟨rfl, rfl⟩
theorem check_many_big {n : Int} {Q : D → D → Prop} (h0 : 30 < n) : FP (s_check_many.φ [.int n]) Q TL := by
  unfold s_check_many
  with_reducible refine fp_run ?_
  unfold x_check_many
  walk_at "own EV"
  refine ite_f (by simp [cmpI]; omega) ?_
  walk_at "own EV"
  refine ite_t (by simp [cmpI]; omega) ?_
  walk_at "own EV"
  exact ⟨rfl, rfl⟩
theorem zeros_set {m : Nat} {t : List Int} {y : Int} : (List.replicate (m + 1) (0 : Int) ++ t).set m y = List.replicate m 0 ++ y :: t := by
  rw [List.replicate_succ', List.append_assoc, List.set_append_right _ _ (by simp)]
  simp
theorem log_small {m : Nat} (h : m ≤ 1000) : (((m : Int) + 1).natAbs).log2 < 9000 := by
  have : ((m : Int) + 1).natAbs < 2 ^ 11 := by omega
  have := (Nat.log2_lt (by omega)).mpr this
  omega
theorem code_numbered_ok {n : Nat} {N : Int} {X : EX} (hn : n ≤ 1000) : FP (s_code_numbered.φ [.int n, .int N]) (GV (dl (codeN n N))) X := by
  have sz : sizeLine = 16777216 := sizeLine_eq
  unfold s_code_numbered
  with_reducible refine fp_run ?_
  unfold x_code_numbered
  walk_at "own EV"
  refine ⟨⟨by simp; omega, by omega, by omega⟩, ?_⟩
  rw [Int.toNat_natCast, rep0]
  walk_at "own EV"
  refine ⟨⟨by omega, by omega⟩, ?_⟩
  rw [Int.toNat_natCast]
  refine for_rng (fun i ρ => ∃ left t y4 y5, ρ = [some (.int n), some (.int N), some (dl (List.replicate (n - i) 0 ++ t)), some (.int left), y4, y5] ∧ t.length = i ∧ codeN (n - i) left ++ t = codeN n N) ?_ ?_ ?_
  · rintro i ρ hi ⟨left, t, y4, y5, rfl, ht, hc⟩
    obtain ⟨m, hm⟩ : ∃ m, n - i = m + 1 := ⟨n - i - 1, by omega⟩
    have em : n - (i + 1) = m := by omega
    have e5 : (n : Int) - 1 - (0 + (i : Int)) = (m : Int) := by omega
    rw [hm] at hc ⊢
    walk_at "own EV"
    rw [e5]
    refine opt_mod (by omega) ?_
    walk_at "own EV"
    refine opt_ixN (by omega) (by simp; omega) ?_
    walk_at "own EV"
    refine opt_fdiv ⟨by omega, log_small (by omega)⟩ ?_
    walk_at "own EV"
    refine ⟨left / ((m : Int) + 1), left % ((m : Int) + 1) :: t, some (.int (0 + (i : Int))), some (.int (m : Int)), ?_, by simp [ht], ?_⟩
    · rw [Int.toNat_natCast, em]
      show [_, _, some (D.lst _), _, _, _] = _
      rw [← List.map_set, zeros_set]
    · rw [em, ← hc]
      show _ = (codeN m _ ++ [_]) ++ t
      simp
  · rintro ρ ⟨left, t, y4, y5, rfl, ht, hc⟩
    rw [Nat.sub_self] at hc
    have hc : t = codeN n N := hc
    subst hc
    walk_at "own EV"
    refine ⟨fun _ => rfl, fun e => (nomatch e), ?_⟩
    rw [Nat.sub_self]
    rfl
  · exact ⟨N, [], none, none, by rw [Nat.sub_zero, List.append_nil]; rfl, rfl, by simp⟩
theorem law_codeofnumber_ok {n : Nat} {N : Int} {X : EX} (hn : n ≤ 1000) : FP (s_law_codeofnumber.φ [.int n, .int N]) (GV (dl (codeN n N))) X := by
  have sz : sizeLine = 16777216 := sizeLine_eq
  unfold s_law_codeofnumber
  with_reducible refine fp_run ?_
  unfold x_law_codeofnumber
  walk_at "own EV"
  refine ⟨⟨by omega, by omega, by omega, by omega⟩, ?_⟩
  have en : ((n : Int) + 1 - 1).toNat = n := by omega
  rw [en]
  refine for_rv (fun i ρ => ∃ left t y4, ρ = [some (.int n), some (.int N), some (dl t), some (.int left), y4] ∧ t.length = i ∧ codeN (n - i) left ++ t = codeN n N) ?_ ?_ ?_
  · rintro i ρ hi ⟨left, t, y4, rfl, ht, hc⟩
    obtain ⟨m, hm⟩ : ∃ m, n - i = m + 1 := ⟨n - i - 1, by omega⟩
    have em : n - (i + 1) = m := by omega
    have e5 : (1 : Int) + ((n - 1 - i : Nat) : Int) = (m : Int) + 1 := by omega
    rw [e5]
    rw [hm] at hc
    walk_at "own EV"
    refine opt_mod (by omega) ?_
    walk_at "own EV"
    refine ⟨⟨by rw [List.length_map]; omega, by decide, by decide⟩, ?_⟩
    walk_at "own EV"
    refine opt_fdiv ⟨by omega, log_small (by omega)⟩ ?_
    walk_at "own EV"
    refine ⟨left / ((m : Int) + 1), left % ((m : Int) + 1) :: t, some (.int ((m : Int) + 1)), rfl, by simp [ht], ?_⟩
    rw [em, ← hc]
    show _ = (codeN m _ ++ [_]) ++ t
    simp
  · rintro ρ ⟨left, t, y4, rfl, ht, hc⟩
    rw [Nat.sub_self] at hc
    have hc : t = codeN n N := hc
    subst hc
    walk_at "own EV"
    exact ⟨fun _ => rfl, fun e => (nomatch e), rfl⟩
  · exact ⟨N, [], none, rfl, rfl, by simp⟩
theorem law_numberof_ok {c : List Int} {X : EX} (hc : IsCode c) (hl : c.length ≤ 30) : FP (s_law_numberof.φ [dl c]) (GV (.int (numAt c c.length))) X := by
  unfold s_law_numberof
  with_reducible refine fp_run ?_
  unfold x_law_numberof
  walk_at "own EV"
  rw [List.length_map]
  refine ⟨⟨by omega, by omega⟩, ?_⟩
  rw [Int.toNat_natCast]
  refine for_rv (fun i ρ => ∃ (total w : Int) (y3 : Option D), ρ = [some (dl c), some (.int total), some (.int w), y3] ∧ total + numAt c (c.length - i) * w = numAt c c.length ∧ w.natAbs < 2 ^ (5 * i + 1)) ?_ ?_ ?_
  · rintro i ρ hi ⟨total, w, y3, rfl, ht, hw⟩
    obtain ⟨m, hm⟩ : ∃ m, c.length - i = m + 1 := ⟨c.length - i - 1, by omega⟩
    have em : c.length - (i + 1) = m := by omega
    have e5 : (0 : Int) + ((c.length - 1 - i : Nat) : Int) = (m : Int) := by omega
    rw [e5]
    rw [hm, numAt_succ] at ht
    have hx := code_getD hc (show m < c.length by omega)
    walk_at "own EV"
    refine opt_idxI m rfl (by omega) ?_
    walk_at "own EV"
    refine opt_mul 6 (5 * i + 1) (by omega) hw (by omega) ?_
    walk_at "own EV"
    refine opt_mul (5 * i + 1) 5 hw (by omega) (by omega) ?_
    walk_at "own EV"
    refine ⟨_, _, _, rfl, ?_, ?_⟩
    · rw [em, ← ht, Int.add_mul]
      have : numAt c m * (w * ((m : Int) + 1)) = numAt c m * ((m : Int) + 1) * w := by
        rw [Int.mul_assoc, Int.mul_comm w]
      rw [this]; omega
    · rw [Int.natAbs_mul]
      have h1 : ((m : Int) + 1).natAbs ≤ 32 := by omega
      have h2 : w.natAbs * ((m : Int) + 1).natAbs ≤ w.natAbs * 32 := Nat.mul_le_mul_left _ h1
      have h3 : (2 : Nat) ^ (5 * (i + 1) + 1) = 2 ^ (5 * i + 1) * 32 := by
        rw [show 5 * (i + 1) + 1 = (5 * i + 1) + 5 by omega, Nat.pow_add]
      rw [h3]; omega
  · rintro ρ ⟨total, w, y3, rfl, ht, hw⟩
    rw [Nat.sub_self] at ht
    have e0 : numAt c 0 = 0 := rfl
    rw [e0, Int.zero_mul, Int.add_zero] at ht
    subst ht
    walk_at "own EV"
    exact ⟨fun e => (nomatch e), fun e => (nomatch e), rfl⟩
  · exact ⟨0, 1, none, rfl, by simp, by decide⟩
theorem law_after_ok {c : List Int} {X : EX} (hl : c.length ≤ 1000) : FP (s_law_after.φ [dl c]) (fun d _ => (nextC c.length c = none ∧ d = .non) ∨ ∃ c', nextC c.length c = some c' ∧ d = dl c') X := by
  unfold s_law_after
  with_reducible refine fp_run ?_
  unfold x_law_after
  walk_at "own EV"
  rw [List.length_map]
  refine ⟨⟨by omega, by omega⟩, ?_⟩
  rw [Int.toNat_natCast]
  refine for_rv (fun i ρ => ∃ (t : List Int) (y2 : Option D), ρ = [some (dl c), some (dl t), y2] ∧ t.length = c.length ∧ nextC (c.length - i) t = nextC c.length c) ?_ ?_ ?_
  · rintro i ρ hi ⟨t, y2, rfl, ht, hn⟩
    obtain ⟨m, hm⟩ : ∃ m, c.length - i = m + 1 := ⟨c.length - i - 1, by omega⟩
    have em : c.length - (i + 1) = m := by omega
    have e5 : (0 : Int) + ((c.length - 1 - i : Nat) : Int) = (m : Int) := by omega
    rw [e5]
    rw [hm] at hn
    have hn' : nextC (m + 1) t = if t.getD m 0 < (m : Int) then some (t.set m (t.getD m 0 + 1)) else nextC m (t.set m 0) := rfl
    rw [hn'] at hn
    walk_at "own EV"
    refine opt_idxI m rfl (by omega) ?_
    walk_at "own EV"
    refine ite_b (fun g => ?_) (fun g => ?_)
    · have g : t.getD m 0 < (m : Int) := by simpa [cmpI] using g
      rw [if_pos g] at hn
      walk_at "own EV"
      refine opt_idxI m rfl (by omega) ?_
      walk_at "own EV"
      refine opt_ixN (by omega) (by rw [List.length_map]; omega) ?_
      walk_at "own EV"
      refine ⟨fun e => (nomatch e), fun e => (nomatch e), .inr ⟨_, hn.symm, ?_⟩⟩
      rw [Int.toNat_natCast]
      show D.lst _ = D.lst _
      rw [List.map_set]
    · have g : ¬ t.getD m 0 < (m : Int) := by simpa [cmpI] using g
      rw [if_neg g] at hn
      walk_at "own EV"
      refine opt_ixN (by omega) (by rw [List.length_map]; omega) ?_
      walk_at "own EV"
      refine ⟨t.set m 0, some (.int (m : Int)), ?_, by rw [List.length_set]; exact ht, by rw [em]; exact hn⟩
      rw [Int.toNat_natCast]
      show [_, some (D.lst _), _] = [_, some (D.lst _), _]
      rw [List.map_set]
  · rintro ρ ⟨t, y2, rfl, ht, hn⟩
    rw [Nat.sub_self] at hn
    walk_at "own EV"
    exact ⟨fun e => (nomatch e), fun e => (nomatch e), .inl ⟨hn.symm, rfl⟩⟩
  · exact ⟨c, none, rfl, rfl, by simp⟩
theorem code_rowE {c : List Int} (h : IsCode c) : ∃ r, IsRow r ∧ r.length = c.length ∧ LsOf (listing c) r ∧ codeof r = c := code_row _ c rfl h
theorem row_numbered_ok {n : Nat} {N : Int} {r : List Int} {X : EX} (hn : n ≤ 30) (h0 : 0 ≤ N) (h1 : N < fct n) (h : LsOf (listing (codeN n N)) r) (hr : r.length ≤ 1000) : FP (s_row_numbered.φ [.int n, .int N]) (GV (dl r)) X := by
  unfold s_row_numbered
  with_reducible refine fp_run ?_
  unfold x_row_numbered
  walk_at "own EV"
  refine (check_many_ok (by omega) (by omega)).mono fun _ _ _ => ?_
  walk_at "own EV"
  refine ite_t (by simp [cmpI]; omega) ?_
  walk_at "own EV"
  refine FP.mono (count_rows_ok hn) fun d _ e => ?_
  have e : d = .int (fct n) := e
  subst e
  walk_at "own EV"
  have e : cmpI .lt N (fct n) = true := by simp [cmpI]; omega
  rw [e]
  walk_at "own EV"
  refine (code_numbered_ok (by omega)).mono fun d _ e => ?_
  have e : d = dl (codeN n N) := e
  subst e
  walk_at "own EV"
  refine (from_code_ok (codeN_code n N) h hr).mono fun d _ e => ?_
  have e : d = dl r := e
  subst e
  exact ⟨fun _ => rfl, fun e => (nomatch e), rfl⟩
theorem row_numbered_out {n : Nat} {N : Int} {Q : D → D → Prop} (hn : n ≤ 30) (h : ¬ (0 ≤ N ∧ N < fct n)) : FP (s_row_numbered.φ [.int n, .int N]) Q BO := by
  unfold s_row_numbered
  with_reducible refine fp_run ?_
  unfold x_row_numbered
  walk_at "own EV"
  refine (check_many_ok (by omega) (by omega)).mono fun _ _ _ => ?_
  walk_at "own EV"
  refine ite_b (fun g => ?_) (fun g => ?_)
  · walk_at "own EV"
    refine FP.mono (count_rows_ok hn) fun d _ e => ?_
    have e : d = .int (fct n) := e
    subst e
    walk_at "own EV"
    have e : cmpI .lt N (fct n) = false := by simp [cmpI] at g ⊢; omega
    rw [e]
    walk_at "own EV"
    exact ⟨rfl, rfl⟩
  · walk_at "own EV"
    exact ⟨rfl, rfl⟩
theorem row_numbered_X {n : Int} {N : Int} {Q : D → D → Prop} {X : EX} (h : ∀ Q, FP (s_check_many.φ [.int n]) Q X) : FP (s_row_numbered.φ [.int n, .int N]) Q X := by
  unfold s_row_numbered
  with_reducible refine fp_run ?_
  unfold x_row_numbered
  walk_at "own EV"
  exact h _
theorem next_row_end {r : List Int} {X : EX} (hr : r.length ≤ 30) (h : IsRow r) (he : numAt (codeof r) r.length + 1 = fct r.length) : FP (s_next_row.φ [dl r]) (GV .non) X := by
  unfold s_next_row
  with_reducible refine fp_run ?_
  unfold x_next_row
  walk_at "own EV"
  refine (number_of_ok hr h).mono fun d _ e => ?_
  have e : d = .int (numAt (codeof r) r.length) := e
  subst e
  walk_at "own EV"
  rw [List.length_map]
  refine (count_rows_ok hr).mono fun d _ e => ?_
  have e : d = .int (fct r.length) := e
  subst e
  walk_at "own EV"
  refine ite_t (by simp [eqD, he]) ?_
  walk_at "own EV"
  exact ⟨fun e => (nomatch e), fun e => (nomatch e), rfl⟩
theorem next_row_ok {r r' : List Int} {X : EX} (hr : r.length ≤ 30) (h : IsRow r) (he : numAt (codeof r) r.length + 1 ≠ fct r.length) (h' : LsOf (listing (codeN r.length (numAt (codeof r) r.length + 1))) r') (hl : r'.length ≤ 1000) : FP (s_next_row.φ [dl r]) (GV (dl r')) X := by
  unfold s_next_row
  with_reducible refine fp_run ?_
  unfold x_next_row
  walk_at "own EV"
  refine (number_of_ok hr h).mono fun d _ e => ?_
  have e : d = .int (numAt (codeof r) r.length) := e
  subst e
  walk_at "own EV"
  rw [List.length_map]
  refine (count_rows_ok hr).mono fun d _ e => ?_
  have e : d = .int (fct r.length) := e
  subst e
  walk_at "own EV"
  refine ite_f (by simp [eqD, he]) ?_
  walk_at "own EV"
  rw [List.length_map]
  refine (code_numbered_ok (by omega)).mono fun d _ e => ?_
  have e : d = dl (codeN r.length (numAt (codeof r) r.length + 1)) := e
  subst e
  walk_at "own EV"
  refine (from_code_ok (codeN_code _ _) h' hl).mono fun d _ e => ?_
  have e : d = dl r' := e
  subst e
  walk_at "own EV"
  exact ⟨plainL_ints r', fun e => (nomatch e), fun e => (nomatch e), rfl⟩
theorem next_row_X {r : List Int} {Q : D → D → Prop} {X : EX} (h : ∀ Q, FP (s_check_order.φ [dl r]) Q X) : FP (s_next_row.φ [dl r]) Q X := by
  unfold s_next_row
  with_reducible refine fp_run ?_
  unfold x_next_row
  walk_at "own EV"
  exact number_of_X h
mutual
/-- data that _law_same speaks of -/
def gdD : D → Bool
  | .non => true
  | .bl _ => true
  | .int _ => true
  | .str _ => true
  | .tup l => gdL l
  | .lst l => gdL l
  | _ => false
def gdL : List D → Bool
  | [] => true
  | d :: r => gdD d && gdL r
end
mutual
def szD : D → Nat
  | .tup l => 1 + szL l
  | .lst l => 1 + szL l
  | _ => 1
def szL : List D → Nat
  | [] => 0
  | d :: r => szD d + szL r
end
theorem szD_pos (d : D) : 1 ≤ szD d := by cases d <;> simp [szD]
theorem szL_app : ∀ (l k : List D), szL (l ++ k) = szL l + szL k
  | [], k => by simp [szL]
  | d :: l, k => by simp [szL, szL_app l k]; omega
theorem szL_len : ∀ (l : List D), l.length ≤ szL l
  | [] => by simp [szL]
  | d :: l => by
    have := szL_len l
    have := szD_pos d
    simp [szL]; omega
theorem gdL_app : ∀ (l k : List D), gdL (l ++ k) = (gdL l && gdL k)
  | [], k => by simp [gdL]
  | d :: l, k => by simp [gdL, gdL_app l k, Bool.and_assoc]
theorem opt_idxT {l : List D} {i : Int} {Q : D → Prop} (h0 : 0 ≤ i) (h1 : i < l.length) (q : ∀ d, l[i.toNat]? = some d → Q d) : OPT (idxD (.tup l) (.int i)) Q := opt_idx (l := l) h0 h1 q
abbrev pr (x : D) : D := .tup [x, x]
theorem same_ok {d : D} {X : EX} (hg : gdD d = true) (hs : szD d ≤ 199999) : FP (s_law_same.φ [d, d]) (GV (.bl true)) X := by
  have sz : sizeLine = 16777216 := sizeLine_eq
  unfold s_law_same
  with_reducible refine fp_run ?_
  unfold x_law_same
  walk_at "own EV"
  refine ⟨⟨by decide, by decide⟩, ?_⟩
  refine for_rng (fun i ρ => ∃ ds y3 y4 y5 y6, ρ = [some d, some d, some (.lst (ds.map pr)), y3, y4, y5, y6] ∧ gdL ds = true ∧ szL ds + i ≤ 199999) ?_ ?_ ?_
  · rintro i ρ hi ⟨ds, y3, y4, y5, y6, rfl, hds, hsz⟩
    refine opt_some rfl ?_
    refine op_seq ?_
    walk_at "own EV1"
    rw [List.length_map]
    refine ite_b (fun g => ?_) (fun g => ?_)
    · walk_at "own EV"
      exact ⟨fun e => (nomatch e), fun e => (nomatch e), rfl⟩
    have hne : ds ≠ [] := fun e => by subst e; simp [eqD] at g
    rcases List.eq_nil_or_concat ds with e | ⟨ds', x, e⟩
    · exact absurd e hne
    rw [List.concat_eq_append] at e
    subst e
    rw [gdL_app, Bool.and_eq_true] at hds
    obtain ⟨hds, hx⟩ := hds
    have hx : gdD x = true := by simpa [gdL] using hx
    rw [szL_app] at hsz
    have hsz : szL ds' + szD x + i ≤ 199999 := by simp [szL] at hsz; omega
    have hx1 := szD_pos x
    have fin : ∀ y3 y4 y5 y6, ∃ ds2 y3' y4' y5' y6', ([some d, some d, some (.lst (ds'.map pr)), y3, y4, y5, y6] : Slots) = [some d, some d, some (.lst (ds2.map pr)), y3', y4', y5', y6'] ∧ gdL ds2 = true ∧ szL ds2 + (i + 1) ≤ 199999 := fun y3 y4 y5 y6 => ⟨ds', y3, y4, y5, y6, rfl, hds, by omega⟩
    walk_at "own EV1"
    refine op_seq ?_
    walk_at "own EV1"
    refine mp_popL (d := pr x) rfl ?_ ?_
    · rw [List.map_append, List.length_append, List.getElem?_append_right (by simp)]
      simp
    rw [List.map_append, List.map_cons, List.map_nil, List.dropLast_concat]
    refine opt_some rfl ?_
    walk_at "own EV1"
    have lists : ∀ (l : List D) (b : Bool) (y3 : Option D), (x = if b then .lst l else .tup l) →
        OP (runS noTH .all false c_law_same.T (.fr [6] (.wRng1 (.len (.var 5))) (.seq (.ex (.app 2 (.tup (.cons (.idx (.var 4) (.var 6)) (.cons (.idx (.var 5) (.var 6)) .nil))))) .nil)) [some d, some d, some (.lst (ds'.map pr)), y3, some x, some x, y6])
          ⟨fun ρ => ∃ ds y3 y4 y5 y6, ρ = [some d, some d, some (.lst (ds.map pr)), y3, y4, y5, y6] ∧ gdL ds = true ∧ szL ds + (i + 1) ≤ 199999, fun _ => False, fun _ => False, fun _ _ => False, NoX⟩ := by
      intro l b y3 hxl
      have hgl : gdL l = true := by
        cases b <;> simp at hxl <;> subst hxl <;> exact hx
      have hsl : szD x = 1 + szL l := by
        cases b <;> simp at hxl <;> subst hxl <;> rfl
      have hlen : lenD x = some (l.length : Int) := by
        cases b <;> simp at hxl <;> subst hxl <;> rfl
      have hidx : ∀ (k : Nat) (Q : D → Prop) (hk : k < l.length), Q l[k] → OPT (idxD x (.int (0 + (k : Int)))) Q := fun k Q hk q => by
        have e0 : (0 + (k : Int)).toNat = k := by omega
        cases b <;> simp at hxl <;> subst hxl
        · refine opt_idxT (by omega) (by omega) fun d hd => ?_
          rw [e0, List.getElem?_eq_getElem hk] at hd
          cases hd; exact q
        · refine opt_idx (by omega) (by omega) fun d hd => ?_
          rw [e0, List.getElem?_eq_getElem hk] at hd
          cases hd; exact q
      have hll := szL_len l
      have hdl := szL_len ds'
      walk_at "own EV"
      refine opt_some hlen ?_
      walk_at "own EV"
      refine ⟨⟨by omega, by omega⟩, ?_⟩
      rw [Int.toNat_natCast]
      refine for_rng (fun j ρ => ∃ y6, ρ = [some d, some d, some (.lst ((ds' ++ l.take j).map pr)), y3, some x, some x, y6]) ?_ ?_ ?_
      · rintro j ρ hj ⟨y6, rfl⟩
        walk_at "own EV"
        refine hidx j _ hj ?_
        walk_at "own EV"
        refine hidx j _ hj ?_
        walk_at "own EV"
        refine ⟨by rw [List.length_map, List.length_append, List.length_take, sz]; omega, ?_⟩
        walk_at "own EV"
        refine ⟨some (.int (0 + (j : Int))), ?_⟩
        rw [List.take_add_one, List.getElem?_eq_getElem hj, ← List.append_assoc, List.map_append (l₂ := (some l[j]).toList)]
        rfl
      · rintro ρ ⟨y6, rfl⟩
        rw [List.take_length]
        exact ⟨ds' ++ l, y3, some x, some x, y6, rfl, by rw [gdL_app, hds, hgl]; rfl, by rw [szL_app]; omega⟩
      · exact ⟨y6, by simp⟩
    have lists2 := fun (p : Po) l b y3 e (hN : ∀ ρ, (∃ ds y3 y4 y5 y6, ρ = [some d, some d, some (.lst (ds.map pr)), y3, y4, y5, y6] ∧ gdL ds = true ∧ szL ds + (i + 1) ≤ 199999) → p.N ρ) => OP.mono (q := p) (lists l b y3 e) hN (fun _ h => h.elim) (fun _ h => h.elim) (fun _ _ h => h.elim) (fun _ _ h => h.elim)
    refine op_seq ?_
    cases x with
    | non =>
      walk_at "own EVX"
      exact fin _ _ _ _
    | bl b =>
      walk_at "own EVX"
      refine ite_f (by simp [eqD]) ?_
      walk_at "own EVX"
      exact fin _ _ _ _
    | int n =>
      walk_at "own EVX"
      refine ite_f (by simp [eqD]) ?_
      walk_at "own EVX"
      exact fin _ _ _ _
    | str n =>
      walk_at "own EVX"
      refine ite_f (by simp [eqD]) ?_
      walk_at "own EVX"
      exact fin _ _ _ _
    | tup l =>
      walk_at "own EVX"
      refine ite_f (by simp [eqD]) ?_
      walk_at "own EV1"
      refine op_seq ?_
      exact lists2 _ l false _ rfl fun ρ h => by
        walk_at "own EV"
        exact h
    | lst l =>
      walk_at "own EVX"
      refine ite_f (by simp [eqD]) ?_
      walk_at "own EV1"
      refine op_seq ?_
      exact lists2 _ l true _ rfl fun ρ h => by
        walk_at "own EV"
        exact h
    | _ => simp [gdD] at hx
  · rintro ρ ⟨ds, y3, y4, y5, y6, rfl, hds, hsz⟩
    have : Int.toNat 200000 = 200000 := rfl
    omega
  · exact ⟨[d], none, none, none, none, rfl, by simp [gdL, hg], by simp [szL]; omega⟩
/-- what a handler says of the program's exceptions -/
inductive Told : Str → List (Str × Int) → D → Prop
  | big : Told "TooLarge" [("limit", 30)] (.tup [.str "TooLarge", .int 30])
  | bad : Told "BadOrder" [] (.tup [.str "BadOrder", .int 0])
theorem told_val {c : Str} {fs : List (Str × Int)} {d : D} (h : Told c fs d) : (sgAp "e" "_law_errorof" .all (valE (tabE ET "error" Cs Fs) .all 4 x_law_errorof c fs)).φ [] = .ok (d, .non) := by
  cases h <;> kernel_rfl
theorem told_noE {c : Str} {fs : List (Str × Int)} {d : D} (h : Told c fs d) : noE (th_law_ask c fs) = false := by
  cases h <;> kernel_rfl
/-- what an answer is: told, or refused -/
def Ans (P : D → Prop) (r : R (D × D)) (a : D) : Prop := FP r (fun x _ => P x ∧ a = .tup [.str "told", x]) (fun c fs => ∃ t, Told c fs t ∧ a = .tup [.str "refused", t])
theorem Ans.gave {P : D → Prop} {r : R (D × D)} {x : D} (h : FP r (GV x) NoX) (p : P x) : Ans P r (.tup [.str "told", x]) := h.mono (fun y _ e => by
  have e : y = x := e
  subst e; exact ⟨p, rfl⟩) (fun _ _ h => h.elim)
theorem Ans.tl {P : D → Prop} {r : R (D × D)} (h : FP r NoV TL) : Ans P r (.tup [.str "refused", .tup [.str "TooLarge", .int 30]]) := h.no fun c fs e => by
  obtain ⟨rfl, rfl⟩ := e
  exact ⟨_, .big, rfl⟩
theorem Ans.bo {P : D → Prop} {r : R (D × D)} (h : FP r NoV BO) : Ans P r (.tup [.str "refused", .tup [.str "BadOrder", .int 0]]) := h.no fun c fs e => by
  obtain ⟨rfl, rfl⟩ := e
  exact ⟨_, .bad, rfl⟩
theorem ask_is_code {r x due : D} {X : EX} (h : Ans (fun v => True) (s_is_code.φ [r]) due) : FP (s_law_ask.φ [.str "is_code", r, x]) (GV due) X := by
  unfold s_law_ask
  with_reducible refine fp_run ?_
  unfold x_law_ask
  walk_at "own EV"
  refine ite_t (by decide +kernel) ?_
  walk_at "own EV"
  refine FP.mono h (fun v _ h => ?_) (fun c fs h => ?_)
  · obtain ⟨_, rfl⟩ := h
    walk_at "own EV"
    exact ⟨fun e => (nomatch e), fun e => (nomatch e), rfl⟩
  · obtain ⟨t, ht, rfl⟩ := h
    refine ⟨told_noE ht, ?_⟩
    walk_at "own EV"
    refine FP.of (told_val ht) ?_
    walk_at "own EV"
    exact ⟨fun e => (nomatch e), fun e => (nomatch e), rfl⟩
theorem ask_code_of {r x due : D} {X : EX} (h : Ans (fun v => True) (s_code_of.φ [r]) due) : FP (s_law_ask.φ [.str "code_of", r, x]) (GV due) X := by
  unfold s_law_ask
  with_reducible refine fp_run ?_
  unfold x_law_ask
  walk_at "own EV"
  refine ite_f (by decide +kernel) ?_
  walk_at "own EV"
  refine ite_t (by decide +kernel) ?_
  walk_at "own EV"
  refine FP.mono h (fun v _ h => ?_) (fun c fs h => ?_)
  · obtain ⟨_, rfl⟩ := h
    walk_at "own EV"
    exact ⟨fun e => (nomatch e), fun e => (nomatch e), rfl⟩
  · obtain ⟨t, ht, rfl⟩ := h
    refine ⟨told_noE ht, ?_⟩
    walk_at "own EV"
    refine FP.of (told_val ht) ?_
    walk_at "own EV"
    exact ⟨fun e => (nomatch e), fun e => (nomatch e), rfl⟩
theorem ask_row_of_code {r x due : D} {X : EX} (h : Ans (fun v => ∃ l : List D, v = .lst l ∧ plainL l = true) (s_row_of_code.φ [r]) due) : FP (s_law_ask.φ [.str "row_of_code", r, x]) (GV due) X := by
  unfold s_law_ask
  with_reducible refine fp_run ?_
  unfold x_law_ask
  walk_at "own EV"
  refine ite_f (by decide +kernel) ?_
  walk_at "own EV"
  refine ite_f (by decide +kernel) ?_
  walk_at "own EV"
  refine ite_t (by decide +kernel) ?_
  walk_at "own EV"
  refine FP.mono h (fun v _ h => ?_) (fun c fs h => ?_)
  · obtain ⟨⟨l, rfl, hp⟩, rfl⟩ := h
    walk_at "own EV"
    refine ⟨hp, ?_⟩
    walk_at "own EV"
    exact ⟨fun e => (nomatch e), fun e => (nomatch e), rfl⟩
  · obtain ⟨t, ht, rfl⟩ := h
    refine ⟨told_noE ht, ?_⟩
    walk_at "own EV"
    refine FP.of (told_val ht) ?_
    walk_at "own EV"
    exact ⟨fun e => (nomatch e), fun e => (nomatch e), rfl⟩
theorem ask_number_of {r x due : D} {X : EX} (h : Ans (fun v => plain v = true) (s_number_of.φ [r]) due) : FP (s_law_ask.φ [.str "number_of", r, x]) (GV due) X := by
  unfold s_law_ask
  with_reducible refine fp_run ?_
  unfold x_law_ask
  walk_at "own EV"
  refine ite_f (by decide +kernel) ?_
  walk_at "own EV"
  refine ite_f (by decide +kernel) ?_
  walk_at "own EV"
  refine ite_f (by decide +kernel) ?_
  walk_at "own EV"
  refine ite_t (by decide +kernel) ?_
  walk_at "own EV"
  refine FP.mono h (fun v _ h => ?_) (fun c fs h => ?_)
  · obtain ⟨hp, rfl⟩ := h
    walk_at "own EV"
    refine ⟨hp, ?_⟩
    walk_at "own EV"
    exact ⟨fun e => (nomatch e), fun e => (nomatch e), rfl⟩
  · obtain ⟨t, ht, rfl⟩ := h
    refine ⟨told_noE ht, ?_⟩
    walk_at "own EV"
    refine FP.of (told_val ht) ?_
    walk_at "own EV"
    exact ⟨fun e => (nomatch e), fun e => (nomatch e), rfl⟩
theorem ask_row_numbered {r x due : D} {X : EX} (h : Ans (fun v => ∃ l : List D, v = .lst l ∧ plainL l = true) (s_row_numbered.φ [r, x]) due) : FP (s_law_ask.φ [.str "row_numbered", r, x]) (GV due) X := by
  unfold s_law_ask
  with_reducible refine fp_run ?_
  unfold x_law_ask
  walk_at "own EV"
  refine ite_f (by decide +kernel) ?_
  walk_at "own EV"
  refine ite_f (by decide +kernel) ?_
  walk_at "own EV"
  refine ite_f (by decide +kernel) ?_
  walk_at "own EV"
  refine ite_f (by decide +kernel) ?_
  walk_at "own EV"
  refine ite_t (by decide +kernel) ?_
  walk_at "own EV"
  refine FP.mono h (fun v _ h => ?_) (fun c fs h => ?_)
  · obtain ⟨⟨l, rfl, hp⟩, rfl⟩ := h
    walk_at "own EV"
    refine ⟨hp, ?_⟩
    walk_at "own EV"
    exact ⟨fun e => (nomatch e), fun e => (nomatch e), rfl⟩
  · obtain ⟨t, ht, rfl⟩ := h
    refine ⟨told_noE ht, ?_⟩
    walk_at "own EV"
    refine FP.of (told_val ht) ?_
    walk_at "own EV"
    exact ⟨fun e => (nomatch e), fun e => (nomatch e), rfl⟩
theorem ask_next_row {r x due : D} {X : EX} (h : Ans (fun v => True) (s_next_row.φ [r]) due) : FP (s_law_ask.φ [.str "next_row", r, x]) (GV due) X := by
  unfold s_law_ask
  with_reducible refine fp_run ?_
  unfold x_law_ask
  walk_at "own EV"
  refine ite_f (by decide +kernel) ?_
  walk_at "own EV"
  refine ite_f (by decide +kernel) ?_
  walk_at "own EV"
  refine ite_f (by decide +kernel) ?_
  walk_at "own EV"
  refine ite_f (by decide +kernel) ?_
  walk_at "own EV"
  refine ite_f (by decide +kernel) ?_
  walk_at "own EV"
  refine ite_t (by decide +kernel) ?_
  walk_at "own EV"
  refine FP.mono h (fun v _ h => ?_) (fun c fs h => ?_)
  · obtain ⟨_, rfl⟩ := h
    walk_at "own EV"
    exact ⟨fun e => (nomatch e), fun e => (nomatch e), rfl⟩
  · obtain ⟨t, ht, rfl⟩ := h
    refine ⟨told_noE ht, ?_⟩
    walk_at "own EV"
    refine FP.of (told_val ht) ?_
    walk_at "own EV"
    exact ⟨fun e => (nomatch e), fun e => (nomatch e), rfl⟩
theorem ask_children_codes {r x due : D} {X : EX} (h : Ans (fun v => True) (s_children_codes.φ [r]) due) : FP (s_law_ask.φ [.str "children_codes", r, x]) (GV due) X := by
  unfold s_law_ask
  with_reducible refine fp_run ?_
  unfold x_law_ask
  walk_at "own EV"
  refine ite_f (by decide +kernel) ?_
  walk_at "own EV"
  refine ite_f (by decide +kernel) ?_
  walk_at "own EV"
  refine ite_f (by decide +kernel) ?_
  walk_at "own EV"
  refine ite_f (by decide +kernel) ?_
  walk_at "own EV"
  refine ite_f (by decide +kernel) ?_
  walk_at "own EV"
  refine ite_f (by decide +kernel) ?_
  walk_at "own EV"
  refine FP.mono h (fun v _ h => ?_) (fun c fs h => ?_)
  · obtain ⟨_, rfl⟩ := h
    walk_at "own EV"
    exact ⟨fun e => (nomatch e), fun e => (nomatch e), rfl⟩
  · obtain ⟨t, ht, rfl⟩ := h
    refine ⟨told_noE ht, ?_⟩
    walk_at "own EV"
    refine FP.of (told_val ht) ?_
    walk_at "own EV"
    exact ⟨fun e => (nomatch e), fun e => (nomatch e), rfl⟩
theorem eqTop_self (r : List Int) : eqTop (dl r) (dl r) = some true := by
  rw [eqTop_ints]; simp
theorem appD_ok {l : List D} {k n : Int} {e : List D} (hk : idxD (.lst l) (.int k) = some (.lst e)) (hs : e.length < sizeLine) : ∃ l2, appD l k n = some l2 ∧ l2.length = l.length := by
  have hk : L2.atI l k = some (.lst e) := hk
  unfold L2.atI at hk
  unfold appD
  cases ej : ixN l.length k with
  | none => rw [ej] at hk; cases hk
  | some j =>
    rw [ej] at hk
    have hk : l[j]? = some (.lst e) := hk
    simp only [hk]
    rw [if_pos hs]
    exact ⟨_, rfl, by simp⟩
theorem szL_mem : ∀ {l : List D} {d : D}, d ∈ l → szD d ≤ szL l
  | x :: r, d, h => by
    simp only [szL]
    rcases List.mem_cons.mp h with rfl | h
    · omega
    · have := szL_mem h
      omega
theorem gdL_mem {l : List D} (h : gdL l = true) : ∀ d ∈ l, gdD d = true := by
  induction l with
  | nil => intro d hd; cases hd
  | cons x r ih =>
    intro d hd
    simp only [gdL, Bool.and_eq_true] at h
    rcases List.mem_cons.mp hd with rfl | hd
    · exact h.1
    · exact ih h.2 d hd
/-- what may be asked of -/
inductive One : D → Prop
  | lst (l : List Int) (h : l.length ≤ 100) : One (dl l)
  | int (n : Int) : One (.int n)
/-- what is asked stands: twice the same, nothing changed -/
def Rg (nm : Str) (r x due : D) : Prop := (∀ X : EX, FP (s_law_ask.φ [.str nm, r, x]) (GV due) X) ∧ gdD due = true ∧ szD due ≤ 100000 ∧ (∃ w v, due = .tup [.str w, v]) ∧ One r
theorem One.same {r : D} (h : One r) : eqTop r r = some true := by
  cases h with
  | lst l _ => exact eqTop_self l
  | int n => simp [eqTop, eqD, eqOk]
theorem holds_ok {nm : Str} {r x due : D} {X : EX} (h : Rg nm r x due) : FP (s_law_holds.φ [.str nm, r, x, due]) (GV (.bl true)) X := by
  obtain ⟨hask, g1, z1, ⟨w, v, rfl⟩, hr⟩ := h
  have sz : sizeLine = 16777216 := sizeLine_eq
  have zv : szD v ≤ 100000 := by
    simp [szD, szL] at z1; omega
  have gv : gdD v = true := by simpa [gdD, gdL] using g1
  unfold s_law_holds
  with_reducible refine fp_run ?_
  unfold x_law_holds
  walk_at "own EV"
  refine ⟨⟨by decide, by decide⟩, ?_⟩
  refine for_rng (fun i ρ => ∃ y4 y5 y6 y7 y8, ρ = [some (.str nm), some r, some x, some (.tup [.str w, v]), y4, y5, y6, y7, y8]) ?_ ?_ ?_
  · rintro i ρ hi ⟨y4, y5, y6, y7, y8, rfl⟩
    refine opt_some rfl ?_
    refine op_seq ?_
    walk_at "own EV1"
    refine op_seqI (fun ρ => ∃ y4, ρ = [some (.str nm), some r, some x, some (.tup [.str w, v]), y4, some r, y6, y7, y8]) ?_ ?_
    · cases hr with
      | lst l hl =>
        walk_at "own EVX"
        refine ⟨plainL_ints l, ?_⟩
        walk_at "own EV"
        exact ⟨_, rfl⟩
      | int n =>
        walk_at "own EVX"
        exact op_thaw rfl ⟨rfl, _, rfl⟩
    rintro ρ ⟨y4', rfl⟩
    have fin : ∀ y4 y6 y7 y8 (p : Po), (∀ ρ, (∃ y4 y5 y6 y7 y8, ρ = [some (.str nm), some r, some x, some (.tup [.str w, v]), y4, y5, y6, y7, y8]) → p.N ρ) → OP (runS noTH .all false c_law_holds.T (.seq (.ite (.tru (.isi .list (.var 1))) (.seq (.ex (.ins 5 (.int 0) (.int 1))) .nil) .nil) (.seq (.frz 5) .nil)) [some (.str nm), some r, some x, some (.tup [.str w, v]), y4, some r, y6, y7, y8]) p := fun y4 y6 y7 y8 p hN => by
      cases hr with
      | lst l hl =>
        walk_at "own EVX"
        refine ⟨⟨by rw [List.length_map]; omega, by decide, by decide⟩, ?_⟩
        walk_at "own EV"
        exact hN _ ⟨_, _, _, _, _, rfl⟩
      | int n =>
        walk_at "own EVX"
        exact hN _ ⟨_, _, _, _, _, rfl⟩
    refine op_seq ?_
    walk_at "own EV1"
    refine (hask _).mono fun d _ e => ?_
    have e : d = .tup [.str w, v] := e
    subst e
    walk_at "own EV1"
    refine op_seq ?_
    walk_at "own EV1"
    refine (same_ok g1 (by omega)).mono fun b _ e => ?_
    have e : b = .bl true := e
    subst e
    walk_at "own EVX1"
    refine opt_some hr.same ?_
    walk_at "own EVX1"
    refine op_seqI (fun ρ => ∃ y4 y6 y7 y8, ρ = [some (.str nm), some r, some x, some (.tup [.str w, v]), y4, some r, y6, y7, y8]) ?_ (fun ρ ⟨_, _, _, _, e⟩ => by subst e; exact fin _ _ _ _ _ fun ρ h => h)
    walk_at "own EV1"
    refine ite_b (fun hw => ?_) (fun hw => ?_)
    · cases v with
      | lst l =>
        walk_at "own EVX1"
        refine op_seq ?_
        refine op_mv rfl rfl ⟨fun e => (nomatch e.1), ?_⟩
        have hl := szL_len l
        have hl2 : l.length ≤ 100000 := by simp [szD] at zv; omega
        refine op_seqI (fun ρ => ∃ l2 y8, l2.length ≤ 100000 ∧ ρ = [some (.str nm), some r, some x, some (.tup [.str w, .lst l]), y4', some r, none, some (.lst l2), y8]) ?_ ?_
        · walk_at "own EV1"
          refine ite_b (fun h1 => ?_) (fun h1 => ?_)
          · have hp : 0 < l.length := by simpa [cmpI] using h1
            walk_at "own EV1"
            have e1 : idxD (.lst l) (.int 0) = some l[0] := by
              show L2.atI l 0 = _
              exact atI_nat (j := 0) (List.getElem?_eq_getElem hp)
            refine opt_some e1 ?_
            have hq : l[0] ∈ l := List.getElem_mem _
            have hg := gdL_mem (show gdL l = true by simpa [gdD] using gv) _ hq
            have a1 := szL_mem hq
            generalize l[0] = q at *
            cases q with
            | lst e =>
              walk_at "own EVX1"
              have a2 := szL_len e
              have hel : e.length < sizeLine := by
                simp [szD] at zv a1
                omega
              obtain ⟨l2, e2, e3⟩ := appD_ok (n := 9) e1 hel
              refine op_seq ?_
              refine op_inn2 rfl (opt_some e2 ?_)
              walk_at "own EV1"
              exact ⟨l2, _, by omega, rfl⟩
            | non =>
              walk_at "own EVX1"
              exact ⟨l, _, hl2, rfl⟩
            | bl b =>
              walk_at "own EVX1"
              exact ⟨l, _, hl2, rfl⟩
            | int b =>
              walk_at "own EVX1"
              exact ⟨l, _, hl2, rfl⟩
            | str b =>
              walk_at "own EVX1"
              exact ⟨l, _, hl2, rfl⟩
            | tup b =>
              walk_at "own EVX1"
              exact ⟨l, _, hl2, rfl⟩
            | _ => simp [gdD] at hg
          · walk_at "own EV1"
            exact ⟨l, _, hl2, rfl⟩
        rintro ρ ⟨l2, y8, hl3, rfl⟩
        walk_at "own EV"
        refine ⟨⟨by omega, by decide, by decide⟩, ?_⟩
        walk_at "own EV"
        refine opt_some hr.same ?_
        walk_at "own EVX"
        exact ⟨_, _, _, _, rfl⟩
      | non =>
        walk_at "own EVX"
        exact ⟨_, _, _, _, rfl⟩
      | bl b =>
        walk_at "own EVX"
        exact ⟨_, _, _, _, rfl⟩
      | int b =>
        walk_at "own EVX"
        exact ⟨_, _, _, _, rfl⟩
      | str b =>
        walk_at "own EVX"
        exact ⟨_, _, _, _, rfl⟩
      | tup b =>
        walk_at "own EVX"
        exact ⟨_, _, _, _, rfl⟩
      | _ => simp [gdD] at gv
    · walk_at "own EVX"
      exact ⟨_, _, _, _, rfl⟩
  · rintro ρ ⟨y4, y5, y6, y7, y8, rfl⟩
    walk_at "own EV"
    exact ⟨fun e => (nomatch e), fun e => (nomatch e), rfl⟩
  · exact ⟨none, none, none, none, none, rfl⟩
theorem length_ok {st : D} {b : Nat} {most : Int} {X : EX} (hs : Sto (b + 2) st) (hm : 0 ≤ most) : FP (s_law_length.φ [st, .int most]) (fun d st' => ∃ r : Int, d = .int r ∧ 0 ≤ r ∧ r ≤ most ∧ Sto b st') X := by
  unfold s_law_length
  with_reducible refine fp_run ?_
  unfold x_law_length
  walk_at "own EV"
  refine (take_ok hs (by omega)).mono fun d st' ⟨r, e, r0, r1, hs'⟩ => ?_
  subst e
  walk_at "own EV"
  refine ite_b (fun h1 => ?_) (fun h1 => ?_)
  · walk_at "own EV"
    refine ⟨fun e => (nomatch e), fun _ => rfl, _, rfl, ?_, ?_, hs'.le (by omega)⟩
    · split <;> omega
    · split <;> omega
  walk_at "own EV"
  refine ite_b (fun h1 => ?_) (fun h1 => ?_)
  · walk_at "own EV"
    exact ⟨fun e => (nomatch e), fun _ => rfl, _, rfl, by omega, by omega, hs'.le (by omega)⟩
  walk_at "own EV"
  refine (take_ok hs' (by omega)).mono fun d st' ⟨r, e, r0, r1, hs'⟩ => ?_
  subst e
  walk_at "own EV"
  refine ⟨fun e => (nomatch e), fun _ => rfl, _, rfl, ?_, ?_, hs'⟩
  · split <;> omega
  · split <;> omega
theorem p30 : (1000 : Int) < 10 ^ Int.toNat 30 := by decide
theorem gdL_ints : ∀ l : List Int, gdL (l.map .int) = true
  | [] => rfl
  | x :: r => by simp [gdL, gdD, gdL_ints r]
theorem szL_ints : ∀ l : List Int, szL (l.map .int) = l.length
  | [] => rfl
  | x :: r => by simp [szL, szD, szL_ints r]; omega
theorem gdL_all : ∀ {l : List D}, (∀ d ∈ l, gdD d = true) → gdL l = true
  | [], _ => rfl
  | x :: r, h => by
    simp only [gdL, Bool.and_eq_true]
    exact ⟨h x List.mem_cons_self, gdL_all fun d hd => h d (List.mem_cons_of_mem _ hd)⟩
theorem szL_all {c : Nat} : ∀ {l : List D}, (∀ d ∈ l, szD d ≤ c) → szL l ≤ l.length * c
  | [], _ => by simp [szL]
  | x :: r, h => by
    have h1 := h x List.mem_cons_self
    have h2 := szL_all (l := r) fun d hd => h d (List.mem_cons_of_mem _ hd)
    simp only [szL, List.length_cons, Nat.succ_mul]
    omega
theorem gd_dl (l : List Int) : gdD (dl l) = true := gdL_ints l
theorem sz_dl (l : List Int) : szD (dl l) = 1 + l.length := by simp [szD, szL_ints]
def Sm (d : D) : Prop := gdD d = true ∧ szD d ≤ 90000
theorem sm_dl {l : List Int} (h : l.length ≤ 1000) : Sm (dl l) := ⟨gd_dl l, by rw [sz_dl]; omega⟩
theorem sm_all {l : List D} {c : Nat} (h : ∀ d ∈ l, gdD d = true ∧ szD d ≤ c) (hl : l.length * c ≤ 80000) : Sm (.lst l) := ⟨gdL_all fun d hd => (h d hd).1, by
  have := szL_all fun d hd => (h d hd).2
  simp only [szD]; omega⟩
def Du : Bool → D
  | true => .tup [.str "TooLarge", .int 30]
  | false => .tup [.str "BadOrder", .int 0]
theorem sm_Du (t : Bool) : Sm (Du t) := by cases t <;> exact ⟨by decide, by decide⟩
theorem sm_sca {d : D} (h : sca1 d = true) : Sm d := by
  cases d <;> first | (simp [sca1] at h; done) | exact ⟨rfl, by simp [szD]⟩
def XT : Bool → EX
  | true => TL
  | false => BO
theorem Ans.x {P : D → Prop} {r : R (D × D)} {t : Bool} (h : FP r NoV (XT t)) : Ans P r (.tup [.str "refused", Du t]) := by
  cases t with
  | true => exact Ans.tl h
  | false => exact Ans.bo h
def BadAs (P : List Int → Prop) (t : Bool) (bad : List Int) : Prop := if t = true then bad.length = 31 else bad.length ≤ 30 ∧ ¬ P bad
theorem badrow_as {d : D} (h : BadRow d) : ∃ t bad, d = .tup [dl bad, Du t] ∧ BadAs IsRow t bad := by
  obtain ⟨bad, ⟨rfl, h⟩ | ⟨rfl, h⟩⟩ := h
  · exact ⟨true, bad, rfl, by unfold BadAs; rw [if_pos rfl]; exact h⟩
  · exact ⟨false, bad, rfl, by unfold BadAs; rw [if_neg (by simp)]; exact h⟩
theorem BadAs.t {P : List Int → Prop} {bad : List Int} (h : BadAs P true bad) : bad.length = 31 := by unfold BadAs at h; rw [if_pos rfl] at h; exact h
theorem BadAs.f {P : List Int → Prop} {bad : List Int} (h : BadAs P false bad) : bad.length ≤ 30 ∧ ¬ P bad := by unfold BadAs at h; rw [if_neg (by simp)] at h; exact h
theorem badcode_as {d : D} (h : BadCode d) : ∃ t bad, d = .tup [dl bad, Du t] ∧ BadAs IsCode t bad := by
  obtain ⟨bad, ⟨rfl, h⟩ | ⟨rfl, h⟩⟩ := h
  · exact ⟨true, bad, rfl, by unfold BadAs; rw [if_pos rfl]; exact h⟩
  · exact ⟨false, bad, rfl, by unfold BadAs; rw [if_neg (by simp)]; exact h⟩
theorem BadAs.chk {t : Bool} {bad : List Int} (h : BadAs IsRow t bad) : ∀ Q, FP (s_check_order.φ [dl bad]) Q (XT t) := fun Q => by
  cases t with
  | true => exact check_order_big (by have := h.t; omega)
  | false => exact check_order_bad h.f.1 h.f.2
theorem BadAs.chkC {t : Bool} {bad : List Int} (h : BadAs IsCode t bad) : ∀ Q, FP (s_check_code.φ [dl bad]) Q (XT t) := fun Q => by
  cases t with
  | true => exact check_code_big (by have := h.t; omega)
  | false => exact check_code_bad h.f.1 h.f.2
theorem BadAs.len {P : List Int → Prop} {t : Bool} {bad : List Int} (h : BadAs P t bad) : bad.length ≤ 31 := by
  cases t with
  | true => have := h.t; omega
  | false => have := h.f.1; omega
theorem gv_of {r : R (D × D)} {d : D} {F : D → D → Prop} {X : EX} (h : FP r (GV d) X) (q : ∀ e, F d e) : FP r F X := h.mono fun x e h => by
  have h : x = d := h
  subst h; exact q e
theorem holds_tt {nm : Str} {r x due : D} {F : D → D → Prop} {X : EX} (h : Rg nm r x due) (q : ∀ e, F (.bl true) e) : FP (s_law_holds.φ [.str nm, r, x, due]) F X := gv_of (holds_ok h) q
theorem rg_of {nm : Str} {r x v : D} {w : Str} (h : ∀ X : EX, FP (s_law_ask.φ [.str nm, r, x]) (GV (.tup [.str w, v])) X) (hs : Sm v) (hl : One r) : Rg nm r x (.tup [.str w, v]) :=
  ⟨h, by simp [gdD, gdL, hs.1], by have := hs.2; simp [szD, szL]; omega, ⟨_, _, rfl⟩, hl⟩
theorem pli_dl (l : List Int) : ∃ k : List D, dl l = .lst k ∧ plainL k = true := ⟨_, rfl, plainL_ints l⟩
def BadN (t : Bool) (n : Int) : Prop := if t = true then 30 < n else n < 0
theorem BadN.chk {t : Bool} {n : Int} (h : BadN t n) : ∀ Q, FP (s_check_many.φ [.int n]) Q (XT t) := fun Q => by
  unfold BadN at h
  cases t with
  | true => exact check_many_big (by simpa using h)
  | false => exact check_many_neg (by simpa using h)
theorem badn_ok {st : D} {b : Nat} {X : EX} (hs : Sto (b + 2) st) : FP (s_law_badn.φ [st, .int 30]) (fun d st' => ∃ n t, d = .tup [.int n, Du t] ∧ BadN t n ∧ Sto b st') X := by
  unfold s_law_badn
  with_reducible refine fp_run ?_
  unfold x_law_badn
  walk_at "own EV"
  refine (take_ok (b := b + 1) hs (by omega)).mono fun d st' ⟨r, e, r0, r1, hs'⟩ => ?_
  subst e
  walk_at "own EV"
  refine ite_b (fun h1 => ?_) (fun h1 => ?_)
  · walk_at "own EV"
    refine (take_ok (b := b) hs' (by omega)).mono fun d st' ⟨r, e, r0, r1, hs'⟩ => ?_
    subst e
    walk_at "own EV"
    exact ⟨fun e => (nomatch e), fun _ => rfl, _, false, rfl, by unfold BadN; rw [if_neg (by simp)]; omega, hs'⟩
  walk_at "own EV"
  refine ite_b (fun h1 => ?_) (fun h1 => ?_)
  · walk_at "own EV"
    refine (take_ok (b := b) hs' (by omega)).mono fun d st' ⟨r, e, r0, r1, hs'⟩ => ?_
    subst e
    walk_at "own EV"
    exact ⟨fun e => (nomatch e), fun _ => rfl, _, true, rfl, by unfold BadN; rw [if_pos rfl]; omega, hs'⟩
  walk_at "own EV"
  exact ⟨fun e => (nomatch e), fun _ => rfl, _, true, rfl, by unfold BadN; have := p30; rw [if_pos rfl]; omega, hs'.le (by omega)⟩
theorem sm_kids {c : List Int} (h : c.length ≤ 40) : Sm (kids c) := by
  refine sm_all (c := 42) (fun d hd => ?_) ?_
  · obtain ⟨k, _, rfl⟩ := List.mem_map.mp hd
    exact ⟨gd_dl _, by rw [sz_dl]; simp; omega⟩
  · rw [List.length_map, List.length_range]
    have : (c.length + 1) * 42 ≤ 41 * 42 := Nat.mul_le_mul_right _ (by omega)
    omega
/-! the asks -/
theorem rg_iscode {c : List Int} {x : D} {b : Bool} (hl : c.length ≤ 30) (h : b = true ↔ IsCode c) : Rg "is_code" (dl c) x (.tup [.str "told", .bl b]) :=
  rg_of (fun X => ask_is_code (Ans.gave (is_code_ok hl h) trivial)) (sm_sca rfl) (.lst _ (by omega))
theorem rg_iscode_big {c : List Int} {x : D} (hl : c.length = 31) : Rg "is_code" (dl c) x (.tup [.str "refused", Du true]) :=
  rg_of (fun X => ask_is_code (Ans.tl (is_code_big (by omega)))) (sm_Du true) (.lst _ (by omega))
theorem rg_codeof {r : List Int} {x : D} (hl : r.length ≤ 30) (h : IsRow r) : Rg "code_of" (dl r) x (.tup [.str "told", dl (codeof r)]) :=
  rg_of (fun X => ask_code_of (Ans.gave (code_of_ok hl h) trivial)) (sm_dl (by rw [codeof_len]; omega)) (.lst _ (by omega))
theorem rg_codeof_bad {r : List Int} {x : D} {t : Bool} (h : BadAs IsRow t r) : Rg "code_of" (dl r) x (.tup [.str "refused", Du t]) :=
  rg_of (fun X => ask_code_of (Ans.x (code_of_X h.chk))) (sm_Du t) (.lst _ (by have := h.len; omega))
theorem rg_roc {c r : List Int} {x : D} (hc : IsCode c) (h : LsOf (listing c) r) (hl : c.length ≤ 30) : Rg "row_of_code" (dl c) x (.tup [.str "told", dl r]) :=
  rg_of (fun X => ask_row_of_code (Ans.gave (row_of_code_ok hc h hl) (pli_dl r))) (sm_dl (by rw [← h.len, listing_len]; omega)) (.lst _ (by omega))
theorem rg_roc_bad {c : List Int} {x : D} {t : Bool} (h : BadAs IsCode t c) : Rg "row_of_code" (dl c) x (.tup [.str "refused", Du t]) :=
  rg_of (fun X => ask_row_of_code (Ans.x (row_of_code_X h.chkC))) (sm_Du t) (.lst _ (by have := h.len; omega))
theorem rg_num {r : List Int} {x : D} (hl : r.length ≤ 30) (h : IsRow r) : Rg "number_of" (dl r) x (.tup [.str "told", .int (numAt (codeof r) r.length)]) :=
  rg_of (fun X => ask_number_of (Ans.gave (number_of_ok hl h) rfl)) (sm_sca rfl) (.lst _ (by omega))
theorem rg_num_bad {r : List Int} {x : D} {t : Bool} (h : BadAs IsRow t r) : Rg "number_of" (dl r) x (.tup [.str "refused", Du t]) :=
  rg_of (fun X => ask_number_of (Ans.x (number_of_X h.chk))) (sm_Du t) (.lst _ (by have := h.len; omega))
theorem rg_rnum {n : Nat} {N : Int} {r : List Int} (hn : n ≤ 30) (h0 : 0 ≤ N) (h1 : N < fct n) (h : LsOf (listing (codeN n N)) r) : Rg "row_numbered" (.int n) (.int N) (.tup [.str "told", dl r]) := by
  have hl : r.length = n := by rw [← h.len, listing_len, codeN_len]
  exact rg_of (fun X => ask_row_numbered (Ans.gave (row_numbered_ok hn h0 h1 h (by omega)) (pli_dl r))) (sm_dl (by omega)) (.int _)
theorem rg_rnum_out {n : Nat} {N : Int} (hn : n ≤ 30) (h : ¬ (0 ≤ N ∧ N < fct n)) : Rg "row_numbered" (.int n) (.int N) (.tup [.str "refused", Du false]) :=
  rg_of (fun X => ask_row_numbered (Ans.bo (row_numbered_out hn h))) (sm_Du false) (.int _)
theorem rg_rnum_bad {n N : Int} {t : Bool} (h : BadN t n) : Rg "row_numbered" (.int n) (.int N) (.tup [.str "refused", Du t]) :=
  rg_of (fun X => ask_row_numbered (Ans.x (row_numbered_X h.chk))) (sm_Du t) (.int _)
theorem rg_next {r r' : List Int} {x : D} (hr : r.length ≤ 30) (h : IsRow r) (he : numAt (codeof r) r.length + 1 ≠ fct r.length) (h' : LsOf (listing (codeN r.length (numAt (codeof r) r.length + 1))) r') : Rg "next_row" (dl r) x (.tup [.str "told", dl r']) := by
  have hl : r'.length = r.length := by rw [← h'.len, listing_len, codeN_len]
  exact rg_of (fun X => ask_next_row (Ans.gave (next_row_ok hr h he h' (by omega)) trivial)) (sm_dl (by omega)) (.lst _ (by omega))
theorem rg_next_end {r : List Int} {x : D} (hr : r.length ≤ 30) (h : IsRow r) (he : numAt (codeof r) r.length + 1 = fct r.length) : Rg "next_row" (dl r) x (.tup [.str "told", .non]) :=
  rg_of (fun X => ask_next_row (Ans.gave (next_row_end hr h he) trivial)) (sm_sca rfl) (.lst _ (by omega))
theorem rg_next_bad {r : List Int} {x : D} {t : Bool} (h : BadAs IsRow t r) : Rg "next_row" (dl r) x (.tup [.str "refused", Du t]) :=
  rg_of (fun X => ask_next_row (Ans.x (next_row_X h.chk))) (sm_Du t) (.lst _ (by have := h.len; omega))
theorem rg_kids {c : List Int} {x : D} (hc : IsCode c) (hl : c.length < 30) : Rg "children_codes" (dl c) x (.tup [.str "told", kids c]) :=
  rg_of (fun X => ask_children_codes (Ans.gave (children_ok hc hl) trivial)) (sm_kids (by omega)) (.lst _ (by omega))
theorem rg_kids_full {c : List Int} {x : D} (hc : IsCode c) (hl : c.length = 30) : Rg "children_codes" (dl c) x (.tup [.str "refused", Du true]) :=
  rg_of (fun X => ask_children_codes (Ans.tl (children_full hc hl))) (sm_Du true) (.lst _ (by omega))
theorem rg_kids_bad {c : List Int} {x : D} {t : Bool} (h : BadAs IsCode t c) : Rg "children_codes" (dl c) x (.tup [.str "refused", Du t]) :=
  rg_of (fun X => ask_children_codes (Ans.x (children_X h.chkC))) (sm_Du t) (.lst _ (by have := h.len; omega))
theorem law_right_ok {c : List Int} {X : EX} (hc : IsCode c) (hl : c.length ≤ 30) : FP (s_law_right.φ [dl c]) (GV (.bl true)) X := by
  have sz : sizeLine = 16777216 := sizeLine_eq
  obtain ⟨r, hr, hrl, hls, hco⟩ := code_rowE hc
  obtain ⟨n0, n1, n2⟩ := num_ok hc
  have hnum : numAt (codeof r) r.length = numAt c c.length := by rw [hco, hrl]
  unfold s_law_right
  with_reducible refine fp_run ?_
  unfold x_law_right
  walk_at "own EV"
  rw [List.length_map]
  refine gv_of (law_rowofcode_ok hc hls (by omega)) fun _ => ?_
  walk_at "own EV"
  refine gv_of (law_numberof_ok hc hl) fun _ => ?_
  walk_at "own EV"
  refine (law_after_ok (by omega)).mono fun d _ hd => ?_
  have hbe : ∃ be : D, Rg "next_row" (dl r) (.int 0) (.tup [.str "told", be]) ∧ ((d = .non ∧ be = .non) ∨ ∃ c' r', d = dl c' ∧ be = dl r' ∧ IsCode c' ∧ c'.length = c.length ∧ LsOf (listing c') r') := by
    rcases next_ok hc with ⟨q1, q2⟩ | ⟨c', q1, q2, q3, q4⟩
    · rcases hd with ⟨_, rfl⟩ | ⟨c', q, _⟩
      · exact ⟨.non, rg_next_end (by omega) hr (by rw [hnum, hrl]; exact q2), .inl ⟨rfl, rfl⟩⟩
      · rw [q1] at q; cases q
    · rcases hd with ⟨q, _⟩ | ⟨c2, q, rfl⟩
      · rw [q1] at q; cases q
      · rw [q1] at q
        cases q
        obtain ⟨r', hr', hrl', hls', hco'⟩ := code_rowE q2
        obtain ⟨m0, m1, m2⟩ := num_ok q2
        rw [q3, q4] at m1 m2
        refine ⟨dl r', rg_next (by omega) hr (by rw [hnum, hrl]; omega) ?_, .inr ⟨c', r', rfl, rfl, q2, q3, hls'⟩⟩
        rw [hnum, hrl, m2]
        exact hls'
  obtain ⟨be, hrg, hbe⟩ := hbe
  walk_at "own EV1"
  refine op_seqI (fun ρ => ∃ y5 y6 y7 y8 y9 y10 y11, ρ = [some (dl c), some (.int c.length), some (dl r), some (.int (numAt c c.length)), some be, y5, y6, y7, y8, y9, y10, y11]) ?_ ?_
  · rcases hbe with ⟨rfl, rfl⟩ | ⟨c', r', rfl, rfl, hc', hcl', hls'⟩
    · walk_at "own EVX"
      exact ⟨_, _, _, _, _, _, _, rfl⟩
    · walk_at "own EVX"
      refine gv_of (law_rowofcode_ok hc' hls' (by rw [← hls'.len, listing_len]; omega)) fun _ => ?_
      walk_at "own EV"
      exact ⟨_, _, _, _, _, _, _, rfl⟩
  rintro ρ ⟨y5, y6, y7, y8, y9, y10, y11, rfl⟩
  walk_at "own EV"
  refine mp_compG (fun _ => true) (fun d => match d with | .int k => dl (c ++ [k]) | _ => .non) ?_
  walk_at "own EV"
  refine ⟨⟨by omega, by omega⟩, ?_⟩
  have en1 : ((c.length : Int) + 1).toNat = c.length + 1 := by omega
  rw [en1]
  refine ⟨by rw [rngL_len]; omega, ?_, ?_, fun d => rfl, ?_⟩
  · intro d hd
    walk_at "own EV"
    exact ⟨rfl, rfl⟩
  · intro d hd _
    unfold rngL at hd
    obtain ⟨k, hk, rfl⟩ := List.mem_map.mp hd
    walk_at "own EV"
    refine ⟨by simp; omega, ?_, rfl⟩
    show D.lst _ = D.lst _
    rw [List.map_append]
    rfl
  have ek : D.lst (((rngL 0 (c.length + 1)).filter fun _ => true).map (fun d => match d with | .int k => dl (c ++ [k]) | _ => .non)) = kids c := by
    rw [List.filter_eq_self.mpr fun _ _ => rfl]
    unfold rngL kids
    rw [List.map_map]
    show D.lst _ = D.lst _
    refine congrArg D.lst (List.map_congr_left fun k _ => ?_)
    show dl (c ++ [(0 : Int) + (k : Int)]) = _
    rw [Int.zero_add]
  rw [ek]
  have hmore : ∃ more : D, Rg "children_codes" (dl c) (.int 0) more ∧ more = if c.length = 30 then .tup [.str "refused", .tup [.str "TooLarge", .int 30]] else .tup [.str "told", kids c] := by
    by_cases h30 : c.length = 30
    · exact ⟨_, rg_kids_full hc h30, by rw [if_pos h30]; rfl⟩
    · exact ⟨_, rg_kids hc (by omega), by rw [if_neg h30]⟩
  obtain ⟨more, hmr, hme⟩ := hmore
  walk_at "own EV1"
  refine op_seqI (fun ρ => ∃ y6 y7 y8 y9 y10 y11, ρ = [some (dl c), some (.int c.length), some (dl r), some (.int (numAt c c.length)), some be, some more, y6, y7, y8, y9, y10, y11]) ?_ ?_
  · walk_at "own EV1"
    refine ite_b (fun g => ?_) (fun g => ?_)
    · have g : c.length = 30 := by have g := g; simp [eqD] at g; omega
      rw [if_pos g] at hme
      subst hme
      walk_at "own EV"
      exact ⟨_, _, _, _, _, _, rfl⟩
    · have g : c.length ≠ 30 := by have g := g; simp [eqD] at g; omega
      rw [if_neg g] at hme
      subst hme
      walk_at "own EV"
      exact ⟨_, _, _, _, _, _, rfl⟩
  rintro ρ ⟨y6, y7, y8, y9, y10, y11, rfl⟩
  walk_at "own EV"
  refine ⟨by simp [sz], ?_⟩
  walk_at "own EV"
  refine ⟨by simp [sz], ?_⟩
  walk_at "own EV"
  refine ⟨by simp [sz], ?_⟩
  walk_at "own EV"
  refine for_mem (fun ρ => ∃ A y8 y9 y10 y11, ρ = [some (dl c), some (.int c.length), some (dl r), some (.int (numAt c c.length)), some be, some more, y6, some A, y8, y9, y10, y11]) ?_ ?_ ⟨_, _, _, _, _, rfl⟩
  · rintro d hd ρ ⟨A, y8, y9, y10, y11, rfl⟩
    have hv : ∃ nm one two due, d = .tup [.str nm, one, two, due] ∧ Rg nm one two due := by
      simp only [List.mem_append, List.mem_cons, List.not_mem_nil, or_false] at hd
      rcases hd with (((rfl | rfl) | (rfl | rfl)) | (rfl | rfl)) | rfl
      · exact ⟨_, _, _, _, rfl, rg_iscode (b := true) hl (by simp [hc])⟩
      · exact ⟨_, _, _, _, rfl, rg_roc hc hls hl⟩
      · exact ⟨_, _, _, _, rfl, by rw [← hco]; exact rg_codeof (by omega) hr⟩
      · exact ⟨_, _, _, _, rfl, by rw [← hnum]; exact rg_num (by omega) hr⟩
      · exact ⟨_, _, _, _, rfl, rg_rnum hl n0 n1 (by rw [n2]; exact hls)⟩
      · exact ⟨_, _, _, _, rfl, hrg⟩
      · exact ⟨_, _, _, _, rfl, hmr⟩
    obtain ⟨nm, one, two, due, rfl, hv⟩ := hv
    refine opt_some rfl ?_
    walk_at "own EV"
    refine holds_tt hv fun _ => ?_
    walk_at "own EVX"
    exact ⟨_, _, _, _, _, rfl⟩
  · rintro ρ ⟨A, y8, y9, y10, y11, rfl⟩
    walk_at "own EV"
    exact ⟨fun e => (nomatch e), fun e => (nomatch e), rfl⟩
theorem law_refused_ok {bad : List Int} {t : Bool} {X : EX} (hb : BadAs IsCode t bad) : FP (s_law_refused.φ [dl bad, Du t]) (GV (.bl true)) X := by
  unfold s_law_refused
  with_reducible refine fp_run ?_
  unfold x_law_refused
  walk_at "own EV"
  refine holds_tt (rg_roc_bad hb) fun _ => ?_
  walk_at "own EVX"
  refine holds_tt (rg_kids_bad hb) fun _ => ?_
  walk_at "own EVX"
  cases t with
  | true =>
    walk_at "own EVX"
    refine holds_tt (rg_iscode_big hb.t) fun _ => ?_
    exact ⟨fun e => (nomatch e), fun e => (nomatch e), rfl⟩
  | false =>
    walk_at "own EVX"
    refine holds_tt (rg_iscode (b := false) hb.f.1 (by simp [hb.f.2])) fun _ => ?_
    exact ⟨fun e => (nomatch e), fun e => (nomatch e), rfl⟩
theorem sto_ls {b : Nat} {st : D} {P : List D → Prop} (h : Sto b st) (q : ∀ l, st = .lst l → P l) : LS st P := by
  obtain ⟨cs, pos, rest, turn, seed, rfl, _⟩ := h
  exact q _ rfl
theorem code_low (n : Nat) : IsCode (List.replicate n 0) := fun k c e => by
  have := List.eq_of_mem_replicate (List.mem_of_getElem? e)
  omega
theorem code_high (n : Nat) : IsCode (rngI n) := fun k c e => by
  unfold rngI at e
  rw [List.getElem?_map] at e
  obtain ⟨j, hj, rfl⟩ := Option.map_eq_some_iff.mp e
  obtain ⟨h1, h2⟩ := List.getElem?_eq_some_iff.mp hj
  rw [List.getElem_range] at h2
  omega
theorem code_set {c : List Int} {p : Nat} {v : Int} (h : IsCode c) (h0 : 0 ≤ v) (h1 : v ≤ p) : IsCode (c.set p v) := fun k x e => by
  by_cases hk : p = k
  · subst hk
    rw [List.getElem?_set] at e
    simp only [if_true] at e
    split at e
    · cases e; exact ⟨h0, h1⟩
    · cases e
  · rw [List.getElem?_set_ne hk] at e
    exact h k x e
theorem p6 : (10 : Int) ^ Int.toNat 6 = 1000000 := by decide
theorem p39 : (2 : Int) ^ 108 < 10 ^ Int.toNat 39 := by decide
theorem pure_law (ns : List Int) (hl : ns.length ≤ 63) (hb : ∀ z ∈ ns, Builtin.Int.intBits z ≤ 1048576) : ∃ d, s_law.φ [.scr ns] = .ok (.bl true, d) := by
  have sz : sizeLine = 16777216 := sizeLine_eq
  have main : FP (s_law.φ [.scr ns]) (fun d _ => d = .bl true) NoX := by
    unfold s_law
    with_reducible refine fp_run ?_
    unfold x_law
    walk_at "own EV"
    refine (store_ok hl hb).mono fun st e hs => ?_
    have hs : Sto 1000000 st := hs
    refine sto_ls hs fun l el => ?_
    subst el
    walk_at "own EV"
    refine (length_ok (b := 900000) (hs.le (by omega)) (by omega)).mono fun d st2 ⟨n, e, n0, n1, hs2⟩ => ?_
    subst e
    walk_at "own EV1"
    refine op_seqI (fun ρ => ∃ (st' : D) (n : Nat), ρ = [some (.scr ns), some st', some (.int n), none, none, none, none, none, none, none, none, none, none, none, none, none, none] ∧ n ≤ 30 ∧ Sto 800000 st') ?_ ?_
    · walk_at "own EV"
      refine (take_ok (b := 890000) (hs2.le (by omega)) (by omega)).mono fun d st3 ⟨v, e, _, _, hs3⟩ => ?_
      subst e
      walk_at "own EV"
      refine ite_b (fun g => ?_) (fun g => ?_)
      · walk_at "own EV"
        refine (take_ok (b := 880000) (hs3.le (by omega)) (by omega)).mono fun d st4 ⟨v, e, v0, _, hs4⟩ => ?_
        subst e
        walk_at "own EV"
        have hm : ∃ k : Nat, (if n + v < 30 then n + v else 30) = (k : Int) ∧ k ≤ 30 := by
          split
          · exact ⟨(n + v).toNat, by omega, by omega⟩
          · exact ⟨30, rfl, by omega⟩
        obtain ⟨k, ek, hk⟩ := hm
        refine ⟨st4, k, ?_, hk, hs4.le (by omega)⟩
        rw [ek]; rfl
      · walk_at "own EV"
        obtain ⟨k, rfl⟩ := Int.eq_ofNat_of_zero_le n0
        exact ⟨st3, k, rfl, by omega, hs3.le (by omega)⟩
    rintro ρ ⟨st3, n, rfl, hn, hs3⟩
    walk_at "own EV"
    refine (code_ok (b := 790000) (n := n) (hs3.le (by omega)) (by omega)).mono fun d st4 ⟨c, e, hcl, hc, hs4⟩ => ?_
    subst e
    walk_at "own EV"
    refine ⟨⟨by simp; omega, by omega, by omega⟩, ?_⟩
    rw [Int.toNat_natCast, rep0]
    walk_at "own EV"
    refine ⟨⟨by omega, by omega⟩, by rw [rngL_len]; omega, ?_⟩
    rw [Int.toNat_natCast, rngL_rngI]
    walk_at "own EV1"
    refine op_seq ?_
    walk_at "own EV1"
    refine op_seqI (fun ρ => ∃ (st' : D) (ca : List Int) (y7 : Option D), ρ = [some (.scr ns), some st', some (.int n), some (dl c), some (dl (List.replicate n 0)), some (dl (rngI n)), some (dl ca), y7, none, none, none, none, none, none, none, none, none] ∧ IsCode ca ∧ ca.length = n ∧ Sto 780000 st') ?_ ?_
    · walk_at "own EV1"
      refine ite_b (fun g => ?_) (fun g => ?_)
      · have g : 1 < n := by have g := g; simp [cmpI] at g; omega
        walk_at "own EV"
        refine (take_ok (b := 788000) (hs4.le (by omega)) (by omega)).mono fun d st5 ⟨p, e, p0, p1, hs5⟩ => ?_
        subst e
        obtain ⟨p, rfl⟩ := Int.eq_ofNat_of_zero_le p0
        walk_at "own EV"
        refine (take_ok (b := 787000) (hs5.le (by omega)) (by omega)).mono fun d st6 ⟨v, e, v0, v1, hs6⟩ => ?_
        subst e
        have e1 : (1 : Int) + (p : Int) = ((p + 1 : Nat) : Int) := by omega
        walk_at "own EV"
        rw [e1]
        refine opt_ixN (by omega) (by rw [List.length_map, rngI_len]; omega) ?_
        rw [Int.toNat_natCast]
        walk_at "own EV"
        refine ⟨st6, (rngI n).set (p + 1) v, some (.int ((p + 1 : Nat) : Int)), ?_, code_set (code_high n) v0 (by omega), by rw [List.length_set, rngI_len], hs6.le (by omega)⟩
        show [_, _, _, _, _, _, some (D.lst _), _, _, _, _, _, _, _, _, _, _] = [_, _, _, _, _, _, some (D.lst _), _, _, _, _, _, _, _, _, _, _]
        rw [List.map_set]
      · walk_at "own EV"
        exact ⟨st4, rngI n, none, rfl, code_high n, rngI_len, hs4.le (by omega)⟩
    rintro ρ ⟨st5, ca, y7, rfl, hca, hcal, hs5⟩
    walk_at "own EV"
    refine for_mem (fun ρ => ∃ y8, ρ = [some (.scr ns), some st5, some (.int n), some (dl c), some (dl (List.replicate n 0)), some (dl (rngI n)), some (dl ca), y7, y8, none, none, none, none, none, none, none, none]) ?_ ?_ ⟨none, rfl⟩
    · rintro d hd ρ ⟨y8, rfl⟩
      have hv : ∃ k : List Int, d = dl k ∧ IsCode k ∧ k.length ≤ 30 := by
        simp only [List.mem_cons, List.not_mem_nil, or_false] at hd
        rcases hd with rfl | rfl | rfl | rfl
        · exact ⟨_, rfl, hc, by omega⟩
        · exact ⟨_, rfl, code_low n, by simp; omega⟩
        · exact ⟨_, rfl, code_high n, by rw [rngI_len]; omega⟩
        · exact ⟨_, rfl, hca, by omega⟩
      obtain ⟨k, rfl, hk, hkl⟩ := hv
      refine opt_some rfl ?_
      walk_at "own EV"
      refine gv_of (law_right_ok hk hkl) fun _ => ?_
      walk_at "own EVX"
      exact ⟨_, rfl⟩
    · rintro ρ ⟨y8, rfl⟩
      walk_at "own EV"
      refine ⟨⟨by omega, by omega, by omega, by omega⟩, ?_⟩
      have en1 : ((n : Int) + 1 - 1).toNat = n := by omega
      rw [en1]
      refine for_rng (fun i ρ => ∃ y10, ρ = [some (.scr ns), some st5, some (.int n), some (dl c), some (dl (List.replicate n 0)), some (dl (rngI n)), some (dl ca), y7, y8, some (.int (fct i)), y10, none, none, none, none, none, none]) ?_ ?_ ⟨none, rfl⟩
      · rintro i ρ hi ⟨y10, rfl⟩
        have ei : (1 : Int) + (i : Int) = (i : Int) + 1 := by omega
        rw [ei]
        walk_at "own EV"
        refine opt_mul 108 6 (fct_small (by omega)) (by omega) (by decide) ?_
        walk_at "own EV"
        exact ⟨_, rfl⟩
      · rintro ρ ⟨y10, rfl⟩
        walk_at "own EV"
        refine ⟨⟨by decide, by decide⟩, ?_⟩
        refine for_rng (fun i ρ => ∃ (st' : D) (g : Int) (y12 : Option D), ρ = [some (.scr ns), some st', some (.int n), some (dl c), some (dl (List.replicate n 0)), some (dl (rngI n)), some (dl ca), y7, y8, some (.int (fct n)), y10, some (.int g), y12, none, none, none, none] ∧ 0 ≤ g ∧ g < 2 ^ (20 * i) ∧ Sto (770000 - i) st') ?_ ?_ ⟨st5, 0, none, rfl, by omega, by decide, hs5.le (by omega)⟩
        · rintro i ρ hi ⟨st', g, y12, rfl, g0, g1, hs'⟩
          have hi : i < 6 := hi
          have hgs : g.natAbs < 2 ^ (20 * i) := by
            have : (g.natAbs : Int) < ((2 ^ (20 * i) : Nat) : Int) := by
              rw [Int.natAbs_of_nonneg g0]
              have e : ((2 ^ (20 * i) : Nat) : Int) = 2 ^ (20 * i) := by push_cast; rfl
              rw [e]; exact g1
            exact_mod_cast this
          walk_at "own EV"
          rw [p6]
          refine opt_mul (20 * i) 20 hgs (by decide) (by omega) ?_
          walk_at "own EV"
          refine (take_ok (b := 770000 - (i + 1)) (hs'.le (by omega)) (by rw [p6]; decide)).mono fun d st6 ⟨v, e, v0, v1, hs6⟩ => ?_
          subst e
          rw [p6] at v1
          walk_at "own EV"
          refine ⟨st6, _, _, rfl, ?_, ?_, hs6⟩
          · have : 0 ≤ g * 1000000 := Int.mul_nonneg g0 (by decide)
            omega
          · have e : (2 : Int) ^ (20 * (i + 1)) = 2 ^ (20 * i) * 1048576 := by
              rw [show 20 * (i + 1) = 20 * i + 20 by omega, Int.pow_add]
              rfl
            rw [e]
            generalize (2 : Int) ^ (20 * i) = P at g1
            omega
        · rintro ρ ⟨st6, g, y12, rfl, g0, g1, hs6⟩
          have hs6 : Sto (770000 - 6) st6 := hs6
          have hf := fct_pos n
          obtain ⟨_, hf2⟩ := fct_bd hn
          walk_at "own EV"
          refine opt_mod hf ?_
          have m0 := Int.emod_nonneg g (show fct n ≠ 0 by omega)
          have m1 := Int.emod_lt_of_pos g hf
          generalize g % fct n = gr at *
          walk_at "own EV"
          refine gv_of (law_codeofnumber_ok (by omega)) fun _ => ?_
          walk_at "own EV"
          obtain ⟨r, hr, hrl, hls, _⟩ := code_rowE (codeN_code n gr)
          refine gv_of (law_rowofcode_ok (codeN_code n gr) hls (by rw [hrl, codeN_len]; omega)) fun _ => ?_
          walk_at "own EV"
          refine holds_tt (rg_rnum hn m0 m1 hls) fun _ => ?_
          walk_at "own EVX"
          have h39 := p39
          refine for_mem (fun ρ => ∃ y13, ρ = [some (.scr ns), some st6, some (.int n), some (dl c), some (dl (List.replicate n 0)), some (dl (rngI n)), some (dl ca), y7, y8, some (.int (fct n)), y10, some (.int gr), y12, y13, none, none, none]) ?_ ?_ ⟨none, rfl⟩
          · rintro d hd ρ ⟨y13, rfl⟩
            have hv : ∃ v : Int, d = .int v ∧ ¬ (0 ≤ v ∧ v < fct n) := by
              simp only [List.mem_cons, List.not_mem_nil, or_false] at hd
              rcases hd with rfl | rfl | rfl | rfl | rfl
              · exact ⟨_, rfl, by omega⟩
              · exact ⟨_, rfl, by omega⟩
              · exact ⟨_, rfl, by omega⟩
              · exact ⟨_, rfl, by omega⟩
              · exact ⟨_, rfl, by omega⟩
            obtain ⟨v, rfl, hv⟩ := hv
            walk_at "own EV"
            refine holds_tt (rg_rnum_out hn hv) fun _ => ?_
            walk_at "own EVX"
            exact ⟨_, rfl⟩
          · rintro ρ ⟨y13, rfl⟩
            walk_at "own EV"
            refine (badn_ok (b := 760000) (hs6.le (by omega))).mono fun d st7 ⟨bn, t, e, hbn, hs7⟩ => ?_
            subst e
            walk_at "own EV"
            refine for_mem (fun ρ => ∃ y15, ρ = [some (.scr ns), some st7, some (.int n), some (dl c), some (dl (List.replicate n 0)), some (dl (rngI n)), some (dl ca), y7, y8, some (.int (fct n)), y10, some (.int gr), y12, y13, some (.tup [.int bn, Du t]), y15, none]) ?_ ?_ ⟨none, rfl⟩
            · rintro d hd ρ ⟨y15, rfl⟩
              have hv : ∃ v : Int, d = .int v := by
                simp only [List.mem_cons, List.not_mem_nil, or_false] at hd
                rcases hd with rfl | rfl <;> exact ⟨_, rfl⟩
              obtain ⟨v, rfl⟩ := hv
              walk_at "own EV"
              refine holds_tt (rg_rnum_bad hbn) fun _ => ?_
              walk_at "own EVX"
              exact ⟨_, rfl⟩
            · rintro ρ ⟨y15, rfl⟩
              walk_at "own EV"
              refine (badrow_ok (b := 700000) (hs7.le (by omega)) (by omega) (by omega)).mono fun d st8 ⟨hd, hs8⟩ => ?_
              obtain ⟨t2, bad, rfl, ht2⟩ := badrow_as hd
              walk_at "own EV"
              refine for_mem (fun ρ => ∃ y16, ρ = [some (.scr ns), some st8, some (.int n), some (dl c), some (dl (List.replicate n 0)), some (dl (rngI n)), some (dl ca), y7, y8, some (.int (fct n)), y10, some (.int gr), y12, some (.tup [dl bad, Du t2]), some (.tup [.int bn, Du t]), y15, y16]) ?_ ?_ ⟨none, rfl⟩
              · rintro d hd ρ ⟨y16, rfl⟩
                have h31 : BadAs IsRow true (rngI 31) := by unfold BadAs; rw [if_pos rfl, rngI_len]
                have hv : ∃ nm, d = .str nm ∧ Rg nm (dl bad) (.int 0) (.tup [.str "refused", Du t2]) ∧ Rg nm (dl (rngI 31)) (.int 0) (.tup [.str "refused", Du true]) := by
                  simp only [List.mem_cons, List.not_mem_nil, or_false] at hd
                  rcases hd with rfl | rfl | rfl
                  · exact ⟨_, rfl, rg_codeof_bad ht2, rg_codeof_bad h31⟩
                  · exact ⟨_, rfl, rg_num_bad ht2, rg_num_bad h31⟩
                  · exact ⟨_, rfl, rg_next_bad ht2, rg_next_bad h31⟩
                obtain ⟨nm, rfl, hv1, hv2⟩ := hv
                walk_at "own EV"
                refine holds_tt hv1 fun _ => ?_
                walk_at "own EVX"
                refine ⟨⟨by decide, by decide⟩, by decide, ?_⟩
                walk_at "own EV"
                refine holds_tt (by have e : D.lst (rngL 0 (Int.toNat 31)) = dl (rngI 31) := by show D.lst _ = D.lst _; rw [← rngL_rngI]; rfl
                                    rw [e]; exact hv2) fun _ => ?_
                walk_at "own EVX"
                exact ⟨_, rfl⟩
              · rintro ρ ⟨y16, rfl⟩
                walk_at "own EV"
                refine (badcode_ok (b := 600000) (hs8.le (by omega)) (by omega) (by omega)).mono fun d st9 ⟨hd, hs9⟩ => ?_
                obtain ⟨t3, bad3, rfl, ht3⟩ := badcode_as hd
                walk_at "own EV"
                refine gv_of (law_refused_ok ht3) fun _ => ?_
                walk_at "own EVX"
                refine ⟨⟨by decide, by decide, by decide⟩, ?_⟩
                have e31 : (List.replicate (Int.toNat 31) [D.int 0]).flatten = (List.replicate 31 (0 : Int)).map .int := rep0 31
                rw [e31]
                walk_at "own EV"
                refine gv_of (law_refused_ok (t := true) (bad := List.replicate 31 0) (by unfold BadAs; rw [if_pos rfl]; simp)) fun _ => ?_
                exact ⟨rfl, fun e => (nomatch e), fun e => (nomatch e), rfl⟩
  obtain ⟨d, e, h, rfl⟩ := main.ok
  exact ⟨e, h⟩
end OS
open PySem PySem.W PyProof.Rows
set_option maxHeartbeats 0 in
theorem PySem.Challenge.cw_onestraight_k05_codes_rows_and_numbers_holds : PySem.Challenge.rw_onestraight_k05_codes_rows_and_numbers.Holds := by
  w_on; o_law; k_head; (case hw => w_witness2)
  k_fill
  refine L2.walk_ofB (l := PySem.Challenge.rw_onestraight_k05_codes_rows_and_numbers) (n := 63) (k := 20) (x := "script") (CX := fun w => L2N.CX PySem.Challenge.pw_onestraight_k05_codes_rows_and_numbers w) (sp := fun w => OS.spLw _) rfl (by decide) rfl ⟨rfl, by decide, by decide⟩ (fun w h Y => PySem.W.kIn_of Y) ?F (fun _ _ a ns hl hb _ hS => ⟨a, ns, rfl, hS, hl, hb, fun _ => rfl⟩) ?CX
  case CX =>
    intro w H s e s' h
    obtain ⟨_, _, _, _, _, _, _, _, _, _, _, _, z⟩ := h
    exact z
  case F =>
    intro w mg fa h KX G hmg
    refine' OS.all_mk KX G hmg OS.pure_law ?g_BadCell ?g_BadRoad ?g_BadOrder ?g_BadWorld ?g_BadRule ?g_BadLot ?g_BadPlane ?g_BadTree ?g_BadScene ?g_NotTold ?g_BadText ?g_TooLarge ?g_StraightError ?z_len ?z_range ?z_min ?z_max ?z_abs ?z_int ?z_sum ?z_any ?z_all ?z_isinstance ?z_list ?z_tuple ?z_sorted ?z_bool ?z_str ?z_reversed ?z_enumerate ?z_ValueError ?q_ROW_LIMIT ?r_ROW_LIMIT ?b1_TooLarge ?b2_TooLarge ?b3_TooLarge ?b4_TooLarge_limit ?b5_TooLarge ?b6_TooLarge ?b7_TooLarge ?b1_BadOrder ?b2_BadOrder ?b3_BadOrder ?b4_BadOrder ?b5_BadOrder ?kn_TooLarge ?kn_BadOrder ?dd ?aL ?lL ?cL ?kL
    (case g_BadCell => k_is)
    (case g_BadRoad => k_is)
    (case g_BadOrder => k_is)
    (case g_BadWorld => k_is)
    (case g_BadRule => k_is)
    (case g_BadLot => k_is)
    (case g_BadPlane => k_is)
    (case g_BadTree => k_is)
    (case g_BadScene => k_is)
    (case g_NotTold => k_is)
    (case g_BadText => k_is)
    (case g_TooLarge => k_is)
    (case g_StraightError => k_is)
    (case z_len => k_is)
    (case z_range => k_is)
    (case z_min => k_is)
    (case z_max => k_is)
    (case z_abs => k_is)
    (case z_int => k_is)
    (case z_sum => k_is)
    (case z_any => k_is)
    (case z_all => k_is)
    (case z_isinstance => k_is)
    (case z_list => k_is)
    (case z_tuple => k_is)
    (case z_sorted => k_is)
    (case z_bool => k_is)
    (case z_str => k_is)
    (case z_reversed => k_is)
    (case z_enumerate => k_is)
    (case z_ValueError => k_is)
    (case q_ROW_LIMIT => k_is)
    (case r_ROW_LIMIT => exact ⟨_, rfl⟩)
    (case b1_TooLarge => kernel_rfl)
    (case b2_TooLarge => k_is)
    (case b3_TooLarge => k_is)
    (case b4_TooLarge_limit => k_is)
    (case b5_TooLarge => k_is)
    (case b6_TooLarge => k_is)
    (case b7_TooLarge => k_is)
    (case b1_BadOrder => kernel_rfl)
    (case b2_BadOrder => k_is)
    (case b3_BadOrder => k_is)
    (case b4_BadOrder => k_is)
    (case b5_BadOrder => k_is)
    (case kn_TooLarge => kernel_rfl)
    (case kn_BadOrder => kernel_rfl)
    case dd =>
      refine ⟨?d_is_order, ?d_check_order, ?d_from_listing, ?d_check_many, ?d_is_code, ?d_check_code, ?d_code_of, ?d_from_code, ?d_row_of_code, ?d_number_of, ?d_count_rows, ?d_code_numbered, ?d_row_numbered, ?d_next_row, ?d_children_codes, ?d_law_errorof, ?d_law_stir, ?d_law_store, ?d_law_take, ?d_law_pick, ?d_law_near, ?d_law_order, ?d_law_length, ?d_law_row, ?d_law_badrow, ?d_law_rowof, ?d_law_code, ?d_law_rowofcode, ?d_law_badcode, ?d_law_badn, ?d_law_same, ?d_law_ask, ?d_law_holds, ?d_law_numberof, ?d_law_after, ?d_law_right, ?d_law_codeofnumber, ?d_law_refused⟩
      (case d_is_order => refine' OS.defAt_mk KX G ?a ?l ?c ?k OS.bn_is_order; (case a => k_is); (case l => k_is); (case c => k_is); (case k => k_is))
      (case d_check_order => refine' OS.defAt_mk KX G ?a ?l ?c ?k OS.bn_check_order; (case a => k_is); (case l => k_is); (case c => k_is); (case k => k_is))
      (case d_from_listing => refine' OS.defAt_mk KX G ?a ?l ?c ?k OS.bn_from_listing; (case a => k_is); (case l => k_is); (case c => k_is); (case k => k_is))
      (case d_check_many => refine' OS.defAt_mk KX G ?a ?l ?c ?k OS.bn_check_many; (case a => k_is); (case l => k_is); (case c => k_is); (case k => k_is))
      (case d_is_code => refine' OS.defAt_mk KX G ?a ?l ?c ?k OS.bn_is_code; (case a => k_is); (case l => k_is); (case c => k_is); (case k => k_is))
      (case d_check_code => refine' OS.defAt_mk KX G ?a ?l ?c ?k OS.bn_check_code; (case a => k_is); (case l => k_is); (case c => k_is); (case k => k_is))
      (case d_code_of => refine' OS.defAt_mk KX G ?a ?l ?c ?k OS.bn_code_of; (case a => k_is); (case l => k_is); (case c => k_is); (case k => k_is))
      (case d_from_code => refine' OS.defAt_mk KX G ?a ?l ?c ?k OS.bn_from_code; (case a => k_is); (case l => k_is); (case c => k_is); (case k => k_is))
      (case d_row_of_code => refine' OS.defAt_mk KX G ?a ?l ?c ?k OS.bn_row_of_code; (case a => k_is); (case l => k_is); (case c => k_is); (case k => k_is))
      (case d_number_of => refine' OS.defAt_mk KX G ?a ?l ?c ?k OS.bn_number_of; (case a => k_is); (case l => k_is); (case c => k_is); (case k => k_is))
      (case d_count_rows => refine' OS.defAt_mk KX G ?a ?l ?c ?k OS.bn_count_rows; (case a => k_is); (case l => k_is); (case c => k_is); (case k => k_is))
      (case d_code_numbered => refine' OS.defAt_mk KX G ?a ?l ?c ?k OS.bn_code_numbered; (case a => k_is); (case l => k_is); (case c => k_is); (case k => k_is))
      (case d_row_numbered => refine' OS.defAt_mk KX G ?a ?l ?c ?k OS.bn_row_numbered; (case a => k_is); (case l => k_is); (case c => k_is); (case k => k_is))
      (case d_next_row => refine' OS.defAt_mk KX G ?a ?l ?c ?k OS.bn_next_row; (case a => k_is); (case l => k_is); (case c => k_is); (case k => k_is))
      (case d_children_codes => refine' OS.defAt_mk KX G ?a ?l ?c ?k OS.bn_children_codes; (case a => k_is); (case l => k_is); (case c => k_is); (case k => k_is))
      (case d_law_errorof => refine' OS.defAt_mk KX G ?a ?l ?c ?k OS.bn_law_errorof; (case a => k_is); (case l => k_is); (case c => k_is); (case k => k_is))
      (case d_law_stir => refine' OS.defAt_mk KX G ?a ?l ?c ?k OS.bn_law_stir; (case a => k_is); (case l => k_is); (case c => k_is); (case k => k_is))
      (case d_law_store => refine' OS.defAt_mk KX G ?a ?l ?c ?k OS.bn_law_store; (case a => k_is); (case l => k_is); (case c => k_is); (case k => k_is))
      (case d_law_take => refine' OS.defAt_mk KX G ?a ?l ?c ?k OS.bn_law_take; (case a => k_is); (case l => k_is); (case c => k_is); (case k => k_is))
      (case d_law_pick => refine' OS.defAt_mk KX G ?a ?l ?c ?k OS.bn_law_pick; (case a => k_is); (case l => k_is); (case c => k_is); (case k => k_is))
      (case d_law_near => refine' OS.defAt_mk KX G ?a ?l ?c ?k OS.bn_law_near; (case a => k_is); (case l => k_is); (case c => k_is); (case k => k_is))
      (case d_law_order => refine' OS.defAt_mk KX G ?a ?l ?c ?k OS.bn_law_order; (case a => k_is); (case l => k_is); (case c => k_is); (case k => k_is))
      (case d_law_length => refine' OS.defAt_mk KX G ?a ?l ?c ?k OS.bn_law_length; (case a => k_is); (case l => k_is); (case c => k_is); (case k => k_is))
      (case d_law_row => refine' OS.defAt_mk KX G ?a ?l ?c ?k OS.bn_law_row; (case a => k_is); (case l => k_is); (case c => k_is); (case k => k_is))
      (case d_law_badrow => refine' OS.defAt_mk KX G ?a ?l ?c ?k OS.bn_law_badrow; (case a => k_is); (case l => k_is); (case c => k_is); (case k => k_is))
      (case d_law_rowof => refine' OS.defAt_mk KX G ?a ?l ?c ?k OS.bn_law_rowof; (case a => k_is); (case l => k_is); (case c => k_is); (case k => k_is))
      (case d_law_code => refine' OS.defAt_mk KX G ?a ?l ?c ?k OS.bn_law_code; (case a => k_is); (case l => k_is); (case c => k_is); (case k => k_is))
      (case d_law_rowofcode => refine' OS.defAt_mk KX G ?a ?l ?c ?k OS.bn_law_rowofcode; (case a => k_is); (case l => k_is); (case c => k_is); (case k => k_is))
      (case d_law_badcode => refine' OS.defAt_mk KX G ?a ?l ?c ?k OS.bn_law_badcode; (case a => k_is); (case l => k_is); (case c => k_is); (case k => k_is))
      (case d_law_badn => refine' OS.defAt_mk KX G ?a ?l ?c ?k OS.bn_law_badn; (case a => k_is); (case l => k_is); (case c => k_is); (case k => k_is))
      (case d_law_same => refine' OS.defAt_mk KX G ?a ?l ?c ?k OS.bn_law_same; (case a => k_is); (case l => k_is); (case c => k_is); (case k => k_is))
      (case d_law_ask => refine' OS.defAt_mk KX G ?a ?l ?c ?k OS.bn_law_ask; (case a => k_is); (case l => k_is); (case c => k_is); (case k => k_is))
      (case d_law_holds => refine' OS.defAt_mk KX G ?a ?l ?c ?k OS.bn_law_holds; (case a => k_is); (case l => k_is); (case c => k_is); (case k => k_is))
      (case d_law_numberof => refine' OS.defAt_mk KX G ?a ?l ?c ?k OS.bn_law_numberof; (case a => k_is); (case l => k_is); (case c => k_is); (case k => k_is))
      (case d_law_after => refine' OS.defAt_mk KX G ?a ?l ?c ?k OS.bn_law_after; (case a => k_is); (case l => k_is); (case c => k_is); (case k => k_is))
      (case d_law_right => refine' OS.defAt_mk KX G ?a ?l ?c ?k OS.bn_law_right; (case a => k_is); (case l => k_is); (case c => k_is); (case k => k_is))
      (case d_law_codeofnumber => refine' OS.defAt_mk KX G ?a ?l ?c ?k OS.bn_law_codeofnumber; (case a => k_is); (case l => k_is); (case c => k_is); (case k => k_is))
      (case d_law_refused => refine' OS.defAt_mk KX G ?a ?l ?c ?k OS.bn_law_refused; (case a => k_is); (case l => k_is); (case c => k_is); (case k => k_is))
    (case aL => k_is)
    (case lL => k_is)
    (case cL => k_is)
    (case kL => k_is)
