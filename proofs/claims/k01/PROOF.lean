import PyProof.Rows.All
import Wide.All
import OpenK.AllK
import Wide.FinOn
import HandS.Base
import HandS.Call
import HandS.List
import HandS.Comp
import HandS.Dict
import HandS.Iter
import HandS.Text
import HandS.Exc
import PyProof.ToksMono
import HandS.Words
import HandS.WordsExc
import HandS.Defaults
import HandS.ExcOwn
import HandS.CallSlots
import HandS.Wide
import KE.IntBitsLaws
import HandS.IsInst
import HandS.StrMore
import HandS.More
import PyProof.CollectIter
import KE.KUnpack
import HandS.NoneIn
import HandS.Deep
import PyProof.P3In
import HandS.Conv
import HandS.Style
import HandS.Head0
import HandS.Head1
import HandS.Head2
import HandS.HeadEnd
import HandS.EndBits
import HandS.HeadHook1
import HandS.HeadHook2
import PyProof.ReprRoads
import HandS.SetTxt0
import HandS.SetFor
import HandS.Strs
import PyProof.Rows.SortShellAny
import KE.KStateDown
import PySem.Challenge.RW_plugnames_k01_words_and_patterns_judged
section
set_option Elab.async false
set_option linter.all false
set_option maxRecDepth 100000
namespace PyD
open PySem L2

/-! ### data -/
inductive D where
  | non | bl (b : Bool) | int (i : Int) | str (s : List Nat)
  | lst (xs : List D) | tup (xs : List D) | dic (kvs : List (D × D)) | set (xs : List D)
inductive O where
  | fz (d : D)
  | lst (xs : List O) | tup (xs : List O) | dic (kvs : List (D × O)) | dct (kvs : List (List Int × D))
mutual
def O.erase : O → D
  | .fz d => d
  | .lst xs => .lst (O.erases xs)
  | .tup xs => .tup (O.erases xs)
  | .dic kvs => .dic (O.eraseK kvs)
  | .dct _ => .set []
def O.erases : List O → List D
  | [] => []
  | o :: os => o.erase :: O.erases os
def O.eraseK : List (D × O) → List (D × D)
  | [] => []
  | (k, o) :: r => (k, o.erase) :: O.eraseK r
end
theorem O.erases_eq : ∀ os : List O, O.erases os = os.map O.erase
  | [] => by simp [O.erases]
  | o :: os => by simp [O.erases, O.erases_eq os]

/-- a text as its code points -/
def sOf (l : List Nat) : Str := ⟨l.toArray⟩
theorem sOf_toList (x : Str) : sOf x.cps.toList = x := by
  cases x; simp [sOf]
theorem toList_sOf (l : List Nat) : (sOf l).cps.toList = l := by simp [sOf]
theorem length_sOf (l : List Nat) : (sOf l).length = l.length := by simp [sOf, Str.length]

/-- a text that is bounded, of signs below 128 -/
def okS (l : List Nat) : Prop := l.length ≤ sizeLine ∧ ∀ c ∈ l, c < 128
/-- a key of a dict -/
def KeyD : Key → D → Prop
  | .inl i, d => d = .int i
  | .inr x, d => d = .str x.cps.toList

/-! ### what a value stands for: over the frozen heap F -/
mutual
inductive Rep (K : PySem.W.Frag) (F : Hp) : V → D → Prop
  | non : Rep K F .non .non
  | bl (b : Bool) : Rep K F (.bl b) (.bl b)
  | int (i : Int) : Rep K F (.int i) (.int i)
  | str (l : List Nat) : okS l → Rep K F (.str (sOf l)) (.str l)
  | lst {a : Addr} {vs : List V} {ds : List D} : SqL K F a vs → Reps K F vs ds → Rep K F (.ref a) (.lst ds)
  | tup {a : Addr} {vs : List V} {ds : List D} : SqT K F a vs → Reps K F vs ds → Rep K F (.ref a) (.tup ds)
  | dic {a : Addr} {kvs : List (Key × V)} {es : List (D × D)} : Rd F a (.dK kvs) → RepK K F kvs es → Rep K F (.ref a) (.dic es)
  /-- nothing is known -/
  | junk (v : V) : Rep K F v (.set [])
inductive Reps (K : PySem.W.Frag) (F : Hp) : List V → List D → Prop
  | nil : Reps K F [] []
  | cons {v : V} {d : D} {vs : List V} {ds : List D} : Rep K F v d → Reps K F vs ds → Reps K F (v :: vs) (d :: ds)
inductive RepK (K : PySem.W.Frag) (F : Hp) : List (Key × V) → List (D × D) → Prop
  | nil : RepK K F [] []
  | cons {k : Key} {e : D} {v : V} {d : D} {r : List (Key × V)} {s : List (D × D)} : KeyD k e → Rep K F v d → RepK K F r s → RepK K F ((k, v) :: r) ((e, d) :: s)
end
/-- a dict with keys of ints, its values frozen -/
inductive RepT (K : PySem.W.Frag) (F : Hp) : List (List Key × V) → List (List Int × D) → Prop
  | nil : RepT K F [] []
  | cons {k : List Int} {v : V} {d : D} {r : List (List Key × V)} {s : List (List Int × D)} : Rep K F v d → RepT K F r s → RepT K F ((k.map Sum.inl, v) :: r) ((k, d) :: s)
mutual
inductive Own (K : PySem.W.Frag) (F H : Hp) : V → O → List Addr → Prop
  | fz {v : V} {d : D} : Rep K F v d → Own K F H v (.fz d) []
  | lst {a : Addr} {vs : List V} {os : List O} {fp : List Addr} : H a = some (.lst vs) → Owns K F H vs os fp → Own K F H (.ref a) (.lst os) (a :: fp)
  | tup {a : Addr} {vs : List V} {os : List O} {fp : List Addr} : H a = some (.tup vs) → Owns K F H vs os fp → Own K F H (.ref a) (.tup os) (a :: fp)
  | dic {a : Addr} {kvs : List (Key × V)} {os : List (D × O)} {fp : List Addr} : H a = some (.dK kvs) → (kvs.map (·.1)).Nodup → OwnK K F H kvs os fp → Own K F H (.ref a) (.dic os) (a :: fp)
  | dct {a : Addr} {kvs : List (List Key × V)} {es : List (List Int × D)} : H a = some (.dT kvs) → RepT K F kvs es → Own K F H (.ref a) (.dct es) [a]
inductive Owns (K : PySem.W.Frag) (F H : Hp) : List V → List O → List Addr → Prop
  | nil : Owns K F H [] [] []
  | cons {v : V} {o : O} {vs : List V} {os : List O} {fp fq : List Addr} : Own K F H v o fp → Owns K F H vs os fq → Owns K F H (v :: vs) (o :: os) (fp ++ fq)
inductive OwnK (K : PySem.W.Frag) (F H : Hp) : List (Key × V) → List (D × O) → List Addr → Prop
  | nil : OwnK K F H [] [] []
  | cons {k : Key} {e : D} {v : V} {o : O} {r : List (Key × V)} {s : List (D × O)} {fp fq : List Addr} : KeyD k e → Own K F H v o fp → OwnK K F H r s fq → OwnK K F H ((k, v) :: r) ((e, o) :: s) (fp ++ fq)
end

/-- the heap is a part of another -/
def Ex (F F' : Hp) : Prop := ∀ a o, F a = some o → F' a = some o
theorem Ex.refl (F : Hp) : Ex F F := fun _ _ h => h
theorem Ex.trans {F G H : Hp} (a : Ex F G) (b : Ex G H) : Ex F H := fun x o h => b x o (a x o h)
theorem Ex.new {H : Hp} {p : Addr} {o : HO} (h : H p = none) : Ex H (upd H p o) := fun a u e => by
  rw [upd_ne (ne_of_none e h)]; exact e
theorem Ex.rd {F F' : Hp} {a : Addr} {u : HO} (e : Ex F F') (h : Rd F a u) : Rd F' a u := by
  rcases h with h | ⟨o, h⟩
  · exact .inl (e a _ h)
  · exact .inr ⟨o, e a _ h⟩
theorem Ex.l {K : PySem.W.Frag} {F F' : Hp} {a : Addr} {xs : List V} (e : Ex F F') (h : SqL K F a xs) : SqL K F' a xs := by
  rcases h with h | h
  · exact .inl (e.rd h)
  · exact .inr h
theorem Ex.t {K : PySem.W.Frag} {F F' : Hp} {a : Addr} {xs : List V} (e : Ex F F') (h : SqT K F a xs) : SqT K F' a xs := by
  rcases h with h | h
  · exact .inl (e.rd h)
  · exact .inr h
section
variable {K : PySem.W.Frag} {F F' H H' : Hp}
mutual
theorem Rep.mono (e : Ex F F') : ∀ {v d}, Rep K F v d → Rep K F' v d
  | _, _, .non => .non
  | _, _, .bl b => .bl b
  | _, _, .int i => .int i
  | _, _, .str l h => .str l h
  | _, _, .lst h r => .lst (e.l h) (Reps.mono e r)
  | _, _, .tup h r => .tup (e.t h) (Reps.mono e r)
  | _, _, .dic h r => .dic (e.rd h) (RepK.mono e r)
  | _, _, .junk v => .junk v
theorem Reps.mono (e : Ex F F') : ∀ {v d}, Reps K F v d → Reps K F' v d
  | _, _, .nil => .nil
  | _, _, .cons h r => .cons (Rep.mono e h) (Reps.mono e r)
theorem RepK.mono (e : Ex F F') : ∀ {v d}, RepK K F v d → RepK K F' v d
  | _, _, .nil => .nil
  | _, _, .cons k h r => .cons k (Rep.mono e h) (RepK.mono e r)
end
theorem RepT.mono (e : Ex F F') : ∀ {v d}, RepT K F v d → RepT K F' v d
  | _, _, .nil => .nil
  | _, _, .cons h r => .cons (Rep.mono e h) (RepT.mono e r)
theorem Reps.length : ∀ {vs ds}, Reps K F vs ds → vs.length = ds.length
  | _, _, .nil => rfl
  | _, _, .cons _ r => by simp [Reps.length r]
theorem Reps.get : ∀ {vs : List V} {ds : List D} {i : Nat} {v : V}, Reps K F vs ds → vs[i]? = some v → ∃ d, ds[i]? = some d ∧ Rep K F v d
  | _, _, _, _, .nil, h => by simp at h
  | _, _, 0, _, .cons h r, e => by simp at e; subst e; exact ⟨_, rfl, h⟩
  | _, _, i + 1, _, .cons h r, e => by
    obtain ⟨d, h1, h2⟩ := Reps.get r (i := i) (by simpa using e)
    exact ⟨d, by simpa using h1, h2⟩
theorem Reps.get' : ∀ {vs : List V} {ds : List D} {i : Nat} {d : D}, Reps K F vs ds → ds[i]? = some d → ∃ v, vs[i]? = some v ∧ Rep K F v d
  | _, _, _, _, .nil, h => by simp at h
  | _, _, 0, _, .cons h r, e => by simp at e; subst e; exact ⟨_, rfl, h⟩
  | _, _, i + 1, _, .cons h r, e => by
    obtain ⟨d, h1, h2⟩ := Reps.get' r (i := i) (by simpa using e)
    exact ⟨d, by simpa using h1, h2⟩
theorem Reps.append : ∀ {vs ws : List V} {ds es : List D}, Reps K F vs ds → Reps K F ws es → Reps K F (vs ++ ws) (ds ++ es)
  | _, _, _, _, .nil, s => s
  | _, _, _, _, .cons h r, s => .cons h (Reps.append r s)
theorem Owns.length : ∀ {vs os fp}, Owns K F H vs os fp → vs.length = os.length
  | _, _, _, .nil => rfl
  | _, _, _, .cons _ r => by simp [Owns.length r]

/-! ### what an owned tree leans on -/
mutual
theorem Own.keep (e : Ex F F') : ∀ {v o fp}, Own K F H v o fp → (∀ a ∈ fp, ∀ u, H a = some u → H' a = some u) → Own K F' H' v o fp
  | _, _, _, .fz r, _ => .fz (r.mono e)
  | _, _, _, .lst h r, k => .lst (k _ List.mem_cons_self _ h) (Owns.keep e r fun a m => k a (List.mem_cons_of_mem _ m))
  | _, _, _, .tup h r, k => .tup (k _ List.mem_cons_self _ h) (Owns.keep e r fun a m => k a (List.mem_cons_of_mem _ m))
  | _, _, _, .dic h n r, k => .dic (k _ List.mem_cons_self _ h) n (OwnK.keep e r fun a m => k a (List.mem_cons_of_mem _ m))
  | _, _, _, .dct h r, k => .dct (k _ List.mem_cons_self _ h) (r.mono e)
theorem Owns.keep (e : Ex F F') : ∀ {v o fp}, Owns K F H v o fp → (∀ a ∈ fp, ∀ u, H a = some u → H' a = some u) → Owns K F' H' v o fp
  | _, _, _, .nil, _ => .nil
  | _, _, _, .cons h r, k => .cons (Own.keep e h fun a m => k a (List.mem_append_left _ m)) (Owns.keep e r fun a m => k a (List.mem_append_right _ m))
theorem OwnK.keep (e : Ex F F') : ∀ {v o fp}, OwnK K F H v o fp → (∀ a ∈ fp, ∀ u, H a = some u → H' a = some u) → OwnK K F' H' v o fp
  | _, _, _, .nil, _ => .nil
  | _, _, _, .cons q h r, k => .cons q (Own.keep e h fun a m => k a (List.mem_append_left _ m)) (OwnK.keep e r fun a m => k a (List.mem_append_right _ m))
end
mutual
theorem Own.live : ∀ {v o fp}, Own K F H v o fp → ∀ a ∈ fp, ∃ u, H a = some u
  | _, _, _, .fz _, a, m => by cases m
  | _, _, _, .lst h r, a, m => by
    rcases List.mem_cons.mp m with rfl | m
    · exact ⟨_, h⟩
    · exact Owns.live r a m
  | _, _, _, .tup h r, a, m => by
    rcases List.mem_cons.mp m with rfl | m
    · exact ⟨_, h⟩
    · exact Owns.live r a m
  | _, _, _, .dic h _ r, a, m => by
    rcases List.mem_cons.mp m with rfl | m
    · exact ⟨_, h⟩
    · exact OwnK.live r a m
  | _, _, _, .dct h r, a, m => by
    rcases List.mem_cons.mp m with rfl | m
    · exact ⟨_, h⟩
    · cases m
theorem Owns.live : ∀ {v o fp}, Owns K F H v o fp → ∀ a ∈ fp, ∃ u, H a = some u
  | _, _, _, .nil, a, m => by cases m
  | _, _, _, .cons h r, a, m => by
    rcases List.mem_append.mp m with m | m
    · exact Own.live h a m
    · exact Owns.live r a m
theorem OwnK.live : ∀ {v o fp}, OwnK K F H v o fp → ∀ a ∈ fp, ∃ u, H a = some u
  | _, _, _, .nil, a, m => by cases m
  | _, _, _, .cons q h r, a, m => by
    rcases List.mem_append.mp m with m | m
    · exact Own.live h a m
    · exact OwnK.live r a m
end
/-! frozen: the owned cells become a part of the frozen heap -/
mutual
theorem Own.freeze (e : Ex F F') : ∀ {v o fp}, Own K F H v o fp → (∀ a ∈ fp, ∀ u, H a = some u → F' a = some u) → Rep K F' v o.erase
  | _, _, _, .fz r, _ => by rw [O.erase]; exact r.mono e
  | _, _, _, .lst h r, k => by rw [O.erase]; exact .lst (.inl (.inl (k _ List.mem_cons_self _ h))) (Owns.freeze e r fun a m => k a (List.mem_cons_of_mem _ m))
  | _, _, _, .tup h r, k => by rw [O.erase]; exact .tup (.inl (.inl (k _ List.mem_cons_self _ h))) (Owns.freeze e r fun a m => k a (List.mem_cons_of_mem _ m))
  | _, _, _, .dct h r, k => by rw [O.erase]; exact .junk _
  | _, _, _, .dic h _ r, k => by rw [O.erase]; exact .dic (.inl (k _ List.mem_cons_self _ h)) (OwnK.freeze e r fun a m => k a (List.mem_cons_of_mem _ m))
theorem Owns.freeze (e : Ex F F') : ∀ {v o fp}, Owns K F H v o fp → (∀ a ∈ fp, ∀ u, H a = some u → F' a = some u) → Reps K F' v (O.erases o)
  | _, _, _, .nil, _ => by rw [O.erases]; exact .nil
  | _, _, _, .cons h r, k => by rw [O.erases]; exact .cons (Own.freeze e h fun a m => k a (List.mem_append_left _ m)) (Owns.freeze e r fun a m => k a (List.mem_append_right _ m))
theorem OwnK.freeze (e : Ex F F') : ∀ {v o fp}, OwnK K F H v o fp → (∀ a ∈ fp, ∀ u, H a = some u → F' a = some u) → RepK K F' v (O.eraseK o)
  | _, _, _, .nil, _ => by rw [O.eraseK]; exact .nil
  | _, _, _, .cons q h r, k => by rw [O.eraseK]; exact .cons q (Own.freeze e h fun a m => k a (List.mem_append_left _ m)) (OwnK.freeze e r fun a m => k a (List.mem_append_right _ m))
end
/-- as data over the whole heap -/
theorem Own.rep (e : Ex F H) {v o fp} (h : Own K F H v o fp) : Rep K H v o.erase := h.freeze e fun _ _ _ q => q
theorem Owns.rep (e : Ex F H) {v o fp} (h : Owns K F H v o fp) : Reps K H v (O.erases o) := h.freeze e fun _ _ _ q => q
end


/-! ### the slots -/
abbrev Env := List (Option O)
/-- the slots of a frame: what stands at each one, and the cells that they own -/
inductive Slots (K : PySem.W.Frag) (F H : Hp) : L2.St → Env → List Addr → Prop
  | nil : Slots K F H [] [] []
  | no {x : Option V} {σ : L2.St} {env : Env} {S : List Addr} : Slots K F H σ env S → Slots K F H (x :: σ) (none :: env) S
  | yes {v : V} {o : O} {σ : L2.St} {env : Env} {fp S : List Addr} : Own K F H v o fp → Slots K F H σ env S → Slots K F H (some v :: σ) (some o :: env) (fp ++ S)
section
variable {K : PySem.W.Frag} {F F' H H' : Hp}
theorem Slots.length : ∀ {σ env S}, Slots K F H σ env S → σ.length = env.length
  | _, _, _, .nil => rfl
  | _, _, _, .no r => by simp [Slots.length r]
  | _, _, _, .yes _ r => by simp [Slots.length r]
theorem Slots.keep (e : Ex F F') : ∀ {σ env S}, Slots K F H σ env S → (∀ a ∈ S, ∀ u, H a = some u → H' a = some u) → Slots K F' H' σ env S
  | _, _, _, .nil, _ => .nil
  | _, _, _, .no r, k => .no (Slots.keep e r k)
  | _, _, _, .yes h r, k => .yes (h.keep e fun a m => k a (List.mem_append_left _ m)) (Slots.keep e r fun a m => k a (List.mem_append_right _ m))
theorem Slots.live : ∀ {σ env S}, Slots K F H σ env S → ∀ a ∈ S, ∃ u, H a = some u
  | _, _, _, .nil, a, m => by cases m
  | _, _, _, .no r, a, m => Slots.live r a m
  | _, _, _, .yes h r, a, m => by
    rcases List.mem_append.mp m with m | m
    · exact h.live a m
    · exact Slots.live r a m
/-- one slot taken out: what stands there, the rest, and how it is put back -/
theorem Slots.take : ∀ {σ : L2.St} {env : Env} {S : List Addr} {i : Nat} {o : O}, Slots K F H σ env S → env[i]? = some (some o) →
    ∃ v fp S0, σ[i]? = some (some v) ∧ Own K F H v o fp ∧ (fp ++ S0).Perm S ∧ Slots K F H σ (env.set i none) S0
  | _, _, _, i, _, .nil, h => by simp at h
  | _, _, _, 0, _, .no r, h => by simp at h
  | _, _, _, i + 1, o, .no r, h => by
    obtain ⟨v, fp, S0, h1, h2, h3, h4⟩ := Slots.take r (i := i) (o := o) (by simpa using h)
    exact ⟨v, fp, S0, by simpa using h1, h2, h3, by simpa using Slots.no h4⟩
  | _, _, _, 0, _, .yes (v := v) (fp := fp) (S := S) q r, h => by
    simp at h; subst h
    exact ⟨v, fp, S, by simp, q, List.Perm.refl _, by simpa using Slots.no r⟩
  | _, _, _, i + 1, o, .yes (fp := fq) q r, h => by
    obtain ⟨v, fp, S0, h1, h2, h3, h4⟩ := Slots.take r (i := i) (o := o) (by simpa using h)
    refine ⟨v, fp, fq ++ S0, by simpa using h1, h2, ?_, by simpa using Slots.yes q h4⟩
    have e1 : (fp ++ (fq ++ S0)).Perm (fq ++ (fp ++ S0)) := by
      rw [← List.append_assoc, ← List.append_assoc]
      exact List.Perm.append_right _ List.perm_append_comm
    exact e1.trans (List.Perm.append_left _ h3)
/-- a slot emptied -/
theorem Slots.clear : ∀ {σ : L2.St} {env : Env} {S : List Addr} (i : Nat), Slots K F H σ env S → ∃ S0, Slots K F H σ (env.set i none) S0 ∧ S0.Sublist S
  | _, _, _, i, .nil => ⟨[], by simpa using Slots.nil, List.Sublist.refl _⟩
  | _, _, _, 0, .no r => ⟨_, by simpa using Slots.no r, List.Sublist.refl _⟩
  | _, _, _, i + 1, .no r => by
    obtain ⟨S0, h1, h2⟩ := Slots.clear i r
    exact ⟨S0, by simpa using Slots.no h1, h2⟩
  | _, _, _, 0, .yes q r => ⟨_, by simpa using Slots.no r, List.sublist_append_right _ _⟩
  | _, _, _, i + 1, .yes (fp := fq) q r => by
    obtain ⟨S0, h1, h2⟩ := Slots.clear i r
    exact ⟨_, by simpa using Slots.yes q h1, List.Sublist.append (List.Sublist.refl _) h2⟩
/-- an empty slot is filled -/
theorem Slots.put : ∀ {σ : L2.St} {env : Env} {S : List Addr} {i : Nat} {v : V} {o : O} {fp : List Addr}, Slots K F H σ env S → env[i]? = some none → Own K F H v o fp →
    ∃ S', Slots K F H (σ.set i (some v)) (env.set i (some o)) S' ∧ S'.Perm (fp ++ S)
  | _, _, _, i, _, _, _, .nil, h, _ => by simp at h
  | _, _, _, 0, _, _, _, .no r, h, q => ⟨_, by simpa using Slots.yes q r, List.Perm.refl _⟩
  | _, _, _, i + 1, v, o, fp, .no r, h, q => by
    obtain ⟨S', h1, h2⟩ := Slots.put (i := i) r (by simpa using h) q
    exact ⟨S', by simpa using Slots.no h1, h2⟩
  | _, _, _, 0, _, _, _, .yes _ r, h, q => by simp at h
  | _, _, _, i + 1, v, o, fp, .yes (fp := fq) w r, h, q => by
    obtain ⟨S', h1, h2⟩ := Slots.put (i := i) r (by simpa using h) q
    refine ⟨_, by simpa using Slots.yes w h1, (List.Perm.append_left _ h2).trans ?_⟩
    rw [← List.append_assoc, ← List.append_assoc]
    exact List.Perm.append_right _ List.perm_append_comm
/-- the value itself is not moved -/
theorem Slots.putBack {σ : L2.St} {env : Env} {S : List Addr} {i : Nat} {v : V} {o : O} {fp : List Addr} (h : Slots K F H σ env S) (he : env[i]? = some none) (hv : σ[i]? = some (some v)) (q : Own K F H v o fp) :
    ∃ S', Slots K F H σ (env.set i (some o)) S' ∧ S'.Perm (fp ++ S) := by
  obtain ⟨S', h1, h2⟩ := h.put he q
  have e : σ.set i (some v) = σ := by
    apply List.ext_getElem?
    intro j
    by_cases hj : i = j
    · subst hj
      have hl : i < σ.length := (List.getElem?_eq_some_iff.mp hv).1
      rw [List.getElem?_set_self hl, hv]
    · rw [List.getElem?_set_ne hj]
  rw [e] at h1
  exact ⟨S', h1, h2⟩
/-- a value stored in a slot, whatever stood there -/
theorem Slots.store {σ : L2.St} {env : Env} {S : List Addr} {i : Nat} {v : V} {o : O} {fp : List Addr} (h : Slots K F H σ env S) (hi : i < env.length) (q : Own K F H v o fp) :
    ∃ S' S0, Slots K F H (σ.set i (some v)) (env.set i (some o)) S' ∧ S'.Perm (fp ++ S0) ∧ S0.Sublist S := by
  obtain ⟨S0, h1, h2⟩ := h.clear i
  obtain ⟨S', h3, h4⟩ := h1.put (i := i) (by rw [List.getElem?_set_self hi]) q
  exact ⟨S', S0, by simpa using h3, h4, h2⟩
end

/-! ### from one state to the next -/
structure Trans (F H : Hp) (S : List Addr) (F' H' : Hp) (S' : List Addr) : Prop where
  fr : ∀ a o, H a = some o → a ∉ S → H' a = some o
  ff : Ex F F'
  fn : ∀ a o, F' a = some o → (∃ u, F a = some u) ∨ a ∈ S ∨ H a = none
  sn : ∀ a ∈ S', a ∈ S ∨ H a = none
  dm : ∀ a, H' a = none → H a = none
theorem Trans.refl {F H : Hp} {S : List Addr} : Trans F H S F H S := ⟨fun _ _ h _ => h, Ex.refl _, fun _ o h => .inl ⟨o, h⟩, fun _ h => .inl h, fun _ h => h⟩
theorem Trans.trans {F H F1 H1 F2 H2 : Hp} {S S1 S2 : List Addr} (a : Trans F H S F1 H1 S1) (b : Trans F1 H1 S1 F2 H2 S2) : Trans F H S F2 H2 S2 where
  fr := fun x o h n => b.fr x o (a.fr x o h n) fun m => by
    rcases a.sn x m with z | z
    · exact n z
    · rw [z] at h; cases h
  ff := a.ff.trans b.ff
  fn := fun x o h => by
    rcases b.fn x o h with ⟨u, z⟩ | z | z
    · exact a.fn x u z
    · exact .inr (a.sn x z)
    · exact .inr (.inr (a.dm x z))
  sn := fun x m => by
    rcases b.sn x m with z | z
    · exact a.sn x z
    · exact .inr (a.dm x z)
  dm := fun x h => a.dm x (b.dm x h)
theorem Trans.sub {F H F1 H1 : Hp} {S S1 S2 : List Addr} (a : Trans F H S F1 H1 S1) (h : ∀ x ∈ S2, x ∈ S1) : Trans F H S F1 H1 S2 := ⟨a.fr, a.ff, a.fn, fun x m => a.sn x (h x m), a.dm⟩
/-- the owned part may be said larger at the start, if it is in no other's hands -/
theorem Trans.wide {F H F1 H1 : Hp} {S S' S1 : List Addr} (a : Trans F H S F1 H1 S1) (h : ∀ x ∈ S, x ∈ S') : Trans F H S' F1 H1 S1 :=
  ⟨fun x o e n => a.fr x o e fun m => n (h x m), a.ff, fun x o e => (a.fn x o e).imp_right fun z => z.imp_left fun m => h x m, fun x m => (a.sn x m).imp_left fun z => h x z, a.dm⟩
/-- what stands aside, owned by nobody here -/
structure Aside (F H : Hp) (S T : List Addr) : Prop where
  ns : ∀ a ∈ T, a ∉ S
  nf : ∀ a ∈ T, F a = none
  lv : ∀ a ∈ T, ∃ u, H a = some u
theorem Aside.over {F H F' H' : Hp} {S S' T : List Addr} (s : Aside F H S T) (t : Trans F H S F' H' S') : Aside F' H' S' T where
  ns := fun a m n => by
    obtain ⟨u, e⟩ := s.lv a m
    rcases t.sn a n with z | z
    · exact s.ns a m z
    · rw [z] at e; cases e
  nf := fun a m => by
    obtain ⟨u, e⟩ := s.lv a m
    cases q : F' a with
    | none => rfl
    | some o =>
      rcases t.fn a o q with ⟨u', z⟩ | z | z
      · rw [s.nf a m] at z; cases z
      · exact absurd z (s.ns a m)
      · rw [z] at e; cases e
  lv := fun a m => by
    obtain ⟨u, e⟩ := s.lv a m
    exact ⟨u, t.fr a u e (s.ns a m)⟩
section
variable {K : PySem.W.Frag} {F F' H H' : Hp} {S S' T : List Addr}
theorem Own.over {v : V} {o : O} (h : Own K F H v o T) (s : Aside F H S T) (t : Trans F H S F' H' S') : Own K F' H' v o T := h.keep t.ff fun a m u e => t.fr a u e (s.ns a m)
theorem Owns.over {vs : List V} {os : List O} (h : Owns K F H vs os T) (s : Aside F H S T) (t : Trans F H S F' H' S') : Owns K F' H' vs os T := h.keep t.ff fun a m u e => t.fr a u e (s.ns a m)
theorem Slots.over {σ : L2.St} {env : Env} (h : Slots K F H σ env T) (s : Aside F H S T) (t : Trans F H S F' H' S') : Slots K F' H' σ env T := h.keep t.ff fun a m u e => t.fr a u e (s.ns a m)

/-- a good state -/
structure Stt (K : PySem.W.Frag) (F H : Hp) (σ : L2.St) (env : Env) (S : List Addr) : Prop where
  own : Slots K F H σ env S
  sub : Ex F H
  nd : S.Nodup
  sep : ∀ a ∈ S, F a = none
/-- .. with values in hand: vs stand for os and own T -/
structure Sta (K : PySem.W.Frag) (F H : Hp) (σ : L2.St) (env : Env) (S : List Addr) (vs : List V) (os : List O) (T : List Addr) : Prop where
  st : Stt K F H σ env S
  val : Owns K F H vs os T
  nd : T.Nodup
  as : Aside F H S T
theorem Sta.of {σ : L2.St} {env : Env} (h : Stt K F H σ env S) : Sta K F H σ env S [] [] [] := ⟨h, .nil, List.nodup_nil, ⟨fun _ m => (nomatch m), fun _ m => (nomatch m), fun _ m => (nomatch m)⟩⟩
/-- behind a step of the slots, with the values still in hand -/
theorem Sta.over {σ σ' : L2.St} {env env' : Env} {vs : List V} {os : List O} (h : Sta K F H σ env S vs os T) (t : Trans F H S F' H' S') (s : Stt K F' H' σ' env' S') : Sta K F' H' σ' env' S' vs os T :=
  ⟨s, h.val.over h.as t, h.nd, h.as.over t⟩
end
end PyD
end

section
set_option Elab.async false
set_option linter.all false
set_option maxRecDepth 100000
namespace PyD
open PySem L2

/-! ### the weakest readings; n: at least so many tokens are out -/
section
variable {M : Model} {A : Around} {α : Type} {E : Value → Shared → Prop} {s : Shared} {t : Sem α} {P Q : α → Shared → Prop}
theorem thn' {n : Nat} (hn : n ≤ s.toks) (h : wpAny M A t P E s) (k : ∀ a s1, n ≤ s1.toks → P a s1 → Q a s1) : wpAny M A t Q E s :=
  wpAny_mono (wpAny_toks_of hn h) (fun a s1 z => k a s1 z.1 z.2) fun _ _ z => z.2
end
@[irreducible] def wE (n : Nat) (X : Cx) (e : Expr) : TE := fun σ H Q => ∀ pins s, n ≤ s.toks → Inv X pins σ H s → wpAny (model X.prog X.w) X.A (eval e X.env) (EP X pins σ Q) X.xe s
theorem wE_run {n : Nat} {X : Cx} {e : Expr} {σ : L2.St} {H : Hp} {Q : VK} (h : wE n X e σ H Q) : ∀ pins s, n ≤ s.toks → Inv X pins σ H s → wpAny (model X.prog X.w) X.A (eval e X.env) (EP X pins σ Q) X.xe s := by
  unfold wE at h; exact h
theorem wE_mk {n : Nat} {X : Cx} {e : Expr} {σ : L2.St} {H : Hp} {Q : VK} (h : ∀ pins s, n ≤ s.toks → Inv X pins σ H s → wpAny (model X.prog X.w) X.A (eval e X.env) (EP X pins σ Q) X.xe s) : wE n X e σ H Q := by
  unfold wE; exact h
theorem pe_w {X : Cx} {e : Expr} : PE X e (wE 0 X e) := ⟨fun pins s σ H Q I h => wE_run h pins s (Nat.zero_le _) I⟩
theorem wE_of {n : Nat} {X : Cx} {e : Expr} {t : TE} (h : PE X e t) {σ : L2.St} {H : Hp} {Q : VK} (q : t σ H Q) : wE n X e σ H Q := wE_mk fun pins s _ I => h.run pins s σ H Q I q
theorem wE_up {n : Nat} {X : Cx} {e : Expr} {σ : L2.St} {H : Hp} {Q : VK} (h : wE 0 X e σ H Q) : wE n X e σ H Q := wE_of pe_w h
theorem wE_mono {n : Nat} {X : Cx} {e : Expr} {σ : L2.St} {H : Hp} {Q Q' : VK} (h : wE n X e σ H Q) (q : ∀ v H', Q v H' → Q' v H') : wE n X e σ H Q' := wE_mk fun pins s hn I =>
  thn (wE_run h pins s hn I) fun _ _ ⟨v, H', a, b, c⟩ => ⟨v, H', a, b, q _ _ c⟩
/-- .. two, one behind the other -/
theorem wE_bin {n : Nat} {X : Cx} {a b : Expr} {σ : L2.St} {H : Hp} {r : R2} {Q : VK} {pins : List (Addr × Obj)} {s : Shared} {T : Value → Value → Shared → Prop}
    (h : wE n X a σ H fun x H1 => wE n X b σ H1 fun y H2 => r x y H2 Q) (hn : n ≤ s.toks) (I : Inv X pins σ H s) (k : ∀ v u s2 x y H2, n ≤ s2.toks → Inv X pins σ H2 s2 → RelV x v → RelV y u → r x y H2 Q → T v u s2) :
    wpAny (model X.prog X.w) X.A (eval a X.env) (fun v s1 => wpAny (model X.prog X.w) X.A (eval b X.env) (fun u s2 => T v u s2) X.xe s1) X.xe s :=
  thn' hn (wE_run h pins s hn I) fun v s1 n1 ⟨x, H1, I1, r1, q1⟩ => thn' n1 (wE_run q1 pins s1 n1 I1) fun u s2 n2 ⟨y, H2, I2, r2, q2⟩ => k v u s2 x y H2 n2 I2 r1 r2 q2
def wT (n : Nat) (X : Cx) (e : Expr) : TT := fun σ H Q => ∀ pins s, n ≤ s.toks → Inv X pins σ H s → wpAny (model X.prog X.w) X.A (isTrue e X.env (eval e X.env)) (TP X pins σ Q) X.xe s
theorem pt_w {X : Cx} {e : Expr} : PT X e (wT 0 X e) := ⟨fun pins s σ H Q I h => h pins s (Nat.zero_le _) I⟩
theorem wT_of {n : Nat} {X : Cx} {e : Expr} {t : TT} (h : PT X e t) {σ : L2.St} {H : Hp} {Q : Bool → Hp → Prop} (q : t σ H Q) : wT n X e σ H Q := fun pins s _ I => h.run pins s σ H Q I q
def wW (n : Nat) (X : Cx) (e : Expr) : TT := fun σ H Q => ∀ whole pins s, n ≤ s.toks → Inv X pins σ H s → wpAny (model X.prog X.w) X.A (isTrue e X.env whole) (TP X pins σ Q) X.xe s
def wA (n : Nat) (X : Cx) (es : List Expr) : TA := fun σ H Q => ∀ pos pins s, n ≤ s.toks → Inv X pins σ H s → wpAny (model X.prog X.w) X.A (spliced (backTo pos (starEach es X.env))) (AP X pins σ Q) X.xe s
theorem pa_w {X : Cx} {es : List Expr} : PA X es (wA 0 X es) := ⟨fun pos pins s σ H Q I h => h pos pins s (Nat.zero_le _) I⟩
theorem wA_of {n : Nat} {X : Cx} {es : List Expr} {t : TA} (h : PA X es t) {σ : L2.St} {H : Hp} {Q : List V → Hp → Prop} (q : t σ H Q) : wA n X es σ H Q := fun pos pins s _ I => h.run pos pins s σ H Q I q
theorem wA_cons {n : Nat} {X : Cx} {e : Expr} {es : List Expr} (hs : starEach (e :: es) X.env = (false, eval e X.env) :: starEach es X.env) {σ : L2.St} {H : Hp} {Q : List V → Hp → Prop}
    (q : wE n X e σ H fun x H1 => wA n X es σ H1 fun xs H2 => Q (x :: xs) H2) : wA n X (e :: es) σ H Q := by
  intro pos pins s hn I
  rw [hs]
  show wpAny _ _ (spliced ((false, eval e X.env) :: backTo pos (starEach es X.env))) _ _ s
  refine Calls.spliced_cons (thn' hn (wE_run q pins s hn I) fun u s1 n1 ⟨x, H1, I1, r1, q1⟩ => ?_)
  exact thn (q1 pos pins s1 n1 I1) fun us s2 ⟨xs, H2, I2, r2, q2⟩ => ⟨x :: xs, H2, I2, .cons r1 r2, q2⟩
def wS (n : Nat) (X : Cx) (st : Stmt) : TS := fun D σ H => ∀ pins s, n ≤ s.toks → Inv X pins σ H s → wpAny (model X.prog X.w) X.A (exec st X.env) (SP X pins D) X.xe s
theorem ps_w {X : Cx} {st : Stmt} : PS X st (wS 0 X st) := ⟨fun pins s σ H D I h => h pins s (Nat.zero_le _) I⟩
theorem wS_of {n : Nat} {X : Cx} {st : Stmt} {t : TS} (h : PS X st t) {σ : L2.St} {H : Hp} {D : Ends} (q : t D σ H) : wS n X st D σ H := fun pins s _ I => h.run pins s σ H D I q
def wSs (n : Nat) (X : Cx) (st : List Stmt) : TS := fun D σ H => ∀ pins s, n ≤ s.toks → Inv X pins σ H s → wpAny (model X.prog X.w) X.A (execs st X.env) (SP X pins D) X.xe s
theorem pss_w {X : Cx} {st : List Stmt} : PSs X st (wSs 0 X st) := ⟨fun pins s σ H D I h => h pins s (Nat.zero_le _) I⟩
theorem wSs_of {n : Nat} {X : Cx} {st : List Stmt} {t : TS} (h : PSs X st t) {σ : L2.St} {H : Hp} {D : Ends} (q : t D σ H) : wSs n X st D σ H := fun pins s _ I => h.run pins s σ H D I q
/-- several expressions from the left -/
def wL (n : Nat) (X : Cx) : List Expr → L2.St → Hp → (List V → Hp → Prop) → Prop
  | [] => fun _ H Q => Q [] H
  | e :: es => fun σ H Q => wE n X e σ H fun v H1 => wL n X es σ H1 fun vs H2 => Q (v :: vs) H2

/-! ### results -/
inductive R (α : Type) where
  | ok (a : α) (env : Env)
  | exc (c : Str) (ds : List D) (env : Env)
  | bad

/-- the fields of the exception classes, by name -/
def fieldsOf (c : Str) : List Str :=
  if c = "InvalidText" then ["line", "word"] else
  if c = "InvalidPatterns" ∨ c = "InvalidRules" ∨ c = "InvalidCatalog" then ["index"] else
  if c = "InvalidLinks" ∨ c = "InvalidOwners" then ["link"] else
  if c = "NoEnd" then ["ring"] else if c = "TooMany" then ["limit"] else ["label"]
/-- an exception of the class named c with the fields ds -/
def ExcV (K : PySem.W.Frag) (F H : Hp) (c : Str) (ds : List D) (cls : Value) (d : Option Addr) : Prop :=
  ∃ C : Addr, cls = .ref C ∧ PySem.W.nsIn K mainGlobals c = some (some (.ref C)) ∧
    ((ds = [] ∧ d = none) ∨ ∃ dx vs, d = some dx ∧ H dx = some (.xd ((fieldsOf c).zip vs)) ∧ Reps K F vs ds ∧ vs.length = (fieldsOf c).length)
def ExcPost (K : PySem.W.Frag) (W : WX) (c : Str) (ds : List D) (env' : Env) (σ : L2.St) (F H : Hp) (S : List Addr) : Prop :=
  ∀ cls d F' H' S', Trans F H S F' H' S' → Stt K F' H' σ env' S' → ExcV K F' H' c ds cls d → W cls d σ H'
theorem ExcPost.over {K : PySem.W.Frag} {W : WX} {c : Str} {ds : List D} {env' : Env} {σ : L2.St} {F H F1 H1 : Hp} {S S1 : List Addr} (p : ExcPost K W c ds env' σ F H S) (t : Trans F H S F1 H1 S1) : ExcPost K W c ds env' σ F1 H1 S1 :=
  fun cls d F' H' S' t' s x => p cls d F' H' S' (t.trans t') s x

def PostE (X : Cx) (W : WX) (σ : L2.St) (F H : Hp) (S : List Addr) (Q : VK) : R O → Prop
  | .ok o env' => ∀ v F' H' S' T, Trans F H S F' H' (T ++ S') → Sta X.K F' H' σ env' S' [v] [o] T → Q v H'
  | .exc c ds env' => ExcPost X.K W c ds env' σ F H S
  | .bad => False
/-- an expression computes f -/
structure SndE (n : Nat) (X : Cx) (e : Expr) (f : Env → R O) : Prop where
  run : ∀ W, Takes X W → ∀ env σ F H S Q, Stt X.K F H σ env S → PostE X W σ F H S Q (f env) → wE n X e σ H Q
/-- an operand: a variable, or a value of its own -/
inductive Opd where
  | v (i : Nat)
  | t (o : O)
/-- operands' values -/
inductive OpdsV (K : PySem.W.Frag) (F H : Hp) (σ : L2.St) : List V → List Opd → List Addr → Prop
  | nil : OpdsV K F H σ [] [] []
  | v {i : Nat} {v : V} {vs : List V} {ops : List Opd} {T : List Addr} : σ[i]? = some (some v) → OpdsV K F H σ vs ops T → OpdsV K F H σ (v :: vs) (.v i :: ops) T
  | t {o : O} {v : V} {vs : List V} {ops : List Opd} {fp T : List Addr} : Own K F H v o fp → OpdsV K F H σ vs ops T → OpdsV K F H σ (v :: vs) (.t o :: ops) (fp ++ T)
theorem OpdsV.keep {K : PySem.W.Frag} {F F' H H' : Hp} {σ : L2.St} (e : Ex F F') : ∀ {vs ops T}, OpdsV K F H σ vs ops T → (∀ a ∈ T, ∀ u, H a = some u → H' a = some u) → OpdsV K F' H' σ vs ops T
  | _, _, _, .nil, _ => .nil
  | _, _, _, .v h r, k => .v h (OpdsV.keep e r k)
  | _, _, _, .t h r, k => .t (h.keep e fun a m => k a (List.mem_append_left _ m)) (OpdsV.keep e r fun a m => k a (List.mem_append_right _ m))
theorem OpdsV.live {K : PySem.W.Frag} {F H : Hp} {σ : L2.St} : ∀ {vs ops T}, OpdsV K F H σ vs ops T → ∀ a ∈ T, ∃ u, H a = some u
  | _, _, _, .nil, a, m => by cases m
  | _, _, _, .v _ r, a, m => OpdsV.live r a m
  | _, _, _, .t h r, a, m => by
    rcases List.mem_append.mp m with m | m
    · exact h.live a m
    · exact OpdsV.live r a m
structure Stp (K : PySem.W.Frag) (F H : Hp) (σ : L2.St) (env : Env) (S : List Addr) (vs : List V) (ops : List Opd) (T : List Addr) : Prop where
  st : Stt K F H σ env S
  val : OpdsV K F H σ vs ops T
  nd : T.Nodup
  as : Aside F H S T
def PostL (X : Cx) (W : WX) (σ : L2.St) (F H : Hp) (S : List Addr) (Q : List V → Hp → Prop) : R (List Opd) → Prop
  | .ok ops env' => ∀ vs F' H' S' T, Trans F H S F' H' (T ++ S') → Stp X.K F' H' σ env' S' vs ops T → Q vs H'
  | .exc c ds env' => ExcPost X.K W c ds env' σ F H S
  | .bad => False
/-- operands from the left -/
structure SndL (n : Nat) (X : Cx) (es : List Expr) (f : Env → R (List Opd)) : Prop where
  run : ∀ W, Takes X W → ∀ env σ F H S Q, Stt X.K F H σ env S → PostL X W σ F H S Q (f env) → wL n X es σ H Q
def oNil : Env → R (List Opd) := fun env => .ok [] env
/-- a name as an operand -/
def oVar (i : Nat) (r : Env → R (List Opd)) : Env → R (List Opd) := fun env => match env[i]? with
  | some (some _) => (match r env with
    | .ok ops e => .ok (.v i :: ops) e
    | .exc c ds e => .exc c ds e
    | .bad => .bad)
  | _ => .bad
def oExp (f : Env → R O) (r : Env → R (List Opd)) : Env → R (List Opd) := fun env => match f env with
  | .ok o e1 => (match r e1 with
    | .ok ops e => .ok (.t o :: ops) e
    | .exc c ds e => .exc c ds e
    | .bad => .bad)
  | .exc c ds e => .exc c ds e
  | .bad => .bad
section
variable {n : Nat} {X : Cx}
theorem Stp.of {K : PySem.W.Frag} {F H : Hp} {σ : L2.St} {env : Env} {S : List Addr} (h : Stt K F H σ env S) : Stp K F H σ env S [] [] [] := ⟨h, .nil, List.nodup_nil, ⟨fun _ m => (nomatch m), fun _ m => (nomatch m), fun _ m => (nomatch m)⟩⟩
theorem snd_nil : SndL n X [] oNil := .mk fun W tk env σ F H S Q st q => q [] F H S [] Trans.refl (Stp.of st)
theorem Stt.val {K : PySem.W.Frag} {F H : Hp} {σ : L2.St} {env : Env} {S : List Addr} {i : Nat} {o : O} (h : Stt K F H σ env S) (e : env[i]? = some (some o)) : ∃ v, σ[i]? = some (some v) := by
  obtain ⟨v, _, _, h1, _⟩ := h.own.take e
  exact ⟨v, h1⟩
theorem snd_ovar {i : Nat} {x : Str} {p : Pos} {es : List Expr} {r : Env → R (List Opd)} (hN : X.N[i]? = some x) (hv : Vis X.env.scope x) (hr : SndL n X es r)
    (hd : (x == ("__debug__" : Str)) = false := by decide) (hcd : (x == ("__classdict__" : Str)) = false := by decide) : SndL n X (.Name x p :: es) (oVar i r) := by
  refine .mk fun W tk env σ F H S Q st q => ?_
  unfold oVar at q
  split at q
  · rename_i o ho
    obtain ⟨v, hv1⟩ := st.val ho
    show wE n X (.Name x p) σ H _
    refine wE_of (pe_var hN hv hd hcd) ⟨v, hv1, ?_⟩
    refine hr.run W tk env σ F H S _ st ?_
    revert q
    cases r env with
    | ok ops e => exact fun q vs F' H' S' T tr sp => q (v :: vs) F' H' S' T tr ⟨sp.st, .v hv1 sp.val, sp.nd, sp.as⟩
    | exc c ds e => exact fun q => q
    | bad => exact fun q => q
  · exact q.elim
theorem Aside.app {F H : Hp} {S T U : List Addr} (a : Aside F H S T) (b : Aside F H S U) : Aside F H S (T ++ U) :=
  ⟨fun x m => (List.mem_append.mp m).elim (a.ns x) (b.ns x), fun x m => (List.mem_append.mp m).elim (a.nf x) (b.nf x), fun x m => (List.mem_append.mp m).elim (a.lv x) (b.lv x)⟩
/-- what stands aside of both is apart from what comes -/
theorem Aside.apart {F H F' H' : Hp} {S S' T U : List Addr} (a : Aside F H S T) (t : Trans F H S F' H' (U ++ S')) : ∀ x ∈ T, x ∉ U := fun x m n => by
  obtain ⟨u, e⟩ := a.lv x m
  rcases t.sn x (List.mem_append_left _ n) with z | z
  · exact a.ns x m z
  · rw [z] at e; cases e
theorem snd_oexp {e : Expr} {es : List Expr} {f : Env → R O} {r : Env → R (List Opd)} (he : SndE n X e f) (hr : SndL n X es r) : SndL n X (e :: es) (oExp f r) := by
  refine .mk fun W tk env σ F H S Q st q => ?_
  show wE n X e σ H _
  refine he.run W tk env σ F H S _ st ?_
  unfold oExp at q
  revert q
  cases f env with
  | exc c ds e => exact fun q => q
  | bad => exact fun q => q
  | ok o e1 =>
    intro q v F1 H1 S1 T1 tr1 sa
    refine hr.run W tk e1 σ F1 H1 S1 _ sa.st ?_
    have t1 : Trans F H S F1 H1 S1 := tr1.sub fun x m => List.mem_append_right _ m
    revert q
    show PostL X W σ F H S Q (match r e1 with
      | .ok ops e => .ok (.t o :: ops) e
      | .exc c ds e => .exc c ds e
      | .bad => .bad) → PostL X W σ F1 H1 S1 (fun vs H2 => Q (v :: vs) H2) (r e1)
    cases r e1 with
    | exc c ds e => exact fun q => q.over t1
    | bad => exact fun q => q
    | ok ops e2 =>
      intro q vs F2 H2 S2 T2 tr2 sp
      have own : Own X.K F1 H1 v o T1 := by
        have := sa.val
        cases this with
        | cons a b =>
          cases b
          simpa using a
      have t2 : Trans F1 H1 S1 F2 H2 S2 := tr2.sub fun x m => List.mem_append_right _ m
      have ap : ∀ x ∈ T1, x ∉ T2 := sa.as.apart tr2
      have as2 : Aside F2 H2 S2 T1 := sa.as.over t2
      refine q (v :: vs) F2 H2 S2 (T1 ++ T2) ?_ ⟨sp.st, .t (own.over sa.as t2) sp.val, ?_, as2.app sp.as⟩
      · refine ⟨(t1.trans t2).fr, (t1.trans t2).ff, (t1.trans t2).fn, fun x m => ?_, (t1.trans t2).dm⟩
        rw [List.append_assoc] at m
        rcases List.mem_append.mp m with m | m
        · exact tr1.sn x (List.mem_append_left _ m)
        · rcases tr2.sn x m with z | z
          · exact t1.sn x z
          · exact .inr (t1.dm x z)
      · exact List.nodup_append.mpr ⟨sa.nd, sp.nd, fun x m y n z => ap x m (z ▸ n)⟩
end
end PyD
end

section
set_option Elab.async false
set_option linter.all false
set_option maxRecDepth 100000
namespace PyD
open PySem L2

/-! ### freezing -/
def frz (F H : Hp) (T : List Addr) : Hp := fun a => if a ∈ T then H a else F a
section
variable {K : PySem.W.Frag} {F H : Hp} {S T : List Addr} {σ : L2.St} {env : Env}
theorem frz_in {a : Addr} (h : a ∈ T) : frz F H T a = H a := by unfold frz; rw [if_pos h]
theorem frz_out {a : Addr} (h : a ∉ T) : frz F H T a = F a := by unfold frz; rw [if_neg h]
theorem frz_ex (nf : ∀ a ∈ T, F a = none) : Ex F (frz F H T) := fun a o e => by
  rw [frz_out fun m => by rw [nf a m] at e; cases e]
  exact e
theorem frz_sub (s : Ex F H) : Ex (frz F H T) H := fun a o e => by
  by_cases m : a ∈ T
  · rw [frz_in m] at e; exact e
  · rw [frz_out m] at e; exact s a o e
theorem frz_trans (nf : ∀ a ∈ T, F a = none) : Trans F H (T ++ S) (frz F H T) H S :=
  ⟨fun _ _ h _ => h, frz_ex nf, fun a o e => by
    by_cases m : a ∈ T
    · exact .inr (.inl (List.mem_append_left _ m))
    · rw [frz_out m] at e; exact .inl ⟨o, e⟩, fun a m => .inl (List.mem_append_right _ m), fun _ h => h⟩
theorem Stt.frz (st : Stt K F H σ env S) (as : Aside F H S T) : Stt K (frz F H T) H σ env S :=
  ⟨st.own.keep (frz_ex as.nf) fun _ _ _ h => h, frz_sub st.sub, st.nd, fun a m => by
    rw [frz_out fun n => as.ns a n m]; exact st.sep a m⟩
end

/-! ### shallow operands -/
def O.isFz : O → Bool
  | .fz _ => true
  | _ => false
def O.shal : O → Bool
  | .fz _ => true
  | .lst os => os.all O.isFz
  | .tup os => os.all O.isFz
  | .dic kos => kos.all fun p => p.2.isFz
  | .dct _ => true
/-- a value whose own cell may still be written, all below is frozen -/
inductive Shal (K : PySem.W.Frag) (F H : Hp) : V → D → Prop
  | fz {v : V} {d : D} : Rep K F v d → Shal K F H v d
  | lst {a : Addr} {vs : List V} {ds : List D} : H a = some (.lst vs) → Reps K F vs ds → Shal K F H (.ref a) (.lst ds)
  | tup {a : Addr} {vs : List V} {ds : List D} : H a = some (.tup vs) → Reps K F vs ds → Shal K F H (.ref a) (.tup ds)
  | dic {a : Addr} {kvs : List (Key × V)} {es : List (D × D)} : H a = some (.dK kvs) → RepK K F kvs es → Shal K F H (.ref a) (.dic es)
inductive Shals (K : PySem.W.Frag) (F H : Hp) : List V → List D → Prop
  | nil : Shals K F H [] []
  | cons {v : V} {d : D} {vs : List V} {ds : List D} : Shal K F H v d → Shals K F H vs ds → Shals K F H (v :: vs) (d :: ds)
section
variable {K : PySem.W.Frag} {F F' H : Hp}
theorem Shal.mono (e : Ex F F') {v : V} {d : D} (h : Shal K F H v d) : Shal K F' H v d := by
  cases h with
  | fz r => exact .fz (r.mono e)
  | lst h r => exact .lst h (r.mono e)
  | tup h r => exact .tup h (r.mono e)
  | dic h r => exact .dic h (r.mono e)
theorem Shals.mono (e : Ex F F') : ∀ {vs ds}, Shals K F H vs ds → Shals K F' H vs ds
  | _, _, .nil => .nil
  | _, _, .cons h r => .cons (h.mono e) (Shals.mono e r)
theorem Owns.allFz : ∀ {vs os T}, Owns K F H vs os T → os.all O.isFz = true → Reps K F vs (O.erases os)
  | _, _, _, .nil, _ => by rw [O.erases]; exact .nil
  | _, _, _, .cons h r, e => by
    rw [List.all_cons, Bool.and_eq_true] at e
    rw [O.erases]
    refine .cons ?_ (Owns.allFz r e.2)
    cases h with
    | fz q => rw [O.erase]; exact q
    | lst => exact absurd e.1 (by simp [O.isFz])
    | tup => exact absurd e.1 (by simp [O.isFz])
    | dic => exact absurd e.1 (by simp [O.isFz])
    | dct => exact absurd e.1 (by simp [O.isFz])
theorem OwnK.allFz : ∀ {vs os T}, OwnK K F H vs os T → (os.all fun p => p.2.isFz) = true → RepK K F vs (O.eraseK os)
  | _, _, _, .nil, _ => by rw [O.eraseK]; exact .nil
  | _, _, _, .cons q h r, e => by
    rw [List.all_cons, Bool.and_eq_true] at e
    rw [O.eraseK]
    refine .cons q ?_ (OwnK.allFz r e.2)
    cases h with
    | fz q => rw [O.erase]; exact q
    | lst => exact absurd e.1 (by simp [O.isFz])
    | tup => exact absurd e.1 (by simp [O.isFz])
    | dic => exact absurd e.1 (by simp [O.isFz])
    | dct => exact absurd e.1 (by simp [O.isFz])
theorem Own.shal {v : V} {o : O} {T : List Addr} (h : Own K F H v o T) (s : o.shal = true) : Shal K F H v o.erase := by
  cases h with
  | fz r => rw [O.erase]; exact .fz r
  | lst h r => rw [O.erase]; exact .lst h (r.allFz s)
  | tup h r => rw [O.erase]; exact .tup h (r.allFz s)
  | dic h _ r => rw [O.erase]; exact .dic h (r.allFz s)
  | dct h r => rw [O.erase]; exact .fz (.junk _)
/-- over the whole heap -/
theorem Shal.rep (e : Ex F H) {v : V} {d : D} (h : Shal K F H v d) : Rep K H v d := by
  cases h with
  | fz r => exact r.mono e
  | lst h r => exact .lst (.inl (.inl h)) (r.mono e)
  | tup h r => exact .tup (.inl (.inl h)) (r.mono e)
  | dic h r => exact .dic (.inl h) (r.mono e)
theorem Shals.reps (e : Ex F H) : ∀ {vs ds}, Shals K F H vs ds → Reps K H vs ds
  | _, _, .nil => .nil
  | _, _, .cons h r => .cons (h.rep e) (Shals.reps e r)
/-- a list, told -/
theorem Shal.lst_inv (e : Ex F H) {v : V} {ds : List D} (h : Shal K F H v (.lst ds)) : ∃ a vs, v = .ref a ∧ SqL K H a vs ∧ Reps K F vs ds := by
  cases h with
  | fz r => cases r with
    | lst h r => exact ⟨_, _, rfl, e.l h, r⟩
  | lst h r => exact ⟨_, _, rfl, .inl (.inl h), r⟩
theorem Shal.tup_inv (e : Ex F H) {v : V} {ds : List D} (h : Shal K F H v (.tup ds)) : ∃ a vs, v = .ref a ∧ SqT K H a vs ∧ Reps K F vs ds := by
  cases h with
  | fz r => cases r with
    | tup h r => exact ⟨_, _, rfl, e.t h, r⟩
  | tup h r => exact ⟨_, _, rfl, .inl (.inl h), r⟩
theorem Shal.dic_inv (e : Ex F H) {v : V} {es : List (D × D)} (h : Shal K F H v (.dic es)) : ∃ a kvs, v = .ref a ∧ Rd H a (.dK kvs) ∧ RepK K F kvs es := by
  cases h with
  | fz r => cases r with
    | dic h r => exact ⟨_, _, rfl, e.rd h, r⟩
  | dic h r => exact ⟨_, _, rfl, .inl h, r⟩
theorem Shal.int_inv {v : V} {i : Int} (h : Shal K F H v (.int i)) : v = .int i := by
  cases h with
  | fz r => cases r; rfl
theorem Shal.bl_inv {v : V} {b : Bool} (h : Shal K F H v (.bl b)) : v = .bl b := by
  cases h with
  | fz r => cases r; rfl
theorem Shal.str_inv {v : V} {l : List Nat} (h : Shal K F H v (.str l)) : v = .str (sOf l) ∧ okS l := by
  cases h with
  | fz r => cases r with
    | str _ h => exact ⟨rfl, h⟩
theorem Shal.non_inv {v : V} (h : Shal K F H v .non) : v = .non := by
  cases h with
  | fz r => cases r; rfl
theorem Rep.lst_inv {v : V} {ds : List D} (h : Rep K F v (.lst ds)) : ∃ a vs, v = .ref a ∧ SqL K F a vs ∧ Reps K F vs ds := by
  cases h with
  | lst h r => exact ⟨_, _, rfl, h, r⟩
theorem Rep.tup_inv {v : V} {ds : List D} (h : Rep K F v (.tup ds)) : ∃ a vs, v = .ref a ∧ SqT K F a vs ∧ Reps K F vs ds := by
  cases h with
  | tup h r => exact ⟨_, _, rfl, h, r⟩
theorem Rep.dic_inv {v : V} {es : List (D × D)} (h : Rep K F v (.dic es)) : ∃ a kvs, v = .ref a ∧ Rd F a (.dK kvs) ∧ RepK K F kvs es := by
  cases h with
  | dic h r => exact ⟨_, _, rfl, h, r⟩
theorem Rep.int_inv {v : V} {i : Int} (h : Rep K F v (.int i)) : v = .int i := by cases h; rfl
theorem Rep.bl_inv {v : V} {b : Bool} (h : Rep K F v (.bl b)) : v = .bl b := by cases h; rfl
theorem Rep.str_inv {v : V} {l : List Nat} (h : Rep K F v (.str l)) : v = .str (sOf l) ∧ okS l := by
  cases h with
  | str _ h => exact ⟨rfl, h⟩
theorem Rep.non_inv {v : V} (h : Rep K F v .non) : v = .non := by cases h; rfl
theorem Shals.one {vs : List V} {d : D} (h : Shals K F H vs [d]) : ∃ v, vs = [v] ∧ Shal K F H v d := by
  cases h with
  | cons a b => cases b; exact ⟨_, rfl, a⟩
theorem Shals.two {vs : List V} {d e : D} (h : Shals K F H vs [d, e]) : ∃ v w, vs = [v, w] ∧ Shal K F H v d ∧ Shal K F H w e := by
  cases h with
  | cons a b =>
    obtain ⟨w, rfl, c⟩ := b.one
    exact ⟨_, _, rfl, a, c⟩
theorem Shals.three {vs : List V} {d e f : D} (h : Shals K F H vs [d, e, f]) : ∃ v w x, vs = [v, w, x] ∧ Shal K F H v d ∧ Shal K F H w e ∧ Shal K F H x f := by
  cases h with
  | cons a b =>
    obtain ⟨w, x, rfl, c, d⟩ := b.two
    exact ⟨_, _, _, rfl, a, c, d⟩
theorem Reps.one {vs : List V} {d : D} (h : Reps K F vs [d]) : ∃ v, vs = [v] ∧ Rep K F v d := by
  cases h with
  | cons a b => cases b; exact ⟨_, rfl, a⟩
theorem Reps.two {vs : List V} {d e : D} (h : Reps K F vs [d, e]) : ∃ v w, vs = [v, w] ∧ Rep K F v d ∧ Rep K F w e := by
  cases h with
  | cons a b =>
    obtain ⟨w, rfl, c⟩ := b.one
    exact ⟨_, _, rfl, a, c⟩
theorem Reps.three {vs : List V} {d e f : D} (h : Reps K F vs [d, e, f]) : ∃ v w x, vs = [v, w, x] ∧ Rep K F v d ∧ Rep K F w e ∧ Rep K F x f := by
  cases h with
  | cons a b =>
    obtain ⟨w, x, rfl, c, d⟩ := b.two
    exact ⟨_, _, _, rfl, a, c, d⟩
end

/-! ### operands resolved -/
/-- what the operands are, read only -/
def resA (env : Env) : List Opd → Option (List D)
  | [] => some []
  | .t o :: r => (resA env r).map (o.erase :: ·)
  | .v i :: r => match env[i]? with
    | some (some o) => (resA env r).map (o.erase :: ·)
    | _ => none
/-- .. and what is deeply owned is frozen -/
def resB (env : Env) : List Opd → Option (List D × Env)
  | [] => some ([], env)
  | .t o :: r => (resB env r).map fun p => (o.erase :: p.1, p.2)
  | .v i :: r => match env[i]? with
    | some (some o) => if o.shal = true then (resB env r).map fun p => (o.erase :: p.1, p.2) else (resB (env.set i (some (.fz o.erase))) r).map fun p => (o.erase :: p.1, p.2)
    | _ => none
section
variable {K : PySem.W.Frag} {F H : Hp} {σ : L2.St}
theorem resA_ok {env : Env} {S : List Addr} (st : Stt K F H σ env S) : ∀ {ops : List Opd} {vs : List V} {T : List Addr} {ds : List D}, OpdsV K F H σ vs ops T → resA env ops = some ds → Reps K H vs ds
  | _, _, _, ds, .nil, e => by simp [resA] at e; subst e; exact .nil
  | _, _, _, ds, .t h r, e => by
    simp only [resA, Option.map_eq_some_iff] at e
    obtain ⟨ds', e1, rfl⟩ := e
    exact .cons (h.rep st.sub) (resA_ok st r e1)
  | _, _, _, ds, .v (i := i) h r, e => by
    unfold resA at e
    split at e
    · rename_i o ho
      simp only [Option.map_eq_some_iff] at e
      obtain ⟨ds', e1, rfl⟩ := e
      obtain ⟨v', fp, S0, hv, ow, _⟩ := st.own.take ho
      rw [h] at hv
      cases hv
      exact .cons (ow.rep st.sub) (resA_ok st r e1)
    · cases e
/-- a slot is frozen -/
theorem Stt.freezeAt {env : Env} {S : List Addr} {i : Nat} {o : O} (st : Stt K F H σ env S) (ho : env[i]? = some (some o)) :
    ∃ F' S' v, σ[i]? = some (some v) ∧ Trans F H S F' H S' ∧ Stt K F' H σ (env.set i (some (.fz o.erase))) S' ∧ Rep K F' v o.erase := by
  obtain ⟨v, fp, S0, hv, ow, pm, sl⟩ := st.own.take ho
  have nd : (fp ++ S0).Nodup := pm.nodup_iff.mpr st.nd
  have nd' := List.nodup_append.mp nd
  have nf : ∀ a ∈ fp, F a = none := fun a m => st.sep a (pm.mem_iff.mp (List.mem_append_left _ m))
  have hi : i < env.length := (List.getElem?_eq_some_iff.mp ho).1
  have rp : Rep K (PyD.frz F H fp) v o.erase := ow.freeze (frz_ex nf) fun a m u e => by rw [frz_in m]; exact e
  obtain ⟨S', h1, h2⟩ := (sl.keep (F' := PyD.frz F H fp) (H' := H) (frz_ex nf) fun _ _ _ e => e).putBack (i := i) (o := .fz o.erase) (by rw [List.getElem?_set_self hi]) hv (.fz rp)
  refine ⟨PyD.frz F H fp, S', v, hv, ?_, ⟨by simpa using h1, frz_sub st.sub, ?_, fun a m => ?_⟩, rp⟩
  · refine ((frz_trans (S := S0) nf).wide fun a m => pm.mem_iff.mp m).sub fun a m => ?_
    have := h2.mem_iff.mp m
    simpa using this
  · exact h2.nodup_iff.mpr (by simpa using nd'.2.1)
  · have m' : a ∈ S0 := by simpa using h2.mem_iff.mp m
    rw [frz_out fun n => nd'.2.2 a n a m' rfl]
    exact st.sep a (pm.mem_iff.mp (List.mem_append_right _ m'))
/-- operands, the values in hand frozen -/
inductive OpdsR (K : PySem.W.Frag) (F : Hp) (σ : L2.St) : List V → List Opd → Prop
  | nil : OpdsR K F σ [] []
  | v {i : Nat} {v : V} {vs : List V} {ops : List Opd} : σ[i]? = some (some v) → OpdsR K F σ vs ops → OpdsR K F σ (v :: vs) (.v i :: ops)
  | t {o : O} {v : V} {vs : List V} {ops : List Opd} : Rep K F v o.erase → OpdsR K F σ vs ops → OpdsR K F σ (v :: vs) (.t o :: ops)
theorem OpdsR.mono {F' : Hp} (e : Ex F F') : ∀ {vs ops}, OpdsR K F σ vs ops → OpdsR K F' σ vs ops
  | _, _, .nil => .nil
  | _, _, .v h r => .v h (OpdsR.mono e r)
  | _, _, .t h r => .t (h.mono e) (OpdsR.mono e r)
theorem OpdsV.freeze {F' : Hp} (e : Ex F F') : ∀ {vs ops T}, OpdsV K F H σ vs ops T → (∀ a ∈ T, ∀ u, H a = some u → F' a = some u) → OpdsR K F' σ vs ops
  | _, _, _, .nil, _ => .nil
  | _, _, _, .v h r, k => .v h (OpdsV.freeze e r k)
  | _, _, _, .t h r, k => .t (h.freeze e fun a m => k a (List.mem_append_left _ m)) (OpdsV.freeze e r fun a m => k a (List.mem_append_right _ m))
theorem resB_vars : ∀ {ops : List Opd} {F : Hp} {env : Env} {S : List Addr} {vs : List V} {ds : List D} {env' : Env}, Stt K F H σ env S → OpdsR K F σ vs ops → resB env ops = some (ds, env') →
    ∃ F' S', Trans F H S F' H S' ∧ Stt K F' H σ env' S' ∧ Shals K F' H vs ds
  | [], F, env, S, _, ds, env', st, .nil, e => by
    simp [resB] at e
    obtain ⟨rfl, rfl⟩ := e
    exact ⟨F, S, Trans.refl, st, .nil⟩
  | .t o :: r, F, env, S, _, ds, env', st, .t h q, e => by
    simp only [resB, Option.map_eq_some_iff] at e
    obtain ⟨⟨ds', e'⟩, e1, e2⟩ := e
    obtain ⟨F', S', t, s, k⟩ := resB_vars st q e1
    cases e2
    exact ⟨F', S', t, s, .cons (.fz (h.mono t.ff)) k⟩
  | .v i :: r, F, env, S, _, ds, env', st, .v (v := v) h q, e => by
    unfold resB at e
    split at e
    · rename_i o ho
      split at e
      · rename_i hs
        simp only [Option.map_eq_some_iff] at e
        obtain ⟨⟨ds', e'⟩, e1, e2⟩ := e
        obtain ⟨v', fp, S0, hv, ow, _⟩ := st.own.take ho
        rw [h] at hv
        cases hv
        obtain ⟨F', S', t, s, k⟩ := resB_vars st q e1
        cases e2
        exact ⟨F', S', t, s, .cons ((ow.shal hs).mono t.ff) k⟩
      · simp only [Option.map_eq_some_iff] at e
        obtain ⟨⟨ds', e'⟩, e1, e2⟩ := e
        obtain ⟨F1, S1, v', hv, t1, s1, rp⟩ := st.freezeAt ho
        rw [h] at hv
        cases hv
        obtain ⟨F', S', t, s, k⟩ := resB_vars s1 (q.mono t1.ff) e1
        cases e2
        exact ⟨F', S', t1.trans t, s, .cons (.fz (rp.mono t.ff)) k⟩
    · cases e
theorem resB_ok {ops : List Opd} {env : Env} {S T : List Addr} {vs : List V} {ds : List D} {env' : Env} (sp : Stp K F H σ env S vs ops T) (e : resB env ops = some (ds, env')) :
    ∃ F' S', Trans F H (T ++ S) F' H S' ∧ Stt K F' H σ env' S' ∧ Shals K F' H vs ds := by
  have q := sp.val.freeze (F' := frz F H T) (frz_ex sp.as.nf) fun a m u e => by rw [frz_in m]; exact e
  obtain ⟨F', S', t, s, k⟩ := resB_vars (sp.st.frz sp.as) q e
  exact ⟨F', S', (frz_trans sp.as.nf).trans t, s, k⟩

/-- new objects alone: all that was there stays, the slots too -/
theorem Stt.grow {F' H' : Hp} {env : Env} {S T : List Addr} (st : Stt K F H σ env S) (t : Trans F H [] F' H' T) (sb : Ex F' H') (nd : T.Nodup) (sep : ∀ a ∈ T, F' a = none) (lv : ∀ a ∈ T, ∃ u, H' a = some u) :
    Trans F H S F' H' (T ++ S) ∧ Stt K F' H' σ env S ∧ Aside F' H' S T := by
  have hT : ∀ a ∈ T, H a = none := fun a m => (t.sn a m).resolve_left (fun z => nomatch z)
  refine ⟨⟨fun a o e _ => t.fr a o e (fun z => nomatch z), t.ff, fun a o e => (t.fn a o e).imp_right fun z => .inr (z.resolve_left (fun y => nomatch y)), fun a m => ?_, t.dm⟩,
    ⟨st.own.keep t.ff fun a _ u e => t.fr a u e (fun z => nomatch z), sb, st.nd, fun a m => ?_⟩, ⟨fun a m n => ?_, sep, lv⟩⟩
  · rcases List.mem_append.mp m with m | m
    · exact .inr (hT a m)
    · exact .inl m
  · obtain ⟨u, e⟩ := st.own.live a m
    cases q : F' a with
    | none => rfl
    | some o =>
      rcases t.fn a o q with ⟨w, z⟩ | z | z
      · rw [st.sep a m] at z; cases z
      · cases z
      · rw [e] at z; cases z
  · obtain ⟨u, e⟩ := st.own.live a n
    rw [hT a m] at e; cases e
end

/-! ### operations on data -/
/-- atoms -/
inductive At where
  | non | bl (b : Bool) | int (i : Int) | str (s : List Nat)
def At.d : At → D
  | .non => .non
  | .bl b => .bl b
  | .int i => .int i
  | .str s => .str s
def At.v : At → V
  | .non => .non
  | .bl b => .bl b
  | .int i => .int i
  | .str s => .str (sOf s)
def At.fits : At → Prop
  | .str s => okS s
  | _ => True
theorem At.rep {K : PySem.W.Frag} {F : Hp} : ∀ a : At, a.fits → Rep K F a.v a.d
  | .non, _ => .non
  | .bl b, _ => .bl b
  | .int i, _ => .int i
  | .str s, h => .str s h
/-- an operation that reads its operands and gives an atom -/
def OpA (K : PySem.W.Frag) (rd : List V → Hp → VK → Prop) (sem : List D → Option At) : Prop :=
  ∀ (H : Hp) (vs : List V) (ds : List D) (a : At) (Q : VK), Reps K H vs ds → sem ds = some a → (a.fits → Q a.v H) → rd vs H Q
/-- an operation that reads its operands and gives a value that may hold parts of them -/
def OpB (K : PySem.W.Frag) (rd : List V → Hp → VK → Prop) (sem : List D → Option O) : Prop :=
  ∀ (F H : Hp) (vs : List V) (ds : List D) (o : O) (Q : VK), Ex F H → Shals K F H vs ds → sem ds = some o →
    (∀ v F' H' T, Trans F H [] F' H' T → Own K F' H' v o T → Ex F' H' → T.Nodup → (∀ a ∈ T, F' a = none) → Q v H') → rd vs H Q
def eA (sem : List D → Option At) (f : Env → R (List Opd)) : Env → R O := fun env => match f env with
  | .ok ops e => (match (resA e ops).bind sem with
    | some a => .ok (.fz a.d) e
    | none => .bad)
  | .exc c ds e => .exc c ds e
  | .bad => .bad
def eB (sem : List D → Option O) (f : Env → R (List Opd)) : Env → R O := fun env => match f env with
  | .ok ops e => (match resB e ops with
    | some (ds, e') => (match sem ds with
      | some o => .ok o e'
      | none => .bad)
    | none => .bad)
  | .exc c ds e => .exc c ds e
  | .bad => .bad
section
variable {n : Nat} {X : Cx}
theorem sta_one {K : PySem.W.Frag} {F H : Hp} {σ : L2.St} {env : Env} {S T : List Addr} {v : V} {o : O} (st : Stt K F H σ env S) (ow : Own K F H v o T) (nd : T.Nodup) (as : Aside F H S T) : Sta K F H σ env S [v] [o] T :=
  ⟨st, by simpa using Owns.cons ow Owns.nil, nd, as⟩
theorem snd_A {e : Expr} {es : List Expr} {f : Env → R (List Opd)} {rd : List V → Hp → VK → Prop} {sem : List D → Option At} (hf : SndL n X es f) (hop : OpA X.K rd sem)
    (he : ∀ σ H Q, wL n X es σ H (fun vs H1 => rd vs H1 Q) → wE n X e σ H Q) : SndE n X e (eA sem f) := by
  refine .mk fun W tk env σ F H S Q st q => ?_
  refine he σ H Q (hf.run W tk env σ F H S _ st ?_)
  unfold eA at q
  revert q
  cases f env with
  | exc c ds e => exact fun q => q
  | bad => exact fun q => q
  | ok ops e1 =>
    intro q vs F1 H1 S1 T1 tr sp
    revert q
    show PostE X W σ F H S Q (match (resA e1 ops).bind sem with
      | some a => .ok (.fz a.d) e1
      | none => .bad) → rd vs H1 Q
    cases e2 : resA e1 ops with
    | none => exact fun q => q.elim
    | some ds =>
      show PostE X W σ F H S Q (match sem ds with
        | some a => .ok (.fz a.d) e1
        | none => .bad) → rd vs H1 Q
      cases e3 : sem ds with
      | none => exact fun q => q.elim
      | some a =>
        intro q
        exact hop H1 vs ds a Q (resA_ok sp.st sp.val e2) e3 fun fit => (q a.v F1 H1 S1 [] (tr.sub fun x m => List.mem_append_right _ (by simpa using m)) (sta_one sp.st (.fz (a.rep fit)) List.nodup_nil ⟨fun _ m => (nomatch m), fun _ m => (nomatch m), fun _ m => (nomatch m)⟩))
theorem snd_B {e : Expr} {es : List Expr} {f : Env → R (List Opd)} {rd : List V → Hp → VK → Prop} {sem : List D → Option O} (hf : SndL n X es f) (hop : OpB X.K rd sem)
    (he : ∀ σ H Q, wL n X es σ H (fun vs H1 => rd vs H1 Q) → wE n X e σ H Q) : SndE n X e (eB sem f) := by
  refine .mk fun W tk env σ F H S Q st q => ?_
  refine he σ H Q (hf.run W tk env σ F H S _ st ?_)
  unfold eB at q
  revert q
  cases f env with
  | exc c ds e => exact fun q => q
  | bad => exact fun q => q
  | ok ops e1 =>
    intro q vs F1 H1 S1 T1 tr sp
    revert q
    show PostE X W σ F H S Q (match resB e1 ops with
      | some (ds, e') => (match sem ds with
        | some o => .ok o e'
        | none => .bad)
      | none => .bad) → rd vs H1 Q
    cases e2 : resB e1 ops with
    | none => exact fun q => q.elim
    | some p =>
      obtain ⟨ds, e'⟩ := p
      show PostE X W σ F H S Q (match sem ds with
        | some o => .ok o e'
        | none => .bad) → rd vs H1 Q
      cases e3 : sem ds with
      | none => exact fun q => q.elim
      | some o =>
        intro q
        obtain ⟨F2, S2, t2, s2, sh⟩ := resB_ok sp e2
        refine hop F2 H1 vs ds o Q s2.sub sh e3 fun v F3 H3 T3 t3 ow sb nd sep => ?_
        obtain ⟨t4, s4, a4⟩ := s2.grow t3 sb nd sep fun a m => ow.live a m
        exact q v F3 H3 S2 T3 ((tr.trans t2).trans t4) (sta_one s4 ow nd a4)
end
end PyD
end

section
set_option Elab.async false
set_option linter.all false
set_option maxRecDepth 100000
namespace PyD
open PySem L2 PySem.Spec PyProof.Rows

/-! ### composed readings -/
section
variable {n : Nat} {X : Cx} {σ : L2.St} {H : Hp}
theorem wSs_cons {st : Stmt} {rest : List Stmt} {u : TS} {D : Ends} (h : wS n X st { D with nx := fun σ' H' => u D σ' H' } σ H) (k : ∀ D σ' H', u D σ' H' → wSs n X rest D σ' H') : wSs n X (st :: rest) D σ H := by
  intro pins s hn I
  refine wpAny_execs_cons (thn' hn (h pins s hn I) fun f s1 n1 q => ?_)
  cases f with
  | next =>
    obtain ⟨σ', H', I', q⟩ := q
    exact k _ _ _ q pins s1 n1 I'
  | ret v => exact q
  | brk => exact q
  | cont => exact q
theorem wSs_one {st : Stmt} {D : Ends} (h : wS n X st D σ H) : wSs n X [st] D σ H := by
  intro pins s hn I
  refine wpAny_execs_cons (thn (h pins s hn I) fun f s1 q => ?_)
  cases f with
  | next => exact wpAny_execs_nil q
  | ret v => exact q
  | brk => exact q
  | cont => exact q
theorem wS_ret {e : Expr} {pos : Pos} {D : Ends} (h : wE n X e σ H D.rt) : wS n X (.Return (some e) pos) D σ H := fun pins s hn I =>
  wpAny_Return_some (thn (wE_run h pins s hn I) fun _ _ z => let ⟨x, H1, I1, r1, q1⟩ := z; ⟨x, σ, H1, I1, r1, q1⟩)
theorem wS_expr {e : Expr} {pos : Pos} {D : Ends} (hs : swapsWith e none pos.line X.env = pure false) (h : wE n X e σ H fun _ H1 => D.nx σ H1) : wS n X (.Expr e pos) D σ H := fun pins s hn I =>
  wpAny_Expr_any (thn (wE_run h pins s hn I) fun _ _ z => let ⟨_, H1, I1, _, q1⟩ := z; ⟨σ, H1, I1, q1⟩) I.quiet hs
theorem wS_if {c : Expr} {a b : List Stmt} {pos : Pos} {D : Ends} (h : wT n X c σ H fun t H1 => if t = true then wSs n X a D σ H1 else wSs n X b D σ H1) : wS n X (.If c a b pos) D σ H := by
  intro pins s hn I
  refine wpAny_If (thn' hn (h pins s hn I) fun d s1 n1 z => ?_)
  obtain ⟨H1, I1, q1⟩ := z
  cases d with
  | true => exact q1 pins s1 n1 I1
  | false => exact q1 pins s1 n1 I1
theorem wT_val {e : Expr} {Q : Bool → Hp → Prop} (he : ∀ whole, isTrue e X.env whole = (do let v ← whole; standAt e.pos; holding [v] (truthy v))) (h : wE n X e σ H fun x H1 => ∃ b, x = .bl b ∧ Q b H1) : wT n X e σ H Q := by
  intro pins s hn I
  refine isTrue_plain (thn (wE_run h pins s hn I) fun v s1 z => ?_) (he _)
  obtain ⟨x, H1, I1, r1, d, e1, q⟩ := z
  subst e1
  cases r1
  exact wpAny_truthy_bool ⟨H1, I1, q⟩
theorem wW_and1 {a : Expr} {pos : Pos} {Q : Bool → Hp → Prop} (h : wT n X a σ H Q) : wW n X (.BoolOp .And [a] pos) σ H Q := by
  intro wh pins s hn I
  refine isTrue_and (thn (h pins s hn I) fun c s1 z => ?_)
  cases c with
  | true => exact isTrue_and_nil z
  | false => exact z
theorem wW_or1 {a : Expr} {pos : Pos} {Q : Bool → Hp → Prop} (h : wT n X a σ H Q) : wW n X (.BoolOp .Or [a] pos) σ H Q := by
  intro wh pins s hn I
  refine isTrue_or (thn (h pins s hn I) fun c s1 z => ?_)
  cases c with
  | false => exact isTrue_or_nil z
  | true => exact z
theorem wW_and {a b : Expr} {rest : List Expr} {pos : Pos} {Q : Bool → Hp → Prop} (h : wT n X a σ H fun c H1 => if c = true then wW n X (.BoolOp .And (b :: rest) pos) σ H1 Q else Q false H1) : wW n X (.BoolOp .And (a :: b :: rest) pos) σ H Q := by
  intro wh pins s hn I
  refine isTrue_and (thn' hn (h pins s hn I) fun c s1 n1 z => ?_)
  obtain ⟨H1, I1, q1⟩ := z
  cases c with
  | true => exact q1 wh pins s1 n1 I1
  | false => exact ⟨H1, I1, q1⟩
theorem wW_or {a b : Expr} {rest : List Expr} {pos : Pos} {Q : Bool → Hp → Prop} (h : wT n X a σ H fun c H1 => if c = true then Q true H1 else wW n X (.BoolOp .Or (b :: rest) pos) σ H1 Q) : wW n X (.BoolOp .Or (a :: b :: rest) pos) σ H Q := by
  intro wh pins s hn I
  refine isTrue_or (thn' hn (h pins s hn I) fun c s1 n1 z => ?_)
  obtain ⟨H1, I1, q1⟩ := z
  cases c with
  | false => exact q1 wh pins s1 n1 I1
  | true => exact ⟨H1, I1, q1⟩
theorem wT_not {a : Expr} {pos : Pos} {Q : Bool → Hp → Prop} (h : wT n X a σ H fun c H1 => Q (!c) H1) : wT n X (.UnaryOp .Not a pos) σ H Q := fun pins s hn I => isTrue_not (h pins s hn I)
theorem wE_ifExp {c a b : Expr} {pos : Pos} {Q : VK} (h : wT n X c σ H fun t H1 => if t = true then wE n X a σ H1 Q else wE n X b σ H1 Q) : wE n X (.IfExp c a b pos) σ H Q := wE_mk fun pins s hn I => by
  refine wpAny_IfExp (thn' hn (h pins s hn I) fun d s1 n1 z => ?_)
  obtain ⟨H1, I1, q1⟩ := z
  cases d with
  | true => exact wE_run q1 pins s1 n1 I1
  | false => exact wE_run q1 pins s1 n1 I1
end
inductive Fl where
  | nx | rt (o : O) | bk | ct
/-- the slots that are not stored to -/
def Agree (pr : Nat → Bool) (σ σ' : L2.St) : Prop := σ'.length = σ.length ∧ ∀ i, pr i = true → σ'[i]? = σ[i]?
theorem Agree.refl {pr : Nat → Bool} {σ : L2.St} : Agree pr σ σ := ⟨rfl, fun _ _ => rfl⟩
theorem Agree.trans {pr : Nat → Bool} {σ σ1 σ2 : L2.St} (a : Agree pr σ σ1) (b : Agree pr σ1 σ2) : Agree pr σ σ2 := ⟨b.1.trans a.1, fun i h => (b.2 i h).trans (a.2 i h)⟩
theorem Agree.set {pr : Nat → Bool} {σ : L2.St} {i : Nat} {x : Option V} (h : pr i = false) : Agree pr σ (σ.set i x) := ⟨by simp, fun j hj => by
  rw [List.getElem?_set_ne]
  rintro rfl
  rw [h] at hj; cases hj⟩
def ExcPostS (K : PySem.W.Frag) (W : WX) (pr : Nat → Bool) (c : Str) (ds : List D) (env' : Env) (σ : L2.St) (F H : Hp) (S : List Addr) : Prop :=
  ∀ σ' cls d F' H' S', Trans F H S F' H' S' → Stt K F' H' σ' env' S' → Agree pr σ σ' → ExcV K F' H' c ds cls d → W cls d σ' H'
def PostS (X : Cx) (W : WX) (pr : Nat → Bool) (σ : L2.St) (F H : Hp) (S : List Addr) (D : Ends) : R Fl → Prop
  | .ok .nx env' => ∀ σ' F' H' S', Trans F H S F' H' S' → Stt X.K F' H' σ' env' S' → Agree pr σ σ' → D.nx σ' H'
  | .ok .bk env' => ∀ σ' F' H' S', Trans F H S F' H' S' → Stt X.K F' H' σ' env' S' → Agree pr σ σ' → D.bk σ' H'
  | .ok .ct env' => ∀ σ' F' H' S', Trans F H S F' H' S' → Stt X.K F' H' σ' env' S' → Agree pr σ σ' → D.ct σ' H'
  | .ok (.rt o) env' => ∀ v σ' F' H' S' T, Trans F H S F' H' (T ++ S') → Sta X.K F' H' σ' env' S' [v] [o] T → Agree pr σ σ' → D.rt v H'
  | .exc c ds env' => ExcPostS X.K W pr c ds env' σ F H S
  | .bad => False
theorem PostS.over {X : Cx} {W : WX} {pr : Nat → Bool} {σ σ1 : L2.St} {F H F1 H1 : Hp} {S S1 : List Addr} {D : Ends} {r : R Fl} (p : PostS X W pr σ F H S D r) (t : Trans F H S F1 H1 S1) (g : Agree pr σ σ1) : PostS X W pr σ1 F1 H1 S1 D r := by
  cases r with
  | ok f e =>
    cases f with
    | nx => exact fun σ' F' H' S' t' s a => p σ' F' H' S' (t.trans t') s (g.trans a)
    | bk => exact fun σ' F' H' S' t' s a => p σ' F' H' S' (t.trans t') s (g.trans a)
    | ct => exact fun σ' F' H' S' t' s a => p σ' F' H' S' (t.trans t') s (g.trans a)
    | rt o => exact fun v σ' F' H' S' T t' s a => p v σ' F' H' S' T (t.trans t') s (g.trans a)
  | exc c ds e => exact fun σ' cls d F' H' S' t' s a x => p σ' cls d F' H' S' (t.trans t') s (g.trans a) x
  | bad => exact p
theorem ExcPostS.e {K : PySem.W.Frag} {W : WX} {pr : Nat → Bool} {c : Str} {ds : List D} {env' : Env} {σ : L2.St} {F H : Hp} {S : List Addr} (p : ExcPostS K W pr c ds env' σ F H S) : ExcPost K W c ds env' σ F H S :=
  fun cls d F' H' S' t s x => p σ cls d F' H' S' t s Agree.refl x
/-- a statement does g -/
structure SndS (n : Nat) (X : Cx) (pr : Nat → Bool) (st : Stmt) (g : Env → R Fl) : Prop where
  run : ∀ W, Takes X W → ∀ env σ F H S D, Stt X.K F H σ env S → PostS X W pr σ F H S D (g env) → wS n X st D σ H
structure SndSs (n : Nat) (X : Cx) (pr : Nat → Bool) (sts : List Stmt) (g : Env → R Fl) : Prop where
  run : ∀ W, Takes X W → ∀ env σ F H S D, Stt X.K F H σ env S → PostS X W pr σ F H S D (g env) → wSs n X sts D σ H
def PostT (X : Cx) (W : WX) (σ : L2.St) (F H : Hp) (S : List Addr) (Q : Bool → Hp → Prop) : R Bool → Prop
  | .ok b env' => ∀ F' H' S', Trans F H S F' H' S' → Stt X.K F' H' σ env' S' → Q b H'
  | .exc c ds env' => ExcPost X.K W c ds env' σ F H S
  | .bad => False
/-- a test tells f -/
structure SndT (n : Nat) (X : Cx) (e : Expr) (f : Env → R Bool) : Prop where
  run : ∀ W, Takes X W → ∀ env σ F H S Q, Stt X.K F H σ env S → PostT X W σ F H S Q (f env) → wT n X e σ H Q
structure SndW (n : Nat) (X : Cx) (e : Expr) (f : Env → R Bool) : Prop where
  run : ∀ W, Takes X W → ∀ env σ F H S Q, Stt X.K F H σ env S → PostT X W σ F H S Q (f env) → wW n X e σ H Q
theorem PostT.over {X : Cx} {W : WX} {σ : L2.St} {F H F1 H1 : Hp} {S S1 : List Addr} {Q : Bool → Hp → Prop} {r : R Bool} (p : PostT X W σ F H S Q r) (t : Trans F H S F1 H1 S1) : PostT X W σ F1 H1 S1 Q r := by
  cases r with
  | ok b e => exact fun F' H' S' t' s => p F' H' S' (t.trans t') s
  | exc c ds e => exact ExcPost.over p t
  | bad => exact p
theorem PostE.over {X : Cx} {W : WX} {σ : L2.St} {F H F1 H1 : Hp} {S S1 : List Addr} {Q : VK} {r : R O} (p : PostE X W σ F H S Q r) (t : Trans F H S F1 H1 S1) : PostE X W σ F1 H1 S1 Q r := by
  cases r with
  | ok o e => exact fun v F' H' S' T t' s => p v F' H' S' T (t.trans t') s
  | exc c ds e => exact ExcPost.over p t
  | bad => exact p

/-! ### sequences -/
def sNil : Env → R Fl := fun env => .ok .nx env
def sSeq (g h : Env → R Fl) : Env → R Fl := fun env => match g env with
  | .ok .nx e => h e
  | r => r
section
variable {n : Nat} {X : Cx} {pr : Nat → Bool}
theorem snd_snil : SndSs n X pr [] sNil := .mk fun W tk env σ F H S D st q => wSs_of pss_nil (q σ F H S Trans.refl st Agree.refl)
theorem snd_scons {st : Stmt} {rest : List Stmt} {g h : Env → R Fl} (hg : SndS n X pr st g) (hh : SndSs n X pr rest h) : SndSs n X pr (st :: rest) (sSeq g h) := by
  refine .mk fun W tk env σ F H S D st q => ?_
  refine wSs_cons (u := fun D σ H => wSs n X rest D σ H) ?_ fun _ _ _ z => z
  refine hg.run W tk env σ F H S _ st ?_
  unfold sSeq at q
  revert q
  cases g env with
  | ok f e =>
    cases f with
    | nx => exact fun q σ' F' H' S' t s a => hh.run W tk e σ' F' H' S' D s (PostS.over q t a)
    | bk => exact fun q => q
    | ct => exact fun q => q
    | rt o => exact fun q => q
  | exc c ds e => exact fun q => q
  | bad => exact fun q => q
theorem snd_sone {st : Stmt} {g : Env → R Fl} (hg : SndS n X pr st g) : SndSs n X pr [st] g := by
  refine .mk fun W tk env σ F H S D st q => ?_
  exact wSs_one (hg.run W tk env σ F H S D st q)
/-! ### small statements -/
def sPass : Env → R Fl := fun env => .ok .nx env
def sBreak : Env → R Fl := fun env => .ok .bk env
def sCont : Env → R Fl := fun env => .ok .ct env
theorem snd_pass {pos : Pos} : SndS n X pr (.Pass pos) sPass := .mk fun W tk env σ F H S D st q => wS_of ps_pass (q σ F H S Trans.refl st Agree.refl)
theorem snd_break {pos : Pos} : SndS n X pr (.Break pos) sBreak := .mk fun W tk env σ F H S D st q => wS_of ps_break (q σ F H S Trans.refl st Agree.refl)
theorem snd_cont {pos : Pos} : SndS n X pr (.Continue pos) sCont := .mk fun W tk env σ F H S D st q => wS_of ps_continue (q σ F H S Trans.refl st Agree.refl)
def sRet (f : Env → R O) : Env → R Fl := fun env => match f env with
  | .ok o e => .ok (.rt o) e
  | .exc c ds e => .exc c ds e
  | .bad => .bad
theorem snd_ret {e : Expr} {f : Env → R O} {pos : Pos} (h : SndE n X e f) : SndS n X pr (.Return (some e) pos) (sRet f) := by
  refine .mk fun W tk env σ F H S D st q => ?_
  refine wS_ret (h.run W tk env σ F H S _ st ?_)
  unfold sRet at q
  revert q
  cases f env with
  | ok o e => exact fun q v F' H' S' T t s => q v σ F' H' S' T t s Agree.refl
  | exc c ds e => exact fun q => ExcPostS.e q
  | bad => exact fun q => q
def sExpr (f : Env → R O) : Env → R Fl := fun env => match f env with
  | .ok o e => .ok .nx e
  | .exc c ds e => .exc c ds e
  | .bad => .bad
theorem snd_expr {e : Expr} {f : Env → R O} {pos : Pos} (h : SndE n X e f) (hs : swapsWith e none pos.line X.env = pure false := by rfl) : SndS n X pr (.Expr e pos) (sExpr f) := by
  refine .mk fun W tk env σ F H S D st q => ?_
  refine wS_expr hs (h.run W tk env σ F H S _ st ?_)
  unfold sExpr at q
  revert q
  cases f env with
  | ok o e => exact fun q v F' H' S' T t s => q σ F' H' S' (t.sub fun x m => List.mem_append_right _ m) s.st Agree.refl
  | exc c ds e => exact fun q => ExcPostS.e q
  | bad => exact fun q => q
def sIf (c : Env → R Bool) (g h : Env → R Fl) : Env → R Fl := fun env => match c env with
  | .ok b e => if b = true then g e else h e
  | .exc c ds e => .exc c ds e
  | .bad => .bad
theorem snd_if {e : Expr} {a b : List Stmt} {c : Env → R Bool} {g h : Env → R Fl} {pos : Pos} (hc : SndT n X e c) (ha : SndSs n X pr a g) (hb : SndSs n X pr b h) : SndS n X pr (.If e a b pos) (sIf c g h) := by
  refine .mk fun W tk env σ F H S D st q => ?_
  refine wS_if (hc.run W tk env σ F H S _ st ?_)
  unfold sIf at q
  revert q
  cases c env with
  | ok t e =>
    intro q F' H' S' tr s
    cases t with
    | true => exact ha.run W tk e σ F' H' S' D s (PostS.over q tr Agree.refl)
    | false => exact hb.run W tk e σ F' H' S' D s (PostS.over q tr Agree.refl)
  | exc c ds e => exact fun q => ExcPostS.e q
  | bad => exact fun q => q
/-! ### tests -/
def tBool (f : Env → R O) : Env → R Bool := fun env => match f env with
  | .ok (.fz (.bl b)) e => .ok b e
  | .exc c ds e => .exc c ds e
  | _ => .bad
theorem snd_tval {e : Expr} {f : Env → R O} (h : SndE n X e f) (he : ∀ whole, isTrue e X.env whole = (do let v ← whole; standAt e.pos; holding [v] (truthy v)) := by intro _; rfl) : SndT n X e (tBool f) := by
  refine .mk fun W tk env σ F H S Q st q => ?_
  refine wT_val he (h.run W tk env σ F H S _ st ?_)
  unfold tBool at q
  revert q
  cases f env with
  | ok o e =>
    cases o with
    | fz d =>
      cases d with
      | bl b =>
        intro q v F' H' S' T t s
        have := s.val
        cases this with
        | cons a b =>
          cases a with
          | fz r => cases r; exact ⟨_, rfl, q F' H' S' (t.sub fun x m => List.mem_append_right _ m) s.st⟩
      | _ => exact fun q => q.elim
    | _ => exact fun q => q.elim
  | exc c ds e => exact fun q => q
  | bad => exact fun q => q.elim
def tAnd' (f g : Env → R Bool) : Env → R Bool := fun env => match f env with
  | .ok b e => if b = true then g e else .ok false e
  | .exc c ds e => .exc c ds e
  | .bad => .bad
def tOr' (f g : Env → R Bool) : Env → R Bool := fun env => match f env with
  | .ok b e => if b = true then .ok true e else g e
  | .exc c ds e => .exc c ds e
  | .bad => .bad
def tNot' (f : Env → R Bool) : Env → R Bool := fun env => match f env with
  | .ok b e => .ok (!b) e
  | .exc c ds e => .exc c ds e
  | .bad => .bad
theorem snd_wand1 {a : Expr} {f : Env → R Bool} {pos : Pos} (h : SndT n X a f) : SndW n X (.BoolOp .And [a] pos) f := .mk fun W tk env σ F H S Q st q => wW_and1 (h.run W tk env σ F H S Q st q)
theorem snd_wor1 {a : Expr} {f : Env → R Bool} {pos : Pos} (h : SndT n X a f) : SndW n X (.BoolOp .Or [a] pos) f := .mk fun W tk env σ F H S Q st q => wW_or1 (h.run W tk env σ F H S Q st q)
theorem snd_wand {a b : Expr} {rest : List Expr} {f g : Env → R Bool} {pos : Pos} (h : SndT n X a f) (k : SndW n X (.BoolOp .And (b :: rest) pos) g) : SndW n X (.BoolOp .And (a :: b :: rest) pos) (tAnd' f g) := by
  refine .mk fun W tk env σ F H S Q st q => ?_
  refine wW_and (h.run W tk env σ F H S _ st ?_)
  unfold tAnd' at q
  revert q
  cases f env with
  | ok c e =>
    intro q F' H' S' t s
    cases c with
    | true => exact k.run W tk e σ F' H' S' Q s (PostT.over q t)
    | false => exact q F' H' S' t s
  | exc c ds e => exact fun q => q
  | bad => exact fun q => q
theorem snd_wor {a b : Expr} {rest : List Expr} {f g : Env → R Bool} {pos : Pos} (h : SndT n X a f) (k : SndW n X (.BoolOp .Or (b :: rest) pos) g) : SndW n X (.BoolOp .Or (a :: b :: rest) pos) (tOr' f g) := by
  refine .mk fun W tk env σ F H S Q st q => ?_
  refine wW_or (h.run W tk env σ F H S _ st ?_)
  unfold tOr' at q
  revert q
  cases f env with
  | ok c e =>
    intro q F' H' S' t s
    cases c with
    | true => exact q F' H' S' t s
    | false => exact k.run W tk e σ F' H' S' Q s (PostT.over q t)
  | exc c ds e => exact fun q => q
  | bad => exact fun q => q
theorem snd_tw {e : Expr} {f : Env → R Bool} (h : SndW n X e f) : SndT n X e f := .mk fun W tk env σ F H S Q st q => by
  have := h.run W tk env σ F H S Q st q
  exact fun pins s hn I => this _ pins s hn I
theorem snd_tnot {a : Expr} {f : Env → R Bool} {pos : Pos} (h : SndT n X a f) : SndT n X (.UnaryOp .Not a pos) (tNot' f) := by
  refine .mk fun W tk env σ F H S Q st q => ?_
  refine wT_not (h.run W tk env σ F H S _ st ?_)
  unfold tNot' at q
  revert q
  cases f env with
  | ok c e => exact fun q => q
  | exc c ds e => exact fun q => q
  | bad => exact fun q => q
/-- a if t else b -/
def eIf (c : Env → R Bool) (f g : Env → R O) : Env → R O := fun env => match c env with
  | .ok b e => if b = true then f e else g e
  | .exc c ds e => .exc c ds e
  | .bad => .bad
theorem snd_ifexp {c a b : Expr} {t : Env → R Bool} {f g : Env → R O} {pos : Pos} (hc : SndT n X c t) (ha : SndE n X a f) (hb : SndE n X b g) : SndE n X (.IfExp c a b pos) (eIf t f g) := by
  refine .mk fun W tk env σ F H S Q st q => ?_
  refine wE_ifExp (hc.run W tk env σ F H S _ st ?_)
  unfold eIf at q
  revert q
  cases t env with
  | ok t e =>
    intro q F' H' S' tr s
    cases t with
    | true => exact ha.run W tk e σ F' H' S' Q s (PostE.over q tr)
    | false => exact hb.run W tk e σ F' H' S' Q s (PostE.over q tr)
  | exc c ds e => exact fun q => q
  | bad => exact fun q => q
/-! ### constants, names -/
def eC (a : At) : Env → R O := fun env => .ok (.fz a.d) env
theorem snd_c {e : Expr} {a : At} (h : PE X e (tC a.v)) (hf : a.fits) : SndE n X e (eC a) := .mk fun W tk env σ F H S Q st q =>
  wE_of h (q a.v F H S [] (Trans.refl) (sta_one st (.fz (a.rep hf)) List.nodup_nil ⟨fun _ m => (nomatch m), fun _ m => (nomatch m), fun _ m => (nomatch m)⟩))
/-- a name's value, handed on: it is frozen -/
def eVar (i : Nat) : Env → R O := fun env => match env[i]? with
  | some (some (.fz d)) => .ok (.fz d) env
  | some (some (.dct _)) => .bad
  | some (some o) => .ok (.fz o.erase) (env.set i (some (.fz o.erase)))
  | _ => .bad
theorem snd_var {i : Nat} {x : Str} {p : Pos} (hN : X.N[i]? = some x) (hv : Vis X.env.scope x) (hd : (x == ("__debug__" : Str)) = false := by decide) (hcd : (x == ("__classdict__" : Str)) = false := by decide) : SndE n X (.Name x p) (eVar i) := by
  refine .mk fun W tk env σ F H S Q st q => ?_
  refine wE_of (pe_var hN hv hd hcd) ?_
  unfold eVar at q
  split at q
  · rename_i d ho
    obtain ⟨v, fp, S0, hv1, ow, _⟩ := st.own.take ho
    cases ow with
    | fz r => exact ⟨v, hv1, q v F H S [] Trans.refl (sta_one st (.fz r) List.nodup_nil ⟨fun _ m => (nomatch m), fun _ m => (nomatch m), fun _ m => (nomatch m)⟩)⟩
  · exact q.elim
  · rename_i o hn hn2 ho
    obtain ⟨F', S', v, hv1, t, s, rp⟩ := st.freezeAt ho
    exact ⟨v, hv1, q v F' H S' [] t (sta_one s (.fz rp) List.nodup_nil ⟨fun _ m => (nomatch m), fun _ m => (nomatch m), fun _ m => (nomatch m)⟩)⟩
  · exact q.elim
/-- a name's value, moved out of a slot that is not asked again (a return) -/
def eMove (i : Nat) : Env → R O := fun env => match env[i]? with
  | some (some o) => .ok o (env.set i none)
  | _ => .bad
theorem snd_move {i : Nat} {x : Str} {p : Pos} (hN : X.N[i]? = some x) (hv : Vis X.env.scope x) (hd : (x == ("__debug__" : Str)) = false := by decide) (hcd : (x == ("__classdict__" : Str)) = false := by decide) : SndE n X (.Name x p) (eMove i) := by
  refine .mk fun W tk env σ F H S Q st q => ?_
  refine wE_of (pe_var hN hv hd hcd) ?_
  unfold eMove at q
  split at q
  · rename_i o ho
    obtain ⟨v, fp, S0, hv1, ow, pm, sl⟩ := st.own.take ho
    have nd : (fp ++ S0).Nodup := pm.nodup_iff.mpr st.nd
    have nd' := List.nodup_append.mp nd
    refine ⟨v, hv1, q v F H S0 fp (Trans.refl.sub fun x m => pm.mem_iff.mp m) (sta_one ⟨sl, st.sub, nd'.2.1, fun a m => st.sep a (pm.mem_iff.mp (List.mem_append_right _ m))⟩ ow nd'.1 ⟨fun a m n => nd'.2.2 a m a n rfl, fun a m => st.sep a (pm.mem_iff.mp (List.mem_append_left _ m)), fun a m => ow.live a m⟩)⟩
  · exact q.elim
end
end PyD
end

section
set_option Elab.async false
set_option linter.all false
set_option maxRecDepth 100000
namespace PyD
open PySem L2

/-! ### values in a row -/
def PostA (X : Cx) (W : WX) (σ : L2.St) (F H : Hp) (S : List Addr) (Q : List V → Hp → Prop) : R (List O) → Prop
  | .ok os env' => ∀ vs F' H' S' T, Trans F H S F' H' (T ++ S') → Sta X.K F' H' σ env' S' vs os T → Q vs H'
  | .exc c ds env' => ExcPost X.K W c ds env' σ F H S
  | .bad => False
/-- expressions from the left, each a value of its own -/
structure SndA (n : Nat) (X : Cx) (es : List Expr) (f : Env → R (List O)) : Prop where
  run : ∀ W, Takes X W → ∀ env σ F H S Q, Stt X.K F H σ env S → PostA X W σ F H S Q (f env) → wL n X es σ H Q
def aNil : Env → R (List O) := fun env => .ok [] env
def aCons (f : Env → R O) (r : Env → R (List O)) : Env → R (List O) := fun env => match f env with
  | .ok o e1 => (match r e1 with
    | .ok os e => .ok (o :: os) e
    | .exc c ds e => .exc c ds e
    | .bad => .bad)
  | .exc c ds e => .exc c ds e
  | .bad => .bad
section
variable {n : Nat} {X : Cx}
theorem Sta.one {K : PySem.W.Frag} {F H : Hp} {σ : L2.St} {env : Env} {S T : List Addr} {v : V} {o : O} (s : Sta K F H σ env S [v] [o] T) : Own K F H v o T := by
  have := s.val
  cases this with
  | cons a b =>
    cases b
    simpa using a
theorem snd_anil : SndA n X [] aNil := .mk fun W tk env σ F H S Q st q => q [] F H S [] Trans.refl (Sta.of st)
theorem tr_app {F H F1 H1 F2 H2 : Hp} {S S1 S2 T1 T2 : List Addr} (tr1 : Trans F H S F1 H1 (T1 ++ S1)) (tr2 : Trans F1 H1 S1 F2 H2 (T2 ++ S2)) : Trans F H S F2 H2 ((T1 ++ T2) ++ S2) := by
  have t1 : Trans F H S F1 H1 S1 := tr1.sub fun x m => List.mem_append_right _ m
  refine ⟨(t1.trans tr2).fr, (t1.trans tr2).ff, (t1.trans tr2).fn, fun x m => ?_, (t1.trans tr2).dm⟩
  rw [List.append_assoc] at m
  rcases List.mem_append.mp m with m | m
  · exact tr1.sn x (List.mem_append_left _ m)
  · rcases tr2.sn x m with z | z
    · exact t1.sn x z
    · exact .inr (t1.dm x z)
theorem snd_acons {e : Expr} {es : List Expr} {f : Env → R O} {r : Env → R (List O)} (he : SndE n X e f) (hr : SndA n X es r) : SndA n X (e :: es) (aCons f r) := by
  refine .mk fun W tk env σ F H S Q st q => ?_
  show wE n X e σ H _
  refine he.run W tk env σ F H S _ st ?_
  unfold aCons at q
  revert q
  cases f env with
  | exc c ds e => exact fun q => q
  | bad => exact fun q => q
  | ok o e1 =>
    intro q v F1 H1 S1 T1 tr1 sa
    refine hr.run W tk e1 σ F1 H1 S1 _ sa.st ?_
    have t1 : Trans F H S F1 H1 S1 := tr1.sub fun x m => List.mem_append_right _ m
    revert q
    show PostA X W σ F H S Q (match r e1 with
      | .ok os e => .ok (o :: os) e
      | .exc c ds e => .exc c ds e
      | .bad => .bad) → PostA X W σ F1 H1 S1 (fun vs H2 => Q (v :: vs) H2) (r e1)
    cases r e1 with
    | exc c ds e => exact fun q => q.over t1
    | bad => exact fun q => q
    | ok os e2 =>
      intro q vs F2 H2 S2 T2 tr2 sp
      have t2 : Trans F1 H1 S1 F2 H2 S2 := tr2.sub fun x m => List.mem_append_right _ m
      have ap : ∀ x ∈ T1, x ∉ T2 := sa.as.apart tr2
      exact q (v :: vs) F2 H2 S2 (T1 ++ T2) (tr_app tr1 tr2) ⟨sp.st, .cons (sa.one.over sa.as t2) sp.val, List.nodup_append.mpr ⟨sa.nd, sp.nd, fun x m y n z => ap x m (z ▸ n)⟩, (sa.as.over t2).app sp.as⟩
/-- plain arguments: no star among them -/
def Plain (X : Cx) : List Expr → Prop
  | [] => True
  | e :: es => starEach (e :: es) X.env = (false, eval e X.env) :: starEach es X.env ∧ Plain X es
theorem wA_L : ∀ {es : List Expr} {σ : L2.St} {H : Hp} {Q : List V → Hp → Prop}, Plain X es → wL n X es σ H Q → wA n X es σ H Q
  | [], σ, H, Q, _, h => PyD.wA_of pa_nil h
  | e :: es, σ, H, Q, p, h => wA_cons p.1 (wE_mono h fun v H1 h1 => wA_L p.2 h1)
theorem wE_lst {es : List Expr} {pos : Pos} {σ : L2.St} {H : Hp} {Q : VK} (h : wA n X es σ H fun xs H1 => xs.length ≤ sizeLine ∧ ∀ p, H1 p = none → Q (.ref p) (upd H1 p (.lst xs))) : wE n X (.List es pos) σ H Q := wE_mk fun pins s hn I => by
  refine wpAny_List_spliced (thn (h pos pins s hn I) fun us s1 w => ?_)
  obtain ⟨xs, H1, I1, r, z, q⟩ := w
  have dd := I1.lnew (t' := s1.toks) r z
  exact ⟨by rw [← r.length]; exact z, .ref _, _, dd, rfl, q _ I1.fresh⟩
theorem wE_tup {es : List Expr} {k} {pos : Pos} {σ : L2.St} {H : Hp} {Q : VK} (h : wA n X es σ H fun xs H1 => xs.length ≤ sizeLine ∧ ∀ p, H1 p = none → Q (.ref p) (upd H1 p (.tup xs))) : wE n X (.Tuple es k pos) σ H Q := wE_mk fun pins s hn I => by
  refine wpAny_Tuple_spliced (thn (h pos pins s hn I) fun us s1 w => ?_)
  obtain ⟨xs, H1, I1, r, z, q⟩ := w
  refine ⟨by rw [← r.length]; exact z, .ref s1.heap.objs.size, upd H1 s1.heap.objs.size (.tup xs), I1.laid (t' := s1.toks) (fun _ _ e => Heap.get?_push_of_some _ e) (Nat.le_refl _) ?_, rfl, q _ (I1.hok.fresh (Nat.le_refl _))⟩
  exact ⟨z, us, r, ⟨_, (Heap.get?_push_size _ rfl), rfl, ⟨_, rfl⟩⟩⟩
def eLst (f : Env → R (List O)) : Env → R O := fun env => match f env with
  | .ok os e => if os.length ≤ 1000000 then .ok (.lst os) e else .bad
  | .exc c ds e => .exc c ds e
  | .bad => .bad
def eTup (f : Env → R (List O)) : Env → R O := fun env => match f env with
  | .ok os e => if os.length ≤ 1000000 then .ok (.tup os) e else .bad
  | .exc c ds e => .exc c ds e
  | .bad => .bad
theorem new_cell {K : PySem.W.Frag} {F H F1 H1 : Hp} {σ : L2.St} {env : Env} {S S1 T : List Addr} {vs : List V} {os : List O} {p : Addr} {u : HO} {o : O} (tr : Trans F H S F1 H1 (T ++ S1)) (s : Sta K F1 H1 σ env S1 vs os T) (hp : H1 p = none)
    (ow : ∀ H2, H2 p = some u → Owns K F1 H2 vs os T → Own K F1 H2 (.ref p) o (p :: T)) : Trans F H S F1 (upd H1 p u) (p :: T ++ S1) ∧ Sta K F1 (upd H1 p u) σ env S1 [.ref p] [o] (p :: T) := by
  have nT : p ∉ T := fun m => by
    obtain ⟨w, e⟩ := s.as.lv p m
    rw [hp] at e; cases e
  have nS : p ∉ S1 := fun m => by
    obtain ⟨w, e⟩ := s.st.own.live p m
    rw [hp] at e; cases e
  have ex : Ex H1 (upd H1 p u) := Ex.new hp
  have hF : F1 p = none := by
    cases e : F1 p with
    | none => rfl
    | some w => rw [s.st.sub p w e] at hp; cases hp
  refine ⟨⟨fun a w e n => ex a w (tr.fr a w e n), tr.ff, tr.fn, fun a m => ?_, fun a e => tr.dm a ?_⟩, sta_one ⟨s.st.own.keep (Ex.refl _) fun a _ w e => ex a w e, s.st.sub.trans ex, s.st.nd, s.st.sep⟩ (ow _ upd_same (s.val.keep (Ex.refl _) fun a _ w e => ex a w e)) (List.nodup_cons.mpr ⟨nT, s.nd⟩) ⟨fun a m => ?_, fun a m => ?_, fun a m => ?_⟩⟩
  · rcases List.mem_cons.mp m with rfl | m
    · exact .inr (tr.dm _ hp)
    · exact tr.sn a m
  · by_cases h : a = p
    · subst h; exact hp
    · rw [upd_ne h] at e; exact e
  · rcases List.mem_cons.mp m with rfl | m
    · exact nS
    · exact s.as.ns a m
  · rcases List.mem_cons.mp m with rfl | m
    · exact hF
    · exact s.as.nf a m
  · rcases List.mem_cons.mp m with rfl | m
    · exact ⟨u, upd_same⟩
    · obtain ⟨w, e⟩ := s.as.lv a m
      exact ⟨w, ex a w e⟩
theorem snd_lst {es : List Expr} {f : Env → R (List O)} {pos : Pos} (h : SndA n X es f) (pl : Plain X es) : SndE n X (.List es pos) (eLst f) := by
  refine .mk fun W tk env σ F H S Q st q => ?_
  refine wE_lst (wA_L pl (h.run W tk env σ F H S _ st ?_))
  unfold eLst at q
  revert q
  cases f env with
  | exc c ds e => exact fun q => q
  | bad => exact fun q => q
  | ok os e =>
    intro q vs F1 H1 S1 T tr s
    revert q
    show PostE X W σ F H S Q (if os.length ≤ 1000000 then .ok (.lst os) e else .bad) → _
    by_cases hl : os.length ≤ 1000000
    · rw [if_pos hl]
      intro q
      refine ⟨Nat.le_trans (by rw [s.val.length]; exact hl) (by decide : 1000000 ≤ sizeLine), fun p hp => ?_⟩
      obtain ⟨t2, s2⟩ := new_cell (u := .lst vs) tr s hp fun H2 e ow => .lst e ow
      exact q _ _ _ _ _ t2 s2
    · rw [if_neg hl]
      exact fun q => q.elim
theorem snd_tup {es : List Expr} {f : Env → R (List O)} {k} {pos : Pos} (h : SndA n X es f) (pl : Plain X es) : SndE n X (.Tuple es k pos) (eTup f) := by
  refine .mk fun W tk env σ F H S Q st q => ?_
  refine wE_tup (wA_L pl (h.run W tk env σ F H S _ st ?_))
  unfold eTup at q
  revert q
  cases f env with
  | exc c ds e => exact fun q => q
  | bad => exact fun q => q
  | ok os e =>
    intro q vs F1 H1 S1 T tr s
    revert q
    show PostE X W σ F H S Q (if os.length ≤ 1000000 then .ok (.tup os) e else .bad) → _
    by_cases hl : os.length ≤ 1000000
    · rw [if_pos hl]
      intro q
      refine ⟨Nat.le_trans (by rw [s.val.length]; exact hl) (by decide : 1000000 ≤ sizeLine), fun p hp => ?_⟩
      obtain ⟨t2, s2⟩ := new_cell (u := .tup vs) tr s hp fun H2 e ow => .tup e ow
      exact q _ _ _ _ _ t2 s2
    · rw [if_neg hl]
      exact fun q => q.elim
end

/-! ### targets -/
def wG (X : Cx) (tg : Expr) : TG := fun v σ H Q => ∀ pins s u, Inv X pins σ H s → RelV v u → wpAny (model X.prog X.w) X.A (assign tg X.env u) (fun _ s' => ∃ σ' H', Inv X pins σ' H' s' ∧ Q σ' H') X.xe s
theorem pg_w {X : Cx} {tg : Expr} : PG X tg (wG X tg) := ⟨fun pins s σ H v u Q I r h => h pins s u I r⟩
theorem wG_of {X : Cx} {tg : Expr} {t : TG} (h : PG X tg t) {v : V} {σ : L2.St} {H : Hp} {Q : L2.St → Hp → Prop} (q : t v σ H Q) : wG X tg v σ H Q := fun pins s u I r => h.run pins s σ H v u Q I r q
def wGs (X : Cx) (ts : List Expr) : TGs := fun vs σ H Q => ∀ pins s us, Inv X pins σ H s → Vals vs us → wpAny (model X.prog X.w) X.A (assignInOrder ((assignEach ts X.env).map (·.2)) us) (fun _ s' => ∃ σ' H', Inv X pins σ' H' s' ∧ Q σ' H') X.xe s
theorem pgs_w {X : Cx} {ts : List Expr} : PGs X ts (wGs X ts) := ⟨fun pins s σ H vs us Q I r h => h pins s us I r⟩
theorem wGs_of {X : Cx} {ts : List Expr} {t : TGs} (h : PGs X ts t) {vs : List V} {σ : L2.St} {H : Hp} {Q : L2.St → Hp → Prop} (q : t vs σ H Q) : wGs X ts vs σ H Q := fun pins s us I r => h.run pins s σ H vs us Q I r q
def PostG (X : Cx) (pr : Nat → Bool) (σ : L2.St) (F H : Hp) (S : List Addr) (Q : L2.St → Hp → Prop) : Option Env → Prop
  | some env' => ∀ σ' F' H' S', Trans F H S F' H' S' → Stt X.K F' H' σ' env' S' → Agree pr σ σ' → Q σ' H'
  | none => False
theorem PostG.over {X : Cx} {pr : Nat → Bool} {σ σ1 : L2.St} {F H F1 H1 : Hp} {S S1 : List Addr} {Q : L2.St → Hp → Prop} {r : Option Env} (p : PostG X pr σ F H S Q r) (t : Trans F H S F1 H1 S1) (g : Agree pr σ σ1) : PostG X pr σ1 F1 H1 S1 Q r := by
  cases r with
  | some e => exact fun σ' F' H' S' t' s a => p σ' F' H' S' (t.trans t') s (g.trans a)
  | none => exact p
/-- a target stores by h -/
structure SndG (X : Cx) (pr : Nat → Bool) (tg : Expr) (h : O → Env → Option Env) : Prop where
  run : ∀ v o T env σ F H S Q, Sta X.K F H σ env S [v] [o] T → PostG X pr σ F H (T ++ S) Q (h o env) → wG X tg v σ H Q
structure SndGs (X : Cx) (pr : Nat → Bool) (ts : List Expr) (h : List O → Env → Option Env) : Prop where
  run : ∀ vs os T env σ F H S Q, Sta X.K F H σ env S vs os T → PostG X pr σ F H (T ++ S) Q (h os env) → wGs X ts vs σ H Q
def gN (i : Nat) : O → Env → Option Env := fun o env => if i < env.length then some (env.set i (some o)) else none
def gsNil : List O → Env → Option Env
  | [], env => some env
  | _ :: _, _ => none
def gsCons (h : O → Env → Option Env) (r : List O → Env → Option Env) : List O → Env → Option Env
  | o :: os, env => (h o env).bind (r os)
  | [], _ => none
/-- a pattern of n places -/
def gT (n : Nat) (hs : List O → Env → Option Env) : O → Env → Option Env
  | .tup os, env => if os.length = n then hs os env else none
  | .fz (.tup ds), env => if ds.length = n then hs (ds.map .fz) env else none
  | _, _ => none
section
variable {n : Nat} {X : Cx} {pr : Nat → Bool}
theorem stt_store {K : PySem.W.Frag} {F H : Hp} {σ : L2.St} {env : Env} {S T : List Addr} {v : V} {o : O} {i : Nat} (s : Sta K F H σ env S [v] [o] T) (hi : i < env.length) :
    ∃ S', Trans F H (T ++ S) F H S' ∧ Stt K F H (σ.set i (some v)) (env.set i (some o)) S' := by
  obtain ⟨S', S0, h1, h2, h3⟩ := s.st.own.store hi s.one
  have nd : (T ++ S0).Nodup := (List.nodup_append.mpr ⟨s.nd, s.st.nd, fun a m b n z => s.as.ns a m (z ▸ n)⟩).sublist (List.Sublist.append (List.Sublist.refl T) h3)
  have mem : ∀ a ∈ S', a ∈ T ++ S := fun a m => by
    rcases List.mem_append.mp (h2.mem_iff.mp m) with n | n
    · exact List.mem_append_left _ n
    · exact List.mem_append_right _ (h3.subset n)
  exact ⟨S', Trans.refl.sub mem, h1, s.st.sub, h2.nodup_iff.mpr nd, fun a m => (List.mem_append.mp (mem a m)).elim (s.as.nf a) (s.st.sep a)⟩
theorem snd_gn {i : Nat} {x : Str} {pos : Pos} (hN : X.N.Nodup) (hi : X.N[i]? = some x) (hx : Loc X.env.scope x) (hp : pr i = false) (hf : X.fn x = true ∨ X.env.scope.names.lookup x = some .local := by first | exact .inl rfl | exact .inr rfl | assumption) : SndG X pr (.Name x pos) (gN i) := by
  refine .mk fun v o T env σ F H S Q s q => ?_
  refine wG_of (pg_name hN hi hx hf) ?_
  unfold gN at q
  split at q
  · rename_i hl
    obtain ⟨S', t, st⟩ := stt_store s hl
    exact q _ _ _ _ t st (Agree.set hp)
  · exact q.elim
theorem snd_gsnil : SndGs X pr [] gsNil := by
  refine .mk fun vs os T env σ F H S Q s q => ?_
  cases os with
  | nil =>
    have := s.val
    cases this
    exact wGs_of pgs_nil ⟨rfl, q σ F H S (by simpa using Trans.refl) s.st Agree.refl⟩
  | cons o os => exact q.elim
theorem snd_gscons {e : Expr} {es : List Expr} {h : O → Env → Option Env} {r : List O → Env → Option Env} (h1 : SndG X pr e h) (h2 : SndGs X pr es r)
    (hs : (assignEach (e :: es) X.env).map (·.2) = assign e X.env :: (assignEach es X.env).map (·.2) := by rfl) : SndGs X pr (e :: es) (gsCons h r) := by
  refine .mk fun vs os T env σ F H S Q s q => ?_
  cases os with
  | nil => exact q.elim
  | cons o os =>
    have ow := s.val
    cases ow with
    | cons a b =>
      rename_i v vs fp fq
      have nd := List.nodup_append.mp s.nd
      have as1 : Aside F H S fp := ⟨fun x m => s.as.ns x (List.mem_append_left _ m), fun x m => s.as.nf x (List.mem_append_left _ m), fun x m => s.as.lv x (List.mem_append_left _ m)⟩
      have as2 : Aside F H (fp ++ S) fq := ⟨fun x m n => (List.mem_append.mp n).elim (fun n => nd.2.2 x n x m rfl) (s.as.ns x (List.mem_append_right _ m)), fun x m => s.as.nf x (List.mem_append_right _ m), fun x m => s.as.lv x (List.mem_append_right _ m)⟩
      refine wGs_of (pgs_cons pg_w pgs_w hs) ⟨v, vs, rfl, h1.run v o fp env σ F H S _ ⟨s.st, by simpa using Owns.cons a Owns.nil, nd.1, as1⟩ ?_⟩
      have q' : PostG X pr σ F H ((fp ++ fq) ++ S) Q ((h o env).bind (r os)) := q
      revert q'
      cases h o env with
      | none => exact fun q => q
      | some e1 =>
        intro q σ1 F1 H1 S1 t s1 g
        have t' : Trans F H ((fp ++ fq) ++ S) F1 H1 (fq ++ S1) := by
          refine ⟨fun x u e n => t.fr x u e fun m => n ?_, t.ff, fun x u e => ?_, fun x m => ?_, t.dm⟩
          · rcases List.mem_append.mp m with m | m
            · exact List.mem_append_left _ (List.mem_append_left _ m)
            · exact List.mem_append_right _ m
          · rcases t.fn x u e with z | z | z
            · exact .inl z
            · refine .inr (.inl ?_)
              rcases List.mem_append.mp z with z | z
              · exact List.mem_append_left _ (List.mem_append_left _ z)
              · exact List.mem_append_right _ z
            · exact .inr (.inr z)
          · rcases List.mem_append.mp m with m | m
            · exact .inl (List.mem_append_left _ (List.mem_append_right _ m))
            · rcases t.sn x m with z | z
              · refine .inl ?_
                rcases List.mem_append.mp z with z | z
                · exact List.mem_append_left _ (List.mem_append_left _ z)
                · exact List.mem_append_right _ z
              · exact .inr z
        exact h2.run vs os fq e1 σ1 F1 H1 S1 Q ⟨s1, b.over as2 t, nd.2.1, as2.over t⟩ (PostG.over q t' g)
theorem snd_gt {es : List Expr} {k : Nat} {pos : Pos} {n : Nat} {hs : List O → Env → Option Env} (hc : X.calm = true) (h : SndGs X pr es hs)
    (hn : (assignEach es X.env).length = n := by rfl) (hst : (assignEach es X.env).findIdx? (·.1) = none := by rfl) : SndG X pr (.Tuple es k pos) (gT n hs) := by
  refine .mk fun v o T env σ F H S Q s q => ?_
  refine wG_of (pg_tup hc pgs_w hn hst) ?_
  have ow := s.one
  unfold gT at q
  split at q
  · rename_i os
    split at q
    · rename_i hl
      cases ow with
      | tup e r =>
        rename_i a vs fp
        refine ⟨a, vs, rfl, .inl (.inl e), by rw [r.length]; exact hl, h.run vs os fp env σ F H S Q ⟨s.st, r, (List.nodup_cons.mp s.nd).2, ⟨fun x m => s.as.ns x (List.mem_cons_of_mem _ m), fun x m => s.as.nf x (List.mem_cons_of_mem _ m), fun x m => s.as.lv x (List.mem_cons_of_mem _ m)⟩⟩ ?_⟩
        exact PostG.over q (Trans.refl.sub fun x m => List.mem_cons_of_mem _ m) Agree.refl
    · exact q.elim
  · rename_i ds
    split at q
    · rename_i hl
      cases ow with
      | fz r =>
        obtain ⟨a, vs, rfl, e, r⟩ := r.tup_inv
        have ov : ∀ {vs ds}, Reps X.K F vs ds → Owns X.K F H vs (ds.map O.fz) [] := fun {vs ds} r => by
          induction ds generalizing vs with
          | nil => cases r; exact .nil
          | cons d ds ih => cases r with
            | cons a b => exact .cons (fp := []) (fq := []) (.fz a) (ih b)
        refine ⟨a, vs, rfl, ?_, by rw [r.length]; exact hl, h.run vs _ [] env σ F H S Q ⟨s.st, ov r, List.nodup_nil, ⟨fun _ m => (nomatch m), fun _ m => (nomatch m), fun _ m => (nomatch m)⟩⟩ q⟩
        rcases e with e | e
        · exact .inl (s.st.sub.rd e)
        · exact .inr e
    · exact q.elim
  · exact q.elim
/-! ### target = value -/
theorem wS_asg {tg e : Expr} {pos : Pos} {σ : L2.St} {H : Hp} {D : Ends} (hs : swapsWithSole [tg] e pos.line X.env = pure false) (hw : swappedStores [tg] e X.env = pure none) (h1 : (assignEach [tg] X.env).map (·.2) = [assign tg X.env])
    (h : wE n X e σ H fun x H1 => wG X tg x σ H1 D.nx) : wS n X (.Assign [tg] e pos) D σ H := by
  intro pins s hn I
  refine wpAny_Assign_stores (thn (wE_run h pins s hn I) fun v s1 z => ?_) hs hw
  obtain ⟨x, H1, I1, r1, q1⟩ := z
  rw [h1]
  exact q1 pins s1 v I1 r1
def sAsg (f : Env → R O) (h : O → Env → Option Env) : Env → R Fl := fun env => match f env with
  | .ok o e => (match h o e with
    | some e' => .ok .nx e'
    | none => .bad)
  | .exc c ds e => .exc c ds e
  | .bad => .bad
theorem snd_asg {tg e : Expr} {f : Env → R O} {h : O → Env → Option Env} {pos : Pos} (he : SndE n X e f) (hg : SndG X pr tg h) (hs : swapsWithSole [tg] e pos.line X.env = pure false := by rfl) (hw : swappedStores [tg] e X.env = pure none := by rfl)
    (h1 : (assignEach [tg] X.env).map (·.2) = [assign tg X.env] := by rfl) : SndS n X pr (.Assign [tg] e pos) (sAsg f h) := by
  refine .mk fun W tk env σ F H S D st q => ?_
  refine wS_asg hs hw h1 (he.run W tk env σ F H S _ st ?_)
  unfold sAsg at q
  revert q
  cases f env with
  | exc c ds e => exact fun q => ExcPostS.e q
  | bad => exact fun q => q
  | ok o e1 =>
    intro q v F1 H1 S1 T tr s
    refine hg.run v o T e1 σ F1 H1 S1 _ s ?_
    revert q
    show PostS X W pr σ F H S D (match h o e1 with
      | some e' => .ok .nx e'
      | none => .bad) → _
    cases h o e1 with
    | none => exact fun q => q
    | some e' => exact fun q σ' F' H' S' t s a => q σ' F' H' S' (tr.trans t) s a
end
end PyD
end

section
set_option Elab.async false
set_option linter.all false
set_option maxRecDepth 100000
namespace PyD
open PySem L2 PySem.Spec PyProof.Rows

/-! ### what a for walks -/
/-- a walk that gives the items os, whatever is frozen besides F0 -/
def ItOk (K : PySem.W.Frag) (J : It) (F0 : Hp) (os : List O) : Prop :=
  ∀ F H, Ex F0 F → Ex F H → ∀ i, (∀ o, os[i]? = some o → J.go i H ∧ ∀ x H', J.yld i H x H' → ∃ F' T, Trans F H [] F' H' T ∧ Own K F' H' x o T ∧ Ex F' H' ∧ T.Nodup ∧ ∀ a ∈ T, F' a = none) ∧ (os.length ≤ i → J.stop i H)
@[irreducible] def wI (n : Nat) (X : Cx) (tg iter : Expr) : TI := fun σ H R => ∀ pins s, n ≤ s.toks → Inv X pins σ H s → wpAny (model X.prog X.w) X.A (eval iter X.env) (fun v s1 => wpAny (model X.prog X.w) X.A (pyIter v) (PIE X pins σ tg R) X.xe s1) X.xe s
theorem wI_run {n : Nat} {X : Cx} {tg iter : Expr} {σ : L2.St} {H : Hp} {R : It → Hp → Prop} (h : wI n X tg iter σ H R) : ∀ pins s, n ≤ s.toks → Inv X pins σ H s → wpAny (model X.prog X.w) X.A (eval iter X.env) (fun v s1 => wpAny (model X.prog X.w) X.A (pyIter v) (PIE X pins σ tg R) X.xe s1) X.xe s := by
  unfold wI at h; exact h
theorem wI_mk {n : Nat} {X : Cx} {tg iter : Expr} {σ : L2.St} {H : Hp} {R : It → Hp → Prop} (h : ∀ pins s, n ≤ s.toks → Inv X pins σ H s → wpAny (model X.prog X.w) X.A (eval iter X.env) (fun v s1 => wpAny (model X.prog X.w) X.A (pyIter v) (PIE X pins σ tg R) X.xe s1) X.xe s) : wI n X tg iter σ H R := by
  unfold wI; exact h
theorem pi_w {X : Cx} {tg iter : Expr} : PI X tg iter (wI 0 X tg iter) := ⟨fun pins s σ H R I h => wI_run h pins s (Nat.zero_le _) I⟩
theorem wI_of {n : Nat} {X : Cx} {tg iter : Expr} {wi : TI} (h : PI X tg iter wi) {σ : L2.St} {H : Hp} {R : It → Hp → Prop} (q : wi σ H R) : wI n X tg iter σ H R := wI_mk fun pins s _ I => h.run pins s σ H R I q
def PostI (X : Cx) (W : WX) (σ : L2.St) (F H : Hp) (S : List Addr) (Q : It → Hp → Prop) : R (List O) → Prop
  | .ok os env' => ∀ J F' H' S', Trans F H S F' H' S' → Stt X.K F' H' σ env' S' → ItOk X.K J F' os → Q J H'
  | .exc c ds env' => ExcPost X.K W c ds env' σ F H S
  | .bad => False
structure SndI (n : Nat) (X : Cx) (tg iter : Expr) (f : Env → R (List O)) : Prop where
  run : ∀ W, Takes X W → ∀ env σ F H S Q, Stt X.K F H σ env S → PostI X W σ F H S Q (f env) → wI n X tg iter σ H Q
/-- the items of a value that is walked -/
def itemsOf : D → Option (List O)
  | .lst ds => some (ds.map .fz)
  | .tup ds => some (ds.map .fz)
  | .str l => some (l.map fun c => .fz (.str [c]))
  | _ => none
def iVal (f : Env → R O) : Env → R (List O) := fun env => match f env with
  | .ok o e => (match itemsOf o.erase with
    | some os => .ok os e
    | none => .bad)
  | .exc c ds e => .exc c ds e
  | .bad => .bad
section
variable {n : Nat} {X : Cx} {tg : Expr}
theorem Aside.nil {F H : Hp} {S : List Addr} : Aside F H S [] := ⟨fun _ m => (nomatch m), fun _ m => (nomatch m), fun _ m => (nomatch m)⟩
/-- a walk whose items stand already -/
theorem itOk_old {K : PySem.W.Frag} {J : It} {F0 : Hp} {ds : List D} (h : ∀ F H, Ex F0 F → Ex F H → ∀ i, (∀ d, ds[i]? = some d → J.go i H ∧ ∀ x H', J.yld i H x H' → H' = H ∧ Rep K F x d) ∧ (ds.length ≤ i → J.stop i H)) : ItOk K J F0 (ds.map .fz) := by
  intro F H e1 e2 i
  refine ⟨fun o ho => ?_, fun hl => (h F H e1 e2 i).2 (by simpa using hl)⟩
  rw [List.getElem?_map, Option.map_eq_some_iff] at ho
  obtain ⟨d, hd, rfl⟩ := ho
  obtain ⟨g, y⟩ := (h F H e1 e2 i).1 d hd
  refine ⟨g, fun x H' hy => ?_⟩
  obtain ⟨rfl, r⟩ := y x H' hy
  exact ⟨F, [], Trans.refl, .fz r, e2, List.nodup_nil, fun _ m => nomatch m⟩
theorem itOk_lst {K : PySem.W.Frag} {F0 : Hp} {a : Addr} {vs : List V} {ds : List D} (h : SqL K F0 a vs) (r : Reps K F0 vs ds) : ItOk K (Itl K a) F0 (ds.map .fz) := by
  refine itOk_old fun F H e1 e2 i => ⟨fun d hd => ?_, fun hl => ⟨vs, e2.l (e1.l h), by rw [r.length]; exact hl⟩⟩
  obtain ⟨v, hv, rv⟩ := r.get' hd
  refine ⟨⟨vs, v, e2.l (e1.l h), hv⟩, fun x H' y => ⟨y.1, ?_⟩⟩
  have := y.2 vs (e2.l (e1.l h))
  rw [hv] at this
  cases this
  exact rv.mono e1
theorem itOk_tup {K : PySem.W.Frag} {F0 : Hp} {a : Addr} {vs : List V} {ds : List D} (h : SqT K F0 a vs) (r : Reps K F0 vs ds) : ItOk K (Itt K a) F0 (ds.map .fz) := by
  refine itOk_old fun F H e1 e2 i => ⟨fun d hd => ?_, fun hl => ⟨vs, e2.t (e1.t h), by rw [r.length]; exact hl⟩⟩
  obtain ⟨v, hv, rv⟩ := r.get' hd
  refine ⟨⟨vs, v, e2.t (e1.t h), hv⟩, fun x H' y => ⟨y.1, ?_⟩⟩
  have := y.2 vs (e2.t (e1.t h))
  rw [hv] at this
  cases this
  exact rv.mono e1
theorem itOk_str {K : PySem.W.Frag} {F0 : Hp} {l : List Nat} (hl : okS l) : ItOk K (Its (sOf l)) F0 (l.map fun c => .fz (.str [c])) := by
  have e : (l.map fun c => O.fz (.str [c])) = (l.map fun c => D.str [c]).map .fz := by simp
  rw [e]
  refine itOk_old fun F H e1 e2 i => ⟨fun d hd => ?_, fun hl => ?_⟩
  · rw [List.getElem?_map, Option.map_eq_some_iff] at hd
    obtain ⟨c, hc, rfl⟩ := hd
    have hi : i < l.length := (List.getElem?_eq_some_iff.mp hc).1
    have hz : (sOf l).cps[i]? = some c := by simp [sOf, hc]
    refine ⟨show i < (sOf l).cps.size by simpa [sOf] using hi, fun x H' y => ⟨y.1, ?_⟩⟩
    obtain ⟨_, c', h1, rfl⟩ := y
    rw [hz] at h1
    cases h1
    exact Rep.str [c] ⟨(by show 1 ≤ sizeLine; decide), fun x m => by simp at m; subst m; exact hl.2 _ (List.mem_of_getElem? hc)⟩
  · show (sOf l).cps.size ≤ i
    simpa [sOf] using hl
theorem itOk_rng {K : PySem.W.Frag} {F0 : Hp} {lo : Int} {n : Nat} : ItOk K (Itr lo n) F0 ((List.range n).map fun k => .fz (.int (lo + (k : Nat)))) := by
  have e : ((List.range n).map fun k => O.fz (.int (lo + (k : Nat)))) = ((List.range n).map fun k => D.int (lo + (k : Nat))).map .fz := by simp
  rw [e]
  refine itOk_old fun F H e1 e2 i => ⟨fun d hd => ?_, fun hl => show n ≤ i by simpa using hl⟩
  rw [List.getElem?_map, Option.map_eq_some_iff] at hd
  obtain ⟨k, hk, rfl⟩ := hd
  have hi : i < n := by
    have := (List.getElem?_eq_some_iff.mp hk).1
    simpa using this
  have ek : k = i := by
    rw [List.getElem?_range hi] at hk
    exact (Option.some.inj hk).symm
  subst ek
  refine ⟨hi, fun x H' y => ⟨y.1, ?_⟩⟩
  rw [y.2]
  exact .int _
theorem wI_val {iter : Expr} {σ : L2.St} {H : Hp} {R : It → Hp → Prop}
    (h : wE n X iter σ H fun x H1 => (∃ a vs, x = .ref a ∧ SqL X.K H1 a vs ∧ R (Itl X.K a) H1) ∨ (∃ a vs, x = .ref a ∧ SqT X.K H1 a vs ∧ R (Itt X.K a) H1) ∨ ∃ z, x = .str z ∧ R (Its z) H1) : wI n X tg iter σ H R := by
  refine wI_mk fun pins s hn I => ?_
  refine thn (wE_run h pins s hn I) fun v s1 ⟨x, H1, I1, r1, q⟩ => ?_
  rcases q with ⟨a, xs, rfl, hq, q⟩ | ⟨a, xs, rfl, hq, q⟩ | ⟨x, rfl, q⟩
  · cases r1
    obtain ⟨its, rv, p, hz⟩ := I1.list hq
    refine wpAny_pyIter_list p.isList ?_
    refine ⟨s1.heap.objs.size, [s1.heap.objs.size], _, _, H1, rfl, I1.kept (t' := s1.toks) fun b o e => Heap.get?_push_of_some _ e, turn_list a _, ⟨_, Heap.get?_push_size _ rfl, rfl, rfl⟩, fun b hb => ?_, q⟩
    have e : b = s1.heap.objs.size := by simpa using hb
    subst e
    exact I1.fpOk (Nat.le_refl _) (I1.hok.fresh (Nat.le_refl _))
  · cases r1
    obtain ⟨its, rv, p, hz⟩ := I1.tuple hq
    refine wpAny_pyIter_tuple (show s1.heap.IsTuple a its.toArray from p) ?_
    refine ⟨s1.heap.objs.size, [s1.heap.objs.size], _, _, H1, rfl, I1.kept (t' := s1.toks) fun b o e => Heap.get?_push_of_some _ e, turn_tuple a _, ⟨_, Heap.get?_push_size _ rfl, rfl, rfl⟩, fun b hb => ?_, q⟩
    have e : b = s1.heap.objs.size := by simpa using hb
    subst e
    exact I1.fpOk (Nat.le_refl _) (I1.hok.fresh (Nat.le_refl _))
  · obtain ⟨t, rfl⟩ := r1
    cases ha : x.cps.all (· < 128)
    · exact wpAny_pyIter_wide ha (pi_one (tk := s1.toks) I1 _ (turn_str _ x t "str_iterator" (.inr rfl)) ⟨_, Heap.get?_push_size _ rfl, rfl, rfl⟩ q)
    · exact wpAny_pyIter_ascii ha (pi_one (tk := s1.toks) I1 _ (turn_str _ x t "str_ascii_iterator" (.inl rfl)) ⟨_, Heap.get?_push_size _ rfl, rfl, rfl⟩ q)
theorem snd_ival {iter : Expr} {f : Env → R O} (h : SndE n X iter f) : SndI n X tg iter (iVal f) := by
  refine .mk fun W tk env σ F H S Q st q => ?_
  refine wI_val (h.run W tk env σ F H S _ st ?_)
  unfold iVal at q
  revert q
  cases f env with
  | exc c ds e => exact fun q => q
  | bad => exact fun q => q
  | ok o e =>
    intro q v F1 H1 S1 T tr s
    revert q
    show PostI X W σ F H S Q (match itemsOf o.erase with
      | some os => .ok os e
      | none => .bad) → _
    have rp : Rep X.K (frz F1 H1 T) v o.erase := s.one.freeze (frz_ex s.as.nf) fun a m u e => by rw [frz_in m]; exact e
    have t2 := tr.trans (frz_trans (S := S1) s.as.nf)
    have s2 := s.st.frz s.as
    cases hd : o.erase with
    | lst ds =>
      intro q
      rw [hd] at rp
      obtain ⟨a, vs, rfl, h1, r⟩ := rp.lst_inv
      exact .inl ⟨a, vs, rfl, s2.sub.l h1, q _ _ _ _ t2 s2 (itOk_lst h1 r)⟩
    | tup ds =>
      intro q
      rw [hd] at rp
      obtain ⟨a, vs, rfl, h1, r⟩ := rp.tup_inv
      exact .inr (.inl ⟨a, vs, rfl, s2.sub.t h1, q _ _ _ _ t2 s2 (itOk_tup h1 r)⟩)
    | str l =>
      intro q
      rw [hd] at rp
      obtain ⟨rfl, ok⟩ := rp.str_inv
      exact .inr (.inr ⟨_, rfl, q _ _ _ _ t2 s2 (itOk_str ok)⟩)
    | _ => exact fun q => q.elim
/-- range(a), range(a, b) -/
def small62 (i : Int) : Bool := decide (i.natAbs ≤ 4611686018427387903)
def rng (lo : Int) (n : Nat) : List O := (List.range n).map fun k => .fz (.int (lo + (k : Nat)))
def rng1 : List D → Option (List O)
  | [.int j] => if small62 j = true then some (rng 0 j.toNat) else none
  | _ => none
def rng2 : List D → Option (List O)
  | [.int i, .int j] => if small62 i = true ∧ small62 j = true then some (rng i (j - i).toNat) else none
  | _ => none
/-- .. the items by a rule g -/
def iRd (g : List D → Option (List O)) (f : Env → R (List Opd)) : Env → R (List O) := fun env => match f env with
  | .ok ops e => (match (resA e ops).bind g with
    | some os => .ok os e
    | none => .bad)
  | .exc c ds e => .exc c ds e
  | .bad => .bad
theorem small62_ok {i : Int} (h : small62 i = true) : -(2 ^ 62) ≤ i ∧ i < 2 ^ 62 := by
  unfold small62 at h
  have := of_decide_eq_true h
  omega
theorem small62_of {i : Int} (h1 : -(2 ^ 60) ≤ i) (h2 : i < 2 ^ 60) : small62 i = true := by
  unfold small62
  exact decide_eq_true (by omega)
theorem wI_rng1 {a : Expr} {p pos : Pos} {σ : L2.St} {H : Hp} {R : It → Hp → Prop} (hg : Gl X "range") (hm : X.mg "range" = none) (hs : starEach [a] X.env = [(false, eval a X.env)])
    (h : wA n X [a] σ H fun vs H1 => ∃ j, vs = [.int j] ∧ -(2 ^ 62) ≤ j ∧ j < 2 ^ 62 ∧ R (Itr 0 j.toNat) H1) : wI n X tg (.Call (.Name "range" p) [a] [] pos) σ H R := wI_mk fun pins s hn I => by
  refine Call_ (ld_blt I hg hm boot_range (PyProof.Rows.callWith_type1 (thn (h pos pins s hn I) fun us s1 z => ?_) hs rfl))
  obtain ⟨vs, H1, I1, r1, j, e, q1, q2, q⟩ := z
  subst e
  cases r1 with
  | cons r rr =>
    cases rr
    obtain ⟨t, rfl⟩ := r
    exact call_range_1 (range_it I1 (by omega) (by omega) q1 q2 (by rw [Int.sub_zero]; exact q))
theorem wI_rng2 {a b : Expr} {p pos : Pos} {σ : L2.St} {H : Hp} {R : It → Hp → Prop} (hg : Gl X "range") (hm : X.mg "range" = none) (hs : starEach [a, b] X.env = [(false, eval a X.env), (false, eval b X.env)]) (hs2 : starEach [b] X.env = [(false, eval b X.env)])
    (h : wA n X [a, b] σ H fun vs H1 => ∃ i j, vs = [.int i, .int j] ∧ (-(2 ^ 62) ≤ i ∧ i < 2 ^ 62 ∧ -(2 ^ 62) ≤ j ∧ j < 2 ^ 62) ∧ R (Itr i (j - i).toNat) H1) : wI n X tg (.Call (.Name "range" p) [a, b] [] pos) σ H R := wI_mk fun pins s hn I => by
  refine Call_ (ld_blt I hg hm boot_range (PyProof.Rows.callWith_type1 (thn (h pos pins s hn I) fun us s1 z => ?_) (by rw [hs, hs2]) (by rw [hs2]; rfl)))
  obtain ⟨vs, H1, I1, r1, i, j, e, ⟨q1, q2, q3, q4⟩, q⟩ := z
  subst e
  cases r1 with
  | cons r rr =>
    cases rr with
    | cons r' rr =>
      cases rr
      obtain ⟨t, rfl⟩ := r
      obtain ⟨t', rfl⟩ := r'
      exact call_range_2 (range_it I1 q1 q2 q3 q4 q)
theorem snd_irng1 {a : Expr} {f : Env → R (List Opd)} {p pos : Pos} (hg : Gl X "range") (hm : X.mg "range" = none) (h : SndL n X [a] f) (hs : Plain X [a]) : SndI n X tg (.Call (.Name "range" p) [a] [] pos) (iRd rng1 f) := by
  refine .mk fun W tk env σ F H S Q st q => ?_
  refine wI_rng1 hg hm hs.1 ?_
  refine wA_L hs (h.run W tk env σ F H S _ st ?_)
  unfold iRd at q
  revert q
  cases f env with
  | exc c ds e => exact fun q => q
  | bad => exact fun q => q
  | ok ops e =>
    intro q vs F1 H1 S1 T tr s
    revert q
    show PostI X W σ F H S Q (match (resA e ops).bind rng1 with
      | some os => .ok os e
      | none => .bad) → _
    cases e2 : resA e ops with
    | none => exact fun q => q.elim
    | some ds =>
      have rp := resA_ok s.st s.val e2
      show PostI X W σ F H S Q (match rng1 ds with
        | some os => .ok os e
        | none => .bad) → _
      cases e3 : rng1 ds with
      | none => exact fun q => q.elim
      | some os =>
      unfold rng1 at e3
      split at e3
      · rename_i ds j
        split at e3
        · rename_i hs
          cases e3
          intro q
          obtain ⟨v, rfl, r⟩ := rp.one
          cases r.int_inv
          obtain ⟨h1, h2⟩ := small62_ok hs
          exact ⟨j, rfl, h1, h2, q _ F1 H1 S1 (tr.sub fun x m => List.mem_append_right _ m) s.st itOk_rng⟩
        · cases e3
      · cases e3
theorem snd_irng2 {a b : Expr} {f : Env → R (List Opd)} {p pos : Pos} (hg : Gl X "range") (hm : X.mg "range" = none) (h : SndL n X [a, b] f) (hs : Plain X [a, b]) : SndI n X tg (.Call (.Name "range" p) [a, b] [] pos) (iRd rng2 f) := by
  refine .mk fun W tk env σ F H S Q st q => ?_
  refine wI_rng2 hg hm (by rw [hs.1, hs.2.1]; rfl) hs.2.1 ?_
  refine wA_L hs (h.run W tk env σ F H S _ st ?_)
  unfold iRd at q
  revert q
  cases f env with
  | exc c ds e => exact fun q => q
  | bad => exact fun q => q
  | ok ops e =>
    intro q vs F1 H1 S1 T tr s
    revert q
    show PostI X W σ F H S Q (match (resA e ops).bind rng2 with
      | some os => .ok os e
      | none => .bad) → _
    cases e2 : resA e ops with
    | none => exact fun q => q.elim
    | some ds =>
      have rp := resA_ok s.st s.val e2
      show PostI X W σ F H S Q (match rng2 ds with
        | some os => .ok os e
        | none => .bad) → _
      cases e3 : rng2 ds with
      | none => exact fun q => q.elim
      | some os =>
      unfold rng2 at e3
      split at e3
      · rename_i ds i j
        split at e3
        · rename_i hs
          cases e3
          intro q
          obtain ⟨v, w, rfl, r1, r2⟩ := rp.two
          cases r1.int_inv
          cases r2.int_inv
          obtain ⟨h1, h2⟩ := small62_ok hs.1
          obtain ⟨h3, h4⟩ := small62_ok hs.2
          exact ⟨i, j, rfl, ⟨h1, h2, h3, h4⟩, q _ F1 H1 S1 (tr.sub fun x m => List.mem_append_right _ m) s.st itOk_rng⟩
        · cases e3
      · cases e3
end
/-! ### for -/
def sLoop (h : O → Env → Option Env) (b : Env → R Fl) : List O → Env → R Fl
  | [] => fun env => .ok .nx env
  | o :: os => fun env => match h o env with
    | none => .bad
    | some e => match b e with
      | .ok .nx e' => sLoop h b os e'
      | .ok .ct e' => sLoop h b os e'
      | .ok .bk e' => .ok .nx e'
      | r => r
def sFor (f : Env → R (List O)) (h : O → Env → Option Env) (b : Env → R Fl) : Env → R Fl := fun env => match f env with
  | .ok os e => sLoop h b os e
  | .exc c ds e => .exc c ds e
  | .bad => .bad
section
variable {n : Nat} {X : Cx} {pr : Nat → Bool}
/-- what a loop of wS_for must bring -/
def ForW (n : Nat) (X : Cx) (tg : Expr) (body : List Stmt) (D : Ends) (J : It) (σ : L2.St) (H : Hp) : Prop := ∃ W : Nat → Nat → L2.St → Hp → Prop, (∃ m, W 0 m σ H) ∧ ∀ i m σ H, W i m σ H →
  (J.stop i H ∧ D.nx σ H) ∨ (J.go i H ∧ ∃ N : L2.St → Hp → Prop, (∀ σ' H', N σ' H' → ∃ m', m' < m ∧ W (i + 1) m' σ' H') ∧ ∀ x H', J.yld i H x H' → wG X tg x σ H' fun σ2 H2 => wSs n X body { D with nx := N, ct := N, bk := D.nx } σ2 H2)
theorem wS_for {tg iter : Expr} {body : List Stmt} {pos : Pos} {σ : L2.St} {H : Hp} {D : Ends} (hp : PassesOwn (model X.prog X.w) X.A X.env X.xe) (hc : X.calm = true) (hs : ∀ x, foldedSetIterable iter X.env x = pure x)
    (h : wI n X tg iter σ H fun J H1 => ForW n X tg body D J σ H1) : wS n X (.For tg iter body [] pos) D σ H := by
  intro pins s hn I
  refine wpAny_For (thn' hn (wI_run h pins s hn I) fun v s1 n1 h1 => thn' n1 h1 fun itv s2 n2 h2 => ?_) hs
  obtain ⟨it, fp, tn, J, H2, e, I2, T, st2, f2, W, ⟨m0, w0⟩, turn⟩ := h2
  subst e
  have still : ∀ {G : Hp}, (∀ b ∈ fp, G b = none) → ∀ b ∈ fp, FpOk X pins G b := fun z b hb => ⟨z b hb, (f2 b hb).2⟩
  refine codeAny_forLoop_any (fun m t => ∃ i τ G, n ≤ t.toks ∧ Inv X pins τ G t ∧ tn i t.heap ∧ (∀ b ∈ fp, G b = none) ∧ W i m τ G) ?_ m0 ⟨0, σ, H2, n2, I2, st2, fun b hb => (f2 b hb).1, w0⟩
  rintro m s3 ⟨i, σ3, H3, n3, I3, st3, fr3, w3⟩
  rcases turn i m σ3 H3 w3 with ⟨stop, qn⟩ | ⟨go, N, hN, step⟩
  · refine wpAny_passesOwn hp (thn (T.done X rfl rfl rfl hc i pins s3 σ3 H3 X.xe I3 (still fr3) st3 stop) fun r s4 z => ?_)
    obtain ⟨hr, I4⟩ := z
    subst hr
    exact wpAny_execs_nil ⟨σ3, H3, I4, qn⟩
  · refine wpAny_passesOwn hp (thn' n3 (T.item X rfl rfl rfl hc i pins s3 σ3 H3 X.xe I3 (still fr3) st3 go) fun r s4 n4 z => ?_)
    obtain ⟨u, hr, h4⟩ := z
    subst hr
    refine wpAny_passesOwn hp (thn' n4 h4 fun _ s5 n5 z => ?_)
    obtain ⟨x, H5, I5, r5, y5, st5, fr5⟩ := z
    have I6 := I5.pinned (still fr5) (T.obj _ _ st5)
    refine wpAny_passesOwn hp (thn' n5 (step x H5 y5 _ s5 u I6 r5) fun _ s6 n6 z => ?_)
    obtain ⟨σ6, H6, I7, q6⟩ := z
    refine wpAny_passesOwn hp (thn' n6 (q6 _ s6 n6 I7) fun f s7 n7 q7 => ?_)
    have more : ∀ {σ7 : L2.St} {H7 : Hp}, Inv X (pins ++ pinsAt fp s5.heap) σ7 H7 s7 → N σ7 H7 → ∃ k, k < m ∧ ∃ i τ G, n ≤ s7.toks ∧ Inv X pins τ G s7 ∧ tn i s7.heap ∧ (∀ b ∈ fp, G b = none) ∧ W i k τ G := by
      intro σ7 H7 I8 k7
      obtain ⟨k, hk, w7⟩ := hN σ7 H7 k7
      have pin : ∀ b ∈ fp, ∀ o, s5.heap.get? b = some o → s7.heap.get? b = some o ∧ H7 b = none := fun b hb o e =>
        let q := I8.pin (b, o) (List.mem_append_right _ (List.mem_append_right _ (mem_pinsAt hb e)))
        ⟨q.1, q.2.1⟩
      refine ⟨k, hk, i + 1, σ7, H7, n7, I8.unpinned, T.keep _ _ _ st5 fun b hb o e => (pin b hb o e).1, fun b hb => ?_, w7⟩
      obtain ⟨o, e, _⟩ := T.obj _ _ st5 b hb
      exact (pin b hb o e).2
    cases f with
    | next =>
      obtain ⟨σ7, H7, I8, k7⟩ := q7
      exact more I8 k7
    | cont =>
      obtain ⟨σ7, H7, I8, k7⟩ := q7
      exact more I8 k7
    | brk =>
      obtain ⟨σ7, H7, I8, q7⟩ := q7
      exact ⟨σ7, H7, I8.unpinned, q7⟩
    | ret v =>
      obtain ⟨x7, σ7, H7, I8, r7, q7⟩ := q7
      exact ⟨x7, σ7, H7, I8.unpinned, r7, q7⟩
theorem snd_for {tg iter : Expr} {body : List Stmt} {f : Env → R (List O)} {h : O → Env → Option Env} {b : Env → R Fl} {pos : Pos} (hp : PassesOwn (model X.prog X.w) X.A X.env X.xe) (hc : X.calm = true) (hi : SndI n X tg iter f) (hg : SndG X pr tg h) (hb : SndSs n X pr body b)
    (hs : ∀ x, foldedSetIterable iter X.env x = pure x := by intro _; rfl) : SndS n X pr (.For tg iter body [] pos) (sFor f h b) := by
  refine .mk fun W tk env σ F H S D st q => ?_
  refine wS_for hp hc hs (hi.run W tk env σ F H S _ st ?_)
  unfold sFor at q
  revert q
  cases f env with
  | exc c ds e => exact fun q => ExcPostS.e q
  | bad => exact fun q => q
  | ok os e =>
    intro q J F1 H1 S1 tr s1 it
    refine ⟨fun i m σ' H' => m = os.length - i ∧ i ≤ os.length ∧ ∃ e' F' S', Ex F1 F' ∧ Stt X.K F' H' σ' e' S' ∧ PostS X W pr σ' F' H' S' D (sLoop h b (os.drop i) e'), ⟨os.length, by simp, Nat.zero_le _, e, F1, S1, Ex.refl _, s1, by simpa using PostS.over q tr Agree.refl⟩, ?_⟩
    rintro i m σ' H' ⟨rfl, hi, e', F', S', ex, s', p⟩
    obtain ⟨go, stop⟩ := it F' H' ex s'.sub i
    by_cases hl : i < os.length
    · obtain ⟨g, y⟩ := go os[i] (by simp [hl])
      refine .inr ⟨g, fun σ2 H2 => ∃ e2 F2 S2, Ex F1 F2 ∧ Stt X.K F2 H2 σ2 e2 S2 ∧ PostS X W pr σ2 F2 H2 S2 D (sLoop h b (os.drop (i + 1)) e2), fun σ2 H2 ⟨e2, F2, S2, x2, s2, p2⟩ => ⟨os.length - (i + 1), by omega, rfl, hl, e2, F2, S2, x2, s2, p2⟩, fun x H2 hy => ?_⟩
      obtain ⟨F2, T, t2, ow, sb, nd, sep⟩ := y x H2 hy
      obtain ⟨t3, s3, a3⟩ := s'.grow t2 sb nd sep fun a m => ow.live a m
      have hdrop : os.drop i = os[i] :: os.drop (i + 1) := by rw [List.drop_eq_getElem_cons hl]
      rw [hdrop] at p
      refine hg.run x os[i] T e' σ' F2 H2 S' _ (sta_one s3 ow nd a3) ?_
      revert p
      show PostS X W pr σ' F' H' S' D (match h os[i] e' with
        | none => .bad
        | some e => match b e with
          | .ok .nx e' => sLoop h b (os.drop (i + 1)) e'
          | .ok .ct e' => sLoop h b (os.drop (i + 1)) e'
          | .ok .bk e' => .ok .nx e'
          | r => r) → _
      cases h os[i] e' with
      | none => exact fun p => p
      | some e3 =>
        intro p σ4 F4 H4 S4 t4 s4 a4
        have t14 : Trans F' H' S' F4 H4 S4 := t3.trans t4
        refine hb.run W tk e3 σ4 F4 H4 S4 _ s4 ?_
        revert p
        show PostS X W pr σ' F' H' S' D (match b e3 with
          | .ok .nx e' => sLoop h b (os.drop (i + 1)) e'
          | .ok .ct e' => sLoop h b (os.drop (i + 1)) e'
          | .ok .bk e' => .ok .nx e'
          | r => r) → _
        cases b e3 with
        | bad => exact fun p => p
        | exc c ds e5 => exact fun p => PostS.over (D := D) (r := .exc c ds e5) p t14 a4
        | ok fl e5 =>
          cases fl with
          | rt o => exact fun p => PostS.over (D := D) (r := .ok (.rt o) e5) p t14 a4
          | bk => exact fun p => PostS.over (D := D) (r := .ok .nx e5) p t14 a4
          | nx => exact fun p σ5 F5 H5 S5 t5 s5 a5 => ⟨e5, F5, S5, ex.trans (t14.trans t5).ff, s5, PostS.over p (t14.trans t5) (a4.trans a5)⟩
          | ct => exact fun p σ5 F5 H5 S5 t5 s5 a5 => ⟨e5, F5, S5, ex.trans (t14.trans t5).ff, s5, PostS.over p (t14.trans t5) (a4.trans a5)⟩
    · have e0 : i = os.length := by omega
      subst e0
      refine .inl ⟨stop (Nat.le_refl _), ?_⟩
      rw [List.drop_length] at p
      exact p σ' F' H' S' Trans.refl s' Agree.refl
/-! ### while -/
def sWhile (c : Env → R Bool) (b : Env → R Fl) : Nat → Env → R Fl
  | 0 => fun _ => .bad
  | n + 1 => fun env => match c env with
    | .ok true e => (match b e with
      | .ok .nx e' => sWhile c b n e'
      | .ok .ct e' => sWhile c b n e'
      | .ok .bk e' => .ok .nx e'
      | r => r)
    | .ok false e => .ok .nx e
    | .exc c ds e => .exc c ds e
    | .bad => .bad
theorem wS_while {c : Expr} {body : List Stmt} {pos : Pos} {σ : L2.St} {H : Hp} {D : Ends} (hp : PassesOwn (model X.prog X.w) X.A X.env X.xe)
    (h : ∃ W : Nat → L2.St → Hp → Prop, (∃ m, W m σ H) ∧ ∀ m σ H, W m σ H → wT n X c σ H fun b H1 => if b = true then ∃ N : L2.St → Hp → Prop, (∀ σ' H', N σ' H' → ∃ m', m' < m ∧ W m' σ' H') ∧ wSs n X body { D with nx := N, ct := N, bk := D.nx } σ H1 else D.nx σ H1) :
    wS n X (.While c body [] pos) D σ H := by
  intro pins s hn I
  obtain ⟨W, ⟨m0, w0⟩, turn⟩ := h
  refine wpAny_While (codeAny_whileLoop (fun m t => ∃ τ G, n ≤ t.toks ∧ Inv X pins τ G t ∧ W m τ G) ?_ m0 ⟨σ, H, hn, I, w0⟩)
  rintro m s1 ⟨σ1, H1, n1, I1, w1⟩
  refine wpAny_passesOwn hp (thn' n1 (turn m σ1 H1 w1 pins s1 n1 I1) fun b s2 n2 z => ?_)
  obtain ⟨H2, I2, q2⟩ := z
  cases b with
  | false =>
    rw [if_neg Bool.false_ne_true]
    exact wpAny_execs_nil ⟨σ1, H2, I2, q2⟩
  | true =>
    obtain ⟨N, hN, q2⟩ := q2
    rw [if_pos rfl]
    refine wpAny_passesOwn hp (thn' n2 (q2 pins s2 n2 I2) fun f s3 n3 q3 => ?_)
    have more : (∃ τ G, Inv X pins τ G s3 ∧ N τ G) → ∃ k, k < m ∧ ∃ τ G, n ≤ s3.toks ∧ Inv X pins τ G s3 ∧ W k τ G := fun ⟨τ, G, I3, k3⟩ =>
      let ⟨k, hk, w3⟩ := hN τ G k3
      ⟨k, hk, τ, G, n3, I3, w3⟩
    cases f with
    | next => exact more q3
    | cont => exact more q3
    | brk => exact q3
    | ret v => exact q3
theorem snd_while {t : Expr} {body : List Stmt} {c : Env → R Bool} {b : Env → R Fl} {pos : Pos} {k : Nat} (hp : PassesOwn (model X.prog X.w) X.A X.env X.xe) (hc : SndT n X t c) (hb : SndSs n X pr body b) : SndS n X pr (.While t body [] pos) (sWhile c b k) := by
  refine .mk fun W tk env σ F H S D st q => ?_
  refine wS_while hp ?_
  refine ⟨fun m σ' H' => ∃ e' F' S', Stt X.K F' H' σ' e' S' ∧ PostS X W pr σ' F' H' S' D (sWhile c b m e'), ⟨k, env, F, S, st, q⟩, ?_⟩
  rintro m σ' H' ⟨e', F', S', s', p⟩
  cases m with
  | zero => exact p.elim
  | succ m =>
    refine hc.run W tk e' σ' F' H' S' _ s' ?_
    revert p
    show PostS X W pr σ' F' H' S' D (match c e' with
      | .ok true e => (match b e with
        | .ok .nx e' => sWhile c b m e'
        | .ok .ct e' => sWhile c b m e'
        | .ok .bk e' => .ok .nx e'
        | r => r)
      | .ok false e => .ok .nx e
      | .exc c ds e => .exc c ds e
      | .bad => .bad) → _
    cases c e' with
    | bad => exact fun p => p
    | exc c ds e => exact fun p => ExcPostS.e p
    | ok v e2 =>
      cases v with
      | false => exact fun p F2 H2 S2 t2 s2 => p σ' F2 H2 S2 t2 s2 Agree.refl
      | true =>
        intro p F2 H2 S2 t2 s2
        refine ⟨fun σ3 H3 => ∃ e3 F3 S3, Stt X.K F3 H3 σ3 e3 S3 ∧ PostS X W pr σ3 F3 H3 S3 D (sWhile c b m e3), fun σ3 H3 ⟨e3, F3, S3, s3, p3⟩ => ⟨m, Nat.lt_succ_self _, e3, F3, S3, s3, p3⟩, ?_⟩
        refine hb.run W tk e2 σ' F2 H2 S2 _ s2 ?_
        revert p
        show PostS X W pr σ' F' H' S' D (match b e2 with
          | .ok .nx e' => sWhile c b m e'
          | .ok .ct e' => sWhile c b m e'
          | .ok .bk e' => .ok .nx e'
          | r => r) → _
        cases b e2 with
        | bad => exact fun p => p
        | exc c ds e5 => exact fun p => PostS.over (D := D) (r := .exc c ds e5) p t2 Agree.refl
        | ok fl e5 =>
          cases fl with
          | rt o => exact fun p => PostS.over (D := D) (r := .ok (.rt o) e5) p t2 Agree.refl
          | bk => exact fun p => PostS.over (D := D) (r := .ok .nx e5) p t2 Agree.refl
          | nx => exact fun p σ5 F5 H5 S5 t5 s5 a5 => ⟨e5, F5, S5, s5, PostS.over p (t2.trans t5) a5⟩
          | ct => exact fun p σ5 F5 H5 S5 t5 s5 a5 => ⟨e5, F5, S5, s5, PostS.over p (t2.trans t5) a5⟩
end
end PyD
end

section
set_option Elab.async false
set_option linter.all false
set_option maxRecDepth 100000
namespace PyD
open PySem L2 PySem.Spec PyProof.Rows

/-! ### defs -/
inductive FR where
  | ret (o : O) (outs : List O)
  | exc (c : Str) (ds : List D) (outs : List O)
  | bad
def PostF (K : PySem.W.Frag) (vs : List V) (F H : Hp) (T : List Addr) (Q : VK) (E : XK) : FR → Prop
  | .ret o outs => ∀ v F' H' T1 T2, Trans F H T F' H' (T1 ++ T2) → Owns K F' H' vs outs T2 → Own K F' H' v o T1 → Ex F' H' → (T1 ++ T2).Nodup → (∀ a ∈ T1 ++ T2, F' a = none) → Q v H'
  | .exc c ds outs => ∀ cls d F' H' T2, Trans F H T F' H' T2 → Owns K F' H' vs outs T2 → Ex F' H' → T2.Nodup → (∀ a ∈ T2, F' a = none) → ExcV K F' H' c ds cls d → E cls d H'
  | .bad => False
/-- the promise of a def that computes φ -/
def spF (K : PySem.W.Frag) (φ : List O → FR) (n : Nat) : Sp := fun vs H Q E => vs.length = n ∧ ∃ F os T, Ex F H ∧ Owns K F H vs os T ∧ T.Nodup ∧ (∀ a ∈ T, F a = none) ∧ PostF K vs F H T Q E (φ os)
/-! ### defs: the promise of a def, where no repr is under way around the call -/
structure RoomG (k : Nat) (A : Around) : Prop where
  r : Room k A
  gd : A.guards = some []
theorem RoomG.mono {j k : Nat} {A : Around} (h : RoomG k A) (le : j ≤ k) : RoomG j A := ⟨h.r.mono le, h.gd⟩
theorem RoomG.deeper {k : Nat} {A : Around} (h : RoomG (k + 1) A) (env : PySem.Env) : RoomG k (A.deeper env) := ⟨h.r.deeper env, h.gd⟩
structure FnG (P : Program) (w : World) (K : PySem.W.Frag) (mg : Str → Option Value) (base : Heap) (CX : CXT) (k : Nat) (f : Addr) (fd : FuncData) (ps : List Str) (sp : Sp) : Prop where
  len : ∀ {vs H Q E}, sp vs H Q E → vs.length = ps.length
  run : ∀ {A : Around} {outer : List PySem.Env} {s : Shared} {H : Hp} {args : Args} {us : List Value} {vs : List V} {Q : VK} {E : XK}, RoomG k A → Env0 P w K mg base A outer s H → BindsTo s fd args (ps.zip us) → Vals vs us → sp vs H Q E → codeAny (model P w) A (.call (.ref f) args) (CR CX outer P w H s Q E) s
theorem FnG.mono {P : Program} {w : World} {K : PySem.W.Frag} {mg : Str → Option Value} {base : Heap} {CX : CXT} {j k : Nat} {f : Addr} {fd : FuncData} {ps : List Str} {sp : Sp} (F : FnG P w K mg base CX j f fd ps sp) (h : j ≤ k) : FnG P w K mg base CX k f fd ps sp :=
  ⟨fun z => F.len z, fun r e b v z => F.run (r.mono h) e b v z⟩
/-! ### the entry of a def: a parameter that is no cell costs a token -/
section
variable {M : Model} {A : Around} {E : Value → Shared → Prop} {s₀ : Shared} {env : PySem.Env}
theorem storeL {x : Str} {v : Value} {s : Shared} {m cm : Str → Option Value} {Q : Unit → Shared → Prop} (born : InCallC s₀ env.locals m env.cells cm s) (isF : env.scope.kind = .function) (lo : env.kindOf x = some .local)
    (q : ∀ s', 1 ≤ s'.toks → InCallC s₀ env.locals (fun y => if y = x then some v else m y) env.cells cm s' → Q () s') : wpAny M A (storeName env x v) Q E s := by
  refine wpAny_storeName_local lo born.toInCall.ns (fun g hns same => q _ (by show 1 ≤ s.toks + 1; omega) ?_) (by rw [isF]; rfl)
  have below : ∀ {b : Addr} {o : Obj}, s₀.heap.get? b = some o → b ≠ env.locals := fun e => Nat.ne_of_lt (Nat.lt_of_lt_of_le (Heap.lt_size e) born.toInCall.fresh)
  obtain ⟨h₁, tk, e₁⟩ := born.toInCall.same
  refine ⟨⟨⟨g, s.toks + 1, by rw [e₁]⟩, hns, fun b o e => ?_, born.toInCall.fresh⟩, fun y c e => ?_, born.apart, born.above⟩
  · exact same.extBut b o (below e) (born.toInCall.keep b o e)
  · exact (born.cell y c e).sameBut same (Nat.ne_of_gt (born.above y c (PySem.mem_of_lookup e)))
theorem bindT (f : Str × Value → PUnit → Sem (ForInStep PUnit)) (hf : ∀ x v u, f (x, v) u = (do storeName env x v; pure (.yield ⟨⟩))) (isF : env.scope.kind = .function) :
    ∀ (bs : List (Str × Value)) (m cm : Str → Option Value) (s : Shared) (Q : PUnit → Shared → Prop), InCallC s₀ env.locals m env.cells cm s →
      (∀ x ∈ bs, env.kindOf x.1 = some .local ∨ (env.kindOf x.1 = some .cell ∧ (env.cells.lookup x.1).isSome = true)) →
      (∀ s', ((∃ x ∈ bs, env.kindOf x.1 = some .local) ∨ 1 ≤ s.toks → 1 ≤ s'.toks) → InCallC s₀ env.locals (bindL env.kindOf bs m) env.cells (bindC env.kindOf bs cm) s' → Q ⟨⟩ s') → wpAny M A (forIn bs ⟨⟩ f) Q E s := by
  intro bs
  induction bs with
  | nil =>
    intro m cm s Q born _ q
    rw [List.forIn_nil]
    exact wpAny_pure (q s (fun z => z.elim (fun ⟨_, e, _⟩ => nomatch e) id) born)
  | cons p r ih =>
    obtain ⟨x, v⟩ := p
    intro m cm s Q born kinds q
    rw [List.forIn_cons, hf]
    have kr := fun y (hy : y ∈ r) => kinds y (List.mem_cons_of_mem _ hy)
    rcases kinds (x, v) List.mem_cons_self with lo | ⟨ce, so⟩
    · refine wpAny_bind (wpAny_bind (storeL born isF lo fun s1 t1 b1 => wpAny_pure (ih _ _ s1 Q b1 kr fun s2 t2 b2 => q s2 (fun _ => t2 (.inr t1)) ?_)))
      simpa [bindL, bindC, lo] using b2
    · obtain ⟨c, ec⟩ := Option.isSome_iff_exists.mp so
      have nl : ¬ env.kindOf x = some .local := by rw [ce]; simp
      refine wpAny_bind (wpAny_bind (thn' (n := s.toks) (Nat.le_refl _) (stCC (Q := fun _ s1 => InCallC s₀ env.locals m env.cells (fun y => if y = x then some v else cm y) s1) born isF ce ec fun s1 b1 => b1) fun _ s1 t1 b1 => ?_))
      have less : (∃ y ∈ (x, v) :: r, env.kindOf y.1 = some .local) → ∃ y ∈ r, env.kindOf y.1 = some .local := by
        rintro ⟨y, my, ly⟩
        rcases List.mem_cons.mp my with rfl | my
        · exact (nl ly).elim
        · exact ⟨y, my, ly⟩
      refine wpAny_pure (ih _ _ s1 Q b1 kr fun s2 t2 b2 => q s2 (fun z => t2 (z.imp less fun h => Nat.le_trans h t1)) ?_)
      simpa [bindL, bindC, nl] using b2
theorem newEnvT {s : Shared} {scope : Scope} {globals : Addr} {bs : List (Str × Value)} {qual : Str} {func : Option Addr} {code : Value} {builtins : Addr} {Q : PySem.Env → Shared → Prop} (isF : scope.kind = .function)
    (kinds : ∀ x ∈ bs, scope.names.lookup x.1 = some .local ∨ (scope.names.lookup x.1 = some .cell ∧ ((cellsFrom (s.heap.objs.size + 1) scope.names []).lookup x.1).isSome = true))
    (q : ∀ env, env = newEnv scope s.heap.objs.size globals (cellsFrom (s.heap.objs.size + 1) scope.names []) qual func code none builtins →
      ∀ s', ((∃ x ∈ bs, scope.names.lookup x.1 = some .local) → 1 ≤ s'.toks) → InCallC s env.locals (bindL env.kindOf bs fun _ => none) env.cells (bindC env.kindOf bs fun _ => none) s' → Q env s') :
    wpAny M A (newFunctionEnv scope globals [] bs qual func code none builtins) Q E s := by
  simp only [newFunctionEnv, Option.isSome_none, Bool.false_eq_true, if_false]
  refine wpAny_bind (wpAny_alloc (wpAny_bind ?_))
  refine wpAny_layCells _ (fun y k cs => by cases e : k == NameKind.cell <;> simp [e]) _ _ _ _ ?_
  have good := cellsFrom_ok scope.names (s.heap.push { cls := .type "frame", data := .dict #[] }) (s.heap.objs.size + 1) [] ⟨fun _ _ z => (nomatch z), List.Pairwise.nil⟩ (by rw [Heap.size_push]; exact Nat.le_refl _)
  rw [Heap.size_push] at good
  rw [show ({ s with heap := s.heap.push { cls := .type "frame", data := .dict #[] } } : Shared).heap.objs.size = s.heap.objs.size + 1 from Heap.size_push ..]
  have born : InCallC s s.heap.objs.size (fun _ => none) (cellsFrom (s.heap.objs.size + 1) scope.names []) (fun _ => none) { s with heap := pushCells (s.heap.push { cls := .type "frame", data := .dict #[] }) scope.names } :=
    ⟨⟨⟨_, s.toks, rfl⟩, (Heap.Ns.new s.heap (.type "frame")).keeps (pushCells_keeps _ _), fun b o e => pushCells_keeps _ _ b o (Heap.get?_push_of_some _ e), Nat.le_refl _⟩, fun y c e => (good.empty y c (PySem.mem_of_lookup e)).1, good.apart, fun y c e => (good.empty y c e).2⟩
  refine wpAny_bind (bindT (s₀ := s) (env := newEnv scope s.heap.objs.size globals (cellsFrom (s.heap.objs.size + 1) scope.names []) qual func code none builtins) _ (fun _ _ _ => rfl) isF bs (fun _ => none) (fun _ => none) _ _ born kinds fun s1 t1 b1 => wpAny_pure (q _ rfl s1 (fun z => t1 (.inl z)) b1))
end
/-- m tokens are out when the body begins -/
def tokB (m : Nat) (scope : Scope) (ps : List Str) : Bool := match m with
  | 0 => true
  | 1 => ps.any fun p => decide (scope.names.lookup p = some .local)
  | _ => false
theorem tokB_ok {m : Nat} {scope : Scope} {ps : List Str} {us : List Value} {s : Shared} (h : tokB m scope ps = true) (hl : us.length = ps.length) (t : (∃ x ∈ ps.zip us, scope.names.lookup x.1 = some .local) → 1 ≤ s.toks) : m ≤ s.toks := by
  unfold tokB at h
  split at h
  · exact Nat.zero_le _
  · obtain ⟨p, mp, lp⟩ := List.any_eq_true.mp h
    obtain ⟨i, hi, rfl⟩ := List.getElem_of_mem mp
    refine t ⟨(ps[i], us[i]), ?_, of_decide_eq_true lp⟩
    exact List.mem_of_getElem? (i := i) (by simp [List.getElem?_zip_eq_some, hi, hl])
  · cases h
/-- the promise from the body -/
theorem fnG_of {CX : CXT} {P : Program} {w : World} {K : PySem.W.Frag} {mg : Str → Option Value} {base : Heap} {x qual : Str} {params : Arguments} {body : List Stmt} {scope : Scope} {dvs : List V} {kws : List (Str × V)} {f : Addr} {fd : FuncData} {N ps : List Str} {k m : Nat} {sp : Sp}
    (F : FunD K x qual params body scope dvs kws f fd) (S : FnScope N ps scope) (tb : tokB m scope ps = true) (len : ∀ {vs H Q E}, sp vs H Q E → vs.length = ps.length)
    (hbody : ∀ (cdv : Value) (A : Around) (outer : List PySem.Env) (s : Shared) (H : Hp) (vs : List V) (Q : VK) (E : XK), RoomG k (A.deeper (envOfC qual scope s.heap.objs.size f cdv)) → sp vs H Q E →
      wSs m (cxOf CX P w K mg base N qual scope f cdv A outer s H E) body { nx := fun _ H' => Q .non H', rt := Q } (start N vs) H) : FnG P w K mg base CX (k + 1) f fd ps sp := by
  obtain ⟨oc, od, dV, kV, doc, pm, an, cdv, ct, osl, rfl, look, inK, _, _⟩ := F.ex
  constructor
  · exact fun z => len z
  intro A outer s H args us vs Q E room e0 binds vals z
  have KX : K.In s.heap := e0.mod.kin.keeps fun b o e => (e0.bs b o e).1
  have kinds : ∀ y ∈ ps.zip us, scope.names.lookup y.1 = some .local ∨ (scope.names.lookup y.1 = some .cell ∧ ((cellsFrom (s.heap.objs.size + 1) scope.names []).lookup y.1).isSome = true) := by
    rintro ⟨n, v⟩ m
    exact (S.par n (List.of_mem_zip m).1).imp id fun q => ⟨q, PySem.W.cellsFrom_some _ _ _ (.inl q)⟩
  refine codeAny_call_function room.r.depth (KX _ _ look) rfl S.co S.gen rfl (PySem.W.codeRec_of KX inK) (binds _ _ _ _ ?_)
  refine newEnvT S.kind kinds ?_
  rintro env rfl s1 t1 born
  refine ⟨(e0.mod.nolimit.keeps fun b o e => (e0.bs b o e).1).keeps born.toInCall.keep, codeAny_func ?_⟩
  have walks := hbody cdv A outer s H vs Q E (room.deeper _) z
  have I0 : Inv (cxOf CX P w K mg base N qual scope f cdv A outer s H E) [] (start N vs) H s1 := inv_start S room.r.hd e0 (len z) vals born
  refine wpAny_mono (walks [] s1 (tokB_ok tb (by rw [← vals.length]; exact len z) t1) I0) ?_ fun _ _ bad => bad
  intro fl s' done
  cases fl with
  | ret u =>
    obtain ⟨v, _, H', J, same, q⟩ := done
    exact ⟨v, H', J.os, J.bare, J.base, J.hok, same, q⟩
  | next =>
    obtain ⟨_, H', J, q⟩ := done
    exact ⟨V.non, H', J.os, J.bare, J.base, J.hok, rfl, q⟩
  | brk => exact done.elim fun _ r => r.elim fun _ r => r.2.elim
  | cont => exact done.elim fun _ r => r.elim fun _ r => r.2.elim
section
variable {n : Nat} {X : Cx} {CX : CXT} {k : Nat} {f : Addr} {fd : FuncData} {ps : List Str} {sp : Sp} {E : L2.St → XK}
theorem run_fnG {pins : List (Addr × Obj)} {σ : L2.St} {H : Hp} {s : Shared} {Q : VK} {us : List Value} {vs : List V} (F : FnG X.prog X.w X.K X.mg X.base CX k f fd ps sp) (room : RoomG k X.A) (bind : Binds X.K fd ps []) (pass : PassesAt CX X σ (E σ)) (I : Inv X pins σ H s) (r : Vals vs us) (h : sp vs H Q (E σ)) :
    wpAny (model X.prog X.w) X.A (call (.ref f) us) (EP X pins σ Q) X.xe s := by
  have few : (us ++ []).length = ps.length := by
    rw [List.append_nil, ← r.length]
    exact F.len h
  have b := bind s us I.kIn few
  rw [List.append_nil] at b
  refine wpAny_call (codeAny_mono (F.run (args := ⟨us, []⟩) room I.env0 b r h) ?_)
  intro res s' got
  match res, got with
  | .error e, got => exact pass pins H s e s' I got
  | .ok (.ret u), got => exact I.after got
  | .ok .next, got => exact got.elim
  | .ok .brk, got => exact got.elim
  | .ok .cont, got => exact got.elim
def tCallG (sp : Sp) (E : L2.St → XK) (t : TA) : TE := fun σ H Q => t σ H fun vs H1 => sp vs H1 Q (E σ)
theorem wE_callG {n : Nat} {x : Str} {p pos : Pos} {e : Expr} {es : List Expr} (F : FnG X.prog X.w X.K X.mg X.base CX k f fd ps sp) (room : RoomG k X.A) (hg : Gl X x) (hm : X.mg x = some (.ref f)) (hk : PySem.W.keepIn X.K (.ref f) = true) (bind : Binds X.K fd ps []) (pass : ∀ σ, PassesAt CX X σ (E σ))
    (nodebug : (x == ("__debug__" : Str)) = false) (stars : starEach (e :: es) X.env = (false, eval e X.env) :: starEach es X.env) (nostar : (backTo pos (starEach es X.env)).any (·.1) = false) {σ : L2.St} {H : Hp} {Q : VK}
    (h : wA n X (e :: es) σ H fun vs H1 => sp vs H1 Q (E σ)) : wE n X (.Call (.Name x p) (e :: es) [] pos) σ H Q := wE_mk fun pins s hn I => by
  refine wpAny_Call_Name_kw (ld_glob I hg hm (PySem.W.callWith_K (h₀ := X.base) I.ok.mod.kin hk (thn (h pos pins s hn I) ?_) stars nostar) nodebug)
  rintro us s1 ⟨vs, H1, I1, r, q⟩
  exact ⟨I1.kIn, run_fnG F room bind (pass σ) I1 r q⟩
end
/-- a def that stands at the module's name x -/
structure Callee (P : Program) (w : World) (K : PySem.W.Frag) (mg : Str → Option Value) (base : Heap) (x : Str) (k : Nat) (ps : List Str) (φ : List O → FR) : Prop where
  ex : ∃ f fd, mg x = some (.ref f) ∧ PySem.W.keepIn K (.ref f) = true ∧ FnG P w K mg base (L2.CX P w) k f fd ps (spF K φ ps.length) ∧ Binds K fd ps []
/-- the operands handed over -/
def takeOps : List Opd → Env → Option (List O × Env)
  | [], e => some ([], e)
  | .t o :: r, e => (takeOps r e).map fun p => (o :: p.1, p.2)
  | .v i :: r, e => match e[i]? with
    | some (some (.fz d)) => (takeOps r e).map fun p => (.fz d :: p.1, p.2)
    | some (some o) => (takeOps r (e.set i none)).map fun p => (o :: p.1, p.2)
    | _ => none
/-- .. and given back -/
def putOps : List Opd → List O → Env → Env
  | .v i :: r, o :: os, e => (match e[i]? with
    | some none => putOps r os (e.set i (some o))
    | _ => putOps r os e)
  | .t _ :: r, _ :: os, e => putOps r os e
  | _, _, e => e
def eCall (φ : List O → FR) (f : Env → R (List Opd)) : Env → R O := fun env => match f env with
  | .ok ops e => (match takeOps ops e with
    | some (os, e2) => (match φ os with
      | .ret o outs => .ok o (putOps ops outs e2)
      | .exc c ds outs => .exc c ds (putOps ops outs e2)
      | .bad => .bad)
    | none => .bad)
  | .exc c ds e => .exc c ds e
  | .bad => .bad
section
variable {K : PySem.W.Frag} {F H : Hp} {σ : L2.St}
theorem takeOps_ok : ∀ {ops : List Opd} {env env2 : Env} {vs : List V} {os : List O} {T0 S : List Addr}, Slots K F H σ env S → OpdsV K F H σ vs ops T0 → takeOps ops env = some (os, env2) →
    ∃ T S2, Owns K F H vs os T ∧ Slots K F H σ env2 S2 ∧ (T ++ S2).Perm (T0 ++ S)
  | [], env, env2, _, os, _, S, sl, .nil, e => by
    simp [takeOps] at e
    obtain ⟨rfl, rfl⟩ := e
    exact ⟨[], S, .nil, sl, List.Perm.refl _⟩
  | .t o :: r, env, env2, _, os, _, S, sl, .t (fp := fp) (T := T) h q, e => by
    simp only [takeOps, Option.map_eq_some_iff] at e
    obtain ⟨⟨os', e'⟩, e1, e2⟩ := e
    obtain ⟨T', S2, h1, h2, h3⟩ := takeOps_ok sl q e1
    cases e2
    refine ⟨fp ++ T', S2, .cons h h1, h2, ?_⟩
    rw [List.append_assoc, List.append_assoc]
    exact List.Perm.append_left _ h3
  | .v i :: r, env, env2, _, os, T0, S, sl, .v (v := v) h q, e => by
    unfold takeOps at e
    split at e
    · rename_i d ho
      simp only [Option.map_eq_some_iff] at e
      obtain ⟨⟨os', e'⟩, e1, e2⟩ := e
      obtain ⟨v', fp, S0, hv, ow, _, _⟩ := sl.take ho
      rw [h] at hv
      cases hv
      obtain ⟨T', S2, h1, h2, h3⟩ := takeOps_ok sl q e1
      cases e2
      cases ow with
      | fz r => exact ⟨[] ++ T', S2, .cons (.fz r) h1, h2, h3⟩
    · rename_i o hn ho
      simp only [Option.map_eq_some_iff] at e
      obtain ⟨⟨os', e'⟩, e1, e2⟩ := e
      obtain ⟨v', fp, S0, hv, ow, pm, sl0⟩ := sl.take ho
      rw [h] at hv
      cases hv
      obtain ⟨T', S2, h1, h2, h3⟩ := takeOps_ok sl0 q e1
      cases e2
      refine ⟨fp ++ T', S2, .cons ow h1, h2, ?_⟩
      have p1 : (fp ++ T' ++ S2).Perm (fp ++ (T0 ++ S0)) := by
        rw [List.append_assoc]
        exact List.Perm.append_left _ h3
      have p2 : (fp ++ (T0 ++ S0)).Perm (T0 ++ (fp ++ S0)) := by
        rw [← List.append_assoc, ← List.append_assoc]
        exact List.Perm.append_right _ List.perm_append_comm
      exact p1.trans (p2.trans (List.Perm.append_left _ pm))
    · cases e
theorem putOps_ok : ∀ {ops : List Opd} {env : Env} {vs : List V} {outs : List O} {T S : List Addr} {T0 : List Addr} {F0 H0 : Hp}, Slots K F H σ env S → OpdsV K F0 H0 σ vs ops T0 → Owns K F H vs outs T → (T ++ S).Nodup →
    ∃ S3, Slots K F H σ (putOps ops outs env) S3 ∧ S3.Nodup ∧ ∀ a ∈ S3, a ∈ T ++ S
  | [], env, _, outs, T, S, _, _, _, sl, .nil, ow, nd => by
    cases ow
    exact ⟨S, by simpa [putOps] using sl, by simpa using nd, fun a m => by simpa using m⟩
  | .t o :: r, env, _, _, _, S, _, _, _, sl, .t h q, .cons (fp := fp) (fq := fq) a b, nd => by
    obtain ⟨S3, h1, h2, h3⟩ := putOps_ok sl q b (nd.sublist (by rw [List.append_assoc]; exact List.sublist_append_right _ _))
    refine ⟨S3, by simpa [putOps] using h1, h2, fun x m => ?_⟩
    rw [List.append_assoc]
    exact List.mem_append_right _ (h3 x m)
  | .v i :: r, env, _, _, _, S, _, _, _, sl, .v h q, .cons (o := o) (os := os) (fp := fp) (fq := fq) a b, nd => by
    unfold putOps
    split
    · rename_i he
      obtain ⟨S', h1, h2⟩ := sl.putBack he h a
      have nd2 : (fq ++ S').Nodup := by
        have p : (fq ++ S').Perm (fp ++ fq ++ S) := by
          refine (List.Perm.append_left fq h2).trans ?_
          rw [← List.append_assoc]
          exact List.Perm.append_right _ List.perm_append_comm
        exact p.nodup_iff.mpr nd
      obtain ⟨S3, k1, k2, k3⟩ := putOps_ok h1 q b nd2
      refine ⟨S3, k1, k2, fun x m => ?_⟩
      rw [List.append_assoc]
      rcases List.mem_append.mp (k3 x m) with n | n
      · exact List.mem_append_right _ (List.mem_append_left _ n)
      · rcases List.mem_append.mp (h2.mem_iff.mp n) with n | n
        · exact List.mem_append_left _ n
        · exact List.mem_append_right _ (List.mem_append_right _ n)
    · obtain ⟨S3, h1, h2, h3⟩ := putOps_ok sl q b (nd.sublist (by rw [List.append_assoc]; exact List.sublist_append_right _ _))
      refine ⟨S3, h1, h2, fun x m => ?_⟩
      rw [List.append_assoc]
      exact List.mem_append_right _ (h3 x m)
end
section
variable {n : Nat} {X : Cx}
/-- the values are in hand: the def's promise is asked -/
theorem call_post {W : WX} {φ : List O → FR} {ops : List Opd} {e : Env} {σ : L2.St} {F H F1 H1 : Hp} {S S1 T : List Addr} {vs : List V} {Q : VK} {n : Nat} (hn : vs.length = n) (tr : Trans F H S F1 H1 (T ++ S1)) (s : Stp X.K F1 H1 σ e S1 vs ops T)
    (q : PostE X W σ F H S Q (match takeOps ops e with
      | some (os, e2) => (match φ os with
        | .ret o outs => .ok o (putOps ops outs e2)
        | .exc c ds outs => .exc c ds (putOps ops outs e2)
        | .bad => .bad)
      | none => .bad)) : spF X.K φ n vs H1 Q (WE W σ) := by
  refine ⟨hn, ?_⟩
  cases ht : takeOps ops e with
  | none => rw [ht] at q; exact q.elim
  | some p =>
    obtain ⟨os, e2⟩ := p
    rw [ht] at q
    obtain ⟨T', S2, ow, sl, pm⟩ := takeOps_ok s.st.own s.val ht
    have nd : (T' ++ S2).Nodup := pm.nodup_iff.mpr (List.nodup_append.mpr ⟨s.nd, s.st.nd, fun a m b n z => s.as.ns a m (z ▸ n)⟩)
    have nd' := List.nodup_append.mp nd
    have nf : ∀ a ∈ T' ++ S2, F1 a = none := fun a m => (List.mem_append.mp (pm.mem_iff.mp m)).elim (s.as.nf a) (s.st.sep a)
    have as2 : Aside F1 H1 T' S2 := ⟨fun a m n => nd'.2.2 a n a m rfl, fun a m => nf a (List.mem_append_right _ m), fun a m => sl.live a m⟩
    have tr1 : Trans F H S F1 H1 (T' ++ S2) := tr.sub fun a m => pm.mem_iff.mp m
    refine ⟨F1, os, T', s.st.sub, ow, nd'.1, fun a m => nf a (List.mem_append_left _ m), ?_⟩
    have wide : ∀ {F' H' : Hp} {U : List Addr}, Trans F1 H1 T' F' H' U → Trans F1 H1 (T' ++ S2) F' H' (U ++ S2) := fun {F' H' U} t =>
      ⟨fun a u e m => t.fr a u e fun z => m (List.mem_append_left _ z), t.ff, fun a u e => (t.fn a u e).imp_right fun z => z.imp_left fun y => List.mem_append_left _ y, fun a m => (List.mem_append.mp m).elim (fun z => (t.sn a z).imp_left fun y => List.mem_append_left _ y) fun z => .inl (List.mem_append_right _ z), t.dm⟩
    revert q
    show PostE X W σ F H S Q (match φ os with
        | .ret o outs => .ok o (putOps ops outs e2)
        | .exc c ds outs => .exc c ds (putOps ops outs e2)
        | .bad => .bad) → _
    cases φ os with
    | bad => exact fun q => q
    | ret o outs =>
      intro q v F2 H2 T1 T2 t2 ow2 ov sb nd2 nf2
      have sl2 : Slots X.K F2 H2 σ e2 S2 := sl.over as2 t2
      have as3 := as2.over t2
      have nd3 := List.nodup_append.mp nd2
      have ndS : (T2 ++ S2).Nodup := List.nodup_append.mpr ⟨nd3.2.1, nd'.2.1, fun a m b n z => as3.ns a (z ▸ n) (List.mem_append_right _ m)⟩
      obtain ⟨S3, h1, h2, h3⟩ := putOps_ok sl2 s.val ow2 ndS
      have t3 := tr1.trans (wide t2)
      refine q v F2 H2 S3 T1 (t3.sub fun a m => ?_) (sta_one ⟨h1, sb, h2, fun a m => ?_⟩ ov nd3.1 ⟨fun a m n => ?_, fun a m => nf2 a (List.mem_append_left _ m), fun a m => ov.live a m⟩)
      · rw [List.append_assoc]
        rcases List.mem_append.mp m with m | m
        · exact List.mem_append_left _ m
        · exact List.mem_append_right _ (h3 a m)
      · rcases List.mem_append.mp (h3 a m) with n | n
        · exact nf2 a (List.mem_append_right _ n)
        · exact as3.nf a n
      · rcases List.mem_append.mp (h3 a n) with n | n
        · exact nd3.2.2 a m a n rfl
        · exact as3.ns a n (List.mem_append_left _ m)
    | exc c ds outs =>
      intro q cls d F2 H2 T2 t2 ow2 sb nd2 nf2 x
      have sl2 : Slots X.K F2 H2 σ e2 S2 := sl.over as2 t2
      have as3 := as2.over t2
      have ndS : (T2 ++ S2).Nodup := List.nodup_append.mpr ⟨nd2, nd'.2.1, fun a m b n z => as3.ns a (z ▸ n) m⟩
      obtain ⟨S3, h1, h2, h3⟩ := putOps_ok sl2 s.val ow2 ndS
      have t3 := tr1.trans (wide t2)
      refine q cls d F2 H2 S3 (t3.sub h3) ⟨h1, sb, h2, fun a m => ?_⟩ x
      rcases List.mem_append.mp (h3 a m) with n | n
      · exact nf2 a n
      · exact as3.nf a n
theorem wL_mono : ∀ {es : List Expr} {σ : L2.St} {H : Hp} {Q Q' : List V → Hp → Prop}, wL n X es σ H Q → (∀ vs H', Q vs H' → Q' vs H') → wL n X es σ H Q'
  | [], _, _, _, _, h, q => q _ _ h
  | _ :: _, _, _, _, _, h, q => wE_mono h fun v H1 h1 => wL_mono h1 fun vs H2 h2 => q _ _ h2
theorem wL_len : ∀ {es : List Expr} {σ : L2.St} {H : Hp} {Q : List V → Hp → Prop}, wL n X es σ H (fun vs H1 => vs.length = es.length → Q vs H1) → wL n X es σ H Q
  | [], _, _, _, h => h rfl
  | _ :: _, _, _, _, h => wE_mono h fun v H1 h1 => wL_len (wL_mono h1 fun vs H2 h2 e => h2 (by simp [e]))
theorem OpdsV.len {K : PySem.W.Frag} {F H : Hp} {σ : L2.St} : ∀ {vs ops T}, OpdsV K F H σ vs ops T → vs.length = ops.length
  | _, _, _, .nil => rfl
  | _, _, _, .v _ r => by simp [OpdsV.len r]
  | _, _, _, .t _ r => by simp [OpdsV.len r]
theorem snd_call {x : Str} {e : Expr} {es : List Expr} {f : Env → R (List Opd)} {p pos : Pos} {k : Nat} {ps : List Str} {φ : List O → FR} (C : Callee X.prog X.w X.K X.mg X.base x k ps φ) (hr : RoomG k X.A) (hg : Gl X x) (h : SndL n X (e :: es) f) (pl : Plain X (e :: es))
    (hn : (e :: es).length = ps.length := by rfl) (hpl : (backTo pos (starEach es X.env)).any (·.1) = false := by rfl) (hdb : (x == ("__debug__" : Str)) = false := by decide) : SndE n X (.Call (.Name x p) (e :: es) [] pos) (eCall φ f) := by
  refine .mk fun W tk env σ F H S Q st q => ?_
  obtain ⟨fa, fd, hm, hk, ok, hb⟩ := C.ex
  refine wE_callG (E := WE W) ok hr hg hm hk hb (fun σ => passAt tk σ) hdb pl.1 hpl ?_
  refine wA_L pl (wL_len (h.run W tk env σ F H S _ st ?_))
  unfold eCall at q
  revert q
  cases f env with
  | exc c ds e => exact fun q => q
  | bad => exact fun q => q
  | ok ops e1 =>
    intro q vs F1 H1 S1 T tr s hl
    exact call_post (hl.trans hn) tr s q
theorem snd_call0 {x : Str} {p pos : Pos} {k : Nat} {φ : List O → FR} (C : Callee X.prog X.w X.K X.mg X.base x k [] φ) (hr : RoomG k X.A) (hg : Gl X x) (hdb : (x == ("__debug__" : Str)) = false := by decide) : SndE n X (.Call (.Name x p) [] [] pos) (eCall φ oNil) := by
  refine .mk fun W tk env σ F H S Q st q => ?_
  obtain ⟨fa, fd, hm, hk, ok, hb⟩ := C.ex
  refine wE_mk fun pins s hn I => wpAny_Call_Name_kw (ld_glob I hg hm ?_ hdb)
  refine PySem.W.callWith_K0 I.kIn hk ?_
  refine run_fnG (us := []) (vs := []) (E := WE W) ok hr hb (passAt tk σ) I .nil ?_
  exact call_post (T := []) rfl Trans.refl (Stp.of st) q
end

/-! ### a def by its body -/
/-- the values at the entry: a parameter that the body stores to is frozen -/
def entryO : List Bool → List O → List O
  | true :: r, o :: os => .fz o.erase :: entryO r os
  | false :: r, o :: os => o :: entryO r os
  | _, _ => []
/-- what the parameters are at the end -/
def outsO : List Bool → List O → Env → Option (List O)
  | [], [], _ => some []
  | true :: r, o :: os, _ :: e => (outsO r os e).map (.fz o.erase :: ·)
  | false :: r, _ :: os, some o' :: e => (outsO r os e).map (o' :: ·)
  | _, _, _ => none
/-- a def of the parameters told by reb (whether the body stores to them), with n more names -/
def fnSem (reb : List Bool) (n : Nat) (body : Env → R Fl) : List O → FR := fun os =>
  if os.length = reb.length then
    match body ((entryO reb os).map some ++ List.replicate n none) with
    | .ok (.rt o) e => (match outsO reb os e with
      | some outs => .ret o outs
      | none => .bad)
    | .ok .nx e => (match outsO reb os e with
      | some outs => .ret (.fz .non) outs
      | none => .bad)
    | .exc c ds e => (match outsO reb os e with
      | some outs => .exc c ds outs
      | none => .bad)
    | _ => .bad
  else .bad
def prOf (reb : List Bool) : Nat → Bool := fun i => reb[i]? == some false
section
variable {K : PySem.W.Frag} {F H : Hp}
theorem entry_ok : ∀ {reb : List Bool} {os : List O} {vs : List V} {T : List Addr} {F : Hp}, os.length = reb.length → Ex F H → Owns K F H vs os T → T.Nodup → (∀ a ∈ T, F a = none) →
    ∃ F' T', Trans F H T F' H T' ∧ Owns K F' H vs (entryO reb os) T' ∧ Ex F' H ∧ T'.Nodup ∧ (∀ a ∈ T', F' a = none) ∧ (∀ a ∈ T', a ∈ T) ∧ ∀ (i : Nat) (o : O) (v : V), reb[i]? = some true → os[i]? = some o → vs[i]? = some v → Rep K F' v o.erase
  | [], [], _, _, F, _, s, .nil, nd, nf => ⟨F, [], Trans.refl, .nil, s, nd, nf, fun a m => m, fun i o v h => by simp at h⟩
  | true :: reb, o :: os, _, _, F, hl, s, .cons (v := v) (fp := fp) (fq := fq) a b, nd, nf => by
    have nd' := List.nodup_append.mp nd
    have nf1 : ∀ x ∈ fp, F x = none := fun x m => nf x (List.mem_append_left _ m)
    have rp : Rep K (frz F H fp) v o.erase := a.freeze (frz_ex nf1) fun x m u e => by rw [frz_in m]; exact e
    have nf2 : ∀ x ∈ fq, frz F H fp x = none := fun x m => by
      rw [frz_out fun n => nd'.2.2 x n x m rfl]
      exact nf x (List.mem_append_right _ m)
    obtain ⟨F', T', t, ow, sb, ndT, nfT, mem, rr⟩ := entry_ok (reb := reb) (by simpa using hl) (frz_sub s) (b.keep (frz_ex nf1) fun _ _ _ e => e) nd'.2.1 nf2
    refine ⟨F', T', (frz_trans (S := fq) nf1).trans t, .cons (fp := []) (.fz (rp.mono t.ff)) ow, sb, ndT, nfT, fun x m => List.mem_append_right _ (mem x m), fun i o' v' h1 h2 h3 => ?_⟩
    cases i with
    | zero =>
      simp at h2 h3
      subst h2 h3
      exact rp.mono t.ff
    | succ i => exact rr i o' v' (by simpa using h1) (by simpa using h2) (by simpa using h3)
  | false :: reb, o :: os, _, _, F, hl, s, .cons (v := v) (fp := fp) (fq := fq) a b, nd, nf => by
    have nd' := List.nodup_append.mp nd
    obtain ⟨F', T', t, ow, sb, ndT, nfT, mem, rr⟩ := entry_ok (reb := reb) (by simpa using hl) s b nd'.2.1 fun x m => nf x (List.mem_append_right _ m)
    have as : Aside F H fq fp := ⟨fun x m n => nd'.2.2 x m x n rfl, fun x m => nf x (List.mem_append_left _ m), fun x m => a.live x m⟩
    have as' := as.over t
    refine ⟨F', fp ++ T', ⟨fun x u e n => e, t.ff, fun x u e => (t.fn x u e).imp_right fun z => z.imp_left fun y => List.mem_append_right _ y, fun x m => ?_, t.dm⟩, .cons (a.over as t) ow, sb, ?_, fun x m => ?_, fun x m => ?_, fun i o' v' h1 h2 h3 => ?_⟩
    · rcases List.mem_append.mp m with m | m
      · exact .inl (List.mem_append_left _ m)
      · exact (t.sn x m).imp_left fun y => List.mem_append_right _ y
    · exact List.nodup_append.mpr ⟨nd'.1, ndT, fun x m y n z => nd'.2.2 x m y (mem y n) z⟩
    · rcases List.mem_append.mp m with m | m
      · exact as'.nf x m
      · exact nfT x m
    · rcases List.mem_append.mp m with m | m
      · exact List.mem_append_left _ m
      · exact List.mem_append_right _ (mem x m)
    · cases i with
      | zero => simp at h1
      | succ i => exact rr i o' v' (by simpa using h1) (by simpa using h2) (by simpa using h3)
theorem slots_of : ∀ {vs : List V} {os : List O} {T : List Addr}, Owns K F H vs os T → ∀ n, Slots K F H (vs.map some ++ List.replicate n none) (os.map some ++ List.replicate n none) T
  | _, _, _, .nil, n => by
    induction n with
    | zero => exact .nil
    | succ n ih => exact .no ih
  | _, _, _, .cons a b, n => .yes a (slots_of b n)
theorem outs_ok {F' H' : Hp} : ∀ {reb : List Bool} {os outs : List O} {vs : List V} {σ' : L2.St} {env' : Env} {S' : List Addr}, vs.length = reb.length → Slots K F' H' σ' env' S' → outsO reb os env' = some outs →
    (∀ (i : Nat) (v : V), reb[i]? = some false → vs[i]? = some v → σ'[i]? = some (some v)) → (∀ (i : Nat) (o : O) (v : V), reb[i]? = some true → os[i]? = some o → vs[i]? = some v → Rep K F' v o.erase) → ∃ T2, Owns K F' H' vs outs T2 ∧ T2.Sublist S'
  | [], [], outs, [], _, _, S', _, sl, e, _, _ => by
    simp [outsO] at e
    subst e
    exact ⟨[], .nil, List.nil_sublist _⟩
  | [], _ :: _, outs, _, _, _, _, _, sl, e, _, _ => by simp [outsO] at e
  | b :: reb, [], outs, _, _, _, _, _, sl, e, _, _ => by cases b <;> simp [outsO] at e
  | true :: reb, o :: os, outs, v :: vs, _, [], S', hl, sl, e, h1, h2 => by simp [outsO] at e
  | true :: reb, o :: os, outs, v :: vs, _, none :: env', S', hl, .no sl, e, h1, h2 => by
    simp only [outsO, Option.map_eq_some_iff] at e
    obtain ⟨outs', e1, rfl⟩ := e
    obtain ⟨T2, ow, sb⟩ := outs_ok (by simpa using hl) sl e1 (fun i v k1 k2 => by simpa using h1 (i + 1) v (by simpa using k1) (by simpa using k2)) fun i o v k1 k2 k3 => h2 (i + 1) o v (by simpa using k1) (by simpa using k2) (by simpa using k3)
    exact ⟨T2, .cons (fp := []) (.fz (h2 0 o v rfl rfl rfl)) ow, sb⟩
  | true :: reb, o :: os, outs, v :: vs, _, some _ :: env', _, hl, .yes (fp := fq) q sl, e, h1, h2 => by
    simp only [outsO, Option.map_eq_some_iff] at e
    obtain ⟨outs', e1, rfl⟩ := e
    obtain ⟨T2, ow, sb⟩ := outs_ok (by simpa using hl) sl e1 (fun i v k1 k2 => by simpa using h1 (i + 1) v (by simpa using k1) (by simpa using k2)) fun i o v k1 k2 k3 => h2 (i + 1) o v (by simpa using k1) (by simpa using k2) (by simpa using k3)
    exact ⟨T2, .cons (fp := []) (.fz (h2 0 o v rfl rfl rfl)) ow, sb.trans (List.sublist_append_right _ _)⟩
  | false :: reb, o :: os, outs, v :: vs, _, [], S', hl, sl, e, h1, h2 => by simp [outsO] at e
  | false :: reb, o :: os, outs, v :: vs, _, none :: env', S', hl, sl, e, h1, h2 => by simp [outsO] at e
  | false :: reb, o :: os, outs, v :: vs, _, some o' :: env', _, hl, .yes (v := v') (fp := fq) q sl, e, h1, h2 => by
    simp only [outsO, Option.map_eq_some_iff] at e
    obtain ⟨outs', e1, rfl⟩ := e
    obtain ⟨T2, ow, sb⟩ := outs_ok (by simpa using hl) sl e1 (fun i v k1 k2 => by simpa using h1 (i + 1) v (by simpa using k1) (by simpa using k2)) fun i o v k1 k2 k3 => h2 (i + 1) o v (by simpa using k1) (by simpa using k2) (by simpa using k3)
    have ev := h1 0 v rfl rfl
    simp at ev
    subst ev
    exact ⟨fq ++ T2, .cons q ow, List.Sublist.append (List.Sublist.refl _) sb⟩
theorem start_eq (N : List Str) (vs : List V) : L2.start N vs = vs.map some ++ List.replicate (N.length - vs.length) none := rfl
theorem entryO_len : ∀ {reb : List Bool} {os : List O}, os.length = reb.length → (entryO reb os).length = os.length
  | [], [], _ => rfl
  | true :: r, o :: os, h => by simp [entryO, entryO_len (reb := r) (os := os) (by simpa using h)]
  | false :: r, o :: os, h => by simp [entryO, entryO_len (reb := r) (os := os) (by simpa using h)]
/-- THE RULE: the body does g, so the def computes fnSem -/
theorem body_post {X : Cx} {reb : List Bool} {m n : Nat} {body : List Stmt} {g : Env → R Fl} {E : XK} (hb : SndSs m X (prOf reb) body g) (tk : Takes X (fun cls d _ H => E cls d H)) {vs : List V} {H : Hp} {Q : VK} (h : spF X.K (fnSem reb n g) reb.length vs H Q E) :
    wSs m X body { nx := fun _ H' => Q .non H', rt := Q } (vs.map some ++ List.replicate n none) H := by
  obtain ⟨hl, F, os, T, sb, ow, nd, nf, p⟩ := h
  have hos : os.length = reb.length := by rw [← ow.length, hl]
  obtain ⟨F1, T1, t1, ow1, sb1, nd1, nf1, mem1, rr⟩ := entry_ok hos sb ow nd nf
  refine hb.run _ tk _ _ F1 H T1 _ ⟨slots_of ow1 n, sb1, nd1, nf1⟩ ?_
  unfold fnSem at p
  rw [if_pos hos] at p
  have outsE : ∀ {σ' : L2.St} {F' H' : Hp} {S' : List Addr} {env' : Env} {outs : List O}, Trans F1 H T1 F' H' S' → Stt X.K F' H' σ' env' S' → Agree (prOf reb) (vs.map some ++ List.replicate n none) σ' → outsO reb os env' = some outs → ∃ T2, Owns X.K F' H' vs outs T2 ∧ T2.Sublist S' := fun {σ' F' H' S' env' outs} t s a e =>
    outs_ok (by rw [hl]) s.own e (fun i v k1 k2 => by
      rw [a.2 i (by simp [prOf, k1])]
      rw [List.getElem?_append_left (by have := (List.getElem?_eq_some_iff.mp k2).1; simpa using this), List.getElem?_map, k2]
      rfl) fun i o v k1 k2 k3 => (rr i o v k1 k2 k3).mono t.ff
  revert p
  generalize hr : g ((entryO reb os).map some ++ List.replicate n none) = r
  cases r with
  | bad => exact fun p => p
  | exc c ds e =>
    show PostF X.K vs F H T Q E (match outsO reb os e with
      | some outs => .exc c ds outs
      | none => .bad) → _
    cases ho : outsO reb os e with
    | none => exact fun p => p.elim
    | some outs =>
      intro p σ' cls d F' H' S' t s a x
      obtain ⟨T2, ow2, sb2⟩ := outsE t s a ho
      exact p cls d F' H' T2 ((t1.trans t).sub sb2.subset) ow2 s.sub (s.nd.sublist sb2) (fun a m => s.sep a (sb2.subset m)) x
  | ok fl e =>
    cases fl with
    | bk => exact fun p => p.elim
    | ct => exact fun p => p.elim
    | nx =>
      show PostF X.K vs F H T Q E (match outsO reb os e with
        | some outs => .ret (.fz .non) outs
        | none => .bad) → _
      cases ho : outsO reb os e with
      | none => exact fun p => p.elim
      | some outs =>
        intro p σ' F' H' S' t s a
        obtain ⟨T2, ow2, sb2⟩ := outsE t s a ho
        exact p .non F' H' [] T2 ((t1.trans t).sub sb2.subset) ow2 (.fz .non) s.sub (s.nd.sublist sb2) (fun a m => s.sep a (sb2.subset m))
    | rt o =>
      show PostF X.K vs F H T Q E (match outsO reb os e with
        | some outs => .ret o outs
        | none => .bad) → _
      cases ho : outsO reb os e with
      | none => exact fun p => p.elim
      | some outs =>
        intro p v σ' F' H' S' T3 t s a
        obtain ⟨T2, ow2, sb2⟩ := outsE (t.sub fun x m => List.mem_append_right _ m) s.st a ho
        have sub : (T3 ++ T2).Sublist (T3 ++ S') := List.Sublist.append (List.Sublist.refl _) sb2
        have nd3 : (T3 ++ S').Nodup := List.nodup_append.mpr ⟨s.nd, s.st.nd, fun x m y n z => s.as.ns x m (z ▸ n)⟩
        exact p v F' H' T3 T2 ((t1.trans t).sub sub.subset) ow2 s.one s.st.sub (nd3.sublist sub) fun x m => (List.mem_append.mp (sub.subset m)).elim (s.as.nf x) (s.st.sep x)
end
end PyD
end

section
set_option Elab.async false
set_option linter.all false
set_option maxRecDepth 100000
namespace PyD
open PySem L2 PySem.Spec PyProof.Rows

/-- the bound of lists and texts that are made -/
def LIM : Nat := 1000000
theorem lim_line {n : Nat} (h : n ≤ LIM) : n ≤ sizeLine := Nat.le_trans h (by decide)
/-- the bound of factors and bases -/
def BIG : Nat := 2 ^ 400000
theorem big_wide {i : Int} (h : i.natAbs < BIG) : i.natAbs < 2 ^ 400000 := h

section
variable {n : Nat} {X : Cx} {K : PySem.W.Frag} {F H : Hp}
/-! ### new objects -/
theorem tr_new {o : HO} {p : Addr} (s : Ex F H) (hp : H p = none) : Trans F H [] F (upd H p o) [p] :=
  ⟨fun a u e _ => Ex.new hp a u e, Ex.refl _, fun a u e => .inl ⟨u, e⟩, fun a m => .inr (by simp at m; subst m; exact hp), fun a e => by
    by_cases h : a = p
    · subst h; exact hp
    · rw [upd_ne h] at e; exact e⟩
theorem Ex.none {a : Addr} (s : Ex F H) (h : H a = none) : F a = none := by
  cases e : F a with
  | none => rfl
  | some o => rw [s a o e] at h; cases h
theorem owns_fz {H' : Hp} : ∀ {vs ds}, Reps K F vs ds → Owns K F H' vs (ds.map O.fz) []
  | _, _, .nil => .nil
  | _, _, .cons h r => .cons (fp := []) (fq := []) (.fz h) (owns_fz r)
theorem ownK_fz {H' : Hp} : ∀ {vs ds}, RepK K F vs ds → OwnK K F H' vs (ds.map fun p => (p.1, O.fz p.2)) []
  | _, _, .nil => .nil
  | _, _, .cons k h r => .cons (fp := []) (fq := []) k (.fz h) (ownK_fz r)
/-- a result that is a new list of known values -/
theorem new_lst {vs : List V} {ds : List D} {p : Addr} {Q : VK} (s : Ex F H) (r : Reps K F vs ds) (hp : H p = none)
    (q : ∀ v F' H' T, Trans F H [] F' H' T → Own K F' H' v (.lst (ds.map O.fz)) T → Ex F' H' → T.Nodup → (∀ a ∈ T, F' a = none) → Q v H') : Q (.ref p) (upd H p (.lst vs)) :=
  q _ F _ [p] (tr_new s hp) (.lst upd_same (owns_fz r)) (s.trans (Ex.new hp)) (by simp) fun a m => by simp at m; subst m; exact s.none hp
theorem new_tup {vs : List V} {ds : List D} {p : Addr} {Q : VK} (s : Ex F H) (r : Reps K F vs ds) (hp : H p = none)
    (q : ∀ v F' H' T, Trans F H [] F' H' T → Own K F' H' v (.tup (ds.map O.fz)) T → Ex F' H' → T.Nodup → (∀ a ∈ T, F' a = none) → Q v H') : Q (.ref p) (upd H p (.tup vs)) :=
  q _ F _ [p] (tr_new s hp) (.tup upd_same (owns_fz r)) (s.trans (Ex.new hp)) (by simp) fun a m => by simp at m; subst m; exact s.none hp
/-- a result that stands already -/
theorem old_val {v : V} {d : D} {Q : VK} (s : Ex F H) (r : Rep K F v d)
    (q : ∀ v F' H' T, Trans F H [] F' H' T → Own K F' H' v (.fz d) T → Ex F' H' → T.Nodup → (∀ a ∈ T, F' a = none) → Q v H') : Q v H :=
  q _ F _ [] Trans.refl (.fz r) s (by simp) (fun a m => by cases m)

/-! ### a op b -/
def r2 (r : R2) : List V → Hp → VK → Prop := fun vs H Q => ∃ x y, vs = [x, y] ∧ r x y H Q
theorem wL2 {a b : Expr} {σ : L2.St} {H : Hp} {r : R2} {Q : VK} (h : wL n X [a, b] σ H fun vs H1 => r2 r vs H1 Q) : wE n X a σ H fun x H1 => wE n X b σ H1 fun y H2 => r x y H2 Q := by
  refine wE_mono h fun x H1 h1 => wE_mono h1 fun y H2 h2 => ?_
  obtain ⟨x', y', e, q⟩ := h2
  cases e
  exact q
theorem wE_op {op : Operator} {r : R2} {a b : Expr} {pos : Pos} (ho : OpR X (binaryOp op) r) (σ : L2.St) (H : Hp) (Q : VK) (h : wL n X [a, b] σ H fun vs H1 => r2 r vs H1 Q) : wE n X (.BinOp a op b pos) σ H Q := by
  exact wE_mk fun pins s hn I => wpAny_BinOp (wE_bin (wL2 h) hn I fun v u s2 x y H2 _ I2 a1 a2 q => ho pins s2 σ H2 x y v u Q I2 a1 a2 q)
theorem OpR.or {f : Value → Value → Sem Value} {r r' : R2} (h : OpR X f r) (h' : OpR X f r') : OpR X f (fun x y H Q => r x y H Q ∨ r' x y H Q) := fun pins s σ H x y v u Q I rx ry q =>
  q.elim (h pins s σ H x y v u Q I rx ry) (h' pins s σ H x y v u Q I rx ry)
/-- a list that is read, as an object -/
theorem rdL {pins : List (Addr × Obj)} {σ : L2.St} {s : Shared} {l : Addr} {xs : List V} (I : Inv X pins σ H s) (hH : SqL X.K H l xs) :
    xs.length ≤ sizeLine ∧ ∃ (its : List Value) (n : Nat) (sl : Array (Option Value)), Vals xs its ∧ xs.length = its.length ∧ s.heap.get? l = some { cls := .type "list", data := .seq its.toArray n, slots := sl } := by
  obtain ⟨its, r, ⟨⟨cls, dd, data, sl⟩, n, ho, hc, hd, hs⟩, z⟩ := I.list hH
  simp only at hc hd hs
  subst hc hd hs
  exact ⟨z, its, n, sl, r, r.length, ho⟩
theorem meets_addL (l b : Addr) (its js : Array Value) (n m : Nat) (sl sk : Array (Option Value)) (few : its.size + js.size ≤ sizeLine) :
    Meets (Builtin.«list.__add__» ⟨[.ref l, .ref b], []⟩) (fun _ R s => s.heap.get? l = some { cls := .type "list", dict := none, data := .seq its n, slots := sl } ∧
      s.heap.get? b = some { cls := .type "list", dict := none, data := .seq js m, slots := sk } ∧ R (.ok (.ret (Value.ref s.heap.objs.size))) { s with heap := s.heap.push { cls := Value.type "list", data := Data.seq (its ++ js) }, toks := s.toks }) :=
  .of_wp fun prog w A R s h => by
    obtain ⟨hp, g, d, tk, os⟩ := s
    obtain ⟨hl, hb, h⟩ := h
    have f1 := AutoSeq1.idx_int
    have f2 := AutoSeq1.sub_tuple_tuple
    have f3 := AutoSeq1.sub_list_list
    have f4 := AutoSeq1.sub_tuple_list
    have f5 := AutoSeq1.sub_list_tuple
    wp_walk using AutoSeq1.wpAny_loadPart' hl, AutoSeq1.wpAny_loadPart' hb
    exact ⟨_, rfl, h⟩
def rCat' (K : PySem.W.Frag) : R2 := fun x y H Q => ∃ l b xs zs, x = .ref l ∧ y = .ref b ∧ SqL K H l xs ∧ SqL K H b zs ∧ xs.length + zs.length ≤ sizeLine ∧ ∀ p, H p = none → Q (.ref p) (upd H p (.lst (xs ++ zs)))
theorem op_cat' : OpR X (binaryOp .Add) (rCat' X.K) := by
  intro pins s σ H x y v u Q I rx ry h
  obtain ⟨l, b, xs, zs, rfl, rfl, hH, hB, hz, q⟩ := h
  cases rx
  cases ry
  obtain ⟨z, its, n, sl, r, hl, e⟩ := rdL I hH
  obtain ⟨z2, its2, n2, sk, r2, hl2, e2⟩ := rdL I hB
  have few : its.toArray.size + its2.toArray.size ≤ sizeLine := by
    rw [List.size_toArray, List.size_toArray, ← hl, ← hl2]
    exact hz
  refine concat_meets ⟨_, e, rfl⟩ ⟨_, e2, rfl⟩ noFill_list_add seq_list_add F.slot_list_add F.entry_list_add (F.args_list_add_2 _ _)
    (meets_addL l b its.toArray its2.toArray n n2 sl sk few) ⟨e, e2, ?_⟩
  have ea : its.toArray ++ its2.toArray = (its ++ its2).toArray := by simp
  rw [ea]
  exact ⟨.ref _, _, I.lnew (t' := s.toks) (r.append r2) (by rw [List.length_append]; omega), rfl, q _ I.fresh⟩
abbrev rStrs : R2 := fun x y H Q => ∃ i j, x = .str i ∧ y = .str j ∧ i.length + j.length ≤ sizeLine ∧ Q (.str (i ++ j)) H
def rAddAll (K : PySem.W.Frag) : R2 := fun x y H Q => rI0 (fun i j => .int (i + j)) x y H Q ∨ rStrs x y H Q ∨ rCat' K x y H Q ∨ rCatT K x y H Q
theorem op_addAll : OpR X (binaryOp .Add) (rAddAll X.K) := OpR.or op_add (OpR.or op_add_str (OpR.or op_cat' op_catT))
def semAdd : List D → Option O
  | [.int i, .int j] => some (.fz (.int (i + j)))
  | [.str a, .str b] => if a.length + b.length ≤ LIM then some (.fz (.str (a ++ b))) else none
  | [.lst xs, .lst ys] => if xs.length + ys.length ≤ LIM then some (.lst ((xs ++ ys).map .fz)) else none
  | [.tup xs, .tup ys] => if xs.length + ys.length ≤ LIM ∧ xs ≠ [] ∧ ys ≠ [] then some (.tup ((xs ++ ys).map .fz)) else none
  | _ => none
theorem sOf_append (a b : List Nat) : sOf a ++ sOf b = sOf (a ++ b) := by
  show (⟨a.toArray ++ b.toArray⟩ : Str) = ⟨(a ++ b).toArray⟩
  simp
theorem okS_app {a b : List Nat} (h : okS a) (k : okS b) (hl : a.length + b.length ≤ LIM) : okS (a ++ b) := ⟨by rw [List.length_append]; exact lim_line hl, fun c m => (List.mem_append.mp m).elim (h.2 c) (k.2 c)⟩
theorem opb_add : OpB K (r2 (rAddAll K)) semAdd := by
  intro F H vs ds o Q s sh e q
  unfold semAdd at e
  split at e
  · cases e
    obtain ⟨x, y, rfl, h1, h2⟩ := sh.two
    cases h1.int_inv; cases h2.int_inv
    exact ⟨_, _, rfl, .inl ⟨_, _, rfl, rfl, old_val s (.int _) q⟩⟩
  · split at e
    · rename_i a b hl
      cases e
      obtain ⟨x, y, rfl, h1, h2⟩ := sh.two
      obtain ⟨rfl, l1⟩ := h1.str_inv
      obtain ⟨rfl, l2⟩ := h2.str_inv
      refine ⟨_, _, rfl, .inr (.inl ⟨_, _, rfl, rfl, by rw [length_sOf, length_sOf]; exact lim_line hl, ?_⟩)⟩
      rw [sOf_append]
      exact old_val s (.str _ (okS_app l1 l2 hl)) q
    · cases e
  · split at e
    · rename_i xs ys hl
      cases e
      obtain ⟨x, y, rfl, h1, h2⟩ := sh.two
      obtain ⟨a, us, rfl, g1, k1⟩ := h1.lst_inv s
      obtain ⟨b, ws, rfl, g2, k2⟩ := h2.lst_inv s
      exact ⟨_, _, rfl, .inr (.inr (.inl ⟨a, b, us, ws, rfl, rfl, g1, g2, by rw [k1.length, k2.length]; exact lim_line hl, fun p hp => new_lst s (k1.append k2) hp q⟩))⟩
    · cases e
  · split at e
    · rename_i xs ys hl
      cases e
      obtain ⟨x, y, rfl, h1, h2⟩ := sh.two
      obtain ⟨a, us, rfl, g1, k1⟩ := h1.tup_inv s
      obtain ⟨b, ws, rfl, g2, k2⟩ := h2.tup_inv s
      have n1 : us ≠ [] := fun z => hl.2.1 (by have := k1.length; rw [z] at this; exact List.length_eq_zero_iff.mp this.symm)
      have n2 : ws ≠ [] := fun z => hl.2.2 (by have := k2.length; rw [z] at this; exact List.length_eq_zero_iff.mp this.symm)
      exact ⟨_, _, rfl, .inr (.inr (.inr ⟨a, b, us, ws, rfl, rfl, g1, g2, n1, by rw [k1.length, k2.length]; exact lim_line hl.1, fun z => absurd z n2, fun _ p hp => new_tup s (k1.append k2) hp q⟩))⟩
    · cases e
  · cases e
theorem snd_add {a b : Expr} {pos : Pos} {f : Env → R (List Opd)} (h : SndL n X [a, b] f) : SndE n X (.BinOp a .Add b pos) (eB semAdd f) := snd_B h opb_add fun σ H Q => wE_op op_addAll σ H Q

/-! ### forms -/
theorem wE_cmp {op : CmpOp} {r : R2} {a b : Expr} {pos : Pos} (ho : OpR X (compareOp op) r) (hm : behindInMarks op b = false) (σ : L2.St) (H : Hp) (Q : VK) (h : wL n X [a, b] σ H fun vs H1 => r2 r vs H1 Q) : wE n X (.Compare a [op] [b] pos) σ H Q := by
  exact wE_mk fun pins s hn I => wpAny_Compare1 (wE_bin (wL2 h) hn I fun v u s2 x y H2 _ I2 a1 a2 q => ho pins s2 σ H2 x y v u Q I2 a1 a2 q) hm
theorem snd_tcmp {op : CmpOp} {a b : Expr} {pos : Pos} {f : Env → R (List Opd)} {r : R2} {sem : List D → Option At} (h : SndL n X [a, b] f) (hop : OpA X.K (r2 r) sem) (ho : OpR X (compareOp op) r) (hm : behindInMarks op b = false) : SndT n X (.Compare a [op] [b] pos) (tBool (eA sem f)) := by
  refine .mk fun W tk env σ F H S Q st q => ?_
  have key := snd_A (e := .Compare a [op] [b] pos) (es := [a, b]) h hop (fun σ H Q => wE_cmp ho hm σ H Q)
  -- the same reading, its value a bool
  have hl : wL n X [a, b] σ H fun vs H1 => r2 r vs H1 fun x H' => ∃ k, x = .bl k ∧ Q k H' := by
    refine h.run W tk env σ F H S _ st ?_
    unfold tBool eA at q
    revert q
    cases f env with
    | exc c ds e => exact fun q => q
    | bad => exact fun q => q.elim
    | ok ops e1 =>
      intro q vs F1 H1 S1 T1 tr sp
      revert q
      show PostT X W σ F H S Q (match (match (resA e1 ops).bind sem with
        | some a => R.ok (O.fz a.d) e1
        | none => R.bad) with
        | .ok (.fz (.bl b)) e => .ok b e
        | .exc c ds e => .exc c ds e
        | _ => .bad) → _
      cases e2 : resA e1 ops with
      | none => exact fun q => q.elim
      | some ds =>
        show PostT X W σ F H S Q (match (match sem ds with
          | some a => R.ok (O.fz a.d) e1
          | none => R.bad) with
          | .ok (.fz (.bl b)) e => .ok b e
          | .exc c ds e => .exc c ds e
          | _ => .bad) → _
        cases e3 : sem ds with
        | none => exact fun q => q.elim
        | some a =>
          cases a with
          | bl k => exact fun q => hop H1 vs ds (.bl k) _ (resA_ok sp.st sp.val e2) e3 fun _ => ⟨k, rfl, q F1 H1 S1 (tr.sub fun x m => List.mem_append_right _ m) sp.st⟩
          | _ => exact fun q => q.elim
  intro pins s hn I
  refine wpAny_isTrue_Compare1 (wE_bin (wL2 hl) hn I fun v u s2 x y H2 _ I2 a1 a2 q => thn (ho pins s2 σ H2 x y v u _ I2 a1 a2 q) fun c s3 z => ?_) hm
  obtain ⟨_, H3, I3, a3, k, e, q3⟩ := z
  subst e
  cases a3
  exact wpAny_truthy_bool ⟨H3, I3, q3⟩
theorem wE_callB {id : String} {x : Str} {e : Expr} {es : List Expr} {p pos : Pos} {r : List V → Hp → VK → Prop} (hc : CallR X (.builtin id) r) (hg : Gl X x) (hm : X.mg x = none) (hv : bootBuiltins x = some (.builtin id)) (pl : Plain X (e :: es))
    (hn : x ≠ "__name__") (hdb : (x == ("__debug__" : Str)) = false) (hpl : (backTo pos (starEach es X.env)).any (·.1) = false) (σ : L2.St) (H : Hp) (Q : VK) (h : wL n X (e :: es) σ H fun vs H1 => r vs H1 Q) : wE n X (.Call (.Name x p) (e :: es) [] pos) σ H Q :=
  wE_mk fun pins s h0 I => wpAny_Call_Name_kw (ld_blt I hg hm hv (PyProof.Rows.callWith_builtin1 (thn (wA_L pl h pos pins s h0 I) fun us s1 z => let ⟨vs, H1, I1, a1, q1⟩ := z; hc pins s1 σ H1 vs us Q I1 a1 q1) pl.1 hpl) hn hdb)
theorem wE_callTy {T : String} {x : Str} {e : Expr} {es : List Expr} {p pos : Pos} {r : List V → Hp → VK → Prop} (hc : CallR X (.type T) r) (hg : Gl X x) (hm : X.mg x = none) (hv : bootBuiltins x = some (.type T)) (pl : Plain X (e :: es))
    (hn : x ≠ "__name__") (hdb : (x == ("__debug__" : Str)) = false) (hpl : (backTo pos (starEach es X.env)).any (·.1) = false) (σ : L2.St) (H : Hp) (Q : VK) (h : wL n X (e :: es) σ H fun vs H1 => r vs H1 Q) : wE n X (.Call (.Name x p) (e :: es) [] pos) σ H Q :=
  wE_mk fun pins s h0 I => wpAny_Call_Name_kw (ld_blt I hg hm hv (PyProof.Rows.callWith_type1 (thn (wA_L pl h pos pins s h0 I) fun us s1 z => let ⟨vs, H1, I1, a1, q1⟩ := z; hc pins s1 σ H1 vs us Q I1 a1 q1) pl.1 hpl) hn hdb)
theorem wE_ix {r : R2} {a b : Expr} {pos : Pos} (hr : IxR X r) (hs : PlainIx b) (σ : L2.St) (H : Hp) (Q : VK) (h : wL n X [a, b] σ H fun vs H1 => r2 r vs H1 Q) : wE n X (.Subscript a b pos) σ H Q := by
  exact wE_mk fun pins s hn I => Subscript_ (wE_bin (wL2 h) hn I fun v u s2 x y H2 _ I2 a1 a2 q => hr a b pins s2 σ H2 x y v u Q I2 a1 a2 q (hs _ _))
theorem wE_un {op : UnaryOp} {r : V → Hp → VK → Prop} {a : Expr} {pos : Pos} (ho : UnR X (unaryOp op) r) (σ : L2.St) (H : Hp) (Q : VK) (h : wL n X [a] σ H fun vs H1 => ∃ x, vs = [x] ∧ r x H1 Q) : wE n X (.UnaryOp op a pos) σ H Q := by
  refine wE_mk fun pins s hn I => UnaryOp_ (thn (wE_run h pins s hn I) fun v s1 z => ?_)
  obtain ⟨x, H1, I1, a1, x', e, q⟩ := z
  cases e
  exact ho pins s1 σ H1 x v Q I1 a1 q

/-! ### whole numbers -/
theorem CallR.or {f : Value} {r r' : List V → Hp → VK → Prop} (h : CallR X f r) (h' : CallR X f r') : CallR X f (fun xs H Q => r xs H Q ∨ r' xs H Q) := fun pins s σ H xs us Q I rs q => q.elim (h pins s σ H xs us Q I rs) (h' pins s σ H xs us Q I rs)
def semInt2 (c : Int → Int → Bool) (g : Int → Int → Int) : List D → Option At
  | [.int i, .int j] => if c i j = true then some (.int (g i j)) else none
  | _ => none
theorem opa_int2 {C : Int → Int → Prop} {c : Int → Int → Bool} {g g' : Int → Int → Int} (hc : ∀ i j, c i j = true → C i j ∧ g' i j = g i j) : OpA K (r2 (rI C fun i j => .int (g' i j))) (semInt2 c g) := by
  intro H vs ds a Q r e q
  unfold semInt2 at e
  split at e
  · split at e
    · rename_i i j hh
      cases e
      obtain ⟨v, w, rfl, h1, h2⟩ := r.two
      cases h1.int_inv; cases h2.int_inv
      obtain ⟨k1, k2⟩ := hc i j hh
      refine ⟨_, _, rfl, i, j, rfl, rfl, k1, ?_⟩
      show Q (V.int (g' i j)) H
      rw [k2]
      exact q trivial
    · cases e
  · cases e
/-- bounded by BIG -/
def isBig (i : Int) : Bool := decide (i.natAbs < BIG)
theorem log2_big {i : Int} (h : isBig i = true) : i.natAbs < 2 ^ 400000 := of_decide_eq_true h
def semSub : List D → Option At := semInt2 (fun _ _ => true) fun i j => i - j
theorem snd_sub {a b : Expr} {pos : Pos} {f : Env → R (List Opd)} (h : SndL n X [a, b] f) : SndE n X (.BinOp a .Sub b pos) (eA semSub f) :=
  snd_A h (opa_int2 (C := fun _ _ => True) (g' := fun i j => i - j) fun _ _ _ => ⟨trivial, rfl⟩) fun σ H Q => wE_op (opI fun _ _ _ _ _ _ _ _ q => sub_int q) σ H Q
def semMod : List D → Option At := semInt2 (fun _ j => decide (0 < j)) fun i j => i % j
theorem snd_mod {a b : Expr} {pos : Pos} {f : Env → R (List Opd)} (h : SndL n X [a, b] f) : SndE n X (.BinOp a .Mod b pos) (eA semMod f) :=
  snd_A h (opa_int2 (g' := fun i j => i % j) fun i j hh => ⟨of_decide_eq_true hh, rfl⟩) fun σ H Q => wE_op op_mod σ H Q
def smallDiv (j : Int) : Bool := decide (0 < j) && decide (j.natAbs < 2 ^ 8000)
def semDiv : List D → Option At := semInt2 (fun _ j => smallDiv j) fun i j => i / j
theorem snd_div {a b : Expr} {pos : Pos} {f : Env → R (List Opd)} (h : SndL n X [a, b] f) : SndE n X (.BinOp a .FloorDiv b pos) (eA semDiv f) :=
  snd_A h (opa_int2 (g' := fun i j => i / j) fun i j hh => by
    unfold smallDiv at hh
    rw [Bool.and_eq_true, decide_eq_true_iff, decide_eq_true_iff] at hh
    exact ⟨wide_div hh.1 hh.2 (by decide) (by decide), rfl⟩) fun σ H Q => wE_op op_fdivW σ H Q
def powOk (i j : Int) : Bool := isBig i && (decide (0 ≤ j) && decide (j ≤ 300))
def semPow : List D → Option At := semInt2 powOk fun i j => i ^ j.toNat
abbrev CPowW (i j : Int) : Prop := 0 ≤ j ∧ (Builtin.Int.intBits i : Int) * j ≤ 2 ^ 27
theorem op_powW : OpR X (binaryOp .Pow) (rI CPowW fun i j => .int (i ^ j.toNat)) := opI fun _ _ _ _ _ _ _ hc q => pow_int hc.1 hc.2 q
theorem snd_pow {a b : Expr} {pos : Pos} {f : Env → R (List Opd)} (h : SndL n X [a, b] f) : SndE n X (.BinOp a .Pow b pos) (eA semPow f) :=
  snd_A h (opa_int2 (g' := fun i j => i ^ j.toNat) fun i j hh => by
    unfold powOk at hh
    rw [Bool.and_eq_true, Bool.and_eq_true, decide_eq_true_iff, decide_eq_true_iff] at hh
    have hb : Builtin.Int.intBits i ≤ 400000 := PySem.intBits_le_iff.mpr (log2_big hh.1)
    refine ⟨⟨hh.2.1, ?_⟩, rfl⟩
    have h1 : (Builtin.Int.intBits i : Int) ≤ 400000 := by omega
    have h2 : (Builtin.Int.intBits i : Int) * j ≤ 400000 * 300 := Int.mul_le_mul h1 hh.2.2 hh.2.1 (by decide)
    have h3 : (400000 : Int) * 300 ≤ 2 ^ 27 := by decide
    omega) fun σ H Q => wE_op op_powW σ H Q
/-- + of an int and a truth value too -/
def semNeg : List D → Option At
  | [.int i] => some (.int (-i))
  | _ => none
theorem snd_neg {a : Expr} {pos : Pos} {f : Env → R (List Opd)} (h : SndL n X [a] f) : SndE n X (.UnaryOp .USub a pos) (eA semNeg f) :=
  snd_A (rd := fun vs H Q => ∃ x, vs = [x] ∧ (rU fun i => .int (-i)) x H Q) h (by
    intro H vs ds a Q r e q
    unfold semNeg at e
    split at e
    · cases e
      obtain ⟨v, rfl, h1⟩ := r.one
      cases h1.int_inv
      exact ⟨_, rfl, _, rfl, q trivial⟩
    · cases e) fun σ H Q => wE_un un_neg σ H Q
end
end PyD
end

section
set_option Elab.async false
set_option linter.all false
set_option maxRecDepth 100000
namespace PyD
open PySem L2 PySem.Spec PyProof.Rows

/-! ### equality of data without dicts -/
mutual
def deq : D → D → Bool
  | .non, .non => true
  | .bl a, .bl b => a == b
  | .bl a, .int j => (if a then 1 else 0) == j
  | .int i, .bl b => i == (if b then 1 else 0)
  | .int i, .int j => i == j
  | .str a, .str b => a == b
  | .lst xs, .lst ys => deqs xs ys
  | .tup xs, .tup ys => deqs xs ys
  | _, _ => false
def deqs : List D → List D → Bool
  | [], [] => true
  | x :: xs, y :: ys => deq x y && deqs xs ys
  | _, _ => false
end
/-- no dict, not deeper than n -/
def okq : Nat → D → Bool
  | _, .non => true
  | _, .bl _ => true
  | _, .int _ => true
  | _, .str _ => true
  | n + 1, .lst xs => xs.all (okq n)
  | n + 1, .tup xs => xs.all (okq n)
  | _, _ => false
mutual
def toP : D → PyData
  | .non => .none
  | .bl b => .bool b
  | .int i => .int i
  | .str l => .str (sOf l)
  | .lst xs => .list (toPs xs)
  | .tup xs => .tuple (toPs xs)
  | _ => .none
def toPs : List D → List PyData
  | [] => []
  | x :: xs => toP x :: toPs xs
end
theorem sOf_beq (a b : List Nat) : (sOf a == sOf b) = (a == b) := by
  rw [Bool.eq_iff_iff, beq_iff_eq, beq_iff_eq]
  constructor
  · intro h
    have := congrArg (fun x : Str => x.cps.toList) h
    simpa [sOf] using this
  · intro h; rw [h]
mutual
theorem eqv_deq : ∀ (n m : Nat) (d e : D), okq n d = true → okq m e = true → PyData.eqv (toP d) (toP e) = deq d e
  | n, m, .non, e, _, h => by cases e <;> first | (simp [toP, deq, PyData.eqv]; done) | (cases m <;> simp [okq] at h)
  | n, m, .bl b, e, _, h => by cases e <;> first | (simp [toP, deq, PyData.eqv]; done) | (cases m <;> simp [okq] at h)
  | n, m, .int i, e, _, h => by cases e <;> first | (simp [toP, deq, PyData.eqv]; done) | (cases m <;> simp [okq] at h)
  | n, m, .str l, e, _, h => by cases e <;> first | (simp [toP, deq, PyData.eqv, sOf_beq]; done) | (cases m <;> simp [okq] at h)
  | 0, m, .lst xs, e, h, _ => by simp [okq] at h
  | 0, m, .tup xs, e, h, _ => by simp [okq] at h
  | n + 1, m, .lst xs, e, k, h => by
    cases e with
    | lst ys =>
      cases m with
      | zero => simp [okq] at h
      | succ m => simp only [toP, deq, PyData.eqv]; exact eqvs_deqs n m xs ys (by simpa [okq] using k) (by simpa [okq] using h)
    | dic _ => cases m <;> simp [okq] at h
    | set _ => cases m <;> simp [okq] at h
    | _ => simp [toP, deq, PyData.eqv]
  | n + 1, m, .tup xs, e, k, h => by
    cases e with
    | tup ys =>
      cases m with
      | zero => simp [okq] at h
      | succ m => simp only [toP, deq, PyData.eqv]; exact eqvs_deqs n m xs ys (by simpa [okq] using k) (by simpa [okq] using h)
    | dic _ => cases m <;> simp [okq] at h
    | set _ => cases m <;> simp [okq] at h
    | _ => simp [toP, deq, PyData.eqv]
  | n, m, .dic _, e, h, _ => by cases n <;> simp [okq] at h
  | n, m, .set _, e, h, _ => by cases n <;> simp [okq] at h
theorem eqvs_deqs : ∀ (n m : Nat) (xs ys : List D), (∀ d ∈ xs, okq n d = true) → (∀ d ∈ ys, okq m d = true) → PyData.eqvAll (toPs xs) (toPs ys) = deqs xs ys
  | n, m, [], [], _, _ => by simp [toPs, deqs, PyData.eqvAll]
  | n, m, [], y :: ys, _, _ => by simp [toPs, deqs, PyData.eqvAll]
  | n, m, x :: xs, [], _, _ => by simp [toPs, deqs, PyData.eqvAll]
  | n, m, x :: xs, y :: ys, h, k => by
    simp only [toPs, deqs, PyData.eqvAll]
    rw [eqv_deq n m x y (h x List.mem_cons_self) (k y List.mem_cons_self), eqvs_deqs n m xs ys (fun d hd => h d (List.mem_cons_of_mem _ hd)) fun d hd => k d (List.mem_cons_of_mem _ hd)]
end
section
variable {K : PySem.W.Frag} {H : Hp}
mutual
theorem dp_of : ∀ (n : Nat) {v : V} {d : D}, Rep K H v d → okq n d = true → Dp K H v (toP d) ∧ (toP d).canLay0 = true ∧ (toP d).depth ≤ n
  | n, _, _, .non, _ => by simp only [toP]; exact ⟨.non, by simp [PyData.canLay0], by simp [PyData.depth]⟩
  | n, _, _, .bl b, _ => by simp only [toP]; exact ⟨.bl b, by simp [PyData.canLay0], by simp [PyData.depth]⟩
  | n, _, _, .int i, _ => by simp only [toP]; exact ⟨.int i, by simp [PyData.canLay0], by simp [PyData.depth]⟩
  | n, _, _, .str l ok, _ => by
    simp only [toP]
    refine ⟨.str _, ?_, by simp [PyData.depth]⟩
    simp only [PyData.canLay0]
    show (sOf l).cps.all _ = true
    simp only [sOf, List.all_toArray, List.all_eq_true, decide_eq_true_iff]
    intro c hc
    have := ok.2 c hc
    omega
  | 0, _, _, .lst _ _, h => by simp [okq] at h
  | 0, _, _, .tup _ _, h => by simp [okq] at h
  | n + 1, _, _, .lst h r, k => by
    simp only [toP]
    obtain ⟨a, b, c⟩ := dps_of n r (by simpa [okq] using k)
    exact ⟨.lst h a, by simp only [PyData.canLay0]; exact b, by simp only [PyData.depth]; omega⟩
  | n + 1, _, _, .tup h r, k => by
    simp only [toP]
    obtain ⟨a, b, c⟩ := dps_of n r (by simpa [okq] using k)
    exact ⟨.tup h a, by simp only [PyData.canLay0]; exact b, by simp only [PyData.depth]; omega⟩
  | n, _, _, .dic _ _, h => by cases n <;> simp [okq] at h
  | n, _, _, .junk _, h => by cases n <;> simp [okq] at h
theorem dps_of : ∀ (n : Nat) {vs : List V} {ds : List D}, Reps K H vs ds → (∀ d ∈ ds, okq n d = true) → DpAll K H vs (toPs ds) ∧ PyData.canLayAll0 (toPs ds) = true ∧ PyData.depthAll (toPs ds) ≤ n
  | n, _, _, .nil, _ => by simp only [toPs]; exact ⟨.nil, by simp [PyData.canLayAll0], by simp [PyData.depthAll]⟩
  | n, _, _, .cons h r, k => by
    simp only [toPs]
    obtain ⟨a, b, c⟩ := dp_of n h (k _ List.mem_cons_self)
    obtain ⟨a', b', c'⟩ := dps_of n r fun d hd => k d (List.mem_cons_of_mem _ hd)
    exact ⟨.cons a a', by simp only [PyData.canLayAll0, b, b', Bool.and_self], by simp only [PyData.depthAll]; omega⟩
end
theorem dp_shaped {v : V} {d : D} (h : Rep K H v d) (k : okq 20 d = true) : Dp K H v (toP d) ∧ SeqAt.shaped (toP d) = true := by
  obtain ⟨a, b, c⟩ := dp_of 20 h k
  refine ⟨a, ?_⟩
  unfold SeqAt.shaped
  rw [b, decide_eq_true (by omega)]
  rfl
end
def semEq (neg : Bool) : List D → Option At
  | [d, e] => if okq 20 d = true ∧ okq 20 e = true then some (.bl (if neg then !deq d e else deq d e)) else none
  | _ => none
section
variable {n : Nat} {X : Cx} {K : PySem.W.Frag} {F H : Hp}
theorem opa_eq : OpA K (r2 (rEqD K)) (semEq false) := by
  intro H vs ds a Q r e q
  unfold semEq at e
  split at e
  · split at e
    · rename_i d e' hh
      cases e
      obtain ⟨v, w, rfl, h1, h2⟩ := r.two
      obtain ⟨k1, s1⟩ := dp_shaped h1 hh.1
      obtain ⟨k2, s2⟩ := dp_shaped h2 hh.2
      refine ⟨_, _, rfl, _, _, k1, k2, s1, s2, ?_⟩
      rw [eqv_deq 20 20 _ _ hh.1 hh.2]
      exact q trivial
    · cases e
  · cases e
theorem opa_ne : OpA K (r2 (rNeD K)) (semEq true) := by
  intro H vs ds a Q r e q
  unfold semEq at e
  split at e
  · split at e
    · rename_i d e' hh
      cases e
      obtain ⟨v, w, rfl, h1, h2⟩ := r.two
      obtain ⟨k1, s1⟩ := dp_shaped h1 hh.1
      obtain ⟨k2, s2⟩ := dp_shaped h2 hh.2
      refine ⟨_, _, rfl, _, _, k1, k2, s1, s2, ?_⟩
      rw [eqv_deq 20 20 _ _ hh.1 hh.2]
      exact q trivial
    · cases e
  · cases e
theorem snd_eq {a b : Expr} {pos : Pos} {f : Env → R (List Opd)} {k : Nat} (hr : Room k X.A) (h : SndL n X [a, b] f) : SndE n X (.Compare a [.Eq] [b] pos) (eA (semEq false) f) :=
  snd_A h opa_eq fun σ H Q => wE_cmp (op_eqD hr.units) (nomark b) σ H Q
theorem snd_teq {a b : Expr} {pos : Pos} {f : Env → R (List Opd)} {k : Nat} (hr : Room k X.A) (h : SndL n X [a, b] f) : SndT n X (.Compare a [.Eq] [b] pos) (tBool (eA (semEq false) f)) :=
  snd_tcmp h opa_eq (op_eqD hr.units) (nomark b)
theorem snd_ne {a b : Expr} {pos : Pos} {f : Env → R (List Opd)} {k : Nat} (hr : Room k X.A) (h : SndL n X [a, b] f) : SndE n X (.Compare a [.NotEq] [b] pos) (eA (semEq true) f) :=
  snd_A h opa_ne fun σ H Q => wE_cmp (op_neD hr.units) (nomark b) σ H Q
theorem snd_tne {a b : Expr} {pos : Pos} {f : Env → R (List Opd)} {k : Nat} (hr : Room k X.A) (h : SndL n X [a, b] f) : SndT n X (.Compare a [.NotEq] [b] pos) (tBool (eA (semEq true) f)) :=
  snd_tcmp h opa_ne (op_neD hr.units) (nomark b)

/-! ### order -/
def ordD (p : Int → Int → Bool) (s : List Nat → List Nat → Bool) : List D → Option At
  | [.int i, .int j] => some (.bl (p i j))
  | [.str a, .str b] => some (.bl (s a b))
  | _ => none
abbrev rOrd (p : Int → Int → Bool) (s : List Nat → List Nat → Bool) : R2 := fun x y H Q => rI0 (fun i j => .bl (p i j)) x y H Q ∨ ∃ i j : Str, x = .str i ∧ y = .str j ∧ Q (.bl (s i.cps.toList j.cps.toList)) H
theorem opa_ord {p : Int → Int → Bool} {s : List Nat → List Nat → Bool} : OpA K (r2 (rOrd p s)) (ordD p s) := by
  intro H vs ds a Q r e q
  unfold ordD at e
  split at e
  · cases e
    obtain ⟨v, w, rfl, h1, h2⟩ := r.two
    cases h1.int_inv; cases h2.int_inv
    exact ⟨_, _, rfl, .inl ⟨_, _, rfl, rfl, q trivial⟩⟩
  · rename_i a b
    cases e
    obtain ⟨v, w, rfl, h1, h2⟩ := r.two
    obtain ⟨rfl, _⟩ := h1.str_inv
    obtain ⟨rfl, _⟩ := h2.str_inv
    refine ⟨_, _, rfl, .inr ⟨_, _, rfl, rfl, ?_⟩⟩
    rw [toList_sOf, toList_sOf]
    exact q trivial
  · cases e
def sltB (a b : List Nat) : Bool := decide (a < b)
def semLt := ordD (fun i j => decide (i < j)) sltB
def semLe := ordD (fun i j => decide (i ≤ j)) fun a b => !sltB b a
def semGt := ordD (fun i j => decide (j < i)) fun a b => sltB b a
def semGe := ordD (fun i j => decide (j ≤ i)) fun a b => !sltB a b
theorem op_ltO : OpR X (compareOp .Lt) (rOrd (fun i j => decide (i < j)) sltB) := OpR.or op_lt op_lt_str
theorem op_leO : OpR X (compareOp .LtE) (rOrd (fun i j => decide (i ≤ j)) fun a b => !sltB b a) := OpR.or op_le op_le_str
theorem op_gtO : OpR X (compareOp .Gt) (rOrd (fun i j => decide (j < i)) fun a b => sltB b a) := OpR.or op_gt op_gt_str
theorem op_geO : OpR X (compareOp .GtE) (rOrd (fun i j => decide (j ≤ i)) fun a b => !sltB a b) := OpR.or op_ge op_ge_str
theorem snd_ord {op : CmpOp} {p : Int → Int → Bool} {s : List Nat → List Nat → Bool} (ho : OpR X (compareOp op) (rOrd p s)) (hm : ∀ b, behindInMarks op b = false) {a b : Expr} {pos : Pos} {f : Env → R (List Opd)} (h : SndL n X [a, b] f) :
    SndE n X (.Compare a [op] [b] pos) (eA (ordD p s) f) := snd_A h opa_ord fun σ H Q => wE_cmp ho (hm b) σ H Q
theorem snd_tord {op : CmpOp} {p : Int → Int → Bool} {s : List Nat → List Nat → Bool} (ho : OpR X (compareOp op) (rOrd p s)) (hm : ∀ b, behindInMarks op b = false) {a b : Expr} {pos : Pos} {f : Env → R (List Opd)} (h : SndL n X [a, b] f) :
    SndT n X (.Compare a [op] [b] pos) (tBool (eA (ordD p s) f)) := snd_tcmp h opa_ord ho (hm b)
/-! ### is None -/
def isNon : D → Bool
  | .non => true
  | _ => false
def semIsN (neg : Bool) : List D → Option At
  | [.set _] => none
  | [d] => some (.bl (if neg then !isNon d else isNon d))
  | _ => none
theorem rep_non {v : V} {d : D} (h : Rep K H v d) (no : ∀ xs, d ≠ .set xs) : decide (v = .non) = isNon d := by
  cases h <;> first | simp [isNon]; done | exact absurd rfl (no _)
theorem snd_isN {a : Expr} {pos pos' : Pos} {j} {f : Env → R (List Opd)} (h : SndL n X [a] f) : SndE n X (.Compare a [.Is] [.Constant .none j pos'] pos) (eA (semIsN false) f) :=
  snd_A (rd := fun vs H Q => ∃ x, vs = [x] ∧ Q (.bl (decide (x = .non))) H) h (by
    intro H vs ds a Q r e q
    unfold semIsN at e
    split at e
    · cases e
    · rename_i no
      cases e
      obtain ⟨v, rfl, h1⟩ := r.one
      refine ⟨_, rfl, ?_⟩
      rw [rep_non h1 fun xs z => no xs (by rw [z])]
      exact q trivial
    · cases e) fun σ H Q hw => by
      refine wE_cmp (r := fun x y H Q => y = .non ∧ Q (.bl (decide (x = .non))) H) op_isN (by rfl) σ H Q (wE_mono hw fun x H1 h1 => wE_of pe_non ?_)
      obtain ⟨x', e, q⟩ := h1
      cases e
      exact ⟨x, .non, rfl, rfl, q⟩
theorem snd_notN {a : Expr} {pos pos' : Pos} {j} {f : Env → R (List Opd)} (h : SndL n X [a] f) : SndE n X (.Compare a [.IsNot] [.Constant .none j pos'] pos) (eA (semIsN true) f) :=
  snd_A (rd := fun vs H Q => ∃ x, vs = [x] ∧ Q (.bl (!decide (x = .non))) H) h (by
    intro H vs ds a Q r e q
    unfold semIsN at e
    split at e
    · cases e
    · rename_i no
      cases e
      obtain ⟨v, rfl, h1⟩ := r.one
      refine ⟨_, rfl, ?_⟩
      rw [rep_non h1 fun xs z => no xs (by rw [z])]
      exact q trivial
    · cases e) fun σ H Q hw => by
      refine wE_cmp (r := fun x y H Q => y = .non ∧ Q (.bl (!decide (x = .non))) H) op_notN (by rfl) σ H Q (wE_mono hw fun x H1 h1 => wE_of pe_non ?_)
      obtain ⟨x', e, q⟩ := h1
      cases e
      exact ⟨x, .non, rfl, rfl, q⟩
/-! ### built-in calls on numbers -/
def semAbs : List D → Option At
  | [.int i] => some (.int (if i < 0 then -i else i))
  | _ => none
theorem opa_abs : OpA K (fun xs H Q => ∃ i, xs = [.int i] ∧ Q (.int (if i < 0 then -i else i)) H) semAbs := by
  intro H vs ds a Q r e q
  unfold semAbs at e
  split at e
  · cases e
    obtain ⟨v, rfl, h1⟩ := r.one
    cases h1.int_inv
    exact ⟨_, rfl, q trivial⟩
  · cases e
def semMax2 : List D → Option At
  | [.int i, .int j] => some (.int (if j > i then j else i))
  | _ => none
theorem opa_max2 : OpA K (fun xs H Q => ∃ i j, xs = [.int i, .int j] ∧ Q (.int (if j > i then j else i)) H) semMax2 := by
  intro H vs ds a Q r e q
  unfold semMax2 at e
  split at e
  · cases e
    obtain ⟨v, w, rfl, h1, h2⟩ := r.two
    cases h1.int_inv; cases h2.int_inv
    exact ⟨_, _, rfl, q trivial⟩
  · cases e
def semMin2 : List D → Option At
  | [.int i, .int j] => some (.int (if j < i then j else i))
  | _ => none
theorem opa_min2 : OpA K (fun xs H Q => ∃ i j, xs = [.int i, .int j] ∧ Q (.int (if j < i then j else i)) H) semMin2 := by
  intro H vs ds a Q r e q
  unfold semMin2 at e
  split at e
  · cases e
    obtain ⟨v, w, rfl, h1, h2⟩ := r.two
    cases h1.int_inv; cases h2.int_inv
    exact ⟨_, _, rfl, q trivial⟩
  · cases e
def semInt : List D → Option At
  | [.int i] => some (.int i)
  | [.bl k] => some (.int (if k then 1 else 0))
  | _ => none
theorem opa_int : OpA K (fun xs H Q => (∃ i, xs = [.int i] ∧ Q (.int i) H) ∨ ∃ k, xs = [.bl k] ∧ Q (.int (if k then 1 else 0)) H) semInt := by
  intro H vs ds a Q r e q
  unfold semInt at e
  split at e
  · cases e
    obtain ⟨v, rfl, h1⟩ := r.one
    cases h1.int_inv
    exact .inl ⟨_, rfl, q trivial⟩
  · cases e
    obtain ⟨v, rfl, h1⟩ := r.one
    cases h1.bl_inv
    exact .inr ⟨_, rfl, q trivial⟩
  · cases e
/-- a built-in function of the language, called by its name -/
structure BuiltinAt (X : Cx) (x : Str) (u : Value) : Prop where
  gl : Gl X x
  mg : X.mg x = none
  bt : bootBuiltins x = some u
  nn : x ≠ "__name__"
  db : (x == ("__debug__" : Str)) = false
theorem snd_bA {id : String} {x : Str} {e : Expr} {es : List Expr} {p pos : Pos} {f : Env → R (List Opd)} {rd : List V → Hp → VK → Prop} {sem : List D → Option At} (B : BuiltinAt X x (.builtin id)) (hc : CallR X (.builtin id) rd) (hop : OpA X.K rd sem) (h : SndL n X (e :: es) f) (pl : Plain X (e :: es))
    (hpl : (backTo pos (starEach es X.env)).any (·.1) = false := by rfl) : SndE n X (.Call (.Name x p) (e :: es) [] pos) (eA sem f) := snd_A h hop fun σ H Q => wE_callB hc B.gl B.mg B.bt pl B.nn B.db hpl σ H Q
theorem snd_tyA {T : String} {x : Str} {e : Expr} {es : List Expr} {p pos : Pos} {f : Env → R (List Opd)} {rd : List V → Hp → VK → Prop} {sem : List D → Option At} (B : BuiltinAt X x (.type T)) (hc : CallR X (.type T) rd) (hop : OpA X.K rd sem) (h : SndL n X (e :: es) f) (pl : Plain X (e :: es))
    (hpl : (backTo pos (starEach es X.env)).any (·.1) = false := by rfl) : SndE n X (.Call (.Name x p) (e :: es) [] pos) (eA sem f) := snd_A h hop fun σ H Q => wE_callTy hc B.gl B.mg B.bt pl B.nn B.db hpl σ H Q
theorem snd_bB {id : String} {x : Str} {e : Expr} {es : List Expr} {p pos : Pos} {f : Env → R (List Opd)} {rd : List V → Hp → VK → Prop} {sem : List D → Option O} (B : BuiltinAt X x (.builtin id)) (hc : CallR X (.builtin id) rd) (hop : OpB X.K rd sem) (h : SndL n X (e :: es) f) (pl : Plain X (e :: es))
    (hpl : (backTo pos (starEach es X.env)).any (·.1) = false := by rfl) : SndE n X (.Call (.Name x p) (e :: es) [] pos) (eB sem f) := snd_B h hop fun σ H Q => wE_callB hc B.gl B.mg B.bt pl B.nn B.db hpl σ H Q
theorem snd_tyB {T : String} {x : Str} {e : Expr} {es : List Expr} {p pos : Pos} {f : Env → R (List Opd)} {rd : List V → Hp → VK → Prop} {sem : List D → Option O} (B : BuiltinAt X x (.type T)) (hc : CallR X (.type T) rd) (hop : OpB X.K rd sem) (h : SndL n X (e :: es) f) (pl : Plain X (e :: es))
    (hpl : (backTo pos (starEach es X.env)).any (·.1) = false := by rfl) : SndE n X (.Call (.Name x p) (e :: es) [] pos) (eB sem f) := snd_B h hop fun σ H Q => wE_callTy hc B.gl B.mg B.bt pl B.nn B.db hpl σ H Q
end
end PyD
end

section
set_option Elab.async false
set_option linter.all false
set_option maxRecDepth 100000
namespace PyD
open PySem L2 PySem.Spec PyProof.Rows
section
variable {n : Nat} {X : Cx} {K : PySem.W.Frag} {F H : Hp}
/-! ### len -/
def semLen : List D → Option At
  | [.str l] => some (.int l.length)
  | [.lst l] => some (.int l.length)
  | [.tup l] => some (.int l.length)
  | [.dic l] => some (.int l.length)
  | _ => none
def rLenAll (K : PySem.W.Frag) : List V → Hp → VK → Prop := fun xs H Q => (∃ x n, xs = [x] ∧ LenV K x H n ∧ Q (.int n) H) ∨ ∃ d kvs, xs = [.ref d] ∧ Rd H d (.dK kvs) ∧ Q (.int kvs.length) H
theorem RepK.length : ∀ {kvs : List (Key × V)} {es : List (D × D)}, RepK K F kvs es → kvs.length = es.length
  | _, _, .nil => rfl
  | _, _, .cons _ _ r => by simp [RepK.length r]
theorem opa_len : OpA K (rLenAll K) semLen := by
  intro H vs ds a Q r e q
  unfold semLen at e
  split at e
  · rename_i l
    cases e
    obtain ⟨v, rfl, h1⟩ := r.one
    obtain ⟨rfl, ok⟩ := h1.str_inv
    exact .inl ⟨_, _, rfl, ⟨by rw [length_sOf]; exact ok.1, rfl⟩, by rw [length_sOf]; exact q trivial⟩
  · cases e
    obtain ⟨v, rfl, h1⟩ := r.one
    obtain ⟨a, us, rfl, g, k⟩ := h1.lst_inv
    exact .inl ⟨_, _, rfl, .inl ⟨us, g, rfl⟩, by rw [k.length]; exact q trivial⟩
  · cases e
    obtain ⟨v, rfl, h1⟩ := r.one
    obtain ⟨a, us, rfl, g, k⟩ := h1.tup_inv
    exact .inl ⟨_, _, rfl, .inr ⟨us, g, rfl⟩, by rw [k.length]; exact q trivial⟩
  · cases e
    obtain ⟨v, rfl, h1⟩ := r.one
    obtain ⟨a, us, rfl, g, k⟩ := h1.dic_inv
    exact .inr ⟨_, _, rfl, g, by rw [k.length]; exact q trivial⟩
  · cases e
theorem call_lenD' : CallR X (.builtin "len") (fun xs H Q => ∃ d kvs, xs = [.ref d] ∧ Rd H d (.dK kvs) ∧ Q (.int kvs.length) H) := by
  intro pins s σ H xs us Q I r h
  obtain ⟨d, kvs, rfl, hd, q⟩ := h
  obtain ⟨u, rfl, ru⟩ := vals1 r
  cases ru
  exact d_len I hd fun t s' I' => ⟨.int kvs.length, H, I', ⟨t, rfl⟩, q⟩
theorem op_lenAll : CallR X (.builtin "len") (rLenAll X.K) := CallR.or call_len call_lenD'
/-! ### dicts: keys that are ints and texts -/
def kEq : D → D → Bool
  | .int i, .int j => i == j
  | .str a, .str b => a == b
  | _, _ => false
def isKey : D → Bool
  | .int _ => true
  | .str _ => true
  | _ => false
def dget {α : Type} : List (D × α) → D → Option α
  | [], _ => none
  | (e, d) :: r, k => if kEq e k = true then some d else dget r k
def dput {α : Type} : List (D × α) → D → α → List (D × α)
  | [], k, v => [(k, v)]
  | (e, d) :: r, k, v => if kEq e k = true then (e, v) :: r else (e, d) :: dput r k v
theorem kEq_iff {k k' : Key} {e e' : D} (h : KeyD k e) (h' : KeyD k' e') : kEq e e' = decide (k = k') := by
  cases k with
  | inl i =>
    cases k' with
    | inl j => cases h; cases h'; simp [kEq]; rw [Bool.eq_iff_iff]; simp
    | inr y => cases h; cases h'; simp [kEq]
  | inr x =>
    cases k' with
    | inl j => cases h; cases h'; simp [kEq]
    | inr y =>
      cases h; cases h'
      simp only [kEq]
      rw [Bool.eq_iff_iff, beq_iff_eq, decide_eq_true_iff]
      constructor
      · intro z
        have : x = y := by rw [← sOf_toList x, ← sOf_toList y, z]
        rw [this]
      · intro z; cases z; rfl
theorem KeyD.kV {k : Key} {e : D} (h : KeyD k e) (s : ∀ l, e = .str l → okS l) : Rep K F (kV k) e := by
  cases k with
  | inl i => cases h; exact .int i
  | inr x =>
    cases h
    have := Rep.str (K := K) (F := F) x.cps.toList (s _ rfl)
    rw [sOf_toList] at this
    exact this
theorem key_of_rep {v : V} {d : D} (h : Rep K F v d) (k : isKey d = true) : ∃ y : Key, v = L2.kV y ∧ KeyD y d := by
  cases h with
  | int i => exact ⟨.inl i, rfl, rfl⟩
  | str l => exact ⟨.inr (sOf l), rfl, by show D.str l = .str (sOf l).cps.toList; rw [toList_sOf]⟩
  | _ => simp [isKey] at k
theorem repK_get : ∀ {kvs : List (Key × V)} {es : List (D × D)} {k : Key} {e : D}, RepK K F kvs es → KeyD k e → (∀ d, dget es e = some d → ∃ v, valV kvs k = some v ∧ Rep K F v d) ∧ (dget es e = none → valV kvs k = none)
  | [], [], k, e, .nil, _ => ⟨fun d h => by simp [dget] at h, fun _ => rfl⟩
  | (k0, v0) :: r, (e0, d0) :: s, k, e, .cons h0 hv h, he => by
    have q := kEq_iff h0 he
    obtain ⟨i1, i2⟩ := repK_get h he
    by_cases hk : k0 = k
    · have q1 : kEq e0 e = true := by rw [q]; exact decide_eq_true hk
      rw [dget, if_pos q1, valV_pos (p := (k0, v0)) hk]
      exact ⟨fun d z => by cases z; exact ⟨v0, rfl, hv⟩, fun z => by cases z⟩
    · have q1 : ¬ kEq e0 e = true := by rw [q]; simpa using hk
      rw [dget, if_neg q1, valV_neg (p := (k0, v0)) hk]
      exact ⟨i1, i2⟩
/-! ### x[i] -/
def semIx : List D → Option O
  | [.lst xs, .int i] => (atI xs i).map .fz
  | [.tup xs, .int i] => (atI xs i).map .fz
  | [.str l, .int i] => (atI l i).map fun c => .fz (.str [c])
  | [.dic es, k] => if isKey k = true then (dget es k).map .fz else none
  | _ => none
def rDic : R2 := fun x y H Q => ∃ a v, x = .ref a ∧ DGet H a y (some v) ∧ Q v H
theorem ix_dic (hu : X.A.units + 1 < cLine) : IxR X rDic := by
  intro value slice pins s σ H x y v u Q I rx ry h hs
  obtain ⟨a, w, rfl, g, q⟩ := h
  obtain rfl : v = Value.ref a := rx
  have hT := dict_typeIs I g
  exact tail_any hT PySem.F.slot_dict_getitem.lookup (d_getItem hu I g ry fun w' s3 I3 rw' => ⟨w, H, I3, rw', q⟩) hs
abbrev rIxAll (K : PySem.W.Frag) : R2 := fun x y H Q => rIx K x y H Q ∨ rDic x y H Q
theorem reps_at {vs : List V} {ds : List D} {i : Int} {d : D} (r : Reps K F vs ds) (h : atI ds i = some d) : ∃ v, atI vs i = some v ∧ Rep K F v d := by
  unfold atI at h ⊢
  rw [r.length]
  cases e : ixN ds.length i with
  | none => rw [e] at h; cases h
  | some j =>
    rw [e] at h
    exact r.get' (i := j) h
theorem opb_ix : OpB K (r2 (rIxAll K)) semIx := by
  intro F H vs ds o Q s sh e q
  unfold semIx at e
  split at e
  · rw [Option.map_eq_some_iff] at e
    obtain ⟨d, hd, rfl⟩ := e
    obtain ⟨x, y, rfl, h1, h2⟩ := sh.two
    cases h2.int_inv
    obtain ⟨a, us, rfl, g, k⟩ := h1.lst_inv s
    obtain ⟨v, hv, rv⟩ := reps_at k hd
    exact ⟨_, _, rfl, .inl (.inl ⟨a, us, _, v, rfl, rfl, g, hv, old_val s rv q⟩)⟩
  · rw [Option.map_eq_some_iff] at e
    obtain ⟨d, hd, rfl⟩ := e
    obtain ⟨x, y, rfl, h1, h2⟩ := sh.two
    cases h2.int_inv
    obtain ⟨a, us, rfl, g, k⟩ := h1.tup_inv s
    obtain ⟨v, hv, rv⟩ := reps_at k hd
    exact ⟨_, _, rfl, .inl (.inr (.inl ⟨a, us, _, v, rfl, rfl, g, hv, old_val s rv q⟩))⟩
  · rw [Option.map_eq_some_iff] at e
    obtain ⟨c, hc, rfl⟩ := e
    obtain ⟨x, y, rfl, h1, h2⟩ := sh.two
    cases h2.int_inv
    obtain ⟨rfl, ok⟩ := h1.str_inv
    have cm : c < 128 := by
      obtain ⟨j, _, hj, _⟩ := atI_get hc
      exact ok.2 c (List.mem_of_getElem? hj)
    refine ⟨_, _, rfl, .inl (.inr (.inr ⟨_, _, c, rfl, rfl, by rw [length_sOf]; exact ok.1, by rw [toList_sOf]; exact hc, ?_⟩))⟩
    exact old_val s (.str [c] ⟨(by show 1 ≤ sizeLine; decide), fun x m => by simp at m; subst m; exact cm⟩) q
  · split at e
    · rename_i es k hk
      rw [Option.map_eq_some_iff] at e
      obtain ⟨d, hd, rfl⟩ := e
      obtain ⟨x, y, rfl, h1, h2⟩ := sh.two
      obtain ⟨a, kvs, rfl, g, r⟩ := h1.dic_inv s
      obtain ⟨ky, rfl, hky⟩ := key_of_rep (h2.rep s) hk
      obtain ⟨v, hv, rv⟩ := (repK_get r hky).1 d hd
      exact ⟨_, _, rfl, .inr ⟨a, v, rfl, .inl ⟨kvs, ky, g, rfl, hv.symm⟩, old_val s rv q⟩⟩
    · cases e
  · cases e
theorem snd_ix {a b : Expr} {pos : Pos} {f : Env → R (List Opd)} {k : Nat} (hr : Room k X.A) (h : SndL n X [a, b] f) (hs : PlainIx b := by exact fun _ _ => rfl) : SndE n X (.Subscript a b pos) (eB semIx f) :=
  snd_B h opb_ix fun σ H Q => wE_ix (IxR.or ix_seq (ix_dic (by have := hr.un; omega))) hs σ H Q
/-! ### x[a:b] -/
def cutL {α : Type} (xs : List α) (lo hi : Option Int) : List α := (xs.drop (HT.sIx xs.length 0 lo)).take (HT.sIx xs.length xs.length hi - HT.sIx xs.length 0 lo)
theorem cutL_len {α : Type} (xs : List α) (lo hi : Option Int) : (cutL xs lo hi).length ≤ xs.length := by
  unfold cutL
  rw [List.length_take, List.length_drop]
  omega
theorem reps_cut {vs : List V} {ds : List D} (r : Reps K F vs ds) (lo hi : Option Int) : Reps K F (cutL vs lo hi) (cutL ds lo hi) := by
  have drop : ∀ (n : Nat) {vs : List V} {ds : List D}, Reps K F vs ds → Reps K F (vs.drop n) (ds.drop n) := by
    intro n
    induction n with
    | zero => exact fun r => r
    | succ n ih =>
      intro vs ds r
      cases r with
      | nil => exact .nil
      | cons a b => exact ih b
  have take : ∀ (n : Nat) {vs : List V} {ds : List D}, Reps K F vs ds → Reps K F (vs.take n) (ds.take n) := by
    intro n
    induction n with
    | zero => exact fun _ => .nil
    | succ n ih =>
      intro vs ds r
      cases r with
      | nil => exact .nil
      | cons a b => exact .cons a (ih b)
  unfold cutL
  rw [r.length]
  exact take _ (drop _ r)
def sliceD (lo hi : Option Int) : D → Option O
  | .lst xs => some (.lst ((cutL xs lo hi).map .fz))
  | .str l => some (.fz (.str (cutL l lo hi)))
  | .tup xs => if HT.sIx xs.length 0 lo = 0 ∧ HT.sIx xs.length xs.length hi = xs.length then some (.fz (.tup xs)) else some (.tup ((cutL xs lo hi).map .fz))
  | _ => none
abbrev rSlAll (K : PySem.W.Frag) : V → Option Int → Option Int → Hp → VK → Prop := fun x lo hi H Q => rSlL K x lo hi H Q ∨ rSlS x lo hi H Q ∨ rSlT K x lo hi H Q
theorem sl_all : SlR X (rSlAll X.K) := SlR.or sl_list (SlR.or sl_str sl_tup)
theorem cutS_eq (l : List Nat) (lo hi : Option Int) : cutS (sOf l) lo hi = sOf (cutL l lo hi) := by
  unfold cutS cutL sOf
  simp [Str.length]
theorem okS_cut {l : List Nat} (h : okS l) (lo hi : Option Int) : okS (cutL l lo hi) :=
  ⟨Nat.le_trans (cutL_len l lo hi) h.1, fun c m => h.2 c (List.mem_of_mem_drop (List.mem_of_mem_take m))⟩
theorem sl_post {d : D} {o : O} {lo hi : Option Int} {v : V} {Q : VK} (s : Ex F H) (h1 : Shal K F H v d) (e : sliceD lo hi d = some o) (nt : ∀ xs, d = .tup xs → ¬ (HT.sIx xs.length 0 lo = 0 ∧ HT.sIx xs.length xs.length hi = xs.length))
    (q : ∀ v F' H' T, Trans F H [] F' H' T → Own K F' H' v o T → Ex F' H' → T.Nodup → (∀ a ∈ T, F' a = none) → Q v H') : rSlAll K v lo hi H Q := by
  unfold sliceD at e
  split at e
  · rename_i xs
    cases e
    obtain ⟨a, us, rfl, g, k⟩ := h1.lst_inv s
    exact .inl ⟨a, us, rfl, g, fun p hp => new_lst s (reps_cut k lo hi) hp q⟩
  · rename_i l
    cases e
    obtain ⟨rfl, ok⟩ := h1.str_inv
    refine .inr (.inl ⟨_, rfl, by rw [length_sOf]; exact ok.1, ?_⟩)
    rw [cutS_eq]
    exact old_val s (.str _ (okS_cut ok lo hi)) q
  · rename_i xs
    rw [if_neg (nt xs rfl)] at e
    cases e
    obtain ⟨a, us, rfl, g, k⟩ := h1.tup_inv s
    exact .inr (.inr ⟨a, us, rfl, g, by rw [k.length]; exact nt xs rfl, fun p hp => new_tup s (reps_cut k lo hi) hp q⟩)
  · cases e
def tupCut (lo hi : Option Int) : D → Bool
  | .tup xs => !(decide (HT.sIx xs.length 0 lo = 0) && decide (HT.sIx xs.length xs.length hi = xs.length))
  | _ => true
theorem tupCut_ok {lo hi : Option Int} {d : D} (h : tupCut lo hi d = true) : ∀ xs, d = .tup xs → ¬ (HT.sIx xs.length 0 lo = 0 ∧ HT.sIx xs.length xs.length hi = xs.length) := fun xs e => by
  subst e
  intro z
  simp [tupCut, z.1, z.2] at h
def semSlNN : List D → Option O
  | [d] => if tupCut none none d = true then sliceD none none d else none
  | _ => none
def semSlSN : List D → Option O
  | [d, .int i] => if tupCut (some i) none d = true then sliceD (some i) none d else none
  | _ => none
def semSlNS : List D → Option O
  | [d, .int j] => if tupCut none (some j) d = true then sliceD none (some j) d else none
  | _ => none
def semSlSS : List D → Option O
  | [d, .int i, .int j] => if tupCut (some i) (some j) d = true then sliceD (some i) (some j) d else none
  | _ => none
/-- a bound of a slice -/
def wO (n : Nat) (X : Cx) (e : Option Expr) (σ : L2.St) (H : Hp) (Q : Option Int → Hp → Prop) : Prop := match e with
  | none => Q none H
  | some a => wE n X a σ H fun x H1 => ∃ i, x = .int i ∧ Q (some i) H1
theorem wO_run {e : Option Expr} {σ : L2.St} {H : Hp} {Q : Option Int → Hp → Prop} (h : wO n X e σ H Q) {pins : List (Addr × Obj)} {s : Shared} (hn : n ≤ s.toks) (I : Inv X pins σ H s) :
    wpAny (model X.prog X.w) X.A (evalPart e X.env) (fun u s' => ∃ o H', Inv X pins σ H' s' ∧ IsPart u o ∧ Q o H') X.xe s := by
  cases e with
  | none =>
    rw [evalPart_none]
    exact wpAny_pure ⟨none, H, I, .none, h⟩
  | some a =>
    rw [evalPart_some]
    refine thn (wE_run h pins s hn I) fun u s1 z => ?_
    obtain ⟨x, H1, I1, r1, i, e1, q⟩ := z
    subst e1
    obtain ⟨t, e2⟩ := r1
    subst e2
    exact ⟨some i, H1, I1, .int i t, q⟩
theorem wE_slice {r : V → Option Int → Option Int → Hp → VK → Prop} {e : Expr} {lo hi : Option Expr} {p2 pos : Pos} {σ : L2.St} {H : Hp} {Q : VK} (hr : SlR X r)
    (h : wE n X e σ H fun x H1 => wO n X lo σ H1 fun l H2 => wO n X hi σ H2 fun u H3 => r x l u H3 Q) : wE n X (.Subscript e (.Slice lo hi none p2) pos) σ H Q := wE_mk fun pins s hn I => by
  refine Subscript_ (thn' hn (wE_run h pins s hn I) fun v s1 n1 z => ?_)
  obtain ⟨x, H1, I1, r1, q1⟩ := z
  refine wpAny_Slice (thn' n1 (wO_run q1 n1 I1) fun vl s2 n2 z2 => ?_)
  obtain ⟨l, H2, I2, pl, q2⟩ := z2
  refine thn (wO_run q2 n2 I2) fun vu s3 z3 => ?_
  obtain ⟨u, H3, I3, pu, q3⟩ := z3
  rw [evalPart_none]
  refine wpAny_pure ?_
  have I4 : Inv X pins σ H3 { s3 with heap := s3.heap.push { cls := .type "slice", data := .fields #[vl, vu, .none] } } := I3.kept (t' := s3.toks) fun b ob w => Heap.get?_push_of_some _ w
  obtain ⟨T, id, hT, ht, hg⟩ := hr pins _ σ H3 x v vl vu l u s3.heap.objs.size Q I4 r1 (Heap.IsSliceOf.new ..) pl pu q3
  show wpAny (model X.prog X.w) X.A (subscriptTail e (.Slice lo hi none p2) v (.ref s3.heap.objs.size)) _ X.xe _
  exact tail_any (ops := [.ref s3.heap.objs.size, v]) ht hT hg (by with_unfolding_all rfl)
theorem snd_slNN {a : Expr} {p2 pos : Pos} {f : Env → R (List Opd)} (h : SndL n X [a] f) : SndE n X (.Subscript a (.Slice none none none p2) pos) (eB semSlNN f) :=
  snd_B (rd := fun vs H Q => ∃ x, vs = [x] ∧ rSlAll X.K x none none H Q) h (by
    intro F H vs ds o Q s sh e q
    unfold semSlNN at e
    split at e
    · split at e
      · rename_i d ht
        obtain ⟨x, rfl, h1⟩ := sh.one
        exact ⟨_, rfl, sl_post s h1 e (tupCut_ok ht) q⟩
      · cases e
    · cases e) fun σ H Q hw => by
      refine wE_slice sl_all (wE_mono hw fun x H1 h1 => ?_)
      obtain ⟨x', e, q⟩ := h1
      cases e
      exact q
theorem snd_slSN {a b : Expr} {p2 pos : Pos} {f : Env → R (List Opd)} (h : SndL n X [a, b] f) : SndE n X (.Subscript a (.Slice (some b) none none p2) pos) (eB semSlSN f) :=
  snd_B (rd := fun vs H Q => ∃ x i, vs = [x, .int i] ∧ rSlAll X.K x (some i) none H Q) h (by
    intro F H vs ds o Q s sh e q
    unfold semSlSN at e
    split at e
    · split at e
      · rename_i d i ht
        obtain ⟨x, y, rfl, h1, h2⟩ := sh.two
        cases h2.int_inv
        exact ⟨_, _, rfl, sl_post s h1 e (tupCut_ok ht) q⟩
      · cases e
    · cases e) fun σ H Q hw => by
      refine wE_slice sl_all (wE_mono hw fun x H1 h1 => wE_mono h1 fun y H2 h2 => ?_)
      obtain ⟨x', i, e, q⟩ := h2
      cases e
      exact ⟨i, rfl, q⟩
theorem snd_slNS {a b : Expr} {p2 pos : Pos} {f : Env → R (List Opd)} (h : SndL n X [a, b] f) : SndE n X (.Subscript a (.Slice none (some b) none p2) pos) (eB semSlNS f) :=
  snd_B (rd := fun vs H Q => ∃ x i, vs = [x, .int i] ∧ rSlAll X.K x none (some i) H Q) h (by
    intro F H vs ds o Q s sh e q
    unfold semSlNS at e
    split at e
    · split at e
      · rename_i d i ht
        obtain ⟨x, y, rfl, h1, h2⟩ := sh.two
        cases h2.int_inv
        exact ⟨_, _, rfl, sl_post s h1 e (tupCut_ok ht) q⟩
      · cases e
    · cases e) fun σ H Q hw => by
      refine wE_slice sl_all (wE_mono hw fun x H1 h1 => wE_mono h1 fun y H2 h2 => ?_)
      obtain ⟨x', i, e, q⟩ := h2
      cases e
      exact ⟨i, rfl, q⟩
theorem snd_slSS {a b c : Expr} {p2 pos : Pos} {f : Env → R (List Opd)} (h : SndL n X [a, b, c] f) : SndE n X (.Subscript a (.Slice (some b) (some c) none p2) pos) (eB semSlSS f) :=
  snd_B (rd := fun vs H Q => ∃ x i j, vs = [x, .int i, .int j] ∧ rSlAll X.K x (some i) (some j) H Q) h (by
    intro F H vs ds o Q s sh e q
    unfold semSlSS at e
    split at e
    · split at e
      · rename_i d i j ht
        obtain ⟨x, y, z, rfl, h1, h2, h3⟩ := sh.three
        cases h2.int_inv
        cases h3.int_inv
        exact ⟨_, _, _, rfl, sl_post s h1 e (tupCut_ok ht) q⟩
      · cases e
    · cases e) fun σ H Q hw => by
      refine wE_mk fun pins s hn I => ?_
      refine Subscript_ (thn' hn (wE_run hw pins s hn I) fun v s1 n1 ⟨x, H1, I1, r1, h1⟩ => ?_)
      refine wpAny_Slice ?_
      rw [evalPart_some]
      refine thn' n1 (wE_run h1 pins s1 n1 I1) fun vl s2 n2 ⟨y, H2, I2, r2, h2⟩ => ?_
      rw [evalPart_some]
      refine thn (wE_run h2 pins s2 n2 I2) fun vu s3 ⟨z, H3, I3, r3, h3⟩ => ?_
      obtain ⟨x', i, j, e, q3⟩ := h3
      cases e
      obtain ⟨t, rfl⟩ := r2
      obtain ⟨t', rfl⟩ := r3
      rw [evalPart_none]
      refine wpAny_pure ?_
      have I4 : Inv X pins σ H3 { s3 with heap := s3.heap.push { cls := .type "slice", data := .fields #[.int i t, .int j t', .none] } } := I3.kept (t' := s3.toks) fun b ob q => Heap.get?_push_of_some _ q
      obtain ⟨T, id, hT, ht, hg⟩ := sl_all pins { s3 with heap := s3.heap.push { cls := .type "slice", data := .fields #[.int i t, .int j t', .none] } } σ H3 x v (.int i t) (.int j t') (some i) (some j) s3.heap.objs.size Q I4 r1 (Heap.IsSliceOf.new ..) (.int i t) (.int j t') q3
      show wpAny (model X.prog X.w) X.A (subscriptTail a (.Slice (some b) (some c) none p2) v (.ref s3.heap.objs.size)) (EP X pins σ Q) X.xe { s3 with heap := s3.heap.push { cls := .type "slice", data := .fields #[.int i t, .int j t', .none] } }
      exact tail_any (ops := [.ref s3.heap.objs.size, v]) ht hT hg (by with_unfolding_all rfl)
end
end PyD
end

section
set_option Elab.async false
set_option linter.all false
set_option maxRecDepth 100000
namespace PyD
open PySem L2 PySem.Spec PyProof.Rows
section
variable {n : Nat} {X : Cx} {K : PySem.W.Frag} {F H : Hp} {σ : L2.St}
/-- a slot's own cell at l is written -/
theorem stt_mut {env : Env} {S T : List Addr} {vs : List V} {os : List O} {i : Nat} {l : Addr} {o o' : O} {u : HO} {fp fp' S0 : List Addr} (s : Sta K F H σ env S vs os T) (hv : σ[i]? = some (some (.ref l))) (pm : ((l :: fp) ++ S0).Perm S) (sl : Slots K F H σ (env.set i none) S0) (hi : i < env.length)
    (ow : Own K F (upd H l u) (.ref l) o' fp') (sub : ∀ a ∈ fp', a ∈ (l :: fp) ++ T) (nd' : fp'.Nodup) :
    ∃ S', Trans F H (T ++ S) F (upd H l u) S' ∧ Stt K F (upd H l u) σ (env.set i (some o')) S' := by
  have nd : ((l :: fp) ++ S0).Nodup := pm.nodup_iff.mpr s.st.nd
  have ndd := List.nodup_append.mp nd
  have lS : l ∈ S := pm.mem_iff.mp (List.mem_append_left _ List.mem_cons_self)
  have lF : F l = none := s.st.sep l lS
  have ne : ∀ a ∈ S0, a ≠ l := fun a m e => ndd.2.2 l List.mem_cons_self a m e.symm
  have sl2 : Slots K F (upd H l u) σ (env.set i none) S0 := sl.keep (Ex.refl _) fun a m w e => by rw [upd_ne (ne a m)]; exact e
  obtain ⟨S', h1, h2⟩ := sl2.putBack (i := i) (by rw [List.getElem?_set_self hi]) hv ow
  have mem : ∀ a ∈ S', a ∈ T ++ S := fun a m => by
    rcases List.mem_append.mp (h2.mem_iff.mp m) with n | n
    · rcases List.mem_append.mp (sub a n) with n | n
      · exact List.mem_append_right _ (pm.mem_iff.mp (List.mem_append_left _ n))
      · exact List.mem_append_left _ n
    · exact List.mem_append_right _ (pm.mem_iff.mp (List.mem_append_right _ n))
  refine ⟨S', ⟨fun a w e n => ?_, Ex.refl _, fun a w e => .inl ⟨w, e⟩, fun a m => .inl (mem a m), fun a e => ?_⟩, by simpa using h1, fun a w e => ?_, h2.nodup_iff.mpr (List.nodup_append.mpr ⟨nd', ndd.2.1, fun a m b n z => ?_⟩), fun a m => ?_⟩
  · rw [upd_ne fun z => n (by rw [z]; exact List.mem_append_right _ lS)]; exact e
  · by_cases z : a = l
    · subst z; rw [upd_same] at e; cases e
    · rw [upd_ne z] at e; exact e
  · rw [upd_ne fun z => by rw [z, lF] at e; cases e]
    exact s.st.sub a w e
  · subst z
    rcases List.mem_append.mp (sub a m) with k | k
    · exact ndd.2.2 a k a n rfl
    · exact s.as.ns a k (pm.mem_iff.mp (List.mem_append_right _ n))
  · rcases List.mem_append.mp (mem a m) with n | n
    · exact s.as.nf a n
    · exact s.st.sep a n
theorem Slots.takeL {env : Env} {S : List Addr} {i : Nat} {os : List O} (h : Slots K F H σ env S) (e : env[i]? = some (some (.lst os))) :
    ∃ l vs fp S0, σ[i]? = some (some (.ref l)) ∧ H l = some (.lst vs) ∧ Owns K F H vs os fp ∧ ((l :: fp) ++ S0).Perm S ∧ Slots K F H σ (env.set i none) S0 := by
  obtain ⟨v, fp, S0, h1, ow, pm, sl⟩ := h.take e
  cases ow with
  | lst a b => exact ⟨_, _, _, S0, h1, a, b, pm, sl⟩
theorem Slots.takeD {env : Env} {S : List Addr} {i : Nat} {os : List (D × O)} (h : Slots K F H σ env S) (e : env[i]? = some (some (.dic os))) :
    ∃ l kvs fp S0, σ[i]? = some (some (.ref l)) ∧ H l = some (.dK kvs) ∧ (kvs.map (·.1)).Nodup ∧ OwnK K F H kvs os fp ∧ ((l :: fp) ++ S0).Perm S ∧ Slots K F H σ (env.set i none) S0 := by
  obtain ⟨v, fp, S0, h1, ow, pm, sl⟩ := h.take e
  cases ow with
  | dic a n b => exact ⟨_, _, _, S0, h1, a, n, b, pm, sl⟩
theorem Owns.append : ∀ {vs ws : List V} {os ps : List O} {fp fq : List Addr}, Owns K F H vs os fp → Owns K F H ws ps fq → Owns K F H (vs ++ ws) (os ++ ps) (fp ++ fq)
  | _, _, _, _, _, _, .nil, s => s
  | _, _, _, _, _, _, .cons a b, s => by rw [List.append_assoc]; exact .cons a (Owns.append b s)
/-- an item exchanged -/
theorem Owns.set : ∀ {vs : List V} {os : List O} {fp : List Addr} (n : Nat) {v : V} {o : O} {T : List Addr}, Owns K F H vs os fp → Own K F H v o T → (fp ++ T).Nodup → ∃ fp', Owns K F H (vs.set n v) (os.set n o) fp' ∧ (∀ a ∈ fp', a ∈ fp ++ T) ∧ fp'.Nodup
  | _, _, _, n, _, _, T, .nil, _, nd => ⟨[], by simpa using Owns.nil, ⟨fun a m => (nomatch m), List.nodup_nil⟩⟩
  | _, _, _, 0, v, o, T, .cons (fp := fp) (fq := fq) a b, q, nd => by
    have n1 : (fq ++ T).Nodup := nd.sublist (by rw [List.append_assoc]; exact List.sublist_append_right _ _)
    refine ⟨T ++ fq, .cons q b, fun x m => ?_, ?_⟩
    · rcases List.mem_append.mp m with m | m
      · exact List.mem_append_right _ m
      · exact List.mem_append_left _ (List.mem_append_right _ m)
    · exact (List.perm_append_comm).nodup_iff.mpr n1
  | _, _, _, n + 1, v, o, T, .cons (fp := fp) (fq := fq) a b, q, nd => by
    have n1 : (fq ++ T).Nodup := nd.sublist (by rw [List.append_assoc]; exact List.sublist_append_right _ _)
    obtain ⟨fp', h1, h2, h3⟩ := Owns.set n b q n1
    have nd' : (fp ++ (fq ++ T)).Nodup := by rw [← List.append_assoc]; exact nd
    have d := List.nodup_append.mp nd'
    refine ⟨fp ++ fp', .cons a h1, fun x m => ?_, List.nodup_append.mpr ⟨d.1, h3, fun x m y k z => d.2.2 x m y (h2 y k) z⟩⟩
    rw [List.append_assoc]
    rcases List.mem_append.mp m with m | m
    · exact List.mem_append_left _ m
    · exact List.mem_append_right _ (h2 x m)

/-! ### o.m(e, ..), m of a built-in type -/
theorem wE_bm {o e : Expr} {es : List Expr} {name : Str} {apos cpos : Pos} {T id : String} {r : V → List V → Hp → VK → Prop} (pa : PlainAttrs T) (slot : Slot T name id) (hty : typeOf (.builtin id) = pure (.type "method_descriptor")) (hm : MtR X id r)
    (hbase : attributeBase o name X.env (eval o X.env) = eval o X.env)
    (hfew : ((backTo cpos (starEach (e :: es) X.env)).all (fun x => !x.1) && (backToKw cpos (keywordEach [] X.env)).all (fun x => x.1.isSome) && decide ((e :: es).length + ([] : List Keyword).length + (if ([] : List Keyword).isEmpty then 0 else 1) < 30)) = true)
    (hline : (apos.endLine == cpos.line) = true) (hs : starEach (e :: es) X.env = (false, eval e X.env) :: starEach es X.env) (hpl : (backTo cpos (starEach es X.env)).any (·.1) = false) {σ : L2.St} {H : Hp} {Q : VK}
    (h : wE n X o σ H fun x H1 => tyV X.K T x H1 ∧ wA n X (e :: es) σ H1 fun xs H2 => r x xs H2 Q) : wE n X (.Call (.Attribute o name apos) (e :: es) [] cpos) σ H Q := wE_mk fun pins s hn I => by
  refine wpAny_Call_method_late hbase hfew hline rfl (thn' hn (wE_run h pins s hn I) fun v s1 n1 z => ?_)
  obtain ⟨x, H1, I1, r1, ty, q1⟩ := z
  obtain ⟨t1, t2⟩ := tyV_is I1 r1 ty
  refine ⟨T, id, pa, slot, hty, t1, t2, ?_⟩
  have args := q1 cpos pins s1 n1 I1
  rw [hs] at args ⊢
  refine Calls.callWith_builtin (by show (false || (backTo cpos (starEach es X.env)).any (·.1)) = false; rw [hpl] <;> rfl) (Calls.evalArgs_plain (thn args fun us s2 z => ?_))
  obtain ⟨vs, H2, I2, r2, q2⟩ := z
  exact hm pins s2 σ H2 x vs v us Q I2 r1 r2 q2
theorem wA_one {e : Expr} {σ : L2.St} {H : Hp} {Q : List V → Hp → Prop} (hs : starEach [e] X.env = (false, eval e X.env) :: starEach [] X.env) (h : wE n X e σ H fun x H1 => Q [x] H1) : wA n X [e] σ H Q :=
  wA_cons hs (wE_mono h fun x H1 q => wA_of pa_nil q)
theorem wE_name {i : Nat} {x : Str} {p : Pos} {σ : L2.St} {H : Hp} {Q : VK} (hN : X.N[i]? = some x) (hv : Vis X.env.scope x) (hd : (x == ("__debug__" : Str)) = false) (hcd : (x == ("__classdict__" : Str)) = false)
    (h : ∃ v, σ[i]? = some (some v) ∧ Q v H) : wE n X (.Name x p) σ H Q := wE_of (pe_var hN hv hd hcd) h
/-! ### x.append(e), x.extend(e) -/
def eAppend (i : Nat) (f : Env → R O) : Env → R O := fun env => match env[i]? with
  | some (some (.lst _)) => (match f env with
    | .ok o e => (match e[i]? with
      | some (some (.lst os)) => if os.length < 1000000 then .ok (.fz .non) (e.set i (some (.lst (os ++ [o])))) else .bad
      | _ => .bad)
    | .exc c ds e => .exc c ds e
    | .bad => .bad)
  | _ => .bad
theorem snd_append {i : Nat} {x : Str} {p apos cpos : Pos} {e : Expr} {f : Env → R O} (hN : X.N[i]? = some x) (hvis : Vis X.env.scope x) (he : SndE n X e f) (hpl : starEach [e] X.env = (false, eval e X.env) :: starEach [] X.env := by rfl)
    (hd : (x == ("__debug__" : Str)) = false := by decide) (hcd : (x == ("__classdict__" : Str)) = false := by decide)
    (hbase : attributeBase (.Name x p) "append" X.env (eval (.Name x p) X.env) = eval (.Name x p) X.env := by rfl)
    (hfew : ((backTo cpos (starEach [e] X.env)).all (fun x => !x.1) && (backToKw cpos (keywordEach [] X.env)).all (fun x => x.1.isSome)
      && decide ([e].length + ([] : List Keyword).length + (if ([] : List Keyword).isEmpty then 0 else 1) < 30)) = true := by rfl)
    (hline : (apos.endLine == cpos.line) = true := by rfl) : SndE n X (.Call (.Attribute (.Name x p) "append" apos) [e] [] cpos) (eAppend i f) := by
  refine .mk fun W tk env σ F H S Q st q => ?_
  refine wE_bm PySem.F.plainAttrs_list PySem.F.slot_list_append PySem.F.type_list_append mt_append hbase hfew hline hpl rfl (wE_name hN hvis hd hcd ?_)
  unfold eAppend at q
  split at q
  · rename_i os0 ho0
    obtain ⟨l, vs0, fp0, S00, hv, hl0, _⟩ := st.own.takeL ho0
    refine ⟨.ref l, hv, .inl ⟨rfl, vs0, .inl (.inl hl0)⟩, ?_⟩
    refine wA_one hpl (he.run W tk env σ F H S _ st ?_)
    revert q
    cases f env with
    | exc c ds e => exact fun q => q
    | bad => exact fun q => q
    | ok o e1 =>
      intro q v F1 H1 S1 T tr s
      revert q
      show PostE X W σ F H S Q (match e1[i]? with
        | some (some (.lst os)) => if os.length < 1000000 then .ok (.fz .non) (e1.set i (some (.lst (os ++ [o])))) else .bad
        | _ => .bad) → _
      split
      · rename_i os ho
        obtain ⟨l', vs, fp, S0, hv', hl, ow, pm, sl⟩ := s.st.own.takeL ho
        rw [hv] at hv'
        cases hv'
        by_cases hz : os.length < 1000000
        · rw [if_pos hz]
          intro q
          have nd : ((l :: fp) ++ S0).Nodup := pm.nodup_iff.mpr s.st.nd
          have ndd := List.nodup_cons.mp (List.nodup_append.mp nd).1
          have lS : l ∈ S1 := pm.mem_iff.mp (List.mem_append_left _ List.mem_cons_self)
          have lT : l ∉ T := fun m => s.as.ns l m lS
          have ow2 : Own X.K F1 (upd H1 l (.lst (vs ++ [v]))) (.ref l) (.lst (os ++ [o])) (l :: (fp ++ T)) := by
            refine .lst upd_same (Owns.append (ow.keep (Ex.refl _) fun a m w e => ?_) ?_)
            · rw [upd_ne (fun z => ndd.1 (by rw [← z]; exact m))]; exact e
            · have := s.one.keep (H' := upd H1 l (.lst (vs ++ [v]))) (Ex.refl _) fun a m w e => by rw [upd_ne (fun z => lT (by rw [← z]; exact m))]; exact e
              simpa using Owns.cons this Owns.nil
          have fpT : (fp ++ T).Nodup := List.nodup_append.mpr ⟨ndd.2, s.nd, fun a m b n z => s.as.ns b n (z ▸ pm.mem_iff.mp (List.mem_append_left _ (List.mem_cons_of_mem _ m)))⟩
          obtain ⟨S', t2, st2⟩ := stt_mut (o := .lst os) s hv pm sl (List.getElem?_eq_some_iff.mp ho).1 ow2 (fun a m => by simpa using m) (List.nodup_cons.mpr ⟨fun m => (List.mem_append.mp m).elim ndd.1 lT, fpT⟩)
          refine ⟨l, vs, v, rfl, rfl, hl, by rw [ow.length]; exact Nat.lt_of_lt_of_le hz (by decide), ?_⟩
          exact q .non F1 _ S' [] (tr.trans t2) (sta_one st2 (.fz .non) List.nodup_nil Aside.nil)
        · rw [if_neg hz]; exact fun q => q.elim
      · exact fun q => q.elim
  · exact q.elim
def eExtend (i : Nat) (f : Env → R O) : Env → R O := fun env => match env[i]? with
  | some (some (.lst _)) => (match f env with
    | .ok (.lst ps) e => (match e[i]? with
      | some (some (.lst os)) => if os.length + ps.length ≤ 1000000 then .ok (.fz .non) (e.set i (some (.lst (os ++ ps)))) else .bad
      | _ => .bad)
    | .exc c ds e => .exc c ds e
    | _ => .bad)
  | _ => .bad
theorem snd_extend {i : Nat} {x : Str} {p apos cpos : Pos} {e : Expr} {f : Env → R O} (hN : X.N[i]? = some x) (hvis : Vis X.env.scope x) (he : SndE n X e f) (hpl : starEach [e] X.env = (false, eval e X.env) :: starEach [] X.env := by rfl)
    (hd : (x == ("__debug__" : Str)) = false := by decide) (hcd : (x == ("__classdict__" : Str)) = false := by decide)
    (hbase : attributeBase (.Name x p) "extend" X.env (eval (.Name x p) X.env) = eval (.Name x p) X.env := by rfl)
    (hfew : ((backTo cpos (starEach [e] X.env)).all (fun x => !x.1) && (backToKw cpos (keywordEach [] X.env)).all (fun x => x.1.isSome)
      && decide ([e].length + ([] : List Keyword).length + (if ([] : List Keyword).isEmpty then 0 else 1) < 30)) = true := by rfl)
    (hline : (apos.endLine == cpos.line) = true := by rfl) : SndE n X (.Call (.Attribute (.Name x p) "extend" apos) [e] [] cpos) (eExtend i f) := by
  refine .mk fun W tk env σ F H S Q st q => ?_
  refine wE_bm PySem.F.plainAttrs_list PySem.F.slot_list_extend PySem.F.type_list_extend mt_extend hbase hfew hline hpl rfl (wE_name hN hvis hd hcd ?_)
  unfold eExtend at q
  split at q
  · rename_i os0 ho0
    obtain ⟨l, vs0, fp0, S00, hv, hl0, _⟩ := st.own.takeL ho0
    refine ⟨.ref l, hv, .inl ⟨rfl, vs0, .inl (.inl hl0)⟩, ?_⟩
    refine wA_one hpl (he.run W tk env σ F H S _ st ?_)
    revert q
    cases f env with
    | exc c ds e => exact fun q => q
    | bad => exact fun q => q
    | ok o e1 =>
      cases o with
      | fz d => exact fun q => q.elim
      | tup ps => exact fun q => q.elim
      | dic ps => exact fun q => q.elim
      | dct ps => exact fun q => q.elim
      | lst ps =>
      intro q v F1 H1 S1 T tr s
      revert q
      show PostE X W σ F H S Q (match e1[i]? with
        | some (some (.lst os)) => if os.length + ps.length ≤ 1000000 then .ok (.fz .non) (e1.set i (some (.lst (os ++ ps)))) else .bad
        | _ => .bad) → _
      split
      · rename_i os ho
        obtain ⟨l', vs, fp, S0, hv', hl, ow, pm, sl⟩ := s.st.own.takeL ho
        rw [hv] at hv'
        cases hv'
        by_cases hz : os.length + ps.length ≤ 1000000
        · rw [if_pos hz]
          intro q
          have nd : ((l :: fp) ++ S0).Nodup := pm.nodup_iff.mpr s.st.nd
          have ndd := List.nodup_cons.mp (List.nodup_append.mp nd).1
          have lS : l ∈ S1 := pm.mem_iff.mp (List.mem_append_left _ List.mem_cons_self)
          have lT : l ∉ T := fun m => s.as.ns l m lS
          have one := s.one
          cases one with
          | lst hb owb =>
          rename_i b ws fb
          have ow2 : Own X.K F1 (upd H1 l (.lst (vs ++ ws))) (.ref l) (.lst (os ++ ps)) (l :: (fp ++ fb)) := by
            refine .lst upd_same (Owns.append (ow.keep (Ex.refl _) fun a m w e => ?_) (owb.keep (Ex.refl _) fun a m w e => ?_))
            · rw [upd_ne (fun z => ndd.1 (by rw [← z]; exact m))]; exact e
            · rw [upd_ne (fun z => lT (by rw [← z]; exact List.mem_cons_of_mem _ m))]; exact e
          have ndb := List.nodup_cons.mp s.nd
          have fpT : (fp ++ fb).Nodup := List.nodup_append.mpr ⟨ndd.2, ndb.2, fun a m b n z => s.as.ns b (List.mem_cons_of_mem _ n) (z ▸ pm.mem_iff.mp (List.mem_append_left _ (List.mem_cons_of_mem _ m)))⟩
          obtain ⟨S', t2, st2⟩ := stt_mut (o := .lst os) s hv pm sl (List.getElem?_eq_some_iff.mp ho).1 ow2 (fun a m => by
            rcases List.mem_cons.mp m with m | m
            · exact List.mem_append_left _ (m ▸ List.mem_cons_self)
            · rcases List.mem_append.mp m with m | m
              · exact List.mem_append_left _ (List.mem_cons_of_mem _ m)
              · exact List.mem_append_right _ (List.mem_cons_of_mem _ m)) (List.nodup_cons.mpr ⟨fun m => (List.mem_append.mp m).elim ndd.1 fun n => lT (List.mem_cons_of_mem _ n), fpT⟩)
          refine ⟨l, b, vs, ws, rfl, rfl, hl, hb, by rw [ow.length, owb.length]; exact Nat.le_trans hz (by decide), ?_⟩
          exact q .non F1 _ S' [] (tr.trans t2) (sta_one st2 (.fz .non) List.nodup_nil Aside.nil)
        · rw [if_neg hz]; exact fun q => q.elim
      · exact fun q => q.elim
  · exact q.elim
/-! ### x[k] = v -/
theorem takes_false : Takes X (fun _ _ _ _ => False) := fun u s' x => by
  obtain ⟨_, _, _, _, _, _, _, _, _, _, _, _, _, _, _, _, w⟩ := x
  exact w.elim
def okPut (os : List (D × O)) : Bool := decide (os.length < 1000000)
def setAt (i : Nat) (o : O) (k : List D) (e : Env) : Option Env := match k, e[i]? with
  | [.int j], some (some (.lst os)) => (ixN os.length j).map fun n => e.set i (some (.lst (os.set n o)))
  | [k], some (some (.dic os)) => if isKey k = true ∧ okPut os = true then some (e.set i (some (.dic (dput os k o)))) else none
  | _, _ => none
def gSet (i : Nat) (f : Env → R (List Opd)) : O → Env → Option Env := fun o env => match env[i]? with
  | some (some _) => (match f env with
    | .ok ops e => (resA e ops).bind fun k => setAt i o k e
    | _ => none)
  | _ => none
def rSetAll : TSet := fun o i v H Q => rSetL o i v H Q ∨ ∃ a H', o = .ref a ∧ DPut H a i v H' ∧ Q H'
theorem set_all (hu : X.A.units + 1 < cLine) : PSet X rSetAll := by
  intro pins s σ H o i v ov iv u Q I ro ri rv h
  rcases h with h | ⟨a, H', rfl, g, q⟩
  · exact set_list pins s σ H o i v ov iv u Q I ro ri rv h
  · obtain rfl : ov = Value.ref a := ro
    exact d_setItem hu I g ri rv fun s4 I4 => ⟨H', I4, q⟩
theorem putK_new' {kvs : List (Key × V)} {k : Key} {v : V} (h : valV kvs k = none) : putK kvs k v = kvs ++ [(k, v)] := by
  unfold putK
  rw [valV_any, h]
  rfl
theorem valV_mem {kvs : List (Key × V)} {k : Key} (h : k ∉ kvs.map (·.1)) : valV kvs k = none := by
  induction kvs with
  | nil => rfl
  | cons p r ih =>
    rw [valV_neg (fun e => h (by rw [← e]; exact List.mem_cons_self))]
    exact ih fun m => h (List.mem_cons_of_mem _ m)
theorem putK_cons_ne {p : Key × V} {r : List (Key × V)} {k : Key} {v : V} (h : ¬ p.1 = k) : putK (p :: r) k v = p :: putK r k v := by
  unfold putK
  simp only [List.any_cons, decide_eq_false h, Bool.false_or]
  split
  · simp only [List.map_cons, if_neg h]
  · rfl
theorem putK_cons_eq {p : Key × V} {r : List (Key × V)} {k : Key} {v : V} (h : p.1 = k) (n : k ∉ r.map (·.1)) : putK (p :: r) k v = (p.1, v) :: r := by
  unfold putK
  simp only [List.any_cons, decide_eq_true h, Bool.true_or, if_true, List.map_cons, if_pos h]
  congr 1
  have : ∀ q ∈ r, (if q.1 = k then (q.1, v) else q) = q := fun q m => if_neg fun e : q.1 = k => n (by rw [← e]; exact List.mem_map.mpr ⟨q, m, rfl⟩)
  rw [List.map_congr_left this]
  simp
theorem putK_keys {kvs : List (Key × V)} {k : Key} {v : V} : (kvs.map (·.1)).Nodup → ((putK kvs k v).map (·.1)).Nodup ∧ (putK kvs k v).length ≤ kvs.length + 1 ∧ ∀ x ∈ (putK kvs k v).map (·.1), x = k ∨ x ∈ kvs.map (·.1) := by
  induction kvs with
  | nil => intro _; exact ⟨by simp [putK], by simp [putK], fun x m => by simp [putK] at m; exact .inl m⟩
  | cons p r ih =>
    intro nd
    have nd' := List.nodup_cons.mp nd
    by_cases h : p.1 = k
    · rw [putK_cons_eq h (h ▸ nd'.1)]
      exact ⟨by simpa using nd, by simp, fun x m => .inr (by simpa using m)⟩
    · rw [putK_cons_ne h]
      obtain ⟨a, b, c⟩ := ih nd'.2
      refine ⟨?_, by simp only [List.length_cons]; omega, fun x m => ?_⟩
      · rw [List.map_cons, List.nodup_cons]
        exact ⟨fun m => (c _ m).elim h nd'.1, a⟩
      · rw [List.map_cons, List.mem_cons] at m
        rcases m with rfl | m
        · exact .inr (by simp)
        · exact (c x m).imp_right fun z => by simp only [List.map_cons, List.mem_cons]; exact .inr z
theorem ownK_put : ∀ {kvs : List (Key × V)} {os : List (D × O)} {fp : List Addr} {k : Key} {e : D} {v : V} {o : O} {T : List Addr}, (kvs.map (·.1)).Nodup → OwnK K F H kvs os fp → KeyD k e → Own K F H v o T → (fp ++ T).Nodup →
    ∃ fp', OwnK K F H (putK kvs k v) (dput os e o) fp' ∧ (∀ a ∈ fp', a ∈ fp ++ T) ∧ fp'.Nodup
  | [], [], _, k, e, v, o, T, _, .nil, hk, q, nd => ⟨T ++ [], by simpa [putK, dput] using OwnK.cons hk q OwnK.nil, fun a m => by simpa using m, by simpa using nd⟩
  | (k0, v0) :: r, (e0, o0) :: s, _, k, e, v, o, T, ndk, .cons (fp := fp) (fq := fq) h0 a b, hk, q, nd => by
    have ndk' := List.nodup_cons.mp ndk
    have keq := kEq_iff h0 hk
    have n1 : (fq ++ T).Nodup := nd.sublist (by rw [List.append_assoc]; exact List.sublist_append_right _ _)
    by_cases h : k0 = k
    · have q1 : kEq e0 e = true := by rw [keq]; exact decide_eq_true h
      rw [dput, if_pos q1, putK_cons_eq (p := (k0, v0)) h (h ▸ ndk'.1)]
      refine ⟨T ++ fq, .cons h0 q b, fun x m => ?_, (List.perm_append_comm).nodup_iff.mpr n1⟩
      rcases List.mem_append.mp m with m | m
      · exact List.mem_append_right _ m
      · exact List.mem_append_left _ (List.mem_append_right _ m)
    · have q1 : ¬ kEq e0 e = true := by rw [keq]; simpa using h
      rw [dput, if_neg q1, putK_cons_ne (p := (k0, v0)) h]
      obtain ⟨fp', h1, h2, h3⟩ := ownK_put ndk'.2 b hk q n1
      have nd' : (fp ++ (fq ++ T)).Nodup := by rw [← List.append_assoc]; exact nd
      have d := List.nodup_append.mp nd'
      refine ⟨fp ++ fp', .cons h0 a h1, fun x m => ?_, List.nodup_append.mpr ⟨d.1, h3, fun x m y k z => d.2.2 x m y (h2 y k) z⟩⟩
      rw [List.append_assoc]
      rcases List.mem_append.mp m with m | m
      · exact List.mem_append_left _ m
      · exact List.mem_append_right _ (h2 x m)
theorem OwnK.length : ∀ {kvs : List (Key × V)} {os : List (D × O)} {fp : List Addr}, OwnK K F H kvs os fp → kvs.length = os.length
  | _, _, _, .nil => rfl
  | _, _, _, .cons _ _ r => by simp [OwnK.length r]
/-- a slot's container at index, key k -/
theorem snd_gset {pr : Nat → Bool} {i : Nat} {x : Str} {p pos : Pos} {k : Expr} {f : Env → R (List Opd)} {kk : Nat} (hr : Room kk X.A) (hN : X.N[i]? = some x) (hvis : Vis X.env.scope x) (hf : SndL 0 X [k] f)
    (hd : (x == ("__debug__" : Str)) = false := by decide) (hcd : (x == ("__classdict__" : Str)) = false := by decide)
    (ha : ∀ v, assign (.Subscript (.Name x p) k pos) X.env v = (do
      let ov ← holding [v] (eval (.Name x p) X.env)
      let iv ← holding [v, ov] (eval k X.env)
      standAt pos
      holding [v, ov, iv] (setItem ov iv v)
      release [v, ov, iv] []) := by intro _; rfl) : SndG X pr (.Subscript (.Name x p) k pos) (gSet i f) := by
  refine .mk fun v o T env σ F H S Q s q => ?_
  have hu : X.A.units + 1 < cLine := by have := hr.un; omega
  refine wG_of (pg_sub (pe_var hN hvis hd hcd) pe_w (set_all hu) ha) ?_
  unfold gSet at q
  split at q
  · rename_i o0 ho0
    obtain ⟨w0, hw0⟩ := s.st.val ho0
    refine ⟨w0, hw0, ?_⟩
    have hl : wL 0 X [k] σ H fun vs H2 => ∃ y, vs = [y] ∧ rSetAll w0 y v H2 fun H3 => Q σ H3 := by
      refine hf.run _ takes_false env σ F H S _ s.st ?_
      revert q
      cases f env with
      | exc c ds e => exact fun q => q.elim
      | bad => exact fun q => q.elim
      | ok ops e1 =>
        intro q vs F1 H1 S1 T1 tr sp
        revert q
        show PostG X pr σ F H (T ++ S) Q ((resA e1 ops).bind fun k => setAt i o k e1) → _
        cases e2 : resA e1 ops with
        | none => exact fun q => q.elim
        | some ks =>
          show PostG X pr σ F H (T ++ S) Q (setAt i o ks e1) → _
          have rp := resA_ok sp.st sp.val e2
          have t1 : Trans F H S F1 H1 S1 := tr.sub fun x m => List.mem_append_right _ m
          have sa : Sta X.K F1 H1 σ e1 S1 [v] [o] T := s.over t1 sp.st
          have t2 : Trans F H (T ++ S) F1 H1 (T ++ S1) := ⟨fun a u e n => t1.fr a u e fun m => n (List.mem_append_right _ m), t1.ff, fun a u e => (t1.fn a u e).imp_right fun z => z.imp_left fun y => List.mem_append_right _ y,
            fun a m => (List.mem_append.mp m).elim (fun n => .inl (List.mem_append_left _ n)) fun n => (t1.sn a n).imp_left fun y => List.mem_append_right _ y, t1.dm⟩
          unfold setAt
          split
          · rename_i j os ho
            intro q
            cases hx : ixN os.length j with
            | none => rw [hx] at q; exact q.elim
            | some n =>
              rw [hx] at q
              obtain ⟨y, rfl, r1⟩ := rp.one
              cases r1.int_inv
              obtain ⟨l, us, fp, S0, hv, hl, ow, pm, sl⟩ := sp.st.own.takeL ho
              rw [hw0] at hv
              cases hv
              have nd : ((l :: fp) ++ S0).Nodup := pm.nodup_iff.mpr sp.st.nd
              have ndd := List.nodup_cons.mp (List.nodup_append.mp nd).1
              have lS : l ∈ S1 := pm.mem_iff.mp (List.mem_append_left _ List.mem_cons_self)
              have lT : l ∉ T := fun m => sa.as.ns l m lS
              have fpT : (fp ++ T).Nodup := List.nodup_append.mpr ⟨ndd.2, sa.nd, fun a m b n z => sa.as.ns b n (z ▸ pm.mem_iff.mp (List.mem_append_left _ (List.mem_cons_of_mem _ m)))⟩
              obtain ⟨fp', o1, m1, n1⟩ := Owns.set (H := upd H1 l (.lst (us.set n v))) n (ow.keep (Ex.refl _) fun a m w e => by rw [upd_ne (fun z => ndd.1 (by rw [← z]; exact m))]; exact e) (sa.one.keep (Ex.refl _) fun a m w e => by rw [upd_ne (fun z => lT (by rw [← z]; exact m))]; exact e) fpT
              obtain ⟨S', t3, st3⟩ := stt_mut (o := .lst os) sa hw0 pm sl (List.getElem?_eq_some_iff.mp ho).1 (.lst upd_same o1) (fun a m => by
                rcases List.mem_cons.mp m with rfl | m
                · exact List.mem_append_left _ List.mem_cons_self
                · exact (List.mem_append.mp (m1 a m)).elim (fun z => List.mem_append_left _ (List.mem_cons_of_mem _ z)) fun z => List.mem_append_right _ z) (List.nodup_cons.mpr ⟨fun m => (List.mem_append.mp (m1 l m)).elim ndd.1 lT, n1⟩)
              exact ⟨_, rfl, .inl ⟨l, us, j, n, rfl, rfl, hl, by rw [ow.length]; exact hx, q σ F1 _ S' (t2.trans t3) st3 Agree.refl⟩⟩
          · rename_i ky os ho
            intro q
            by_cases hk : isKey ky = true ∧ okPut os = true
            · rw [if_pos hk] at q
              obtain ⟨y, rfl, r1⟩ := rp.one
              obtain ⟨kk', rfl, hkk⟩ := key_of_rep r1 hk.1
              obtain ⟨l, kvs, fp, S0, hv, hl, nk, ow, pm, sl⟩ := sp.st.own.takeD ho
              rw [hw0] at hv
              cases hv
              have nd : ((l :: fp) ++ S0).Nodup := pm.nodup_iff.mpr sp.st.nd
              have ndd := List.nodup_cons.mp (List.nodup_append.mp nd).1
              have lS : l ∈ S1 := pm.mem_iff.mp (List.mem_append_left _ List.mem_cons_self)
              have lT : l ∉ T := fun m => sa.as.ns l m lS
              have fpT : (fp ++ T).Nodup := List.nodup_append.mpr ⟨ndd.2, sa.nd, fun a m b n z => sa.as.ns b n (z ▸ pm.mem_iff.mp (List.mem_append_left _ (List.mem_cons_of_mem _ m)))⟩
              obtain ⟨fp', o1, m1, n1⟩ := ownK_put (H := upd H1 l (.dK (putK kvs kk' v))) nk (ow.keep (Ex.refl _) fun a m w e => by rw [upd_ne (fun z => ndd.1 (by rw [← z]; exact m))]; exact e) hkk (sa.one.keep (Ex.refl _) fun a m w e => by rw [upd_ne (fun z => lT (by rw [← z]; exact m))]; exact e) fpT
              obtain ⟨S', t3, st3⟩ := stt_mut (o := .dic os) sa hw0 pm sl (List.getElem?_eq_some_iff.mp ho).1 (.dic upd_same (putK_keys nk).1 o1) (fun a m => by
                rcases List.mem_cons.mp m with rfl | m
                · exact List.mem_append_left _ List.mem_cons_self
                · exact (List.mem_append.mp (m1 a m)).elim (fun z => List.mem_append_left _ (List.mem_cons_of_mem _ z)) fun z => List.mem_append_right _ z) (List.nodup_cons.mpr ⟨fun m => (List.mem_append.mp (m1 l m)).elim ndd.1 lT, n1⟩)
              have hlen : kvs.length < sizeLine := by
                rw [ow.length]
                exact Nat.lt_of_lt_of_le (of_decide_eq_true hk.2) (by decide)
              exact ⟨_, rfl, .inr ⟨l, _, rfl, .inl ⟨kvs, kk', hl, rfl, hlen, rfl⟩, q σ F1 _ S' (t2.trans t3) st3 Agree.refl⟩⟩
            · rw [if_neg hk] at q
              exact q.elim
          · exact fun q => q.elim
    refine wE_mono hl fun y H1 h1 => ?_
    obtain ⟨y', e, h⟩ := h1
    cases e
    exact h
  · exact q.elim
end
end PyD
end

section
set_option Elab.async false
set_option linter.all false
set_option maxRecDepth 100000
namespace PyD
open PySem L2 PySem.Spec PyProof.Rows

/-! ### the block's own slots -/
def offE (p : Nat → Bool) : Nat → Env → Env
  | _, [] => []
  | k, x :: r => (if p k then none else x) :: offE p (k + 1) r
/-- .. given back -/
def onE (p : Nat → Bool) : Nat → Env → Env → Env
  | k, x :: r, y :: s => (if p k then y else x) :: onE p (k + 1) r s
  | _, e, _ => e
def offS (p : Nat → Bool) : Nat → L2.St → L2.St
  | _, [] => []
  | k, x :: r => (if p k then none else x) :: offS p (k + 1) r
theorem offS_get {p : Nat → Bool} : ∀ {σ : L2.St} {k i : Nat}, (offS p k σ)[i]? = (σ[i]?).map fun x => if p (k + i) then none else x
  | [], k, i => by simp [offS]
  | x :: r, k, 0 => by simp [offS]
  | x :: r, k, i + 1 => by
    simp only [offS, List.getElem?_cons_succ]
    rw [offS_get (σ := r)]
    have : k + 1 + i = k + (i + 1) := by omega
    rw [this]
theorem wipe_get {σ : L2.St} {i : Nat} : ∀ {vs : List Nat}, (wipe σ vs)[i]? = (σ[i]?).map fun x => if vs.contains i then none else x
  | [] => by simp [wipe]
  | v :: vs => by
    unfold wipe
    by_cases h : v = i
    · subst h
      by_cases hl : v < (wipe σ vs).length
      · rw [List.getElem?_set_self hl]
        rw [wipe_length] at hl
        simp [hl]
      · rw [List.getElem?_eq_none (by simpa using hl)]
        rw [wipe_length] at hl
        rw [List.getElem?_eq_none (by omega)]
        rfl
    · rw [List.getElem?_set_ne h, wipe_get (vs := vs)]
      have : (v :: vs).contains i = vs.contains i := by
        simp only [List.contains_cons]
        rw [show (i == v) = false by simpa using fun e => h e.symm]
        rfl
      rw [this]
theorem wipe_off {σ : L2.St} {vs : List Nat} : wipe σ vs = offS (fun i => vs.contains i) 0 σ := by
  apply List.ext_getElem?
  intro i
  rw [wipe_get, offS_get]
  simp
section
variable {K : PySem.W.Frag} {F H : Hp}
theorem off_slots {p : Nat → Bool} : ∀ {k : Nat} {σ : L2.St} {env : Env} {S : List Addr}, Slots K F H σ env S →
    ∃ S1 S2, Slots K F H (offS p k σ) (offE p k env) S1 ∧ (S1 ++ S2).Perm S ∧ Slots K F H σ (offE (fun i => !p i) k env) S2
  | k, _, _, _, .nil => ⟨[], [], .nil, List.Perm.refl _, .nil⟩
  | k, _, _, _, .no r => by
    obtain ⟨S1, S2, a, b, c⟩ := off_slots (p := p) (k := k + 1) r
    refine ⟨S1, S2, ?_, b, ?_⟩
    · simp only [offS, offE, ite_self]
      exact .no a
    · simp only [offE, ite_self]
      exact .no c
  | k, _, _, _, .yes (fp := fp) q r => by
    obtain ⟨S1, S2, a, b, c⟩ := off_slots (p := p) (k := k + 1) r
    by_cases h : p k = true
    · refine ⟨S1, fp ++ S2, ?_, ?_, ?_⟩
      · simp only [offS, offE, h, if_true]
        exact .no a
      · rw [← List.append_assoc]
        refine (List.Perm.append_right S2 (List.perm_append_comm (l₁ := S1) (l₂ := fp))).trans ?_
        rw [List.append_assoc]
        exact List.Perm.append_left _ b
      · simp only [offE, h, Bool.not_true, Bool.false_eq_true, if_false]
        exact .yes q c
    · simp only [Bool.not_eq_true] at h
      refine ⟨fp ++ S1, S2, ?_, ?_, ?_⟩
      · simp only [offS, offE, h, Bool.false_eq_true, if_false]
        exact .yes q a
      · rw [List.append_assoc]
        exact List.Perm.append_left _ b
      · simp only [offE, h, Bool.not_false, if_true]
        exact .no c
theorem on_slots {p : Nat → Bool} : ∀ {k : Nat} {σ : L2.St} {env env1 : Env} {S1 S2 : List Addr}, env.length = σ.length → Slots K F H (offS p k σ) (offE p k env) S1 → Slots K F H σ (offE (fun i => !p i) k env1) S2 →
    ∃ S, Slots K F H σ (onE p k (offE p k env) env1) S ∧ S.Perm (S1 ++ S2)
  | k, [], env, env1, S1, S2, hl, a, c => by
    cases env with
    | cons _ _ => simp at hl
    | nil =>
    cases a
    cases env1 with
    | cons _ _ => simp only [offE] at c; split at c <;> cases c
    | nil => cases c; exact ⟨[], .nil, List.Perm.refl _⟩
  | k, x :: σ, [], env1, S1, S2, hl, a, c => by simp at hl
  | k, x :: σ, y :: env, [], S1, S2, hl, a, c => by simp only [offE] at c; cases c
  | k, x :: σ, y :: env, z :: env1, S1, S2, hl, a, c => by
    have hl' : env.length = σ.length := by simpa using hl
    by_cases h : p k = true
    · simp only [offS, offE, h, if_true] at a
      simp only [offE, h, Bool.not_true, Bool.false_eq_true, if_false] at c
      simp only [offE, onE, h, if_true]
      cases a with
      | no a =>
        cases c with
        | no c =>
          obtain ⟨S, s, pm⟩ := on_slots hl' a c
          exact ⟨S, .no s, pm⟩
        | yes q c =>
          rename_i fp S3
          obtain ⟨S, s, pm⟩ := on_slots hl' a c
          refine ⟨fp ++ S, .yes q s, (List.Perm.append_left fp pm).trans ?_⟩
          rw [← List.append_assoc, ← List.append_assoc]
          exact List.Perm.append_right _ List.perm_append_comm
    · simp only [Bool.not_eq_true] at h
      simp only [offS, offE, h, Bool.false_eq_true, if_false] at a
      simp only [offE, h, Bool.not_false, if_true] at c
      simp only [offE, onE, h, Bool.false_eq_true, if_false]
      cases c with
      | no c =>
        cases a with
        | no a =>
          obtain ⟨S, s, pm⟩ := on_slots hl' a c
          exact ⟨S, .no s, pm⟩
        | yes q a =>
          rename_i fp S3
          obtain ⟨S, s, pm⟩ := on_slots hl' a c
          refine ⟨fp ++ S, .yes q s, ?_⟩
          rw [List.append_assoc]
          exact List.Perm.append_left _ pm
end
/-! ### [e for x in xs if t] -/
def compLoop (own : Nat → Bool) (h : O → Env → Option Env) (t : Env → R Bool) (e : Env → R O) : List O → Env → Option (List O × Env)
  | [], env => some ([], env)
  | o :: os, env => match h o env with
    | none => none
    | some e1 => match t e1 with
      | .ok true e2 => (match e e2 with
        | .ok y e3 => (compLoop own h t e os (offE own 0 e3)).map fun p => (y :: p.1, p.2)
        | _ => none)
      | .ok false e2 => compLoop own h t e os (offE own 0 e2)
      | _ => none
def tTrue : Env → R Bool := fun env => .ok true env
def ownP (own : List Nat) : Nat → Bool := fun i => own.contains i
def eComp (own : List Nat) (f : Env → R (List O)) (h : O → Env → Option Env) (t : Env → R Bool) (e : Env → R O) : Env → R O := fun env => match f env with
  | .ok os e1 => if os.length ≤ 1000000 then (match compLoop (ownP own) h t e os (offE (ownP own) 0 e1) with
    | some (ys, e2) => .ok (.lst ys) (onE (ownP own) 0 e2 e1)
    | none => .bad) else .bad
  | .exc c ds e => .exc c ds e
  | .bad => .bad
structure SndTs (X : Cx) (ifs : List Expr) (f : Env → R Bool) : Prop where
  run : ∀ W, Takes X W → ∀ env σ F H S Q, Stt X.K F H σ env S → PostT X W σ F H S Q (f env) → ∀ pins s, Inv X pins σ H s →
    wpAny (model X.prog X.w) X.A (forIn ifs true fun c r => if r = true then do let ok ← isTrue c X.env (eval c X.env); pure (ForInStep.yield ok) else pure (ForInStep.yield r)) (TP X pins σ Q) X.xe s
section
variable {n : Nat} {X : Cx}
theorem snd_tsnil : SndTs X [] tTrue := .mk fun W tk env σ F H S Q st q pins s I => pts_nil.run pins s σ H Q I (q F H S Trans.refl st)
theorem snd_tsone {c : Expr} {f : Env → R Bool} (h : SndT 0 X c f) : SndTs X [c] f := .mk fun W tk env σ F H S Q st q pins s I => (pts_one pt_w).run pins s σ H Q I (h.run W tk env σ F H S Q st q)
theorem offE_len {p : Nat → Bool} : ∀ {k : Nat} {env : Env}, (offE p k env).length = env.length
  | _, [] => rfl
  | k, x :: r => by simp [offE, offE_len (k := k + 1) (env := r)]
theorem offE_off {p : Nat → Bool} : ∀ {k : Nat} {env : Env}, offE p k (offE p k env) = offE p k env
  | _, [] => rfl
  | k, x :: r => by
    simp only [offE, offE_off (k := k + 1) (env := r)]
    split <;> rfl
/-- the list that grows, and the slots that wait outside -/
structure Acc (K : PySem.W.Frag) (σ : L2.St) (envB : Env) (SB : List Addr) (Dl : Addr) (F H : Hp) (S : List Addr) (accV : List V) (accO : List O) (A : List Addr) : Prop where
  at_ : H Dl = some (.lst accV)
  ow : Owns K F H accV accO A
  out : Slots K F H σ envB SB
  as : Aside F H S ((Dl :: A) ++ SB)
  nd : ((Dl :: A) ++ SB).Nodup
theorem Acc.over {K : PySem.W.Frag} {σ : L2.St} {envB : Env} {SB : List Addr} {Dl : Addr} {F H F' H' : Hp} {S S' : List Addr} {accV : List V} {accO : List O} {A : List Addr} (a : Acc K σ envB SB Dl F H S accV accO A) (t : Trans F H S F' H' S') : Acc K σ envB SB Dl F' H' S' accV accO A where
  at_ := t.fr _ _ a.at_ (a.as.ns _ (List.mem_append_left _ List.mem_cons_self))
  ow := a.ow.keep t.ff fun x m u e => t.fr x u e (a.as.ns x (List.mem_append_left _ (List.mem_cons_of_mem _ m)))
  out := a.out.keep t.ff fun x m u e => t.fr x u e (a.as.ns x (List.mem_append_right _ m))
  as := a.as.over t
  nd := a.nd
theorem Acc.sub {K : PySem.W.Frag} {σ : L2.St} {envB : Env} {SB : List Addr} {Dl : Addr} {F H : Hp} {S S' : List Addr} {accV : List V} {accO : List O} {A : List Addr} (a : Acc K σ envB SB Dl F H S accV accO A) (h : ∀ x ∈ S', x ∈ S) : Acc K σ envB SB Dl F H S' accV accO A :=
  ⟨a.at_, a.ow, a.out, ⟨fun x m n => a.as.ns x m (h x n), a.as.nf, a.as.lv⟩, a.nd⟩
/-- what is owned in all: the list, the block's slots, the waiting ones -/
theorem Trans.acc {F H F1 H1 F' H' : Hp} {S S1 S' B : List Addr} (a : Trans F H S F1 H1 (B ++ S1)) (t : Trans F1 H1 S1 F' H' S') : Trans F H S F' H' (B ++ S') :=
  a.trans ⟨fun x u e n => t.fr x u e fun m => n (List.mem_append_right _ m), t.ff, fun x u e => (t.fn x u e).imp_right fun z => z.imp_left fun y => List.mem_append_right _ y,
    fun x m => (List.mem_append.mp m).elim (fun n => .inl (List.mem_append_left _ n)) fun n => (t.sn x n).imp_left fun y => List.mem_append_right _ y, t.dm⟩
theorem off_eq {p : Nat → Bool} {σ σ' : L2.St} (hl : σ'.length = σ.length) (h : ∀ i, p i = false → σ'[i]? = (offS p 0 σ)[i]?) : offS p 0 σ' = offS p 0 σ := by
  apply List.ext_getElem?
  intro i
  have e := h i
  rw [offS_get] at e
  rw [offS_get, offS_get]
  simp only [Nat.zero_add] at e ⊢
  cases hp : p i with
  | true =>
    by_cases hi : i < σ.length
    · rw [List.getElem?_eq_getElem hi, List.getElem?_eq_getElem (by omega)]
      simp
    · rw [List.getElem?_eq_none (by omega), List.getElem?_eq_none (by omega)]
  | false =>
    rw [hp] at e
    rw [e rfl]
    cases σ[i]? <;> simp
theorem offS_len {p : Nat → Bool} : ∀ {k : Nat} {σ : L2.St}, (offS p k σ).length = σ.length
  | _, [] => rfl
  | k, x :: r => by simp [offS, offS_len (k := k + 1) (σ := r)]
section
variable (X : Cx) (tg : Expr) (ifs : List Expr) (elt : Expr) (scope : Scope)
def cG : TG := fun v σ H Q => ∀ s H0 C cl fp, wG (X.blk s H0 scope (compEnvC scope cl C X.env) fp) tg v σ H Q
def cT : TT := fun σ H Q => ∀ s H0 C cl fp pins s', Inv (X.blk s H0 scope (compEnvC scope cl C X.env) fp) pins σ H s' → wpAny (model X.prog X.w) X.A (forIn ifs true fun c r => if r = true then do let ok ← isTrue c (compEnvC scope cl C X.env) (eval c (compEnvC scope cl C X.env)); pure (ForInStep.yield ok) else pure (ForInStep.yield r)) (TP (X.blk s H0 scope (compEnvC scope cl C X.env) fp) pins σ Q) (fun _ _ => False) s'
def cE : TE := fun σ H Q => ∀ s H0 C cl fp, wE 0 (X.blk s H0 scope (compEnvC scope cl C X.env) fp) elt σ H Q
end
theorem comp_core {elt tg iter : Expr} {ifs : List Expr} {scope : Scope} {own : List (Str × Nat)} {f : Env → R (List O)} {h : O → Env → Option Env} {t : Env → R Bool} {e : Env → R O} (hi : SndI 0 X tg iter f)
    (hg : ∀ (s : Shared) (H : Hp) (C : Addr) (cl : List (Str × Addr)) (fp : List Addr), SndG (X.blk s H scope (compEnvC scope cl C X.env) fp) (fun i => !(ownP (own.map (·.2)) i)) tg h)
    (ht : ∀ (s : Shared) (H : Hp) (C : Addr) (cl : List (Str × Addr)) (fp : List Addr), SndTs (X.blk s H scope (compEnvC scope cl C X.env) fp) ifs t)
    (he : ∀ (s : Shared) (H : Hp) (C : Addr) (cl : List (Str × Addr)) (fp : List Addr), SndE 0 (X.blk s H scope (compEnvC scope cl C X.env) fp) elt e)
    {W : WX} (tk : Takes X W) {env : Env} {σ : L2.St} {F H : Hp} {S : List Addr} {Q : VK} (st : Stt X.K F H σ env S) (q : PostE X W σ F H S Q (eComp (own.map (·.2)) f h t e env)) :
    tLc (wI 0 X tg iter) (cG X tg scope) (cT X ifs scope) (cE X elt scope) (own.map (·.2)) σ H Q := by
  refine hi.run W tk env σ F H S _ st ?_
  unfold eComp at q
  generalize hvs : own.map (·.2) = vs at q hg
  revert q
  cases f env with
  | exc c ds e => exact fun q => q
  | bad => exact fun q => q
  | ok os e1 =>
    intro q J F1 H1 S1 tr s1 it Dl hD
    revert q
    show PostE X W σ F H S Q (if os.length ≤ 1000000 then (match compLoop (ownP vs) h t e os (offE (ownP vs) 0 e1) with
      | some (ys, e2) => .ok (.lst ys) (onE (ownP vs) 0 e2 e1)
      | none => .bad) else .bad) → _
    by_cases hsz : os.length ≤ 1000000
    · rw [if_pos hsz]
      cases hcl : compLoop (ownP vs) h t e os (offE (ownP vs) 0 e1) with
      | none => exact fun q => q.elim
      | some p =>
        obtain ⟨ys, e2⟩ := p
        intro q
        obtain ⟨SA, SB, a1, pm, b1⟩ := off_slots (p := ownP vs) (k := 0) s1.own
        have hw : wipe σ vs = offS (ownP vs) 0 σ := wipe_off
        have nd0 : (SA ++ SB).Nodup := pm.nodup_iff.mpr s1.nd
        have nd1 := List.nodup_append.mp nd0
        have hF1 : F1 Dl = none := by
          cases e : F1 Dl with
          | none => rfl
          | some u => rw [s1.sub _ u e] at hD; cases hD
        have nA : ∀ x ∈ SA ++ SB, x ≠ Dl := fun x m z => by
          obtain ⟨u, e⟩ := s1.own.live x (pm.mem_iff.mp m)
          rw [z, hD] at e; cases e
        have ex0 : Ex H1 (upd H1 Dl (.lst [])) := Ex.new hD
        refine ⟨fun i m H' => m = os.length - i ∧ i ≤ os.length ∧ ∃ env' F' S' accV accO A ys', Ex F1 F' ∧ Stt X.K F' H' (offS (ownP vs) 0 σ) (offE (ownP vs) 0 env') S' ∧ Acc X.K σ (offE (fun i => !ownP vs i) 0 e1) SB Dl F' H' S' accV accO A ∧ accV.length ≤ i ∧ env'.length = σ.length ∧
          Trans F H S F' H' (((Dl :: A) ++ SB) ++ S') ∧ compLoop (ownP vs) h t e (os.drop i) (offE (ownP vs) 0 env') = some (ys', e2) ∧ ys = accO ++ ys', ⟨os.length, by simp, Nat.zero_le _, e1, F1, SA, [], [], [], ys, Ex.refl _, ?_, ?_, Nat.le_refl _, s1.own.length.symm, ?_, by simpa using hcl, rfl⟩, ?_⟩
        · exact ⟨a1.keep (Ex.refl _) fun x _ u e => ex0 x u e, s1.sub.trans ex0, nd1.1, fun x m => s1.sep x (pm.mem_iff.mp (List.mem_append_left _ m))⟩
        · refine ⟨upd_same, .nil, b1.keep (Ex.refl _) fun x _ u e => ex0 x u e, ⟨fun x m n => ?_, fun x m => ?_, fun x m => ?_⟩, ?_⟩
          · rcases List.mem_append.mp m with m | m
            · have : x = Dl := by simpa using m
              exact nA x (List.mem_append_left _ n) this
            · exact nd1.2.2 x n x m rfl
          · rcases List.mem_append.mp m with m | m
            · have : x = Dl := by simpa using m
              rw [this]; exact hF1
            · exact s1.sep x (pm.mem_iff.mp (List.mem_append_right _ m))
          · rcases List.mem_append.mp m with m | m
            · have : x = Dl := by simpa using m
              rw [this]; exact ⟨_, upd_same⟩
            · obtain ⟨u, e⟩ := b1.live x m
              exact ⟨u, ex0 x u e⟩
          · exact List.nodup_cons.mpr ⟨fun m => nA Dl (List.mem_append_right _ (by simpa using m)) rfl, nd1.2.1⟩
        · refine ⟨fun x u e n => ex0 x u (tr.fr x u e n), tr.ff, tr.fn, fun x m => ?_, fun x e => tr.dm x ?_⟩
          · rcases List.mem_append.mp m with m | m
            · rcases List.mem_append.mp m with m | m
              · have : x = Dl := by simpa using m
                rw [this]; exact .inr (tr.dm _ hD)
              · exact tr.sn x (pm.mem_iff.mp (List.mem_append_right _ m))
            · exact tr.sn x (pm.mem_iff.mp (List.mem_append_left _ m))
          · by_cases z : x = Dl
            · rw [z]; exact hD
            · rw [upd_ne z] at e; exact e
        · rintro i m H' ⟨rfl, hi, env', F', S', accV, accO, A, ys', ex, s', acc, hlen, henv, trA, hl, hys⟩
          obtain ⟨go, stop⟩ := it F' H' ex s'.sub i
          by_cases hlt : i < os.length
          · obtain ⟨g, y⟩ := go os[i] (by simp [hlt])
            have hdrop : os.drop i = os[i] :: os.drop (i + 1) := by rw [List.drop_eq_getElem_cons hlt]
            rw [hdrop] at hl
            refine .inr ⟨g, fun H2 => ∃ env' F' S' accV accO A ys', Ex F1 F' ∧ Stt X.K F' H2 (offS (ownP vs) 0 σ) (offE (ownP vs) 0 env') S' ∧ Acc X.K σ (offE (fun i => !ownP vs i) 0 e1) SB Dl F' H2 S' accV accO A ∧ accV.length ≤ i + 1 ∧ env'.length = σ.length ∧
              Trans F H S F' H2 (((Dl :: A) ++ SB) ++ S') ∧ compLoop (ownP vs) h t e (os.drop (i + 1)) (offE (ownP vs) 0 env') = some (ys', e2) ∧ ys = accO ++ ys', fun H2 z => ⟨os.length - (i + 1), by omega, rfl, hlt, z⟩, fun x H2 hy s0 H0 C cl fp => ?_⟩
            obtain ⟨F2, T, t2, ow, sb, nd, sep⟩ := y x H2 hy
            obtain ⟨t3, s3, as3⟩ := s'.grow t2 sb nd sep fun a m => ow.live a m
            rw [hw]
            refine (hg s0 H0 C cl fp).run x os[i] T (offE (ownP vs) 0 env') (offS (ownP vs) 0 σ) F2 H2 S' _ (sta_one s3 ow nd as3) ?_
            unfold compLoop at hl
            revert hl
            cases h os[i] (offE (ownP vs) 0 env') with
            | none => exact fun hl => by cases hl
            | some e3 =>
              intro hl σ4 F4 H4 S4 t4 s4 a4
              have hσ4 : offS (ownP vs) 0 σ4 = offS (ownP vs) 0 σ := off_eq (by rw [a4.1, offS_len]) fun j hj => a4.2 j (by simp [hj])
              refine ⟨by rw [wipe_off]; exact hσ4, fun s0 H0 C cl fp pins s'' I => (ht s0 H0 C cl fp).run _ takes_false e3 σ4 F4 H4 S4 _ s4 ?_ pins s'' I⟩
              have t34 : Trans F' H' S' F4 H4 S4 := t3.trans t4
              have hlen4 : σ4.length = σ.length := by rw [a4.1, offS_len]
              revert hl
              show (match t e3 with
                | .ok true e2 => (match e e2 with
                  | .ok y e3 => (compLoop (ownP vs) h t e (os.drop (i + 1)) (offE (ownP vs) 0 e3)).map fun p => (y :: p.1, p.2)
                  | _ => none)
                | .ok false e2 => compLoop (ownP vs) h t e (os.drop (i + 1)) (offE (ownP vs) 0 e2)
                | _ => none) = some (ys', e2) → _
              -- the slots again as at a turn's start
              have back : ∀ {F5 H5 : Hp} {e5 : Env} {S5 : List Addr}, Trans F' H' S' F5 H5 S5 → Stt X.K F5 H5 σ4 e5 S5 → ∃ S6, Stt X.K F5 H5 (offS (ownP vs) 0 σ) (offE (ownP vs) 0 e5) S6 ∧ (∀ a ∈ S6, a ∈ S5) ∧ e5.length = σ.length := fun {F5 H5 e5 S5} t5 s5 => by
                obtain ⟨S6, S7, c1, c2, _⟩ := off_slots (p := ownP vs) (k := 0) s5.own
                rw [hσ4] at c1
                have nd6 := c2.nodup_iff.mpr s5.nd
                exact ⟨S6, ⟨c1, s5.sub, (List.nodup_append.mp nd6).1, fun a m => s5.sep a (c2.mem_iff.mp (List.mem_append_left _ m))⟩, fun a m => c2.mem_iff.mp (List.mem_append_left _ m), by rw [← s5.own.length, hlen4]⟩
              cases t e3 with
              | exc c ds e => exact fun hl => by cases hl
              | bad => exact fun hl => by cases hl
              | ok b e4 =>
                cases b with
                | false =>
                  intro hl F5 H5 S5 t5 s5
                  have t35 := t34.trans t5
                  obtain ⟨S6, s6, m6, l6⟩ := back t35 s5
                  exact ⟨e4, F5, S6, accV, accO, A, ys', ex.trans t35.ff, s6, (acc.over t35).sub m6, Nat.le_succ_of_le hlen, l6, (Trans.acc trA t35).sub fun a m => (List.mem_append.mp m).elim (fun n => List.mem_append_left _ n) fun n => List.mem_append_right _ (m6 a n), hl, hys⟩
                | true =>
                  show (match e e4 with
                    | .ok y e3 => (compLoop (ownP vs) h t e (os.drop (i + 1)) (offE (ownP vs) 0 e3)).map fun p => (y :: p.1, p.2)
                    | _ => none) = some (ys', e2) → _
                  intro hl F5 H5 S5 t5 s5
                  show ∀ s H0 C cl fp, wE 0 (X.blk s H0 scope (compEnvC scope cl C X.env) fp) elt σ4 H5 _
                  intro s0 H0 C cl fp
                  refine (he s0 H0 C cl fp).run _ takes_false e4 σ4 F5 H5 S5 _ s5 ?_
                  revert hl
                  cases e e4 with
                  | exc c ds e => exact fun hl => by cases hl
                  | bad => exact fun hl => by cases hl
                  | ok yo e5 =>
                    intro hl v F6 H6 S6 T6 t6 sa6
                    simp only [Option.map_eq_some_iff] at hl
                    obtain ⟨⟨ys'', e2'⟩, hl, he2⟩ := hl
                    cases he2
                    have t36 : Trans F' H' S' F6 H6 (T6 ++ S6) := (t34.trans t5).trans t6
                    have acc6 := acc.over t36
                    have nd6 := List.nodup_cons.mp (List.nodup_append.mp acc6.nd).1
                    have dT : ∀ a ∈ T6, a ≠ Dl := fun a m z => acc6.as.ns Dl (List.mem_append_left _ List.mem_cons_self) (List.mem_append_left _ (z ▸ m))
                    have dS : ∀ a ∈ S6, a ≠ Dl := fun a m z => acc6.as.ns Dl (List.mem_append_left _ List.mem_cons_self) (List.mem_append_right _ (z ▸ m))
                    have dA : ∀ a ∈ A, a ≠ Dl := fun a m z => nd6.1 (z ▸ m)
                    have ndAS := List.nodup_append.mp acc6.nd
                    have dB : ∀ a ∈ SB, a ≠ Dl := fun a m z => ndAS.2.2 Dl List.mem_cons_self a m z.symm
                    obtain ⟨S7, s7, m7, l7⟩ := back (t36.sub fun a m => List.mem_append_right _ m) sa6.st
                    refine ⟨accV, acc6.at_, Nat.lt_of_le_of_lt hlen (Nat.lt_of_lt_of_le hlt (Nat.le_trans hsz (by decide))), e5, F6, S7, accV ++ [v], accO ++ [yo], A ++ T6, ys'', ex.trans t36.ff, ⟨s7.own.keep (Ex.refl _) fun a m u e => by rw [upd_ne (dS a (m7 a m))]; exact e, fun a u e => ?_, s7.nd, s7.sep⟩, ⟨upd_same, Owns.append (acc6.ow.keep (Ex.refl _) fun a m u e => by rw [upd_ne (dA a m)]; exact e) ?_, acc6.out.keep (Ex.refl _) fun a m u e => by rw [upd_ne (dB a m)]; exact e, ⟨fun a m n => ?_, fun a m => ?_, fun a m => ?_⟩, ?_⟩, by simp; exact hlen, l7, ?_, hl, by rw [hys]; simp⟩
                    · have hn : a ≠ Dl := fun z => by
                        rw [z, acc6.as.nf Dl (List.mem_append_left _ List.mem_cons_self)] at e; cases e
                      rw [upd_ne hn]; exact sa6.st.sub a u e
                    · have := sa6.one.keep (H' := upd H6 Dl (.lst (accV ++ [v]))) (Ex.refl _) fun a m u e => by rw [upd_ne (dT a m)]; exact e
                      simpa using Owns.cons this Owns.nil
                    · have key : a ∈ ((Dl :: A) ++ SB) ∨ a ∈ T6 := by
                        rcases List.mem_append.mp m with m | m
                        · rcases List.mem_cons.mp m with rfl | m
                          · exact .inl (List.mem_append_left _ List.mem_cons_self)
                          · rcases List.mem_append.mp m with m | m
                            · exact .inl (List.mem_append_left _ (List.mem_cons_of_mem _ m))
                            · exact .inr m
                        · exact .inl (List.mem_append_right _ m)
                      rcases key with k | k
                      · exact acc6.as.ns a k (List.mem_append_right _ (m7 a n))
                      · exact sa6.as.ns a k (m7 a n)
                    · have key : a ∈ ((Dl :: A) ++ SB) ∨ a ∈ T6 := by
                        rcases List.mem_append.mp m with m | m
                        · rcases List.mem_cons.mp m with rfl | m
                          · exact .inl (List.mem_append_left _ List.mem_cons_self)
                          · rcases List.mem_append.mp m with m | m
                            · exact .inl (List.mem_append_left _ (List.mem_cons_of_mem _ m))
                            · exact .inr m
                        · exact .inl (List.mem_append_right _ m)
                      exact key.elim (acc6.as.nf a) (sa6.as.nf a)
                    · by_cases z : a = Dl
                      · rw [z]; exact ⟨_, upd_same⟩
                      · have key : a ∈ ((Dl :: A) ++ SB) ∨ a ∈ T6 := by
                          rcases List.mem_append.mp m with m | m
                          · rcases List.mem_cons.mp m with rfl | m
                            · exact .inl (List.mem_append_left _ List.mem_cons_self)
                            · rcases List.mem_append.mp m with m | m
                              · exact .inl (List.mem_append_left _ (List.mem_cons_of_mem _ m))
                              · exact .inr m
                          · exact .inl (List.mem_append_right _ m)
                        rw [upd_ne z]
                        exact key.elim (acc6.as.lv a) (sa6.as.lv a)
                    · refine List.nodup_append.mpr ⟨List.nodup_cons.mpr ⟨fun m => (List.mem_append.mp m).elim nd6.1 fun n => dT Dl n rfl, List.nodup_append.mpr ⟨nd6.2, sa6.nd, fun a m b n z => acc6.as.ns a (List.mem_append_left _ (List.mem_cons_of_mem _ m)) (List.mem_append_left _ (z ▸ n))⟩⟩, ndAS.2.1, fun a m b n z => ?_⟩
                      rcases List.mem_cons.mp m with rfl | m
                      · exact dB b n z.symm
                      · rcases List.mem_append.mp m with m | m
                        · exact ndAS.2.2 a (List.mem_cons_of_mem _ m) b n z
                        · exact acc6.as.ns b (List.mem_append_right _ n) (List.mem_append_left _ (z ▸ m))
                    · have tA := Trans.acc trA t36
                      refine ⟨fun a u e n => ?_, tA.ff, tA.fn, fun a m => tA.sn a ?_, fun a e => tA.dm a ?_⟩
                      · have hu := tA.fr a u e n
                        by_cases z : a = Dl
                        · have : H Dl = none := by
                            rcases trA.sn Dl (List.mem_append_left _ (List.mem_append_left _ List.mem_cons_self)) with y | y
                            · exact absurd (z ▸ y) n
                            · exact y
                          rw [z, this] at e; cases e
                        · rw [upd_ne z]; exact hu
                      · rcases List.mem_append.mp m with m | m
                        · rcases List.mem_append.mp m with m | m
                          · rcases List.mem_cons.mp m with rfl | m
                            · exact List.mem_append_left _ (List.mem_append_left _ List.mem_cons_self)
                            · rcases List.mem_append.mp m with m | m
                              · exact List.mem_append_left _ (List.mem_append_left _ (List.mem_cons_of_mem _ m))
                              · exact List.mem_append_right _ (List.mem_append_left _ m)
                          · exact List.mem_append_left _ (List.mem_append_right _ m)
                        · exact List.mem_append_right _ (List.mem_append_right _ (m7 a m))
                      · by_cases z : a = Dl
                        · rw [z, upd_same] at e; cases e
                        · rw [upd_ne z] at e; exact e
          · have ei : i = os.length := by omega
            subst ei
            rw [List.drop_length] at hl
            simp only [compLoop, Option.some.injEq, Prod.mk.injEq] at hl
            obtain ⟨rfl, rfl⟩ := hl
            refine .inl ⟨stop (Nat.le_refl _), ?_⟩
            obtain ⟨S8, s8, pm8⟩ := on_slots (p := ownP vs) (k := 0) (env1 := e1) henv s'.own acc.out
            have ndA := List.nodup_append.mp acc.nd
            have nd8 : (S' ++ SB).Nodup := List.nodup_append.mpr ⟨s'.nd, ndA.2.1, fun a m b n z => acc.as.ns b (List.mem_append_right _ n) (z ▸ m)⟩
            rw [List.append_nil] at hys
            subst hys
            refine q (.ref Dl) F' H' S8 (Dl :: A) (trA.sub fun a m => ?_) (sta_one ⟨s8, s'.sub, pm8.nodup_iff.mpr nd8, fun a m => ?_⟩ (.lst acc.at_ acc.ow) ndA.1 ⟨fun a m n => ?_, fun a m => acc.as.nf a (List.mem_append_left _ m), fun a m => acc.as.lv a (List.mem_append_left _ m)⟩)
            · rcases List.mem_append.mp m with m | m
              · exact List.mem_append_left _ (List.mem_append_left _ m)
              · rcases List.mem_append.mp (pm8.mem_iff.mp m) with m | m
                · exact List.mem_append_right _ m
                · exact List.mem_append_left _ (List.mem_append_right _ m)
            · rcases List.mem_append.mp (pm8.mem_iff.mp m) with m | m
              · exact s'.sep a m
              · exact acc.as.nf a (List.mem_append_right _ m)
            · rcases List.mem_append.mp (pm8.mem_iff.mp n) with n | n
              · exact acc.as.ns a (List.mem_append_left _ m) n
              · exact ndA.2.2 a m a n rfl
    · rw [if_neg hsz]
      exact fun q => q.elim
theorem pg_c {X : Cx} {tg : Expr} {scope : Scope} (s : Shared) (H : Hp) (C : Addr) (cl : List (Str × Addr)) (fp : List Addr) : PG (X.blk s H scope (compEnvC scope cl C X.env) fp) tg (cG X tg scope) :=
  ⟨fun pins s' σ H1 v u Q I r h => h s H C cl fp pins s' u I r⟩
theorem pt_c {X : Cx} {ifs : List Expr} {scope : Scope} (s : Shared) (H : Hp) (C : Addr) (cl : List (Str × Addr)) (fp : List Addr) : PTs (X.blk s H scope (compEnvC scope cl C X.env) fp) ifs (cT X ifs scope) :=
  ⟨fun pins s' σ H1 Q I h => h s H C cl fp pins s' I⟩
theorem pe_c {X : Cx} {elt : Expr} {scope : Scope} (s : Shared) (H : Hp) (C : Addr) (cl : List (Str × Addr)) (fp : List Addr) : PE (X.blk s H scope (compEnvC scope cl C X.env) fp) elt (cE X elt scope) :=
  ⟨fun pins s' σ H1 Q I h => wE_run (h s H C cl fp) pins s' (Nat.zero_le _) I⟩
theorem snd_comp {elt tg iter : Expr} {ifs : List Expr} {scope : Scope} {own : List (Str × Nat)} {pos : Pos} {f : Env → R (List O)} {h : O → Env → Option Env} {t : Env → R Bool} {e : Env → R O} (hc : X.calm = true) (hN : X.N.Nodup) (hi : SndI 0 X tg iter f) (ok : BlkOk X.N X.env.scope scope own)
    (hg : ∀ (s : Shared) (H : Hp) (C : Addr) (cl : List (Str × Addr)) (fp : List Addr), SndG (X.blk s H scope (compEnvC scope cl C X.env) fp) (fun i => !(ownP (own.map (·.2)) i)) tg h)
    (ht : ∀ (s : Shared) (H : Hp) (C : Addr) (cl : List (Str × Addr)) (fp : List Addr), SndTs (X.blk s H scope (compEnvC scope cl C X.env) fp) ifs t)
    (he : ∀ (s : Shared) (H : Hp) (C : Addr) (cl : List (Str × Addr)) (fp : List Addr), SndE 0 (X.blk s H scope (compEnvC scope cl C X.env) fp) elt e)
    (hs : ∀ x, foldedSetIterable iter X.env x = pure x := by intro _; rfl) : SndE n X (.ListComp elt [⟨tg, iter, ifs, 0⟩] scope pos) (eComp (own.map (·.2)) f h t e) := .mk fun W tk env σ F H S Q st q =>
  wE_of (pe_lc hc hN pi_w ok pg_c pt_c pe_c hs) (comp_core hi hg ht he tk st q)
/-- name = [..], the name a local of the def -/
theorem snd_setc {pr : Nat → Bool} {i : Nat} {y : Str} {py spos : Pos} {elt tg iter : Expr} {ifs : List Expr} {scope : Scope} {own : List (Str × Nat)} {pos : Pos} {f : Env → R (List O)} {h : O → Env → Option Env} {t : Env → R Bool} {e : Env → R O} (hc : X.calm = true) (hN : X.N.Nodup)
    (hy : X.N[i]? = some y) (hyl : X.env.scope.names.lookup y = some .local) (hp : pr i = false) (hsw : swapsWith (.ListComp elt [⟨tg, iter, ifs, 0⟩] scope pos) (some (.Name y py)) spos.line X.env = pure true)
    (hi : SndI 0 X tg iter f) (ok : BlkOk X.N X.env.scope scope own)
    (hg : ∀ (s : Shared) (H : Hp) (C : Addr) (cl : List (Str × Addr)) (fp : List Addr), SndG (X.blk s H scope (compEnvC scope cl C X.env) fp) (fun i => !(ownP (own.map (·.2)) i)) tg h)
    (ht : ∀ (s : Shared) (H : Hp) (C : Addr) (cl : List (Str × Addr)) (fp : List Addr), SndTs (X.blk s H scope (compEnvC scope cl C X.env) fp) ifs t)
    (he : ∀ (s : Shared) (H : Hp) (C : Addr) (cl : List (Str × Addr)) (fp : List Addr), SndE 0 (X.blk s H scope (compEnvC scope cl C X.env) fp) elt e)
    (hs : ∀ x, foldedSetIterable iter X.env x = pure x := by intro _; rfl) : SndS n X pr (.Assign [.Name y py] (.ListComp elt [⟨tg, iter, ifs, 0⟩] scope pos) spos) (sAsg (eComp (own.map (·.2)) f h t e) (gN i)) := by
  refine .mk fun W tk env σ F H S D st q => ?_
  refine wS_of (ps_setLc hc hN hy hyl hsw pi_w ok pg_c pt_c pe_c hs) (comp_core (Q := fun x H1 => gName i x σ H1 D.nx) hi hg ht he tk st ?_)
  unfold sAsg at q
  revert q
  cases eComp (own.map (·.2)) f h t e env with
  | exc c ds e => exact fun q => ExcPostS.e q
  | bad => exact fun q => q
  | ok o e1 =>
    intro q v F1 H1 S1 T tr s
    revert q
    show PostS X W pr σ F H S D (match (if i < e1.length then some (e1.set i (some o)) else none) with
      | some e' => .ok .nx e'
      | none => .bad) → _
    by_cases hl : i < e1.length
    · rw [if_pos hl]
      intro q
      obtain ⟨S', t, st'⟩ := stt_store s hl
      exact q _ _ _ _ (tr.trans t) st' (Agree.set hp)
    · rw [if_neg hl]
      exact fun q => q.elim

end
end PyD
end

section
set_option Elab.async false
set_option linter.all false
set_option maxRecDepth 100000
namespace PyD
open PySem L2 PySem.Spec PyProof.Rows
/-! ### a, *b = a list -/
section
variable {prog : Program} {w : World} {A : Around} {E : Value → Shared → Prop} {s : Shared}
theorem walks_from1 (hh : A.handled = none) (I ax : Addr) (hne : ax ≠ I) (items : Array Value) (h1 : 1 ≤ items.size) :
    Walks prog w A I [I, ax] [I] (items.size - 1) (fun i v => items[i + 1]? = some v) (fun i h => h.IsListIter I ax (i + 1) ∧ h.IsList ax items) where
  sub := fun b hb => by simp at hb; simp [hb]
  frame := fun _ _ _ st hk => ⟨st.1.at fun o e => hk I (by simp) o e, st.2.at fun o e => hk ax (by simp) o e⟩
  item := fun i s Q E hi st hQ => by
    have hi' : i + 1 < items.size := by omega
    refine wpAny_pyNext_list_item st.1 st.2 (x := items[i + 1]) (by simp [hi']) fun h' hit' hs' => ?_
    exact hQ _ h' s.toks (by simp [hi']) ⟨hit', st.2.extBut hs'.extBut hne⟩ fun b o hb e => hs'.extBut b o (fun h => hb (by simp [h])) e
  done := fun s Q E st hQ => wpAny_pyNext_list_end hh st.1 st.2 (by
    have : items.size - 1 + 1 = items.size := by omega
    rw [this]; simp) fun h' he' => hQ h' s.toks fun b o hb e => he' b o (fun h => hb (by simp [h])) e
  self := fun _ _ _ _ st hQ => wpAny_pyIter_listiter st.1 hQ
theorem unpack_star1 {l : Addr} {x : Value} {rest : List Value} {Q : List Value → Shared → Prop} (hh : A.handled = none) (hl : s.heap.IsList l (x :: rest).toArray) (hz : rest.length ≤ sizeLine)
    (hQ : ∀ s', (∀ b o, s.heap.get? b = some o → s'.heap.get? b = some o) → s'.gens = s.gens → s'.drawn = s.drawn → s'.os = s.os → wpAny (model prog w) A (newList rest >>= fun v => pure ([x] ++ [v] ++ [])) Q E s') :
    wpAny (model prog w) A (unpackItems (.ref l) 2 (some 1)) Q E s := by
  have hlt : l ≠ s.heap.objs.size := by obtain ⟨o, ho, _⟩ := hl; exact Nat.ne_of_lt (Heap.lt_size ho)
  have hls : l < s.heap.objs.size := by obtain ⟨o, ho, _⟩ := hl; exact Heap.lt_size ho
  unfold unpackItems
  refine wpAny_bind ?_
  unfold notIterableAtAll
  refine wpAny_bind (wpAny_specialOf hl.typeIs slot_list_iter.lookup ?_)
  refine wpAny_pure ?_
  simp only [Bool.false_eq_true, if_false]
  refine wpAny_bind (wpAny_holding (wpAny_pyIter_list hl ?_))
  refine wpAny_bind (wpAny_holding (PySem.W.kun_draw hlt 1 0 _ _ ⟨_, Heap.get?_push_size _ rfl, rfl, rfl⟩ (hl.push _) (by simp) fun h₁ hit₁ hs₁ => ?_))
  have e1 : List.take 1 (List.drop 0 (x :: rest).toArray.toList) = [x] := by simp
  rw [e1]
  rw [if_neg (by simp)]
  have hl₁ : h₁.IsList l (x :: rest).toArray := (hl.push _).extBut hs₁.extBut hlt
  have W := walks_from1 (prog := prog) (w := w) (A := A.in1) (by exact hh) s.heap.objs.size l hlt (x :: rest).toArray (by simp)
  refine wpAny_bind (wpAny_holding (wpAny_collect_iter (s := { s with heap := h₁ }) (T := "list_iterator") (.inr (.inr (.inl rfl))) W.toS (fun i s' st => ?_) ⟨hit₁, hl₁⟩ (fun b hb => ?_) (by simp) (fun s' acc mv it => ?_) (by simp; omega)))
  · obtain ⟨⟨o, ho, hc, _⟩, _⟩ := st
    exact ⟨o, ho, hc⟩
  · have hsz : s.heap.objs.size < h₁.objs.size := by obtain ⟨o, ho, _⟩ := hit₁; exact Heap.lt_size ho
    have e' : b = s.heap.objs.size ∨ b = l := by simpa using hb
    rcases e' with rfl | rfl
    · exact hsz
    · exact Nat.lt_trans hls hsz
  · have ea : acc.toList = rest := by
      apply List.ext_getElem?
      intro j
      have hsz : acc.size = rest.length := by rw [it.1]; simp
      by_cases hj : j < rest.length
      · have h2 := it.2 j (acc[j]'(by omega)) (by simp [hsz, hj])
        have h3 : acc.toList[j]? = some (acc[j]'(by omega)) := by simp [hsz, hj]
        rw [h3, ← h2]
        simp
      · rw [List.getElem?_eq_none (by simpa using by omega), List.getElem?_eq_none (by omega)]
    rw [ea]
    have e2 : (2 : Nat) - 1 - 1 = 0 := rfl
    rw [e2, if_neg (by omega)]
    have e3 : rest.take (rest.length - 0) = rest := by simp
    have e4 : rest.drop (rest.length - 0) = [] := by simp
    rw [e3, e4]
    refine hQ s' (fun b o hb => ?_) mv.gens mv.drawn mv.os
    refine mv.heap b o (fun m => ?_) ?_
    · have : b = s.heap.objs.size := by simpa using m
      rw [this] at hb
      exact absurd (Heap.lt_size hb) (Nat.lt_irrefl _)
    · exact hs₁.extBut b o (Nat.ne_of_lt (Heap.lt_size hb)) (Heap.get?_push_of_some _ hb)
end
section
variable {n : Nat} {X : Cx} {pr : Nat → Bool}
theorem wG_star {a b : Expr} {k : Nat} {x1 pos : Pos} {v : V} {σ : L2.St} {H : Hp} {Q : L2.St → Hp → Prop} (hc : X.calm = true)
    (hl : ((assignEach [a, .Starred b x1] X.env).map (·.2)) = ((assignEach [a, b] X.env).map (·.2)) := by rfl) (hn : (assignEach [a, .Starred b x1] X.env).length = 2 := by rfl) (hst : (assignEach [a, .Starred b x1] X.env).findIdx? (·.1) = some 1 := by rfl)
    (h : ∃ l x xs, v = .ref l ∧ SqL X.K H l (x :: xs) ∧ ∀ p, H p = none → wGs X [a, b] [x, .ref p] σ (upd H p (.lst xs)) Q) : wG X (.Tuple [a, .Starred b x1] k pos) v σ H Q := by
  intro pins s u I r
  obtain ⟨l, x, xs, rfl, hR, hw⟩ := h
  cases r
  obtain ⟨z, its, n, sl, rv, hlen, e⟩ := rdL I hR
  cases rv with
  | cons r1 rs =>
    rename_i u1 us
    rw [PyProof.Rows.assign_Tuple]
    refine wpAny_bind (wpAny_standAt ?_)
    unfold unpack
    rw [hn, hst, hl]
    have hz : us.length ≤ sizeLine := by rw [← rs.length]; simp at z; omega
    refine wpAny_bind (wpAny_holding (unpack_star1 (I.ok.hd hc) ⟨_, e, rfl, n, rfl⟩ hz fun s' kp g1 g2 g3 => ?_))
    obtain ⟨hp, g, d, tk, os⟩ := s'
    simp only at g1 g2 g3
    subst g1 g2 g3
    have I1 : Inv X pins σ H { s with heap := hp, toks := tk } := I.kept kp
    refine wpAny_bind (wpAny_newObj_type (wpAny_pure ?_) hz)
    have I2 := I1.lnew (t' := tk) rs (by rw [rs.length]; exact hz)
    exact hw _ I1.fresh pins _ _ I2 (.cons r1 (.cons rfl .nil))
def gStar1 (hs : List O → Env → Option Env) : O → Env → Option Env
  | .lst (o :: os), env => hs [o, .lst os] env
  | .fz (.lst (d :: ds)), env => hs [.fz d, .lst (ds.map .fz)] env
  | _, _ => none
theorem snd_gstar {a b : Expr} {k : Nat} {x1 pos : Pos} {hs : List O → Env → Option Env} (hc : X.calm = true) (h : SndGs X pr [a, b] hs)
    (hl : ((assignEach [a, .Starred b x1] X.env).map (·.2)) = ((assignEach [a, b] X.env).map (·.2)) := by rfl) (hn : (assignEach [a, .Starred b x1] X.env).length = 2 := by rfl) (hst : (assignEach [a, .Starred b x1] X.env).findIdx? (·.1) = some 1 := by rfl) : SndG X pr (.Tuple [a, .Starred b x1] k pos) (gStar1 hs) := by
  refine .mk fun v o T env σ F H S Q s q => ?_
  refine wG_star hc hl hn hst ?_
  have ow := s.one
  have newL : ∀ {x : V} {xs : List V} {o1 : O} {os : List O} {T1 : List Addr} {p : Addr}, Owns X.K F H (x :: xs) (o1 :: os) T1 → (∀ a ∈ T1, a ∈ T) → T1.Nodup → H p = none → PostG X pr σ F H (T ++ S) Q (hs [o1, .lst os] env) → wGs X [a, b] [x, .ref p] σ (upd H p (.lst xs)) Q := by
    intro x xs o1 os T1 p ow1 sub nd1 hp q
    have ex : Ex H (upd H p (.lst xs)) := Ex.new hp
    have hF : F p = none := s.st.sub.none hp
    cases ow1 with
    | cons b1 b2 =>
      rename_i fp fq
      have nT : ∀ a ∈ T, a ≠ p := fun a m z => by
        obtain ⟨u, e⟩ := s.as.lv a m
        rw [z, hp] at e; cases e
      have nS : ∀ a ∈ S, a ≠ p := fun a m z => by
        obtain ⟨u, e⟩ := s.st.own.live a m
        rw [z, hp] at e; cases e
      have nd2 := List.nodup_append.mp nd1
      have own2 : Owns X.K F (upd H p (.lst xs)) [x, .ref p] [o1, .lst os] (fp ++ (p :: fq)) := by
        have c2 : Own X.K F (upd H p (.lst xs)) (.ref p) (.lst os) (p :: fq) := .lst upd_same (b2.keep (Ex.refl _) fun a _ u e => ex a u e)
        have := Owns.cons (b1.keep (H' := upd H p (.lst xs)) (Ex.refl _) fun a _ u e => ex a u e) (Owns.cons c2 Owns.nil)
        simpa using this
      have st2 : Stt X.K F (upd H p (.lst xs)) σ env S := ⟨s.st.own.keep (Ex.refl _) fun a _ u e => ex a u e, s.st.sub.trans ex, s.st.nd, s.st.sep⟩
      refine h.run [x, .ref p] [o1, .lst os] (fp ++ (p :: fq)) env σ F (upd H p (.lst xs)) S Q ⟨st2, own2, ?_, ⟨fun a m n => ?_, fun a m => ?_, fun a m => ?_⟩⟩ (PostG.over q ?_ Agree.refl)
      · refine List.nodup_append.mpr ⟨nd2.1, List.nodup_cons.mpr ⟨fun m => nT p (sub p (List.mem_append_right _ m)) rfl, nd2.2.1⟩, fun a m b n z => ?_⟩
        rcases List.mem_cons.mp n with rfl | n
        · exact nT a (sub a (List.mem_append_left _ m)) z
        · exact nd2.2.2 a m b n z
      · rcases List.mem_append.mp m with m | m
        · exact s.as.ns a (sub a (List.mem_append_left _ m)) n
        · rcases List.mem_cons.mp m with rfl | m
          · exact nS a n rfl
          · exact s.as.ns a (sub a (List.mem_append_right _ m)) n
      · rcases List.mem_append.mp m with m | m
        · exact s.as.nf a (sub a (List.mem_append_left _ m))
        · rcases List.mem_cons.mp m with rfl | m
          · exact hF
          · exact s.as.nf a (sub a (List.mem_append_right _ m))
      · rcases List.mem_append.mp m with m | m
        · obtain ⟨u, e⟩ := s.as.lv a (sub a (List.mem_append_left _ m))
          exact ⟨u, ex a u e⟩
        · rcases List.mem_cons.mp m with rfl | m
          · exact ⟨_, upd_same⟩
          · obtain ⟨u, e⟩ := s.as.lv a (sub a (List.mem_append_right _ m))
            exact ⟨u, ex a u e⟩
      · refine ⟨fun a u e _ => ex a u e, Ex.refl _, fun a u e => .inl ⟨u, e⟩, fun a m => ?_, fun a e => ?_⟩
        · rcases List.mem_append.mp m with m | m
          · rcases List.mem_append.mp m with m | m
            · exact .inl (List.mem_append_left _ (sub a (List.mem_append_left _ m)))
            · rcases List.mem_cons.mp m with rfl | m
              · exact .inr hp
              · exact .inl (List.mem_append_left _ (sub a (List.mem_append_right _ m)))
          · exact .inl (List.mem_append_right _ m)
        · by_cases z : a = p
          · rw [z, upd_same] at e; cases e
          · rw [upd_ne z] at e; exact e
  unfold gStar1 at q
  split at q
  · rename_i o1 os
    cases ow with
    | lst e b =>
      rename_i l vs fp
      cases b with
      | cons b1 b2 => exact ⟨l, _, _, rfl, .inl (.inl e), fun p hp => newL (.cons b1 b2) (fun a m => List.mem_cons_of_mem _ m) (List.nodup_cons.mp s.nd).2 hp q⟩
  · rename_i d ds
    cases ow with
    | fz r =>
      obtain ⟨l, vs, rfl, e, r⟩ := r.lst_inv
      cases r with
      | cons r1 rs =>
        exact ⟨l, _, _, rfl, s.st.sub.l e, fun p hp => newL (T1 := [] ++ []) (.cons (.fz r1) (owns_fz rs)) (fun a m => nomatch m) List.nodup_nil hp q⟩
  · exact q.elim
/-- (a, b, ..) = a list -/
def gUnp (n : Nat) (hs : List O → Env → Option Env) : O → Env → Option Env
  | .tup os, env => if os.length = n then hs os env else none
  | .fz (.tup ds), env => if ds.length = n then hs (ds.map .fz) env else none
  | .lst os, env => if os.length = n then hs os env else none
  | .fz (.lst ds), env => if ds.length = n then hs (ds.map .fz) env else none
  | _, _ => none
end
end PyD
end

section
set_option Elab.async false
set_option linter.all false
set_option maxRecDepth 100000
namespace PyD
open PySem L2 PySem.Spec PyProof.Rows

/-! ### texts as lists -/
/-- b stands at the head of l -/
def isPre (b l : List Nat) : Bool := l.take b.length == b
/-- the first place from k on, l the rest there -/
def findAt (b : List Nat) : List Nat → Nat → Option Nat
  | [], k => if isPre b [] = true then some k else none
  | x :: r, k => if isPre b (x :: r) = true then some k else findAt b r (k + 1)
def findL (a b : List Nat) (lo : Nat) : Option Nat := if lo ≤ a.length then findAt b (a.drop lo) lo else none
theorem findAt_some {b : List Nat} : ∀ {l : List Nat} {k i : Nat}, findAt b l k = some i → k ≤ i ∧ i ≤ k + l.length ∧ isPre b (l.drop (i - k)) = true ∧ ∀ j, k ≤ j → j < i → isPre b (l.drop (j - k)) = false
  | [], k, i, h => by
    unfold findAt at h
    split at h
    · rename_i hp
      cases h
      exact ⟨Nat.le_refl _, by simp, by simpa using hp, fun j h1 h2 => by omega⟩
    · cases h
  | x :: r, k, i, h => by
    unfold findAt at h
    split at h
    · rename_i hp
      cases h
      exact ⟨Nat.le_refl _, by simp, by simpa using hp, fun j h1 h2 => by omega⟩
    · rename_i hp
      obtain ⟨h1, h2, h3, h4⟩ := findAt_some h
      refine ⟨by omega, by simp; omega, ?_, fun j j1 j2 => ?_⟩
      · have e : i - k = (i - (k + 1)) + 1 := by omega
        rw [e, List.drop_succ_cons]; exact h3
      · by_cases hj : j = k
        · subst hj; simpa using hp
        · have e : j - k = (j - (k + 1)) + 1 := by omega
          rw [e, List.drop_succ_cons]; exact h4 j (by omega) j2
theorem findAt_none {b : List Nat} : ∀ {l : List Nat} {k : Nat}, findAt b l k = none → ∀ j, j ≤ l.length → isPre b (l.drop j) = false
  | [], k, h, j, hj => by
    unfold findAt at h
    split at h
    · cases h
    · rename_i hp; have : j = 0 := by simpa using hj
      subst this; simpa using hp
  | x :: r, k, h, j, hj => by
    unfold findAt at h
    split at h
    · cases h
    · rename_i hp
      cases j with
      | zero => simpa using hp
      | succ j => rw [List.drop_succ_cons]; exact findAt_none h j (by simpa using hj)
theorem subAt_sOf (a b : List Nat) (i : Nat) : Builtin.Str.subAt (sOf a) (sOf b) i = isPre b (a.drop i) := by
  unfold Builtin.Str.subAt isPre
  rw [Bool.eq_iff_iff, beq_iff_eq, beq_iff_eq]
  have e : (sOf a).cps.extract i (i + (sOf b).length) = ((a.drop i).take b.length).toArray := by
    simp only [sOf, Str.length, List.extract_toArray, List.size_toArray, List.extract_eq_take_drop]
    rw [show i + b.length - i = b.length by omega]
  rw [e]
  simp [sOf]
theorem isPre_len {b l : List Nat} (h : isPre b l = true) : b.length ≤ l.length := by
  unfold isPre at h
  have := congrArg List.length (beq_iff_eq.mp h)
  rw [List.length_take] at this
  omega
theorem at_sOf {a b : List Nat} {i : Nat} : StrLaws.At (sOf a) (sOf b) (sOf a).length i ↔ i ≤ a.length ∧ isPre b (a.drop i) = true := by
  unfold StrLaws.At
  rw [subAt_sOf, length_sOf, length_sOf]
  constructor
  · intro ⟨h1, h2⟩; exact ⟨by omega, h2⟩
  · intro ⟨h1, h2⟩
    have := isPre_len h2
    rw [List.length_drop] at this
    exact ⟨by omega, h2⟩
theorem occ_findL (a b : List Nat) (lo : Nat) : (Builtin.Str.occurrences (sOf a) (sOf b) lo (sOf a).length 1).head? = findL a b lo := by
  rcases StrLaws.occ_head_from (sOf a) (sOf b) lo 1 (Nat.le_refl _) with ⟨h0, hn⟩ | ⟨i, r, h0, hlo, hat, hn⟩
  · rw [h0]
    show none = findL a b lo
    unfold findL
    split
    · rename_i hl
      cases e : findAt b (a.drop lo) lo with
      | none => rfl
      | some i =>
        obtain ⟨h1, h2, h3, _⟩ := findAt_some e
        rw [List.drop_drop] at h3
        rw [List.length_drop] at h2
        exact absurd (at_sOf.mpr ⟨by omega, by rw [show lo + (i - lo) = i by omega] at h3; exact h3⟩) (hn i h1)
    · rfl
  · rw [h0]
    show some i = findL a b lo
    obtain ⟨hi, hp⟩ := at_sOf.mp hat
    unfold findL
    rw [if_pos (by omega)]
    cases e : findAt b (a.drop lo) lo with
    | none =>
      have := findAt_none e (i - lo) (by rw [List.length_drop]; omega)
      rw [List.drop_drop, show lo + (i - lo) = i by omega] at this
      rw [this] at hp; cases hp
    | some j =>
      obtain ⟨h1, h2, h3, h4⟩ := findAt_some e
      rw [List.drop_drop, show lo + (j - lo) = j by omega] at h3
      rw [List.length_drop] at h2
      by_cases c : i = j
      · rw [c]
      · by_cases c2 : i < j
        · have := h4 i hlo c2
          rw [List.drop_drop, show lo + (i - lo) = i by omega] at this
          rw [this] at hp; cases hp
        · exact absurd (at_sOf.mpr ⟨by omega, h3⟩) (hn j h1 (by omega))
end PyD
end

section
set_option Elab.async false
set_option linter.all false
set_option maxRecDepth 100000
namespace PyD
open PySem L2 PySem.Spec PyProof.Rows
section
variable {n : Nat} {X : Cx} {K : PySem.W.Frag} {F H : Hp}
/-! ### s.m(..) -/
/-- a method of a text -/
def OpM (K : PySem.W.Frag) (rd : V → List V → Hp → VK → Prop) (g : List Nat → List D → Option O) : Prop :=
  ∀ (F H : Hp) (l : List Nat) (vs : List V) (ds : List D) (o : O) (Q : VK), Ex F H → okS l → Reps K H vs ds → g l ds = some o →
    (∀ v F' H' T, Trans F H [] F' H' T → Own K F' H' v o T → Ex F' H' → T.Nodup → (∀ a ∈ T, F' a = none) → Q v H') → rd (.str (sOf l)) vs H Q
def eM (g : List Nat → List D → Option O) (f : Env → R O) (r : Env → R (List Opd)) : Env → R O := fun env => match f env with
  | .ok (.fz (.str l)) e1 => (match r e1 with
    | .ok ops e => (match (resA e ops).bind (g l) with
      | some o => .ok o e
      | none => .bad)
    | .exc c ds e => .exc c ds e
    | .bad => .bad)
  | .exc c ds e => .exc c ds e
  | _ => .bad
theorem snd_m {call o : Expr} {es : List Expr} {rd : V → List V → Hp → VK → Prop} {g : List Nat → List D → Option O} {f : Env → R O} {r : Env → R (List Opd)} (hpe : ∀ {σ H Q}, (wE n X o σ H fun x H1 => tyV X.K "str" x H1 ∧ wA n X es σ H1 fun xs H2 => rd x xs H2 Q) → wE n X call σ H Q) (pl : Plain X es) (ho : SndE n X o f) (ha : SndL n X es r) (hop : OpM X.K rd g) : SndE n X call (eM g f r) := by
  refine .mk fun W tk env σ F H S Q st q => ?_
  refine hpe (ho.run W tk env σ F H S _ st ?_)
  unfold eM at q
  revert q
  cases f env with
  | exc c ds e => exact fun q => q
  | bad => exact fun q => q
  | ok o1 e1 =>
    cases o1 with
    | fz d =>
      cases d with
      | str l =>
        intro q v F1 H1 S1 T tr s
        have one := s.one
        cases one with
        | fz rp =>
        obtain ⟨rfl, okl⟩ := rp.str_inv
        have t1 : Trans F H S F1 H1 S1 := tr.sub fun x m => List.mem_append_right _ m
        refine ⟨show ("str" : String) = "str" from rfl, wA_L pl (ha.run W tk e1 σ F1 H1 S1 _ s.st ?_)⟩
        revert q
        show PostE X W σ F H S Q (match r e1 with
          | .ok ops e => (match (resA e ops).bind (g l) with
            | some o => .ok o e
            | none => .bad)
          | .exc c ds e => .exc c ds e
          | .bad => .bad) → _
        cases r e1 with
        | exc c ds e => exact fun q => q.over t1
        | bad => exact fun q => q
        | ok ops e2 =>
          intro q vs F2 H2 S2 T2 tr2 sp
          revert q
          show PostE X W σ F H S Q (match (resA e2 ops).bind (g l) with
            | some o => .ok o e2
            | none => .bad) → _
          cases e3 : resA e2 ops with
          | none => exact fun q => q.elim
          | some ds =>
            show PostE X W σ F H S Q (match g l ds with
              | some o => .ok o e2
              | none => .bad) → _
            cases e4 : g l ds with
            | none => exact fun q => q.elim
            | some o2 =>
              intro q
              refine hop F2 H2 l vs ds o2 Q sp.st.sub okl (resA_ok sp.st sp.val e3) e4 fun v F3 H3 T3 t3 ow sb nd sep => ?_
              obtain ⟨t4, s4, a4⟩ := sp.st.grow t3 sb nd sep fun a m => ow.live a m
              exact q v F3 H3 S2 T3 ((t1.trans (tr2.sub fun x m => List.mem_append_right _ m)).trans t4) (sta_one s4 ow nd a4)
      | _ => exact fun q => q.elim
    | _ => exact fun q => q.elim
theorem atom_val {a : At} {Q : VK} (s : Ex F H) (fit : a.fits)
    (q : ∀ v F' H' T, Trans F H [] F' H' T → Own K F' H' v (.fz a.d) T → Ex F' H' → T.Nodup → (∀ a ∈ T, F' a = none) → Q v H') : Q a.v H := old_val s (a.rep fit) q
/-! ### startswith, endswith, find -/
def mStarts : List Nat → List D → Option O
  | l, [.str b] => some (.fz (.bl (isPre b l)))
  | _, _ => none
theorem opm_starts : OpM K (fun x xs H Q => ∃ a b, x = .str a ∧ xs = [.str b] ∧ Q (.bl (Txt.startswith a b)) H) mStarts := by
  intro F H l vs ds o Q s okl r e q
  unfold mStarts at e
  split at e
  · rename_i b
    cases e
    obtain ⟨v, rfl, h1⟩ := r.one
    obtain ⟨rfl, okb⟩ := h1.str_inv
    refine ⟨_, _, rfl, rfl, ?_⟩
    have e : Txt.startswith (sOf l) (sOf b) = isPre b l := by
      unfold Txt.startswith
      rw [subAt_sOf, length_sOf, length_sOf, List.drop_zero]
      cases hp : isPre b l with
      | true =>
        have := isPre_len hp
        simp; omega
      | false => simp
    rw [e]
    exact atom_val (a := .bl _) s trivial q
  · cases e
def isSuf (b l : List Nat) : Bool := decide (b.length ≤ l.length) && (l.drop (l.length - b.length) == b)
def mEnds : List Nat → List D → Option O
  | l, [.str b] => some (.fz (.bl (isSuf b l)))
  | _, _ => none
theorem opm_ends : OpM K (fun x xs H Q => ∃ a b, x = .str a ∧ xs = [.str b] ∧ Q (.bl (Txt.endswith a b)) H) mEnds := by
  intro F H l vs ds o Q s okl r e q
  unfold mEnds at e
  split at e
  · rename_i b
    cases e
    obtain ⟨v, rfl, h1⟩ := r.one
    obtain ⟨rfl, okb⟩ := h1.str_inv
    refine ⟨_, _, rfl, rfl, ?_⟩
    have e : Txt.endswith (sOf l) (sOf b) = isSuf b l := by
      unfold Txt.endswith isSuf
      rw [subAt_sOf, length_sOf, length_sOf]
      unfold isPre
      by_cases hl : b.length ≤ l.length
      · have : (l.drop (l.length - b.length)).take b.length = l.drop (l.length - b.length) := List.take_of_length_le (by rw [List.length_drop]; omega)
        rw [this, decide_eq_true (by omega), decide_eq_true hl]
      · rw [decide_eq_false (by omega), decide_eq_false hl]
        rfl
    rw [e]
    exact atom_val (a := .bl _) s trivial q
  · cases e
def optI : Option Nat → Int
  | some i => i
  | none => -1
def fromI (n : Nat) (i : Int) : Nat := (max 0 (if i < 0 then i + n else i)).toNat
def mFind : List Nat → List D → Option O
  | l, [.str b, .int i] => some (.fz (.int (optI (findL l b (fromI l.length i)))))
  | _, _ => none
def mFind1 : List Nat → List D → Option O
  | l, [.str b] => some (.fz (.int (optI (findL l b 0))))
  | _, _ => none
theorem opm_find : OpM K (fun x xs H Q => ∃ (a b : Str) (i : Int), x = .str a ∧ xs = [.str b, .int i] ∧ Q (.int (Txt.find3 a b i)) H) mFind := by
  intro F H l vs ds o Q s okl r e q
  unfold mFind at e
  split at e
  · rename_i b i
    cases e
    obtain ⟨v, w, rfl, h1, h2⟩ := r.two
    obtain ⟨rfl, okb⟩ := h1.str_inv
    cases h2.int_inv
    refine ⟨_, _, _, rfl, rfl, ?_⟩
    have e : Txt.find3 (sOf l) (sOf b) i = optI (findL l b (fromI l.length i)) := by
      unfold Txt.find3
      have h := occ_findL l b (fromIndex (sOf l).length i)
      have h2 : findL l b (fromI l.length i) = findL l b (fromIndex (sOf l).length i) := by rw [length_sOf]; rfl
      rw [h2, ← h]
      cases Builtin.Str.occurrences (sOf l) (sOf b) (fromIndex (sOf l).length i) (sOf l).length 1 <;> rfl
    rw [e]
    exact atom_val (a := .int _) s trivial q
  · cases e
theorem opm_find1 : OpM K (fun x xs H Q => ∃ a b, x = .str a ∧ xs = [.str b] ∧ Q (.int (Txt.find a b)) H) mFind1 := by
  intro F H l vs ds o Q s okl r e q
  unfold mFind1 at e
  split at e
  · rename_i b
    cases e
    obtain ⟨v, rfl, h1⟩ := r.one
    obtain ⟨rfl, okb⟩ := h1.str_inv
    refine ⟨_, _, rfl, rfl, ?_⟩
    have e : Txt.find (sOf l) (sOf b) = optI (findL l b 0) := by
      unfold Txt.find
      rw [← occ_findL l b 0]
      cases Builtin.Str.occurrences (sOf l) (sOf b) 0 (sOf l).length 1 <;> rfl
    rw [e]
    exact atom_val (a := .int _) s trivial q
  · cases e
/-! ### split, partition by one sign -/
def splitC (c : Nat) : List Nat → List (List Nat)
  | [] => [[]]
  | x :: r => if x = c then [] :: splitC c r else match splitC c r with
    | h :: t => (x :: h) :: t
    | [] => [[x]]
theorem splitC_ne (c : Nat) : ∀ l, splitC c l ≠ []
  | [] => by simp [splitC]
  | x :: r => by
    unfold splitC
    split
    · simp
    · split <;> simp
theorem pre_one {c x : Nat} {r : List Nat} : TL.pre [c] (x :: r) = decide (x = c) := by
  simp [TL.pre]
  rw [Bool.eq_iff_iff]; simp
theorem spl_splitC (c : Nat) : ∀ (l acc : List Nat), TL.spl [c] 0 acc l = (acc ++ (splitC c l).headD []) :: (splitC c l).tail
  | [], acc => by simp [TL.spl, splitC]
  | x :: r, acc => by
    by_cases h : x = c
    · rw [TL.spl_hit (by rw [pre_one]; exact decide_eq_true h)]
      show acc :: TL.spl [c] 0 [] r = _
      rw [spl_splitC c r []]
      have e : splitC c (x :: r) = [] :: splitC c r := by rw [splitC, if_pos h]
      rw [e]
      have := splitC_ne c r
      cases hh : splitC c r with
      | nil => exact absurd hh this
      | cons a b => simp
    · rw [TL.spl_miss (by rw [pre_one]; exact decide_eq_false h), spl_splitC c r]
      rw [splitC, if_neg h]
      have := splitC_ne c r
      cases hh : splitC c r with
      | nil => exact absurd hh this
      | cons a b => simp
theorem spl_eq (c : Nat) (l : List Nat) : TL.spl [c] 0 [] l = splitC c l := by
  rw [spl_splitC]
  have := splitC_ne c l
  cases hh : splitC c l with
  | nil => exact absurd hh this
  | cons a b => simp
theorem splitC_mem (c : Nat) : ∀ (l : List Nat) (p : List Nat), p ∈ splitC c l → (∀ x ∈ p, x ∈ l) ∧ p.length ≤ l.length
  | [], p, h => by simp [splitC] at h; subst h; simp
  | x :: r, p, h => by
    unfold splitC at h
    have ne := splitC_ne c r
    split at h
    · rcases List.mem_cons.mp h with rfl | h
      · simp
      · obtain ⟨a, b⟩ := splitC_mem c r p h
        exact ⟨fun y m => List.mem_cons_of_mem _ (a y m), by simp; omega⟩
    · cases hh : splitC c r with
      | nil => exact absurd hh ne
      | cons a b =>
        rw [hh] at h
        rcases List.mem_cons.mp h with rfl | h
        · obtain ⟨a1, b1⟩ := splitC_mem c r a (by rw [hh]; exact List.mem_cons_self)
          exact ⟨fun y m => (List.mem_cons.mp m).elim (fun z => z ▸ List.mem_cons_self) fun z => List.mem_cons_of_mem _ (a1 y z), by simp; omega⟩
        · obtain ⟨a1, b1⟩ := splitC_mem c r p (by rw [hh]; exact List.mem_cons_of_mem _ h)
          exact ⟨fun y m => List.mem_cons_of_mem _ (a1 y m), by simp; omega⟩
theorem reps_strs : ∀ {ps : List (List Nat)}, (∀ p ∈ ps, okS p) → Reps K F (ps.map fun p => V.str (sOf p)) (ps.map .str)
  | [], _ => .nil
  | p :: ps, h => .cons (.str p (h p List.mem_cons_self)) (reps_strs fun q m => h q (List.mem_cons_of_mem _ m))
def mSplit : List Nat → List D → Option O
  | l, [.str [c]] => if l.length ≤ LIM then some (.lst ((splitC c l).map fun p => .fz (.str p))) else none
  | _, _ => none
theorem map_tl {xs : List Str} {ys : List (List Nat)} (h : xs.map TL.tl = ys) : xs = ys.map sOf := by
  subst h
  induction xs with
  | nil => rfl
  | cons x xs ih =>
    simp only [List.map_cons]
    rw [← ih]
    congr 1
theorem kind_sOf {x b : List Nat} (h : ∀ c ∈ b, c < 128) : ¬ Builtin.Str.strKind (sOf x) < Builtin.Str.strKind (sOf b) := TL.kind_ok (by
  simp only [sOf, List.all_toArray, List.all_eq_true, decide_eq_true_iff]
  intro c m
  have := h c m
  omega)
theorem opm_split : OpM K (fun x xs H Q => ∃ a b, x = .str a ∧ xs = [.str b] ∧ (b.length == 0) = false ∧ a.length + 2 ≤ sizeLine ∧ rNewStrs (Txt.split a b) H Q) mSplit := by
  intro F H l vs ds o Q s okl r e q
  unfold mSplit at e
  split at e
  · split at e
    · rename_i c hl
      cases e
      obtain ⟨v, rfl, h1⟩ := r.one
      obtain ⟨rfl, okb⟩ := h1.str_inv
      refine ⟨_, _, rfl, rfl, by rw [length_sOf]; rfl, by rw [length_sOf]; exact Nat.le_trans (Nat.add_le_add_right hl 2) (by decide), ?_⟩
      have e : Txt.split (sOf l) (sOf [c]) = (splitC c l).map sOf := by
        apply map_tl
        rw [TL.split_spl _ _ (by simp [TL.tl, sOf]) (kind_sOf okb.2)]
        show TL.spl (sOf [c]).cps.toList 0 [] (sOf l).cps.toList = splitC c l
        rw [toList_sOf, toList_sOf, spl_eq]
      rw [e]
      intro p hp
      have hr := reps_strs (K := K) (F := F) (ps := splitC c l) fun p m => ⟨Nat.le_trans (splitC_mem c l p m).2 okl.1, fun x mx => okl.2 x ((splitC_mem c l p m).1 x mx)⟩
      have e2 : ((splitC c l).map sOf).map V.str = (splitC c l).map fun p => V.str (sOf p) := by simp
      rw [e2]
      have := new_lst (Q := Q) s hr hp
      simp only [List.map_map] at this
      exact this q
    · cases e
  · cases e
/-- what stands ahead of the first c, and behind it -/
def partC (c : Nat) : List Nat → Option (List Nat × List Nat)
  | [] => none
  | x :: r => if x = c then some ([], r) else (partC c r).map fun p => (x :: p.1, p.2)
theorem par_partC (c : Nat) : ∀ (l acc : List Nat), TL.par [c] acc l = (partC c l).map fun p => (acc ++ p.1, p.2)
  | [], acc => rfl
  | x :: r, acc => by
    by_cases h : x = c
    · rw [TL.par_hit (by rw [pre_one]; exact decide_eq_true h)]
      simp [partC, h]
    · rw [TL.par_miss (by rw [pre_one]; exact decide_eq_false h), par_partC c r, partC, if_neg h]
      cases partC c r <;> simp
theorem partC_mem {c : Nat} : ∀ {l : List Nat} {p : List Nat × List Nat}, partC c l = some p → (∀ x ∈ p.1, x ∈ l) ∧ (∀ x ∈ p.2, x ∈ l) ∧ p.1.length ≤ l.length ∧ p.2.length ≤ l.length
  | [], p, h => by simp [partC] at h
  | x :: r, p, h => by
    unfold partC at h
    split at h
    · cases h; exact ⟨by simp, fun y m => List.mem_cons_of_mem _ m, by simp, by simp⟩
    · rw [Option.map_eq_some_iff] at h
      obtain ⟨q, hq, rfl⟩ := h
      obtain ⟨a, b, c1, d⟩ := partC_mem hq
      exact ⟨fun y m => (List.mem_cons.mp m).elim (fun z => z ▸ List.mem_cons_self) fun z => List.mem_cons_of_mem _ (a y z), fun y m => List.mem_cons_of_mem _ (b y m), by simp; omega, by simp; omega⟩
def part3 (c : Nat) (l : List Nat) : List (List Nat) := match partC c l with
  | some (a, b) => [a, [c], b]
  | none => [l, [], []]
def mPart : List Nat → List D → Option O
  | l, [.str [c]] => some (.tup ((part3 c l).map fun p => .fz (.str p)))
  | _, _ => none
theorem opm_part : OpM K (fun x xs H Q => ∃ a b, x = .str a ∧ xs = [.str b] ∧ (b.length == 0) = false ∧ a.length ≤ sizeLine ∧
    ∀ p, H p = none → Q (.ref p) (upd H p (.tup [.str (Txt.partition a b).1, .str (Txt.partition a b).2.1, .str (Txt.partition a b).2.2]))) mPart := by
  intro F H l vs ds o Q s okl r e q
  unfold mPart at e
  split at e
  · rename_i c
    cases e
    obtain ⟨v, rfl, h1⟩ := r.one
    obtain ⟨rfl, okb⟩ := h1.str_inv
    refine ⟨_, _, rfl, rfl, by rw [length_sOf]; rfl, by rw [length_sOf]; exact okl.1, fun p hp => ?_⟩
    have e : [V.str (Txt.partition (sOf l) (sOf [c])).1, V.str (Txt.partition (sOf l) (sOf [c])).2.1, V.str (Txt.partition (sOf l) (sOf [c])).2.2] = (part3 c l).map fun p => V.str (sOf p) := by
      rw [TL.partition_par _ _ (by simp [TL.tl, sOf])]
      have : TL.par (TL.tl (sOf [c])) [] (TL.tl (sOf l)) = (partC c l).map fun p => ([] ++ p.1, p.2) := by
        show TL.par (sOf [c]).cps.toList [] (sOf l).cps.toList = _
        rw [toList_sOf, toList_sOf, par_partC]
      rw [this]
      unfold part3
      cases partC c l with
      | none => rfl
      | some q => obtain ⟨a, b⟩ := q; rfl
    rw [e]
    have ok3 : ∀ p ∈ part3 c l, okS p := by
      unfold part3
      cases hp : partC c l with
      | none =>
        intro p m
        have m' : p = l ∨ p = [] := by simpa using m
        rcases m' with rfl | rfl
        · exact okl
        · exact ⟨by simp, by simp⟩
      | some q =>
        obtain ⟨a, b⟩ := q
        obtain ⟨m1, m2, m3, m4⟩ := partC_mem hp
        intro p m
        have m' : p = a ∨ p = [c] ∨ p = b := by simpa using m
        rcases m' with rfl | rfl | rfl
        · exact ⟨Nat.le_trans m3 okl.1, fun x mx => okl.2 x (m1 x mx)⟩
        · exact okb
        · exact ⟨Nat.le_trans m4 okl.1, fun x mx => okl.2 x (m2 x mx)⟩
    have := new_tup (Q := Q) s (reps_strs (K := K) (F := F) ok3) hp
    simp only [List.map_map] at this
    exact this q
  · cases e
end
end PyD
end

section
set_option Elab.async false
set_option linter.all false
set_option maxRecDepth 100000
namespace PyD
open PySem L2 PySem.Spec PyProof.Rows
section
variable {n : Nat} {X : Cx} {K : PySem.W.Frag} {F H : Hp}
/-! ### a * b -/
theorem flat_rep (a : List Nat) : ∀ (k : Nat) (acc : List Nat), (List.replicate k a.toArray).foldl (fun x y => x ++ y) acc.toArray = (acc ++ (List.replicate k a).flatten).toArray
  | 0, acc => by simp
  | k + 1, acc => by
    rw [List.replicate_succ, List.foldl_cons, List.append_toArray, flat_rep a k (acc ++ a), List.replicate_succ, List.flatten_cons, List.append_assoc]
theorem len_flat_rep {α : Type} (a : List α) : ∀ k : Nat, (List.replicate k a).flatten.length = a.length * k
  | 0 => by simp
  | k + 1 => by
    rw [List.replicate_succ, List.flatten_cons, List.length_append, len_flat_rep a k, Nat.mul_succ, Nat.add_comm]
/-- a text so many times -/
def rMulS : R2 := fun x y H Q => ∃ (l : List Nat) (n : Int), x = .str (sOf l) ∧ y = .int n ∧ n.natAbs ≤ LIM ∧ l.length * n.toNat ≤ LIM ∧ Q (.str (sOf (List.replicate n.toNat l).flatten)) H
theorem op_mulS : OpR X (binaryOp .Mult) rMulS := by
  intro pins s σ H x y v u Q I rx ry h
  obtain ⟨l, n, rfl, rfl, hn, hl, q⟩ := h
  obtain ⟨t, rfl⟩ := rx
  obtain ⟨t', rfl⟩ := ry
  have hn1 : n ≤ (1000000 : Int) := by unfold LIM at hn; omega
  have hn2 : -(1000000 : Int) ≤ n := by unfold LIM at hn; omega
  have big : (2 : Int) ^ 63 = 9223372036854775808 := by decide
  have cap : ¬ n < 1 → ¬ ((l.length : Int) > (2 ^ 63 - 1) / n) := fun h1 => by
    have h2 : (l.length : Int) * n ≤ 1000000 := by
      have e : ((n.toNat : Nat) : Int) = n := by omega
      have h4 : ((l.length * n.toNat : Nat) : Int) ≤ ((1000000 : Nat) : Int) := Int.ofNat_le.mpr hl
      rw [Int.natCast_mul, e] at h4
      exact h4
    have h3 : (l.length : Int) ≤ (2 ^ 63 - 1) / n := Int.le_ediv_of_mul_le (by omega) (by rw [big]; omega)
    omega
  refine PySem.P.mul_str ?_ (fun h1 _ => by rw [length_sOf]; exact cap h1) (fun h1 _ => ?_) ?_
  · rw [big, decide_eq_false (by omega), decide_eq_false (by omega)]
    rfl
  · rw [length_sOf]
    show decide (_ > _) = false
    refine decide_eq_false (Nat.not_lt.mpr (Nat.le_trans hl (by decide)))
  · split
    · rename_i h1
      refine ⟨by decide, ⟨.str _, H, I.tok _, ⟨_, rfl⟩, ?_⟩⟩
      have e : n.toNat = 0 := by omega
      rw [e] at q
      exact q
    · split
      · rename_i h1 h2
        refine ⟨.str _, H, I, ⟨_, rfl⟩, ?_⟩
        rw [Bool.or_eq_true] at h2
        rcases h2 with h2 | h2
        · have e : n.toNat = 1 := by
            have := eq_of_beq h2
            omega
          rw [e] at q
          simpa using q
        · have e : l = [] := List.length_eq_zero_iff.mp (by rw [length_sOf] at h2; exact eq_of_beq h2)
          subst e
          have e2 : (List.replicate n.toNat ([] : List Nat)).flatten = [] := by simp
          rw [e2] at q
          exact q
      · have e := flat_rep l n.toNat []
        rw [List.nil_append] at e
        refine ⟨?_, ⟨.str _, H, I.tok _, ⟨_, rfl⟩, ?_⟩⟩
        · show (⟨(List.replicate n.toNat l.toArray).foldl (fun x y => x ++ y) ([] : List Nat).toArray⟩ : Str).length ≤ sizeLine
          rw [e]
          show (sOf (List.replicate n.toNat l).flatten).length ≤ sizeLine
          rw [length_sOf, len_flat_rep]
          exact lim_line hl
        · show Q (.str ⟨(List.replicate n.toNat l.toArray).foldl (fun x y => x ++ y) ([] : List Nat).toArray⟩) H
          rw [e]
          exact q
/-- a list so many times -/
theorem meets_rmulL (a : Int) (t : Tok) (l : Addr) (its : Array Value) (n : Nat) (sl : Array (Option Value)) :
    Meets (Builtin.«int.__rmul__» ⟨[.int a t, .ref l], []⟩) (fun _ R s => s.heap.get? l = some { cls := .type "list", dict := none, data := .seq its n, slots := sl } ∧
      R (.ok (.ret Value.notImplemented)) s) :=
  .of_wp fun prog w A R s h => by
    obtain ⟨hp, g, d, tk, os⟩ := s
    obtain ⟨hl, h⟩ := h
    wp_walk using AutoSeq1.wpAny_loadPart' hl
    exact ⟨_, rfl, h⟩
theorem meets_mulL (l : Addr) (its : Array Value) (n : Nat) (sl : Array (Option Value)) (x : Int) (u : Tok) (hc0 : ¬(!Builtin.List.listFitsIndex x) = true) (hc1 : ¬its.size * x.toNat > (2 ^ 63 - 1) / 8)
    (hc2 : ¬Builtin.List.listTooLong (its.size * x.toNat) = true)
    (few : (List.foldl (fun p q => p ++ q) #[] (List.replicate (if its.isEmpty = true then 0 else x.toNat) its)).size ≤ sizeLine) :
    Meets (Builtin.«list.__mul__» ⟨[.ref l, .int x u], []⟩) (fun _ R s => s.heap.get? l = some { cls := .type "list", dict := none, data := .seq its n, slots := sl } ∧ R (.ok (.ret (Value.ref s.heap.objs.size)))
      { s with heap := s.heap.push { cls := Value.type "list", data := Data.seq (List.foldl (fun p q => p ++ q) #[] (List.replicate (if its.isEmpty = true then 0 else x.toNat) its)) }, toks := s.toks }) :=
  .of_wp fun prog w A R s h => by
    obtain ⟨hp, g, d, tk, os⟩ := s
    obtain ⟨hl, h⟩ := h
    wp_walk using AutoSeq1.wpAny_loadPart' hl
    refine wpAny_ite_false (decide_eq_false (Nat.not_lt.mpr few)) ?_
    wp_walk using AutoSeq1.wpAny_loadPart' hl
    exact ⟨_, rfl, h⟩
def rMulL (K : PySem.W.Frag) : R2 := fun x y H Q => ∃ l n xs, x = .ref l ∧ y = .int n ∧ SqL K H l xs ∧ n.natAbs ≤ LIM ∧ xs.length * n.toNat ≤ LIM ∧ ∀ p, H p = none → Q (.ref p) (upd H p (.lst (List.replicate n.toNat xs).flatten))
theorem fold_rep {α : Type} (a : List α) : ∀ (k : Nat) (acc : List α), (List.replicate k a.toArray).foldl (fun x y => x ++ y) acc.toArray = (acc ++ (List.replicate k a).flatten).toArray
  | 0, acc => by simp
  | k + 1, acc => by
    rw [List.replicate_succ, List.foldl_cons, List.append_toArray, fold_rep a k (acc ++ a), List.replicate_succ, List.flatten_cons, List.append_assoc]
theorem op_mulL : OpR X (binaryOp .Mult) (rMulL X.K) := by
  intro pins s σ H x y v u Q I rx ry h
  obtain ⟨l, n, xs, rfl, rfl, rd, hn, hz, q⟩ := h
  cases rx
  obtain ⟨t, rfl⟩ := ry
  have big : (2 : Int) ^ 63 = 9223372036854775808 := by decide
  have b1 : -(2 ^ 63 : Int) ≤ n := by rw [big]; unfold LIM at hn; omega
  have b2 : n < (2 ^ 63 : Int) := by rw [big]; unfold LIM at hn; omega
  obtain ⟨_, its, m, sl, r, hl, e⟩ := rdL I rd
  have few : its.toArray.size * n.toNat ≤ LIM := by
    rw [List.size_toArray, ← hl]
    exact hz
  have made : List.foldl (fun p q => p ++ q) #[] (List.replicate (if its.toArray.isEmpty = true then 0 else n.toNat) its.toArray) = (List.replicate n.toNat its).flatten.toArray := by
    cases its with
    | nil => simp
    | cons a b =>
      rw [if_neg (by simp)]
      have := fold_rep (a :: b) n.toNat []
      rw [List.nil_append] at this
      exact this
  have f1 : ¬ (!Builtin.List.listFitsIndex n) = true := by
    rw [fitsIndex_both b1 b2]
    decide
  have f2 : ¬ its.toArray.size * n.toNat > (2 ^ 63 - 1) / 8 := Nat.not_lt.mpr (Nat.le_trans few (by decide))
  have f3 : ¬ Builtin.List.listTooLong (its.toArray.size * n.toNat) = true := by
    rw [notLongL (lim_line few)]
    decide
  have f4 : (List.foldl (fun p q => p ++ q) #[] (List.replicate (if its.toArray.isEmpty = true then 0 else n.toNat) its.toArray)).size ≤ sizeLine := by
    rw [made, List.size_toArray, len_flat_rep, ← hl]
    exact lim_line hz
  refine wpAny_binaryOp_repeat_ref (T := "list") (U := "int") (by decide) ⟨_, e, rfl⟩ (fun s' => typeIs_int s' n t)
    noFill_list_mul F.fills_int_mul F.slot_int_rmul repeat_list F.slot_int_index.lookup ?_
  refine call_meets F.slot_int_rmul (typeIs_int s n t) F.entry_int_rmul (F.args_int_rmul_2 _ _)
    (meets_rmulL n t l its.toArray m sl) ⟨e, rfl, ⟨_, e, rfl⟩, ?_⟩
  refine call_meets F.slot_list_mul ⟨_, e, rfl⟩ F.entry_list_mul (F.args_list_mul_2 _ _)
    (meets_mulL l its.toArray m sl n t f1 f2 f3 f4) ⟨e, ?_⟩
  rw [made]
  have long : (List.replicate n.toNat xs).flatten.length ≤ sizeLine := by
    rw [len_flat_rep]
    exact lim_line hz
  exact ⟨.ref _, _, I.lnew (t' := s.toks) (r.rep n.toNat) long, rfl, q _ I.fresh⟩
def rMulAll (K : PySem.W.Frag) : R2 := fun x y H Q => rI CMulW (fun i j => .int (i * j)) x y H Q ∨ rMulS x y H Q ∨ rMulL K x y H Q
theorem op_mulAll : OpR X (binaryOp .Mult) (rMulAll X.K) := OpR.or op_mulW (OpR.or op_mulS op_mulL)
def semMul : List D → Option O
  | [.int i, .int j] => if isBig i = true ∧ isBig j = true then some (.fz (.int (i * j))) else none
  | [.str a, .int n] => if n.natAbs ≤ LIM ∧ a.length * n.toNat ≤ LIM then some (.fz (.str (List.replicate n.toNat a).flatten)) else none
  | [.lst xs, .int n] => if n.natAbs ≤ LIM ∧ xs.length * n.toNat ≤ LIM then some (.lst ((List.replicate n.toNat xs).flatten.map .fz)) else none
  | _ => none
theorem reps_app {vs us : List V} {ds es : List D} (h : Reps K F vs ds) (k : Reps K F us es) : Reps K F (vs ++ us) (ds ++ es) := h.append k
theorem reps_rep {vs : List V} {ds : List D} (h : Reps K F vs ds) : ∀ k : Nat, Reps K F (List.replicate k vs).flatten (List.replicate k ds).flatten
  | 0 => .nil
  | k + 1 => by
    rw [List.replicate_succ, List.replicate_succ, List.flatten_cons, List.flatten_cons]
    exact h.append (reps_rep h k)
theorem opb_mul : OpB K (r2 (rMulAll K)) semMul := by
  intro F H vs ds o Q s sh e q
  unfold semMul at e
  split at e
  · split at e
    · rename_i i j hb
      cases e
      obtain ⟨x, y, rfl, h1, h2⟩ := sh.two
      cases h1.int_inv; cases h2.int_inv
      exact ⟨_, _, rfl, .inl ⟨_, _, rfl, rfl, wide_mul (log2_big hb.1) (log2_big hb.2) (by decide) (by decide) (by decide), old_val s (.int _) q⟩⟩
    · cases e
  · split at e
    · rename_i a n hb
      cases e
      obtain ⟨x, y, rfl, h1, h2⟩ := sh.two
      obtain ⟨rfl, l1⟩ := h1.str_inv
      cases h2.int_inv
      refine ⟨_, _, rfl, .inr (.inl ⟨a, n, rfl, rfl, hb.1, hb.2, old_val s (.str _ ⟨by rw [len_flat_rep]; exact lim_line hb.2, fun c m => ?_⟩) q⟩)⟩
      obtain ⟨l, ml, mc⟩ := List.mem_flatten.mp m
      rw [(List.mem_replicate.mp ml).2] at mc
      exact l1.2 c mc
    · cases e
  · split at e
    · rename_i xs n hb
      cases e
      obtain ⟨x, y, rfl, h1, h2⟩ := sh.two
      obtain ⟨a, us, rfl, g1, k1⟩ := h1.lst_inv s
      cases h2.int_inv
      exact ⟨_, _, rfl, .inr (.inr ⟨a, n, us, rfl, rfl, g1, hb.1, by rw [k1.length]; exact hb.2, fun p hp => new_lst s (reps_rep k1 n.toNat) hp q⟩)⟩
    · cases e
  · cases e
theorem snd_mul {a b : Expr} {pos : Pos} {f : Env → R (List Opd)} (h : SndL n X [a, b] f) : SndE n X (.BinOp a .Mult b pos) (eB semMul f) := snd_B h opb_mul fun σ H Q => wE_op op_mulAll σ H Q
end
end PyD
end

section
set_option Elab.async false
set_option linter.all false
set_option maxRecDepth 100000
namespace PyD
open PySem L2 PySem.Spec PyProof.Rows
section
variable {n : Nat} {X : Cx} {K : PySem.W.Frag} {F H : Hp}
/-! ### a in b -/
def xorB (neg b : Bool) : Bool := if neg then !b else b
def cmpIn (neg : Bool) : CmpOp := if neg then .NotIn else .In
def rInTx (neg : Bool) : R2 := fun x y H Q => ∃ (a b : List Nat), x = .str (sOf a) ∧ y = .str (sOf b) ∧ Q (.bl (xorB neg (findL b a 0).isSome)) H
theorem occ_some (a b : List Nat) : (!(Builtin.Str.occurrences (sOf b) (sOf a) 0 (sOf b).length 1).isEmpty) = (findL b a 0).isSome := by
  rw [← occ_findL b a 0]
  cases Builtin.Str.occurrences (sOf b) (sOf a) 0 (sOf b).length 1 <;> rfl
theorem op_inTx (neg : Bool) : OpR X (compareOp (cmpIn neg)) (rInTx neg) := by
  intro pins s σ H x y v u Q I rx ry h
  obtain ⟨a, b, rfl, rfl, q⟩ := h
  rw [← occ_some] at q
  cases neg with
  | false => exact op_in_str pins s σ H _ _ v u Q I rx ry ⟨_, _, rfl, rfl, q⟩
  | true => exact op_notIn_str pins s σ H _ _ v u Q I rx ry ⟨_, _, rfl, rfl, q⟩
def rInAt (K : PySem.W.Frag) (neg : Bool) : R2 := fun x y H Q => ∃ d ds e, Dp K H x d ∧ Dp K H y e ∧ (e = .list ds ∨ e = .tuple ds) ∧ SeqAt.shaped d = true ∧ SeqAt.shaped e = true ∧ Q (.bl (xorB neg (ds.any fun z => PyData.eqv z d))) H
theorem canLays_of_tuple {ds : List PyData} (h : SeqAt.shaped (.tuple ds) = true) : PyData.canLayAll0 ds = true := SeqAt.canLay_of_shaped h
theorem op_inAt (neg : Bool) (hu : X.A.units + 65 < cLine) : OpR X (compareOp (cmpIn neg)) (rInAt X.K neg) := by
  intro pins s σ H x y v u Q I rx ry h
  obtain ⟨d, ds, e, hd, he, k, sd, se, q⟩ := h
  rcases k with rfl | rfl
  · cases neg with
    | false => exact op_inD hu pins s σ H _ _ v u Q I rx ry ⟨d, ds, hd, he, sd, se, q⟩
    | true => exact op_notInD hu pins s σ H _ _ v u Q I rx ry ⟨d, ds, hd, he, sd, se, q⟩
  · obtain ⟨as, r1⟩ := Dp.reads I d x v hd rx
    obtain ⟨bs, r2⟩ := Dp.reads I (.tuple ds) y u he ry
    have room : X.A.units + 1 + min (PyData.depthAll ds) d.depth < cLine := room_in_shaped sd hu
    cases neg with
    | false => exact SeqAt.in_tuple_reads r2 r1 (canLays_of_tuple se) (SeqAt.canLay_of_shaped sd) room ⟨.bl _, H, I, rfl, q⟩
    | true => exact SeqAt.notIn_tuple_reads r2 r1 (canLays_of_tuple se) (SeqAt.canLay_of_shaped sd) room ⟨.bl _, H, I, rfl, q⟩
def rInDk (neg : Bool) : R2 := fun x y H Q => ∃ a o, y = .ref a ∧ DGet H a x o ∧ Q (.bl (xorB neg o.isSome)) H
theorem op_inDk (neg : Bool) (hu : X.A.units + 1 < cLine) : OpR X (compareOp (cmpIn neg)) (rInDk neg) := by
  intro pins s σ H x y v u Q I rx ry h
  obtain ⟨a, o, rfl, g, q⟩ := h
  cases ry
  cases neg with
  | false => exact d_in hu I g rx fun s' I' => ⟨.bl _, H, I', rfl, q⟩
  | true => exact d_notIn hu I g rx fun s' I' => ⟨.bl _, H, I', rfl, q⟩
def rInAll (K : PySem.W.Frag) (neg : Bool) : R2 := fun x y H Q => rInTx neg x y H Q ∨ rInAt K neg x y H Q ∨ rInDk neg x y H Q
theorem op_inAll (neg : Bool) {k : Nat} (hr : Room k X.A) : OpR X (compareOp (cmpIn neg)) (rInAll X.K neg) := OpR.or (op_inTx neg) (OpR.or (op_inAt neg (by have := hr.un; omega)) (op_inDk neg (by have := hr.units; omega)))
def semIn (neg : Bool) : List D → Option At
  | [.str a, .str b] => some (.bl (xorB neg (findL b a 0).isSome))
  | [x, .lst ds] => if okq 20 x = true ∧ okq 20 (.lst ds) = true then some (.bl (xorB neg (ds.any fun z => deq z x))) else none
  | [x, .tup ds] => if okq 20 x = true ∧ okq 20 (.tup ds) = true then some (.bl (xorB neg (ds.any fun z => deq z x))) else none
  | [x, .dic es] => if isKey x = true then some (.bl (xorB neg (dget es x).isSome)) else none
  | _ => none
theorem any_toPs {x : D} (hx : okq 20 x = true) : ∀ {ds : List D}, (∀ d ∈ ds, okq 20 d = true) → ((toPs ds).any fun z => PyData.eqv z (toP x)) = ds.any fun z => deq z x
  | [], _ => by simp [toPs]
  | d :: ds, h => by
    rw [toPs, List.any_cons, List.any_cons, eqv_deq 20 20 d x (h d List.mem_cons_self) hx, any_toPs hx fun e m => h e (List.mem_cons_of_mem _ m)]
theorem okq_up : ∀ {n : Nat} {d : D}, okq n d = true → okq (n + 1) d = true := by
  intro n
  induction n with
  | zero => intro d h; cases d <;> simp_all [okq]
  | succ n ih =>
    intro d h
    cases d with
    | lst xs =>
      simp only [okq, List.all_eq_true] at h ⊢
      exact fun y m => ih (h y m)
    | tup xs =>
      simp only [okq, List.all_eq_true] at h ⊢
      exact fun y m => ih (h y m)
    | _ => simp_all [okq]
theorem okq_lst {xs : List D} (h : okq 20 (.lst xs) = true) : ∀ d ∈ xs, okq 20 d = true := fun d m => by
  simp only [okq, List.all_eq_true] at h
  exact okq_up (h d m)
theorem okq_tup {xs : List D} (h : okq 20 (.tup xs) = true) : ∀ d ∈ xs, okq 20 d = true := fun d m => by
  simp only [okq, List.all_eq_true] at h
  exact okq_up (h d m)
theorem repK_dget {kvs : List (Key × V)} {es : List (D × D)} {k : Key} {e : D} (h : RepK K F kvs es) (he : KeyD k e) : (valV kvs k).isSome = (dget es e).isSome := by
  obtain ⟨i1, i2⟩ := repK_get h he
  cases g : dget es e with
  | none => rw [i2 g]; rfl
  | some d =>
    obtain ⟨v, q, _⟩ := i1 d g
    rw [q]
    rfl
theorem opa_in (neg : Bool) : OpA K (r2 (rInAll K neg)) (semIn neg) := by
  intro H vs ds a Q r e q
  unfold semIn at e
  split at e
  · cases e
    obtain ⟨v, w, rfl, h1, h2⟩ := r.two
    obtain ⟨rfl, _⟩ := h1.str_inv
    obtain ⟨rfl, _⟩ := h2.str_inv
    exact ⟨_, _, rfl, .inl ⟨_, _, rfl, rfl, q trivial⟩⟩
  · split at e
    · rename_i x es hh
      cases e
      obtain ⟨v, w, rfl, h1, h2⟩ := r.two
      obtain ⟨k1, s1⟩ := dp_shaped h1 hh.1
      obtain ⟨k2, s2⟩ := dp_shaped h2 hh.2
      refine ⟨_, _, rfl, .inr (.inl ⟨_, toPs es, _, k1, k2, .inl (by rw [toP]), s1, s2, ?_⟩)⟩
      rw [any_toPs hh.1 (okq_lst hh.2)]
      exact q trivial
    · cases e
  · split at e
    · rename_i x es hh
      cases e
      obtain ⟨v, w, rfl, h1, h2⟩ := r.two
      obtain ⟨k1, s1⟩ := dp_shaped h1 hh.1
      obtain ⟨k2, s2⟩ := dp_shaped h2 hh.2
      refine ⟨_, _, rfl, .inr (.inl ⟨_, toPs es, _, k1, k2, .inr (by rw [toP]), s1, s2, ?_⟩)⟩
      rw [any_toPs hh.1 (okq_tup hh.2)]
      exact q trivial
    · cases e
  · split at e
    · rename_i x es hh
      cases e
      obtain ⟨v, w, rfl, h1, h2⟩ := r.two
      obtain ⟨b, kvs, rfl, rd, rk⟩ := h2.dic_inv
      obtain ⟨y, rfl, ky⟩ := key_of_rep h1 hh
      refine ⟨_, _, rfl, .inr (.inr ⟨b, valV kvs y, rfl, .inl ⟨kvs, y, rd, rfl, rfl⟩, ?_⟩)⟩
      rw [repK_dget rk ky]
      exact q trivial
    · cases e
  · cases e
theorem snd_inn (neg : Bool) {a b : Expr} {pos : Pos} {f : Env → R (List Opd)} {k : Nat} (hr : Room k X.A) (h : SndL n X [a, b] f) (hm : behindInMarks (cmpIn neg) b = false := by rfl) : SndE n X (.Compare a [cmpIn neg] [b] pos) (eA (semIn neg) f) :=
  snd_A h (opa_in neg) fun σ H Q => wE_cmp (op_inAll neg hr) hm σ H Q
theorem snd_tinn (neg : Bool) {a b : Expr} {pos : Pos} {f : Env → R (List Opd)} {k : Nat} (hr : Room k X.A) (h : SndL n X [a, b] f) (hm : behindInMarks (cmpIn neg) b = false := by rfl) : SndT n X (.Compare a [cmpIn neg] [b] pos) (tBool (eA (semIn neg) f)) :=
  snd_tcmp h (opa_in neg) (op_inAll neg hr) hm
theorem snd_in {a b : Expr} {pos : Pos} {f : Env → R (List Opd)} {k : Nat} (hr : Room k X.A) (h : SndL n X [a, b] f) (hm : behindInMarks .In b = false := by rfl) : SndE n X (.Compare a [.In] [b] pos) (eA (semIn false) f) := snd_inn false hr h hm
theorem snd_nin {a b : Expr} {pos : Pos} {f : Env → R (List Opd)} {k : Nat} (hr : Room k X.A) (h : SndL n X [a, b] f) (hm : behindInMarks .NotIn b = false := by rfl) : SndE n X (.Compare a [.NotIn] [b] pos) (eA (semIn true) f) := snd_inn true hr h hm
theorem snd_tin {a b : Expr} {pos : Pos} {f : Env → R (List Opd)} {k : Nat} (hr : Room k X.A) (h : SndL n X [a, b] f) (hm : behindInMarks .In b = false := by rfl) : SndT n X (.Compare a [.In] [b] pos) (tBool (eA (semIn false) f)) := snd_tinn false hr h hm
theorem snd_tnin {a b : Expr} {pos : Pos} {f : Env → R (List Opd)} {k : Nat} (hr : Room k X.A) (h : SndL n X [a, b] f) (hm : behindInMarks .NotIn b = false := by rfl) : SndT n X (.Compare a [.NotIn] [b] pos) (tBool (eA (semIn true) f)) := snd_tinn true hr h hm

/-! ### isinstance(x, T) -/
inductive Ty | str | int | bool | list | tuple | dict | none
def Ty.id : Ty → String
  | .str => "str" | .int => "int" | .bool => "bool" | .list => "list" | .tuple => "tuple" | .dict => "dict" | .none => "NoneType"
def tyOf : D → Option Ty
  | .str _ => some .str | .int _ => some .int | .bl _ => some .bool | .lst _ => some .list | .tup _ => some .tuple | .dic _ => some .dict | .non => some .none | .set _ => none
def isiT : Ty → Ty → Bool
  | .str, .str => true | .int, .int => true | .bool, .bool => true | .bool, .int => true | .list, .list => true | .tuple, .tuple => true | .dict, .dict => true | .none, .none => true | _, _ => false
theorem kit_isiT (t T : Ty) : kitB t.id T.id = some (isiT t T) := by
  cases t <;> cases T <;> decide +kernel
theorem ty_rep {v : V} {d : D} {t : Ty} (h : Rep K H v d) (e : tyOf d = some t) : TyX K H v (.type t.id) := by
  cases h with
  | non => cases e; exact .base .non
  | bl b => cases e; exact .base (.bl b)
  | int i => cases e; exact .base (.int i)
  | str l _ => cases e; exact .base (.str _)
  | lst rd _ =>
    cases e
    rcases rd with (rd | ⟨ob, rd⟩) | ⟨ob, its, n, e1, e2, _⟩
    · exact .base (.lst rd)
    · exact .base (.frz rd)
    · exact .kList e1 e2
  | tup rd _ =>
    cases e
    rcases rd with (rd | ⟨ob, rd⟩) | ⟨ob, its, n, e1, e2, _⟩
    · exact .base (.tup rd)
    · exact .fTuple rd
    · exact .kTuple e1 e2
  | dic rd _ =>
    cases e
    rcases rd with rd | ⟨ob, rd⟩
    · exact .base (.dK rd)
    · exact .fDict rd
  | junk => cases e
def semIsi (T : Ty) : List D → Option At
  | [d] => (tyOf d).map fun t => .bl (isiT t T)
  | _ => none
theorem opa_isi (T : Ty) : OpA K (fun vs H Q => rIsi K (vs ++ [.ty T.id]) H Q) (semIsi T) := by
  intro H vs ds a Q r e q
  unfold semIsi at e
  split at e
  · rename_i d
    obtain ⟨v, rfl, h1⟩ := r.one
    cases et : tyOf d with
    | none => rw [et] at e; cases e
    | some t =>
      rw [et] at e
      cases e
      exact ⟨v, .ty T.id, .type t.id, .type T.id, _, rfl, .ty _, ty_rep h1 et, kit_ty (kit_isiT t T), q trivial⟩
  · cases e
/-- what a call of isinstance asks of the names -/
structure IsiAt (X : Cx) (x : Str) (T : Ty) : Prop where
  gi : Gl X "isinstance"
  mi : X.mg "isinstance" = none
  bi : bootBuiltins "isinstance" = some (.builtin "isinstance")
  gl : Gl X x
  mg : X.mg x = none
  bt : bootBuiltins x = some (.type T.id)
  nn : x ≠ "__name__"
  db : (x == ("__debug__" : Str)) = false
theorem snd_isi {x : Str} {T : Ty} {a : Expr} {p p2 pos : Pos} {f : Env → R (List Opd)} (B : IsiAt X x T) (h : SndL n X [a] f) (pl : Plain X [a, .Name x p2])
    (hpl : (backTo pos (starEach [.Name x p2] X.env)).any (·.1) = false := by rfl) : SndE n X (.Call (.Name "isinstance" p) [a, .Name x p2] [] pos) (eA (semIsi T) f) :=
  snd_A h (opa_isi T) fun σ H Q hq => by
    refine wE_callB call_isi B.gi B.mi B.bi pl (by decide) (by decide) hpl σ H Q ?_
    refine wE_mono hq fun v H1 h1 => ?_
    exact wE_of (pe_bltn B.gl B.mg B.bt (v := .ty T.id) rfl B.nn B.db) h1
end
end PyD
end

section
set_option Elab.async false
set_option linter.all false
set_option maxRecDepth 100000
namespace PyD
open PySem L2 PySem.Spec PyProof.Rows
section
variable {n : Nat} {X : Cx} {K : PySem.W.Frag} {F H : Hp}
/-! ### a and b, a or b, not a: values that are truth values -/
def eAnd (f g : Env → R O) : Env → R O := fun env => match f env with
  | .ok (.fz (.bl b)) e => if b = true then g e else .ok (.fz (.bl false)) e
  | .exc c ds e => .exc c ds e
  | _ => .bad
def eOr (f g : Env → R O) : Env → R O := fun env => match f env with
  | .ok (.fz (.bl b)) e => if b = true then .ok (.fz (.bl true)) e else g e
  | .exc c ds e => .exc c ds e
  | _ => .bad
def eNot (f : Env → R O) : Env → R O := fun env => match f env with
  | .ok (.fz (.bl b)) e => .ok (.fz (.bl (!b))) e
  | .exc c ds e => .exc c ds e
  | _ => .bad
theorem sta_bl {σ : L2.St} {env : Env} {S : List Addr} (b : Bool) (st : Stt K F H σ env S) : Sta K F H σ env S [.bl b] [.fz (.bl b)] [] :=
  sta_one st (.fz (.bl b)) List.nodup_nil ⟨fun _ m => (nomatch m), fun _ m => (nomatch m), fun _ m => (nomatch m)⟩
theorem wE_one {op : BoolOp} {a : Expr} {pos : Pos} {σ : L2.St} {H : Hp} {Q : VK} (h : wE n X a σ H Q) : wE n X (.BoolOp op [a] pos) σ H Q := wE_mk fun pins s hn I => BoolOp_one (wE_run h pins s hn I)
theorem wE_and {a b : Expr} {rest : List Expr} {pos : Pos} {σ : L2.St} {H : Hp} {Q : VK} (h : wE n X a σ H fun x H1 => ∃ c, x = .bl c ∧ if c = true then wE n X (.BoolOp .And (b :: rest) pos) σ H1 Q else Q (.bl false) H1) : wE n X (.BoolOp .And (a :: b :: rest) pos) σ H Q := wE_mk fun pins s hn I => by
  refine BoolOp_and (thn' hn (wE_run h pins s hn I) fun v s1 n1 z => ?_)
  obtain ⟨x, H1, I1, r1, c, e, q1⟩ := z
  subst e
  cases r1
  refine wpAny_truthy_bool ?_
  cases c with
  | true => exact wE_run q1 pins s1 n1 I1
  | false => exact ⟨.bl false, H1, I1, rfl, q1⟩
theorem wE_or {a b : Expr} {rest : List Expr} {pos : Pos} {σ : L2.St} {H : Hp} {Q : VK} (h : wE n X a σ H fun x H1 => ∃ c, x = .bl c ∧ if c = true then Q (.bl true) H1 else wE n X (.BoolOp .Or (b :: rest) pos) σ H1 Q) : wE n X (.BoolOp .Or (a :: b :: rest) pos) σ H Q := wE_mk fun pins s hn I => by
  refine BoolOp_or (thn' hn (wE_run h pins s hn I) fun v s1 n1 z => ?_)
  obtain ⟨x, H1, I1, r1, c, e, q1⟩ := z
  subst e
  cases r1
  refine wpAny_truthy_bool ?_
  cases c with
  | false => exact wE_run q1 pins s1 n1 I1
  | true => exact ⟨.bl true, H1, I1, rfl, q1⟩
theorem wE_not {a : Expr} {pos : Pos} {σ : L2.St} {H : Hp} {Q : VK} (h : wE n X a σ H fun x H1 => ∃ c, x = .bl c ∧ Q (.bl (!c)) H1) : wE n X (.UnaryOp .Not a pos) σ H Q := wE_mk fun pins s hn I => by
  refine UnaryOp_ (thn (wE_run h pins s hn I) fun v s1 z => ?_)
  obtain ⟨x, H1, I1, r1, c, e, q1⟩ := z
  subst e
  cases r1
  exact not_of (wpAny_truthy_bool ⟨V.bl (!c), H1, I1, rfl, q1⟩)
theorem snd_one {op : BoolOp} {a : Expr} {pos : Pos} {f : Env → R O} (h : SndE n X a f) : SndE n X (.BoolOp op [a] pos) f := .mk fun W tk env σ F H S Q st q =>
  wE_one (h.run W tk env σ F H S Q st q)
theorem snd_and {a b : Expr} {rest : List Expr} {pos : Pos} {f g : Env → R O} (h : SndE n X a f) (k : SndE n X (.BoolOp .And (b :: rest) pos) g) : SndE n X (.BoolOp .And (a :: b :: rest) pos) (eAnd f g) := by
  refine .mk fun W tk env σ F H S Q st q => ?_
  refine wE_and (h.run W tk env σ F H S _ st ?_)
  unfold eAnd at q
  revert q
  cases f env with
  | exc c ds e => exact fun q => q
  | bad => exact fun q => q.elim
  | ok o e =>
    cases o with
    | fz d =>
      cases d with
      | bl b =>
        intro q v F1 H1 S1 T tr s
        have one := s.one
        cases one with
        | fz rp =>
        refine ⟨b, rp.bl_inv, ?_⟩
        have t1 : Trans F H S F1 H1 S1 := tr.sub fun x m => List.mem_append_right _ m
        cases b with
        | true => exact k.run W tk e σ F1 H1 S1 _ s.st (q.over t1)
        | false => exact q _ F1 H1 S1 [] (by simpa using t1) (sta_bl false s.st)
      | _ => exact fun q => q.elim
    | _ => exact fun q => q.elim
theorem snd_or {a b : Expr} {rest : List Expr} {pos : Pos} {f g : Env → R O} (h : SndE n X a f) (k : SndE n X (.BoolOp .Or (b :: rest) pos) g) : SndE n X (.BoolOp .Or (a :: b :: rest) pos) (eOr f g) := by
  refine .mk fun W tk env σ F H S Q st q => ?_
  refine wE_or (h.run W tk env σ F H S _ st ?_)
  unfold eOr at q
  revert q
  cases f env with
  | exc c ds e => exact fun q => q
  | bad => exact fun q => q.elim
  | ok o e =>
    cases o with
    | fz d =>
      cases d with
      | bl b =>
        intro q v F1 H1 S1 T tr s
        have one := s.one
        cases one with
        | fz rp =>
        refine ⟨b, rp.bl_inv, ?_⟩
        have t1 : Trans F H S F1 H1 S1 := tr.sub fun x m => List.mem_append_right _ m
        cases b with
        | false => exact k.run W tk e σ F1 H1 S1 _ s.st (q.over t1)
        | true => exact q _ F1 H1 S1 [] (by simpa using t1) (sta_bl true s.st)
      | _ => exact fun q => q.elim
    | _ => exact fun q => q.elim
theorem snd_not {a : Expr} {pos : Pos} {f : Env → R O} (h : SndE n X a f) : SndE n X (.UnaryOp .Not a pos) (eNot f) := by
  refine .mk fun W tk env σ F H S Q st q => ?_
  refine wE_not (h.run W tk env σ F H S _ st ?_)
  unfold eNot at q
  revert q
  cases f env with
  | exc c ds e => exact fun q => q
  | bad => exact fun q => q.elim
  | ok o e =>
    cases o with
    | fz d =>
      cases d with
      | bl b =>
        intro q v F1 H1 S1 T tr s
        have one := s.one
        cases one with
        | fz rp =>
        have t1 : Trans F H S F1 H1 S1 := tr.sub fun x m => List.mem_append_right _ m
        exact ⟨b, rp.bl_inv, q _ F1 H1 S1 [] (by simpa using t1) (sta_bl (!b) s.st)⟩
      | _ => exact fun q => q.elim
    | _ => exact fun q => q.elim
/-! ### what is never reached; names of the module -/
theorem snd_sbad {pr : Nat → Bool} {st : Stmt} : SndS n X pr st (fun _ => .bad) := .mk fun W tk env σ F H S D st q => q.elim
theorem snd_gstr {x : Str} {l : List Nat} {pos : Pos} {z : Str} (hg : Gl X x) (hm : ∃ t, X.mg x = some (.str z t)) (hz : z = sOf l) (hl : okS l) (hd : (x == ("__debug__" : Str)) = false) : SndE n X (.Name x pos) (eC (.str l)) := by
  obtain ⟨t, hm⟩ := hm
  subst hz
  exact snd_c (pe_glob hg hm ⟨t, rfl⟩ hd) hl
theorem snd_gint {x : Str} {i : Int} {pos : Pos} (hg : Gl X x) (hm : ∃ t, X.mg x = some (.int i t)) (hd : (x == ("__debug__" : Str)) = false) : SndE n X (.Name x pos) (eC (.int i)) := by
  obtain ⟨t, hm⟩ := hm
  exact snd_c (pe_glob hg hm ⟨t, rfl⟩ hd) trivial
/-! ### any, all, sum, max, min of a list -/
def blsOf : List D → Option (List Bool)
  | [] => some []
  | .bl b :: r => (blsOf r).map (b :: ·)
  | _ => none
def intsOf : List D → Option (List Int)
  | [] => some []
  | .int i :: r => (intsOf r).map (i :: ·)
  | _ => none
def strsOf : List D → Option (List (List Nat))
  | [] => some []
  | .str l :: r => (strsOf r).map (l :: ·)
  | _ => none
theorem blsOf_rep : ∀ {ds : List D} {vs : List V} {bs : List Bool}, Reps K H vs ds → blsOf ds = some bs → vs = bs.map V.bl
  | [], _, bs, .nil, e => by cases e; rfl
  | d :: ds, _, bs, .cons h r, e => by
    cases d with
    | bl b =>
      rw [blsOf, Option.map_eq_some_iff] at e
      obtain ⟨c, e1, rfl⟩ := e
      rw [h.bl_inv, blsOf_rep r e1]
      rfl
    | _ => cases e
theorem intsOf_rep : ∀ {ds : List D} {vs : List V} {bs : List Int}, Reps K H vs ds → intsOf ds = some bs → vs = bs.map V.int
  | [], _, bs, .nil, e => by cases e; rfl
  | d :: ds, _, bs, .cons h r, e => by
    cases d with
    | int b =>
      rw [intsOf, Option.map_eq_some_iff] at e
      obtain ⟨c, e1, rfl⟩ := e
      rw [h.int_inv, intsOf_rep r e1]
      rfl
    | _ => cases e
theorem strsOf_rep : ∀ {ds : List D} {vs : List V} {bs : List (List Nat)}, Reps K H vs ds → strsOf ds = some bs → vs = bs.map (fun l => V.str (sOf l)) ∧ ∀ l ∈ bs, okS l
  | [], _, bs, .nil, e => by cases e; exact ⟨rfl, fun _ m => nomatch m⟩
  | d :: ds, _, bs, .cons h r, e => by
    cases d with
    | str b =>
      rw [strsOf, Option.map_eq_some_iff] at e
      obtain ⟨c, e1, rfl⟩ := e
      obtain ⟨i1, i2⟩ := strsOf_rep r e1
      obtain ⟨j1, j2⟩ := h.str_inv
      rw [j1, i1]
      exact ⟨rfl, fun l m => (List.mem_cons.mp m).elim (fun z => z ▸ j2) (i2 l)⟩
    | _ => cases e
def semAll : List D → Option At
  | [.lst ds] => (blsOf ds).map fun bs => .bl (bs.all id)
  | _ => none
def semAny : List D → Option At
  | [.lst ds] => (blsOf ds).map fun bs => .bl (bs.any id)
  | _ => none
def semSum : List D → Option At
  | [.lst ds] => (intsOf ds).map fun ns => .int ns.sum
  | _ => none
def maxI : List Int → Option Int
  | [] => none
  | i :: r => match maxI r with
    | some m => some (if i ≤ m then m else i)
    | none => some i
def minI : List Int → Option Int
  | [] => none
  | i :: r => match minI r with
    | some m => some (if m ≤ i then m else i)
    | none => some i
theorem maxI_ok : ∀ {ns : List Int} {m : Int}, maxI ns = some m → m ∈ ns ∧ ∀ y ∈ ns, y ≤ m
  | [], m, e => by cases e
  | i :: r, m, e => by
    unfold maxI at e
    cases q : maxI r with
    | none =>
      rw [q] at e
      cases e
      cases r with
      | nil => exact ⟨List.mem_cons_self, fun y h => by simp at h; omega⟩
      | cons a b =>
        unfold maxI at q
        split at q <;> cases q
    | some n =>
      rw [q] at e
      cases e
      obtain ⟨a, b⟩ := maxI_ok q
      show (if i ≤ n then n else i) ∈ i :: r ∧ _
      split
      · exact ⟨List.mem_cons_of_mem _ a, fun y h => (List.mem_cons.mp h).elim (fun z => by omega) (b y)⟩
      · exact ⟨List.mem_cons_self, fun y h => (List.mem_cons.mp h).elim (fun z => by omega) fun z => by have := b y z; omega⟩
theorem minI_ok : ∀ {ns : List Int} {m : Int}, minI ns = some m → m ∈ ns ∧ ∀ y ∈ ns, m ≤ y
  | [], m, e => by cases e
  | i :: r, m, e => by
    unfold minI at e
    cases q : minI r with
    | none =>
      rw [q] at e
      cases e
      cases r with
      | nil => exact ⟨List.mem_cons_self, fun y h => by simp at h; omega⟩
      | cons a b =>
        unfold minI at q
        split at q <;> cases q
    | some n =>
      rw [q] at e
      cases e
      obtain ⟨a, b⟩ := minI_ok q
      show (if n ≤ i then n else i) ∈ i :: r ∧ _
      split
      · exact ⟨List.mem_cons_of_mem _ a, fun y h => (List.mem_cons.mp h).elim (fun z => by omega) (b y)⟩
      · exact ⟨List.mem_cons_self, fun y h => (List.mem_cons.mp h).elim (fun z => by omega) fun z => by have := b y z; omega⟩
def semMaxL : List D → Option At
  | [.lst ds] => ((intsOf ds).bind maxI).map .int
  | _ => none
def semMinL : List D → Option At
  | [.lst ds] => ((intsOf ds).bind minI).map .int
  | _ => none
theorem opa_all : OpA K (rAll K) semAll := by
  intro H vs ds a Q r e q
  unfold semAll at e
  split at e
  · rw [Option.map_eq_some_iff] at e
    obtain ⟨bs, e1, rfl⟩ := e
    obtain ⟨v, rfl, h1⟩ := r.one
    obtain ⟨p, us, rfl, rd, rs⟩ := h1.lst_inv
    exact ⟨p, bs, rfl, blsOf_rep rs e1 ▸ rd, q trivial⟩
  · cases e
theorem opa_any : OpA K (rAny K) semAny := by
  intro H vs ds a Q r e q
  unfold semAny at e
  split at e
  · rw [Option.map_eq_some_iff] at e
    obtain ⟨bs, e1, rfl⟩ := e
    obtain ⟨v, rfl, h1⟩ := r.one
    obtain ⟨p, us, rfl, rd, rs⟩ := h1.lst_inv
    exact ⟨p, bs, rfl, blsOf_rep rs e1 ▸ rd, q trivial⟩
  · cases e
theorem opa_sum : OpA K (rSum K) semSum := by
  intro H vs ds a Q r e q
  unfold semSum at e
  split at e
  · rw [Option.map_eq_some_iff] at e
    obtain ⟨bs, e1, rfl⟩ := e
    obtain ⟨v, rfl, h1⟩ := r.one
    obtain ⟨p, us, rfl, rd, rs⟩ := h1.lst_inv
    exact ⟨p, bs, rfl, intsOf_rep rs e1 ▸ rd, q trivial⟩
  · cases e
theorem opa_maxL : OpA K (rMax K) semMaxL := by
  intro H vs ds a Q r e q
  unfold semMaxL at e
  split at e
  · rw [Option.map_eq_some_iff] at e
    obtain ⟨m, e1, rfl⟩ := e
    obtain ⟨bs, e2, e3⟩ := Option.bind_eq_some_iff.mp e1
    obtain ⟨v, rfl, h1⟩ := r.one
    obtain ⟨p, us, rfl, rd, rs⟩ := h1.lst_inv
    obtain ⟨m1, m2⟩ := maxI_ok e3
    refine ⟨p, bs, rfl, intsOf_rep rs e2 ▸ rd, List.length_pos_of_mem m1, fun n n1 n2 => ?_⟩
    have : n = m := Int.le_antisymm (m2 n n1) (n2 m m1)
    subst this
    exact q trivial
  · cases e
theorem opa_minL : OpA K (rMin K) semMinL := by
  intro H vs ds a Q r e q
  unfold semMinL at e
  split at e
  · rw [Option.map_eq_some_iff] at e
    obtain ⟨m, e1, rfl⟩ := e
    obtain ⟨bs, e2, e3⟩ := Option.bind_eq_some_iff.mp e1
    obtain ⟨v, rfl, h1⟩ := r.one
    obtain ⟨p, us, rfl, rd, rs⟩ := h1.lst_inv
    obtain ⟨m1, m2⟩ := minI_ok e3
    refine ⟨p, bs, rfl, intsOf_rep rs e2 ▸ rd, List.length_pos_of_mem m1, fun n n1 n2 => ?_⟩
    have : n = m := Int.le_antisymm (n2 m m1) (m2 n n1)
    subst this
    exact q trivial
  · cases e
/-! ### s.join(list) -/
def joinD (s : List Nat) : List (List Nat) → List Nat
  | [] => []
  | [a] => a
  | a :: b :: r => a ++ s ++ joinD s (b :: r)
def totalL (ps : List (List Nat)) : Nat := (ps.map List.length).sum
theorem join_sOf (s : List Nat) : ∀ ps : List (List Nat), Txt.join (sOf s) (ps.map sOf) = sOf (joinD s ps) := by
  intro ps
  rw [TL.join_eq]
  induction ps with
  | nil => rfl
  | cons a r ih =>
    cases r with
    | nil => rfl
    | cons b r =>
      show sOf a ++ sOf s ++ Str.join (sOf s) ((b :: r).map sOf) = _
      rw [ih, sOf_append, sOf_append]
      rfl
theorem joinD_mem {s : List Nat} : ∀ {ps : List (List Nat)} {c : Nat}, c ∈ joinD s ps → c ∈ s ∨ ∃ p ∈ ps, c ∈ p
  | [], c, h => by cases h
  | [a], c, h => .inr ⟨a, List.mem_cons_self, h⟩
  | a :: b :: r, c, h => by
    unfold joinD at h
    rcases List.mem_append.mp h with h | h
    · rcases List.mem_append.mp h with h | h
      · exact .inr ⟨a, List.mem_cons_self, h⟩
      · exact .inl h
    · rcases joinD_mem h with h | ⟨p, h1, h2⟩
      · exact .inl h
      · exact .inr ⟨p, List.mem_cons_of_mem _ h1, h2⟩
theorem joinD_len {s : List Nat} : ∀ ps : List (List Nat), (joinD s ps).length ≤ totalL ps + ps.length * s.length
  | [] => by simp [joinD, totalL]
  | [a] => by simp [joinD, totalL]
  | a :: b :: r => by
    have := joinD_len (s := s) (b :: r)
    unfold joinD
    rw [List.length_append, List.length_append]
    have e : totalL (a :: b :: r) = a.length + totalL (b :: r) := rfl
    have e2 : (a :: b :: r).length * s.length = s.length + (b :: r).length * s.length := by
      rw [List.length_cons, Nat.add_mul, Nat.one_mul, Nat.add_comm]
    omega
def mJoin : List Nat → List D → Option O
  | s, [.lst ds] => match strsOf ds with
    | some ps => if totalL ps + ps.length * s.length ≤ LIM then some (.fz (.str (joinD s ps))) else none
    | none => none
  | _, _ => none
theorem opm_join : OpM K (fun x xs H Q => ∃ a p, ∃ ys : List Str, x = .str a ∧ xs = [.ref p] ∧ (SqL K H p (ys.map V.str) ∨ SqT K H p (ys.map V.str)) ∧
    (ys.map (·.length)).sum + ys.length * a.length ≤ 16777216 ∧ Q (.str (Txt.join a ys)) H) mJoin := by
  intro F H l vs ds o Q s okl r e q
  unfold mJoin at e
  split at e
  · split at e
    · rename_i es ps hp
      split at e
      · rename_i hz
        cases e
        obtain ⟨v, rfl, h1⟩ := r.one
        obtain ⟨p, us, rfl, rd, rs⟩ := h1.lst_inv
        obtain ⟨e1, e2⟩ := strsOf_rep rs hp
        refine ⟨sOf l, p, ps.map sOf, rfl, rfl, .inl ?_, ?_, ?_⟩
        · rw [e1] at rd
          rw [List.map_map]
          exact rd
        · have e3 : ((ps.map sOf).map fun y => y.length) = ps.map List.length := by
            rw [List.map_map]
            exact List.map_congr_left fun x _ => length_sOf x
          rw [e3, List.length_map, length_sOf]
          exact Nat.le_trans hz (by decide)
        · rw [join_sOf]
          refine atom_val (a := .str (joinD l ps)) s ⟨Nat.le_trans (joinD_len ps) (lim_line hz), fun c m => ?_⟩ q
          rcases joinD_mem m with m | ⟨p, m1, m2⟩
          · exact okl.2 c m
          · exact (e2 p m1).2 c m2
      · cases e
    · cases e
  · cases e
end
end PyD
end

section
set_option Elab.async false
set_option linter.all false
set_option maxRecDepth 100000
namespace PyD
open PySem L2 PySem.Spec PyProof.Rows
section
variable {n : Nat} {X : Cx} {K : PySem.W.Frag} {F H : Hp} {tg : Expr}
/-! ### list(x) -/
def okKey : D → Bool
  | .int _ => true
  | .str l => decide (l.length ≤ LIM) && l.all fun c => decide (c < 128)
  | _ => false
theorem okKey_s {l : List Nat} (h : okKey (.str l) = true) : okS l := by
  simp only [okKey, Bool.and_eq_true, decide_eq_true_iff, List.all_eq_true] at h
  exact ⟨lim_line h.1, h.2⟩
theorem keys_rep : ∀ {kvs : List (Key × V)} {es : List (D × D)}, RepK K F kvs es → (es.all fun p => okKey p.1) = true → Reps K F (kvs.map fun kv => L2.kV kv.1) (es.map (·.1))
  | _, _, .nil, _ => .nil
  | _, _, .cons (e := e) hk hv r, h => by
    rw [List.all_cons, Bool.and_eq_true] at h
    exact .cons (hk.kV fun l z => by subst z; exact okKey_s h.1) (keys_rep r h.2)
def rListAll (K : PySem.W.Frag) : List V → Hp → VK → Prop := fun xs H Q =>
  (∃ p ys, xs = [.ref p] ∧ (SqL K H p ys ∨ SqT K H p ys) ∧ ∀ l, H l = none → Q (.ref l) (upd H l (.lst ys))) ∨
  ∃ (a : Addr) (kvs : List (Key × V)), xs = [.ref a] ∧ Rd H a (.dK kvs) ∧ ∀ p, H p = none → Q (.ref p) (upd H p (.lst (kvs.map fun kv => kV kv.1)))
theorem call_listAll (hc : X.calm = true) : CallR X (.type "list") (rListAll X.K) := CallR.or call_list_of (call_listD hc)
def semList : List D → Option O
  | [.lst ds] => some (.lst (ds.map .fz))
  | [.tup ds] => some (.lst (ds.map .fz))
  | [.dic es] => if (es.all fun p => okKey p.1) = true then some (.lst ((es.map (·.1)).map .fz)) else none
  | _ => none
theorem opb_list : OpB K (rListAll K) semList := by
  intro F H vs ds o Q s sh e q
  unfold semList at e
  split at e
  · cases e
    obtain ⟨x, rfl, h1⟩ := sh.one
    obtain ⟨a, us, rfl, g1, k1⟩ := h1.lst_inv s
    exact .inl ⟨a, us, rfl, .inl g1, fun p hp => new_lst s k1 hp q⟩
  · cases e
    obtain ⟨x, rfl, h1⟩ := sh.one
    obtain ⟨a, us, rfl, g1, k1⟩ := h1.tup_inv s
    exact .inl ⟨a, us, rfl, .inr g1, fun p hp => new_lst s k1 hp q⟩
  · split at e
    · rename_i es hh
      cases e
      obtain ⟨x, rfl, h1⟩ := sh.one
      obtain ⟨a, kvs, rfl, g1, k1⟩ := h1.dic_inv s
      exact .inr ⟨a, kvs, rfl, g1, fun p hp => new_lst s (keys_rep k1 hh) hp q⟩
    · cases e
  · cases e
/-- list(range(a, b)) -/
theorem SndE.up {e : Expr} {f : Env → R O} (h : SndE 0 X e f) : SndE n X e f := .mk fun W tk env σ F H S Q st q => wE_up (h.run W tk env σ F H S Q st q)
def rngD (lo : Int) (n : Nat) : List D := (List.range n).map fun k => .int (lo + (k : Nat))
def semLRng : List D → Option O
  | [.int i, .int j] => if small62 i = true ∧ small62 j = true ∧ (j - i).toNat ≤ LIM then some (.lst ((rngD i (j - i).toNat).map .fz)) else none
  | _ => none
theorem rgV_rep (a b : Int) : Reps K F (rgV a b) (rngD a (b - a).toNat) := by
  unfold rgV rngD
  generalize List.range (b - a).toNat = l
  induction l with
  | nil => exact .nil
  | cons n l ih => exact .cons (.int _) ih
theorem snd_lrng2 {a b : Expr} {f : Env → R (List Opd)} {p p2 pos pos2 : Pos} (hc : X.calm = true) (hg : Gl X "list") (hm : X.mg "list" = none) (hg2 : Gl X "range") (hm2 : X.mg "range" = none) (h : SndL 0 X [a, b] f)
    (hs : Plain X [a, b]) (na : Plain X [.Call (.Name "range" p2) [a, b] [] pos2]) (hp : (backTo pos2 (starEach [b] X.env)).any (·.1) = false := by rfl) :
    SndE n X (.Call (.Name "list" p) [.Call (.Name "range" p2) [a, b] [] pos2] [] pos) (eB semLRng f) :=
  SndE.up <| snd_B (n := 0) (rd := fun vs H Q => ∃ i j, vs = [.int i, .int j] ∧ RgOk i j ∧ ∀ q, H q = none → Q (.ref q) (upd H q (.lst (rgV i j)))) h (by
    intro F H vs ds o Q s sh e q
    unfold semLRng at e
    split at e
    · split at e
      · rename_i i j hh
        cases e
        obtain ⟨x, y, rfl, h1, h2⟩ := sh.two
        cases h1.int_inv; cases h2.int_inv
        obtain ⟨a1, a2⟩ := small62_ok hh.1
        obtain ⟨b1, b2⟩ := small62_ok hh.2.1
        exact ⟨i, j, rfl, ⟨a1, a2, b1, b2, Nat.le_trans hh.2.2 (by decide)⟩, fun p hp => new_lst s (rgV_rep i j) hp q⟩
      · cases e
    · cases e) fun σ H Q hq => by
    refine wE_of (pe_listRg hc hg hm (prg_2 hg2 hm2 pe_w pe_w hs.1 hs.2.1 hp) na.1) ?_
    show wE 0 X a σ H _
    refine wE_mono hq fun x H1 h1 => wE_mono h1 fun y H2 h2 => ?_
    obtain ⟨i, j, e, ok, q⟩ := h2
    cases e
    exact ⟨i, j, rfl, rfl, ok, q⟩
def semLRng1 : List D → Option O
  | [.int j] => if small62 j = true ∧ j.toNat ≤ LIM then some (.lst ((rngD 0 j.toNat).map .fz)) else none
  | _ => none
theorem snd_lrng1 {b : Expr} {f : Env → R (List Opd)} {p p2 pos pos2 : Pos} (hc : X.calm = true) (hg : Gl X "list") (hm : X.mg "list" = none) (hg2 : Gl X "range") (hm2 : X.mg "range" = none) (h : SndL 0 X [b] f)
    (hs : Plain X [b]) (na : Plain X [.Call (.Name "range" p2) [b] [] pos2]) :
    SndE n X (.Call (.Name "list" p) [.Call (.Name "range" p2) [b] [] pos2] [] pos) (eB semLRng1 f) :=
  SndE.up <| snd_B (n := 0) (rd := fun vs H Q => ∃ j, vs = [.int j] ∧ RgOk 0 j ∧ ∀ q, H q = none → Q (.ref q) (upd H q (.lst (rgV 0 j)))) h (by
    intro F H vs ds o Q s sh e q
    unfold semLRng1 at e
    split at e
    · split at e
      · rename_i j hh
        cases e
        obtain ⟨x, rfl, h1⟩ := sh.one
        cases h1.int_inv
        obtain ⟨b1, b2⟩ := small62_ok hh.1
        have e0 : j - 0 = j := by omega
        refine ⟨j, rfl, ⟨by decide, by decide, b1, b2, by rw [e0]; exact Nat.le_trans hh.2 (by decide)⟩, fun p hp => ?_⟩
        have r : Reps X.K F (rgV 0 j) (rngD 0 (j - 0).toNat) := rgV_rep 0 j
        rw [e0] at r
        exact new_lst s r hp q
      · cases e
    · cases e) fun σ H Q hq => by
    refine wE_of (pe_listRg hc hg hm (prg_1 hg2 hm2 pe_w hs.1) na.1) ?_
    show wE 0 X b σ H _
    refine wE_mono hq fun y H2 h2 => ?_
    obtain ⟨j, e, ok, q⟩ := h2
    cases e
    exact ⟨j, rfl, ok, q⟩
/-! ### x[::-1] -/
def rRevAll (K : PySem.W.Frag) : V → Hp → VK → Prop := fun x H Q =>
  (∃ a xs, x = .ref a ∧ SqL K H a xs ∧ ∀ p, H p = none → Q (.ref p) (upd H p (.lst xs.reverse))) ∨ ∃ l, x = .str (sOf l) ∧ l.length ≤ sizeLine ∧ Q (.str (sOf l.reverse)) H
theorem revTxt (l : List Nat) : slicePicked (sOf l) none none (some (-1, 0)) = (List.range l.length).reverse := by
  unfold slicePicked Builtin.Str.strSliceIndices
  show sliceRange (((sOf l).length : Int) - 1) (-1) (-1) = _
  rw [length_sOf, PySem.W.krv_sliceRange, PySem.W.krv_range]
theorem wE_rev {e : Expr} {k : Nat} {p1 p2 p3 pos : Pos} {σ : L2.St} {H : Hp} {Q : VK} (h : wE n X e σ H fun x H1 => rRevAll X.K x H1 Q) :
    wE n X (.Subscript e (.Slice none none (some (.UnaryOp .USub (.Constant (.int 1) k p1) p2)) p3) pos) σ H Q := by
  refine wE_mk fun pins s hn I => ?_
  refine Subscript_ (thn (wE_run h pins s hn I) fun v s1 ⟨x, H1, I1, r1, q1⟩ => ?_)
  have step : PO X (some (.UnaryOp .USub (.Constant (.int 1) k p1) p2)) (tPart (tUn (rU fun i => .int (-i)) (tC (.int 1)))) :=
    po_some (pe_un un_neg pe_int)
  refine wpAny_Slice (thn (po_none.run pins s1 σ H1 (fun o H2 => o = none ∧ H2 = H1) I1 ⟨rfl, rfl⟩) fun vl s2 ⟨lo, H2, I2, pl, el, e2⟩ => ?_)
  subst el e2
  refine thn (po_none.run pins s2 σ H2 (fun o H3 => o = none ∧ H3 = H2) I2 ⟨rfl, rfl⟩) fun vu s3 ⟨hi, H3, I3, pu, eu, e3⟩ => ?_
  subst eu e3
  refine thn (step.run pins s3 σ H3 (fun o H4 => o = some (-1) ∧ H4 = H3) I3 ⟨1, rfl, -1, rfl, rfl, rfl⟩) fun vs s4 ⟨o, H4, I4, ps, eo, e4⟩ => ?_
  subst eo e4
  have I5 : Inv X pins σ H4 { s4 with heap := s4.heap.push { cls := .type "slice", data := .fields #[vl, vu, vs] } } :=
    I4.kept (t' := s4.toks) fun b ob q => Heap.get?_push_of_some _ q
  rcases q1 with ⟨a, xs, ex, hx, q⟩ | ⟨l, ex, hl, q⟩
  · subst ex
    cases r1
    obtain ⟨its, r, ht, hz⟩ := I5.list hx
    have hlen := r.length
    show wpAny (model X.prog X.w) X.A (subscriptTail e (.Slice none none (some (.UnaryOp .USub (.Constant (.int 1) k p1) p2)) p3)
      (.ref a) (.ref s4.heap.objs.size)) (EP X pins σ Q) X.xe { s4 with heap := s4.heap.push { cls := .type "slice", data := .fields #[vl, vu, vs] } }
    refine tail_any (ops := [.ref a, .ref s4.heap.objs.size]) ht.isList.typeIs (PySem.slot_list_getitem.lookup) ?_ (by with_unfolding_all rfl)
    refine wpAny_getItem_list_slice ht.isList (Heap.IsSliceOf.new _ vl vu vs) pl pu ps (by decide) ?_ (by rw [List.size_toArray]; omega)
    rw [PySem.W.krv_pick]
    have long : xs.reverse.length ≤ sizeLine := by
      rw [List.length_reverse]
      exact hz
    refine ⟨.ref _, _, I5.laid (t' := s4.toks) (o := .lst xs.reverse) (fun b ob q => Heap.get?_push_of_some _ q) (Nat.le_refl _) ?_, rfl, q _ (I5.hok.fresh (Nat.le_refl _))⟩
    exact ⟨long, _, 0, r.reverse, Heap.get?_push_size _ rfl⟩
  · subst ex
    obtain ⟨t, rfl⟩ := r1
    obtain ⟨l0, rfl, e0⟩ := IsPart.raw pl
    obtain ⟨u0, rfl, e1⟩ := IsPart.raw pu
    obtain ⟨w0, rfl, e5⟩ := IsPart.raw ps
    show wpAny (model X.prog X.w) X.A (subscriptTail e (.Slice none none (some (.UnaryOp .USub (.Constant (.int 1) k p1) p2)) p3)
      (.str (sOf l) t) (.ref s4.heap.objs.size)) (EP X pins σ Q) X.xe { s4 with heap := s4.heap.push { cls := .type "slice", data := .fields #[_, _, _] } }
    refine tail_any (T := "str") (ops := [.str (sOf l) t, .ref s4.heap.objs.size]) (typeIs_str _ _ _) F.slot_str_getitem.lookup ?_ (by with_unfolding_all rfl)
    refine wpAny_getItem_str_slice (l := l0) (u := u0) (st := w0) ⟨_, Heap.get?_push_size _ rfl, rfl, rfl⟩ ?_ ?_
    · rw [e5]; rfl
    · have ew : ∃ tk, w0 = some (-1, tk) := by
        cases w0 with
        | none => cases e5
        | some p => obtain ⟨i, tk⟩ := p; cases e5; exact ⟨tk, rfl⟩
      have el : l0 = none := by cases l0 with | none => rfl | some p => cases e0
      have eu : u0 = none := by cases u0 with | none => rfl | some p => cases e1
      obtain ⟨tk, rfl⟩ := ew
      subst el eu
      have pick : slicePicked (sOf l) none none (some (-1, tk)) = (List.range l.length).reverse := revTxt l
      have all : ((List.range l.length).reverse.filterMap ((sOf l).cps[·]?)).toArray = l.reverse.toArray := by
        have := PySem.W.krv_all l.toArray
        rw [List.size_toArray] at this
        rw [List.filterMap_reverse]
        show ((List.range l.length).filterMap (l.toArray[·]?)).reverse.toArray = _
        rw [this]
      unfold sliceMade
      rw [pick]
      show Made.post (if (((-1 : Int) == 1) && _) = true then _ else _) _ _
      rw [if_neg (by simp), all]
      exact ⟨by show l.reverse.toArray.size ≤ sizeLine; simpa using hl, .str (sOf l.reverse), H4, I5.tok _, ⟨_, rfl⟩, q⟩
def semRev : List D → Option O
  | [.lst ds] => some (.lst (ds.reverse.map .fz))
  | [.str l] => some (.fz (.str l.reverse))
  | _ => none
theorem reps_rev {vs : List V} {ds : List D} (h : Reps K F vs ds) : Reps K F vs.reverse ds.reverse := by
  induction ds generalizing vs with
  | nil => cases h; exact .nil
  | cons d ds ih =>
    cases h with
    | cons a b =>
      rw [List.reverse_cons, List.reverse_cons]
      exact (ih b).append (.cons a .nil)
theorem snd_rev {e : Expr} {k : Nat} {p1 p2 p3 pos : Pos} {f : Env → R (List Opd)} (h : SndL n X [e] f) : SndE n X (.Subscript e (.Slice none none (some (.UnaryOp .USub (.Constant (.int 1) k p1) p2)) p3) pos) (eB semRev f) :=
  snd_B (rd := fun vs H Q => ∃ x, vs = [x] ∧ rRevAll X.K x H Q) h (by
    intro F H vs ds o Q s sh e q
    unfold semRev at e
    split at e
    · cases e
      obtain ⟨x, rfl, h1⟩ := sh.one
      obtain ⟨a, us, rfl, g1, k1⟩ := h1.lst_inv s
      exact ⟨_, rfl, .inl ⟨a, us, rfl, g1, fun p hp => new_lst s (reps_rev k1) hp q⟩⟩
    · rename_i l
      cases e
      obtain ⟨x, rfl, h1⟩ := sh.one
      obtain ⟨rfl, ok⟩ := h1.str_inv
      exact ⟨_, rfl, .inr ⟨l, rfl, ok.1, old_val s (.str _ ⟨by rw [List.length_reverse]; exact ok.1, fun c m => ok.2 c (List.mem_reverse.mp m)⟩) q⟩⟩
    · cases e) fun σ H Q hq => wE_rev (wE_mono hq fun x H1 h1 => by
      obtain ⟨y, e, q⟩ := h1
      cases e
      exact q)
/-! ### for i, x in enumerate(xs) -/
def numbered : Nat → List D → List O
  | _, [] => []
  | n, d :: ds => .tup [.fz (.int n), .fz d] :: numbered (n + 1) ds
theorem numbered_get : ∀ (n : Nat) (ds : List D) (i : Nat) (o : O), (numbered n ds)[i]? = some o → ∃ d, ds[i]? = some d ∧ o = .tup [.fz (.int ((n + i : Nat) : Int)), .fz d]
  | n, [], i, o, h => by simp [numbered] at h
  | n, d :: ds, 0, o, h => by
    cases h
    exact ⟨d, rfl, rfl⟩
  | n, d :: ds, i + 1, o, h => by
    obtain ⟨e, h1, h2⟩ := numbered_get (n + 1) ds i o h
    refine ⟨e, h1, ?_⟩
    rw [h2]
    have : n + 1 + i = n + (i + 1) := by omega
    rw [this]
theorem numbered_len : ∀ (n : Nat) (ds : List D), (numbered n ds).length = ds.length
  | _, [] => rfl
  | n, d :: ds => by rw [numbered, List.length_cons, List.length_cons, numbered_len]
def semEnum : D → Option (List O)
  | .lst ds => some (numbered 0 ds)
  | _ => none
theorem itOk_enum {F0 : Hp} {a : Addr} {vs : List V} {ds : List D} (h : SqL K F0 a vs) (r : Reps K F0 vs ds) : ItOk K (Ite K a) F0 (numbered 0 ds) := by
  intro F H e1 e2 i
  have rdH := e2.l (e1.l h)
  refine ⟨fun o ho => ?_, fun hl => ⟨vs, rdH, by rw [r.length, ← numbered_len 0 ds]; exact hl⟩⟩
  obtain ⟨d, hd, rfl⟩ := numbered_get 0 ds i o ho
  obtain ⟨v, hv, rv⟩ := r.get' hd
  refine ⟨⟨vs, v, rdH, hv⟩, fun x H' y => ?_⟩
  obtain ⟨T, x, rfl, hT, rfl, hx⟩ := y
  have := hx vs (rdH)
  rw [hv] at this
  cases this
  have e0 : ((0 + i : Nat) : Int) = ((i : Nat) : Int) := by rw [Nat.zero_add]
  rw [e0]
  exact ⟨F, [T], tr_new e2 hT, .tup upd_same (.cons (fp := []) (fq := []) (.fz (.int _)) (.cons (fp := []) (fq := []) (.fz (rv.mono e1)) .nil)), e2.trans (Ex.new hT), by simp, fun a m => by
    simp at m
    subst m
    exact e2.none hT⟩
/-- what walks a frozen value by a rule -/
def iFz (g : D → Option (List O)) (f : Env → R O) : Env → R (List O) := fun env => match f env with
  | .ok o e => (match g o.erase with
    | some os => .ok os e
    | none => .bad)
  | .exc c ds e => .exc c ds e
  | .bad => .bad
theorem snd_ienum {p pos tpos : Pos} {elts : List Expr} {kk : Nat} {e : Expr} {f : Env → R O} (hg : Gl X "enumerate") (hm : X.mg "enumerate" = none) (h : SndE 0 X e f) (hs : Plain X [e]) :
    SndI n X (.Tuple elts kk tpos) (.Call (.Name "enumerate" p) [e] [] pos) (iFz semEnum f) := by
  refine .mk fun W tk env σ F H S Q st q => ?_
  refine wI_of (pi_enum hg hm (ta := wA 0 X [e]) pa_w hs.1) ?_
  refine wA_of (pa_cons pe_w pa_nil hs.1) (h.run W tk env σ F H S _ st ?_)
  unfold iFz at q
  revert q
  cases f env with
  | exc c ds e => exact fun q => q
  | bad => exact fun q => q
  | ok o e =>
    intro q v F1 H1 S1 T tr s
    revert q
    show PostI X W σ F H S Q (match semEnum o.erase with
      | some os => .ok os e
      | none => .bad) → _
    have rp : Rep X.K (frz F1 H1 T) v o.erase := s.one.freeze (frz_ex s.as.nf) fun a m u e => by rw [frz_in m]; exact e
    have t2 := tr.trans (frz_trans (S := S1) s.as.nf)
    have s2 := s.st.frz s.as
    cases hd : o.erase with
    | lst ds =>
      intro q
      rw [hd] at rp
      obtain ⟨a, vs, rfl, h1, r⟩ := rp.lst_inv
      exact ⟨a, vs, rfl, s2.sub.l h1, q _ _ _ _ t2 s2 (itOk_enum h1 r)⟩
    | _ => exact fun q => q.elim
/-- str(i) -/
def natS (n : Nat) : List Nat := (toString n).toList.map Char.toNat
end
end PyD
end

section
set_option Elab.async false
set_option linter.all false
set_option maxRecDepth 100000
namespace PyD
open PySem L2 PySem.Spec PyProof.Rows
/-! ### a, b = x, y: plain local names -/
def setV : List Nat → List V → L2.St → L2.St
  | j :: js, v :: vs, σ => setV js vs (σ.set j (some v))
  | _, _, σ => σ
def setO : List Nat → List O → Env → Env
  | j :: js, o :: os, env => setO js os (env.set j (some o))
  | _, _, env => env
theorem stt_stores {K : PySem.W.Frag} {F H : Hp} : ∀ {js : List Nat} {vs : List V} {os : List O} {T S : List Addr} {env : Env} {σ : L2.St}, Sta K F H σ env S vs os T → js.length = os.length → (∀ j ∈ js, j < env.length) →
    ∃ S', Trans F H (T ++ S) F H S' ∧ Stt K F H (setV js vs σ) (setO js os env) S'
  | [], vs, os, T, S, env, σ, s, hl, hj => by
    have : os = [] := List.length_eq_zero_iff.mp hl.symm
    subst this
    have e := s.val
    cases e
    exact ⟨S, by simpa using Trans.refl, s.st⟩
  | j :: js, vs, os, T, S, env, σ, s, hl, hj => by
    cases os with
    | nil => cases hl
    | cons o os =>
      have ow := s.val
      cases ow with
      | cons a b =>
        rename_i v vs fp fq
        have nd := List.nodup_append.mp s.nd
        have as1 : Aside F H S fp := ⟨fun x m => s.as.ns x (List.mem_append_left _ m), fun x m => s.as.nf x (List.mem_append_left _ m), fun x m => s.as.lv x (List.mem_append_left _ m)⟩
        have as2 : Aside F H (fp ++ S) fq := ⟨fun x m n => (List.mem_append.mp n).elim (fun n => nd.2.2 x n x m rfl) (s.as.ns x (List.mem_append_right _ m)), fun x m => s.as.nf x (List.mem_append_right _ m), fun x m => s.as.lv x (List.mem_append_right _ m)⟩
        obtain ⟨S1, t, st1⟩ := stt_store (i := j) (⟨s.st, by simpa using Owns.cons a Owns.nil, nd.1, as1⟩ : Sta K F H σ env S [v] [o] fp) (hj j List.mem_cons_self)
        obtain ⟨S', t2, st2⟩ := stt_stores (js := js) (⟨st1, b, nd.2.1, as2.over t⟩ : Sta K F H _ _ S1 vs os fq) (Nat.succ.inj hl) fun x m => by rw [List.length_set]; exact hj x (List.mem_cons_of_mem _ m)
        have app : ∀ x, x ∈ fp ++ S → x ∈ (fp ++ fq) ++ S := fun x m => by
          rcases List.mem_append.mp m with m | m
          · exact List.mem_append_left _ (List.mem_append_left _ m)
          · exact List.mem_append_right _ m
        have t' : Trans F H ((fp ++ fq) ++ S) F H (fq ++ S1) := by
          refine ⟨fun x u e n => t.fr x u e fun m => n (app x m), t.ff, fun x u e => ?_, fun x m => ?_, t.dm⟩
          · rcases t.fn x u e with z | z | z
            · exact .inl z
            · exact .inr (.inl (app x z))
            · exact .inr (.inr z)
          · rcases List.mem_append.mp m with m | m
            · exact .inl (List.mem_append_left _ (List.mem_append_right _ m))
            · rcases t.sn x m with z | z
              · exact .inl (app x z)
              · exact .inr z
        exact ⟨S', t'.trans t2, st2⟩
def sPar (js : List Nat) (f : Env → R (List O)) : Env → R Fl := fun env => match f env with
  | .ok os e => if js.length = os.length ∧ (js.all fun j => decide (j < e.length)) = true then .ok .nx (setO js os e) else .bad
  | .exc c ds e => .exc c ds e
  | .bad => .bad
theorem agree_sets {pr : Nat → Bool} : ∀ {js : List Nat} {vs : List V} {σ : L2.St}, (∀ j ∈ js, pr j = false) → Agree pr σ (setV js vs σ)
  | [], _, σ, _ => by cases ‹List V› <;> exact Agree.refl
  | j :: js, [], σ, _ => Agree.refl
  | j :: js, v :: vs, σ, h => (Agree.set (h j List.mem_cons_self)).trans (agree_sets fun x m => h x (List.mem_cons_of_mem _ m))
section
variable {n : Nat} {X : Cx} {pr : Nat → Bool}
theorem post_par {W : WX} {js : List Nat} {es : List Expr} {f : Env → R (List O)} {σ : L2.St} {F H : Hp} {S : List Addr} {D : Ends} {r : R (List O)} (hp : ∀ j ∈ js, pr j = false)
    (q : PostS X W pr σ F H S D (match r with
      | .ok os e => if js.length = os.length ∧ (js.all fun j => decide (j < e.length)) = true then .ok .nx (setO js os e) else .bad
      | .exc c ds e => .exc c ds e
      | .bad => .bad)) : PostA X W σ F H S (fun vs H1 => js.length = vs.length ∧ D.nx (setV js vs σ) H1) r := by
  cases r with
  | exc c ds e => exact ExcPostS.e q
  | bad => exact q
  | ok os e =>
    intro vs F1 H1 S1 T tr s
    revert q
    show PostS X W pr σ F H S D (if js.length = os.length ∧ (js.all fun j => decide (j < e.length)) = true then .ok .nx (setO js os e) else .bad) → _
    by_cases hh : js.length = os.length ∧ (js.all fun j => decide (j < e.length)) = true
    · rw [if_pos hh]
      intro q
      obtain ⟨S', t, st⟩ := stt_stores s hh.1 fun j m => by
        have := List.all_eq_true.mp hh.2 j m
        exact of_decide_eq_true this
      exact ⟨hh.1.trans s.val.length.symm, q _ _ _ _ (tr.trans t) st (agree_sets hp)⟩
    · rw [if_neg hh]
      exact fun q => q.elim
theorem wS_par {i j : Nat} {x y : Str} {a b : Expr} {px py pt pos : Pos} {kt k2 pt2} (hc : X.calm = true) (hN : X.N.Nodup) (hi : X.N[i]? = some x) (hj : X.N[j]? = some y) (hij : i ≠ j)
    (hx : X.env.scope.names.lookup x = some .local) (hy : X.env.scope.names.lookup y = some .local)
    (hw : swappedStores [.Tuple [.Name x px, .Name y py] kt pt] (.Tuple [a, b] k2 pt2) X.env = pure (some [x, y]))
    (hs : swapsWithSole [.Tuple [.Name x px, .Name y py] kt pt] (.Tuple [a, b] k2 pt2) pos.line X.env = pure false) {σ : L2.St} {H : Hp} {D : Ends}
    (h : wA n X [a, b] σ H fun vs H1 => ∃ v w, vs = [v, w] ∧ D.nx ((σ.set i (some v)).set j (some w)) H1) : wS n X (.Assign [.Tuple [.Name x px, .Name y py] kt pt] (.Tuple [a, b] k2 pt2) pos) D σ H := by
  intro pins s hn I
  rw [exec_Assign_arm]
  refine wpAny_bind (wpAny_standAt ?_)
  rw [hs]
  refine wpAny_bind (wpAny_pure ?_)
  rw [if_neg Bool.false_ne_true]
  refine wpAny_bind (Tuple_ (thn (h _ pins s hn I) fun us s1 z => ?_))
  obtain ⟨vs, H1, I1, r1, v, w, e1, q1⟩ := z
  subst e1
  obtain ⟨u1, us', rv, rw1, e2⟩ : ∃ u1 us', RelV v u1 ∧ Vals [w] us' ∧ us = u1 :: us' := by
    cases r1 with
    | cons p q => exact ⟨_, _, p, q, rfl⟩
  obtain ⟨u2, rw2, e3⟩ : ∃ u2, RelV w u2 ∧ us' = [u2] := by
    cases rw1 with
    | cons p q =>
      cases q
      exact ⟨_, p, rfl⟩
  subst e3
  subst e2
  refine wpAny_newObj_type ?_ (show 2 ≤ sizeLine by decide)
  have J := I1.kept (h' := s1.heap.push { cls := .type "tuple", data := .seq [u1, u2].toArray }) (t' := s1.toks) fun b o e => Heap.get?_push_of_some _ e
  rw [hw]
  refine wpAny_bind (wpAny_pure ?_)
  show wpAny (model X.prog X.w) X.A (do
    rule "assign.swapped-stores"
    let items ← unpackItems (.ref s1.heap.objs.size) 2 none
    assignInOrder [fun v => bindName X.env y v, fun v => bindName X.env x v] items.reverse
    pure Flow.next) _ _ _
  refine wpAny_bind (wpAny_rule (wpAny_bind (unpackItems_tuple (items := #[u1, u2]) (I.ok.hd hc) (IsTup.new s1.heap _) fun g stay => ?_)))
  have J2 := J.kept (h' := g) (t' := s1.toks) fun b o e => stay b o (Nat.ne_of_lt (Heap.lt_size e)) e
  show wpAny _ _ (assignInOrder [fun v => bindName X.env y v, fun v => bindName X.env x v] [u2, u1] >>= fun _ => pure Flow.next) _ _ _
  refine wpAny_bind (assignInOrder_cons (wpAny_bindName (store_ok J2 hN hj (.inl hy) rw2 (fun s2 J3 => ?_) (.inr hy))))
  refine assignInOrder_cons (wpAny_bindName (store_ok J3 hN hi (.inl hx) rv (fun s3 J4 => assignInOrder_nil (wpAny_pure ?_)) (.inr hx)))
  rw [List.set_comm _ _ (Ne.symm hij)] at J4
  exact ⟨_, H1, J4, q1⟩
theorem snd_par2 {i j : Nat} {x y : Str} {a b : Expr} {px py pt pos : Pos} {kt k2 pt2} {f : Env → R (List O)} (hc : X.calm = true) (hN : X.N.Nodup) (hi : X.N[i]? = some x) (hj : X.N[j]? = some y) (hij : i ≠ j)
    (hx : X.env.scope.names.lookup x = some .local) (hy : X.env.scope.names.lookup y = some .local) (h : SndA n X [a, b] f) (pl : Plain X [a, b]) (p1 : pr i = false) (p2 : pr j = false)
    (hw : swappedStores [.Tuple [.Name x px, .Name y py] kt pt] (.Tuple [a, b] k2 pt2) X.env = pure (some [x, y]))
    (hs : swapsWithSole [.Tuple [.Name x px, .Name y py] kt pt] (.Tuple [a, b] k2 pt2) pos.line X.env = pure false := by rfl) :
    SndS n X pr (.Assign [.Tuple [.Name x px, .Name y py] kt pt] (.Tuple [a, b] k2 pt2) pos) (sPar [i, j] f) := by
  refine .mk fun W tk env σ F H S D st q => ?_
  refine wS_par hc hN hi hj hij hx hy hw hs (wA_L pl ?_)
  have hp : ∀ n ∈ [i, j], pr n = false := fun n m => by
    rcases List.mem_cons.mp m with rfl | m
    · exact p1
    · rw [List.mem_singleton.mp m]; exact p2
  have key := h.run W tk env σ F H S _ st (post_par (es := [a, b]) (f := f) hp q)
  refine wE_mono key fun v H1 h1 => wE_mono h1 fun u H2 h2 => ?_
  exact ⟨v, u, rfl, h2.2⟩
theorem snd_par3 {i j l : Nat} {x y z : Str} {a b c : Expr} {px py pz pt pos : Pos} {kt k2 pt2} {f : Env → R (List O)} (hc : X.calm = true) (hN : X.N.Nodup) (hi : X.N[i]? = some x) (hj : X.N[j]? = some y) (hl : X.N[l]? = some z)
    (hij : i ≠ j) (hil : i ≠ l) (hjl : j ≠ l)
    (hx : X.env.scope.names.lookup x = some .local) (hy : X.env.scope.names.lookup y = some .local) (hz : X.env.scope.names.lookup z = some .local) (h : SndA 0 X [a, b, c] f) (pl : Plain X [a, b, c]) (p1 : pr i = false) (p2 : pr j = false) (p3 : pr l = false)
    (hw : swappedStores [.Tuple [.Name x px, .Name y py, .Name z pz] kt pt] (.Tuple [a, b, c] k2 pt2) X.env = pure (some [x, y, z]))
    (hs : swapsWithSole [.Tuple [.Name x px, .Name y py, .Name z pz] kt pt] (.Tuple [a, b, c] k2 pt2) pos.line X.env = pure false := by rfl) :
    SndS n X pr (.Assign [.Tuple [.Name x px, .Name y py, .Name z pz] kt pt] (.Tuple [a, b, c] k2 pt2) pos) (sPar [i, j, l] f) := by
  refine .mk fun W tk env σ F H S D st q => ?_
  refine wS_of (ps_par3 hc hN hi hj hl hij hil hjl hx hy hz (ta := wA 0 X [a, b, c]) pa_w hw hs) (wA_L pl ?_)
  have hp : ∀ n ∈ [i, j, l], pr n = false := fun n m => by
    rcases List.mem_cons.mp m with rfl | m
    · exact p1
    · rcases List.mem_cons.mp m with rfl | m
      · exact p2
      · rw [List.mem_singleton.mp m]; exact p3
  have key := h.run W tk env σ F H S _ st (post_par (es := [a, b, c]) (f := f) hp q)
  refine wE_mono key fun v H1 h1 => wE_mono h1 fun u H2 h2 => wE_mono h2 fun t H3 h3 => ?_
  exact ⟨v, u, t, rfl, h3.2⟩
end
end PyD
end

section
set_option Elab.async false
set_option linter.all false
set_option maxRecDepth 100000
namespace PyD
open PySem L2 PySem.Spec PyProof.Rows
/-! ### what a program's derivations ask -/
def visB (sc : Scope) (x : Str) : Bool := match sc.names.lookup x with
  | some .local => true
  | some .cell => true
  | some .free => true
  | _ => false
theorem vis_ok {sc : Scope} {x : Str} (h : visB sc x = true) : Vis sc x := by
  unfold visB at h
  unfold Vis
  split at h <;> simp_all
def locB (sc : Scope) (x : Str) : Bool := match sc.names.lookup x with
  | some .local => true
  | some .cell => true
  | _ => false
theorem loc_ok {sc : Scope} {x : Str} (h : locB sc x = true) : L2.Loc sc x := by
  unfold locB at h
  unfold L2.Loc
  split at h <;> simp_all
def kLoc : NameKind → Bool
  | .local => true
  | .cell => true
  | _ => false
def kFree : NameKind → Bool
  | .free => true
  | _ => false
def kOut (k : Option NameKind) : Bool := match k with
  | some .cell => true
  | some .free => true
  | _ => false
def isFun : ScopeKind → Bool
  | .function => true
  | _ => false
def blkB (N : List Str) (sc scope : Scope) (own : List (Str × Nat)) : Bool :=
  isFun scope.kind && (scope.names.all fun y => decide (scope.names.lookup y.1 = some y.2)) && (own.all fun p => decide (N[p.2]? = some p.1)) &&
  (scope.names.all fun y => !(kFree y.2) || kOut (sc.names.lookup y.1)) && (scope.names.all fun y => !(kLoc y.2) || ((own.map (·.1)).contains y.1 || !(N.contains y.1)))
theorem blk_ok {N : List Str} {sc scope : Scope} {own : List (Str × Nat)} (h : blkB N sc scope own = true) : BlkOk N sc scope own := by
  unfold blkB at h
  simp only [Bool.and_eq_true, List.all_eq_true, decide_eq_true_iff, Bool.or_eq_true] at h
  obtain ⟨⟨⟨⟨h1, h2⟩, h3⟩, h4⟩, h5⟩ := h
  refine ⟨?_, h2, h3, fun y m e => ?_, fun y m e => ?_⟩
  · cases q : scope.kind <;> rw [q] at h1 <;> simp [isFun] at h1 ⊢
  · rcases h4 y m with z | z
    · rw [e] at z
      simp [kFree] at z
    · revert z
      unfold kOut
      split
      · rename_i q; exact fun _ => .inl q
      · rename_i q; exact fun _ => .inr q
      · exact fun z => by cases z
  · rcases h5 y m with z | z
    · rcases e with e | e <;> rw [e] at z <;> simp [kLoc] at z
    · rcases z with z | z
      · exact .inl (by simpa using z)
      · exact .inr (by simpa using z)
theorem kind_loc {sc : Scope} {x : Str} (h : sc.names.lookup x = some .local) : sc.names.lookup x = some .local := h
section
variable {P : Program} {w : World} {K : PySem.W.Frag} {mg : Str → Option Value} {base : Heap} {x qual : Str} {params : Arguments} {body : List Stmt} {scope : Scope} {f : Addr} {fd : FuncData}
/-- a def from its derivation -/
theorem callee_of {N ps : List Str} {k m n : Nat} {reb : List Bool} {g : Env → R Fl} (F : FunD K x qual params body scope [] [] f fd) (hm : mg x = some (.ref f)) (S : FnScope N ps scope) (hl : ps.length = reb.length) (hn : N.length - ps.length = n) (tb : tokB m scope ps = true)
    (hb : ∀ (kV doc pm : Value) (an : Option Addr) (cdv ct : Value) (us : List Value), us.length = ps.length → bindArgs (PySem.W.fnOf x qual params body scope .none kV doc pm an cdv ct) ⟨us, []⟩ = pure (ps.zip us))
    (hd : ∀ (cdv : Value) (A : Around) (outer : List PySem.Env) (s : Shared) (H : Hp) (E : XK), RoomG k (A.deeper (envOfC qual scope s.heap.objs.size f cdv)) → SndSs m (cxOf (L2.CX P w) P w K mg base N qual scope f cdv A outer s H E) (prOf reb) body g) :
    Callee P w K mg base x (k + 1) ps (fnSem reb n g) := by
  refine ⟨f, fd, hm, F.kp, fnG_of F S tb (fun h => h.1) fun cdv A outer s H vs Q E hr h => ?_, F.bindsN hb⟩
  have e : start N vs = vs.map some ++ List.replicate n none := by
    rw [start_eq, h.1, hn]
  rw [e]
  rw [hl] at h
  exact body_post (hd cdv A outer s H E hr) (takes_of rfl rfl rfl rfl) h
theorem fnok_of {N ps : List Str} {k m n : Nat} {reb : List Bool} {g : Env → R Fl} (F : FunD K x qual params body scope [] [] f fd) (S : FnScope N ps scope) (hl : ps.length = reb.length) (hn : N.length - ps.length = n) (tb : tokB m scope ps = true)
    (hd : ∀ (cdv : Value) (A : Around) (outer : List PySem.Env) (s : Shared) (H : Hp) (E : XK), RoomG k (A.deeper (envOfC qual scope s.heap.objs.size f cdv)) → SndSs m (cxOf (L2.CX P w) P w K mg base N qual scope f cdv A outer s H E) (prOf reb) body g) :
    FnG P w K mg base (L2.CX P w) (k + 1) f fd ps (spF K (fnSem reb n g) ps.length) := by
  refine fnG_of F S tb (fun h => h.1) fun cdv A outer s H vs Q E hr h => ?_
  have e : start N vs = vs.map some ++ List.replicate n none := by
    rw [start_eq, h.1, hn]
  rw [e]
  rw [hl] at h
  exact body_post (hd cdv A outer s H E hr) (takes_of rfl rfl rfl rfl) h
theorem reps_ints {F : Hp} : ∀ ns : List Int, Reps K F (ns.map V.int) (ns.map D.int)
  | [] => .nil
  | i :: r => .cons (.int i) (reps_ints r)
/-- the promise of a law's def -/
theorem law_sp {φ : List O → FR} {H : Hp} {a : Addr} {ns : List Int} (hS : SqL K H a (ns.map V.int)) (h : ∃ outs, φ [.fz (.lst (ns.map D.int))] = .ret (.fz (.bl true)) outs) : spF K φ 1 [.ref a] H (fun v _ => v = .bl true) fun _ _ _ => False := by
  obtain ⟨outs, h⟩ := h
  refine ⟨rfl, H, [.fz (.lst (ns.map D.int))], [], Ex.refl H, .cons (fp := []) (fq := []) (.fz (.lst hS (reps_ints ns))) .nil, List.nodup_nil, fun _ m => (nomatch m), ?_⟩
  rw [h]
  intro v F' H' T1 T2 _ _ ow _ _ _
  cases ow with
  | fz r => exact r.bl_inv
theorem Callee.up {j k : Nat} {ps : List Str} {φ : List O → FR} (C : Callee P w K mg base x j ps φ) (h : j ≤ k) : Callee P w K mg base x k ps φ := by
  obtain ⟨f, fd, a, b, c, d⟩ := C.ex
  exact ⟨f, fd, a, b, c.mono h, d⟩
end
section
variable {n : Nat} {X : Cx}
def okB (l : List Nat) : Bool := decide (l.length ≤ LIM) && l.all fun c => decide (c < 128)
theorem okB_ok {l : List Nat} (h : okB l = true) : okS l := by
  simp only [okB, Bool.and_eq_true, decide_eq_true_iff, List.all_eq_true] at h
  exact ⟨lim_line h.1, h.2⟩
theorem snd_cstr {z : Str} {j} {pos : Pos} {l : List Nat} (h : z = sOf l) (hl : okB l = true) : SndE n X (.Constant (.str z) j pos) (eC (.str l)) := by
  subst h
  exact snd_c (a := .str l) pe_str (okB_ok hl)
theorem snd_gs {x : Str} {l : List Nat} {pos : Pos} {z : Str} (hm : ∃ t, X.mg x = some (.str z t)) (hg : X.env.kindOf x = some .globalImplicit) (hz : z = sOf l) (hl : okB l = true) (hd : (x == ("__debug__" : Str)) = false) : SndE n X (.Name x pos) (eC (.str l)) := snd_gstr hg hm hz (okB_ok hl) hd
/-- a method of a text with arguments -/
theorem snd_meth {id : String} {name : Str} {rd : V → List V → Hp → VK → Prop} {g : List Nat → List D → Option O} (slot : Slot "str" name id) (hty : typeOf (.builtin id) = pure (.type "method_descriptor")) (hm : MtR X id rd) (hop : OpM X.K rd g)
    {o e : Expr} {es : List Expr} {apos cpos : Pos} {f : Env → R O} {r : Env → R (List Opd)} (ho : SndE n X o f) (ha : SndL n X (e :: es) r) (pl : Plain X (e :: es))
    (hbase : attributeBase o name X.env (eval o X.env) = eval o X.env := by rfl)
    (hfew : ((backTo cpos (starEach (e :: es) X.env)).all (fun x => !x.1) && (backToKw cpos (keywordEach [] X.env)).all (fun x => x.1.isSome)
      && decide ((e :: es).length + ([] : List Keyword).length + (if ([] : List Keyword).isEmpty then 0 else 1) < 30)) = true := by rfl)
    (hline : (apos.endLine == cpos.line) = true := by rfl) (hplain : (backTo cpos (starEach es X.env)).any (·.1) = false := by rfl) : SndE n X (.Call (.Attribute o name apos) (e :: es) [] cpos) (eM g f r) :=
  snd_m (fun h => wE_bm F.plainAttrs_str slot hty hm hbase hfew hline pl.1 hplain h) pl ho ha hop
theorem gl_ok {x : Str} (h : X.env.kindOf x = some .globalImplicit) : Gl X x := h
theorem blt {x : Str} {u : Value} (hm : X.mg x = none) (hb : bootBuiltins x = some u) (hg : X.env.kindOf x = some .globalImplicit) (hn : x ≠ "__name__") (hd : (x == ("__debug__" : Str)) = false) : BuiltinAt X x u := ⟨hg, hm, hb, hn, hd⟩
end
/-- the law's call over the script -/
theorem law_callG {P : Program} {w : World} {K : PySem.W.Frag} {mg mb : Str → Option Value} {CX : CXT} {k : Nat} {fa a : Addr} {fd : FuncData} {x : Str} {sp : Sp} {t : Shared} {us : List Value} {ns : List Int}
    (kin : K.In t.heap) (gl : t.heap.Ns mainGlobals mg) (bl : t.heap.Ns builtinsNs mb) (boot : ∀ x : Str, x ≠ "__name__" → mb x = bootBuiltins x) (free : t.heap.NoLimit) (gens : t.gens = #[])
    (obj : t.heap.get? a = some { cls := .type "list", data := .seq us.toArray }) (whole : IntsAre us ns) (few : ns.length ≤ sizeLine) (room : RoomG k callerA)
    (F : ∀ base : Heap, K.In base → base.Ns mainGlobals mg → FnG P w K mg base CX k fa fd [x] sp) (binds : ∀ (s : Shared) (u : Value), BindsTo s fd ⟨[u], []⟩ [(x, u)])
    (says : ∀ H : Hp, Only H → SqL K H a (ns.map V.int) → sp [.ref a] H (fun v _ => v = .bl true) fun _ _ _ => False) (no : ∀ H e s', CX [] H t (fun _ _ _ => False) e s' → False) :
    codeAny (model P w) callerA (.call (.ref fa) ⟨[.ref a], []⟩) (fun r s' => r = .ok (.ret (.bool true)) ∧ OldK t.heap s'.heap ∧ s'.os = t.os ∧ AllBare s'.gens) t := by
  have same := vals_ints whole
  have len := whole.length
  have one : ∀ G : Hp, Only G → SqL K G a (ns.map V.int) → HOk P w G t.heap → (∀ b, G b ≠ none → b = a) → (G a ≠ none → K.lookup a = none) →
      codeAny (model P w) callerA (.call (.ref fa) ⟨[.ref a], []⟩) (fun r s' => r = .ok (.ret (.bool true)) ∧ OldK t.heap s'.heap ∧ s'.os = t.os ∧ AllBare s'.gens) t := by
    intro G only seq good alone notK
    have hid : ∀ {b : Addr} {o : Obj}, t.heap.get? b = some o → G b = none → (hidT t.heap G).get? b = some o := fun e n => hidT_get e n
    have nodict : ∀ {b : Addr} {o : Obj} {es : Array DictEntry} {ep : Nat}, t.heap.get? b = some o → o.data = .dict es ep → G b = none := by
      intro b o es ep e d
      rcases hG : G b with _ | u
      · rfl
      · have eb : b = a := alone b (by rw [hG]; simp)
        subst eb
        rw [obj] at e
        cases e
        exact Data.noConfusion (show Data.seq us.toArray _ = Data.dict es ep from d)
    have nsp : ∀ {b : Addr} {m : Str → Option Value}, t.heap.Ns b m → (hidT t.heap G).Ns b m := by
      rintro b m ⟨o, es, ep, e, d, r⟩
      exact ⟨o, es, ep, hid e (nodict e d), d, r⟩
    have kinH : K.In (hidT t.heap G) := by
      intro b o e
      refine hid (kin b o e) ?_
      rcases hG : G b with _ | u
      · rfl
      · have eb : b = a := alone b (by rw [hG]; simp)
        subst eb
        rw [notK (by rw [hG]; simp)] at e
        cases e
    obtain ⟨mc, l1, l2⟩ := free
    have modH : Mod K mg (hidT t.heap G) := ⟨kinH, nsp gl, ⟨mb, nsp bl, boot⟩, ⟨mc, nsp l1, l2⟩⟩
    have nil : ∀ {b : Addr}, ¬ b ∈ ([] : List Addr) := fun m => nomatch m
    have env0 : Env0 P w K mg (hidT t.heap G) callerA [] t G := ⟨rfl, modH, fun b o e => of_hidT e, Nat.le_of_eq (hidT_size _ _), trivial, fun b hb => (nil hb).elim, good, .of_eq gens⟩
    refine codeAny_mono ((F _ kinH (nsp gl)).run (args := ⟨[.ref a], []⟩) (us := [.ref a]) (vs := [.ref a]) room env0 (binds t (.ref a)) (.cons rfl .nil) (says G only seq)) ?_
    intro r s' z
    match r, z with
    | .error e, z => exact (no G e s' z).elim
    | .ok .next, z => exact z.elim
    | .ok .brk, z => exact z.elim
    | .ok .cont, z => exact z.elim
    | .ok (.ret u), z =>
      obtain ⟨v, G', os, bare, un, good', rel, q⟩ := z
      obtain rfl : v = V.bl true := q
      obtain rfl : u = Value.bool true := rel
      refine ⟨rfl, OldK.of_keep ?_, os, bare⟩
      intro b o e
      rcases hG : G b with _ | u
      · exact un.keep b o e hG (fun m => nil m) (by simp)
      · rcases only b with n | ⟨ob, xs, n⟩
        · rw [hG] at n
          cases n
        · have was := (good b _ n).1
          have is := (good' b _ (un.frzs b ob _ n)).1
          rw [e] at was
          cases was
          exact is
  rcases hk : K.lookup a with _ | o
  · let G : Hp := fun b => if b = a then some (.frz { cls := .type "list", data := .seq us.toArray } (.lst (ns.map V.int))) else none
    have at' : ∀ b u, G b = some u → b = a ∧ u = HO.frz { cls := .type "list", data := .seq us.toArray } (.lst (ns.map V.int)) := by
      intro b u z
      by_cases hb : b = a
      · exact ⟨hb, (Option.some.inj ((if_pos hb).symm.trans z)).symm⟩
      · exact nomatch (if_neg hb).symm.trans z
    refine one G (fun b => ?_) (.inl (.inr ⟨{ cls := .type "list", data := .seq us.toArray }, if_pos rfl⟩)) (fun b u z => ?_) (fun b z => ?_) fun _ => hk
    · by_cases hb : b = a
      · exact .inr ⟨_, _, if_pos hb⟩
      · exact .inl (if_neg hb)
    · obtain ⟨rfl, rfl⟩ := at' b u z
      exact ⟨obj, by rw [List.length_map]; exact few, us, _, same, obj⟩
    · rcases hG : G b with _ | u
      · exact absurd hG z
      · exact (at' b u hG).1
  · have e := kin a o hk
    rw [obj] at e
    cases e
    refine one (fun _ => none) (fun _ => .inl rfl) (.inr ⟨_, us.toArray, _, hk, rfl, rfl, rfl, ?_, by simpa using same⟩) (fun b u z => nomatch (show (none : Option HO) = some u from z)) (fun b z => (z rfl).elim) fun z => (z rfl).elim
    rw [List.size_toArray, len]
    exact few
/-- a law, the exceptions as its defs let them out; the numbers of the script are bounded -/
theorem walk_law {l : PySem.W.OpenLaw} {n k : Nat} {q : Program} {loose : List Str} {XP : (Str → Option Value) → Heap → Prop} {YP : World → Heap → Prop} {d : DefRec} {x : Str}
    (most : l.most = some n) (small : n ≤ sizeLine) (nodef : d.params.defaults = []) (room : RoomG k callerA)
    (F : ∀ (w : World) (mg : Str → Option Value) (fa : Addr) (h : Heap), YP w h → h.Ns mainGlobals mg → mg d.name = some (.ref fa) →
      ∃ (K : PySem.W.Frag) (fd : FuncData) (φ : List O → FR), K.In h ∧ (∀ (s : Shared) (u : Value), BindsTo s fd ⟨[u], []⟩ [(x, u)]) ∧
        (∀ ns : List Int, ns.length ≤ n → (∀ z ∈ ns, Builtin.Int.intBits z ≤ 1048576) → ∃ outs, φ [.fz (.lst (ns.map D.int))] = .ret (.fz (.bl true)) outs) ∧
        ∀ base : Heap, K.In base → base.Ns mainGlobals mg → FnG l.prog w K mg base (L2.CX l.prog w) k fa fd [x] (spF K φ 1)) :
    PySem.W.WalkO q loose XP YP l.row.toRowW d [] (fun f vs => PySem.call f vs) := by
  refine Att.attach_callB most nodef fun w s₀ s₁ mg mb fa o pm cd doc a vs ns G Y _ _ _ atLaw obj whole few bits gens => ?_
  obtain ⟨K, fd, φ, KX, binds, says, ok⟩ := F w mg fa _ Y G.T.g atLaw
  refine law_callG KX G.T.g G.T.b G.T.builtins G.T.nolimit gens obj whole (Nat.le_trans few small) room ok binds
    (fun H _ hS => law_sp hS (says ns few bits)) fun H e s' z => ?_
  obtain ⟨_, _, _, _, _, _, _, _, _, _, _, _, no⟩ := z
  exact no
end PyD
end

section
set_option Elab.async false
set_option linter.all false
set_option maxRecDepth 100000
namespace PyD
open PySem L2 PySem.Spec PyProof.Rows
/-! ### calls by the names of the parameters -/
def pick {α : Type} (π : List Nat) (l : List α) : List α := π.filterMap (l[·]?)
theorem pick_range {α : Type} (l : List α) : pick (List.range l.length) l = l := by
  refine List.ext_getElem? fun i => ?_
  have e : pick (List.range l.length) l = l := by
    induction l with
    | nil => rfl
    | cons a r ih =>
      unfold pick at ih ⊢
      rw [List.length_cons, List.range_succ_eq_map, List.filterMap_cons]
      simp only [List.getElem?_cons_zero, List.filterMap_map]
      congr 1
  rw [e]
theorem pick_perm {α : Type} {π : List Nat} {l : List α} (h : π.Perm (List.range l.length)) : (pick π l).Perm l := by
  have := List.Perm.filterMap (l[·]?) h
  have e := pick_range l
  unfold pick at e ⊢
  rwa [e] at this
theorem pick_len {α β : Type} {l : List α} {m : List β} (h : l.length = m.length) : ∀ π : List Nat, (pick π l).length = (pick π m).length
  | [] => rfl
  | i :: π => by
    have ih := pick_len h π
    unfold pick at ih ⊢
    rw [List.filterMap_cons, List.filterMap_cons]
    rcases Nat.lt_or_ge i l.length with hi | hi
    · rw [List.getElem?_eq_getElem hi, List.getElem?_eq_getElem (h ▸ hi)]
      simp [ih]
    · rw [List.getElem?_eq_none hi, List.getElem?_eq_none (h ▸ hi)]
      exact ih
theorem pick_vals {vs : List V} {us : List Value} (r : Vals vs us) : ∀ π : List Nat, Vals (pick π vs) (pick π us)
  | [] => .nil
  | i :: π => by
    have ih := pick_vals r π
    unfold pick at ih ⊢
    rw [List.filterMap_cons, List.filterMap_cons]
    cases e : vs[i]? with
    | none =>
      have : us[i]? = none := by
        rw [List.getElem?_eq_none_iff] at e ⊢
        rw [← r.length]; exact e
      rw [this]
      exact ih
    | some v =>
      obtain ⟨u, e2, rv⟩ := r.get e
      rw [e2]
      exact .cons rv ih
/-- operands with what each one owns -/
inductive Tri (K : PySem.W.Frag) (F H : Hp) (σ : L2.St) : List V → List Opd → List (List Addr) → Prop
  | nil : Tri K F H σ [] [] []
  | v {i : Nat} {v : V} {vs : List V} {ops : List Opd} {T : List (List Addr)} : σ[i]? = some (some v) → Tri K F H σ vs ops T → Tri K F H σ (v :: vs) (.v i :: ops) ([] :: T)
  | t {o : O} {v : V} {vs : List V} {ops : List Opd} {fp : List Addr} {T : List (List Addr)} : Own K F H v o fp → Tri K F H σ vs ops T → Tri K F H σ (v :: vs) (.t o :: ops) (fp :: T)
section
variable {K : PySem.W.Frag} {F H : Hp} {σ : L2.St}
theorem tri_of : ∀ {vs ops T}, OpdsV K F H σ vs ops T → ∃ fs : List (List Addr), fs.flatten = T ∧ Tri K F H σ vs ops fs
  | _, _, _, .nil => ⟨[], rfl, .nil⟩
  | _, _, _, .v h r => by
    obtain ⟨fs, e, t⟩ := tri_of r
    exact ⟨[] :: fs, by simpa using e, .v h t⟩
  | _, _, _, .t (fp := fp) h r => by
    obtain ⟨fs, e, t⟩ := tri_of r
    exact ⟨fp :: fs, by simp [e], .t h t⟩
theorem tri_to : ∀ {vs ops fs}, Tri K F H σ vs ops fs → OpdsV K F H σ vs ops fs.flatten
  | _, _, _, .nil => .nil
  | _, _, _, .v h r => by simpa using OpdsV.v h (tri_to r)
  | _, _, _, .t h r => by simpa using OpdsV.t h (tri_to r)
theorem Tri.len : ∀ {vs ops fs}, Tri K F H σ vs ops fs → vs.length = ops.length ∧ fs.length = ops.length
  | _, _, _, .nil => ⟨rfl, rfl⟩
  | _, _, _, .v h r => by obtain ⟨a, b⟩ := Tri.len r; simp [a, b]
  | _, _, _, .t h r => by obtain ⟨a, b⟩ := Tri.len r; simp [a, b]
theorem Tri.get : ∀ {vs ops fs} {i : Nat}, Tri K F H σ vs ops fs → i < ops.length → ∃ v o fp, vs[i]? = some v ∧ ops[i]? = some o ∧ fs[i]? = some fp ∧ Tri K F H σ [v] [o] [fp]
  | _, _, _, 0, .v h r, _ => ⟨_, _, _, rfl, rfl, rfl, .v h .nil⟩
  | _, _, _, 0, .t h r, _ => ⟨_, _, _, rfl, rfl, rfl, .t h .nil⟩
  | _, _, _, i + 1, .v h r, hi => by
    obtain ⟨v, o, fp, a, b, c, d⟩ := Tri.get r (i := i) (by simpa using hi)
    exact ⟨v, o, fp, by simpa using a, by simpa using b, by simpa using c, d⟩
  | _, _, _, i + 1, .t h r, hi => by
    obtain ⟨v, o, fp, a, b, c, d⟩ := Tri.get r (i := i) (by simpa using hi)
    exact ⟨v, o, fp, by simpa using a, by simpa using b, by simpa using c, d⟩
  | _, _, _, _, .nil, hi => by simp at hi
theorem Tri.cons1 {v o fp} {vs ops fs} (a : Tri K F H σ [v] [o] [fp]) (b : Tri K F H σ vs ops fs) : Tri K F H σ (v :: vs) (o :: ops) (fp :: fs) := by
  cases a with
  | v h r => exact .v h b
  | t h r => exact .t h b
theorem Tri.pick {vs ops fs} (r : Tri K F H σ vs ops fs) : ∀ π : List Nat, Tri K F H σ (PyD.pick π vs) (PyD.pick π ops) (PyD.pick π fs)
  | [] => .nil
  | i :: π => by
    have ih := Tri.pick r π
    unfold PyD.pick at ih ⊢
    rw [List.filterMap_cons, List.filterMap_cons, List.filterMap_cons]
    rcases Nat.lt_or_ge i ops.length with hi | hi
    · obtain ⟨v, o, fp, a, b, c, d⟩ := r.get hi
      rw [a, b, c]
      exact d.cons1 ih
    · obtain ⟨l1, l2⟩ := r.len
      rw [List.getElem?_eq_none hi, List.getElem?_eq_none (l1 ▸ hi), List.getElem?_eq_none (l2 ▸ hi)]
      exact ih
theorem opds_pick {vs ops T} (h : OpdsV K F H σ vs ops T) {π : List Nat} (hp : π.Perm (List.range ops.length)) : ∃ T', T'.Perm T ∧ OpdsV K F H σ (pick π vs) (pick π ops) T' := by
  obtain ⟨fs, rfl, t⟩ := tri_of h
  refine ⟨(pick π fs).flatten, ?_, tri_to (t.pick π)⟩
  exact (pick_perm (by rw [t.len.2]; exact hp)).flatten
end
def oPick (π : List Nat) (f : Env → R (List Opd)) : Env → R (List Opd) := fun env => match f env with
  | .ok ops e => .ok (pick π ops) e
  | .exc c ds e => .exc c ds e
  | .bad => .bad
/-- a def called with the names ks -/
structure CalleeK (P : Program) (w : World) (K : PySem.W.Frag) (mg : Str → Option Value) (base : Heap) (x : Str) (k : Nat) (ps : List Str) (φ : List O → FR) (ks : List Str) (π : List Nat) : Prop where
  ex : ∃ f fd, mg x = some (.ref f) ∧ PySem.W.keepIn K (.ref f) = true ∧ FnG P w K mg base (L2.CX P w) k f fd ps (spF K φ ps.length) ∧ ∀ (s : Shared) (ws : List Value), K.In s.heap → ws.length = ks.length → BindsTo s fd ⟨[], ks.zip ws⟩ (ps.zip (pick π ws))
section
variable {n : Nat} {X : Cx}
/-- the keywords' values, from the left -/
theorem pk_w : ∀ kws : List Keyword, PK X kws fun σ H Q => wL 0 X (kws.map (·.value)) σ H Q
  | [] => pk_nil
  | ⟨_, _, _⟩ :: r => pk_cons pe_w (pk_w r)
theorem snd_callK {x : Str} {kws : List Keyword} {ks : List Str} {f : Env → R (List Opd)} {p pos : Pos} {k : Nat} {ps : List Str} {φ : List O → FR} {π : List Nat} (C : CalleeK X.prog X.w X.K X.mg X.base x k ps φ ks π) (room : RoomG k X.A) (hg : Gl X x)
    (h : SndL 0 X (kws.map (·.value)) f) (hn : kws.length = ks.length) (hp : π.Perm (List.range kws.length)) (hps : kws.length = ps.length)
    (all : (backToKw pos (keywordEach kws X.env)).all (·.1.isSome) = true) (names : (backToKw pos (keywordEach kws X.env)).filterMap (·.1) = ks) (plain : ((backTo pos (starEach [] X.env)).any (·.1) || (backToKw pos (keywordEach kws X.env)).any (·.1.isNone)) = false)
    (hdb : (x == ("__debug__" : Str)) = false := by decide) : SndE n X (.Call (.Name x p) [] kws pos) (eCall φ (oPick π f)) := by
  refine SndE.up (.mk fun W tk env σ F H S Q st q => ?_)
  obtain ⟨fa, fd, hm, hk, ok, hb⟩ := C.ex
  refine wE_mk fun pins s _ I => ?_
  refine wpAny_Call_Name_kw (ld_glob I hg hm (PySem.W.callWith_KW0 (h₀ := X.base) I.ok.mod.kin hk all ?_ plain) hdb)
  have wl : wL 0 X (kws.map (·.value)) σ H fun vs H1 => vs.length = kws.length → spF X.K φ ps.length (pick π vs) H1 Q (WE W σ) := by
    refine h.run W tk env σ F H S _ st ?_
    unfold eCall oPick at q
    revert q
    cases f env with
    | exc c ds e => exact fun q => q
    | bad => exact fun q => q
    | ok ops e1 =>
      intro q vs F1 H1 S1 T tr sp hl
      have hpo : π.Perm (List.range ops.length) := by rw [← sp.val.len, hl]; exact hp
      obtain ⟨T', pm, ov⟩ := opds_pick sp.val hpo
      have mem : ∀ a, a ∈ T' ↔ a ∈ T := fun a => pm.mem_iff
      refine call_post (T := T') (S1 := S1) ?_ (tr.sub fun a m => ?_) ⟨sp.st, ov, pm.nodup_iff.mpr sp.nd, ⟨fun a m => sp.as.ns a ((mem a).mp m), fun a m => sp.as.nf a ((mem a).mp m), fun a m => sp.as.lv a ((mem a).mp m)⟩⟩ q
      · have := (pick_perm (π := π) (l := vs) (by rw [hl]; exact hp)).length_eq
        rw [this, hl]
        exact hps
      · rcases List.mem_append.mp m with m | m
        · exact List.mem_append_left _ ((mem a).mp m)
        · exact List.mem_append_right _ m
  have wl2 := wL_len (X := X) (Q := fun vs H1 => vs.length = kws.length ∧ spF X.K φ ps.length (pick π vs) H1 Q (WE W σ)) (wL_mono wl fun vs H1 z hl => ⟨by simpa using hl, z (by simpa using hl)⟩)
  refine thn ((pk_w kws).run pos pins s σ H _ I wl2) ?_
  rintro us s1 ⟨vs, H1, I1, r, z⟩
  refine ⟨I1.kIn, ?_⟩
  rw [names]
  have hl2 : us.length = ks.length := by
    rw [← r.length, z.1]
    exact hn
  refine wpAny_call (codeAny_mono (ok.run (args := ⟨[], ks.zip us⟩) room I1.env0 (hb s1 us I1.kIn hl2) (pick_vals r π) z.2) ?_)
  intro res s' got
  match res, got with
  | .error e, got => exact passAt tk σ pins H1 s1 e s' I1 got
  | .ok (.ret u), got => exact I1.after got
  | .ok .next, got => exact got.elim
  | .ok .brk, got => exact got.elim
  | .ok .cont, got => exact got.elim
end
section
variable {P : Program} {w : World} {K : PySem.W.Frag} {mg : Str → Option Value} {base : Heap} {x qual : Str} {params : Arguments} {body : List Stmt} {scope : Scope} {f : Addr} {fd : FuncData}
theorem calleeK_of {ps ks : List Str} {k : Nat} {φ : List O → FR} {π : List Nat} (F : FunD K x qual params body scope [] [] f fd) (hm : mg x = some (.ref f))
    (hb : ∀ (kV doc pm : Value) (an : Option Addr) (cdv ct : Value) (ws : List Value), ws.length = ks.length → bindArgs (PySem.W.fnOf x qual params body scope .none kV doc pm an cdv ct) ⟨[], ks.zip ws⟩ = pure (ps.zip (pick π ws)))
    (ok : FnG P w K mg base (L2.CX P w) k f fd ps (spF K φ ps.length)) : CalleeK P w K mg base x k ps φ ks π := by
  refine ⟨f, fd, hm, F.kp, ok, fun s ws _ hl => ?_⟩
  obtain ⟨oc, od, dV, kV, doc, pm, an, cdv, ct, osl, rfl, look, inK, dfl, _⟩ := F.ex
  rcases dfl with ⟨_, rfl⟩ | ⟨no, _⟩
  · exact .of_eq (hb kV doc pm an cdv ct ws hl)
  · exact (no rfl).elim
/-- nothing is promised -/
theorem callee_bad {ps : List Str} {k : Nat} (F : FunD K x qual params body scope [] [] f fd) (hm : mg x = some (.ref f))
    (hb : ∀ (kV doc pm : Value) (an : Option Addr) (cdv ct : Value) (us : List Value), us.length = ps.length → bindArgs (PySem.W.fnOf x qual params body scope .none kV doc pm an cdv ct) ⟨us, []⟩ = pure (ps.zip us)) :
    Callee P w K mg base x k ps (fun _ => .bad) :=
  ⟨f, fd, hm, F.kp, ⟨fun z => z.1, fun _ _ _ _ z => by obtain ⟨_, _, _, _, _, _, _, _, no⟩ := z; exact no.elim⟩, F.bindsN hb⟩
end
end PyD
end

section
set_option Elab.async false
set_option linter.all false
set_option maxRecDepth 100000
namespace PyD
open PySem L2 PySem.Spec PyProof.Rows
/-! ### repr -/
mutual
def toPy : D → PyData
  | .non => .none
  | .bl b => .bool b
  | .int i => .int i
  | .str l => .str (sOf l)
  | .lst xs => .list (toPys xs)
  | .tup xs => .tuple (toPys xs)
  | .dic kvs => .dict (toPyK kvs)
  | .set _ => .none
def toPys : List D → List PyData
  | [] => []
  | x :: xs => toPy x :: toPys xs
def toPyK : List (D × D) → List (PyData × PyData)
  | [] => []
  | (k, v) :: r => (toPy k, toPy v) :: toPyK r
end
mutual
/-- no dict, no set, at most n deep; the ints short -/
def flat : Nat → D → Bool
  | _, .non => true
  | _, .bl _ => true
  | _, .int i => decide (i.natAbs.log2 < 1920)
  | _, .str _ => true
  | 0, .lst _ => false
  | n + 1, .lst xs => flats n xs
  | 0, .tup _ => false
  | n + 1, .tup xs => flats n xs
  | _, .dic _ => false
  | _, .set _ => false
def flats : Nat → List D → Bool
  | _, [] => true
  | n, x :: xs => flat n x && flats n xs
end
mutual
theorem flat_py : ∀ {n : Nat} {d : D}, flat n d = true → (toPy d).showable = true ∧ (toPy d).hasDict = false ∧ (toPy d).depth ≤ n
  | n, .non, h => by simp [toPy, PyData.showable, PyData.hasDict, PyData.depth]
  | n, .bl b, h => by simp [toPy, PyData.showable, PyData.hasDict, PyData.depth]
  | n, .int i, h => by
    simp only [flat] at h
    exact ⟨by simp only [toPy, PyData.showable]; exact h, by simp [toPy, PyData.hasDict], by simp [toPy, PyData.depth]⟩
  | n, .str l, h => by simp [toPy, PyData.showable, PyData.hasDict, PyData.depth]
  | 0, .lst xs, h => by simp [flat] at h
  | n + 1, .lst xs, h => by
    simp only [flat] at h
    obtain ⟨a, b, c⟩ := flats_py h
    exact ⟨by simp only [toPy, PyData.showable]; exact a, by simp only [toPy, PyData.hasDict]; exact b, by simp only [toPy, PyData.depth]; omega⟩
  | 0, .tup xs, h => by simp [flat] at h
  | n + 1, .tup xs, h => by
    simp only [flat] at h
    obtain ⟨a, b, c⟩ := flats_py h
    exact ⟨by simp only [toPy, PyData.showable]; exact a, by simp only [toPy, PyData.hasDict]; exact b, by simp only [toPy, PyData.depth]; omega⟩
  | n, .dic _, h => by simp [flat] at h
  | n, .set _, h => by simp [flat] at h
theorem flats_py : ∀ {n : Nat} {xs : List D}, flats n xs = true → PyData.showableAll (toPys xs) = true ∧ PyData.hasDictAll (toPys xs) = false ∧ PyData.depthAll (toPys xs) ≤ n
  | n, [], h => by simp [toPys, PyData.showableAll, PyData.hasDictAll, PyData.depthAll]
  | n, x :: xs, h => by
    simp only [flats, Bool.and_eq_true] at h
    obtain ⟨a, b, c⟩ := flat_py h.1
    obtain ⟨a', b', c'⟩ := flats_py h.2
    exact ⟨by simp only [toPys, PyData.showableAll, a, a', Bool.and_true], by simp only [toPys, PyData.hasDictAll, b, b', Bool.or_false], by simp only [toPys, PyData.depthAll]; omega⟩
end
/-- the text of a value -/
@[irreducible] def rpD (d : D) : List Nat := (toPy d).shown.cps.toList
def okRp (d : D) : Bool := flat 20 d && decide ((rpD d).length ≤ LIM)
/-- a dict of texts to atoms -/
def okDic : List (D × D) → Bool
  | [] => true
  | (.str _, v) :: r => flat 0 v && okDic r
  | _ => false
def okRpA (d : D) : Bool := okRp d || (match d with
  | .dic kvs => okDic kvs && decide ((rpD d).length ≤ LIM)
  | _ => false)
def semRepr : List D → Option At
  | [d] => if okRpA d = true ∧ okB (rpD d) = true then some (.str (rpD d)) else none
  | _ => none
section
variable {n : Nat} {X : Cx} {pins : List (Addr × Obj)} {σ : L2.St} {H : Hp} {s : Shared}
mutual
theorem reads_of (I : Inv X pins σ H s) : ∀ {v : V} {d : D} {u : Value} {n : Nat}, Rep X.K H v d → RelV v u → flat n d = true → ∃ as, Reads s.heap u (toPy d) as
  | _, _, _, _, .non, r, _ => by
    obtain rfl := r
    exact ⟨_, by simp only [toPy]; exact .none⟩
  | _, _, _, _, .bl b, r, _ => by
    obtain rfl := r
    exact ⟨_, by simp only [toPy]; exact .bool b⟩
  | _, _, _, _, .int i, r, _ => by
    obtain ⟨t, rfl⟩ := r
    exact ⟨_, by simp only [toPy]; exact .int i t⟩
  | _, _, _, _, .str l _, r, _ => by
    obtain ⟨t, rfl⟩ := r
    exact ⟨_, by simp only [toPy]; exact .str (sOf l) t⟩
  | _, _, _, 0, .lst h q, r, f => by simp [flat] at f
  | _, _, _, n + 1, .lst h q, r, f => by
    simp only [flat] at f
    obtain rfl := r
    obtain ⟨its, rv, ⟨o, m, ho, hc, hd, hs⟩, z⟩ := I.list h
    obtain ⟨as, k⟩ := reads_all I q rv f
    exact ⟨_, by simp only [toPy]; exact .list ho hc hs (by simpa using k)⟩
  | _, _, _, 0, .tup h q, r, f => by simp [flat] at f
  | _, _, _, n + 1, .tup h q, r, f => by
    simp only [flat] at f
    obtain rfl := r
    obtain ⟨its, rv, ⟨o, ho, hc, m, hd⟩, z⟩ := I.tuple h
    obtain ⟨as, k⟩ := reads_all I q rv f
    exact ⟨_, by simp only [toPy]; exact .tuple ho hc hd (by simpa using k)⟩
  | _, _, _, _, .dic h q, r, f => by simp [flat] at f
theorem reads_all (I : Inv X pins σ H s) : ∀ {vs : List V} {ds : List D} {us : List Value} {n : Nat}, Reps X.K H vs ds → Vals vs us → flats n ds = true → ∃ as, ReadsAll s.heap us (toPys ds) as
  | _, _, _, _, .nil, .nil, _ => ⟨_, by simp only [toPys]; exact .nil⟩
  | _, _, _, _, .cons h q, .cons r rs, f => by
    simp only [flats, Bool.and_eq_true] at f
    obtain ⟨as, a⟩ := reads_of I h r f.1
    obtain ⟨bs, b⟩ := reads_all I q rs f.2
    exact ⟨_, by simp only [toPys]; exact .cons a b⟩
end
def rRepr (K : PySem.W.Frag) : List V → Hp → VK → Prop := fun vs H Q => ∃ v d, vs = [v] ∧ Rep K H v d ∧ okRpA d = true ∧ Q (.str (sOf (rpD d))) H
theorem reads_atom {h : Heap} : ∀ {v : V} {d : D} {u : Value}, Rep X.K H v d → RelV v u → flat 0 d = true → Reads h u (toPy d) []
  | _, _, _, .non, r, _ => by
    obtain rfl := r
    simp only [toPy]; exact .none
  | _, _, _, .bl b, r, _ => by
    obtain rfl := r
    simp only [toPy]; exact .bool b
  | _, _, _, .int i, r, _ => by
    obtain ⟨t, rfl⟩ := r
    simp only [toPy]; exact .int i t
  | _, _, _, .str l _, r, _ => by
    obtain ⟨t, rfl⟩ := r
    simp only [toPy]; exact .str (sOf l) t
  | _, _, _, .lst _ _, _, f => by simp [flat] at f
  | _, _, _, .tup _ _, _, f => by simp [flat] at f
  | _, _, _, .dic _ _, _, f => by simp [flat] at f
theorem reads_dic (I : Inv X pins σ H s) : ∀ {kvs : List (Key × V)} {es : List (D × D)} {vs : List (Key × Value)} {ens : List DictEntry}, RepK X.K H kvs es → KV kvs vs → Pairs (mixKind X.prog X.w) ens vs → okDic es = true →
    ReadsAll s.heap (ens.map (·.key)) ((toPyK es).map (·.1)) [] ∧ ReadsAll s.heap (ens.map (·.val)) ((toPyK es).map (·.2)) [] ∧ PyData.showableKv (toPyK es) = true ∧ PyData.depthKv (toPyK es) = 0
  | _, _, _, _, .nil, .nil, .nil, _ => ⟨by simp only [toPyK]; exact .nil, by simp only [toPyK]; exact .nil, by simp only [toPyK, PyData.showableKv], by simp only [toPyK, PyData.depthKv]⟩
  | _, _, _, _, .cons (e := e) kd rv rr, .cons ⟨h1, h2⟩ rk, .cons (e := en) is va rp, f => by
    cases e with
    | str l =>
      simp only [okDic, Bool.and_eq_true] at f
      obtain ⟨a, b, c, d⟩ := reads_dic I rr rk rp f.2
      obtain ⟨sh, _, dp⟩ := flat_py f.1
      have key : ∃ t, en.key = Value.str (sOf l) t := by
        rcases keyIs_shape is with ⟨i, t, e1, e2⟩ | ⟨x, t, e1, e2⟩
        · rw [← h1] at e1
          obtain rfl := e1
          cases kd
        · rw [← h1] at e1
          obtain rfl := e1
          have kd : D.str l = .str x.cps.toList := kd
          injection kd with kd
          exact ⟨t, by rw [e2, kd, sOf_toList]⟩
      obtain ⟨t, key⟩ := key
      have va2 := h2
      rw [← va] at va2
      refine ⟨?_, ?_, ?_, ?_⟩
      · simp only [toPyK, List.map_cons, key, toPy]
        exact .cons (as := []) (bs := []) (.str (sOf l) t) a
      · simp only [toPyK, List.map_cons]
        exact .cons (as := []) (bs := []) (reads_atom rv va2 f.1) b
      · simp only [toPyK, PyData.showableKv, toPy, PyData.showable, sh, c, Bool.and_self]
      · have z : (toPy (.str l)).depth = 0 := by simp [toPy, PyData.depth]
        simp only [toPyK, PyData.depthKv, z, d]
        omega
    | _ => simp [okDic] at f
theorem call_reprAll (hg : X.A.guards = some []) (hu : X.A.units + 64 < cLine) : CallR X (.builtin "repr") (rRepr X.K) := by
  intro pins s σ H xs us Q I r h
  obtain ⟨v, d, rfl, rep, ok, q⟩ := h
  have len : (rpD d).length ≤ LIM := by
    unfold okRpA okRp at ok
    rw [Bool.or_eq_true] at ok
    rcases ok with ok | ok
    · rw [Bool.and_eq_true, decide_eq_true_iff] at ok
      exact ok.2
    · split at ok
      · rw [Bool.and_eq_true, decide_eq_true_iff] at ok
        exact ok.2
      · cases ok
  have e : sOf (rpD d) = (toPy d).shown := by
    unfold rpD
    exact sOf_toList _
  have sz : (toPy d).shown.length ≤ sizeLine := by
    rw [← e, length_sOf]
    exact lim_line len
  rw [e] at q
  obtain ⟨u, rfl, rv⟩ := vals1 r
  have fin : ∀ (h' : Heap) (tk : Tok) (n : Nat), (∀ b o, s.heap.get? b = some o → h'.get? b = some o) → EP X pins σ Q (.str (toPy d).shown tk) { s with heap := h', toks := n } := fun h' tk n k =>
    ⟨.str (toPy d).shown, H, I.kept k, ⟨_, rfl⟩, q⟩
  have id : ∀ b o, s.heap.get? b = some o → s.heap.get? b = some o := fun _ _ e => e
  have fl : (∀ kvs, d ≠ .dic kvs) → flat 20 d = true := fun nd => by
    unfold okRpA okRp at ok
    rw [Bool.or_eq_true] at ok
    rcases ok with ok | ok
    · rw [Bool.and_eq_true] at ok
      exact ok.1
    · split at ok
      · exact (nd _ rfl).elim
      · cases ok
  cases rep with
  | non =>
    obtain rfl := rv
    simp only [toPy, PyData.shown] at fin
    exact PySem.P.repr_of_none (fin _ _ _ id)
  | bl b =>
    obtain rfl := rv
    simp only [toPy, PyData.shown] at fin
    exact PySem.P.repr_of_bool (fin _ _ _ id)
  | int i =>
    obtain ⟨t, rfl⟩ := rv
    simp only [toPy, PyData.shown] at fin
    have fl := fl (fun _ z => by cases z)
    simp only [flat, decide_eq_true_iff] at fl
    exact PySem.P.repr_of_int fl (fin _ _ _ id)
  | str l hl =>
    obtain ⟨t, rfl⟩ := rv
    simp only [toPy, PyData.shown] at fin sz
    exact PySem.P.repr_of_str (fin _ _ _ id) sz
  | lst g k =>
    have fl := fl (fun _ z => by cases z)
    obtain ⟨hs, hd, hdep⟩ := flat_py fl
    obtain ⟨as, rd⟩ := reads_of I (.lst g k) rv fl
    obtain rfl := rv
    exact repr_of_reads' rd hs (fun z => by rw [hd] at z; cases z) hg (by omega) id (fun h' tk n k => fin h' tk n k) sz
  | tup g k =>
    have fl := fl (fun _ z => by cases z)
    obtain ⟨hs, hd, hdep⟩ := flat_py fl
    obtain ⟨as, rd⟩ := reads_of I (.tup g k) rv fl
    obtain rfl := rv
    exact repr_of_reads' rd hs (fun z => by rw [hd] at z; cases z) hg (by omega) id (fun h' tk n k => fin h' tk n k) sz
  | junk v =>
    have fl := fl (fun _ z => by cases z)
    simp [flat] at fl
  | dic g k =>
    obtain rfl := rv
    rename_i a kvs es
    have fd : okDic es = true := by
      unfold okRpA okRp at ok
      simp only [flat, Bool.false_and, Bool.false_or, Bool.and_eq_true] at ok
      exact ok.1
    obtain ⟨_, no, vs, kv, ⟨o, ens, ep, ho, ex, hd, _, prs, _⟩⟩ := dk_rd I.hok g
    obtain ⟨r1, r2, sh, dp⟩ := reads_dic I k kv prs fd
    have rd : Reads s.heap (.ref a) (toPy (.dic es)) (a :: [] ++ []) := by
      simp only [toPy]
      exact .dict ho ex.1 hd r1 r2
    refine repr_of_reads' rd (by simp only [toPy, PyData.showable]; exact sh) (fun _ m => ?_) hg (by simp only [toPy, PyData.depth, dp]; omega) id (fun h' tk n k => fin h' tk n k) sz
    have : sysModules = a := by simpa using m
    rw [this] at no
    simp at no
theorem opa_repr {K : PySem.W.Frag} : OpA K (rRepr K) semRepr := by
  intro H vs ds a Q r e q
  unfold semRepr at e
  split at e
  · rename_i d
    split at e
    · rename_i h
      cases e
      obtain ⟨v, rfl, h1⟩ := r.one
      exact ⟨v, d, rfl, h1, h.1, q (okB_ok h.2)⟩
    · cases e
  · cases e
end
end PyD
end

section
set_option Elab.async false
set_option linter.all false
set_option maxRecDepth 100000
namespace PyD
open PySem L2 PySem.Spec PyProof.Rows PySem.Froz
/-! ### sets of texts -/
def strV : Value → Str
  | .str k _ => k
  | _ => Str.empty
/-- the object at a is a set that holds the texts L -/
structure TxSet (P : Program) (w : World) (h : Heap) (a : Addr) (L : List Str) : Prop where
  ex : ∃ D : SD, h.get? a = some (sObj "set" D) ∧ TxOk P w D L ∧ (Ris D.2.2.place.toList ∧ (w.params.followText "set-order" = true ∨ D.2.2.led = true)) ∧ (∀ e ∈ D.1.toList, ∃ k u, e.2 = Value.str k u) ∧ (D.1.toList.map fun e => strV e.2).Perm L
theorem TxSet.stay {P : Program} {w : World} {h h' : Heap} {a : Addr} {L : List Str} (x : TxSet P w h a L) (k : ∀ o, h.get? a = some o → h'.get? a = some o) : TxSet P w h' a L := by
  obtain ⟨D, e, r⟩ := x.ex
  exact ⟨D, k _ e, r⟩
abbrev TableOk (w : World) (t : SetTable) : Prop := Ris t.place.toList ∧ (w.params.followText "set-order" = true ∨ t.led = true)
theorem tail_table {w : World} {ep : Nat} {es : Array (Int × Value)} {t : SetTable} {dm : Bool} (x : TableOk w t) : TableOk w (tailTx ep es t dm).2.2 := by
  unfold tailTx
  split
  · exact ⟨relayAll_ris _ _ _, x.2.imp id fun z => (relayAll_led _ _ _).trans z⟩
  · exact x
theorem add_table {w : World} {D : SD} {k : Int} {v : Value} (x : TableOk w D.2.2) : TableOk w (addTx k v D).2.2 := by
  obtain ⟨es, ep, t⟩ := D
  have y : TableOk w (layNew t es k v).2.1 := ⟨layNew_ris _ _ _ _ x.1, x.2.imp id fun z => (layNew_led _ _ _ _).trans z⟩
  refine tail_table ?_
  split
  · exact y
  · exact y
theorem tail_perm {ep : Nat} {es : Array (Int × Value)} {t : SetTable} {dm : Bool} : (tailTx ep es t dm).1.toList.Perm es.toList := by
  unfold tailTx
  by_cases c : (!dm && t.tooFull) = true
  · rw [if_pos c]
    exact relayAll_perm _ _ _
  · rw [if_neg c]
theorem add_perm {D : SD} {k : Int} {v : Value} : (addTx k v D).1.toList.Perm ((k, v) :: D.1.toList) := by
  obtain ⟨es, ep, t⟩ := D
  have lay : (layNew t es k v).1.toList.Perm ((k, v) :: es.toList) := by
    have := layNew_perm t es k v
    rw [Array.toList_push] at this
    exact this.trans (List.perm_append_singleton _ _)
  exact tail_perm.trans lay
section
variable {P : Program} {w : World} {A : Around} {E : Value → Shared → Prop} {s : Shared}
/-- a text that stands there is added: nothing changes -/
theorem add_old {a : Addr} {D : SD} {l : List Str} {k : Str} {u : Tok} {Q : Bool → Shared → Prop} (at' : s.heap.get? a = some (sObj "set" D)) (F : TxOk P w D l) (has : k ∈ l) (few : l.length < scanBound) (q : Q false s) :
    wpAny (model P w) A (setAddHashed a (.str k u) (hashStr w k)) Q E s := by
  obtain ⟨es, ep, t⟩ := D
  have len : es.size < scanBound := by
    have : es.size = l.length := F.sz
    omega
  have el : ElemsOf (strKind P w) es.toList := F.el
  have fit : t.fits es.size = true := F.fit
  have mem := (F.mem k).mp has
  unfold setAddHashed setAddHashedIn
  refine wpAny_holding (wpAny_bind (wpAny_setState_of at' rfl fit ?_))
  dsimp only
  rw [byScan_of rfl len el]
  simp only [↓reduceIte]
  unfold setAddByScan
  refine wpAny_bind (wpAny_bind (wpAny_rule ?_))
  refine wpAny_bind (wpAny_setScan_of (knd := strKind P w) (k := k) (is_str k u) at' rfl fit el ?_)
  rcases found : List.findIdx? (fun e => (strKind P w).is k e.2) es.toList with _ | j
  · obtain ⟨e, he, z⟩ := mem
    have no := List.findIdx?_eq_none_iff.mp found e he
    rw [z] at no
    cases no
  · rw [found]
    exact wpAny_pure (wpAny_pure q)
/-- a text is added -/
theorem add_any {a : Addr} {l : List Str} {k : Str} {u : Tok} {Q : Bool → Shared → Prop} (x : TxSet P w s.heap a l) (few : l.length + 1 < scanBound)
    (q : ∀ b h', Heap.SameBut a s.heap h' → TxSet P w h' a (if k ∈ l then l else k :: l) → Q b { s with heap := h' }) : wpAny (model P w) A (setAddHashed a (.str k u) (hashStr w k)) Q E s := by
  obtain ⟨D, at', F, tab, els, pm⟩ := x.ex
  by_cases has : k ∈ l
  · refine add_old at' F has (by omega) ?_
    have z := q false s.heap (Heap.SameBut.refl a s.heap)
    rw [if_pos has] at z
    exact z x
  · refine add_x at' F has few ?_
    have z := q true (s.heap.update a (fun _ => sObj "set" (addTx (hashStr w k) (.str k u) D))) ?_
    · rw [if_neg has] at z
      refine z ⟨_, get_upd _ at' rfl, add_ok u F, add_table tab, fun e he => ?_, ?_⟩
      · rcases List.mem_cons.mp (add_perm.mem_iff.mp he) with rfl | he
        · exact ⟨k, u, rfl⟩
        · exact els e he
      · refine (add_perm.map _).trans ?_
        rw [List.map_cons]
        exact pm.cons k
    · refine ⟨by simp, fun b ne => Heap.get?_update_other _ _ (Ne.symm ne)⟩
end
/-! ### set(xs): the loop, whatever an add does -/
section
variable {P : Program} {w : World} {A : Around} {R : Result → Shared → Prop} {I : Addr} {fp wr : List Addr} {G : Array GenState → Array GenState → Prop} {n : Nat} {Pv : Nat → Value → Prop} {St : Nat → Shared → Prop}
theorem fill_loop (W : WalksS P w A.in1 I fp wr G n Pv St) {S : Addr} (apart : S ∉ fp) {J : Nat → Heap → Prop} (stay : ∀ {i h h'}, (∀ o, h.get? S = some o → h'.get? S = some o) → J i h → J i h')
    (add : ∀ (i : Nat) (v : Value) (t : Shared) (Q : Bool → Shared → Prop) (E : Value → Shared → Prop), i < n → Pv i v → J i t.heap → (∀ b h' k, t.toks ≤ k → Heap.SameBut S t.heap h' → J (i + 1) h' → Q b { t with heap := h', toks := k }) → wpAny (model P w) A.in1 (setAdd S v) Q E t) :
    ∀ (k i : Nat) (t : Shared), n - i = k → i ≤ n → St i t → J i t.heap → (∀ t', Moved (S :: wr) G t t' → J n t'.heap → R (.ok (.ret .none)) t') → codeAny (model P w) A (.builtin "set.update.loop" ⟨[.ref S, .ref I], []⟩) R t := by
  have notW : S ∉ wr := fun m => apart (W.sub _ m)
  have wider : ∀ b ∈ wr, b ∈ S :: wr := fun b m => List.mem_cons_of_mem _ m
  intro k
  induction k with
  | zero =>
    intro i t hk hi st j fin
    obtain rfl : i = n := by omega
    refine codeAny_builtin PyProof.Rows.F.entry_set_update_loop ?_; rw [Around.under_plainId PyProof.Rows.F.plain_set_update_loop _]
    refine wpAny_bind (W.done t _ _ st fun t' mv => ?_)
    exact wpAny_pure (fin t' (mv.mono wider) (stay (fun o e => mv.heap S o notW e) j))
  | succ k ih =>
    intro i t hk hi st j fin
    have lt : i < n := by omega
    refine codeAny_builtin PyProof.Rows.F.entry_set_update_loop ?_; rw [Around.under_plainId PyProof.Rows.F.plain_set_update_loop _]
    refine wpAny_bind (W.item i t _ _ lt st fun v t' pv st' mv => ?_)
    refine wpAny_bind (wpAny_holding (add i v t' _ _ lt pv (stay (fun o e => mv.heap S o notW e) j) fun b h' k' le same j' => ?_))
    have frame : ∀ c, c ≠ S → ∀ o, t'.heap.get? c = some o → h'.get? c = some o := fun c ne o e => (same.2 c ne).trans e
    refine wpAny_pure ⟨plainId_quiet PyProof.Rows.F.plain_set_update_loop _, ih (i + 1) _ (by omega) lt (W.frame _ t' _ _ st' le fun c m o e => frame c (fun z => apart (z ▸ m)) o e) j' fun t2 mv2 j2 => ?_⟩
    exact fin t2 (Moved.trans W.gtrans ((mv.mono wider).then_heap le fun c o m e => frame c (fun z => m (z ▸ List.mem_cons_self)) o e) mv2) j2
end
/-- a new set -/
abbrev eset (w : World) : Obj := { cls := .type "set", dict := none, data := .set #[] 0 (.fresh 0 0 (!w.params.followText "set-order")) }
section
variable {P : Program} {w : World} {A : Around} {E : Value → Shared → Prop} {s : Shared}
set_option maxHeartbeats 3200000 in
theorem set_call {l : Addr} {items : Array Value} {Q : Value → Shared → Prop} {J : Nat → Heap → Prop} (calm : A.handled = none) (isl : s.heap.IsList l items) (stay : ∀ {i h h'}, (∀ o, h.get? s.heap.objs.size = some o → h'.get? s.heap.objs.size = some o) → J i h → J i h')
    (add : ∀ (B : Around) (i : Nat) (v : Value) (t : Shared) (Q : Bool → Shared → Prop) (E : Value → Shared → Prop), i < items.size → items[i]? = some v → J i t.heap → (∀ b h' k, t.toks ≤ k → Heap.SameBut s.heap.objs.size t.heap h' → J (i + 1) h' → Q b { t with heap := h', toks := k }) → wpAny (model P w) B (setAdd s.heap.objs.size v) Q E t)
    (new : ∀ h : Heap, h.get? s.heap.objs.size = some (eset w) → J 0 h) (fin : ∀ (h' : Heap) (k : Nat), J items.size h' → (∀ b o, s.heap.get? b = some o → h'.get? b = some o) → Q (.ref s.heap.objs.size) { s with heap := h', toks := k }) :
    wpAny (model P w) A (call (.type "set") [.ref l]) Q E s := by
  obtain ⟨c, tl, hmro⟩ := PySem.F.called_set.mro
  have a1 := PySem.F.called_set.made
  have a2 := PySem.F.called_set.sub
  have a3 := PySem.F.called_set.notType
  have a4 := PySem.F.called_set.canCreate
  have a5 := PySem.F.typeCall_set_1 (.ref l)
  refine wpAny_call (codeAny_of_tree (wpAny_pure ⟨Code.quiet_builtin _ (by decide +kernel), codeAny_builtin PySem.F.entry_type_call ?_⟩))
  rw [Around.under_plain (weight_type_call_type "set" [.ref l] []) rfl]
  repeat (any_goals (first | assumption | wp_step))
  refine codeAny_mono (code_set_led1 (.ref l) (E := E) (Q₁ := fun o t => o = .ref s.heap.objs.size ∧ t = { s with heap := s.heap.push (eset w) }) ⟨rfl, rfl⟩) fun r t hr => ?_
  match r, hr with
  | .error e, hr => exact hr
  | .ok .next, hr => exact hr.elim
  | .ok .brk, hr => exact hr.elim
  | .ok .cont, hr => exact hr.elim
  | .ok (.ret obj), hr =>
    obtain ⟨rfl, rfl⟩ := hr
    have here : (s.heap.push (eset w)).get? s.heap.objs.size = some (eset w) := Heap.get?_push_size _ rfl
    have isSet : Shared.TypeIs { s with heap := s.heap.push (eset w) } (.ref s.heap.objs.size) "set" := ⟨_, here, rfl⟩
    have b1 := PySem.F.called_set.init.lookup
    have b2 := PySem.F.called_set.init.bind (.ref s.heap.objs.size)
    repeat (any_goals (first | assumption | wp_step))
    refine codeAny_mono (codeAny_call_builtin (R := wants (fun r t => r = .none ∧ ∃ h' k, t = { s with heap := h', toks := k } ∧ J items.size h' ∧ ∀ b o, s.heap.get? b = some o → h'.get? b = some o) E) PySem.F.called_set.init.plain PySem.F.entry_set_init (check_set_init_1 isSet ?_)) fun r t hr => ?_
    · obtain ⟨⟨oc, od, odt, osl⟩, isAt, oCls, m, oData⟩ := isl
      simp only at oCls oData
      subst oCls oData
      have lAt : (s.heap.push (eset w)).get? l = some { cls := .type "list", dict := od, data := .seq items m, slots := osl } := Heap.get?_push_of_some _ isAt
      have c1 := PySem.F.sub_list_set
      have c2 := PySem.F.sub_list_frozenset
      have c3 : (Value.type "list" == Value.type "dict") = false := by decide
      have lList : (s.heap.push (eset w)).IsList l items := ⟨_, lAt, rfl, m, rfl⟩
      unfold Builtin.«set.__init__» noKeywords Builtin.Frozenset.updateFrom
      generalize eIter : pyIter = it
      wp_walk
      subst eIter
      refine wpAny_pyIter_list lList (wpAny_bind (wpAny_runValue ?_))
      have lS : l < s.heap.objs.size := Heap.lt_size isAt
      have size1 : (s.heap.push (eset w)).objs.size = s.heap.objs.size + 1 := Heap.size_push ..
      have ne1 : l ≠ (s.heap.push (eset w)).objs.size := Nat.ne_of_lt (size1 ▸ Nat.lt_succ_of_lt lS)
      have apart : s.heap.objs.size ∉ [(s.heap.push (eset w)).objs.size, l] := by
        simp only [List.mem_cons, List.not_mem_nil, or_false, not_or]
        exact ⟨Nat.ne_of_lt (size1 ▸ Nat.lt_succ_self _), Nat.ne_of_gt lS⟩
      refine fill_loop (J := J) ((Walks.list (by simp [calm]) _ l ne1 items).toS) apart stay (fun i v t Q' E' hi hv j z => add _ i v t Q' E' hi (by simpa using hv) j z) (items.size - 0) 0 _ (by omega) (Nat.zero_le _) ⟨⟨_, Heap.get?_push_size _ rfl, rfl, rfl⟩, lList.push _⟩ (new _ (Heap.get?_push_of_some _ here)) ?_
      intro t mv j
      obtain ⟨h', g', d', k', os'⟩ := t
      obtain rfl : g' = s.gens := mv.gens
      obtain rfl : d' = s.drawn := mv.drawn
      obtain rfl : os' = s.os := mv.os
      refine wpAny_pure (wpAny_pure ⟨rfl, h', k', rfl, j, fun b o e => ?_⟩)
      have lb := Heap.lt_size e
      refine mv.heap b o ?_ (Heap.get?_push_of_some _ (Heap.get?_push_of_some _ e))
      simp only [List.mem_cons, List.not_mem_nil, or_false, not_or]
      exact ⟨Nat.ne_of_lt lb, Nat.ne_of_lt (size1 ▸ Nat.lt_succ_of_lt lb)⟩
    · match r, hr with
      | .error e, hr => exact hr
      | .ok .next, hr => exact hr.elim
      | .ok .brk, hr => exact hr.elim
      | .ok .cont, hr => exact hr.elim
      | .ok (.ret r), hr =>
        obtain ⟨rfl, h', k, rfl, j, keep⟩ := hr
        repeat (any_goals (first | assumption | wp_step))
        exact fin h' k j keep
end
end PyD
end

section
set_option Elab.async false
set_option linter.all false
set_option maxRecDepth 100000
namespace PyD
open PySem L2 PySem.Spec PyProof.Rows PySem.Froz
section
variable {P : Program} {w : World} {A : Around} {E : Value → Shared → Prop} {s : Shared}
/-- what comes of a list of texts, each one once -/
def onceS : List Str → List Str → List Str
  | [], l => l
  | x :: r, l => onceS r (if x ∈ l then l else x :: l)
theorem once_len : ∀ (xs l : List Str), (onceS xs l).length ≤ xs.length + l.length
  | [], l => by simp [onceS]
  | x :: r, l => by
    have := once_len r (if x ∈ l then l else x :: l)
    unfold onceS
    split at this <;> split <;> simp_all <;> omega
theorem once_mem : ∀ (xs l : List Str) (y : Str), y ∈ onceS xs l ↔ y ∈ xs ∨ y ∈ l
  | [], l, y => by simp [onceS]
  | x :: r, l, y => by
    unfold onceS
    rw [once_mem r _ y, List.mem_cons]
    split
    · rename_i h
      constructor
      · rintro (z | z)
        · exact .inl (.inr z)
        · exact .inr z
      · rintro ((rfl | z) | z)
        · exact .inr h
        · exact .inl z
        · exact .inr z
    · rw [List.mem_cons]
      constructor
      · rintro (z | z | z)
        · exact .inl (.inr z)
        · exact .inl (.inl z)
        · exact .inr z
      · rintro ((z | z) | z)
        · exact .inr (.inl z)
        · exact .inl z
        · exact .inr (.inr z)
theorem once_nodup : ∀ (xs l : List Str), l.Nodup → (onceS xs l).Nodup
  | [], l, h => h
  | x :: r, l, h => by
    unfold onceS
    refine once_nodup r _ ?_
    split
    · exact h
    · exact List.nodup_cons.mpr ⟨by assumption, h⟩
theorem once_snoc : ∀ (xs l : List Str) (y : Str), onceS (xs ++ [y]) l = if y ∈ onceS xs l then onceS xs l else y :: onceS xs l
  | [], l, y => rfl
  | x :: r, l, y => by
    show onceS (r ++ [y]) _ = _
    rw [once_snoc r _ y]
    rfl
/-- set(xs) of texts -/
theorem set_texts {l : Addr} {items : Array Value} {xs : List Str} {Q : Value → Shared → Prop} (calm : A.handled = none) (isl : s.heap.IsList l items) (are : StrsAre items.toList xs) (few : xs.length + 1 < scanBound)
    (fin : ∀ (h' : Heap) (k : Nat), TxSet P w h' s.heap.objs.size (onceS xs []) → (∀ b o, s.heap.get? b = some o → h'.get? b = some o) → Q (.ref s.heap.objs.size) { s with heap := h', toks := k }) :
    wpAny (model P w) A (call (.type "set") [.ref l]) Q E s := by
  have len : items.size = xs.length := by rw [← are.len_eq, Array.length_toList]
  refine set_call (J := fun i h => TxSet P w h s.heap.objs.size (onceS (xs.take i) [])) calm isl (fun k x => x.stay k) (fun B i v t Q' E' hi hv x q => ?_) (fun h e => ?_) (fun h' k x keep => ?_)
  · obtain ⟨u, rfl⟩ := SS.strs_at are i v (by simpa using hv)
    have hi2 : i < xs.length := len ▸ hi
    have get : xs.getD i Str.empty = xs[i] := by simp [List.getD, hi2]
    rw [get]
    unfold setAdd
    refine wpAny_holding (wpAny_bind ((PySem.strKind P w).pyHash (k := xs[i]) (strKind_is _ _ _ _) ?_))
    refine add_any (s := { t with toks := t.toks + 1 }) x ?_ fun b h' same x' => q b h' _ (Nat.le_succ _) same ?_
    · have := once_len (xs.take i) []
      rw [List.length_take] at this
      simp at this
      omega
    · have e : xs.take (i + 1) = xs.take i ++ [xs[i]] := by
        rw [List.take_succ, List.getElem?_eq_getElem hi2]
        rfl
      rw [e, once_snoc]
      exact x'
  · rw [List.take_zero]
    refine ⟨(#[], 0, .fresh 0 0 (!w.params.followText "set-order")), e, TxOk.nil ?_, ⟨?_, ?_⟩, fun e he => by simp at he, List.Perm.refl _⟩
    · rfl
    · exact List.Pairwise.nil
    · show _ ∨ (!w.params.followText "set-order") = true
      cases w.params.followText "set-order"
      · exact .inr rfl
      · exact .inl rfl
  · rw [len, List.take_length] at x
    exact fin h' k x keep
end
section
variable {P : Program} {w : World} {A : Around} {E : Value → Shared → Prop} {s : Shared}
theorem strs_of : ∀ {vs : List Value}, (∀ v ∈ vs, ∃ k u, v = Value.str k u) → StrsAre vs (vs.map strV)
  | [], _ => .nil
  | v :: vs, h => by
    obtain ⟨k, u, rfl⟩ := h v List.mem_cons_self
    exact .cons k u (strs_of fun x m => h x (List.mem_cons_of_mem _ m))
set_option maxHeartbeats 3200000 in
/-- sorted(set of texts) -/
theorem sorted_texts {a : Addr} {L : List Str} {Q : Value → Shared → Prop} (x : TxSet P w s.heap a L) (calm : A.handled = none) (few : L.length < scanBound)
    (fin : ∀ t p (out : Array Value) (c : Nat) (ys : List Str), (∀ b o, s.heap.get? b = some o → t.heap.get? b = some o) → t.gens = s.gens → t.os = s.os → s.heap.objs.size ≤ p → t.heap.get? p = some (seqObj "list" out c) → StrsAre out.toList ys → ys.Perm L → sortedS ys = true → Q (.ref p) t) :
    wpAny (model P w) A (call (.builtin "sorted") [.ref a]) Q E s := by
  obtain ⟨⟨es, ep, t⟩, at', F, ⟨ris, led⟩, els, pm⟩ := x.ex
  have size : es.size = L.length := F.sz
  have room : es.size < scanBound := size ▸ few
  refine Calls.call_function_entry kind_sorted plain_sorted entry_sorted (args_sorted1 _) ?_
  unfold Builtin.«sorted»; refine wpAny_bind (m := checkCount "sorted" 1 1 _) (wpAny_pure (wpAny_bind ?_))
  refine collect_set (A := A.in1) calm ⟨_, at', rfl, rfl⟩ F.fit room ris led fun s1 vs keep le g1 o1 perm => ?_
  have are : StrsAre vs (vs.map strV) := strs_of fun v hv => by
    obtain ⟨e, he, rfl⟩ := List.mem_map.mp (perm.mem_iff.mp hv)
    exact els e he
  have perm2 : (vs.map strV).Perm L := by
    have z := perm.map strV
    rw [List.map_map] at z
    exact z.trans pm
  have len : vs.length ≤ sizeLine := by
    have z := perm2.length_eq
    rw [List.length_map] at z
    have b : scanBound = 4096 := rfl
    rw [z, sizeLine_eq]
    omega
  refine wpAny_bind (wpAny_newList ?_ len)
  have fresh : (s1.heap.push (seqObj "list" vs.toArray 0)).get? s1.heap.objs.size = some (seqObj "list" vs.toArray 0) := Heap.get?_push_size _ rfl
  refine wpAny_bind (wpAny_holding (wpAny_call_entry slot_list_sort ⟨_, fresh, rfl⟩ entry_list_sort (list_sort_treeKAny strKind_oneLt fresh are.keysOf (fun v1 v2 r e => keyKind_strs (by rw [← e]; exact are)) len fun st pa so => ⟨_, rfl, ?_⟩) (args_list_sort _)))
  obtain ⟨ys, h1, h2, h3⟩ := sorted_out_str are pa so
  obtain ⟨c, hc⟩ := sortedHeap_at (vs := vs) (out := (arrOf st).map (·.2)) fresh
  refine wpAny_pure ⟨_, rfl, fin _ s1.heap.objs.size _ c ys (fun b o e => ?_) g1 o1 le hc h1 (h2.trans perm2) h3⟩
  have e1 := keep b o e
  have lt := Heap.lt_size e1
  refine (sortedHeap_old (Nat.ne_of_lt lt) (by rw [size_push']; exact Nat.lt_succ_of_lt lt)).trans ?_
  exact Heap.get?_push_of_some _ e1
end
end PyD
end

section
set_option Elab.async false
set_option linter.all false
set_option maxRecDepth 100000
namespace PyD
open PySem L2 PySem.Spec PyProof.Rows PySem.Froz
/-! ### sorted texts -/
theorem lt_irr : ∀ a : List Nat, ltCps a a = false
  | [] => rfl
  | x :: a => by simp [ltCps, lt_irr a]
theorem lt_tri : ∀ {a b : List Nat}, ltCps a b = false → ltCps b a = false → a = b
  | [], [], _, _ => rfl
  | [], _ :: _, h, _ => by simp [ltCps] at h
  | _ :: _, [], _, h => by simp [ltCps] at h
  | x :: a, y :: b, h, k => by
    simp [ltCps] at h k
    have e : x = y := by omega
    subst e
    simp at h k
    rw [lt_tri h k]
/-- cotransitive -/
theorem lt_co : ∀ {a b c : List Nat}, ltCps a c = true → ltCps a b = true ∨ ltCps b c = true
  | [], [], c, h => .inr h
  | [], _ :: _, c, h => .inl rfl
  | x :: a, b, [], h => by simp [ltCps] at h
  | x :: a, [], z :: c, h => .inr rfl
  | x :: a, y :: b, z :: c, h => by
    simp [ltCps] at h ⊢
    rcases h with h | ⟨rfl, h⟩
    · rcases Nat.lt_trichotomy x y with k | rfl | k
      · exact .inl (.inl k)
      · exact .inr (.inl h)
      · exact .inr (.inl (by omega))
    · rcases Nat.lt_trichotomy x y with k | rfl | k
      · exact .inl (.inl k)
      · rcases lt_co (b := b) h with k | k
        · exact .inl (.inr ⟨rfl, k⟩)
        · exact .inr (.inr ⟨rfl, k⟩)
      · exact .inr (.inl k)
def leL (a b : List Nat) : Prop := ltCps b a = false
theorem leL_trans {a b c : List Nat} (h : leL a b) (k : leL b c) : leL a c := by
  unfold leL at *
  cases e : ltCps c a with
  | false => rfl
  | true =>
    rcases lt_co (b := b) e with z | z
    · rw [k] at z; cases z
    · rw [h] at z; cases z
theorem leL_total (a b : List Nat) : leL a b ∨ leL b a := by
  unfold leL
  cases e : ltCps b a with
  | false => exact .inl rfl
  | true =>
    cases e2 : ltCps a b with
    | false => exact .inr rfl
    | true =>
      rcases lt_co (b := a) e2 with z | z
      · rw [lt_irr] at z; cases z
      · exact (by
          have : ltCps a a = true ∨ ltCps a b = true := .inr e2
          rcases lt_co (a := b) (b := b) (c := a) e with y | y
          · rw [lt_irr] at y; cases y
          · exfalso
            have q : ∀ {a b : List Nat}, ltCps a b = true → ltCps b a = true → False := by
              intro a
              induction a with
              | nil => intro b h k; cases b <;> simp [ltCps] at h k
              | cons x a ih =>
                intro b h k
                cases b with
                | nil => simp [ltCps] at h
                | cons y b =>
                  simp [ltCps] at h k
                  rcases h with h | ⟨rfl, h⟩
                  · rcases k with k | ⟨k, _⟩ <;> omega
                  · rcases k with k | ⟨_, k⟩
                    · omega
                    · exact ih h k
            exact q e e2)
def insL (a : List Nat) : List (List Nat) → List (List Nat)
  | [] => [a]
  | b :: r => if ltCps b a = true then b :: insL a r else a :: b :: r
def srtL : List (List Nat) → List (List Nat)
  | [] => []
  | a :: r => insL a (srtL r)
theorem insL_perm (a : List Nat) : ∀ r, (insL a r).Perm (a :: r)
  | [] => List.Perm.refl _
  | b :: r => by
    unfold insL
    split
    · exact ((insL_perm a r).cons b).trans (List.Perm.swap a b r)
    · exact List.Perm.refl _
theorem srtL_perm : ∀ r, (srtL r).Perm r
  | [] => List.Perm.refl _
  | a :: r => (insL_perm a (srtL r)).trans ((srtL_perm r).cons a)
theorem insL_sorted (a : List Nat) : ∀ r, r.Pairwise leL → (insL a r).Pairwise leL
  | [], _ => List.pairwise_singleton _ _
  | b :: r, h => by
    obtain ⟨h1, h2⟩ := List.pairwise_cons.mp h
    unfold insL
    split
    · rename_i lt
      refine List.pairwise_cons.mpr ⟨fun c hc => ?_, insL_sorted a r h2⟩
      rcases List.mem_cons.mp ((insL_perm a r).mem_iff.mp hc) with rfl | hc
      · rcases leL_total b c with z | z
        · exact z
        · unfold leL at z
          rw [lt] at z
          cases z
      · exact h1 c hc
    · rename_i lt
      have le : leL a b := by simpa [leL] using lt
      refine List.pairwise_cons.mpr ⟨fun c hc => ?_, h⟩
      rcases List.mem_cons.mp hc with rfl | hc
      · exact le
      · exact leL_trans le (h1 c hc)
theorem srtL_sorted : ∀ r, (srtL r).Pairwise leL
  | [] => List.Pairwise.nil
  | a :: r => insL_sorted a _ (srtL_sorted r)
theorem leL_anti {a b : List Nat} (h : leL a b) (k : leL b a) : a = b := lt_tri k h
/-- sorted, and of the same items: the same list -/
theorem srt_unique {l m : List (List Nat)} (p : l.Perm m) (h : l.Pairwise leL) : l = srtL m :=
  List.Perm.eq_of_pairwise (fun _ _ _ _ => leL_anti) h (srtL_sorted m) (p.trans (srtL_perm m).symm)
theorem rising_le : ∀ {p : Str} {r : List Str}, risingS p r = true → (p :: r).Pairwise fun a b => leL a.cps.toList b.cps.toList
  | p, [], _ => List.pairwise_singleton _ _
  | p, x :: r, h => by
    simp only [risingS, Bool.and_eq_true, Bool.not_eq_true'] at h
    have ih := rising_le h.2
    obtain ⟨i1, _⟩ := List.pairwise_cons.mp ih
    refine List.pairwise_cons.mpr ⟨fun c hc => ?_, ih⟩
    rcases List.mem_cons.mp hc with rfl | hc
    · exact h.1
    · exact leL_trans h.1 (i1 c hc)
theorem sortedS_le : ∀ {l : List Str}, sortedS l = true → (l.map fun x => x.cps.toList).Pairwise leL
  | [], _ => List.Pairwise.nil
  | x :: r, h => by
    rw [List.pairwise_map]
    exact rising_le h
/-- each one once -/
def onceN : List (List Nat) → List (List Nat) → List (List Nat)
  | [], l => l
  | x :: r, l => onceN r (if x ∈ l then l else x :: l)
theorem sOf_mem {x : List Nat} {l : List (List Nat)} : sOf x ∈ l.map sOf ↔ x ∈ l := by
  rw [List.mem_map]
  constructor
  · rintro ⟨y, hy, e⟩
    have : y = x := by rw [← toList_sOf y, ← toList_sOf x, e]
    exact this ▸ hy
  · intro h; exact ⟨x, h, rfl⟩
theorem once_map : ∀ (xs l : List (List Nat)), onceS (xs.map sOf) (l.map sOf) = (onceN xs l).map sOf
  | [], l => rfl
  | x :: r, l => by
    rw [List.map_cons, onceS, onceN, ← once_map r]
    congr 1
    by_cases h : x ∈ l
    · rw [if_pos h, if_pos (sOf_mem.mpr h)]
    · rw [if_neg h, if_neg fun z => h (sOf_mem.mp z)]
      rfl
theorem onceN_mem (xs : List (List Nat)) : ∀ (l : List (List Nat)) (y : List Nat), y ∈ onceN xs l ↔ y ∈ xs ∨ y ∈ l := by
  induction xs with
  | nil => intro l y; simp [onceN]
  | cons x r ih =>
    intro l y
    unfold onceN
    rw [ih]
    split
    · rename_i h
      constructor
      · rintro (z | z)
        · exact .inl (List.mem_cons_of_mem _ z)
        · exact .inr z
      · rintro (z | z)
        · rcases List.mem_cons.mp z with rfl | z
          · exact .inr h
          · exact .inl z
        · exact .inr z
    · constructor
      · rintro (z | z)
        · exact .inl (List.mem_cons_of_mem _ z)
        · rcases List.mem_cons.mp z with rfl | z
          · exact .inl List.mem_cons_self
          · exact .inr z
      · rintro (z | z)
        · rcases List.mem_cons.mp z with rfl | z
          · exact .inr List.mem_cons_self
          · exact .inl z
        · exact .inr (List.mem_cons_of_mem _ z)
theorem onceN_nodup (xs : List (List Nat)) : ∀ l : List (List Nat), l.Nodup → (onceN xs l).Nodup := by
  induction xs with
  | nil => intro l h; exact h
  | cons x r ih =>
    intro l h
    unfold onceN
    refine ih _ ?_
    split
    · exact h
    · exact List.nodup_cons.mpr ⟨by assumption, h⟩
theorem onceN_len (xs : List (List Nat)) : ∀ l : List (List Nat), (onceN xs l).length ≤ xs.length + l.length := by
  induction xs with
  | nil => intro l; simp [onceN]
  | cons x r ih =>
    intro l
    unfold onceN
    by_cases h : x ∈ l
    · rw [if_pos h, List.length_cons]
      have := ih l
      omega
    · rw [if_neg h, List.length_cons]
      have := ih (x :: l)
      rw [List.length_cons] at this
      omega
/-- the texts of a list, ascending, each one once -/
def setL (xs : List (List Nat)) : List (List Nat) := srtL (onceN xs [])
theorem setL_mem {xs : List (List Nat)} {y : List Nat} : y ∈ setL xs ↔ y ∈ xs := by
  unfold setL
  rw [(srtL_perm _).mem_iff, onceN_mem]
  simp
theorem setL_sorted (xs : List (List Nat)) : (setL xs).Pairwise leL := srtL_sorted _
theorem setL_nodup (xs : List (List Nat)) : (setL xs).Nodup := (srtL_perm _).nodup_iff.mpr (onceN_nodup xs [] List.nodup_nil)
theorem setL_len (xs : List (List Nat)) : (setL xs).length ≤ xs.length := by
  unfold setL
  rw [(srtL_perm _).length_eq]
  simpa using onceN_len xs []
/-- two lists of the same texts, ascending and each one once: the same -/
theorem set_unique {l m : List (List Nat)} (h : l.Pairwise leL) (k : m.Pairwise leL) (hn : l.Nodup) (kn : m.Nodup) (e : ∀ x, x ∈ l ↔ x ∈ m) : l = m :=
  List.Perm.eq_of_pairwise (fun _ _ _ _ => leL_anti) h k ((List.perm_ext_iff_of_nodup hn kn).mpr e)
/-! ### the rules -/
section
variable {K : PySem.W.Frag}
def SetSO (P : Program) (w : World) (a : Addr) (L : List Str) : HO := .ext fun h => TxSet P w h a L
theorem setSO_ok {P : Program} {w : World} {H : Hp} {h : Heap} {a : Addr} {L : List Str} (x : TxSet P w h a L) : ObjOk P w H h a (SetSO P w a L) := by
  obtain ⟨D, e, _⟩ := x.ex
  exact ⟨x, ⟨_, e⟩, fun h1 h2 p k => TxSet.stay p k⟩
def rSetS (K : PySem.W.Frag) (P : Program) (w : World) : List V → Hp → VK → Prop := fun vs H Q => ∃ l xs, vs = [V.ref l] ∧ SqL K H l (xs.map V.str) ∧ xs.length + 1 < scanBound ∧ ∀ a, H a = none → Q (.ref a) (upd H a (SetSO P w a (onceS xs [])))
theorem cr_setS {X : Cx} (calm : X.calm = true) : CallR X (.type "set") (rSetS X.K X.prog X.w) := by
  intro pins s σ H vs us Q I r h
  obtain ⟨l, xs, rfl, sq, few, q⟩ := h
  rw [Vals.ref1 r]
  obtain ⟨its, rv, pl, _⟩ := I.list sq
  exact set_texts (P := X.prog) (w := X.w) (I.ok.hd calm) pl.isList (by simpa using rv.strs) few fun h' k x keep =>
    ⟨.ref s.heap.objs.size, upd H s.heap.objs.size (SetSO X.prog X.w s.heap.objs.size (onceS xs [])), I.laid (t' := k) keep (Nat.le_refl _) (setSO_ok x), rfl, q _ (I.hok.fresh (Nat.le_refl _))⟩
def rSortS (P : Program) (w : World) : List V → Hp → VK → Prop := fun vs H Q => ∃ a L, vs = [V.ref a] ∧ H a = some (SetSO P w a L) ∧ L.length < scanBound ∧ ∀ ys p, ys.Perm L → sortedS ys = true → H p = none → Q (.ref p) (upd H p (.lst (ys.map V.str)))
theorem cr_sortS {X : Cx} (calm : X.calm = true) : CallR X (.builtin "sorted") (rSortS X.prog X.w) := by
  intro pins s σ H vs us Q I r h
  obtain ⟨a, L, rfl, at', few, q⟩ := h
  have x : TxSet X.prog X.w s.heap a L := (I.hok a _ at').1
  rw [Vals.ref1 r]
  refine sorted_texts x (I.ok.hd calm) few fun t p out c ys keep g o le here are pm so => ?_
  have new : H p = none := I.hok.fresh le
  have len : (ys.map V.str).length ≤ sizeLine := by
    have b : scanBound = 4096 := rfl
    rw [List.length_map, pm.length_eq, sizeLine_eq]
    omega
  have J : Inv X pins σ (upd H p (.lst (ys.map V.str))) { s with heap := t.heap, gens := t.gens, drawn := t.drawn, toks := t.toks } :=
    I.call (ch := []) (Un.laid keep le new) (I.hok.laid keep le ⟨len, out.toList, c, vals_of_strs are, here⟩) (by rw [g]; exact I.bare) fun _ z => nomatch z
  obtain ⟨th, tg, td, tt, to⟩ := t
  obtain rfl : to = s.os := o
  exact ⟨.ref p, _, J, rfl, q ys p pm so new⟩
end
def semSortSet : List D → Option O
  | [.lst ds] => match strsOf ds with
    | some xs => if xs.length < 4000 then some (.lst ((setL xs).map fun l => .fz (.str l))) else none
    | none => none
  | _ => none
theorem sorted_out {xs : List (List Nat)} {ys : List Str} (pm : ys.Perm (onceS (xs.map sOf) [])) (so : sortedS ys = true) : ys = (setL xs).map sOf := by
  have e : onceS (xs.map sOf) [] = (onceN xs []).map sOf := once_map xs []
  rw [e] at pm
  have pm2 : (ys.map fun x => x.cps.toList).Perm (onceN xs []) := by
    have z := pm.map fun x : Str => x.cps.toList
    rw [List.map_map] at z
    have i : ((fun x : Str => x.cps.toList) ∘ sOf) = id := by
      funext x
      exact toList_sOf x
    rw [i, List.map_id] at z
    exact z
  have u := srt_unique pm2 (sortedS_le so)
  show ys = (srtL (onceN xs [])).map sOf
  rw [← u, List.map_map]
  have i : (sOf ∘ fun x : Str => x.cps.toList) = id := by
    funext x
    exact sOf_toList x
  rw [i, List.map_id]
theorem opb_sortSet {K : PySem.W.Frag} {P : Program} {w : World} : OpB K (fun vs H Q => rSetS K P w vs H fun v H1 => rSortS P w [v] H1 Q) semSortSet := by
  intro F H vs ds o Q s sh e q
  unfold semSortSet at e
  split at e
  · rename_i ds
    split at e
    · rename_i xs hx
      split at e
      · rename_i few
        cases e
        obtain ⟨v, rfl, h1⟩ := sh.one
        obtain ⟨a, us, rfl, g, k⟩ := h1.lst_inv s
        obtain ⟨rfl, oks⟩ := strsOf_rep k hx
        have b : scanBound = 4096 := rfl
        refine ⟨a, xs.map sOf, rfl, by rw [List.map_map]; exact g, by rw [List.length_map]; omega, fun a2 ha2 => ?_⟩
        refine ⟨a2, _, rfl, upd_same, ?_, fun ys p pm so hp => ?_⟩
        · have := once_len (xs.map sOf) []
          simp at this
          omega
        · obtain rfl := sorted_out pm so
          have s2 : Ex F (upd H a2 (SetSO P w a2 (onceS (xs.map sOf) []))) := s.trans (Ex.new ha2)
          have rp : Reps K F (((setL xs).map sOf).map V.str) ((setL xs).map D.str) := by
            have : ∀ l : List (List Nat), (∀ x ∈ l, okS x) → Reps K F ((l.map sOf).map V.str) (l.map D.str) := by
              intro l
              induction l with
              | nil => intro _; exact .nil
              | cons x l ih => intro h; exact .cons (.str x (h x List.mem_cons_self)) (ih fun y m => h y (List.mem_cons_of_mem _ m))
            exact this _ fun x m => oks x (setL_mem.mp m)
          have t0 : Trans F H [] F (upd H a2 (SetSO P w a2 (onceS (xs.map sOf) []))) [] := (tr_new s ha2).sub fun _ m => nomatch m
          refine new_lst s2 rp hp fun v F' H' T tr ow ex nd nf => ?_
          refine q v F' H' T (t0.trans tr) ?_ ex nd nf
          rw [List.map_map] at ow
          exact ow
      · cases e
    · cases e
  · cases e
section
variable {n : Nat} {X : Cx}
/-- sorted(set(e)) -/
theorem snd_sortSet {e : Expr} {f : Env → R (List Opd)} {p p2 pos pos2 : Pos} (B : BuiltinAt X "sorted" (.builtin "sorted")) (B2 : BuiltinAt X "set" (.type "set")) (calm : X.calm = true) (h : SndL n X [e] f) (pl : Plain X [e]) (pl2 : Plain X [.Call (.Name "set" p2) [e] [] pos2])
    (n1 : (backTo pos (starEach [] X.env)).any (·.1) = false := by rfl) (n2 : (backTo pos2 (starEach [] X.env)).any (·.1) = false := by rfl) : SndE n X (.Call (.Name "sorted" p) [.Call (.Name "set" p2) [e] [] pos2] [] pos) (eB semSortSet f) :=
  snd_B h (opb_sortSet (P := X.prog) (w := X.w)) fun σ H Q z => wE_callB (cr_sortS calm) B.gl B.mg B.bt pl2 B.nn B.db n1 σ H Q (wE_callTy (cr_setS calm) B2.gl B2.mg B2.bt pl B2.nn B2.db n2 σ H _ z)
end
end PyD
end

section
set_option Elab.async false
set_option linter.all false
set_option maxRecDepth 100000
namespace PyD
open PySem L2 PySem.Spec PyProof.Rows
/-! ### a dict's display: keys that are written texts -/
inductive CK : List (Option Expr) → List (List Nat) → Prop
  | nil : CK [] []
  | cons {z : Str} {j} {pos : Pos} {l : List Nat} {r : List (Option Expr)} {ls : List (List Nat)} : z = sOf l → CK r ls → CK (some (.Constant (.str z) j pos) :: r) (l :: ls)
theorem CK.len : ∀ {r ls}, CK r ls → r.length = ls.length
  | _, _, .nil => rfl
  | _, _, .cons _ h => by simp [CK.len h]
theorem CK.some : ∀ {r ls}, CK r ls → r.all (·.isSome) = true
  | _, _, .nil => rfl
  | _, _, .cons _ h => by simp [CK.some h]
def kvZip {α : Type} : List (List Nat) → List α → List (Key × α)
  | l :: ls, v :: vs => (.inr (sOf l), v) :: kvZip ls vs
  | _, _ => []
def dicZip : List (List Nat) → List O → List (D × O)
  | l :: ls, o :: os => (.str l, o) :: dicZip ls os
  | _, _ => []
section
variable {n : Nat} {X : Cx}
theorem pps_of {pos : Pos} : ∀ {kes : List (Option Expr)} {ls : List (List Nat)} {es : List Expr}, CK kes ls → kes.length = es.length →
    ∃ trs, PPs X pos kes es trs ∧ ∀ σ H Q, wL 0 X es σ H (fun vs H2 => Q ((kvZip ls vs).map fun p => (kV p.1, p.2)) H2) → tPairs trs σ H Q
  | _, _, [], .nil, _ => ⟨[], pps_nil, fun _ _ _ h => h⟩
  | _, _, _ :: _, .nil, h => by cases h
  | _, _, [], .cons _ _, h => by cases h
  | _, _, e :: es, .cons (l := l) hz c, h => by
    obtain ⟨trs, p, q⟩ := pps_of c (Nat.succ.inj h)
    subst hz
    refine ⟨(tC (.str (sOf l)), wE 0 X e) :: trs, pps_cons pe_str pe_w p, fun σ H Q w => ?_⟩
    exact wE_mono w fun v H1 w1 => q σ H1 _ w1
theorem kvZip_keys {α : Type} : ∀ {ls : List (List Nat)} {vs : List α}, ls.length = vs.length → (kvZip ls vs).map (·.1) = ls.map fun l => (Sum.inr (sOf l) : Key)
  | [], [], _ => rfl
  | [], _ :: _, h => by cases h
  | _ :: _, [], h => by cases h
  | l :: ls, v :: vs, h => by simp [kvZip, kvZip_keys (Nat.succ.inj h)]
theorem merge_new : ∀ {more kvs : List (Key × V)}, ((kvs ++ more).map (·.1)).Nodup → mergeK kvs more = kvs ++ more
  | [], kvs, _ => by simp [mergeK]
  | p :: r, kvs, h => by
    have e : putK kvs p.1 p.2 = kvs ++ [p] := by
      refine putK_new' ?_
      cases hv : valV kvs p.1 with
      | none => rfl
      | some v =>
        exfalso
        rw [List.map_append, List.map_cons] at h
        have nd := (List.nodup_append.mp h).2.2
        have : p.1 ∈ kvs.map (·.1) := by
          have : ∀ {l : List (Key × V)}, valV l p.1 = some v → p.1 ∈ l.map (·.1) := by
            intro l
            induction l with
            | nil => intro h; cases h
            | cons q l ih =>
              intro h
              by_cases hq : q.1 = p.1
              · exact List.mem_map.mpr ⟨q, List.mem_cons_self, hq⟩
              · rw [valV_neg hq] at h
                exact List.mem_cons_of_mem _ (ih h)
          exact this hv
        exact nd _ this _ List.mem_cons_self rfl
    show mergeK (putK kvs p.1 p.2) r = _
    rw [e, merge_new (by simpa using h)]
    simp
def eDic (ls : List (List Nat)) (f : Env → R (List O)) : Env → R O := fun env => if ls.length ≤ 15 ∧ ls.Nodup then (match f env with
  | .ok os e => if os.length = ls.length then .ok (.dic (dicZip ls os)) e else .bad
  | .exc c ds e => .exc c ds e
  | .bad => .bad) else .bad
theorem ownK_zip {K : PySem.W.Frag} {F H : Hp} : ∀ {ls : List (List Nat)} {vs : List V} {os : List O} {T : List Addr}, Owns K F H vs os T → ls.length = os.length → OwnK K F H (kvZip ls vs) (dicZip ls os) T
  | [], _, _, _, .nil, _ => .nil
  | [], _, _, _, .cons _ _, h => by cases h
  | _ :: _, _, _, _, .nil, h => by cases h
  | l :: ls, _, _, _, .cons a b, h => .cons (k := .inr (sOf l)) (by show D.str l = .str (sOf l).cps.toList; rw [toList_sOf]) a (ownK_zip b (Nat.succ.inj h))
theorem snd_dic {kes : List (Option Expr)} {ls : List (List Nat)} {es : List Expr} {f : Env → R (List O)} {pos : Pos} (c : CK kes ls) (hl : kes.length = es.length) (h0 : kes ≠ []) (h : SndA 0 X es f) : SndE n X (.Dict kes es pos) (eDic ls f) := by
  refine SndE.up (.mk fun W tk env σ F H S Q st q => ?_)
  obtain ⟨trs, pp, says⟩ := pps_of (X := X) (pos := pos) c hl
  unfold eDic at q
  by_cases few' : ls.length ≤ 15 ∧ ls.Nodup
  · rw [if_pos few'] at q
    obtain ⟨few, nodup⟩ := few'
    refine wE_of (pe_disp pp c.some hl h0 (by rw [c.len]; exact few)) fun p hp => says σ _ _ ?_
    have ex0 : Ex H (upd H p (.dK [])) := Ex.new hp
    have pS : p ∉ S := fun m => by
      obtain ⟨u, e⟩ := st.own.live p m
      rw [hp] at e; cases e
    have st1 : Stt X.K F (upd H p (.dK [])) σ env S := ⟨st.own.keep (Ex.refl _) fun a _ u e => ex0 a u e, st.sub.trans ex0, st.nd, st.sep⟩
    refine h.run W tk env σ F _ S _ st1 ?_
    have t0 : Trans F H S F (upd H p (.dK [])) S := ⟨fun a u e _ => ex0 a u e, Ex.refl _, fun a u e => .inl ⟨u, e⟩, fun a m => .inl m, fun a e => by
      by_cases ha : a = p
      · exact ha ▸ hp
      · rwa [upd_ne ha] at e⟩
    revert q
    cases f env with
    | exc c ds e => exact fun q => ExcPost.over q t0
    | bad => exact fun q => q.elim
    | ok os e =>
      show PostE X W σ F H S Q (if os.length = ls.length then .ok (.dic (dicZip ls os)) e else .bad) → _
      by_cases hh : os.length = ls.length
      · rw [if_pos hh]
        intro q vs F1 H1 S1 T tr s
        have here : H1 p = some (.dK []) := tr.fr p _ upd_same pS
        have lenV : ls.length = vs.length := by rw [← hh, s.val.length]
        have keys := kvZip_keys (α := V) lenV
        have nd : ((kvZip ls vs).map (·.1)).Nodup := by
          rw [keys]
          refine List.Pairwise.map _ ?_ nodup
          intro a b ne z
          apply ne
          have : sOf a = sOf b := Sum.inr.inj z
          rw [← toList_sOf a, ← toList_sOf b, this]
        have len2 : (kvZip ls vs).length = ls.length := by
          have := congrArg List.length keys
          simpa using this
        refine ⟨here, kvZip ls vs, rfl, by rw [len2]; exact few, ?_⟩
        have e1 : mergeK [] (kvZip ls vs) = kvZip ls vs := by simpa using merge_new (kvs := []) (more := kvZip ls vs) (by simpa using nd)
        rw [e1]
        have pT : p ∉ T := fun m => by
          rcases tr.sn p (List.mem_append_left _ m) with z | z
          · exact pS z
          · rw [upd_same] at z; cases z
        have pS1 : p ∉ S1 := fun m => by
          rcases tr.sn p (List.mem_append_right _ m) with z | z
          · exact pS z
          · rw [upd_same] at z; cases z
        have pF : F1 p = none := by
          cases z : F1 p with
          | none => rfl
          | some u =>
            rcases tr.fn p u z with ⟨u', y⟩ | y | y
            · rw [st.sub p u' y] at hp; cases hp
            · exact (pS y).elim
            · rw [upd_same] at y; cases y
        have keep : ∀ a u, a ≠ p → H1 a = some u → upd H1 p (.dK (kvZip ls vs)) a = some u := fun a u ne e => by rw [upd_ne ne]; exact e
        have exF : Ex F1 (upd H1 p (.dK (kvZip ls vs))) := fun a u e => keep a u (fun z => by rw [z, pF] at e; cases e) (s.st.sub a u e)
        refine q (.ref p) F1 _ S1 (p :: T) ?_ ?_
        · have t1 := t0.trans tr
          refine ⟨fun a u e n => keep a u (fun z => by rw [z, hp] at e; cases e) (t1.fr a u e n), t1.ff, t1.fn, fun a m => ?_, fun a e => t1.dm a ?_⟩
          · rcases List.mem_cons.mp m with rfl | m
            · exact .inr hp
            · exact t1.sn a m
          · by_cases ha : a = p
            · rw [ha, upd_same] at e; cases e
            · rwa [upd_ne ha] at e
        · refine sta_one ⟨s.st.own.keep (Ex.refl _) fun a m u e => keep a u (fun z => pS1 (z ▸ m)) e, exF, s.st.nd, s.st.sep⟩ (.dic upd_same nd ?_) (List.nodup_cons.mpr ⟨pT, s.nd⟩) ⟨fun a m => ?_, fun a m => ?_, fun a m => ?_⟩
          · refine ownK_zip ?_ hh.symm
            exact s.val.keep (Ex.refl _) fun a m u e => keep a u (fun z => pT (z ▸ m)) e
          · rcases List.mem_cons.mp m with rfl | m
            · exact pS1
            · exact s.as.ns a m
          · rcases List.mem_cons.mp m with rfl | m
            · exact pF
            · exact s.as.nf a m
          · rcases List.mem_cons.mp m with rfl | m
            · exact ⟨_, upd_same⟩
            · obtain ⟨u, e⟩ := s.as.lv a m
              exact ⟨u, keep a u (fun z => pT (z ▸ m)) e⟩
      · rw [if_neg hh]
        exact fun q => q.elim
  · rw [if_neg few'] at q
    exact q.elim
def eDic0 : Env → R O := fun env => .ok (.dic []) env
theorem snd_dic0 {pos : Pos} : SndE n X (.Dict [] [] pos) eDic0 := by
  refine .mk fun W tk env σ F H S Q st q => ?_
  refine wE_of pe_dnewK fun p hp => ?_
  obtain ⟨t2, s2⟩ := new_cell (u := .dK []) (os := []) (vs := []) (T := []) (S1 := S) (o := .dic []) Trans.refl (Sta.of st) hp fun H2 e ow => .dic e List.nodup_nil .nil
  exact q _ _ _ _ _ t2 s2
end
/-! ### str.count -/
theorem occ_none (a b : List Nat) : Builtin.Str.occurrences (sOf a) (sOf b) 0 (sOf a).length ((sOf a).length + 1) = [] ↔ findL a b 0 = none := by
  have one := occ_findL a b 0
  have e1 : findL a b 0 = none ↔ Builtin.Str.occurrences (sOf a) (sOf b) 0 (sOf a).length 1 = [] := by
    rw [← one]
    cases Builtin.Str.occurrences (sOf a) (sOf b) 0 (sOf a).length 1 <;> simp
  rw [e1]
  rcases StrLaws.occ_head_from (sOf a) (sOf b) 0 1 (Nat.le_refl _) with ⟨h0, hn⟩ | ⟨i, r, h0, hlo, hat, hn⟩
  · rcases StrLaws.occ_head_from (sOf a) (sOf b) 0 ((sOf a).length + 1) (by omega) with ⟨k0, _⟩ | ⟨j, q, k0, klo, kat, _⟩
    · rw [h0, k0]
    · exact absurd kat (hn j klo)
  · rcases StrLaws.occ_head_from (sOf a) (sOf b) 0 ((sOf a).length + 1) (by omega) with ⟨k0, kn⟩ | ⟨j, q, k0, klo, kat, _⟩
    · exact absurd hat (kn i hlo)
    · rw [h0, k0]
      simp
def mCount : List Nat → List D → Option O
  | l, [.str m] => some (.fz (.int (Txt.count (sOf l) (sOf m))))
  | _, _ => none
theorem count_zero {l m : List Nat} : Txt.count (sOf l) (sOf m) = 0 ↔ findL l m 0 = none := by
  rw [← occ_none]
  show ((Builtin.Str.occurrences (sOf l) (sOf m) 0 (sOf l).length ((sOf l).length + 1)).length : Int) = 0 ↔ _
  constructor
  · intro h
    exact List.eq_nil_of_length_eq_zero (by omega)
  · intro h
    rw [h]
    rfl
theorem opm_count {K : PySem.W.Frag} : OpM K (fun x xs H Q => ∃ a b, x = .str a ∧ xs = [.str b] ∧ Q (.int (Txt.count a b)) H) mCount := by
  intro F H l vs ds o Q s okl r e q
  unfold mCount at e
  split at e
  · cases e
    obtain ⟨v, rfl, h1⟩ := r.one
    obtain ⟨rfl, okb⟩ := h1.str_inv
    exact ⟨_, _, rfl, rfl, atom_val (a := .int _) s trivial q⟩
  · cases e
end PyD
end

section
set_option Elab.async false
set_option linter.all false
set_option maxRecDepth 100000
namespace PyD.k01
open PySem L2 PySem.Spec PyProof.Rows PyD
/-- _law_source(_law_cell, _law_k); names ['_law_cell', '_law_k'] -/
def b__law_source : Env → R Fl :=
  (sRet (eLst (aCons (eA semMax2 (oExp (eC (.int 0)) (oExp (eA semSub (oExp (eA semAbs (oVar 0 oNil)) (oExp (eA semPow (oExp (eC (.int 10)) (oExp (eC (.int 18)) oNil))) oNil))) oNil))) (aCons (eB semAdd (oExp (eB semAdd (oExp (eB semMul (oExp (eA semMod (oExp (eA semInt (oExp (eA semAbs (oVar 0 oNil)) oNil)) (oExp (eB semAdd (oExp (eA semPow (oExp (eC (.int 10)) (oExp (eC (.int 36)) oNil))) (oExp (eC (.int 67)) oNil))) oNil))) (oExp (eC (.int 127)) oNil))) (oExp (eB semMul (oExp (eC (.int 1000003)) (oVar 1 oNil))) oNil))) (oExp (eC (.int 13)) oNil))) (aCons (eC (.int 0)) aNil)))))
@[irreducible] def φ__law_source : List O → FR := fnSem [false, false] 0 b__law_source
/-- _law_due(_law_item); names ['_law_item', '_law_odd', '_law_sign'] -/
def b__law_due : Env → R Fl :=
  (sSeq (sIf (tNot' (tBool (eA (semIsi .str) (oVar 0 oNil)))) (sRet (eLst (aCons (eC (.bl false)) (aCons (eC (.bl false)) aNil)))) sNil)
  (sSeq (sAsg (eB semSortSet (oExp (eComp [2] (iVal (eVar 0)) (gN 2) (tBool (eA (semIn true) (oVar 2 (oExp (eC (.str [97,98,99,100,101,102,103,104,105,106,107,108,109,110,111,112,113,114,115,116,117,118,119,120,121,122,48,49,50,51,52,53,54,55,56,57,45])) oNil)))) (eVar 2)) oNil)) (gN 1))
  (sRet (eLst (aCons (eA (semIn false) (oVar 1 (oExp (eTup (aCons (eLst aNil) (aCons (eLst (aCons (eC (.str [126])) aNil)) aNil))) oNil))) (aCons (eAnd (eA (semIn false) (oVar 1 (oExp (eTup (aCons (eLst aNil) (aCons (eLst (aCons (eC (.str [42])) aNil)) aNil))) oNil))) (eA (semEq false) (oExp (eM mCount (eVar 0) (oExp (eC (.str [42,42])) oNil)) (oExp (eC (.int 0)) oNil)))) aNil))))))
@[irreducible] def φ__law_due : List O → FR := fnSem [false] 2 b__law_due
/-- is_text_of(value, signs); names ['value', 'signs', 'sign'] -/
def b_is_text_of : Env → R Fl :=
  (sRet (eAnd (eA (semIsi .str) (oVar 0 oNil)) (eA semAll (oExp (eComp [2] (iVal (eVar 0)) (gN 2) tTrue (eA (semIn false) (oVar 2 (oVar 1 oNil)))) oNil))))
@[irreducible] def φ_is_text_of : List O → FR := fnSem [false, false] 1 b_is_text_of
/-- is_pattern(value); names ['value'] -/
def b_is_pattern : Env → R Fl :=
  (sRet (eAnd (eCall φ_is_text_of (oVar 0 (oExp (eB semAdd (oExp (eC (.str [97,98,99,100,101,102,103,104,105,106,107,108,109,110,111,112,113,114,115,116,117,118,119,120,121,122,48,49,50,51,52,53,54,55,56,57,45])) (oExp (eC (.str [42])) oNil))) oNil))) (eA (semIn true) (oExp (eB semAdd (oExp (eC (.str [42])) (oExp (eC (.str [42])) oNil))) (oVar 0 oNil)))))
@[irreducible] def φ_is_pattern : List O → FR := fnSem [false] 0 b_is_pattern
/-- is_word(value); names ['value'] -/
def b_is_word : Env → R Fl :=
  (sRet (eCall φ_is_text_of (oVar 0 (oExp (eB semAdd (oExp (eC (.str [97,98,99,100,101,102,103,104,105,106,107,108,109,110,111,112,113,114,115,116,117,118,119,120,121,122,48,49,50,51,52,53,54,55,56,57,45])) (oExp (eC (.str [126])) oNil))) oNil))))
@[irreducible] def φ_is_word : List O → FR := fnSem [false] 0 b_is_word
/-- _law_right(_law_item); names ['_law_item', '_law_kept', '_law_due_here', '_law_told'] -/
def b__law_right : Env → R Fl :=
  (sSeq (sPar [1, 2] (aCons (eA semRepr (oVar 0 oNil)) (aCons (eCall φ__law_due (oVar 0 oNil)) aNil)))
  (sSeq (sAsg (eLst (aCons (eCall φ_is_word (oVar 0 oNil)) (aCons (eCall φ_is_pattern (oVar 0 oNil)) (aCons (eCall φ_is_word (oPick [0] (oVar 0 oNil))) (aCons (eCall φ_is_pattern (oPick [0] (oVar 0 oNil))) aNil))))) (gN 3))
  (sRet (eAnd (eA (semEq false) (oExp (eA semRepr (oVar 3 oNil)) (oExp (eA semRepr (oExp (eB semAdd (oVar 2 (oVar 2 oNil))) oNil)) oNil))) (eA (semEq false) (oExp (eA semRepr (oVar 0 oNil)) (oVar 1 oNil)))))))
@[irreducible] def φ__law_right : List O → FR := fnSem [false] 3 b__law_right
/-- _law_draw(_law_source_here, _law_many); names ['_law_source_here', '_law_many', '_law_digit', '_law_mixed'] -/
def b__law_draw : Env → R Fl :=
  (sSeq (sIf (tBool (eA semGt (oExp (eB semIx (oVar 0 (oExp (eC (.int 0)) oNil))) (oExp (eC (.int 0)) oNil)))) (sSeq (sAsg (eA semMod (oExp (eA semInt (oExp (eB semIx (oVar 0 (oExp (eC (.int 0)) oNil))) oNil)) (oVar 1 oNil))) (gN 2))
  (sSeq (sAsg (eA semDiv (oExp (eB semIx (oVar 0 (oExp (eC (.int 0)) oNil))) (oVar 1 oNil))) (gSet 0 (oExp (eC (.int 0)) oNil)))
  (sRet (eMove 2)))) sNil)
  (sSeq (sAsg (eB semAdd (oExp (eB semIx (oVar 0 (oExp (eC (.int 2)) oNil))) (oExp (eC (.int 1)) oNil))) (gSet 0 (oExp (eC (.int 2)) oNil)))
  (sSeq (sAsg (eA semMod (oExp (eA semInt (oExp (eA semPow (oExp (eB semAdd (oExp (eB semIx (oVar 0 (oExp (eC (.int 1)) oNil))) (oExp (eB semMul (oExp (eC (.int 32452867)) (oExp (eB semIx (oVar 0 (oExp (eC (.int 2)) oNil))) oNil))) oNil))) (oExp (eC (.int 3)) oNil))) oNil)) (oExp (eB semAdd (oExp (eA semPow (oExp (eC (.int 10)) (oExp (eC (.int 41)) oNil))) (oExp (eC (.int 147)) oNil))) oNil))) (gN 3))
  (sSeq (sAsg (eA semMod (oExp (eA semInt (oExp (eA semPow (oExp (eB semAdd (oVar 3 (oExp (eB semMul (oExp (eC (.int 15485867)) (oExp (eB semIx (oVar 0 (oExp (eC (.int 2)) oNil))) oNil))) oNil))) (oExp (eC (.int 3)) oNil))) oNil)) (oExp (eB semAdd (oExp (eA semPow (oExp (eC (.int 10)) (oExp (eC (.int 43)) oNil))) (oExp (eC (.int 117)) oNil))) oNil))) (gN 3))
  (sRet (eA semMod (oExp (eA semInt (oExp (eA semDiv (oVar 3 (oExp (eC (.int 1048573)) oNil))) oNil)) (oVar 1 oNil))))))))
@[irreducible] def φ__law_draw : List O → FR := fnSem [false, false] 2 b__law_draw
/-- _law_text(_law_source_here); names ['_law_source_here', '_law_menu', '_law_turn'] -/
def b__law_text : Env → R Fl :=
  (sSeq (sAsg (eB semIx (oExp (eLst (aCons (eC (.str [97,98,122,48,57,45])) (aCons (eC (.str [97,98,126,45,51])) (aCons (eC (.str [97,98,42,42,55])) (aCons (eC (.str [97,42,126,65,32,95,46])) (aCons (eC (.str [97,98,42])) aNil)))))) (oExp (eCall φ__law_draw (oVar 0 (oExp (eC (.int 5)) oNil))) oNil))) (gN 1))
  (sRet (eM mJoin (eC (.str [])) (oExp (eComp [2] (iRd rng1 (oExp (eCall φ__law_draw (oVar 0 (oExp (eC (.int 13)) oNil))) oNil)) (gN 2) tTrue (eB semIx (oVar 1 (oExp (eCall φ__law_draw (oVar 0 (oExp (eA semLen (oVar 1 oNil)) oNil))) oNil)))) oNil))))
@[irreducible] def φ__law_text : List O → FR := fnSem [false] 2 b__law_text
/-- law(_law_script); names ['_law_script', '_law_k', '_law_source_here', '_law_turn', '_law_item'] -/
def b_law : Env → R Fl :=
  (sSeq (sFor (iRd rng1 (oExp (eA semMax2 (oExp (eC (.int 1)) (oExp (eA semMin2 (oExp (eC (.int 4)) (oExp (eA semLen (oVar 0 oNil)) oNil))) oNil))) oNil)) (gN 1) (sSeq (sAsg (eCall φ__law_source (oExp (eB semIx (oExp (eB semAdd (oVar 0 (oExp (eLst (aCons (eC (.int 0)) aNil)) oNil))) (oVar 1 oNil))) (oVar 1 oNil))) (gN 2))
  (sFor (iRd rng1 (oExp (eC (.int 30)) oNil)) (gN 3) (sIf (tNot' (tBool (eCall φ__law_right (oExp (eCall φ__law_text (oVar 2 oNil)) oNil)))) (sRet (eC (.bl false))) sNil))))
  (sSeq (sFor (iVal (eC (.str [97,98,99,100,101,102,103,104,105,106,107,108,109,110,111,112,113,114,115,116,117,118,119,120,121,122,48,49,50,51,52,53,54,55,56,57,45,126,42,65,90,95,46,64,32]))) (gN 4) (sIf (tNot' (tBool (eCall φ__law_right (oVar 4 oNil)))) (sRet (eC (.bl false))) sNil))
  (sSeq (sFor (iVal (eLst (aCons (eC (.str [])) (aCons (eC (.str [42])) (aCons (eC (.str [42,42])) (aCons (eC (.str [126])) (aCons (eB semMul (oExp (eC (.str [97])) (oExp (eC (.int 400)) oNil))) (aCons (eB semMul (oExp (eC (.str [97,126])) (oExp (eC (.int 200)) oNil))) (aCons (eC (.str [97,42,98,99,100,101,42,102])) (aCons (eC (.str [42,97,42,42])) (aCons (eC (.str [65])) (aCons (eC (.str [97,32,98])) (aCons (eC (.str [10])) (aCons (eC (.str [97,10])) (aCons (eC (.str [45])) (aCons (eC (.str [48])) aNil)))))))))))))))) (gN 4) (sIf (tNot' (tBool (eCall φ__law_right (oVar 4 oNil)))) (sRet (eC (.bl false))) sNil))
  (sSeq (sFor (iVal (eLst (aCons (eC .non) (aCons (eC (.bl true)) (aCons (eC (.bl false)) (aCons (eC (.int 0)) (aCons (eC (.int 7)) (aCons (eLst aNil) (aCons (eLst (aCons (eC (.str [97])) aNil)) (aCons (eTup (aCons (eC (.str [97])) aNil)) (aCons eDic0 (aCons (eDic [[97]] (aCons (eC (.str [98])) aNil)) (aCons (eLst (aCons (eLst aNil) aNil)) (aCons (eTup aNil) aNil)))))))))))))) (gN 4) (sIf (tNot' (tBool (eCall φ__law_right (oVar 4 oNil)))) (sRet (eC (.bl false))) sNil))
  (sRet (eC (.bl true)))))))
@[irreducible] def φ_law : List O → FR := fnSem [false] 4 b_law

end PyD.k01
end

section
set_option Elab.async false
set_option linter.all false
set_option maxRecDepth 100000
set_option maxHeartbeats 4000000
namespace PyD.k01
open PySem L2 PySem.Spec PyProof.Rows PyD
def top (i : Nat) : Stmt := PySem.Challenge.pw_plugnames_k01_words_and_patterns_judged.main.body.getD i (.Pass ⟨0, 0, 0, 0⟩)
structure Gs (mg : Str → Option Value) : Prop where
  f_abs : mg "abs" = none
  f_all : mg "all" = none
  f_int : mg "int" = none
  f_isinstance : mg "isinstance" = none
  f_len : mg "len" = none
  f_max : mg "max" = none
  f_min : mg "min" = none
  f_range : mg "range" = none
  f_repr : mg "repr" = none
  f_set : mg "set" = none
  f_sorted : mg "sorted" = none
  f_str : mg "str" = none
  s_FREE : ∃ t, mg "FREE" = some (.str "~" t)
  s_SIGNS : ∃ t, mg "SIGNS" = some (.str "abcdefghijklmnopqrstuvwxyz0123456789-" t)
  s_STAR : ∃ t, mg "STAR" = some (.str "*" t)
section
variable {P : Program} {w : World} {K : PySem.W.Frag} {mg : Str → Option Value} {base : Heap}
theorem nd__law_source : (["_law_cell", "_law_k"] : List Str).Nodup := by decide +kernel
theorem sc__law_source : FnScope ["_law_cell", "_law_k"] ["_law_cell", "_law_k"] (defScope (top 8)) := ⟨rfl, rfl, rfl, nd__law_source, rfl, by decide +kernel, by decide +kernel⟩
theorem d__law_source (G : Gs mg)  {f : Addr} (cdv : Value) (A : Around) (outer : List PySem.Env) (s : Shared) (H : Hp) (E : XK) (hrG : RoomG 0 (A.deeper (envOfC "_law_source" (defScope (top 8)) s.heap.objs.size f cdv))) :
    SndSs 0 (cxOf (L2.CX P w) P w K mg base ["_law_cell", "_law_k"] "_law_source" (defScope (top 8)) f cdv A outer s H E) (prOf [false, false]) (defBody (top 8)) b__law_source :=
  have nd := nd__law_source
  have hr := hrG.r
  (snd_sone (snd_ret (snd_lst (snd_acons (snd_bA (blt G.f_max boot_max (by kernel_rfl) (by decide) (by decide)) (call_max2 rfl) opa_max2 (snd_oexp (snd_c (a := .int 0) pe_int trivial) (snd_oexp (snd_sub (snd_oexp (snd_bA (blt G.f_abs boot_abs (by kernel_rfl) (by decide) (by decide)) call_abs opa_abs (snd_ovar (i := 0) rfl (vis_ok (by kernel_rfl)) snd_nil) ⟨rfl, trivial⟩) (snd_oexp (snd_pow (snd_oexp (snd_c (a := .int 10) pe_int trivial) (snd_oexp (snd_c (a := .int 18) pe_int trivial) snd_nil))) snd_nil))) snd_nil)) ⟨rfl, ⟨rfl, trivial⟩⟩) (snd_acons (snd_add (snd_oexp (snd_add (snd_oexp (snd_mul (snd_oexp (snd_mod (snd_oexp (snd_tyA (blt G.f_int boot_int (by kernel_rfl) (by decide) (by decide)) call_int1 opa_int (snd_oexp (snd_bA (blt G.f_abs boot_abs (by kernel_rfl) (by decide) (by decide)) call_abs opa_abs (snd_ovar (i := 0) rfl (vis_ok (by kernel_rfl)) snd_nil) ⟨rfl, trivial⟩) snd_nil) ⟨rfl, trivial⟩) (snd_oexp (snd_add (snd_oexp (snd_pow (snd_oexp (snd_c (a := .int 10) pe_int trivial) (snd_oexp (snd_c (a := .int 36) pe_int trivial) snd_nil))) (snd_oexp (snd_c (a := .int 67) pe_int trivial) snd_nil))) snd_nil))) (snd_oexp (snd_c (a := .int 127) pe_int trivial) snd_nil))) (snd_oexp (snd_mul (snd_oexp (snd_c (a := .int 1000003) pe_int trivial) (snd_ovar (i := 1) rfl (vis_ok (by kernel_rfl)) snd_nil))) snd_nil))) (snd_oexp (snd_c (a := .int 13) pe_int trivial) snd_nil))) (snd_acons (snd_c (a := .int 0) pe_int trivial) snd_anil))) ⟨rfl, ⟨rfl, ⟨rfl, trivial⟩⟩⟩)))
theorem c__law_source (G : Gs mg)  {f : Addr} {fd : FuncData} (FD : FunD K "_law_source" "_law_source" (defArgs (top 8)) (defBody (top 8)) (defScope (top 8)) [] [] f fd) (hm : mg "_law_source" = some (.ref f)) : Callee P w K mg base "_law_source" 1 ["_law_cell", "_law_k"] φ__law_source :=
  by unfold φ__law_source; exact callee_of FD hm sc__law_source rfl rfl (m := 0) (by kernel_rfl) (fun _ _ _ _ _ _ us hl => match us, hl with | [_,_], _ => rfl) fun cdv A outer s H E hr => d__law_source G  cdv A outer s H E hr
theorem nd__law_due : (["_law_item", "_law_odd", "_law_sign"] : List Str).Nodup := by decide +kernel
theorem sc__law_due : FnScope ["_law_item", "_law_odd", "_law_sign"] ["_law_item"] (defScope (top 11)) := ⟨rfl, rfl, rfl, nd__law_due, rfl, by decide +kernel, by decide +kernel⟩
theorem d__law_due (G : Gs mg)  {f : Addr} (cdv : Value) (A : Around) (outer : List PySem.Env) (s : Shared) (H : Hp) (E : XK) (hrG : RoomG 0 (A.deeper (envOfC "_law_due" (defScope (top 11)) s.heap.objs.size f cdv))) :
    SndSs 0 (cxOf (L2.CX P w) P w K mg base ["_law_item", "_law_odd", "_law_sign"] "_law_due" (defScope (top 11)) f cdv A outer s H E) (prOf [false]) (defBody (top 11)) b__law_due :=
  have nd := nd__law_due
  have hr := hrG.r
  (snd_scons (snd_if (snd_tnot (snd_tval (snd_isi ⟨gl_ok (by kernel_rfl), G.f_isinstance, boot_isinstance, gl_ok (by kernel_rfl), G.f_str, boot_str, by decide, by decide⟩ (snd_ovar (i := 0) rfl (vis_ok (by kernel_rfl)) snd_nil) ⟨rfl, ⟨rfl, trivial⟩⟩))) (snd_sone (snd_ret (snd_lst (snd_acons (snd_c (a := .bl false) pe_bl trivial) (snd_acons (snd_c (a := .bl false) pe_bl trivial) snd_anil)) ⟨rfl, ⟨rfl, trivial⟩⟩))) snd_snil)
  (snd_scons (snd_asg (snd_sortSet (blt G.f_sorted boot_sorted (by kernel_rfl) (by decide) (by decide)) (blt G.f_set boot_set (by kernel_rfl) (by decide) (by decide)) rfl (snd_oexp (snd_comp (own := [("_law_sign", 2)]) rfl nd (snd_ival (snd_var (i := 0) rfl (vis_ok (by kernel_rfl)))) (blk_ok (by kernel_rfl)) (fun _ _ _ _ _ => (snd_gn (i := 2) nd rfl (loc_ok (by kernel_rfl)) rfl)) (fun _ _ _ _ _ => (snd_tsone (snd_tnin hr (snd_ovar (i := 2) rfl (vis_ok (by kernel_rfl)) (snd_oexp (snd_cstr (l := [97,98,99,100,101,102,103,104,105,106,107,108,109,110,111,112,113,114,115,116,117,118,119,120,121,122,48,49,50,51,52,53,54,55,56,57,45]) (by kernel_rfl) (by kernel_rfl)) snd_nil))))) (fun _ _ _ _ _ => (snd_var (i := 2) rfl (vis_ok (by kernel_rfl))))) snd_nil) ⟨rfl, trivial⟩ ⟨rfl, trivial⟩) (snd_gn (i := 1) nd rfl (loc_ok (by kernel_rfl)) rfl))
  (snd_sone (snd_ret (snd_lst (snd_acons (snd_in hr (snd_ovar (i := 1) rfl (vis_ok (by kernel_rfl)) (snd_oexp (snd_tup (snd_acons (snd_lst snd_anil trivial) (snd_acons (snd_lst (snd_acons (snd_cstr (l := [126]) (by kernel_rfl) (by kernel_rfl)) snd_anil) ⟨rfl, trivial⟩) snd_anil)) ⟨rfl, ⟨rfl, trivial⟩⟩) snd_nil))) (snd_acons (snd_and (snd_in hr (snd_ovar (i := 1) rfl (vis_ok (by kernel_rfl)) (snd_oexp (snd_tup (snd_acons (snd_lst snd_anil trivial) (snd_acons (snd_lst (snd_acons (snd_cstr (l := [42]) (by kernel_rfl) (by kernel_rfl)) snd_anil) ⟨rfl, trivial⟩) snd_anil)) ⟨rfl, ⟨rfl, trivial⟩⟩) snd_nil))) (snd_one (snd_eq hr (snd_oexp (snd_meth F.slot_str_count F.type_str_count mt_count opm_count (snd_var (i := 0) rfl (vis_ok (by kernel_rfl))) (snd_oexp (snd_cstr (l := [42,42]) (by kernel_rfl) (by kernel_rfl)) snd_nil) ⟨rfl, trivial⟩) (snd_oexp (snd_c (a := .int 0) pe_int trivial) snd_nil))))) snd_anil)) ⟨rfl, ⟨rfl, trivial⟩⟩)))))
theorem c__law_due (G : Gs mg)  {f : Addr} {fd : FuncData} (FD : FunD K "_law_due" "_law_due" (defArgs (top 11)) (defBody (top 11)) (defScope (top 11)) [] [] f fd) (hm : mg "_law_due" = some (.ref f)) : Callee P w K mg base "_law_due" 1 ["_law_item"] φ__law_due :=
  by unfold φ__law_due; exact callee_of FD hm sc__law_due rfl rfl (m := 0) (by kernel_rfl) (fun _ _ _ _ _ _ us hl => match us, hl with | [_], _ => rfl) fun cdv A outer s H E hr => d__law_due G  cdv A outer s H E hr
theorem nd_is_text_of : (["value", "signs", "sign"] : List Str).Nodup := by decide +kernel
theorem sc_is_text_of : FnScope ["value", "signs", "sign"] ["value", "signs"] (defScope (top 4)) := ⟨rfl, rfl, rfl, nd_is_text_of, rfl, by decide +kernel, by decide +kernel⟩
theorem d_is_text_of (G : Gs mg)  {f : Addr} (cdv : Value) (A : Around) (outer : List PySem.Env) (s : Shared) (H : Hp) (E : XK) (hrG : RoomG 0 (A.deeper (envOfC "is_text_of" (defScope (top 4)) s.heap.objs.size f cdv))) :
    SndSs 0 (cxOf (L2.CX P w) P w K mg base ["value", "signs", "sign"] "is_text_of" (defScope (top 4)) f cdv A outer s H E) (prOf [false, false]) (defBody (top 4)) b_is_text_of :=
  have nd := nd_is_text_of
  have hr := hrG.r
  (snd_sone (snd_ret (snd_and (snd_isi ⟨gl_ok (by kernel_rfl), G.f_isinstance, boot_isinstance, gl_ok (by kernel_rfl), G.f_str, boot_str, by decide, by decide⟩ (snd_ovar (i := 0) rfl (vis_ok (by kernel_rfl)) snd_nil) ⟨rfl, ⟨rfl, trivial⟩⟩) (snd_one (snd_bA (blt G.f_all boot_all (by kernel_rfl) (by decide) (by decide)) (cr_all rfl) opa_all (snd_oexp (snd_comp (own := [("sign", 2)]) rfl nd (snd_ival (snd_var (i := 0) rfl (vis_ok (by kernel_rfl)))) (blk_ok (by kernel_rfl)) (fun _ _ _ _ _ => (snd_gn (i := 2) nd rfl (loc_ok (by kernel_rfl)) rfl)) (fun _ _ _ _ _ => snd_tsnil) (fun _ _ _ _ _ => (snd_in hr (snd_ovar (i := 2) rfl (vis_ok (by kernel_rfl)) (snd_ovar (i := 1) rfl (vis_ok (by kernel_rfl)) snd_nil))))) snd_nil) ⟨rfl, trivial⟩)))))
theorem c_is_text_of (G : Gs mg)  {f : Addr} {fd : FuncData} (FD : FunD K "is_text_of" "is_text_of" (defArgs (top 4)) (defBody (top 4)) (defScope (top 4)) [] [] f fd) (hm : mg "is_text_of" = some (.ref f)) : Callee P w K mg base "is_text_of" 1 ["value", "signs"] φ_is_text_of :=
  by unfold φ_is_text_of; exact callee_of FD hm sc_is_text_of rfl rfl (m := 0) (by kernel_rfl) (fun _ _ _ _ _ _ us hl => match us, hl with | [_,_], _ => rfl) fun cdv A outer s H E hr => d_is_text_of G  cdv A outer s H E hr
theorem nd_is_pattern : (["value"] : List Str).Nodup := by decide +kernel
theorem sc_is_pattern : FnScope ["value"] ["value"] (defScope (top 6)) := ⟨rfl, rfl, rfl, nd_is_pattern, rfl, by decide +kernel, by decide +kernel⟩
theorem d_is_pattern (G : Gs mg) (C_is_text_of : Callee P w K mg base "is_text_of" 1 ["value", "signs"] φ_is_text_of) {f : Addr} (cdv : Value) (A : Around) (outer : List PySem.Env) (s : Shared) (H : Hp) (E : XK) (hrG : RoomG 1 (A.deeper (envOfC "is_pattern" (defScope (top 6)) s.heap.objs.size f cdv))) :
    SndSs 0 (cxOf (L2.CX P w) P w K mg base ["value"] "is_pattern" (defScope (top 6)) f cdv A outer s H E) (prOf [false]) (defBody (top 6)) b_is_pattern :=
  have nd := nd_is_pattern
  have hr := hrG.r
  (snd_sone (snd_ret (snd_and (snd_call C_is_text_of (hrG.mono (by first | decide | omega)) (gl_ok (by kernel_rfl)) (snd_ovar (i := 0) rfl (vis_ok (by kernel_rfl)) (snd_oexp (snd_add (snd_oexp (snd_gs (l := [97,98,99,100,101,102,103,104,105,106,107,108,109,110,111,112,113,114,115,116,117,118,119,120,121,122,48,49,50,51,52,53,54,55,56,57,45]) G.s_SIGNS (by kernel_rfl) (by kernel_rfl) (by kernel_rfl) (by decide)) (snd_oexp (snd_gs (l := [42]) G.s_STAR (by kernel_rfl) (by kernel_rfl) (by kernel_rfl) (by decide)) snd_nil))) snd_nil)) ⟨rfl, ⟨rfl, trivial⟩⟩) (snd_one (snd_nin hr (snd_oexp (snd_add (snd_oexp (snd_gs (l := [42]) G.s_STAR (by kernel_rfl) (by kernel_rfl) (by kernel_rfl) (by decide)) (snd_oexp (snd_gs (l := [42]) G.s_STAR (by kernel_rfl) (by kernel_rfl) (by kernel_rfl) (by decide)) snd_nil))) (snd_ovar (i := 0) rfl (vis_ok (by kernel_rfl)) snd_nil)))))))
theorem c_is_pattern (G : Gs mg) (C_is_text_of : Callee P w K mg base "is_text_of" 1 ["value", "signs"] φ_is_text_of) {f : Addr} {fd : FuncData} (FD : FunD K "is_pattern" "is_pattern" (defArgs (top 6)) (defBody (top 6)) (defScope (top 6)) [] [] f fd) (hm : mg "is_pattern" = some (.ref f)) : Callee P w K mg base "is_pattern" 2 ["value"] φ_is_pattern :=
  by unfold φ_is_pattern; exact callee_of FD hm sc_is_pattern rfl rfl (m := 0) (by kernel_rfl) (fun _ _ _ _ _ _ us hl => match us, hl with | [_], _ => rfl) fun cdv A outer s H E hr => d_is_pattern G C_is_text_of cdv A outer s H E hr
theorem ck_is_pattern_value (G : Gs mg) (C_is_text_of : Callee P w K mg base "is_text_of" 1 ["value", "signs"] φ_is_text_of) {f : Addr} {fd : FuncData} (FD : FunD K "is_pattern" "is_pattern" (defArgs (top 6)) (defBody (top 6)) (defScope (top 6)) [] [] f fd) (hm : mg "is_pattern" = some (.ref f)) : CalleeK P w K mg base "is_pattern" 2 ["value"] φ_is_pattern ["value"] [0] :=
  calleeK_of FD hm (fun _ _ _ _ _ _ ws hl => match ws, hl with | [_], _ => rfl) (by unfold φ_is_pattern; exact fnok_of FD sc_is_pattern rfl rfl (m := 0) (by kernel_rfl) fun cdv A outer s H E hr => d_is_pattern G C_is_text_of cdv A outer s H E hr)
theorem nd_is_word : (["value"] : List Str).Nodup := by decide +kernel
theorem sc_is_word : FnScope ["value"] ["value"] (defScope (top 5)) := ⟨rfl, rfl, rfl, nd_is_word, rfl, by decide +kernel, by decide +kernel⟩
theorem d_is_word (G : Gs mg) (C_is_text_of : Callee P w K mg base "is_text_of" 1 ["value", "signs"] φ_is_text_of) {f : Addr} (cdv : Value) (A : Around) (outer : List PySem.Env) (s : Shared) (H : Hp) (E : XK) (hrG : RoomG 1 (A.deeper (envOfC "is_word" (defScope (top 5)) s.heap.objs.size f cdv))) :
    SndSs 0 (cxOf (L2.CX P w) P w K mg base ["value"] "is_word" (defScope (top 5)) f cdv A outer s H E) (prOf [false]) (defBody (top 5)) b_is_word :=
  have nd := nd_is_word
  have hr := hrG.r
  (snd_sone (snd_ret (snd_call C_is_text_of (hrG.mono (by first | decide | omega)) (gl_ok (by kernel_rfl)) (snd_ovar (i := 0) rfl (vis_ok (by kernel_rfl)) (snd_oexp (snd_add (snd_oexp (snd_gs (l := [97,98,99,100,101,102,103,104,105,106,107,108,109,110,111,112,113,114,115,116,117,118,119,120,121,122,48,49,50,51,52,53,54,55,56,57,45]) G.s_SIGNS (by kernel_rfl) (by kernel_rfl) (by kernel_rfl) (by decide)) (snd_oexp (snd_gs (l := [126]) G.s_FREE (by kernel_rfl) (by kernel_rfl) (by kernel_rfl) (by decide)) snd_nil))) snd_nil)) ⟨rfl, ⟨rfl, trivial⟩⟩)))
theorem c_is_word (G : Gs mg) (C_is_text_of : Callee P w K mg base "is_text_of" 1 ["value", "signs"] φ_is_text_of) {f : Addr} {fd : FuncData} (FD : FunD K "is_word" "is_word" (defArgs (top 5)) (defBody (top 5)) (defScope (top 5)) [] [] f fd) (hm : mg "is_word" = some (.ref f)) : Callee P w K mg base "is_word" 2 ["value"] φ_is_word :=
  by unfold φ_is_word; exact callee_of FD hm sc_is_word rfl rfl (m := 0) (by kernel_rfl) (fun _ _ _ _ _ _ us hl => match us, hl with | [_], _ => rfl) fun cdv A outer s H E hr => d_is_word G C_is_text_of cdv A outer s H E hr
theorem ck_is_word_value (G : Gs mg) (C_is_text_of : Callee P w K mg base "is_text_of" 1 ["value", "signs"] φ_is_text_of) {f : Addr} {fd : FuncData} (FD : FunD K "is_word" "is_word" (defArgs (top 5)) (defBody (top 5)) (defScope (top 5)) [] [] f fd) (hm : mg "is_word" = some (.ref f)) : CalleeK P w K mg base "is_word" 2 ["value"] φ_is_word ["value"] [0] :=
  calleeK_of FD hm (fun _ _ _ _ _ _ ws hl => match ws, hl with | [_], _ => rfl) (by unfold φ_is_word; exact fnok_of FD sc_is_word rfl rfl (m := 0) (by kernel_rfl) fun cdv A outer s H E hr => d_is_word G C_is_text_of cdv A outer s H E hr)
theorem nd__law_right : (["_law_item", "_law_kept", "_law_due_here", "_law_told"] : List Str).Nodup := by decide +kernel
theorem sc__law_right : FnScope ["_law_item", "_law_kept", "_law_due_here", "_law_told"] ["_law_item"] (defScope (top 12)) := ⟨rfl, rfl, rfl, nd__law_right, rfl, by decide +kernel, by decide +kernel⟩
theorem d__law_right (G : Gs mg) (C__law_due : Callee P w K mg base "_law_due" 1 ["_law_item"] φ__law_due) (C_is_pattern : Callee P w K mg base "is_pattern" 2 ["value"] φ_is_pattern) (C_is_word : Callee P w K mg base "is_word" 2 ["value"] φ_is_word) (CK_is_pattern_value : CalleeK P w K mg base "is_pattern" 2 ["value"] φ_is_pattern ["value"] [0]) (CK_is_word_value : CalleeK P w K mg base "is_word" 2 ["value"] φ_is_word ["value"] [0]) {f : Addr} (cdv : Value) (A : Around) (outer : List PySem.Env) (s : Shared) (H : Hp) (E : XK) (hrG : RoomG 2 (A.deeper (envOfC "_law_right" (defScope (top 12)) s.heap.objs.size f cdv))) :
    SndSs 0 (cxOf (L2.CX P w) P w K mg base ["_law_item", "_law_kept", "_law_due_here", "_law_told"] "_law_right" (defScope (top 12)) f cdv A outer s H E) (prOf [false]) (defBody (top 12)) b__law_right :=
  have nd := nd__law_right
  have hr := hrG.r
  (snd_scons (snd_par2 (i := 1) (j := 2) rfl nd rfl rfl (by decide) (by kernel_rfl) (by kernel_rfl) (snd_acons (snd_bA (blt G.f_repr boot_repr (by kernel_rfl) (by decide) (by decide)) (call_reprAll hrG.gd hr.units) opa_repr (snd_ovar (i := 0) rfl (vis_ok (by kernel_rfl)) snd_nil) ⟨rfl, trivial⟩) (snd_acons (snd_call C__law_due (hrG.mono (by first | decide | omega)) (gl_ok (by kernel_rfl)) (snd_ovar (i := 0) rfl (vis_ok (by kernel_rfl)) snd_nil) ⟨rfl, trivial⟩) snd_anil)) ⟨rfl, ⟨rfl, trivial⟩⟩ rfl rfl (by kernel_rfl))
  (snd_scons (snd_asg (snd_lst (snd_acons (snd_call C_is_word (hrG.mono (by first | decide | omega)) (gl_ok (by kernel_rfl)) (snd_ovar (i := 0) rfl (vis_ok (by kernel_rfl)) snd_nil) ⟨rfl, trivial⟩) (snd_acons (snd_call C_is_pattern (hrG.mono (by first | decide | omega)) (gl_ok (by kernel_rfl)) (snd_ovar (i := 0) rfl (vis_ok (by kernel_rfl)) snd_nil) ⟨rfl, trivial⟩) (snd_acons (snd_callK CK_is_word_value (hrG.mono (by first | decide | omega)) (gl_ok (by kernel_rfl)) (snd_ovar (i := 0) rfl (vis_ok (by kernel_rfl)) snd_nil) rfl (by decide) rfl (by kernel_rfl) (by kernel_rfl) (by kernel_rfl)) (snd_acons (snd_callK CK_is_pattern_value (hrG.mono (by first | decide | omega)) (gl_ok (by kernel_rfl)) (snd_ovar (i := 0) rfl (vis_ok (by kernel_rfl)) snd_nil) rfl (by decide) rfl (by kernel_rfl) (by kernel_rfl) (by kernel_rfl)) snd_anil)))) ⟨rfl, ⟨rfl, ⟨rfl, ⟨rfl, trivial⟩⟩⟩⟩) (snd_gn (i := 3) nd rfl (loc_ok (by kernel_rfl)) rfl))
  (snd_sone (snd_ret (snd_and (snd_eq hr (snd_oexp (snd_bA (blt G.f_repr boot_repr (by kernel_rfl) (by decide) (by decide)) (call_reprAll hrG.gd hr.units) opa_repr (snd_ovar (i := 3) rfl (vis_ok (by kernel_rfl)) snd_nil) ⟨rfl, trivial⟩) (snd_oexp (snd_bA (blt G.f_repr boot_repr (by kernel_rfl) (by decide) (by decide)) (call_reprAll hrG.gd hr.units) opa_repr (snd_oexp (snd_add (snd_ovar (i := 2) rfl (vis_ok (by kernel_rfl)) (snd_ovar (i := 2) rfl (vis_ok (by kernel_rfl)) snd_nil))) snd_nil) ⟨rfl, trivial⟩) snd_nil))) (snd_one (snd_eq hr (snd_oexp (snd_bA (blt G.f_repr boot_repr (by kernel_rfl) (by decide) (by decide)) (call_reprAll hrG.gd hr.units) opa_repr (snd_ovar (i := 0) rfl (vis_ok (by kernel_rfl)) snd_nil) ⟨rfl, trivial⟩) (snd_ovar (i := 1) rfl (vis_ok (by kernel_rfl)) snd_nil)))))))))
theorem c__law_right (G : Gs mg) (C__law_due : Callee P w K mg base "_law_due" 1 ["_law_item"] φ__law_due) (C_is_pattern : Callee P w K mg base "is_pattern" 2 ["value"] φ_is_pattern) (C_is_word : Callee P w K mg base "is_word" 2 ["value"] φ_is_word) (CK_is_pattern_value : CalleeK P w K mg base "is_pattern" 2 ["value"] φ_is_pattern ["value"] [0]) (CK_is_word_value : CalleeK P w K mg base "is_word" 2 ["value"] φ_is_word ["value"] [0]) {f : Addr} {fd : FuncData} (FD : FunD K "_law_right" "_law_right" (defArgs (top 12)) (defBody (top 12)) (defScope (top 12)) [] [] f fd) (hm : mg "_law_right" = some (.ref f)) : Callee P w K mg base "_law_right" 3 ["_law_item"] φ__law_right :=
  by unfold φ__law_right; exact callee_of FD hm sc__law_right rfl rfl (m := 0) (by kernel_rfl) (fun _ _ _ _ _ _ us hl => match us, hl with | [_], _ => rfl) fun cdv A outer s H E hr => d__law_right G C__law_due C_is_pattern C_is_word CK_is_pattern_value CK_is_word_value cdv A outer s H E hr
theorem nd__law_draw : (["_law_source_here", "_law_many", "_law_digit", "_law_mixed"] : List Str).Nodup := by decide +kernel
theorem sc__law_draw : FnScope ["_law_source_here", "_law_many", "_law_digit", "_law_mixed"] ["_law_source_here", "_law_many"] (defScope (top 9)) := ⟨rfl, rfl, rfl, nd__law_draw, rfl, by decide +kernel, by decide +kernel⟩
theorem d__law_draw (G : Gs mg)  {f : Addr} (cdv : Value) (A : Around) (outer : List PySem.Env) (s : Shared) (H : Hp) (E : XK) (hrG : RoomG 0 (A.deeper (envOfC "_law_draw" (defScope (top 9)) s.heap.objs.size f cdv))) :
    SndSs 0 (cxOf (L2.CX P w) P w K mg base ["_law_source_here", "_law_many", "_law_digit", "_law_mixed"] "_law_draw" (defScope (top 9)) f cdv A outer s H E) (prOf [false, false]) (defBody (top 9)) b__law_draw :=
  have nd := nd__law_draw
  have hr := hrG.r
  (snd_scons (snd_if (snd_tord op_gtO nomark (snd_oexp (snd_ix hr (snd_ovar (i := 0) rfl (vis_ok (by kernel_rfl)) (snd_oexp (snd_c (a := .int 0) pe_int trivial) snd_nil))) (snd_oexp (snd_c (a := .int 0) pe_int trivial) snd_nil))) (snd_scons (snd_asg (snd_mod (snd_oexp (snd_tyA (blt G.f_int boot_int (by kernel_rfl) (by decide) (by decide)) call_int1 opa_int (snd_oexp (snd_ix hr (snd_ovar (i := 0) rfl (vis_ok (by kernel_rfl)) (snd_oexp (snd_c (a := .int 0) pe_int trivial) snd_nil))) snd_nil) ⟨rfl, trivial⟩) (snd_ovar (i := 1) rfl (vis_ok (by kernel_rfl)) snd_nil))) (snd_gn (i := 2) nd rfl (loc_ok (by kernel_rfl)) rfl))
  (snd_scons (snd_asg (snd_div (snd_oexp (snd_ix hr (snd_ovar (i := 0) rfl (vis_ok (by kernel_rfl)) (snd_oexp (snd_c (a := .int 0) pe_int trivial) snd_nil))) (snd_ovar (i := 1) rfl (vis_ok (by kernel_rfl)) snd_nil))) (snd_gset (i := 0) hr rfl (vis_ok (by kernel_rfl)) (snd_oexp (snd_c (a := .int 0) pe_int trivial) snd_nil)))
  (snd_sone (snd_ret (snd_move (i := 2) rfl (vis_ok (by kernel_rfl))))))) snd_snil)
  (snd_scons (snd_asg (snd_add (snd_oexp (snd_ix hr (snd_ovar (i := 0) rfl (vis_ok (by kernel_rfl)) (snd_oexp (snd_c (a := .int 2) pe_int trivial) snd_nil))) (snd_oexp (snd_c (a := .int 1) pe_int trivial) snd_nil))) (snd_gset (i := 0) hr rfl (vis_ok (by kernel_rfl)) (snd_oexp (snd_c (a := .int 2) pe_int trivial) snd_nil)))
  (snd_scons (snd_asg (snd_mod (snd_oexp (snd_tyA (blt G.f_int boot_int (by kernel_rfl) (by decide) (by decide)) call_int1 opa_int (snd_oexp (snd_pow (snd_oexp (snd_add (snd_oexp (snd_ix hr (snd_ovar (i := 0) rfl (vis_ok (by kernel_rfl)) (snd_oexp (snd_c (a := .int 1) pe_int trivial) snd_nil))) (snd_oexp (snd_mul (snd_oexp (snd_c (a := .int 32452867) pe_int trivial) (snd_oexp (snd_ix hr (snd_ovar (i := 0) rfl (vis_ok (by kernel_rfl)) (snd_oexp (snd_c (a := .int 2) pe_int trivial) snd_nil))) snd_nil))) snd_nil))) (snd_oexp (snd_c (a := .int 3) pe_int trivial) snd_nil))) snd_nil) ⟨rfl, trivial⟩) (snd_oexp (snd_add (snd_oexp (snd_pow (snd_oexp (snd_c (a := .int 10) pe_int trivial) (snd_oexp (snd_c (a := .int 41) pe_int trivial) snd_nil))) (snd_oexp (snd_c (a := .int 147) pe_int trivial) snd_nil))) snd_nil))) (snd_gn (i := 3) nd rfl (loc_ok (by kernel_rfl)) rfl))
  (snd_scons (snd_asg (snd_mod (snd_oexp (snd_tyA (blt G.f_int boot_int (by kernel_rfl) (by decide) (by decide)) call_int1 opa_int (snd_oexp (snd_pow (snd_oexp (snd_add (snd_ovar (i := 3) rfl (vis_ok (by kernel_rfl)) (snd_oexp (snd_mul (snd_oexp (snd_c (a := .int 15485867) pe_int trivial) (snd_oexp (snd_ix hr (snd_ovar (i := 0) rfl (vis_ok (by kernel_rfl)) (snd_oexp (snd_c (a := .int 2) pe_int trivial) snd_nil))) snd_nil))) snd_nil))) (snd_oexp (snd_c (a := .int 3) pe_int trivial) snd_nil))) snd_nil) ⟨rfl, trivial⟩) (snd_oexp (snd_add (snd_oexp (snd_pow (snd_oexp (snd_c (a := .int 10) pe_int trivial) (snd_oexp (snd_c (a := .int 43) pe_int trivial) snd_nil))) (snd_oexp (snd_c (a := .int 117) pe_int trivial) snd_nil))) snd_nil))) (snd_gn (i := 3) nd rfl (loc_ok (by kernel_rfl)) rfl))
  (snd_sone (snd_ret (snd_mod (snd_oexp (snd_tyA (blt G.f_int boot_int (by kernel_rfl) (by decide) (by decide)) call_int1 opa_int (snd_oexp (snd_div (snd_ovar (i := 3) rfl (vis_ok (by kernel_rfl)) (snd_oexp (snd_c (a := .int 1048573) pe_int trivial) snd_nil))) snd_nil) ⟨rfl, trivial⟩) (snd_ovar (i := 1) rfl (vis_ok (by kernel_rfl)) snd_nil)))))))))
theorem c__law_draw (G : Gs mg)  {f : Addr} {fd : FuncData} (FD : FunD K "_law_draw" "_law_draw" (defArgs (top 9)) (defBody (top 9)) (defScope (top 9)) [] [] f fd) (hm : mg "_law_draw" = some (.ref f)) : Callee P w K mg base "_law_draw" 1 ["_law_source_here", "_law_many"] φ__law_draw :=
  by unfold φ__law_draw; exact callee_of FD hm sc__law_draw rfl rfl (m := 0) (by kernel_rfl) (fun _ _ _ _ _ _ us hl => match us, hl with | [_,_], _ => rfl) fun cdv A outer s H E hr => d__law_draw G  cdv A outer s H E hr
theorem nd__law_text : (["_law_source_here", "_law_menu", "_law_turn"] : List Str).Nodup := by decide +kernel
theorem sc__law_text : FnScope ["_law_source_here", "_law_menu", "_law_turn"] ["_law_source_here"] (defScope (top 10)) := ⟨rfl, rfl, rfl, nd__law_text, rfl, by decide +kernel, by decide +kernel⟩
theorem d__law_text (G : Gs mg) (C__law_draw : Callee P w K mg base "_law_draw" 1 ["_law_source_here", "_law_many"] φ__law_draw) {f : Addr} (cdv : Value) (A : Around) (outer : List PySem.Env) (s : Shared) (H : Hp) (E : XK) (hrG : RoomG 1 (A.deeper (envOfC "_law_text" (defScope (top 10)) s.heap.objs.size f cdv))) :
    SndSs 0 (cxOf (L2.CX P w) P w K mg base ["_law_source_here", "_law_menu", "_law_turn"] "_law_text" (defScope (top 10)) f cdv A outer s H E) (prOf [false]) (defBody (top 10)) b__law_text :=
  have nd := nd__law_text
  have hr := hrG.r
  (snd_scons (snd_asg (snd_ix hr (snd_oexp (snd_lst (snd_acons (snd_cstr (l := [97,98,122,48,57,45]) (by kernel_rfl) (by kernel_rfl)) (snd_acons (snd_cstr (l := [97,98,126,45,51]) (by kernel_rfl) (by kernel_rfl)) (snd_acons (snd_cstr (l := [97,98,42,42,55]) (by kernel_rfl) (by kernel_rfl)) (snd_acons (snd_cstr (l := [97,42,126,65,32,95,46]) (by kernel_rfl) (by kernel_rfl)) (snd_acons (snd_cstr (l := [97,98,42]) (by kernel_rfl) (by kernel_rfl)) snd_anil))))) ⟨rfl, ⟨rfl, ⟨rfl, ⟨rfl, ⟨rfl, trivial⟩⟩⟩⟩⟩) (snd_oexp (snd_call C__law_draw (hrG.mono (by first | decide | omega)) (gl_ok (by kernel_rfl)) (snd_ovar (i := 0) rfl (vis_ok (by kernel_rfl)) (snd_oexp (snd_c (a := .int 5) pe_int trivial) snd_nil)) ⟨rfl, ⟨rfl, trivial⟩⟩) snd_nil))) (snd_gn (i := 1) nd rfl (loc_ok (by kernel_rfl)) rfl))
  (snd_sone (snd_ret (snd_meth F.slot_str_join F.type_str_join mt_join opm_join (snd_cstr (l := []) (by kernel_rfl) (by kernel_rfl)) (snd_oexp (snd_comp (own := [("_law_turn", 2)]) rfl nd (snd_irng1 (gl_ok (by kernel_rfl)) G.f_range (snd_oexp (snd_call C__law_draw (hrG.mono (by first | decide | omega)) (gl_ok (by kernel_rfl)) (snd_ovar (i := 0) rfl (vis_ok (by kernel_rfl)) (snd_oexp (snd_c (a := .int 13) pe_int trivial) snd_nil)) ⟨rfl, ⟨rfl, trivial⟩⟩) snd_nil) ⟨rfl, trivial⟩) (blk_ok (by kernel_rfl)) (fun _ _ _ _ _ => (snd_gn (i := 2) nd rfl (loc_ok (by kernel_rfl)) rfl)) (fun _ _ _ _ _ => snd_tsnil) (fun _ _ _ _ _ => (snd_ix hr (snd_ovar (i := 1) rfl (vis_ok (by kernel_rfl)) (snd_oexp (snd_call C__law_draw (hrG.mono (by first | decide | omega)) (gl_ok (by kernel_rfl)) (snd_ovar (i := 0) rfl (vis_ok (by kernel_rfl)) (snd_oexp (snd_bA (blt G.f_len boot_len (by kernel_rfl) (by decide) (by decide)) op_lenAll opa_len (snd_ovar (i := 1) rfl (vis_ok (by kernel_rfl)) snd_nil) ⟨rfl, trivial⟩) snd_nil)) ⟨rfl, ⟨rfl, trivial⟩⟩) snd_nil))))) snd_nil) ⟨rfl, trivial⟩))))
theorem c__law_text (G : Gs mg) (C__law_draw : Callee P w K mg base "_law_draw" 1 ["_law_source_here", "_law_many"] φ__law_draw) {f : Addr} {fd : FuncData} (FD : FunD K "_law_text" "_law_text" (defArgs (top 10)) (defBody (top 10)) (defScope (top 10)) [] [] f fd) (hm : mg "_law_text" = some (.ref f)) : Callee P w K mg base "_law_text" 2 ["_law_source_here"] φ__law_text :=
  by unfold φ__law_text; exact callee_of FD hm sc__law_text rfl rfl (m := 0) (by kernel_rfl) (fun _ _ _ _ _ _ us hl => match us, hl with | [_], _ => rfl) fun cdv A outer s H E hr => d__law_text G C__law_draw cdv A outer s H E hr
theorem nd_law : (["_law_script", "_law_k", "_law_source_here", "_law_turn", "_law_item"] : List Str).Nodup := by decide +kernel
theorem sc_law : FnScope ["_law_script", "_law_k", "_law_source_here", "_law_turn", "_law_item"] ["_law_script"] (defScope (top 13)) := ⟨rfl, rfl, rfl, nd_law, rfl, by decide +kernel, by decide +kernel⟩
theorem d_law (G : Gs mg) (C__law_source : Callee P w K mg base "_law_source" 1 ["_law_cell", "_law_k"] φ__law_source) (C__law_right : Callee P w K mg base "_law_right" 3 ["_law_item"] φ__law_right) (C__law_text : Callee P w K mg base "_law_text" 2 ["_law_source_here"] φ__law_text) {f : Addr} (cdv : Value) (A : Around) (outer : List PySem.Env) (s : Shared) (H : Hp) (E : XK) (hrG : RoomG 3 (A.deeper (envOfC "law" (defScope (top 13)) s.heap.objs.size f cdv))) :
    SndSs 0 (cxOf (L2.CX P w) P w K mg base ["_law_script", "_law_k", "_law_source_here", "_law_turn", "_law_item"] "law" (defScope (top 13)) f cdv A outer s H E) (prOf [false]) (defBody (top 13)) b_law :=
  have nd := nd_law
  have hr := hrG.r
  (snd_scons (snd_for (passes_of rfl) rfl (snd_irng1 (gl_ok (by kernel_rfl)) G.f_range (snd_oexp (snd_bA (blt G.f_max boot_max (by kernel_rfl) (by decide) (by decide)) (call_max2 rfl) opa_max2 (snd_oexp (snd_c (a := .int 1) pe_int trivial) (snd_oexp (snd_bA (blt G.f_min boot_min (by kernel_rfl) (by decide) (by decide)) (call_min2 rfl) opa_min2 (snd_oexp (snd_c (a := .int 4) pe_int trivial) (snd_oexp (snd_bA (blt G.f_len boot_len (by kernel_rfl) (by decide) (by decide)) op_lenAll opa_len (snd_ovar (i := 0) rfl (vis_ok (by kernel_rfl)) snd_nil) ⟨rfl, trivial⟩) snd_nil)) ⟨rfl, ⟨rfl, trivial⟩⟩) snd_nil)) ⟨rfl, ⟨rfl, trivial⟩⟩) snd_nil) ⟨rfl, trivial⟩) (snd_gn (i := 1) nd rfl (loc_ok (by kernel_rfl)) rfl) (snd_scons (snd_asg (snd_call C__law_source (hrG.mono (by first | decide | omega)) (gl_ok (by kernel_rfl)) (snd_oexp (snd_ix hr (snd_oexp (snd_add (snd_ovar (i := 0) rfl (vis_ok (by kernel_rfl)) (snd_oexp (snd_lst (snd_acons (snd_c (a := .int 0) pe_int trivial) snd_anil) ⟨rfl, trivial⟩) snd_nil))) (snd_ovar (i := 1) rfl (vis_ok (by kernel_rfl)) snd_nil))) (snd_ovar (i := 1) rfl (vis_ok (by kernel_rfl)) snd_nil)) ⟨rfl, ⟨rfl, trivial⟩⟩) (snd_gn (i := 2) nd rfl (loc_ok (by kernel_rfl)) rfl))
  (snd_sone (snd_for (passes_of rfl) rfl (snd_irng1 (gl_ok (by kernel_rfl)) G.f_range (snd_oexp (snd_c (a := .int 30) pe_int trivial) snd_nil) ⟨rfl, trivial⟩) (snd_gn (i := 3) nd rfl (loc_ok (by kernel_rfl)) rfl) (snd_sone (snd_if (snd_tnot (snd_tval (snd_call C__law_right (hrG.mono (by first | decide | omega)) (gl_ok (by kernel_rfl)) (snd_oexp (snd_call C__law_text (hrG.mono (by first | decide | omega)) (gl_ok (by kernel_rfl)) (snd_ovar (i := 2) rfl (vis_ok (by kernel_rfl)) snd_nil) ⟨rfl, trivial⟩) snd_nil) ⟨rfl, trivial⟩))) (snd_sone (snd_ret (snd_c (a := .bl false) pe_bl trivial))) snd_snil))))))
  (snd_scons (snd_for (passes_of rfl) rfl (snd_ival (snd_cstr (l := [97,98,99,100,101,102,103,104,105,106,107,108,109,110,111,112,113,114,115,116,117,118,119,120,121,122,48,49,50,51,52,53,54,55,56,57,45,126,42,65,90,95,46,64,32]) (by kernel_rfl) (by kernel_rfl))) (snd_gn (i := 4) nd rfl (loc_ok (by kernel_rfl)) rfl) (snd_sone (snd_if (snd_tnot (snd_tval (snd_call C__law_right (hrG.mono (by first | decide | omega)) (gl_ok (by kernel_rfl)) (snd_ovar (i := 4) rfl (vis_ok (by kernel_rfl)) snd_nil) ⟨rfl, trivial⟩))) (snd_sone (snd_ret (snd_c (a := .bl false) pe_bl trivial))) snd_snil)))
  (snd_scons (snd_for (passes_of rfl) rfl (snd_ival (snd_lst (snd_acons (snd_cstr (l := []) (by kernel_rfl) (by kernel_rfl)) (snd_acons (snd_cstr (l := [42]) (by kernel_rfl) (by kernel_rfl)) (snd_acons (snd_cstr (l := [42,42]) (by kernel_rfl) (by kernel_rfl)) (snd_acons (snd_cstr (l := [126]) (by kernel_rfl) (by kernel_rfl)) (snd_acons (snd_mul (snd_oexp (snd_cstr (l := [97]) (by kernel_rfl) (by kernel_rfl)) (snd_oexp (snd_c (a := .int 400) pe_int trivial) snd_nil))) (snd_acons (snd_mul (snd_oexp (snd_cstr (l := [97,126]) (by kernel_rfl) (by kernel_rfl)) (snd_oexp (snd_c (a := .int 200) pe_int trivial) snd_nil))) (snd_acons (snd_cstr (l := [97,42,98,99,100,101,42,102]) (by kernel_rfl) (by kernel_rfl)) (snd_acons (snd_cstr (l := [42,97,42,42]) (by kernel_rfl) (by kernel_rfl)) (snd_acons (snd_cstr (l := [65]) (by kernel_rfl) (by kernel_rfl)) (snd_acons (snd_cstr (l := [97,32,98]) (by kernel_rfl) (by kernel_rfl)) (snd_acons (snd_cstr (l := [10]) (by kernel_rfl) (by kernel_rfl)) (snd_acons (snd_cstr (l := [97,10]) (by kernel_rfl) (by kernel_rfl)) (snd_acons (snd_cstr (l := [45]) (by kernel_rfl) (by kernel_rfl)) (snd_acons (snd_cstr (l := [48]) (by kernel_rfl) (by kernel_rfl)) snd_anil)))))))))))))) ⟨rfl, ⟨rfl, ⟨rfl, ⟨rfl, ⟨rfl, ⟨rfl, ⟨rfl, ⟨rfl, ⟨rfl, ⟨rfl, ⟨rfl, ⟨rfl, ⟨rfl, ⟨rfl, trivial⟩⟩⟩⟩⟩⟩⟩⟩⟩⟩⟩⟩⟩⟩)) (snd_gn (i := 4) nd rfl (loc_ok (by kernel_rfl)) rfl) (snd_sone (snd_if (snd_tnot (snd_tval (snd_call C__law_right (hrG.mono (by first | decide | omega)) (gl_ok (by kernel_rfl)) (snd_ovar (i := 4) rfl (vis_ok (by kernel_rfl)) snd_nil) ⟨rfl, trivial⟩))) (snd_sone (snd_ret (snd_c (a := .bl false) pe_bl trivial))) snd_snil)))
  (snd_scons (snd_for (passes_of rfl) rfl (snd_ival (snd_lst (snd_acons (snd_c (a := .non) pe_non trivial) (snd_acons (snd_c (a := .bl true) pe_bl trivial) (snd_acons (snd_c (a := .bl false) pe_bl trivial) (snd_acons (snd_c (a := .int 0) pe_int trivial) (snd_acons (snd_c (a := .int 7) pe_int trivial) (snd_acons (snd_lst snd_anil trivial) (snd_acons (snd_lst (snd_acons (snd_cstr (l := [97]) (by kernel_rfl) (by kernel_rfl)) snd_anil) ⟨rfl, trivial⟩) (snd_acons (snd_tup (snd_acons (snd_cstr (l := [97]) (by kernel_rfl) (by kernel_rfl)) snd_anil) ⟨rfl, trivial⟩) (snd_acons snd_dic0 (snd_acons (snd_dic (.cons (l := [97]) (by kernel_rfl) .nil) rfl (by simp) (snd_acons (snd_cstr (l := [98]) (by kernel_rfl) (by kernel_rfl)) snd_anil)) (snd_acons (snd_lst (snd_acons (snd_lst snd_anil trivial) snd_anil) ⟨rfl, trivial⟩) (snd_acons (snd_tup snd_anil trivial) snd_anil)))))))))))) ⟨rfl, ⟨rfl, ⟨rfl, ⟨rfl, ⟨rfl, ⟨rfl, ⟨rfl, ⟨rfl, ⟨rfl, ⟨rfl, ⟨rfl, ⟨rfl, trivial⟩⟩⟩⟩⟩⟩⟩⟩⟩⟩⟩⟩)) (snd_gn (i := 4) nd rfl (loc_ok (by kernel_rfl)) rfl) (snd_sone (snd_if (snd_tnot (snd_tval (snd_call C__law_right (hrG.mono (by first | decide | omega)) (gl_ok (by kernel_rfl)) (snd_ovar (i := 4) rfl (vis_ok (by kernel_rfl)) snd_nil) ⟨rfl, trivial⟩))) (snd_sone (snd_ret (snd_c (a := .bl false) pe_bl trivial))) snd_snil)))
  (snd_sone (snd_ret (snd_c (a := .bl true) pe_bl trivial)))))))
theorem c_law (G : Gs mg) (C__law_source : Callee P w K mg base "_law_source" 1 ["_law_cell", "_law_k"] φ__law_source) (C__law_right : Callee P w K mg base "_law_right" 3 ["_law_item"] φ__law_right) (C__law_text : Callee P w K mg base "_law_text" 2 ["_law_source_here"] φ__law_text) {f : Addr} {fd : FuncData} (FD : FunD K "law" "law" (defArgs (top 13)) (defBody (top 13)) (defScope (top 13)) [] [] f fd) (hm : mg "law" = some (.ref f)) : Callee P w K mg base "law" 4 ["_law_script"] φ_law :=
  by unfold φ_law; exact callee_of FD hm sc_law rfl rfl (m := 0) (by kernel_rfl) (fun _ _ _ _ _ _ us hl => match us, hl with | [_], _ => rfl) fun cdv A outer s H E hr => d_law G C__law_source C__law_right C__law_text cdv A outer s H E hr
end

end PyD.k01
end

section
set_option Elab.async false
set_option linter.all false
set_option maxRecDepth 100000
namespace PyD
open PySem L2
/-! ### what holds behind a reading -/
abbrev WXK := Str → List D → Env → Prop
abbrev WXF := Str → List D → List O → Prop
def wpR {α : Type} (r : R α) (Q : α → Env → Prop) (X : WXK) : Prop := match r with
  | .ok a e => Q a e
  | .exc c ds e => X c ds e
  | .bad => False
def wpF (r : FR) (Q : O → List O → Prop) (X : WXF) : Prop := match r with
  | .ret o outs => Q o outs
  | .exc c ds outs => X c ds outs
  | .bad => False
def okO {α : Type} (r : Option α) (Q : α → Prop) : Prop := match r with
  | some a => Q a
  | none => False
def okSl (r : Option (Option O)) (Q : Prop) : Prop := match r with
  | some (some _) => Q
  | _ => False
def noX : WXK := fun _ _ _ => False
def noF : WXF := fun _ _ _ => False
theorem wpR_ok {α : Type} {a : α} {e : Env} {Q : α → Env → Prop} {X : WXK} : wpR (.ok a e) Q X ↔ Q a e := Iff.rfl
theorem wpR_exc {α : Type} {c : Str} {ds : List D} {e : Env} {Q : α → Env → Prop} {X : WXK} : wpR (.exc c ds e) Q X ↔ X c ds e := Iff.rfl
theorem wpF_ret {o : O} {outs : List O} {Q : O → List O → Prop} {X : WXF} : wpF (.ret o outs) Q X ↔ Q o outs := Iff.rfl
theorem wpF_exc {c : Str} {ds : List D} {outs : List O} {Q : O → List O → Prop} {X : WXF} : wpF (.exc c ds outs) Q X ↔ X c ds outs := Iff.rfl
theorem okO_some {α : Type} {a : α} {Q : α → Prop} : okO (some a) Q ↔ Q a := Iff.rfl
def kMap {α β : Type} (f : α → β) (Q : β → Prop) : α → Prop := fun a => Q (f a)
def kBind {α β : Type} (f : α → Option β) (Q : β → Prop) : α → Prop := fun a => okO (f a) Q
theorem okO_map {α β : Type} {r : Option α} {f : α → β} {Q : β → Prop} : okO (r.map f) Q ↔ okO r (kMap f Q) := by cases r <;> exact Iff.rfl
theorem okO_bind {α β : Type} {r : Option α} {f : α → Option β} {Q : β → Prop} : okO (r.bind f) Q ↔ okO r (kBind f Q) := by cases r <;> exact Iff.rfl
def kBody {α : Type} (b : Env → R α) (Q : α → Env → Prop) (X : WXK) : Env → Prop := fun e => wpR (b e) Q X
def kItems (Q : List O → Env → Prop) (e : Env) : List O → Prop := fun os => Q os e
theorem okSl_some {o : O} {Q : Prop} : okSl (some (some o)) Q ↔ Q := Iff.rfl
theorem wpR_mono {α : Type} {r : R α} {Q Q' : α → Env → Prop} {X X' : WXK} (h : wpR r Q X) (q : ∀ a e, Q a e → Q' a e) (x : ∀ c ds e, X c ds e → X' c ds e) : wpR r Q' X' := by
  cases r with
  | ok a e => exact q _ _ h
  | exc c ds e => exact x _ _ _ h
  | bad => exact h
theorem wpF_mono {r : FR} {Q Q' : O → List O → Prop} {X X' : WXF} (h : wpF r Q X) (q : ∀ a e, Q a e → Q' a e) (x : ∀ c ds e, X c ds e → X' c ds e) : wpF r Q' X' := by
  cases r with
  | ret a e => exact q _ _ h
  | exc c ds e => exact x _ _ _ h
  | bad => exact h
/-- a call that ends well -/
theorem wpF_use {r : FR} {Q Q' : O → List O → Prop} {X' : WXF} (h : wpF r Q noF) (q : ∀ a e, Q a e → Q' a e) : wpF r Q' X' := wpF_mono h q fun _ _ _ z => z.elim
theorem wpR_use {α : Type} {r : R α} {Q Q' : α → Env → Prop} {X' : WXK} (h : wpR r Q noX) (q : ∀ a e, Q a e → Q' a e) : wpR r Q' X' := wpR_mono h q fun _ _ _ z => z.elim
theorem wpF_eq {r : FR} {o : O} {outs : List O} (h : wpF r (fun a b => a = o ∧ b = outs) noF) : r = .ret o outs := by
  cases r with
  | ret a e => obtain ⟨rfl, rfl⟩ := h; rfl
  | exc c ds e => exact h.elim
  | bad => exact h.elim
theorem wpF_ex {r : FR} {Q : O → List O → Prop} (h : wpF r Q noF) : ∃ o outs, r = .ret o outs ∧ Q o outs := by
  cases r with
  | ret a e => exact ⟨a, e, rfl, h⟩
  | exc c ds e => exact h.elim
  | bad => exact h.elim
/-! operands -/
def kOV (i : Nat) (Q : List Opd → Env → Prop) : List Opd → Env → Prop := fun ops e => Q (.v i :: ops) e
def kOE2 (o : O) (Q : List Opd → Env → Prop) : List Opd → Env → Prop := fun ops e => Q (.t o :: ops) e
def kOE (r : Env → R (List Opd)) (Q : List Opd → Env → Prop) (X : WXK) : O → Env → Prop := fun o e => wpR (r e) (kOE2 o Q) X
def kA2 (Q : O → Env → Prop) (e : Env) : At → Prop := fun a => Q (.fz a.d) e
def kA1 (sem : List D → Option At) (Q : O → Env → Prop) (e : Env) : List D → Prop := fun ds => okO (sem ds) (kA2 Q e)
def kA (sem : List D → Option At) (Q : O → Env → Prop) : List Opd → Env → Prop := fun ops e => okO (resA e ops) (kA1 sem Q e)
def kB2 (Q : O → Env → Prop) (e : Env) : O → Prop := fun o => Q o e
def kB1 (sem : List D → Option O) (Q : O → Env → Prop) : List D × Env → Prop := fun p => okO (sem p.1) (kB2 Q p.2)
def kB (sem : List D → Option O) (Q : O → Env → Prop) : List Opd → Env → Prop := fun ops e => okO (resB e ops) (kB1 sem Q)
section
variable {α : Type} {env e : Env} {X : WXK}
theorem wp_oNil {Q} : wpR (oNil env) Q X ↔ Q [] env := Iff.rfl
theorem wp_oVar {i r} {Q} : wpR (oVar i r env) Q X ↔ okSl env[i]? (wpR (r env) (kOV i Q) X) := by
  unfold oVar
  cases h : env[i]? with
  | none => exact Iff.rfl
  | some x => cases x with
    | none => exact Iff.rfl
    | some o => cases h2 : r env <;> simp [h2, wpR, okSl, kOV]
theorem wp_oExp {f r} {Q} : wpR (oExp f r env) Q X ↔ wpR (f env) (kOE r Q X) X := by
  unfold oExp
  cases h : f env with
  | ok o e1 => cases h2 : r e1 <;> simp [h2, wpR, kOE, kOE2]
  | exc c ds e => exact Iff.rfl
  | bad => exact Iff.rfl
theorem wp_eA {sem f} {Q} : wpR (eA sem f env) Q X ↔ wpR (f env) (kA sem Q) X := by
  unfold eA
  cases h : f env with
  | ok ops e =>
    cases h1 : resA e ops with
    | none => simp [h1, wpR, kA, okO]
    | some ds => cases h2 : sem ds <;> simp [h1, h2, wpR, kA, kA1, kA2, okO]
  | exc c ds e => exact Iff.rfl
  | bad => exact Iff.rfl
theorem wp_eB {sem f} {Q} : wpR (eB sem f env) Q X ↔ wpR (f env) (kB sem Q) X := by
  unfold eB
  cases h : f env with
  | ok ops e =>
    cases h1 : resB e ops with
    | none => simp [h1, wpR, kB, okO]
    | some ds => cases h2 : sem ds.1 <;> simp [h1, h2, wpR, kB, kB1, kB2, okO]
  | exc c ds e => exact Iff.rfl
  | bad => exact Iff.rfl
theorem wp_eC {a : At} {Q} : wpR (eC a env) Q X ↔ Q (.fz a.d) env := Iff.rfl
/-! a name as a value: frozen -/
def kVar (i : Nat) (env : Env) (Q : O → Env → Prop) : Option (Option O) → Prop
  | some (some (.fz d)) => Q (.fz d) env
  | some (some (.lst os)) => Q (.fz (.lst (O.erases os))) (env.set i (some (.fz (.lst (O.erases os)))))
  | some (some (.tup os)) => Q (.fz (.tup (O.erases os))) (env.set i (some (.fz (.tup (O.erases os)))))
  | some (some (.dic os)) => Q (.fz (.dic (O.eraseK os))) (env.set i (some (.fz (.dic (O.eraseK os)))))
  | _ => False
theorem wp_eVar {i} {Q} : wpR (eVar i env) Q X ↔ kVar i env Q env[i]? := by
  unfold eVar
  cases h : env[i]? with
  | none => exact Iff.rfl
  | some x => cases x with
    | none => exact Iff.rfl
    | some o => cases o <;> simp [wpR, kVar, O.erase]
def kMove (i : Nat) (env : Env) (Q : O → Env → Prop) : Option (Option O) → Prop
  | some (some o) => Q o (env.set i none)
  | _ => False
theorem wp_eMove {i} {Q} : wpR (eMove i env) Q X ↔ kMove i env Q env[i]? := by
  unfold eMove
  cases h : env[i]? with
  | none => exact Iff.rfl
  | some x => cases x with
    | none => exact Iff.rfl
    | some o => exact Iff.rfl
/-! displays -/
def kL (Q : O → Env → Prop) : List O → Env → Prop := fun os e => os.length ≤ 1000000 ∧ Q (.lst os) e
def kT (Q : O → Env → Prop) : List O → Env → Prop := fun os e => os.length ≤ 1000000 ∧ Q (.tup os) e
def kAC2 (o : O) (Q : List O → Env → Prop) : List O → Env → Prop := fun os e => Q (o :: os) e
def kAC (r : Env → R (List O)) (Q : List O → Env → Prop) (X : WXK) : O → Env → Prop := fun o e => wpR (r e) (kAC2 o Q) X
theorem wp_eLst {f} {Q} : wpR (eLst f env) Q X ↔ wpR (f env) (kL Q) X := by
  unfold eLst
  cases h : f env with
  | ok os e => by_cases hl : os.length ≤ 1000000 <;> simp [hl, wpR, kL]
  | exc c ds e => exact Iff.rfl
  | bad => exact Iff.rfl
theorem wp_eTup {f} {Q} : wpR (eTup f env) Q X ↔ wpR (f env) (kT Q) X := by
  unfold eTup
  cases h : f env with
  | ok os e => by_cases hl : os.length ≤ 1000000 <;> simp [hl, wpR, kT]
  | exc c ds e => exact Iff.rfl
  | bad => exact Iff.rfl
theorem wp_aNil {Q} : wpR (aNil env) Q X ↔ Q [] env := Iff.rfl
theorem wp_aCons {f r} {Q} : wpR (aCons f r env) Q X ↔ wpR (f env) (kAC r Q X) X := by
  unfold aCons
  cases h : f env with
  | ok o e1 => cases h2 : r e1 <;> simp [h2, wpR, kAC, kAC2]
  | exc c ds e => exact Iff.rfl
  | bad => exact Iff.rfl
/-! methods of texts -/
def kM1 (g : List Nat → List D → Option O) (l : List Nat) (Q : O → Env → Prop) (e : Env) : List D → Prop := fun ds => okO (g l ds) (kB2 Q e)
def kM2 (g : List Nat → List D → Option O) (l : List Nat) (Q : O → Env → Prop) : List Opd → Env → Prop := fun ops e => okO (resA e ops) (kM1 g l Q e)
def kM (g : List Nat → List D → Option O) (r : Env → R (List Opd)) (Q : O → Env → Prop) (X : WXK) : O → Env → Prop
  | .fz (.str l), e => wpR (r e) (kM2 g l Q) X
  | _, _ => False
theorem wp_eM {g f r} {Q} : wpR (eM g f r env) Q X ↔ wpR (f env) (kM g r Q X) X := by
  unfold eM
  cases h : f env with
  | ok o e1 =>
    cases o with
    | fz d => cases d with
      | str l =>
        cases h1 : r e1 with
        | ok ops e => cases h2 : resA e ops with
          | none => simp [h1, h2, wpR, kM, kM2, okO]
          | some ds => cases h3 : g l ds <;> simp [h1, h2, h3, wpR, kM, kM2, kM1, kB2, okO]
        | exc c ds e => simp [h1, wpR, kM]
        | bad => simp [h1, wpR, kM]
      | _ => exact Iff.rfl
    | _ => exact Iff.rfl
  | exc c ds e => exact Iff.rfl
  | bad => exact Iff.rfl
/-! and, or, not, if -/
def kAnd (g : Env → R O) (Q : O → Env → Prop) (X : WXK) : O → Env → Prop
  | .fz (.bl true), e => wpR (g e) Q X
  | .fz (.bl false), e => Q (.fz (.bl false)) e
  | _, _ => False
def kOr (g : Env → R O) (Q : O → Env → Prop) (X : WXK) : O → Env → Prop
  | .fz (.bl true), e => Q (.fz (.bl true)) e
  | .fz (.bl false), e => wpR (g e) Q X
  | _, _ => False
def kNot (Q : O → Env → Prop) : O → Env → Prop
  | .fz (.bl b), e => Q (.fz (.bl (!b))) e
  | _, _ => False
theorem wp_eAnd {f g} {Q} : wpR (eAnd f g env) Q X ↔ wpR (f env) (kAnd g Q X) X := by
  unfold eAnd
  cases h : f env with
  | ok o e =>
    cases o with
    | fz d => cases d with
      | bl b => cases b <;> simp [wpR, kAnd]
      | _ => exact Iff.rfl
    | _ => exact Iff.rfl
  | exc c ds e => exact Iff.rfl
  | bad => exact Iff.rfl
theorem wp_eOr {f g} {Q} : wpR (eOr f g env) Q X ↔ wpR (f env) (kOr g Q X) X := by
  unfold eOr
  cases h : f env with
  | ok o e =>
    cases o with
    | fz d => cases d with
      | bl b => cases b <;> simp [wpR, kOr]
      | _ => exact Iff.rfl
    | _ => exact Iff.rfl
  | exc c ds e => exact Iff.rfl
  | bad => exact Iff.rfl
theorem wp_eNot {f} {Q} : wpR (eNot f env) Q X ↔ wpR (f env) (kNot Q) X := by
  unfold eNot
  cases h : f env with
  | ok o e =>
    cases o with
    | fz d => cases d with
      | bl b => cases b <;> simp [wpR, kNot]
      | _ => exact Iff.rfl
    | _ => exact Iff.rfl
  | exc c ds e => exact Iff.rfl
  | bad => exact Iff.rfl
def kIf {α : Type} (f g : Env → R α) (Q : α → Env → Prop) (X : WXK) : Bool → Env → Prop
  | true, e => wpR (f e) Q X
  | false, e => wpR (g e) Q X
theorem wp_eIf {c f g} {Q} : wpR (eIf c f g env) Q X ↔ wpR (c env) (kIf f g Q X) X := by
  unfold eIf
  cases h : c env with
  | ok b e => cases b <;> simp [wpR, kIf]
  | exc c ds e => exact Iff.rfl
  | bad => exact Iff.rfl
def kBool (Q : Bool → Env → Prop) : O → Env → Prop
  | .fz (.bl b), e => Q b e
  | _, _ => False
theorem wp_tBool {f} {Q} : wpR (tBool f env) Q X ↔ wpR (f env) (kBool Q) X := by
  unfold tBool
  cases h : f env with
  | ok o e =>
    cases o with
    | fz d => cases d with
      | bl b => simp [wpR, kBool]
      | _ => exact Iff.rfl
    | _ => exact Iff.rfl
  | exc c ds e => exact Iff.rfl
  | bad => exact Iff.rfl
def kTAnd (g : Env → R Bool) (Q : Bool → Env → Prop) (X : WXK) : Bool → Env → Prop
  | true, e => wpR (g e) Q X
  | false, e => Q false e
def kTOr (g : Env → R Bool) (Q : Bool → Env → Prop) (X : WXK) : Bool → Env → Prop
  | true, e => Q true e
  | false, e => wpR (g e) Q X
def kTNot (Q : Bool → Env → Prop) : Bool → Env → Prop := fun b e => Q (!b) e
theorem wp_tAnd {f g} {Q} : wpR (tAnd' f g env) Q X ↔ wpR (f env) (kTAnd g Q X) X := by
  unfold tAnd'
  cases h : f env with
  | ok b e => cases b <;> simp [wpR, kTAnd]
  | exc c ds e => exact Iff.rfl
  | bad => exact Iff.rfl
theorem wp_tOr {f g} {Q} : wpR (tOr' f g env) Q X ↔ wpR (f env) (kTOr g Q X) X := by
  unfold tOr'
  cases h : f env with
  | ok b e => cases b <;> simp [wpR, kTOr]
  | exc c ds e => exact Iff.rfl
  | bad => exact Iff.rfl
theorem wp_tNot {f} {Q} : wpR (tNot' f env) Q X ↔ wpR (f env) (kTNot Q) X := by
  unfold tNot'
  cases h : f env with
  | ok b e => cases b <;> simp [wpR, kTNot]
  | exc c ds e => exact Iff.rfl
  | bad => exact Iff.rfl
theorem wp_tTrue {Q} : wpR (tTrue env) Q X ↔ Q true env := Iff.rfl
/-! iterables -/
def kVal (g : D → Option (List O)) (Q : List O → Env → Prop) : O → Env → Prop := fun o e => okO (g o.erase) (kItems Q e)
theorem wp_iVal {f} {Q} : wpR (iVal f env) Q X ↔ wpR (f env) (kVal itemsOf Q) X := by
  unfold iVal
  cases h : f env with
  | ok o e => cases h2 : itemsOf o.erase <;> simp [h2, wpR, kVal, kItems, okO]
  | exc c ds e => exact Iff.rfl
  | bad => exact Iff.rfl
theorem wp_iFz {g f} {Q} : wpR (iFz g f env) Q X ↔ wpR (f env) (kVal g Q) X := by
  unfold iFz
  cases h : f env with
  | ok o e => cases h2 : g o.erase <;> simp [h2, wpR, kVal, kItems, okO]
  | exc c ds e => exact Iff.rfl
  | bad => exact Iff.rfl
def kRd1 (g : List D → Option (List O)) (Q : List O → Env → Prop) (e : Env) : List D → Prop := fun ds => okO (g ds) (kItems Q e)
def kRd (g : List D → Option (List O)) (Q : List O → Env → Prop) : List Opd → Env → Prop := fun ops e => okO (resA e ops) (kRd1 g Q e)
theorem wp_iRd {g f} {Q} : wpR (iRd g f env) Q X ↔ wpR (f env) (kRd g Q) X := by
  unfold iRd
  cases h : f env with
  | ok ops e =>
    cases h2 : resA e ops with
    | none => simp [h2, wpR, kRd, okO]
    | some ds => cases h3 : g ds <;> simp [h2, h3, wpR, kRd, kRd1, kItems, okO]
  | exc c ds e => exact Iff.rfl
  | bad => exact Iff.rfl
/-! calls -/
def kRet (ops : List Opd) (e : Env) (Q : O → Env → Prop) : O → List O → Prop := fun o outs => Q o (putOps ops outs e)
def kRetX (ops : List Opd) (e : Env) (X : WXK) : WXF := fun c ds outs => X c ds (putOps ops outs e)
def kCall1 (φ : List O → FR) (ops : List Opd) (Q : O → Env → Prop) (X : WXK) : List O × Env → Prop := fun p => wpF (φ p.1) (kRet ops p.2 Q) (kRetX ops p.2 X)
def kCall (φ : List O → FR) (Q : O → Env → Prop) (X : WXK) : List Opd → Env → Prop := fun ops e => okO (takeOps ops e) (kCall1 φ ops Q X)
theorem wp_eCall {φ f} {Q} : wpR (eCall φ f env) Q X ↔ wpR (f env) (kCall φ Q X) X := by
  unfold eCall
  cases h : f env with
  | ok ops e =>
    cases h2 : takeOps ops e with
    | none => simp [h2, wpR, kCall, okO]
    | some p =>
      obtain ⟨os, e2⟩ := p
      cases h3 : φ os <;> simp [h2, h3, wpR, wpF, kCall, kCall1, kRet, kRetX, okO]
  | exc c ds e => exact Iff.rfl
  | bad => exact Iff.rfl
/-! statements -/
def kSeq (h : Env → R Fl) (Q : Fl → Env → Prop) (X : WXK) : Fl → Env → Prop
  | .nx, e => wpR (h e) Q X
  | .rt o, e => Q (.rt o) e
  | .bk, e => Q .bk e
  | .ct, e => Q .ct e
theorem wp_sSeq {g h} {Q} : wpR (sSeq g h env) Q X ↔ wpR (g env) (kSeq h Q X) X := by
  unfold sSeq
  cases hh : g env with
  | ok f e => cases f <;> simp [wpR, kSeq]
  | exc c ds e => exact Iff.rfl
  | bad => exact Iff.rfl
theorem wp_sIf {c} {f g : Env → R Fl} {Q} : wpR (sIf c f g env) Q X ↔ wpR (c env) (kIf f g Q X) X := by
  unfold sIf
  cases h : c env with
  | ok b e => cases b <;> simp [wpR, kIf]
  | exc c ds e => exact Iff.rfl
  | bad => exact Iff.rfl
def kRt (Q : Fl → Env → Prop) : O → Env → Prop := fun o e => Q (.rt o) e
theorem wp_sRet {f} {Q} : wpR (sRet f env) Q X ↔ wpR (f env) (kRt Q) X := by
  unfold sRet
  cases h : f env <;> exact Iff.rfl
def kEx (Q : Fl → Env → Prop) : O → Env → Prop := fun _ e => Q .nx e
theorem wp_sExpr {f} {Q} : wpR (sExpr f env) Q X ↔ wpR (f env) (kEx Q) X := by
  unfold sExpr
  cases h : f env <;> exact Iff.rfl
def kAsg (h : O → Env → Option Env) (Q : Fl → Env → Prop) : O → Env → Prop := fun o e => okO (h o e) (Q .nx)
theorem wp_sAsg {f h} {Q} : wpR (sAsg f h env) Q X ↔ wpR (f env) (kAsg h Q) X := by
  unfold sAsg
  cases hh : f env with
  | ok o e => cases h2 : h o e <;> simp [h2, wpR, kAsg, okO]
  | exc c ds e => exact Iff.rfl
  | bad => exact Iff.rfl
def kPar (js : List Nat) (Q : Fl → Env → Prop) : List O → Env → Prop := fun os e => (js.length = os.length ∧ (js.all fun j => decide (j < e.length)) = true) ∧ Q .nx (setO js os e)
theorem wp_sPar {js f} {Q} : wpR (sPar js f env) Q X ↔ wpR (f env) (kPar js Q) X := by
  unfold sPar
  cases h : f env with
  | ok os e =>
    by_cases hh : js.length = os.length ∧ (js.all fun j => decide (j < e.length)) = true
    · show wpR (if js.length = os.length ∧ (js.all fun j => decide (j < e.length)) = true then R.ok Fl.nx (setO js os e) else .bad) Q X ↔ _
      rw [if_pos hh]
      exact ⟨fun z => ⟨hh, z⟩, fun z => z.2⟩
    · show wpR (if js.length = os.length ∧ (js.all fun j => decide (j < e.length)) = true then R.ok Fl.nx (setO js os e) else .bad) Q X ↔ _
      rw [if_neg hh]
      exact ⟨fun z => z.elim, fun z => hh z.1⟩
  | exc c ds e => exact Iff.rfl
  | bad => exact Iff.rfl
theorem wp_sNil {Q} : wpR (sNil env) Q X ↔ Q .nx env := Iff.rfl
theorem wp_sPass {Q} : wpR (sPass env) Q X ↔ Q .nx env := Iff.rfl
theorem wp_sCont {Q} : wpR (sCont env) Q X ↔ Q .ct env := Iff.rfl
theorem wp_sBreak {Q} : wpR (sBreak env) Q X ↔ Q .bk env := Iff.rfl
/-! targets -/
theorem ok_gN {i o} {Q} : okO (gN i o env) Q ↔ i < env.length ∧ Q (env.set i (some o)) := by
  unfold gN
  by_cases h : i < env.length <;> simp [h, okO]
def kSet1 (i : Nat) (o : O) (e : Env) (Q : Env → Prop) : List D → Prop := fun k => okO (setAt i o k e) Q
def kSet (i : Nat) (o : O) (Q : Env → Prop) : List Opd → Env → Prop := fun ops e => okO (resA e ops) (kSet1 i o e Q)
theorem ok_gSet {i f o} {Q} : okO (gSet i f o env) Q ↔ okSl env[i]? (wpR (f env) (kSet i o Q) noX) := by
  unfold gSet
  cases h : env[i]? with
  | none => exact Iff.rfl
  | some x => cases x with
    | none => exact Iff.rfl
    | some y =>
      cases h2 : f env with
      | ok ops e => cases h3 : resA e ops <;> simp [h2, h3, wpR, okSl, kSet, kSet1, okO]
      | exc c ds e => simp [h2, wpR, okSl, okO, noX]
      | bad => simp [h2, wpR, okSl, okO]
/-! loops -/
def kFor (h : O → Env → Option Env) (b : Env → R Fl) (Q : Fl → Env → Prop) (X : WXK) : List O → Env → Prop := fun os e => wpR (sLoop h b os e) Q X
theorem wp_sFor {f h b} {Q} : wpR (sFor f h b env) Q X ↔ wpR (f env) (kFor h b Q X) X := by
  unfold sFor
  cases hh : f env with
  | ok os e => exact Iff.rfl
  | exc c ds e => exact Iff.rfl
  | bad => exact Iff.rfl
def kTurn (I : Env → Prop) (Q : Fl → Env → Prop) : Fl → Env → Prop
  | .nx, e => I e
  | .ct, e => I e
  | .bk, e => Q .nx e
  | .rt o, e => Q (.rt o) e
/-- a loop by what holds with the items still to come -/
theorem wp_loop {h : O → Env → Option Env} {b : Env → R Fl} {Q : Fl → Env → Prop} (I : List O → Env → Prop) : ∀ {os : List O} {env : Env}, I os env →
    (∀ o os e, I (o :: os) e → okO (h o e) (kBody b (kTurn (I os) Q) X)) → (∀ e, I [] e → Q .nx e) → wpR (sLoop h b os env) Q X
  | [], env, i, _, q => q env i
  | o :: os, env, i, st, q => by
    have s := st o os env i
    unfold sLoop
    revert s
    cases h o env with
    | none => exact fun s => s
    | some e1 =>
      show wpR (b e1) (kTurn (I os) Q) X → _
      simp only []
      cases hb : b e1 with
      | ok f e2 =>
        cases f with
        | nx => exact fun s => wp_loop I s st q
        | ct => exact fun s => wp_loop I s st q
        | bk => exact fun s => s
        | rt o => exact fun s => s
      | exc c ds e => exact fun s => s
      | bad => exact fun s => s
/-- .. with a counter: the items are f 0, f 1, .. -/
theorem wp_loopN {h : O → Env → Option Env} {b : Env → R Fl} {Q : Fl → Env → Prop} {os : List O} (I : Nat → Env → Prop) {env : Env} (h0 : I 0 env)
    (st : ∀ k e o, os[k]? = some o → I k e → okO (h o e) (kBody b (kTurn (I (k + 1)) Q) X)) (q : ∀ e, I os.length e → Q .nx e) : wpR (sLoop h b os env) Q X := by
  refine wp_loop (I := fun rest e => ∃ k, os.drop k = rest ∧ k ≤ os.length ∧ I k e) ⟨0, rfl, Nat.zero_le _, h0⟩ ?_ ?_
  · rintro o rest e ⟨k, hk, hl, i⟩
    have hlt : k < os.length := by
      rcases Nat.lt_or_ge k os.length with z | z
      · exact z
      · rw [List.drop_eq_nil_of_le z] at hk; cases hk
    have hg : os[k]? = some o := by
      have := congrArg (·[0]?) hk
      simpa using this
    have hr : os.drop (k + 1) = rest := by
      rw [List.drop_eq_getElem_cons hlt] at hk
      exact (List.cons.inj hk).2
    have s := st k e o hg i
    revert s
    cases h o e with
    | none => exact fun s => s
    | some e1 =>
      intro s
      show wpR (b e1) _ X
      refine wpR_mono (show wpR (b e1) (kTurn (I (k + 1)) Q) X from s) ?_ fun _ _ _ z => z
      intro f e2 z
      cases f with
      | nx => exact ⟨k + 1, hr, hlt, z⟩
      | ct => exact ⟨k + 1, hr, hlt, z⟩
      | bk => exact z
      | rt o => exact z
  · rintro e ⟨k, hk, hl, i⟩
    have : os.length ≤ k := by
      have := congrArg List.length hk
      simp at this
      omega
    have : k = os.length := by omega
    subst this
    exact q e i
/-! comprehensions -/
def kElt1 (own : Nat → Bool) (I : List O → Env → Prop) (ys : List O) : O → Env → Prop := fun y e => I (ys ++ [y]) (offE own 0 e)
def kElt (own : Nat → Bool) (el : Env → R O) (I : List O → Env → Prop) (ys : List O) : Bool → Env → Prop
  | true, e => wpR (el e) (kElt1 own I ys) noX
  | false, e => I ys (offE own 0 e)
theorem wp_comp {own : Nat → Bool} {h : O → Env → Option Env} {t : Env → R Bool} {el : Env → R O} (I : List O → List O → Env → Prop) {Q : List O × Env → Prop} : ∀ {os ys : List O} {env : Env}, I os ys env →
    (∀ o os ys e, I (o :: os) ys e → okO (h o e) (kBody t (kElt own el (I os) ys) noX)) →
    (∀ ys e, I [] ys e → Q (ys, e)) → okO (compLoop own h t el os env) fun p => Q (ys ++ p.1, p.2)
  | [], ys, env, i, _, q => by
    show Q (ys ++ [], env)
    rw [List.append_nil]
    exact q ys env i
  | o :: os, ys, env, i, st, q => by
    have s := st o os ys env i
    unfold compLoop
    revert s
    cases h o env with
    | none => exact fun s => s
    | some e1 =>
      show wpR (t e1) _ noX → _
      simp only []
      cases ht : t e1 with
      | exc c ds e => exact fun s => s.elim
      | bad => exact fun s => s.elim
      | ok b e2 =>
        intro s
        cases b with
        | false => exact wp_comp I s st q
        | true =>
          have s1 : wpR (el e2) (kElt1 own (I os) ys) noX := s
          clear s
          revert s1
          simp only []
          cases hy : el e2 with
          | exc c ds e => exact fun s => s.elim
          | bad => exact fun s => s.elim
          | ok y e3 =>
            intro s1
            show okO ((compLoop own h t el os (offE own 0 e3)).map fun p => (y :: p.1, p.2)) _
            have r := wp_comp I (show I os (ys ++ [y]) (offE own 0 e3) from s1) st q
            revert r
            cases compLoop own h t el os (offE own 0 e3) with
            | none => exact fun r => r
            | some p =>
              intro r
              show Q (ys ++ (y :: p.1), p.2)
              have r : Q ((ys ++ [y]) ++ p.1, p.2) := r
              rwa [List.append_assoc] at r
def kComp2 (own : List Nat) (Q : O → Env → Prop) (e1 : Env) : List O × Env → Prop := fun p => Q (.lst p.1) (onE (ownP own) 0 p.2 e1)
def kComp (own : List Nat) (h : O → Env → Option Env) (t : Env → R Bool) (el : Env → R O) (Q : O → Env → Prop) : List O → Env → Prop := fun os e1 =>
  os.length ≤ 1000000 ∧ okO (compLoop (ownP own) h t el os (offE (ownP own) 0 e1)) (kComp2 own Q e1)
theorem wp_eComp {own f h t el} {Q} : wpR (eComp own f h t el env) Q X ↔ wpR (f env) (kComp own h t el Q) X := by
  unfold eComp
  cases hh : f env with
  | ok os e1 =>
    by_cases hl : os.length ≤ 1000000
    · simp only [if_pos hl, wpR, kComp, hl, true_and]
      cases hc : compLoop (ownP own) h t el os (offE (ownP own) 0 e1) <;> simp [hc, okO, kComp2]
    · show wpR (if os.length ≤ 1000000 then _ else R.bad) Q X ↔ _
      rw [if_neg hl]
      exact ⟨fun z => z.elim, fun z => hl z.1⟩
  | exc c ds e => exact Iff.rfl
  | bad => exact Iff.rfl
end
/-! defs -/
def kOuts (reb : List Bool) (os : List O) (Q : O → List O → Prop) : Fl → Env → Prop
  | .nx, e => okO (outsO reb os e) (Q (.fz .non))
  | .rt o, e => okO (outsO reb os e) (Q o)
  | _, _ => False
def kOutsX (reb : List Bool) (os : List O) (X : WXF) : WXK := fun c ds e => okO (outsO reb os e) (X c ds)
theorem wp_fn {reb : List Bool} {n : Nat} {body : Env → R Fl} {os : List O} {Q : O → List O → Prop} {X : WXF} :
    wpF (fnSem reb n body os) Q X ↔ os.length = reb.length ∧ wpR (body ((entryO reb os).map some ++ List.replicate n none)) (kOuts reb os Q) (kOutsX reb os X) := by
  unfold fnSem
  by_cases h : os.length = reb.length
  · rw [if_pos h]
    simp only [h, true_and]
    cases hb : body ((entryO reb os).map some ++ List.replicate n none) with
    | bad => exact Iff.rfl
    | exc c ds e => cases h2 : outsO reb os e <;> simp [h2, wpR, wpF, kOutsX, okO]
    | ok f e => cases f <;> (try exact Iff.rfl) <;> (cases h2 : outsO reb os e <;> simp [h2, wpR, wpF, kOuts, okO])
  · rw [if_neg h]
    simp [wpF, h]
theorem kIf_split {α : Type} {f g : Env → R α} {Q : α → Env → Prop} {X : WXK} {e : Env} {b : Bool} : kIf f g Q X b e ↔ (b = true → wpR (f e) Q X) ∧ (b = false → wpR (g e) Q X) := by
  cases b <;> simp [kIf]
theorem kIf_dec {α : Type} {f g : Env → R α} {Q : α → Env → Prop} {X : WXK} {e : Env} {p : Prop} [Decidable p] : kIf f g Q X (decide p) e ↔ (p → wpR (f e) Q X) ∧ (¬ p → wpR (g e) Q X) := by
  by_cases h : p <;> simp [kIf, h]
theorem kIf_ndec {α : Type} {f g : Env → R α} {Q : α → Env → Prop} {X : WXK} {e : Env} {p : Prop} [Decidable p] : kIf f g Q X (!decide p) e ↔ (¬ p → wpR (f e) Q X) ∧ (p → wpR (g e) Q X) := by
  by_cases h : p <;> simp [kIf, h]
theorem kIf_beq {α : Type} {f g : Env → R α} {Q : α → Env → Prop} {β : Type} [BEq β] [LawfulBEq β] {x y : β} {X : WXK} {e : Env} : kIf f g Q X (x == y) e ↔ (x = y → wpR (f e) Q X) ∧ (¬ x = y → wpR (g e) Q X) := by
  by_cases h : x = y
  · subst h; simp [kIf]
  · have : (x == y) = false := by simpa using h
    simp [kIf, h, this]
theorem kIf_bne {α : Type} {f g : Env → R α} {Q : α → Env → Prop} {β : Type} [BEq β] [LawfulBEq β] {x y : β} {X : WXK} {e : Env} : kIf f g Q X (x != y) e ↔ (¬ x = y → wpR (f e) Q X) ∧ (x = y → wpR (g e) Q X) := by
  by_cases h : x = y
  · subst h; simp [kIf]
  · have : (x != y) = true := by simpa using h
    simp [kIf, h, this]
theorem kIf_nbeq {α : Type} {f g : Env → R α} {Q : α → Env → Prop} {β : Type} [BEq β] [LawfulBEq β] {x y : β} {X : WXK} {e : Env} : kIf f g Q X (!(x == y)) e ↔ (¬ x = y → wpR (f e) Q X) ∧ (x = y → wpR (g e) Q X) := kIf_bne
theorem kTAnd_split {g : Env → R Bool} {Q : Bool → Env → Prop} {X : WXK} {e : Env} {b : Bool} : kTAnd g Q X b e ↔ (b = true → wpR (g e) Q X) ∧ (b = false → Q false e) := by
  cases b <;> simp [kTAnd]
theorem kTAnd_dec {g : Env → R Bool} {Q : Bool → Env → Prop} {X : WXK} {e : Env} {p : Prop} [Decidable p] : kTAnd g Q X (decide p) e ↔ (p → wpR (g e) Q X) ∧ (¬ p → Q false e) := by
  by_cases h : p <;> simp [kTAnd, h]
theorem kTAnd_ndec {g : Env → R Bool} {Q : Bool → Env → Prop} {X : WXK} {e : Env} {p : Prop} [Decidable p] : kTAnd g Q X (!decide p) e ↔ (¬ p → wpR (g e) Q X) ∧ (p → Q false e) := by
  by_cases h : p <;> simp [kTAnd, h]
theorem kTAnd_beq {g : Env → R Bool} {Q : Bool → Env → Prop} {β : Type} [BEq β] [LawfulBEq β] {x y : β} {X : WXK} {e : Env} : kTAnd g Q X (x == y) e ↔ (x = y → wpR (g e) Q X) ∧ (¬ x = y → Q false e) := by
  by_cases h : x = y
  · subst h; simp [kTAnd]
  · have : (x == y) = false := by simpa using h
    simp [kTAnd, h, this]
theorem kTAnd_bne {g : Env → R Bool} {Q : Bool → Env → Prop} {β : Type} [BEq β] [LawfulBEq β] {x y : β} {X : WXK} {e : Env} : kTAnd g Q X (x != y) e ↔ (¬ x = y → wpR (g e) Q X) ∧ (x = y → Q false e) := by
  by_cases h : x = y
  · subst h; simp [kTAnd]
  · have : (x != y) = true := by simpa using h
    simp [kTAnd, h, this]
theorem kTAnd_nbeq {g : Env → R Bool} {Q : Bool → Env → Prop} {β : Type} [BEq β] [LawfulBEq β] {x y : β} {X : WXK} {e : Env} : kTAnd g Q X (!(x == y)) e ↔ (¬ x = y → wpR (g e) Q X) ∧ (x = y → Q false e) := kTAnd_bne
theorem kTOr_split {g : Env → R Bool} {Q : Bool → Env → Prop} {X : WXK} {e : Env} {b : Bool} : kTOr g Q X b e ↔ (b = true → Q true e) ∧ (b = false → wpR (g e) Q X) := by
  cases b <;> simp [kTOr]
theorem kTOr_dec {g : Env → R Bool} {Q : Bool → Env → Prop} {X : WXK} {e : Env} {p : Prop} [Decidable p] : kTOr g Q X (decide p) e ↔ (p → Q true e) ∧ (¬ p → wpR (g e) Q X) := by
  by_cases h : p <;> simp [kTOr, h]
theorem kTOr_ndec {g : Env → R Bool} {Q : Bool → Env → Prop} {X : WXK} {e : Env} {p : Prop} [Decidable p] : kTOr g Q X (!decide p) e ↔ (¬ p → Q true e) ∧ (p → wpR (g e) Q X) := by
  by_cases h : p <;> simp [kTOr, h]
theorem kTOr_beq {g : Env → R Bool} {Q : Bool → Env → Prop} {β : Type} [BEq β] [LawfulBEq β] {x y : β} {X : WXK} {e : Env} : kTOr g Q X (x == y) e ↔ (x = y → Q true e) ∧ (¬ x = y → wpR (g e) Q X) := by
  by_cases h : x = y
  · subst h; simp [kTOr]
  · have : (x == y) = false := by simpa using h
    simp [kTOr, h, this]
theorem kTOr_bne {g : Env → R Bool} {Q : Bool → Env → Prop} {β : Type} [BEq β] [LawfulBEq β] {x y : β} {X : WXK} {e : Env} : kTOr g Q X (x != y) e ↔ (¬ x = y → Q true e) ∧ (x = y → wpR (g e) Q X) := by
  by_cases h : x = y
  · subst h; simp [kTOr]
  · have : (x != y) = true := by simpa using h
    simp [kTOr, h, this]
theorem kTOr_nbeq {g : Env → R Bool} {Q : Bool → Env → Prop} {β : Type} [BEq β] [LawfulBEq β] {x y : β} {X : WXK} {e : Env} : kTOr g Q X (!(x == y)) e ↔ (¬ x = y → Q true e) ∧ (x = y → wpR (g e) Q X) := kTOr_bne
theorem kAnd_split {g : Env → R O} {Q : O → Env → Prop} {X : WXK} {e : Env} {b : Bool} : kAnd g Q X (.fz (.bl b)) e ↔ (b = true → wpR (g e) Q X) ∧ (b = false → Q (.fz (.bl false)) e) := by
  cases b <;> simp [kAnd]
theorem kAnd_dec {g : Env → R O} {Q : O → Env → Prop} {X : WXK} {e : Env} {p : Prop} [Decidable p] : kAnd g Q X (.fz (.bl (decide p))) e ↔ (p → wpR (g e) Q X) ∧ (¬ p → Q (.fz (.bl false)) e) := by
  by_cases h : p <;> simp [kAnd, h]
theorem kAnd_ndec {g : Env → R O} {Q : O → Env → Prop} {X : WXK} {e : Env} {p : Prop} [Decidable p] : kAnd g Q X (.fz (.bl (!decide p))) e ↔ (¬ p → wpR (g e) Q X) ∧ (p → Q (.fz (.bl false)) e) := by
  by_cases h : p <;> simp [kAnd, h]
theorem kAnd_beq {g : Env → R O} {Q : O → Env → Prop} {β : Type} [BEq β] [LawfulBEq β] {x y : β} {X : WXK} {e : Env} : kAnd g Q X (.fz (.bl (x == y))) e ↔ (x = y → wpR (g e) Q X) ∧ (¬ x = y → Q (.fz (.bl false)) e) := by
  by_cases h : x = y
  · subst h; simp [kAnd]
  · have : (x == y) = false := by simpa using h
    simp [kAnd, h, this]
theorem kAnd_bne {g : Env → R O} {Q : O → Env → Prop} {β : Type} [BEq β] [LawfulBEq β] {x y : β} {X : WXK} {e : Env} : kAnd g Q X (.fz (.bl (x != y))) e ↔ (¬ x = y → wpR (g e) Q X) ∧ (x = y → Q (.fz (.bl false)) e) := by
  by_cases h : x = y
  · subst h; simp [kAnd]
  · have : (x != y) = true := by simpa using h
    simp [kAnd, h, this]
theorem kAnd_nbeq {g : Env → R O} {Q : O → Env → Prop} {β : Type} [BEq β] [LawfulBEq β] {x y : β} {X : WXK} {e : Env} : kAnd g Q X (.fz (.bl (!(x == y)))) e ↔ (¬ x = y → wpR (g e) Q X) ∧ (x = y → Q (.fz (.bl false)) e) := kAnd_bne
theorem kOr_split {g : Env → R O} {Q : O → Env → Prop} {X : WXK} {e : Env} {b : Bool} : kOr g Q X (.fz (.bl b)) e ↔ (b = true → Q (.fz (.bl true)) e) ∧ (b = false → wpR (g e) Q X) := by
  cases b <;> simp [kOr]
theorem kOr_dec {g : Env → R O} {Q : O → Env → Prop} {X : WXK} {e : Env} {p : Prop} [Decidable p] : kOr g Q X (.fz (.bl (decide p))) e ↔ (p → Q (.fz (.bl true)) e) ∧ (¬ p → wpR (g e) Q X) := by
  by_cases h : p <;> simp [kOr, h]
theorem kOr_ndec {g : Env → R O} {Q : O → Env → Prop} {X : WXK} {e : Env} {p : Prop} [Decidable p] : kOr g Q X (.fz (.bl (!decide p))) e ↔ (¬ p → Q (.fz (.bl true)) e) ∧ (p → wpR (g e) Q X) := by
  by_cases h : p <;> simp [kOr, h]
theorem kOr_beq {g : Env → R O} {Q : O → Env → Prop} {β : Type} [BEq β] [LawfulBEq β] {x y : β} {X : WXK} {e : Env} : kOr g Q X (.fz (.bl (x == y))) e ↔ (x = y → Q (.fz (.bl true)) e) ∧ (¬ x = y → wpR (g e) Q X) := by
  by_cases h : x = y
  · subst h; simp [kOr]
  · have : (x == y) = false := by simpa using h
    simp [kOr, h, this]
theorem kOr_bne {g : Env → R O} {Q : O → Env → Prop} {β : Type} [BEq β] [LawfulBEq β] {x y : β} {X : WXK} {e : Env} : kOr g Q X (.fz (.bl (x != y))) e ↔ (¬ x = y → Q (.fz (.bl true)) e) ∧ (x = y → wpR (g e) Q X) := by
  by_cases h : x = y
  · subst h; simp [kOr]
  · have : (x != y) = true := by simpa using h
    simp [kOr, h, this]
theorem kOr_nbeq {g : Env → R O} {Q : O → Env → Prop} {β : Type} [BEq β] [LawfulBEq β] {x y : β} {X : WXK} {e : Env} : kOr g Q X (.fz (.bl (!(x == y)))) e ↔ (¬ x = y → Q (.fz (.bl true)) e) ∧ (x = y → wpR (g e) Q X) := kOr_bne
theorem kElt_split {own : Nat → Bool} {el : Env → R O} {I : List O → Env → Prop} {ys : List O} {X : WXK} {e : Env} {b : Bool} : kElt own el I ys b e ↔ (b = true → wpR (el e) (kElt1 own I ys) noX) ∧ (b = false → I ys (offE own 0 e)) := by
  cases b <;> simp [kElt]
theorem kElt_dec {own : Nat → Bool} {el : Env → R O} {I : List O → Env → Prop} {ys : List O} {X : WXK} {e : Env} {p : Prop} [Decidable p] : kElt own el I ys (decide p) e ↔ (p → wpR (el e) (kElt1 own I ys) noX) ∧ (¬ p → I ys (offE own 0 e)) := by
  by_cases h : p <;> simp [kElt, h]
theorem kElt_ndec {own : Nat → Bool} {el : Env → R O} {I : List O → Env → Prop} {ys : List O} {X : WXK} {e : Env} {p : Prop} [Decidable p] : kElt own el I ys (!decide p) e ↔ (¬ p → wpR (el e) (kElt1 own I ys) noX) ∧ (p → I ys (offE own 0 e)) := by
  by_cases h : p <;> simp [kElt, h]
theorem kElt_beq {own : Nat → Bool} {el : Env → R O} {I : List O → Env → Prop} {ys : List O} {β : Type} [BEq β] [LawfulBEq β] {x y : β} {X : WXK} {e : Env} : kElt own el I ys (x == y) e ↔ (x = y → wpR (el e) (kElt1 own I ys) noX) ∧ (¬ x = y → I ys (offE own 0 e)) := by
  by_cases h : x = y
  · subst h; simp [kElt]
  · have : (x == y) = false := by simpa using h
    simp [kElt, h, this]
theorem kElt_bne {own : Nat → Bool} {el : Env → R O} {I : List O → Env → Prop} {ys : List O} {β : Type} [BEq β] [LawfulBEq β] {x y : β} {X : WXK} {e : Env} : kElt own el I ys (x != y) e ↔ (¬ x = y → wpR (el e) (kElt1 own I ys) noX) ∧ (x = y → I ys (offE own 0 e)) := by
  by_cases h : x = y
  · subst h; simp [kElt]
  · have : (x != y) = true := by simpa using h
    simp [kElt, h, this]
theorem kElt_nbeq {own : Nat → Bool} {el : Env → R O} {I : List O → Env → Prop} {ys : List O} {β : Type} [BEq β] [LawfulBEq β] {x y : β} {X : WXK} {e : Env} : kElt own el I ys (!(x == y)) e ↔ (¬ x = y → wpR (el e) (kElt1 own I ys) noX) ∧ (x = y → I ys (offE own 0 e)) := kElt_bne (X := X)
theorem kIf_t {α : Type} {f g : Env → R α} {Q : α → Env → Prop} {X : WXK} {e : Env} : kIf f g Q X true e ↔ wpR (f e) Q X := Iff.rfl
theorem kIf_f {α : Type} {f g : Env → R α} {Q : α → Env → Prop} {X : WXK} {e : Env} : kIf f g Q X false e ↔ wpR (g e) Q X := Iff.rfl
theorem kTAnd_t {g : Env → R Bool} {Q : Bool → Env → Prop} {X : WXK} {e : Env} : kTAnd g Q X true e ↔ wpR (g e) Q X := Iff.rfl
theorem kTAnd_f {g : Env → R Bool} {Q : Bool → Env → Prop} {X : WXK} {e : Env} : kTAnd g Q X false e ↔ Q false e := Iff.rfl
theorem kTOr_t {g : Env → R Bool} {Q : Bool → Env → Prop} {X : WXK} {e : Env} : kTOr g Q X true e ↔ Q true e := Iff.rfl
theorem kTOr_f {g : Env → R Bool} {Q : Bool → Env → Prop} {X : WXK} {e : Env} : kTOr g Q X false e ↔ wpR (g e) Q X := Iff.rfl
theorem kAnd_t {g : Env → R O} {Q : O → Env → Prop} {X : WXK} {e : Env} : kAnd g Q X (.fz (.bl true)) e ↔ wpR (g e) Q X := Iff.rfl
theorem kAnd_f {g : Env → R O} {Q : O → Env → Prop} {X : WXK} {e : Env} : kAnd g Q X (.fz (.bl false)) e ↔ Q (.fz (.bl false)) e := Iff.rfl
theorem kOr_t {g : Env → R O} {Q : O → Env → Prop} {X : WXK} {e : Env} : kOr g Q X (.fz (.bl true)) e ↔ Q (.fz (.bl true)) e := Iff.rfl
theorem kOr_f {g : Env → R O} {Q : O → Env → Prop} {X : WXK} {e : Env} : kOr g Q X (.fz (.bl false)) e ↔ wpR (g e) Q X := Iff.rfl
theorem kElt_t {own : Nat → Bool} {el : Env → R O} {I : List O → Env → Prop} {ys : List O} {e : Env} : kElt own el I ys true e ↔ wpR (el e) (kElt1 own I ys) noX := Iff.rfl
theorem kElt_f {own : Nat → Bool} {el : Env → R O} {I : List O → Env → Prop} {ys : List O} {e : Env} : kElt own el I ys false e ↔ I ys (offE own 0 e) := Iff.rfl
end PyD
end

section
set_option Elab.async false
set_option linter.all false
set_option maxRecDepth 100000
namespace PyD
open PySem L2
variable {α : Type}
theorem ixN_in {n : Nat} {r : Int} (h0 : 0 ≤ r) (h1 : r < n) : ixN n r = some r.toNat := by
  unfold ixN
  rw [if_pos h0, if_pos h1]
theorem atI_in {α : Type} {l : List α} {r : Int} (h0 : 0 ≤ r) (h1 : r < l.length) : ∃ h : r.toNat < l.length, atI l r = some l[r.toNat] := by
  have h : r.toNat < l.length := by omega
  refine ⟨h, ?_⟩
  unfold atI
  rw [ixN_in h0 h1]
  exact List.getElem?_eq_getElem h
theorem ok_ixL {ds : List D} {r : Int} {Q : O → Prop} (h0 : 0 ≤ r) (h1 : r < ds.length) (q : ∀ d ∈ ds, Q (.fz d)) : okO (semIx [.lst ds, .int r]) Q := by
  obtain ⟨h, e⟩ := atI_in h0 h1
  show okO ((atI ds r).map .fz) Q
  rw [e]
  exact q _ (List.getElem_mem h)
theorem ok_ixS {l : List Nat} {r : Int} {Q : O → Prop} (h0 : 0 ≤ r) (h1 : r < l.length) (q : ∀ c ∈ l, Q (.fz (.str [c]))) : okO (semIx [.str l, .int r]) Q := by
  obtain ⟨h, e⟩ := atI_in h0 h1
  show okO ((atI l r).map fun c => .fz (.str [c])) Q
  rw [e]
  exact q _ (List.getElem_mem h)
theorem ok_setL {i : Nat} {o : O} {j : Int} {e : Env} {os : List O} {Q : Env → Prop} (he : e[i]? = some (some (.lst os))) (h0 : 0 ≤ j) (h1 : j < os.length) (q : Q (e.set i (some (.lst (os.set j.toNat o))))) : okO (setAt i o [.int j] e) Q := by
  unfold setAt
  rw [he]
  show okO ((ixN os.length j).map _) Q
  rw [ixN_in h0 h1]
  exact q
theorem strsOf_map (f : α → List Nat) : ∀ l : List α, strsOf (l.map fun c => D.str (f c)) = some (l.map f)
  | [] => rfl
  | c :: l => by
    show (strsOf (l.map fun c => D.str (f c))).map (f c :: ·) = _
    rw [strsOf_map f l]
    rfl
theorem erases_mapF {α : Type} (g : α → D) : ∀ l : List α, O.erases (l.map fun x => O.fz (g x)) = l.map g
  | [] => rfl
  | x :: l => by
    rw [List.map_cons, O.erases, erases_mapF g l]
    rfl
theorem joinD_nil : ∀ ps : List (List Nat), joinD [] ps = ps.flatten
  | [] => rfl
  | [a] => by simp [joinD]
  | a :: b :: r => by
    rw [joinD, joinD_nil (b :: r)]
    simp
theorem join_nil {ps : List (List Nat)} (h : (ps.map List.length).sum ≤ 1000000) : mJoin [] [.lst (ps.map D.str)] = some (.fz (.str ps.flatten)) := by
  show (match strsOf (ps.map D.str) with
    | some ps => if totalL ps + ps.length * ([] : List Nat).length ≤ LIM then some (O.fz (.str (joinD [] ps))) else none
    | none => none) = _
  have e : strsOf (ps.map D.str) = some ps := by
    have := strsOf_map (fun l : List Nat => l) ps
    simpa using this
  rw [e]
  show (if totalL ps + ps.length * ([] : List Nat).length ≤ LIM then some (O.fz (.str (joinD [] ps))) else none) = _
  rw [if_pos (by unfold totalL; simp; exact h), joinD_nil]
theorem join_signs {cs : List Nat} (h : cs.length ≤ 1000000) : mJoin [] [.lst (cs.map fun c => D.str [c])] = some (.fz (.str cs)) := by
  have e1 : ((cs.map fun c => [c]).map List.length).sum = cs.length := by
    induction cs with
    | nil => rfl
    | cons a r ih => simp [List.map_map] at ih ⊢; have := ih (by simp at h; omega); omega
  have := join_nil (ps := cs.map fun c => [c]) (by omega)
  rw [List.map_map] at this
  have e2 : (cs.map fun c => [c]).flatten = cs := by
    clear this h e1
    induction cs with
    | nil => rfl
    | cons a r ih => simp [ih]
  rw [e2] at this
  exact this
theorem okO_ite {α : Type} {c : Prop} [Decidable c] {a : α} {Q : α → Prop} : okO (if c then some a else none) Q ↔ c ∧ Q a := by
  by_cases h : c <;> simp [h, okO]
theorem cutL_mem {α : Type} {xs : List α} {lo hi : Option Int} : ∀ x ∈ cutL xs lo hi, x ∈ xs := fun x h => List.mem_of_mem_drop (List.mem_of_mem_take h)
theorem ok_mulS {a : List Nat} {n : Int} {Q : O → Prop} (h0 : 0 ≤ n) (h1 : n ≤ 1000) (h2 : a.length ≤ 1000) (q : Q (.fz (.str (List.replicate n.toNat a).flatten))) : okO (semMul [.str a, .int n]) Q := by
  show okO (if n.natAbs ≤ LIM ∧ a.length * n.toNat ≤ LIM then _ else none) Q
  have : a.length * n.toNat ≤ 1000 * 1000 := Nat.mul_le_mul h2 (by omega)
  have e : LIM = 1000000 := rfl
  rw [if_pos ⟨by omega, by omega⟩]
  exact q
theorem ok_addS {a b : List Nat} {Q : O → Prop} (h : a.length + b.length ≤ 1000000) (q : Q (.fz (.str (a ++ b)))) : okO (semAdd [.str a, .str b]) Q := by
  show okO (if a.length + b.length ≤ LIM then _ else none) Q
  rw [if_pos (show a.length + b.length ≤ LIM from h)]
  exact q
theorem rng_eq (n : Nat) : rng 0 n = (List.range n).map fun k => O.fz (.int (k : Nat)) := by
  unfold rng
  simp
theorem rng1_eq {j : Int} (h : j < 2 ^ 60) (h0 : 0 ≤ j) : rng1 [.int j] = some ((List.range j.toNat).map fun k => O.fz (.int (k : Nat))) := by
  have s1 : small62 j = true := small62_of (by omega) (by omega)
  show (if small62 j = true then some (rng 0 j.toNat) else none) = _
  rw [if_pos s1, rng_eq]
theorem rng1_lit (n : Nat) (h : n < 2 ^ 60) : rng1 [.int (n : Int)] = some ((List.range n).map fun k => O.fz (.int (k : Nat))) := by
  have := rng1_eq (j := (n : Int)) (by omega) (by omega)
  rwa [Int.toNat_natCast] at this
theorem cutL_take {α : Type} {xs : List α} {r : Int} (h : 0 ≤ r) : cutL xs none (some r) = xs.take r.toNat := by
  obtain ⟨k, rfl⟩ := Int.eq_ofNat_of_zero_le h
  show (xs.drop (HT.sIx xs.length 0 none)).take (HT.sIx xs.length xs.length (some (k : Int)) - HT.sIx xs.length 0 none) = _
  rw [HT.sIx_nat, HT.sIx_none, Nat.sub_zero, List.drop_zero, Int.toNat_natCast]
  rcases Nat.le_total k xs.length with z | z
  · rw [Nat.min_eq_left z]
  · rw [Nat.min_eq_right z, List.take_of_length_le (Nat.le_refl _), List.take_of_length_le z]
theorem cutL_drop {α : Type} {xs : List α} {r : Int} (h : 0 ≤ r) : cutL xs (some r) none = xs.drop r.toNat := by
  obtain ⟨k, rfl⟩ := Int.eq_ofNat_of_zero_le h
  show (xs.drop (HT.sIx xs.length 0 (some (k : Int)))).take (HT.sIx xs.length xs.length none - HT.sIx xs.length 0 (some (k : Int))) = _
  rw [HT.sIx_nat, HT.sIx_none, Int.toNat_natCast]
  rcases Nat.le_total k xs.length with z | z
  · rw [Nat.min_eq_left z, List.take_of_length_le (by simp)]
  · rw [Nat.min_eq_right z, List.drop_eq_nil_of_le z, List.drop_eq_nil_of_le (Nat.le_refl _)]
    simp
theorem erases_mapO : ∀ l : List D, O.erases (l.map O.fz) = l
  | [] => rfl
  | x :: l => by
    rw [List.map_cons, O.erases, erases_mapO l]
    rfl
/-- range(max(1, min(4, n))) -/
theorem rng_mm (c : Int) (hc : 1 ≤ c) (hc2 : c ≤ 100) (n : Nat) : ∃ k : Nat, rng1 [D.int (if 1 < if (n : Int) < c then (n : Int) else c then if (n : Int) < c then (n : Int) else c else 1)] = some ((List.range k).map fun j => O.fz (.int (j : Nat))) ∧ (k : Int) ≤ c ∧ k ≤ n + 1 := by
  refine ⟨(if 1 < if (n : Int) < c then (n : Int) else c then if (n : Int) < c then (n : Int) else c else 1 : Int).toNat, rng1_eq ?_ ?_, ?_, ?_⟩ <;> (repeat' split) <;> omega
theorem eq_bl (n a b : Bool) : semEq n [D.bl a, D.bl b] = some (.bl (n ^^ (a == b))) := by
  cases n <;> cases a <;> cases b <;> simp [semEq, okq, deq, xorB]
theorem rng_at {n k : Nat} {o : O} (h : ((List.range n).map fun j => O.fz (.int (j : Nat)))[k]? = some o) : o = .fz (.int (k : Nat)) ∧ k < n := by
  rw [List.getElem?_map, Option.map_eq_some_iff] at h
  obtain ⟨j, hj, rfl⟩ := h
  obtain ⟨h1, h2⟩ := List.getElem?_eq_some_iff.mp hj
  rw [List.getElem_range] at h2
  exact ⟨by rw [h2], by simpa using h1⟩
theorem eq_strN (n : Bool) (p w : List Nat) : semEq n [D.str p, D.str w] = some (.bl (n ^^ (p == w))) := by
  cases n <;> simp [semEq, okq, deq, xorB]
theorem eq_intN (n : Bool) (i j : Int) : semEq n [D.int i, D.int j] = some (.bl (n ^^ (i == j))) := by
  cases n <;> simp [semEq, okq, deq, xorB]
theorem cutL_lastN {α : Type} (l : List α) : cutL l (some (-1)) none = l.drop (l.length - 1) := by
  have e1 : HT.sIx l.length l.length none = l.length := rfl
  have e2 : HT.sIx l.length 0 (some (-1)) = l.length - 1 := by
    simp [HT.sIx]
    try omega
  unfold cutL
  rw [e1, e2, List.take_of_length_le (by simp)]
theorem cutL_init {α : Type} (l : List α) : cutL l none (some (-1)) = l.take (l.length - 1) := by
  have e1 : HT.sIx l.length 0 none = 0 := rfl
  have e2 : HT.sIx l.length l.length (some (-1)) = l.length - 1 := by
    simp [HT.sIx]
    try omega
  unfold cutL
  rw [e1, e2]
  simp
/-- a pure comprehension: nothing else changes -/
theorem comp_map {own : List Nat} {h : O → Env → Option Env} {el : Env → R O} {env : Env} {os : List O} {g : Nat → O} {Q : List O × Env → Prop}
    (st : ∀ k o, os[k]? = some o → okO (h o env) (kBody el (fun y e => y = g k ∧ offE (ownP own) 0 e = env) noX)) (q : Q ((List.range os.length).map g, env)) : okO (compLoop (ownP own) h tTrue el os env) Q := by
  have z := wp_comp (own := ownP own) (h := h) (t := tTrue) (el := el) (Q := Q) (os := os) (ys := []) (env := env) (fun rest ys e => e = env ∧ ∃ k, os.drop k = rest ∧ k ≤ os.length ∧ ys = (List.range k).map g) ⟨rfl, 0, rfl, Nat.zero_le _, rfl⟩ ?_ ?_
  · exact z
  · rintro o rest ys e ⟨rfl, k, hk, hl, rfl⟩
    have hlt : k < os.length := by
      rcases Nat.lt_or_ge k os.length with z | z
      · exact z
      · rw [List.drop_eq_nil_of_le z] at hk; cases hk
    have hg : os[k]? = some o := by
      have := congrArg (·[0]?) hk
      simpa using this
    have hr : os.drop (k + 1) = rest := by
      rw [List.drop_eq_getElem_cons hlt] at hk
      exact (List.cons.inj hk).2
    have s := st k o hg
    revert s
    cases h o e with
    | none => exact fun s => s
    | some e1 =>
      intro s
      show wpR (el e1) _ noX
      refine wpR_mono (show wpR (el e1) _ noX from s) ?_ fun _ _ _ z => z
      rintro y e3 ⟨rfl, e4⟩
      exact ⟨e4, k + 1, hr, hlt, by rw [List.range_succ, List.map_append]; rfl⟩
  · rintro ys e ⟨rfl, k, hk, hl, rfl⟩
    have : os.length ≤ k := by
      have := congrArg List.length hk
      simp at this
      omega
    have : k = os.length := by omega
    subst this
    exact q
theorem rng_atN {a : Int} {n k : Nat} {o : O} (h : (rng a n)[k]? = some o) : o = .fz (.int (a + (k : Nat))) ∧ k < n := by
  unfold rng at h
  rw [List.getElem?_map, Option.map_eq_some_iff] at h
  obtain ⟨j, hj, rfl⟩ := h
  obtain ⟨h1, h2⟩ := List.getElem?_eq_some_iff.mp hj
  rw [List.getElem_range] at h2
  exact ⟨by rw [h2], by simpa using h1⟩
theorem rng2_eq {i j : Int} (h1 : -(2 ^ 60) ≤ i) (h2 : i < 2 ^ 60) (h3 : -(2 ^ 60) ≤ j) (h4 : j < 2 ^ 60) : rng2 [.int i, .int j] = some (rng i (j - i).toNat) := by
  have s1 : small62 i = true := small62_of (by omega) (by omega)
  have s2 : small62 j = true := small62_of (by omega) (by omega)
  show (if small62 i = true ∧ small62 j = true then some (rng i (j - i).toNat) else none) = _
  rw [if_pos ⟨s1, s2⟩]
theorem len_rng (a : Int) (n : Nat) : (rng a n).length = n := by simp [rng]
/-- True in a list of booleans -/
theorem in_bls (b : Bool) (bs : List Bool) : semIn false [.bl b, .lst (bs.map D.bl)] = some (.bl (bs.contains b)) := by
  have h1 : okq 20 (D.bl b) = true := by simp [okq]
  have h2 : okq 20 (D.lst (bs.map D.bl)) = true := by simp [okq]
  show (if okq 20 (D.bl b) = true ∧ okq 20 (D.lst (bs.map D.bl)) = true then some (At.bl (xorB false ((bs.map D.bl).any fun z => deq z (D.bl b)))) else none) = _
  rw [if_pos ⟨h1, h2⟩]
  congr 2
  rw [Bool.eq_iff_iff]
  simp [xorB, deq]
theorem kComp_map {own : List Nat} {h : O → Env → Option Env} {el : Env → R O} {e1 : Env} {os : List O} {g : Nat → O} {Q : O → Env → Prop} (len : os.length ≤ 1000000)
    (st : ∀ k o, os[k]? = some o → okO (h o (offE (ownP own) 0 e1)) (kBody el (fun y e => y = g k ∧ offE (ownP own) 0 e = offE (ownP own) 0 e1) noX))
    (q : Q (.lst ((List.range os.length).map g)) (onE (ownP own) 0 (offE (ownP own) 0 e1) e1)) : kComp own h tTrue el Q os e1 :=
  ⟨len, comp_map (g := g) st q⟩
/-- .. over a list -/
theorem kComp_list {α : Type} {own : List Nat} {h : O → Env → Option Env} {el : Env → R O} {e1 : Env} {l : List α} {f : α → O} {g : α → O} {Q : O → Env → Prop} (len : l.length ≤ 1000000)
    (st : ∀ x ∈ l, okO (h (f x) (offE (ownP own) 0 e1)) (kBody el (fun y e => y = g x ∧ offE (ownP own) 0 e = offE (ownP own) 0 e1) noX))
    (q : Q (.lst (l.map g)) (onE (ownP own) 0 (offE (ownP own) 0 e1) e1)) : kComp own h tTrue el Q (l.map f) e1 := by
  cases l with
  | nil => exact ⟨by simp, q⟩
  | cons z l =>
    refine kComp_map (g := fun k => g (((z :: l)[k]?).getD z)) (by simpa using len) (fun k o ho => ?_) ?_
    · rw [List.getElem?_map, Option.map_eq_some_iff] at ho
      obtain ⟨x, hx, rfl⟩ := ho
      rw [hx]
      exact st x (List.mem_of_getElem? hx)
    · have e : (List.range ((z :: l).map f).length).map (fun k => g (((z :: l)[k]?).getD z)) = (z :: l).map g := by
        refine List.ext_getElem? fun k => ?_
        rw [List.getElem?_map, List.getElem?_map, List.length_map]
        rcases Nat.lt_or_ge k (z :: l).length with hk | hk
        · rw [List.getElem?_eq_getElem (by simpa using hk), List.getElem?_eq_getElem hk]
          simp only [List.getElem_range, Option.map_some]
          rw [List.getElem?_eq_getElem hk]
          rfl
        · rw [List.getElem?_eq_none (by simpa using hk), List.getElem?_eq_none hk]
          rfl
      rw [e]
      exact q
/-- .. with a test, over a list -/
theorem kComp_filter {α : Type} {own : List Nat} {h : O → Env → Option Env} {t : Env → R Bool} {el : Env → R O} {e1 : Env} {f : α → O} {p : α → Bool} {g : α → O} {Q : O → Env → Prop} {l : List α} (len : l.length ≤ 1000000)
    (st : ∀ x ∈ l, okO (h (f x) (offE (ownP own) 0 e1)) (kBody t (fun b e => b = p x ∧ (b = true → wpR (el e) (fun y e => y = g x ∧ offE (ownP own) 0 e = offE (ownP own) 0 e1) noX) ∧ (b = false → offE (ownP own) 0 e = offE (ownP own) 0 e1)) noX))
    (q : Q (.lst ((l.filter p).map g)) (onE (ownP own) 0 (offE (ownP own) 0 e1) e1)) : kComp own h t el Q (l.map f) e1 := by
  refine ⟨by simpa using len, ?_⟩
  have z : ∀ (l : List α), (∀ x ∈ l, okO (h (f x) (offE (ownP own) 0 e1)) (kBody t (fun b e => b = p x ∧ (b = true → wpR (el e) (fun y e => y = g x ∧ offE (ownP own) 0 e = offE (ownP own) 0 e1) noX) ∧ (b = false → offE (ownP own) 0 e = offE (ownP own) 0 e1)) noX)) →
      compLoop (ownP own) h t el (l.map f) (offE (ownP own) 0 e1) = some ((l.filter p).map g, offE (ownP own) 0 e1) := by
    intro l
    induction l with
    | nil => intro _; rfl
    | cons x l ih =>
      intro st
      have s := st x List.mem_cons_self
      have ih := ih fun y m => st y (List.mem_cons_of_mem _ m)
      rw [List.map_cons, compLoop]
      revert s
      cases h (f x) (offE (ownP own) 0 e1) with
      | none => exact fun s => s.elim
      | some e2 =>
        show wpR (t e2) _ noX → _
        simp only []
        cases t e2 with
        | exc c ds e => exact fun s => s.elim
        | bad => exact fun s => s.elim
        | ok b e3 =>
          rintro ⟨hb, s1, s2⟩
          cases b with
          | false =>
            have e4 := s2 rfl
            rw [List.filter_cons_of_neg (by rw [← hb]; decide)]
            show compLoop (ownP own) h t el (l.map f) (offE (ownP own) 0 e3) = _
            rw [e4]
            exact ih
          | true =>
            have s1 := s1 rfl
            rw [List.filter_cons_of_pos hb.symm]
            revert s1
            show _ → (match el e3 with
              | .ok y e4 => (compLoop (ownP own) h t el (l.map f) (offE (ownP own) 0 e4)).map fun (p : List O × Env) => (y :: p.1, p.2)
              | _ => none) = _
            cases el e3 with
            | exc c ds e => exact fun s => s.elim
            | bad => exact fun s => s.elim
            | ok y e5 =>
              rintro ⟨rfl, e6⟩
              show (compLoop (ownP own) h t el (l.map f) (offE (ownP own) 0 e5)).map _ = _
              rw [e6, ih]
              rfl
  rw [z l st]
  exact q
theorem slNS_s {l : List Nat} {j : Int} : semSlNS [.str l, .int j] = some (.fz (.str (cutL l none (some j)))) := rfl
theorem slSN_s {l : List Nat} {j : Int} : semSlSN [.str l, .int j] = some (.fz (.str (cutL l (some j) none))) := rfl
theorem slSS_s {l : List Nat} {i j : Int} : semSlSS [.str l, .int i, .int j] = some (.fz (.str (cutL l (some i) (some j)))) := rfl
theorem slNS_l {l : List D} {j : Int} : semSlNS [.lst l, .int j] = some (.lst ((cutL l none (some j)).map .fz)) := rfl
theorem slSN_l {l : List D} {j : Int} : semSlSN [.lst l, .int j] = some (.lst ((cutL l (some j) none).map .fz)) := rfl
theorem slSS_l {l : List D} {i j : Int} : semSlSS [.lst l, .int i, .int j] = some (.lst ((cutL l (some i) (some j)).map .fz)) := rfl
def kPick (π : List Nat) (Q : List Opd → Env → Prop) : List Opd → Env → Prop := fun ops e => Q (pick π ops) e
theorem wp_oPick {π f} {env : Env} {X : WXK} {Q} : wpR (oPick π f env) Q X ↔ wpR (f env) (kPick π Q) X := by
  unfold oPick
  cases h : f env <;> exact Iff.rfl
theorem wp_FR {r r' : FR} {Q : O → List O → Prop} {X : WXF} (h : r = r') (q : wpF r' Q X) : wpF r Q X := h ▸ q
end PyD
end

section
set_option Elab.async false
set_option linter.all false
set_option maxRecDepth 100000
namespace PyD
open PySem L2 PySem.Spec PyProof.Rows
/-! ### how long a text of repr is, and its signs -/
def cl (x : Str) : List Nat := x.cps.toList
theorem cl_app (x y : Str) : cl (x ++ y) = cl x ++ cl y := by
  show (x.cps ++ y.cps).toList = _
  rw [Array.toList_append]
  rfl
def nice (l : List Nat) (n : Nat) : Prop := l.length ≤ n ∧ ∀ c ∈ l, c < 128
theorem nice_app {a b : List Nat} {n m k : Nat} (h : nice a n) (h2 : nice b m) (hk : n + m ≤ k) : nice (a ++ b) k :=
  ⟨by rw [List.length_append]; have := h.1; have := h2.1; omega, fun c z => (List.mem_append.mp z).elim (h.2 c) (h2.2 c)⟩
theorem nice_up {a : List Nat} {n m : Nat} (h : nice a n) (hk : n ≤ m) : nice a m := ⟨Nat.le_trans h.1 hk, h.2⟩
theorem nice_dec {a : List Nat} {n : Nat} (h : (decide (a.length ≤ n) && a.all fun c => decide (c < 128)) = true) : nice a n := by
  simp only [Bool.and_eq_true, decide_eq_true_iff, List.all_eq_true] at h
  exact h
def szS : List (List Nat × Nat) → Nat
  | [] => 0
  | p :: r => p.2 + 2 + szS r
theorem nice_from : ∀ (ts : List Str) (ns : List Nat) (k : Nat) (acc : Str) (n : Nat), nice (cl acc) n → ts.length = ns.length → (∀ (i : Nat) (t : Str) (m : Nat), ts[i]? = some t → ns[i]? = some m → nice (cl t) m) → nice (cl (textFrom k acc ts)) (n + (ns.map (· + 2)).sum)
  | [], [], k, acc, n, h, _, _ => by simpa [textFrom] using h
  | [], _ :: _, k, acc, n, h, hl, _ => by cases hl
  | _ :: _, [], k, acc, n, h, hl, _ => by cases hl
  | t :: ts, m :: ns, k, acc, n, h, hl, hh => by
    unfold textFrom
    have h0 := hh 0 t m rfl rfl
    have hs : nice (cl ((if k > 0 then ", " else "" : String) : Str)) 2 := by
      split
      · exact nice_dec (by decide +kernel)
      · exact nice_dec (by decide +kernel)
    have e : nice (cl (acc ++ ((if k > 0 then ", " else "" : String) : Str) ++ t)) (n + 2 + m) := by
      rw [cl_app, cl_app]
      exact nice_app (nice_app h hs (Nat.le_refl _)) h0 (Nat.le_refl _)
    have := nice_from ts ns (k + 1) _ _ e (Nat.succ.inj hl) fun i t m a b => hh (i + 1) t m (by simpa using a) (by simpa using b)
    refine nice_up this ?_
    rw [List.map_cons, List.sum_cons]
    omega
theorem nice_list {ts : List Str} {ns : List Nat} (hl : ts.length = ns.length) (h : ∀ (i : Nat) (t : Str) (m : Nat), ts[i]? = some t → ns[i]? = some m → nice (cl t) m) : nice (cl (listText ts)) (2 + (ns.map (· + 2)).sum) := by
  unfold listText
  rw [cl_app]
  have a := nice_from ts ns 0 "[" 1 (nice_dec (by decide +kernel)) hl h
  exact nice_app a (m := 1) (nice_dec (by decide +kernel)) (by omega)
theorem nice_join : ∀ {ts : List Str} {ns : List Nat}, ts.length = ns.length → (∀ (i : Nat) (t : Str) (m : Nat), ts[i]? = some t → ns[i]? = some m → nice (cl t) m) → nice (cl (Str.join ", " ts)) (ns.map (· + 2)).sum
  | [], [], _, _ => ⟨by decide +kernel, fun c h => by have : cl (Str.join ", " []) = [] := rfl; rw [this] at h; cases h⟩
  | [], _ :: _, hl, _ => by cases hl
  | _ :: _, [], hl, _ => by cases hl
  | [t], [m], _, h => nice_up (h 0 t m rfl rfl) (by simp)
  | [t], m :: m' :: r, hl, _ => by simp at hl
  | t :: t' :: r, [m], hl, _ => by simp at hl
  | t :: t' :: r, m :: m' :: ns, hl, h => by
    have ih := nice_join (ts := t' :: r) (ns := m' :: ns) (Nat.succ.inj hl) fun i t m a b => h (i + 1) t m (by simpa using a) (by simpa using b)
    have e : Str.join ", " (t :: t' :: r) = t ++ ", " ++ Str.join ", " (t' :: r) := rfl
    rw [e, cl_app, cl_app]
    refine nice_app (nice_app (h 0 t m rfl rfl) (m := 2) (nice_dec (by decide +kernel)) (Nat.le_refl _)) ih ?_
    rw [List.map_cons, List.sum_cons]
    exact Nat.le_refl _
theorem nice_tuple {ts : List Str} {ns : List Nat} (hl : ts.length = ns.length) (h : ∀ (i : Nat) (t : Str) (m : Nat), ts[i]? = some t → ns[i]? = some m → nice (cl t) m) : nice (cl (tupleText ts)) (3 + (ns.map (· + 2)).sum) := by
  unfold tupleText
  rw [cl_app, cl_app]
  refine nice_app (nice_app (n := 1) (nice_dec (by decide +kernel)) (nice_join hl h) (Nat.le_refl _)) (m := 2) ?_ (by omega)
  split
  · exact nice_dec (by decide +kernel)
  · exact nice_dec (by decide +kernel)
/-- signs that repr writes as they are -/
def plainC (c : Nat) : Bool := decide (32 ≤ c) && decide (c < 127) && !(c == 39) && !(c == 92)
theorem plain_tab : ((List.range 127).all fun c => !plainC c || Unicode.isPrintable c) = true := by decide +kernel
theorem reprChar_plain {c : Nat} (h : plainC c = true) : Builtin.Str.reprChar 39 c = [c] := by
  have h1 := List.all_eq_true.mp plain_tab
  unfold plainC at h
  have h0 := h
  simp only [Bool.and_eq_true, decide_eq_true_iff, Bool.not_eq_true', beq_eq_false_iff_ne] at h
  have hp := h1 c (List.mem_range.mpr h.1.1.2)
  have hq : plainC c = true := h0
  rw [hq] at hp
  have hp : Unicode.isPrintable c = true := by simpa using hp
  unfold Builtin.Str.reprChar
  have a1 : (c == 39 || c == 92) = false := by simp [h.1.2, h.2]
  have a2 : (c == 10) = false := by simp; omega
  have a3 : (c == 13) = false := by simp; omega
  have a4 : (c == 9) = false := by simp; omega
  simp [a1, a2, a3, a4, hp]
theorem fold_plain : ∀ (l : List Nat) (acc : Array Nat), (∀ c ∈ l, plainC c = true) → l.foldl (fun out c => out ++ (Builtin.Str.reprChar 39 c).toArray) acc = acc ++ l.toArray
  | [], acc, _ => by simp
  | c :: l, acc, h => by
    rw [List.foldl_cons, reprChar_plain (h c List.mem_cons_self), fold_plain l _ fun x m => h x (List.mem_cons_of_mem _ m)]
    simp
theorem repr_plain {l : List Nat} (h : ∀ c ∈ l, plainC c = true) : cl (reprText (sOf l)) = 39 :: (l ++ [39]) := by
  have n39 : l.contains 39 = false := by
    cases hc : l.contains 39 with
    | false => rfl
    | true =>
      have := h 39 (List.contains_iff_mem.mp hc)
      cases this
  have q : reprQuote (sOf l) = 39 := by
    unfold reprQuote
    have : (sOf l).cps.contains 39 = false := by
      rw [← n39]
      simp [sOf]
    rw [this]
    rfl
  unfold reprText cl
  rw [q, Array.toList_push, ← Array.foldl_toList]
  have e : (sOf l).cps.toList = l := toList_sOf l
  rw [e, fold_plain l _ h]
  simp
mutual
/-- data whose repr is short and of plain signs: its size -/
def rsz : D → Nat
  | .non => 4
  | .bl _ => 5
  | .int _ => 0
  | .str l => l.length + 2
  | .lst xs => 2 + rszs xs
  | .tup xs => 3 + rszs xs
  | .dic _ => 0
  | .set _ => 0
def rszs : List D → Nat
  | [] => 0
  | x :: xs => rsz x + 2 + rszs xs
end
mutual
def rgood : D → Bool
  | .non => true
  | .bl _ => true
  | .int _ => false
  | .str l => l.all plainC
  | .lst xs => rgoods xs
  | .tup xs => rgoods xs
  | .dic _ => false
  | .set _ => false
def rgoods : List D → Bool
  | [] => true
  | x :: xs => rgood x && rgoods xs
end
mutual
theorem rgood_ok : ∀ {d : D}, rgood d = true → nice (cl (toPy d).shown) (rsz d)
  | .non, _ => by
    simp only [toPy, PyData.shown, rsz]
    exact nice_dec (by decide +kernel)
  | .bl b, _ => by
    simp only [toPy, PyData.shown, rsz]
    cases b
    · exact nice_dec (by decide +kernel)
    · exact nice_dec (by decide +kernel)
  | .int _, h => by simp [rgood] at h
  | .str l, h => by
    simp only [rgood, List.all_eq_true] at h
    simp only [toPy, PyData.shown, rsz]
    rw [repr_plain h]
    refine ⟨by simp, fun c m => ?_⟩
    rcases List.mem_cons.mp m with rfl | m
    · decide
    · rcases List.mem_append.mp m with m | m
      · have := h c m
        simp only [plainC, Bool.and_eq_true, decide_eq_true_iff] at this
        omega
      · have : c = 39 := by simpa using m
        omega
  | .lst xs, h => by
    simp only [rgood] at h
    simp only [toPy, PyData.shown, rsz]
    obtain ⟨ns, e, hl, hh⟩ := rgoods_ok h
    rw [← e]
    exact nice_list hl hh
  | .tup xs, h => by
    simp only [rgood] at h
    simp only [toPy, PyData.shown, rsz]
    obtain ⟨ns, e, hl, hh⟩ := rgoods_ok h
    rw [← e]
    exact nice_tuple hl hh
  | .dic _, h => by simp [rgood] at h
  | .set _, h => by simp [rgood] at h
theorem rgoods_ok : ∀ {xs : List D}, rgoods xs = true → ∃ ns : List Nat, (ns.map (· + 2)).sum = rszs xs ∧ (PyData.shownAll (toPys xs)).length = ns.length ∧ ∀ (i : Nat) (t : Str) (m : Nat), (PyData.shownAll (toPys xs))[i]? = some t → ns[i]? = some m → nice (cl t) m
  | [], _ => ⟨[], rfl, by simp [toPys, PyData.shownAll], fun i t m a b => by simp at b⟩
  | x :: xs, h => by
    simp only [rgoods, Bool.and_eq_true] at h
    have a := rgood_ok h.1
    obtain ⟨ns, e, hl, hh⟩ := rgoods_ok h.2
    refine ⟨rsz x :: ns, by simp only [List.map_cons, List.sum_cons, rszs, e], by simp [toPys, PyData.shownAll, hl], fun i t m p q => ?_⟩
    simp only [toPys, PyData.shownAll] at p
    cases i with
    | zero =>
      simp at p q
      subst p q
      exact a
    | succ i => exact hh i t m (by simpa using p) (by simpa using q)
end
theorem okRp_of {d : D} (h : rgood d = true) (hf : flat 20 d = true) (hs : rsz d ≤ 1000000) : okRp d = true ∧ okB (rpD d) = true := by
  obtain ⟨h1, h2⟩ := rgood_ok h
  have e : rpD d = cl (toPy d).shown := by unfold rpD; rfl
  have l : (rpD d).length ≤ 1000000 := by rw [e]; exact Nat.le_trans h1 hs
  constructor
  · unfold okRp
    rw [hf, decide_eq_true (show (rpD d).length ≤ LIM from l)]
    rfl
  · unfold okB
    rw [decide_eq_true (show (rpD d).length ≤ LIM from l), Bool.true_and, List.all_eq_true]
    intro c m
    rw [e] at m
    exact decide_eq_true (h2 c m)
theorem semRepr_ok {d : D} (h : rgood d = true) (hf : flat 20 d = true) (hs : rsz d ≤ 1000000) : semRepr [d] = some (.str (rpD d)) := by
  show (if okRpA d = true ∧ okB (rpD d) = true then some (At.str (rpD d)) else none) = _
  obtain ⟨a, b⟩ := okRp_of h hf hs
  rw [if_pos ⟨by unfold okRpA; rw [a]; rfl, b⟩]
theorem rg_bls : ∀ bs : List Bool, rgoods (bs.map D.bl) = true ∧ (∀ n, flats n (bs.map D.bl) = true) ∧ rszs (bs.map D.bl) = 7 * bs.length
  | [] => ⟨rfl, fun _ => by simp [flats], rfl⟩
  | b :: r => by
    obtain ⟨a, c, e⟩ := rg_bls r
    exact ⟨by simp [rgoods, rgood, a], fun n => by simp [flats, flat, c n], by simp only [List.map_cons, rszs, rsz, e, List.length_cons]; omega⟩
theorem repr_bls (bs : List Bool) (h : bs.length ≤ 1000) : semRepr [.lst (bs.map D.bl)] = some (.str (rpD (.lst (bs.map D.bl)))) := by
  obtain ⟨a, c, e⟩ := rg_bls bs
  exact semRepr_ok (by simp only [rgood]; exact a) (by simp only [flat]; exact c 19) (by simp only [rsz, e]; omega)
theorem rg_strs : ∀ ls : List (List Nat), (∀ l ∈ ls, ∀ c ∈ l, plainC c = true) → rgoods (ls.map D.str) = true ∧ (∀ n, flats n (ls.map D.str) = true) ∧ rszs (ls.map D.str) = (ls.map fun l => l.length + 4).sum
  | [], _ => ⟨rfl, fun _ => by simp [flats], rfl⟩
  | b :: r, h => by
    obtain ⟨a, c, e⟩ := rg_strs r fun l m => h l (List.mem_cons_of_mem _ m)
    refine ⟨?_, fun n => by simp [flats, flat, c n], by simp only [List.map_cons, rszs, rsz, e, List.sum_cons]⟩
    have : b.all plainC = true := List.all_eq_true.mpr (h b List.mem_cons_self)
    simp only [List.map_cons, rgoods, rgood, a, this, Bool.and_true]
theorem repr_blsF {α : Type} (l : List α) (g : α → Bool) (h : l.length ≤ 1000) : semRepr [.lst (l.map fun x => D.bl (g x))] = some (.str (rpD (.lst (l.map fun x => D.bl (g x))))) := by
  have := repr_bls (l.map g) (by simpa using h)
  rwa [List.map_map] at this
end PyD
end

section
set_option Elab.async false
set_option linter.all false
set_option maxRecDepth 100000
set_option exponentiation.threshold 100000
namespace PyD.k01
open PySem L2 PySem.Spec PyProof.Rows PyD
abbrev I (i : Int) : O := .fz (.int i)
abbrev S (l : List Nat) : O := .fz (.str l)
abbrev Bg (a b c : Int) : O := .lst [I a, I b, I c]
theorem big_of {i : Int} (h : i.natAbs < 10 ^ 80) : isBig i = true := by
  have h1 : i.natAbs < 2 ^ 300 := Nat.lt_of_lt_of_le h (by decide)
  have h2 : 2 ^ 300 ≤ BIG := Nat.pow_le_pow_right (by decide) (by decide)
  exact decide_eq_true (Nat.lt_of_lt_of_le h1 h2)
theorem sd_of {i : Int} (h : 0 < i) (h1 : i.natAbs < 10 ^ 30) : smallDiv i = true := by
  have h2 : i.natAbs < 2 ^ 100 := Nat.lt_of_lt_of_le h1 (by decide)
  unfold smallDiv
  rw [decide_eq_true h, decide_eq_true (Nat.lt_of_lt_of_le h2 (Nat.pow_le_pow_right (by decide) (by decide)))]
  rfl
/-- the bag of the draws -/
structure Bag (m : Nat) (o : O) : Prop where
  ex : ∃ a b c : Int, o = Bg a b c ∧ b.natAbs < 10 ^ 60 ∧ c.natAbs ≤ m
theorem Bag.up {m k : Nat} {o : O} (h : Bag m o) (hk : m ≤ k) : Bag k o := by
  obtain ⟨a, b, c, e, h1, h2⟩ := h.ex
  exact ⟨a, b, c, e, h1, Nat.le_trans h2 hk⟩
theorem draw_ok {m : Nat} {o : O} {n : Int} (B : Bag m o) (hm : m < 10 ^ 20) (hn : 0 < n) (hn2 : n < 10 ^ 20) :
    ∃ r o', φ__law_draw [o, I n] = .ret (I r) [o', I n] ∧ 0 ≤ r ∧ r < n ∧ Bag (m + 1) o' := by
  obtain ⟨a, b, c, rfl, hb, hc⟩ := B.ex
  have hn3 : smallDiv n = true := sd_of hn (by omega)
  have at0 : atI [D.int a, .int b, .int c] 0 = some (.int a) := rfl
  have ix0 : ixN 3 0 = some 0 := rfl
  have ix2 : ixN 3 2 = some 2 := rfl
  have at1 (c : Int) : atI [D.int a, .int b, .int c] 1 = some (.int b) := rfl
  have at2 (c : Int) : atI [D.int a, .int b, .int c] 2 = some (.int c) := rfl
  by_cases ha : 0 < a
  · refine ⟨a % n, Bg (a / n) b c, ?_, Int.emod_nonneg _ (by omega), Int.emod_lt_of_pos _ hn, ⟨_, _, _, rfl, hb, by omega⟩⟩
    simp [φ__law_draw, b__law_draw, sSeq, sIf, sRet, sExpr, sAsg, sPar, sNil, sPass, oNil, oVar, oExp, eA, eB, eC, eVar, eMove, eLst, eTup, aNil, aCons, eM, eAnd, eOr, eNot, eIf, tBool, tAnd', tOr', tNot', tTrue, iRd, iVal, iFz, gN, gSet, gT, gsNil, gsCons, gStar1, setAt, setO, resA, resB, O.erase, O.erases, O.shal, O.isFz, At.d, semInt2, semIx, semGt, semLt, semLe, semGe, ordD, semInt, semMod, semDiv, semSub, semAdd, semMul, semPow, semNeg, semAbs, semMax2, semMin2, semLen, entryO, outsO, fnSem, eCall, takeOps, putOps, ha, hn, hn3, at0, ix0]
  · have i1 : isBig 32452867 = true := big_of (by decide)
    have i2 : isBig 15485867 = true := big_of (by decide)
    have i3 : isBig (c + 1) = true := big_of (by omega)
    have i0 : isBig 10 = true := big_of (by decide)
    have p1 : powOk 10 41 = true := by unfold powOk; rw [i0]; rfl
    have p2 : powOk 10 43 = true := by unfold powOk; rw [i0]; rfl
    have i4 : powOk (b + 32452867 * (c + 1)) 3 = true := by
      unfold powOk
      rw [big_of (by omega)]
      rfl
    have x1 : (0 : Int) < 100000000000000000000000000000000000000147 := by decide
    have i5 (y : Int) : powOk (y % 100000000000000000000000000000000000000147 + 15485867 * (c + 1)) 3 = true := by
      unfold powOk
      have y1 := Int.emod_nonneg y (show (100000000000000000000000000000000000000147 : Int) ≠ 0 by decide)
      have y2 := Int.emod_lt_of_pos y x1
      rw [big_of (by omega)]
      rfl
    have sd : smallDiv 1048573 = true := sd_of (by decide) (by decide)
    have z : ∃ y : Int, φ__law_draw [Bg a b c, I n] = .ret (I (y % n)) [Bg a b (c + 1), I n] := by
      simp [φ__law_draw, b__law_draw, sSeq, sIf, sRet, sExpr, sAsg, sPar, sNil, sPass, oNil, oVar, oExp, eA, eB, eC, eVar, eMove, eLst, eTup, aNil, aCons, eM, eAnd, eOr, eNot, eIf, tBool, tAnd', tOr', tNot', tTrue, iRd, iVal, iFz, gN, gSet, gT, gsNil, gsCons, gStar1, setAt, setO, resA, resB, O.erase, O.erases, O.shal, O.isFz, At.d, semInt2, semIx, semGt, semLt, semLe, semGe, ordD, semInt, semMod, semDiv, semSub, semAdd, semMul, semPow, semNeg, semAbs, semMax2, semMin2, semLen, entryO, outsO, fnSem, eCall, takeOps, putOps, ha, hn, at0, at1, at2, ix2, i1, i2, i3, i4, i5, p1, p2, sd]
      exact ⟨_, rfl⟩
    obtain ⟨y, z⟩ := z
    exact ⟨y % n, Bg a b (c + 1), z, Int.emod_nonneg _ (by omega), Int.emod_lt_of_pos _ hn, ⟨_, _, _, rfl, hb, by omega⟩⟩
theorem source_ok {x k : Int} (h0 : 0 ≤ k) (h1 : k < 4) : ∃ o, φ__law_source [I x, I k] = .ret o [I x, I k] ∧ Bag 0 o := by
  have i0 : isBig 10 = true := big_of (by decide)
  have p1 : powOk 10 18 = true := by unfold powOk; rw [i0]; rfl
  have p2 : powOk 10 36 = true := by unfold powOk; rw [i0]; rfl
  have i1 : isBig 127 = true := big_of (by decide)
  have i2 : isBig 1000003 = true := big_of (by decide)
  have i3 : isBig k = true := big_of (by omega)
  have md (y : Int) : 0 ≤ y % 1000000000000000000000000000000000067 ∧ y % 1000000000000000000000000000000000067 < 1000000000000000000000000000000000067 := ⟨Int.emod_nonneg _ (by decide), Int.emod_lt_of_pos _ (by decide)⟩
  have i4 (y : Int) : isBig (y % 1000000000000000000000000000000000067) = true := by
    have := md y
    exact big_of (by omega)
  have z : ∃ a y : Int, φ__law_source [I x, I k] = .ret (Bg a (y % 1000000000000000000000000000000000067 * 127 + 1000003 * k + 13) 0) [I x, I k] := by
    simp [φ__law_source, b__law_source, sSeq, sIf, sRet, sExpr, sAsg, sPar, sNil, sPass, oNil, oVar, oExp, eA, eB, eC, eVar, eMove, eLst, eTup, aNil, aCons, eM, eAnd, eOr, eNot, eIf, tBool, tAnd', tOr', tNot', tTrue, iRd, iVal, iFz, gN, gSet, gT, gsNil, gsCons, gStar1, setAt, setO, resA, resB, O.erase, O.erases, O.shal, O.isFz, At.d, semInt2, semIx, semGt, semLt, semLe, semGe, ordD, semInt, semMod, semDiv, semSub, semAdd, semMul, semPow, semNeg, semAbs, semMax2, semMin2, semLen, entryO, outsO, fnSem, eCall, takeOps, putOps, p1, p2, i1, i2, i3, i4]
    exact ⟨_, rfl⟩
  obtain ⟨a, y, z⟩ := z
  have := md y
  exact ⟨_, z, ⟨_, _, _, rfl, by omega, by decide⟩⟩
theorem draw_wp {m : Nat} {o : O} {n : Int} (B : Bag m o) (hm : m < 10 ^ 20) (hn : 0 < n) (hn2 : n < 10 ^ 20) :
    wpF (φ__law_draw [o, I n]) (fun x outs => ∃ r a b c, x = I r ∧ outs = [Bg a b c, I n] ∧ 0 ≤ r ∧ r < n ∧ Bag (m + 1) (Bg a b c)) noF := by
  obtain ⟨r, o', e, h0, h1, b⟩ := draw_ok B hm hn hn2
  obtain ⟨x, y, z, rfl, _, _⟩ := b.ex
  rw [e]
  exact ⟨r, x, y, z, rfl, rfl, h0, h1, b⟩
theorem source_wp {x k : Int} (h0 : 0 ≤ k) (h1 : k < 4) : wpF (φ__law_source [I x, I k]) (fun o outs => ∃ a b c, o = Bg a b c ∧ outs = [I x, I k] ∧ Bag 0 (Bg a b c)) noF := by
  have h := source_ok (x := x) h0 h1
  refine h.elim fun o h2 => ?_
  have b := h2.2
  have e := h2.1
  clear h h2
  have b1 := b.ex
  clear b
  clear h0 h1
  obtain ⟨x', y, z, h3, h4⟩ := b1
  subst h3
  rw [e]
  exact ⟨x', y, z, rfl, rfl, ⟨x', y, z, rfl, h4⟩⟩
end PyD.k01
end

section
set_option Elab.async false
set_option linter.all false
set_option maxRecDepth 100000
namespace PyD
/-! ### patterns and words: what fits (plain) -/
/-- the sign 42 stands for any text -/
def Fm : List Nat → List Nat → Prop
  | [], w => w = []
  | c :: m, w => if c = 42 then ∃ k, k ≤ w.length ∧ Fm m (w.drop k) else ∃ r, w = c :: r ∧ Fm m r
/-- by pieces -/
def fitP : List (List Nat) → List Nat → Prop
  | [], _ => False
  | [q], w => w = q
  | q :: p :: r, w => ∃ u, w = q ++ u ∧ ∃ k, k ≤ u.length ∧ fitP (p :: r) (u.drop k)
theorem fitP_cons {q : List Nat} {r : List (List Nat)} (h : r ≠ []) (w : List Nat) : fitP (q :: r) w ↔ ∃ u, w = q ++ u ∧ ∃ k, k ≤ u.length ∧ fitP r (u.drop k) := by
  cases r with
  | nil => exact absurd rfl h
  | cons p r => exact Iff.rfl
theorem fm_fitP : ∀ (m w : List Nat), Fm m w ↔ fitP (splitC 42 m) w
  | [], w => by simp [Fm, splitC, fitP]
  | c :: m, w => by
    by_cases hc : c = 42
    · have e : splitC 42 (c :: m) = [] :: splitC 42 m := by rw [splitC, if_pos hc]
      rw [e, fitP_cons (splitC_ne 42 m), Fm, if_pos hc]
      constructor
      · rintro ⟨k, hk, h⟩
        exact ⟨w, rfl, k, hk, (fm_fitP m _).mp h⟩
      · rintro ⟨u, rfl, k, hk, h⟩
        exact ⟨k, hk, (fm_fitP m _).mpr h⟩
    · rw [Fm, if_neg hc]
      cases hs : splitC 42 m with
      | nil => exact absurd hs (splitC_ne 42 m)
      | cons h t =>
        have e : splitC 42 (c :: m) = (c :: h) :: t := by rw [splitC, if_neg hc, hs]
        rw [e]
        have ih := fun r => fm_fitP m r
        rw [hs] at ih
        cases t with
        | nil =>
          constructor
          · rintro ⟨r, rfl, hr⟩
            have := (ih r).mp hr
            show c :: r = c :: h
            rw [show r = h from this]
          · intro hw
            exact ⟨h, hw, (ih h).mpr rfl⟩
        | cons p t =>
          constructor
          · rintro ⟨r, rfl, hr⟩
            obtain ⟨u, rfl, k, hk, hh⟩ := (ih r).mp hr
            exact ⟨u, rfl, k, hk, hh⟩
          · rintro ⟨u, rfl, k, hk, hh⟩
            exact ⟨h ++ u, rfl, (ih _).mpr ⟨u, rfl, k, hk, hh⟩⟩
/-! ### each piece as early as possible -/
def greedy (w : List Nat) (last : List Nat) : List (List Nat) → Nat → Bool
  | [], place => decide (place + last.length ≤ w.length) && isSuf last w
  | m :: ms, place => match findL w m place with
    | none => false
    | some i => greedy w last ms (i + m.length)
theorem isPre_iff {b l : List Nat} : isPre b l = true ↔ ∃ u, l = b ++ u := by
  unfold isPre
  rw [beq_iff_eq]
  constructor
  · intro h
    exact ⟨l.drop b.length, by
      have := List.take_append_drop b.length l
      rw [h] at this
      exact this.symm⟩
  · rintro ⟨u, rfl⟩
    simp
theorem findL_some {w m : List Nat} {p i : Nat} (h : findL w m p = some i) : p ≤ i ∧ i ≤ w.length ∧ isPre m (w.drop i) = true ∧ ∀ j, p ≤ j → j < i → isPre m (w.drop j) = false := by
  unfold findL at h
  split at h
  · rename_i hp
    obtain ⟨a, b, c, d⟩ := findAt_some h
    rw [List.length_drop] at b
    rw [List.drop_drop] at c
    refine ⟨a, by omega, by rw [show p + (i - p) = i by omega] at c; exact c, fun j h1 h2 => ?_⟩
    have := d j h1 h2
    rw [List.drop_drop, show p + (j - p) = j by omega] at this
    exact this
  · cases h
theorem findL_none {w m : List Nat} {p : Nat} (h : findL w m p = none) : ∀ j, p ≤ j → j ≤ w.length → isPre m (w.drop j) = false := by
  unfold findL at h
  split at h
  · intro j h1 h2
    have := findAt_none h (j - p) (by rw [List.length_drop]; omega)
    rw [List.drop_drop, show p + (j - p) = j by omega] at this
    exact this
  · intro j h1 h2
    omega
theorem isSuf_iff {b l : List Nat} : isSuf b l = true ↔ b.length ≤ l.length ∧ l.drop (l.length - b.length) = b := by
  unfold isSuf
  rw [Bool.and_eq_true, decide_eq_true_iff, beq_iff_eq]
theorem greedy_iff (w last : List Nat) : ∀ (ms : List (List Nat)) (p : Nat), p ≤ w.length → (greedy w last ms p = true ↔ ∃ k, p ≤ k ∧ k ≤ w.length ∧ fitP (ms ++ [last]) (w.drop k))
  | [], p, hp => by
    unfold greedy
    rw [Bool.and_eq_true, decide_eq_true_iff, isSuf_iff]
    constructor
    · rintro ⟨h1, h2, h3⟩
      exact ⟨w.length - last.length, by omega, by omega, h3⟩
    · rintro ⟨k, h1, h2, h3⟩
      have e : w.drop k = last := h3
      have el : w.length - k = last.length := by rw [← e, List.length_drop]
      refine ⟨by omega, by omega, ?_⟩
      rw [show w.length - last.length = k by omega]
      exact e
  | m :: ms, p, hp => by
    have ne : ms ++ [last] ≠ [] := by simp
    unfold greedy
    have cons : ∀ k, fitP ((m :: ms) ++ [last]) (w.drop k) ↔ ∃ u, w.drop k = m ++ u ∧ ∃ j, j ≤ u.length ∧ fitP (ms ++ [last]) (u.drop j) := fun k => fitP_cons ne _
    have tail : ∀ {k : Nat} {u : List Nat}, w.drop k = m ++ u → u = w.drop (k + m.length) := fun {k u} e => by
      rw [← List.drop_drop, e]
      simp
    cases hf : findL w m p with
    | none =>
      constructor
      · intro h; cases h
      · rintro ⟨k, h1, h2, h3⟩
        obtain ⟨u, e, _⟩ := (cons k).mp h3
        have := findL_none hf k h1 h2
        rw [isPre_iff.mpr ⟨u, e⟩] at this
        cases this
    | some i =>
      obtain ⟨a1, a2, a3, a4⟩ := findL_some hf
      obtain ⟨u0, e0⟩ := isPre_iff.mp a3
      have len0 : i + m.length ≤ w.length := by
        have := congrArg List.length e0
        rw [List.length_drop, List.length_append] at this
        omega
      show greedy w last ms (i + m.length) = true ↔ _
      rw [greedy_iff w last ms (i + m.length) len0]
      constructor
      · rintro ⟨k, h1, h2, h3⟩
        refine ⟨i, a1, a2, (cons i).mpr ⟨u0, e0, k - (i + m.length), ?_, ?_⟩⟩
        · rw [tail e0, List.length_drop]
          omega
        · rw [tail e0, List.drop_drop, show i + m.length + (k - (i + m.length)) = k by omega]
          exact h3
      · rintro ⟨k, h1, h2, h3⟩
        obtain ⟨u, e, j, hj, h4⟩ := (cons k).mp h3
        have le : i ≤ k := by
          apply Nat.le_of_not_lt
          intro lt
          have := a4 k h1 lt
          rw [isPre_iff.mpr ⟨u, e⟩] at this
          cases this
        have hu := tail e
        have lk : k + m.length ≤ w.length := by
          have := congrArg List.length e
          rw [List.length_drop, List.length_append] at this
          omega
        rw [hu, List.length_drop] at hj
        rw [hu, List.drop_drop] at h4
        exact ⟨k + m.length + j, by omega, by omega, h4⟩
/-- the whole -/
def fitsB (p w : List Nat) : Bool := match splitC 42 p with
  | [] => false
  | [q] => q == w
  | q :: r => isPre q w && greedy w (r.getLastD []) r.dropLast q.length
theorem fitsB_iff (p w : List Nat) : fitsB p w = true ↔ Fm p w := by
  rw [fm_fitP]
  unfold fitsB
  cases hs : splitC 42 p with
  | nil => exact absurd hs (splitC_ne 42 p)
  | cons q r =>
    cases r with
    | nil =>
      show (q == w) = true ↔ w = q
      rw [beq_iff_eq]
      exact ⟨fun h => h.symm, fun h => h.symm⟩
    | cons a r =>
      show (isPre q w && greedy w ((a :: r).getLastD []) (a :: r).dropLast q.length) = true ↔ _
      have split : (a :: r) = (a :: r).dropLast ++ [(a :: r).getLastD []] := by
        have h1 := List.dropLast_concat_getLast (l := a :: r) (by simp)
        rw [List.getLastD_eq_getLast?, List.getLast?_eq_some_getLast (by simp)]
        exact h1.symm
      rw [Bool.and_eq_true, isPre_iff]
      constructor
      · rintro ⟨⟨u, rfl⟩, h⟩
        obtain ⟨k, h1, h2, h3⟩ := (greedy_iff _ _ _ _ (by simp)).mp h
        rw [← split] at h3
        refine ⟨u, rfl, k - q.length, by simp at h2; omega, ?_⟩
        have e : (q ++ u).drop k = u.drop (k - q.length) := by
          rw [List.drop_append, List.drop_eq_nil_of_le h1]
          rfl
        rw [e] at h3
        exact h3
      · rintro ⟨u, rfl, k, hk, h⟩
        refine ⟨⟨u, rfl⟩, (greedy_iff _ _ _ _ (by simp)).mpr ⟨q.length + k, by omega, by simp; omega, ?_⟩⟩
        rw [← split]
        have e : (q ++ u).drop (q.length + k) = u.drop k := by simp
        rw [e]
        exact h
end PyD
end

section
set_option Elab.async false
set_option linter.all false
set_option maxRecDepth 100000
namespace PyD
/-! ### all places, sign by sign -/
def minN : List Nat → Option Nat
  | [] => none
  | a :: r => match minN r with
    | some m => some (if m ≤ a then m else a)
    | none => some a
theorem minN_some : ∀ {l : List Nat} {m : Nat}, minN l = some m → m ∈ l ∧ ∀ y ∈ l, m ≤ y
  | [], m, h => by cases h
  | a :: r, m, h => by
    unfold minN at h
    cases q : minN r with
    | none =>
      rw [q] at h
      cases h
      cases r with
      | nil => exact ⟨List.mem_cons_self, fun y h => by simp at h; omega⟩
      | cons b r =>
        unfold minN at q
        split at q <;> cases q
    | some n =>
      rw [q] at h
      cases h
      obtain ⟨i1, i2⟩ := minN_some q
      show (if n ≤ a then n else a) ∈ a :: r ∧ _
      split
      · exact ⟨List.mem_cons_of_mem _ i1, fun y h => (List.mem_cons.mp h).elim (fun z => by omega) (i2 y)⟩
      · exact ⟨List.mem_cons_self, fun y h => (List.mem_cons.mp h).elim (fun z => by omega) fun z => by have := i2 y z; omega⟩
theorem minN_none {l : List Nat} (h : minN l = none) : l = [] := by
  cases l with
  | nil => rfl
  | cons a r =>
    unfold minN at h
    split at h <;> cases h
def step1 (w : List Nat) (c : Nat) (ps : List Nat) : List Nat :=
  if c = 42 then match minN ps with
    | none => []
    | some a => (List.range (w.length + 1 - a)).map fun k => a + k
  else (ps.filter fun p => w[p]? == some c).map fun p => p + 1
def search (w : List Nat) : List Nat → List Nat → List Nat
  | [], ps => ps
  | c :: m, ps => search w m (step1 w c ps)
theorem step1_le {w : List Nat} {c : Nat} {ps : List Nat} (h : ∀ p ∈ ps, p ≤ w.length) : ∀ p ∈ step1 w c ps, p ≤ w.length := by
  intro p hp
  unfold step1 at hp
  split at hp
  · split at hp
    · cases hp
    · obtain ⟨k, hk, rfl⟩ := List.mem_map.mp hp
      have := List.mem_range.mp hk
      omega
  · obtain ⟨q, hq, rfl⟩ := List.mem_map.mp hp
    have := (List.mem_filter.mp hq).2
    rw [beq_iff_eq] at this
    have := (List.getElem?_eq_some_iff.mp this).1
    omega
theorem drop_cons {w : List Nat} {p c : Nat} (h : w[p]? = some c) : w.drop p = c :: w.drop (p + 1) := by
  obtain ⟨hp, e⟩ := List.getElem?_eq_some_iff.mp h
  rw [List.drop_eq_getElem_cons hp, e]
theorem step1_ok {w : List Nat} {c : Nat} {m ps : List Nat} (h : ∀ p ∈ ps, p ≤ w.length) : (∃ p ∈ ps, Fm (c :: m) (w.drop p)) ↔ ∃ p ∈ step1 w c ps, Fm m (w.drop p) := by
  unfold step1
  by_cases hc : c = 42
  · rw [if_pos hc]
    have key : ∀ p, Fm (c :: m) (w.drop p) ↔ ∃ k, k ≤ (w.drop p).length ∧ Fm m ((w.drop p).drop k) := fun p => by
      rw [Fm, if_pos hc]
    cases hm : minN ps with
    | none =>
      rw [minN_none hm]
      simp
    | some a =>
      obtain ⟨a1, a2⟩ := minN_some hm
      constructor
      · rintro ⟨p, hp, hf⟩
        obtain ⟨k, hk, hf⟩ := (key p).mp hf
        rw [List.length_drop] at hk
        rw [List.drop_drop] at hf
        have := a2 p hp
        have := h p hp
        exact ⟨p + k, List.mem_map.mpr ⟨p + k - a, List.mem_range.mpr (by omega), by omega⟩, hf⟩
      · rintro ⟨q, hq, hf⟩
        obtain ⟨k, hk, rfl⟩ := List.mem_map.mp hq
        have := List.mem_range.mp hk
        exact ⟨a, a1, (key a).mpr ⟨k, by rw [List.length_drop]; omega, by rw [List.drop_drop]; exact hf⟩⟩
  · rw [if_neg hc]
    have key : ∀ p, Fm (c :: m) (w.drop p) ↔ ∃ r, w.drop p = c :: r ∧ Fm m r := fun p => by
      rw [Fm, if_neg hc]
    constructor
    · rintro ⟨p, hp, hf⟩
      obtain ⟨r, e, hf⟩ := (key p).mp hf
      have hw : w[p]? = some c := by
        have := congrArg (·[0]?) e
        simpa using this
      have er := drop_cons hw
      rw [e] at er
      cases er
      exact ⟨p + 1, List.mem_map.mpr ⟨p, List.mem_filter.mpr ⟨hp, by rw [hw]; simp⟩, rfl⟩, hf⟩
    · rintro ⟨q, hq, hf⟩
      obtain ⟨p, hp, rfl⟩ := List.mem_map.mp hq
      obtain ⟨hp, hw⟩ := List.mem_filter.mp hp
      exact ⟨p, hp, (key p).mpr ⟨_, drop_cons (beq_iff_eq.mp hw), hf⟩⟩
theorem search_ok (w : List Nat) : ∀ (m ps : List Nat), (∀ p ∈ ps, p ≤ w.length) → (w.length ∈ search w m ps ↔ ∃ p ∈ ps, Fm m (w.drop p))
  | [], ps, h => by
    show w.length ∈ ps ↔ ∃ p ∈ ps, w.drop p = []
    constructor
    · intro hp
      exact ⟨_, hp, by simp⟩
    · rintro ⟨p, hp, e⟩
      have := congrArg List.length e
      rw [List.length_drop] at this
      have h2 := h p hp
      have : p = w.length := by simp at this; omega
      rw [← this]
      exact hp
  | c :: m, ps, h => by
    rw [search, search_ok w m _ (step1_le h), step1_ok h]
theorem search_fits (p w : List Nat) : w.length ∈ search w p [0] ↔ Fm p w := by
  rw [search_ok w p [0] (by simp)]
  simp
/-! ### comprehensions that draw nothing -/
theorem comp_pure {α : Type} {own : Nat → Bool} {h : O → Env → Option Env} {t : Env → R Bool} {e : Env → R O} {env : Env} {f : α → O} {E : α → Env} {p : α → Bool} {g : α → O} :
    ∀ l : List α, (∀ x ∈ l, h (f x) env = some (E x) ∧ t (E x) = .ok (p x) (E x) ∧ (p x = true → e (E x) = .ok (g x) (E x)) ∧ offE own 0 (E x) = env) → compLoop own h t e (l.map f) env = some ((l.filter p).map g, env)
  | [], _ => rfl
  | x :: l, H => by
    obtain ⟨a, b, c, d⟩ := H x List.mem_cons_self
    have ih := comp_pure l fun y m => H y (List.mem_cons_of_mem _ m)
    rw [List.map_cons, compLoop, a]
    simp only [b]
    cases hp : p x with
    | true =>
      simp only [c hp, d, ih, Option.map_some]
      rw [List.filter_cons, if_pos hp]
      rfl
    | false =>
      simp only [d, ih]
      rw [List.filter_cons, if_neg (by rw [hp]; decide)]
end PyD
end

section
set_option Elab.async false
set_option linter.all false
set_option maxRecDepth 100000
namespace PyD
theorem partC_none {c : Nat} : ∀ {l : List Nat}, partC c l = none → ∀ x ∈ l, x ≠ c
  | [], _, x, m => by cases m
  | y :: r, h, x, m => by
    unfold partC at h
    split at h
    · cases h
    · rename_i hy
      rcases List.mem_cons.mp m with rfl | m
      · exact hy
      · refine partC_none ?_ x m
        cases e : partC c r with
        | none => rfl
        | some q => rw [e] at h; cases h
theorem partC_some {c : Nat} : ∀ {l a b : List Nat}, partC c l = some (a, b) → l = a ++ c :: b ∧ ∀ x ∈ a, x ≠ c
  | [], a, b, h => by cases h
  | y :: r, a, b, h => by
    unfold partC at h
    split at h
    · rename_i hy
      cases h
      exact ⟨by simp [hy], fun x m => by cases m⟩
    · rename_i hy
      rw [Option.map_eq_some_iff] at h
      obtain ⟨⟨a', b'⟩, e, h2⟩ := h
      cases h2
      obtain ⟨h3, h4⟩ := partC_some e
      refine ⟨by simp [h3], fun x m => ?_⟩
      rcases List.mem_cons.mp m with rfl | m
      · exact hy
      · exact h4 x m
theorem Fm_plain : ∀ {p w : List Nat}, (∀ x ∈ p, x ≠ 42) → (Fm p w ↔ w = p)
  | [], w, _ => Iff.rfl
  | c :: p, w, h => by
    have hc := h c List.mem_cons_self
    rw [Fm, if_neg hc]
    constructor
    · rintro ⟨r, rfl, hr⟩
      rw [(Fm_plain fun x m => h x (List.mem_cons_of_mem _ m)).mp hr]
    · rintro rfl
      exact ⟨p, rfl, (Fm_plain fun x m => h x (List.mem_cons_of_mem _ m)).mpr rfl⟩
theorem Fm_star : ∀ {a b w : List Nat}, (∀ x ∈ a, x ≠ 42) → (Fm (a ++ 42 :: b) w ↔ ∃ u, w = a ++ u ∧ ∃ k, k ≤ u.length ∧ Fm b (u.drop k))
  | [], b, w, _ => by
    rw [List.nil_append, Fm, if_pos rfl]
    constructor
    · rintro ⟨k, hk, h⟩
      exact ⟨w, rfl, k, hk, h⟩
    · rintro ⟨u, rfl, k, hk, h⟩
      exact ⟨k, hk, h⟩
  | c :: a, b, w, h => by
    have hc := h c List.mem_cons_self
    have ih := fun r => Fm_star (a := a) (b := b) (w := r) fun x m => h x (List.mem_cons_of_mem _ m)
    rw [List.cons_append, Fm, if_neg hc]
    constructor
    · rintro ⟨r, rfl, hr⟩
      obtain ⟨u, rfl, k, hk, hh⟩ := (ih r).mp hr
      exact ⟨u, rfl, k, hk, hh⟩
    · rintro ⟨u, rfl, k, hk, hh⟩
      exact ⟨a ++ u, rfl, (ih _).mpr ⟨u, rfl, k, hk, hh⟩⟩
end PyD
end

section
set_option Elab.async false
set_option linter.all false
set_option maxRecDepth 100000
set_option exponentiation.threshold 100000
namespace PyD.k01
open PySem L2 PySem.Spec PyProof.Rows PyD
abbrev B (b : Bool) : O := .fz (.bl b)
theorem find_one (sg : List Nat) (c : Nat) : (findL sg [c] 0).isSome = sg.contains c := by
  cases h : findL sg [c] 0 with
  | none =>
    cases hc : sg.contains c with
    | false => rfl
    | true =>
      obtain ⟨i, hi, e⟩ := List.getElem_of_mem (List.contains_iff_mem.mp hc)
      have := findL_none h i (Nat.zero_le _) (by omega)
      rw [isPre_iff.mpr ⟨sg.drop (i + 1), by rw [List.drop_eq_getElem_cons hi, e]; rfl⟩] at this
      cases this
  | some i =>
    obtain ⟨_, h2, h3, _⟩ := findL_some h
    obtain ⟨u, e⟩ := isPre_iff.mp h3
    have : c ∈ sg.drop i := by rw [e]; simp
    have hm : c ∈ sg := List.mem_of_mem_drop this
    rw [List.contains_iff_mem.mpr hm]
    rfl
theorem blsOf_map {α : Type} (g : α → Bool) : ∀ l : List α, blsOf (l.map fun x => D.bl (g x)) = some (l.map g)
  | [] => rfl
  | x :: l => by
    show (blsOf (l.map fun x => D.bl (g x))).map (g x :: ·) = _
    rw [blsOf_map g l]
    rfl
theorem erases_map {α : Type} (g : α → D) : ∀ l : List α, O.erases (l.map fun x => O.fz (g x)) = l.map g
  | [] => rfl
  | x :: l => by
    rw [List.map_cons, O.erases, erases_map g l]
    rfl
theorem text_ok {l sg : List Nat} (hl : l.length ≤ 1000000) : φ_is_text_of [S l, S sg] = .ret (B (l.all fun c => sg.contains c)) [S l, S sg] := by
  have hc := comp_pure (own := ownP [2]) (h := gN 2) (t := tTrue) (e := eA (semIn false) (oVar 2 (oVar 1 oNil))) (env := [some (S l), some (S sg), none]) (f := fun c => S [c]) (E := fun c => [some (S l), some (S sg), some (S [c])])
    (p := fun _ => true) (g := fun c => B (sg.contains c)) l fun c _ => ⟨by simp [sSeq, sIf, sRet, sExpr, sAsg, sPar, sNil, sPass, oNil, oVar, oExp, eA, eB, eC, eVar, eMove, eLst, eTup, aNil, aCons, eM, eAnd, eOr, eNot, eIf, tBool, tAnd', tOr', tNot', tTrue, iRd, iVal, iFz, gN, gSet, gT, gsNil, gsCons, gStar1, setAt, setO, resA, resB, O.erase, O.erases, O.shal, O.isFz, At.d, semInt2, semIx, semGt, semLt, semLe, semGe, ordD, semInt, semMod, semDiv, semSub, semAdd, semMul, semPow, semNeg, semAbs, semMax2, semMin2, semLen, entryO, outsO, fnSem, eCall, takeOps, putOps], by simp [sSeq, sIf, sRet, sExpr, sAsg, sPar, sNil, sPass, oNil, oVar, oExp, eA, eB, eC, eVar, eMove, eLst, eTup, aNil, aCons, eM, eAnd, eOr, eNot, eIf, tBool, tAnd', tOr', tNot', tTrue, iRd, iVal, iFz, gN, gSet, gT, gsNil, gsCons, gStar1, setAt, setO, resA, resB, O.erase, O.erases, O.shal, O.isFz, At.d, semInt2, semIx, semGt, semLt, semLe, semGe, ordD, semInt, semMod, semDiv, semSub, semAdd, semMul, semPow, semNeg, semAbs, semMax2, semMin2, semLen, entryO, outsO, fnSem, eCall, takeOps, putOps], fun _ => by simp [sSeq, sIf, sRet, sExpr, sAsg, sPar, sNil, sPass, oNil, oVar, oExp, eA, eB, eC, eVar, eMove, eLst, eTup, aNil, aCons, eM, eAnd, eOr, eNot, eIf, tBool, tAnd', tOr', tNot', tTrue, iRd, iVal, iFz, gN, gSet, gT, gsNil, gsCons, gStar1, setAt, setO, resA, resB, O.erase, O.erases, O.shal, O.isFz, At.d, semInt2, semIx, semGt, semLt, semLe, semGe, ordD, semInt, semMod, semDiv, semSub, semAdd, semMul, semPow, semNeg, semAbs, semMax2, semMin2, semLen, entryO, outsO, fnSem, eCall, takeOps, putOps, semIn, xorB, find_one], by simp [offE, ownP]⟩
  have hf : (l.filter fun _ => true) = l := by simp
  rw [hf] at hc
  have he : offE (ownP [2]) 0 [some (S l), some (S sg), none] = [some (S l), some (S sg), none] := by simp [offE, ownP]
  have ho : onE (ownP [2]) 0 [some (S l), some (S sg), none] [some (S l), some (S sg), none] = [some (S l), some (S sg), none] := by simp [onE, ownP]
  have ii : itemsOf (.str l) = some (l.map fun c => O.fz (.str [c])) := rfl
  have hE : eComp [2] (iVal (eVar 0)) (gN 2) tTrue (eA (semIn false) (oVar 2 (oVar 1 oNil))) [some (S l), some (S sg), none] = .ok (.lst (l.map fun c => B (sg.contains c))) [some (S l), some (S sg), none] := by
    unfold eComp
    simp only [iVal, eVar, List.getElem?_cons_zero, O.erase, ii, List.length_map, hl, if_true, he]
    rw [hc]
    simp only [ho]
  have hs : semAll [.lst (O.erases (l.map fun c => B (sg.contains c)))] = some (.bl (l.all fun c => sg.contains c)) := by
    rw [erases_map (fun c => D.bl (sg.contains c))]
    show (blsOf _).map _ = _
    rw [blsOf_map]
    show some (At.bl ((l.map fun c => sg.contains c).all id)) = _
    rw [List.all_map]
    rfl
  simp [-List.contains_eq_mem, φ_is_text_of, b_is_text_of, sSeq, sIf, sRet, sExpr, sAsg, sPar, sNil, sPass, oNil, oVar, oExp, eA, eB, eC, eVar, eMove, eLst, eTup, aNil, aCons, eM, eAnd, eOr, eNot, eIf, tBool, tAnd', tOr', tNot', tTrue, iRd, iVal, iFz, gN, gSet, gT, gsNil, gsCons, gStar1, setAt, setO, resA, resB, O.erase, O.erases, O.shal, O.isFz, At.d, semInt2, semIx, semGt, semLt, semLe, semGe, ordD, semInt, semMod, semDiv, semSub, semAdd, semMul, semPow, semNeg, semAbs, semMax2, semMin2, semLen, entryO, outsO, fnSem, eCall, takeOps, putOps, semIsi, tyOf, isiT, hE, hs]
def signs : List Nat := [97,98,99,100,101,102,103,104,105,106,107,108,109,110,111,112,113,114,115,116,117,118,119,120,121,122,48,49,50,51,52,53,54,55,56,57,45]
def signsP : List Nat := [97,98,99,100,101,102,103,104,105,106,107,108,109,110,111,112,113,114,115,116,117,118,119,120,121,122,48,49,50,51,52,53,54,55,56,57,45,42]
def signsW : List Nat := [97,98,99,100,101,102,103,104,105,106,107,108,109,110,111,112,113,114,115,116,117,118,119,120,121,122,48,49,50,51,52,53,54,55,56,57,45,126]
def patB (l : List Nat) : Bool := l.all (fun c => signsP.contains c) && !(findL l [42, 42] 0).isSome
def wordB (l : List Nat) : Bool := l.all fun c => signsW.contains c
theorem pat_ok {l : List Nat} (hl : l.length ≤ 1000000) : φ_is_pattern [S l] = .ret (B (patB l)) [S l] := by
  have h1 : φ_is_text_of [O.fz (D.str l), O.fz (D.str [97,98,99,100,101,102,103,104,105,106,107,108,109,110,111,112,113,114,115,116,117,118,119,120,121,122,48,49,50,51,52,53,54,55,56,57,45,42])] = .ret (B (l.all fun c => signsP.contains c)) [S l, S signsP] := text_ok hl
  unfold patB
  cases ha : (l.all fun c => signsP.contains c) with
  | true =>
    rw [ha] at h1
    simp [-List.contains_eq_mem, φ_is_pattern, b_is_pattern, sSeq, sIf, sRet, sExpr, sAsg, sPar, sNil, sPass, oNil, oVar, oExp, eA, eB, eC, eVar, eMove, eLst, eTup, aNil, aCons, eM, eAnd, eOr, eNot, eIf, tBool, tAnd', tOr', tNot', tTrue, iRd, iVal, iFz, gN, gSet, gT, gsNil, gsCons, gStar1, setAt, setO, resA, resB, O.erase, O.erases, O.shal, O.isFz, At.d, semInt2, semIx, semGt, semLt, semLe, semGe, ordD, semInt, semMod, semDiv, semSub, semAdd, semMul, semPow, semNeg, semAbs, semMax2, semMin2, semLen, entryO, outsO, fnSem, eCall, takeOps, putOps, LIM, h1, semIn, xorB]
  | false =>
    rw [ha] at h1
    simp [-List.contains_eq_mem, φ_is_pattern, b_is_pattern, sSeq, sIf, sRet, sExpr, sAsg, sPar, sNil, sPass, oNil, oVar, oExp, eA, eB, eC, eVar, eMove, eLst, eTup, aNil, aCons, eM, eAnd, eOr, eNot, eIf, tBool, tAnd', tOr', tNot', tTrue, iRd, iVal, iFz, gN, gSet, gT, gsNil, gsCons, gStar1, setAt, setO, resA, resB, O.erase, O.erases, O.shal, O.isFz, At.d, semInt2, semIx, semGt, semLt, semLe, semGe, ordD, semInt, semMod, semDiv, semSub, semAdd, semMul, semPow, semNeg, semAbs, semMax2, semMin2, semLen, entryO, outsO, fnSem, eCall, takeOps, putOps, LIM, h1, semIn, xorB]
theorem word_ok {l : List Nat} (hl : l.length ≤ 1000000) : φ_is_word [S l] = .ret (B (wordB l)) [S l] := by
  have h1 : φ_is_text_of [O.fz (D.str l), O.fz (D.str [97,98,99,100,101,102,103,104,105,106,107,108,109,110,111,112,113,114,115,116,117,118,119,120,121,122,48,49,50,51,52,53,54,55,56,57,45,126])] = .ret (B (l.all fun c => signsW.contains c)) [S l, S signsW] := text_ok hl
  unfold wordB
  simp [-List.contains_eq_mem, φ_is_word, b_is_word, sSeq, sIf, sRet, sExpr, sAsg, sPar, sNil, sPass, oNil, oVar, oExp, eA, eB, eC, eVar, eMove, eLst, eTup, aNil, aCons, eM, eAnd, eOr, eNot, eIf, tBool, tAnd', tOr', tNot', tTrue, iRd, iVal, iFz, gN, gSet, gT, gsNil, gsCons, gStar1, setAt, setO, resA, resB, O.erase, O.erases, O.shal, O.isFz, At.d, semInt2, semIx, semGt, semLt, semLe, semGe, ordD, semInt, semMod, semDiv, semSub, semAdd, semMul, semPow, semNeg, semAbs, semMax2, semMin2, semLen, entryO, outsO, fnSem, eCall, takeOps, putOps, LIM, h1]
/-- a sign so often that no two stars stand side by side -/
def noTwo (l : List Nat) : Prop := ∀ i, ¬ (l[i]? = some 42 ∧ l[i + 1]? = some 42)
theorem patB_of {l : List Nat} (h1 : ∀ c ∈ l, c ∈ signsP) (h2 : noTwo l) : patB l = true := by
  have a : (l.all fun c => signsP.contains c) = true := by
    rw [List.all_eq_true]
    exact fun c m => List.contains_iff_mem.mpr (h1 c m)
  have b : findL l [42, 42] 0 = none := by
    cases h : findL l [42, 42] 0 with
    | none => rfl
    | some i =>
      obtain ⟨_, h3, h4, _⟩ := findL_some h
      obtain ⟨u, e⟩ := isPre_iff.mp h4
      refine absurd ⟨?_, ?_⟩ (h2 i)
      · have := congrArg (·[0]?) e
        simpa using this
      · have := congrArg (·[1]?) e
        simpa using this
  unfold patB
  rw [a, b]
  rfl
/-- a word of good signs -/
def wd (l : List Nat) : Prop := ∀ c ∈ l, c ∈ signsW
theorem wd_app {a b : List Nat} (h : wd a) (k : wd b) : wd (a ++ b) := fun c m => (List.mem_append.mp m).elim (h c) (k c)
theorem wd_cut {a : List Nat} {lo hi : Option Int} (h : wd a) : wd (cutL a lo hi) := fun c m => h c (cutL_mem c m)
theorem wd_rep {a : List Nat} {n : Nat} (h : wd a) : wd (List.replicate n a).flatten := fun c m => by
  obtain ⟨l, hl, hc⟩ := List.mem_flatten.mp m
  rw [List.eq_of_mem_replicate hl] at hc
  exact h c hc
theorem len_rep (n : Nat) (a : List Nat) : (List.replicate n a).flatten.length = n * a.length := by simp
theorem wordB_of {l : List Nat} (h : wd l) : wordB l = true := by
  unfold wordB
  rw [List.all_eq_true]
  exact fun c m => List.contains_iff_mem.mpr (h c m)
end PyD.k01
end

section
set_option Elab.async false
set_option linter.all false
set_option maxRecDepth 100000
namespace PyD.k01
open PySem L2 PySem.Spec PyProof.Rows PyD
def oddL (l : List Nat) : List (List Nat) := setL ((l.filter fun c => !signs.contains c).map fun c => [c])
theorem odd_nil {l : List Nat} : oddL l = [] ↔ ∀ c ∈ l, c ∈ signs := by
  constructor
  · intro h c hc
    cases hs : signs.contains c with
    | true => exact List.contains_iff_mem.mp hs
    | false =>
      have : [c] ∈ oddL l := setL_mem.mpr (List.mem_map.mpr ⟨c, List.mem_filter.mpr ⟨hc, by rw [hs]; rfl⟩, rfl⟩)
      rw [h] at this
      cases this
  · intro h
    have e : (l.filter fun c => !signs.contains c) = [] := by
      rw [List.filter_eq_nil_iff]
      intro c hc z
      rw [List.contains_iff_mem.mpr (h c hc)] at z
      cases z
    unfold oddL
    rw [e]
    rfl
theorem odd_one {l : List Nat} {x : Nat} (hx : ¬ x ∈ signs) : oddL l = [[x]] ↔ (∀ c ∈ l, c ∈ signs ∨ c = x) ∧ x ∈ l := by
  constructor
  · intro h
    have hm : ∀ y, y ∈ oddL l ↔ y = [x] := fun y => by rw [h]; simp
    constructor
    · intro c hc
      cases hs : signs.contains c with
      | true => exact .inl (List.contains_iff_mem.mp hs)
      | false =>
        have : [c] ∈ oddL l := setL_mem.mpr (List.mem_map.mpr ⟨c, List.mem_filter.mpr ⟨hc, by rw [hs]; rfl⟩, rfl⟩)
        have := (hm _).mp this
        exact .inr (by simpa using this)
    · have := setL_mem.mp ((hm [x]).mpr rfl)
      obtain ⟨c, hc, e⟩ := List.mem_map.mp this
      have : c = x := by simpa using e
      exact this ▸ (List.mem_filter.mp hc).1
  · rintro ⟨h, hm⟩
    refine set_unique (setL_sorted _) (List.pairwise_singleton _ _) (setL_nodup _) ((by simp)) fun y => ?_
    unfold oddL
    rw [setL_mem, List.mem_map, List.mem_singleton]
    constructor
    · rintro ⟨c, hc, rfl⟩
      obtain ⟨h1, h2⟩ := List.mem_filter.mp hc
      rcases h c h1 with z | rfl
      · rw [List.contains_iff_mem.mpr z] at h2
        cases h2
      · rfl
    · rintro rfl
      refine ⟨x, List.mem_filter.mpr ⟨hm, ?_⟩, rfl⟩
      cases hs : signs.contains x with
      | true => exact (hx (List.contains_iff_mem.mp hs)).elim
      | false => rfl
theorem odd_in {l : List Nat} {x : Nat} (hx : ¬ x ∈ signs) : (oddL l = [] ∨ oddL l = [[x]]) ↔ ∀ c ∈ l, c ∈ signs ∨ c = x := by
  rw [odd_nil, odd_one hx]
  constructor
  · rintro (h | h)
    · exact fun c hc => .inl (h c hc)
    · exact h.1
  · intro h
    by_cases hm : x ∈ l
    · exact .inr ⟨h, hm⟩
    · refine .inl fun c hc => ?_
      rcases h c hc with z | rfl
      · exact z
      · exact (hm hc).elim
theorem deq_sing : ∀ {L : List (List Nat)} {x : List Nat}, deq (.lst [.str x]) (.lst (L.map D.str)) = true ↔ L = [x] := by
  intro L x
  cases L with
  | nil => simp [deq, deqs]
  | cons a L =>
    cases L with
    | nil =>
      simp [deq, deqs]
      exact eq_comm
    | cons b L => simp [deq, deqs]
theorem deq_nil {L : List (List Nat)} : deq (.lst []) (.lst (L.map D.str)) = true ↔ L = [] := by
  cases L with
  | nil => simp [deq, deqs]
  | cons a L => simp [deq, deqs]
theorem okq_strs (L : List (List Nat)) : okq 20 (.lst (L.map D.str)) = true := by
  simp [okq]
def inW (L : List (List Nat)) (x : List Nat) : Bool := decide (L = [] ∨ L = [x])
theorem in_word {L : List (List Nat)} {x : List Nat} : semIn false [.lst (L.map D.str), .tup [.lst [], .lst [.str x]]] = some (.bl (inW L x)) := by
  show (if okq 20 (.lst (L.map D.str)) = true ∧ okq 20 (.tup [.lst [], .lst [.str x]]) = true then some (At.bl (xorB false ([D.lst [], D.lst [.str x]].any fun z => deq z (.lst (L.map D.str))))) else none) = _
  rw [if_pos ⟨okq_strs L, by simp [okq]⟩]
  congr 2
  unfold inW
  rw [Bool.eq_iff_iff]
  simp [xorB, deq_nil, deq_sing]
theorem word_iff {l : List Nat} : wordB l = inW (oddL l) [126] := by
  unfold inW
  rw [Bool.eq_iff_iff, decide_eq_true_iff, odd_in (by decide)]
  unfold wordB
  rw [List.all_eq_true]
  refine forall₂_congr fun c _ => ?_
  rw [List.contains_iff_mem]
  simp [signsW, signs, or_assoc]
theorem pat_iff {l : List Nat} : patB l = (inW (oddL l) [42] && decide (Txt.count (sOf l) (sOf [42, 42]) = 0)) := by
  unfold patB inW
  congr 1
  · rw [Bool.eq_iff_iff, decide_eq_true_iff, odd_in (by decide), List.all_eq_true]
    refine forall₂_congr fun c _ => ?_
    rw [List.contains_iff_mem]
    simp [signsP, signs, or_assoc]
  · rw [Bool.eq_iff_iff, decide_eq_true_iff, count_zero]
    cases findL l [42, 42] 0 <;> simp
theorem due_ok {l : List Nat} (hl : l.length ≤ 1000) : φ__law_due [S l] = .ret (.lst [B (wordB l), B (patB l)]) [S l] := by
  have hs : semSortSet [.lst ((l.filter fun c => !signs.contains c).map fun c => D.str [c])] = some (.lst ((oddL l).map fun l => .fz (.str l))) := by
    show (match strsOf ((l.filter fun c => !signs.contains c).map fun c => D.str [c]) with
      | some xs => if xs.length < 4000 then some (O.lst ((setL xs).map fun l => .fz (.str l))) else none
      | none => none) = _
    rw [strsOf_map (fun c => [c])]
    show (if _ then _ else _) = _
    rw [if_pos (by have := List.length_filter_le (fun c => !signs.contains c) l; simp only [List.length_map]; omega)]
    rfl
  have key : wpF (φ__law_due [S l]) (fun v os => v = .lst [B (wordB l), B (patB l)] ∧ os = [S l]) noF := by
    unfold φ__law_due b__law_due
    simp [wpR_ok, wpR_exc, wpF_ret, wpF_exc, okO_some, okSl_some, kOV, kOE2, kOE, kA2, kA1, kA, kB2, kB1, kB, wp_oNil, wp_oVar, wp_oExp, wp_eA, wp_eB, wp_eC, kVar, wp_eVar, kMove, wp_eMove, kL, kT, kAC2, kAC, wp_eLst, wp_eTup, wp_aNil, wp_aCons, kM1, kM2, kM, wp_eM, kAnd_t, kAnd_f, kAnd_dec, kAnd_ndec, kAnd_beq, kAnd_bne, kAnd_nbeq, kOr_t, kOr_f, kOr_dec, kOr_ndec, kOr_beq, kOr_bne, kOr_nbeq, kNot, wp_eAnd, wp_eOr, wp_eNot, kIf_t, kIf_f, kIf_dec, kIf_ndec, kIf_beq, kIf_bne, kIf_nbeq, wp_eIf, kBool, wp_tBool, kTAnd_t, kTAnd_f, kTAnd_dec, kTAnd_ndec, kTAnd_beq, kTAnd_bne, kTAnd_nbeq, kTOr_t, kTOr_f, kTOr_dec, kTOr_ndec, kTOr_beq, kTOr_bne, kTOr_nbeq, kTNot, wp_tAnd, wp_tOr, wp_tNot, wp_tTrue, okO_map, okO_bind, kMap, kBind, kBody, kItems, kElt1, kElt_t, kElt_f, kElt_dec, kElt_ndec, kElt_beq, kElt_bne, kElt_nbeq, kRd1, kPick, wp_oPick, pick, itemsOf, kVal, wp_iVal, wp_iFz, kRd, wp_iRd, kRet, kCall1, kCall, wp_eCall, kSeq, wp_sSeq, wp_sIf, kRt, wp_sRet, kEx, wp_sExpr, kAsg, wp_sAsg, kPar, wp_sPar, wp_sNil, wp_sPass, wp_sCont, wp_sBreak, ok_gN, kSet1, kSet, ok_gSet, kFor, wp_sFor, kTurn, kComp2, wp_eComp, kOuts, wp_fn, entryO, outsO, takeOps, putOps, resA, resB, setO, O.erase, O.erases, O.shal, O.isFz, At.d, offE, onE, ownP, Option.map_some, Option.map_none, List.getElem?_cons_zero, List.getElem?_cons_succ, erases_mapF, erases_mapO, okO_ite, semInt2, semGt, semLt, semLe, semGe, ordD, semInt, semMod, semDiv, semSub, semAdd, semPow, semNeg, semAbs, semMax2, semMin2, semLen, slNS_s, slSN_s, slSS_s, slNS_l, slSN_l, slSS_l, gT, gsNil, gsCons, gStar1, semIsi, tyOf, isiT, -List.contains_eq_mem]
    refine kComp_filter (f := fun c => S [c]) (p := fun c => !signs.contains c) (g := fun c => S [c]) (by omega) (fun c _ => ?_) ?_
    · simp [wpR_ok, wpR_exc, wpF_ret, wpF_exc, okO_some, okSl_some, kOV, kOE2, kOE, kA2, kA1, kA, kB2, kB1, kB, wp_oNil, wp_oVar, wp_oExp, wp_eA, wp_eB, wp_eC, kVar, wp_eVar, kMove, wp_eMove, kL, kT, kAC2, kAC, wp_eLst, wp_eTup, wp_aNil, wp_aCons, kM1, kM2, kM, wp_eM, kAnd_t, kAnd_f, kAnd_dec, kAnd_ndec, kAnd_beq, kAnd_bne, kAnd_nbeq, kOr_t, kOr_f, kOr_dec, kOr_ndec, kOr_beq, kOr_bne, kOr_nbeq, kNot, wp_eAnd, wp_eOr, wp_eNot, kIf_t, kIf_f, kIf_dec, kIf_ndec, kIf_beq, kIf_bne, kIf_nbeq, wp_eIf, kBool, wp_tBool, kTAnd_t, kTAnd_f, kTAnd_dec, kTAnd_ndec, kTAnd_beq, kTAnd_bne, kTAnd_nbeq, kTOr_t, kTOr_f, kTOr_dec, kTOr_ndec, kTOr_beq, kTOr_bne, kTOr_nbeq, kTNot, wp_tAnd, wp_tOr, wp_tNot, wp_tTrue, okO_map, okO_bind, kMap, kBind, kBody, kItems, kElt1, kElt_t, kElt_f, kElt_dec, kElt_ndec, kElt_beq, kElt_bne, kElt_nbeq, kRd1, kPick, wp_oPick, pick, itemsOf, kVal, wp_iVal, wp_iFz, kRd, wp_iRd, kRet, kCall1, kCall, wp_eCall, kSeq, wp_sSeq, wp_sIf, kRt, wp_sRet, kEx, wp_sExpr, kAsg, wp_sAsg, kPar, wp_sPar, wp_sNil, wp_sPass, wp_sCont, wp_sBreak, ok_gN, kSet1, kSet, ok_gSet, kFor, wp_sFor, kTurn, kComp2, wp_eComp, kOuts, wp_fn, entryO, outsO, takeOps, putOps, resA, resB, setO, O.erase, O.erases, O.shal, O.isFz, At.d, offE, onE, ownP, Option.map_some, Option.map_none, List.getElem?_cons_zero, List.getElem?_cons_succ, erases_mapF, erases_mapO, okO_ite, semInt2, semGt, semLt, semLe, semGe, ordD, semInt, semMod, semDiv, semSub, semAdd, semPow, semNeg, semAbs, semMax2, semMin2, semLen, slNS_s, slSN_s, slSS_s, slNS_l, slSN_l, slSS_l, gT, gsNil, gsCons, gStar1, semIn, xorB, find_one, -List.contains_eq_mem, signs]
    · simp [wpR_ok, wpR_exc, wpF_ret, wpF_exc, okO_some, okSl_some, kOV, kOE2, kOE, kA2, kA1, kA, kB2, kB1, kB, wp_oNil, wp_oVar, wp_oExp, wp_eA, wp_eB, wp_eC, kVar, wp_eVar, kMove, wp_eMove, kL, kT, kAC2, kAC, wp_eLst, wp_eTup, wp_aNil, wp_aCons, kM1, kM2, kM, wp_eM, kAnd_t, kAnd_f, kAnd_dec, kAnd_ndec, kAnd_beq, kAnd_bne, kAnd_nbeq, kOr_t, kOr_f, kOr_dec, kOr_ndec, kOr_beq, kOr_bne, kOr_nbeq, kNot, wp_eAnd, wp_eOr, wp_eNot, kIf_t, kIf_f, kIf_dec, kIf_ndec, kIf_beq, kIf_bne, kIf_nbeq, wp_eIf, kBool, wp_tBool, kTAnd_t, kTAnd_f, kTAnd_dec, kTAnd_ndec, kTAnd_beq, kTAnd_bne, kTAnd_nbeq, kTOr_t, kTOr_f, kTOr_dec, kTOr_ndec, kTOr_beq, kTOr_bne, kTOr_nbeq, kTNot, wp_tAnd, wp_tOr, wp_tNot, wp_tTrue, okO_map, okO_bind, kMap, kBind, kBody, kItems, kElt1, kElt_t, kElt_f, kElt_dec, kElt_ndec, kElt_beq, kElt_bne, kElt_nbeq, kRd1, kPick, wp_oPick, pick, itemsOf, kVal, wp_iVal, wp_iFz, kRd, wp_iRd, kRet, kCall1, kCall, wp_eCall, kSeq, wp_sSeq, wp_sIf, kRt, wp_sRet, kEx, wp_sExpr, kAsg, wp_sAsg, kPar, wp_sPar, wp_sNil, wp_sPass, wp_sCont, wp_sBreak, ok_gN, kSet1, kSet, ok_gSet, kFor, wp_sFor, kTurn, kComp2, wp_eComp, kOuts, wp_fn, entryO, outsO, takeOps, putOps, resA, resB, setO, O.erase, O.erases, O.shal, O.isFz, At.d, offE, onE, ownP, Option.map_some, Option.map_none, List.getElem?_cons_zero, List.getElem?_cons_succ, erases_mapF, erases_mapO, okO_ite, semInt2, semGt, semLt, semLe, semGe, ordD, semInt, semMod, semDiv, semSub, semAdd, semPow, semNeg, semAbs, semMax2, semMin2, semLen, slNS_s, slSN_s, slSS_s, slNS_l, slSN_l, slSS_l, gT, gsNil, gsCons, gStar1, hs, -List.contains_eq_mem, in_word, ← word_iff]
      cases hw : inW (oddL l) [42] with
      | false => simp [wpR_ok, wpR_exc, wpF_ret, wpF_exc, okO_some, okSl_some, kOV, kOE2, kOE, kA2, kA1, kA, kB2, kB1, kB, wp_oNil, wp_oVar, wp_oExp, wp_eA, wp_eB, wp_eC, kVar, wp_eVar, kMove, wp_eMove, kL, kT, kAC2, kAC, wp_eLst, wp_eTup, wp_aNil, wp_aCons, kM1, kM2, kM, wp_eM, kAnd_t, kAnd_f, kAnd_dec, kAnd_ndec, kAnd_beq, kAnd_bne, kAnd_nbeq, kOr_t, kOr_f, kOr_dec, kOr_ndec, kOr_beq, kOr_bne, kOr_nbeq, kNot, wp_eAnd, wp_eOr, wp_eNot, kIf_t, kIf_f, kIf_dec, kIf_ndec, kIf_beq, kIf_bne, kIf_nbeq, wp_eIf, kBool, wp_tBool, kTAnd_t, kTAnd_f, kTAnd_dec, kTAnd_ndec, kTAnd_beq, kTAnd_bne, kTAnd_nbeq, kTOr_t, kTOr_f, kTOr_dec, kTOr_ndec, kTOr_beq, kTOr_bne, kTOr_nbeq, kTNot, wp_tAnd, wp_tOr, wp_tNot, wp_tTrue, okO_map, okO_bind, kMap, kBind, kBody, kItems, kElt1, kElt_t, kElt_f, kElt_dec, kElt_ndec, kElt_beq, kElt_bne, kElt_nbeq, kRd1, kPick, wp_oPick, pick, itemsOf, kVal, wp_iVal, wp_iFz, kRd, wp_iRd, kRet, kCall1, kCall, wp_eCall, kSeq, wp_sSeq, wp_sIf, kRt, wp_sRet, kEx, wp_sExpr, kAsg, wp_sAsg, kPar, wp_sPar, wp_sNil, wp_sPass, wp_sCont, wp_sBreak, ok_gN, kSet1, kSet, ok_gSet, kFor, wp_sFor, kTurn, kComp2, wp_eComp, kOuts, wp_fn, entryO, outsO, takeOps, putOps, resA, resB, setO, O.erase, O.erases, O.shal, O.isFz, At.d, offE, onE, ownP, Option.map_some, Option.map_none, List.getElem?_cons_zero, List.getElem?_cons_succ, erases_mapF, erases_mapO, okO_ite, semInt2, semGt, semLt, semLe, semGe, ordD, semInt, semMod, semDiv, semSub, semAdd, semPow, semNeg, semAbs, semMax2, semMin2, semLen, slNS_s, slSN_s, slSS_s, slNS_l, slSN_l, slSS_l, gT, gsNil, gsCons, gStar1, pat_iff, hw]
      | true =>
        simp [wpR_ok, wpR_exc, wpF_ret, wpF_exc, okO_some, okSl_some, kOV, kOE2, kOE, kA2, kA1, kA, kB2, kB1, kB, wp_oNil, wp_oVar, wp_oExp, wp_eA, wp_eB, wp_eC, kVar, wp_eVar, kMove, wp_eMove, kL, kT, kAC2, kAC, wp_eLst, wp_eTup, wp_aNil, wp_aCons, kM1, kM2, kM, wp_eM, kAnd_t, kAnd_f, kAnd_dec, kAnd_ndec, kAnd_beq, kAnd_bne, kAnd_nbeq, kOr_t, kOr_f, kOr_dec, kOr_ndec, kOr_beq, kOr_bne, kOr_nbeq, kNot, wp_eAnd, wp_eOr, wp_eNot, kIf_t, kIf_f, kIf_dec, kIf_ndec, kIf_beq, kIf_bne, kIf_nbeq, wp_eIf, kBool, wp_tBool, kTAnd_t, kTAnd_f, kTAnd_dec, kTAnd_ndec, kTAnd_beq, kTAnd_bne, kTAnd_nbeq, kTOr_t, kTOr_f, kTOr_dec, kTOr_ndec, kTOr_beq, kTOr_bne, kTOr_nbeq, kTNot, wp_tAnd, wp_tOr, wp_tNot, wp_tTrue, okO_map, okO_bind, kMap, kBind, kBody, kItems, kElt1, kElt_t, kElt_f, kElt_dec, kElt_ndec, kElt_beq, kElt_bne, kElt_nbeq, kRd1, kPick, wp_oPick, pick, itemsOf, kVal, wp_iVal, wp_iFz, kRd, wp_iRd, kRet, kCall1, kCall, wp_eCall, kSeq, wp_sSeq, wp_sIf, kRt, wp_sRet, kEx, wp_sExpr, kAsg, wp_sAsg, kPar, wp_sPar, wp_sNil, wp_sPass, wp_sCont, wp_sBreak, ok_gN, kSet1, kSet, ok_gSet, kFor, wp_sFor, kTurn, kComp2, wp_eComp, kOuts, wp_fn, entryO, outsO, takeOps, putOps, resA, resB, setO, O.erase, O.erases, O.shal, O.isFz, At.d, offE, onE, ownP, Option.map_some, Option.map_none, List.getElem?_cons_zero, List.getElem?_cons_succ, erases_mapF, erases_mapO, okO_ite, semInt2, semGt, semLt, semLe, semGe, ordD, semInt, semMod, semDiv, semSub, semAdd, semPow, semNeg, semAbs, semMax2, semMin2, semLen, slNS_s, slSN_s, slSS_s, slNS_l, slSN_l, slSS_l, gT, gsNil, gsCons, gStar1, pat_iff, hw, mCount, semEq, deq, okq, xorB]
        rw [Bool.eq_iff_iff]
        simp
  exact wpF_eq key
theorem repr_str {l : List Nat} (hl : l.length ≤ 1000) (hp : ∀ c ∈ l, plainC c = true) : semRepr [.str l] = some (.str (rpD (.str l))) :=
  semRepr_ok (by simp only [rgood, List.all_eq_true]; exact hp) rfl (by simp only [rsz]; omega)
theorem right_ok {l : List Nat} (hl : l.length ≤ 1000) (hp : ∀ c ∈ l, plainC c = true) : φ__law_right [S l] = .ret (B true) [S l] := by
  have hr := repr_str hl hp
  have hb : ∀ a b : Bool, semRepr [.lst [.bl a, .bl b, .bl a, .bl b]] = some (.str (rpD (.lst [.bl a, .bl b, .bl a, .bl b]))) := fun a b => repr_bls [a, b, a, b] (by simp)
  have hl2 : l.length ≤ 1000000 := by omega
  have key : wpF (φ__law_right [S l]) (fun v os => v = B true ∧ os = [S l]) noF := by
    unfold φ__law_right b__law_right
    simp [wpR_ok, wpR_exc, wpF_ret, wpF_exc, okO_some, okSl_some, kOV, kOE2, kOE, kA2, kA1, kA, kB2, kB1, kB, wp_oNil, wp_oVar, wp_oExp, wp_eA, wp_eB, wp_eC, kVar, wp_eVar, kMove, wp_eMove, kL, kT, kAC2, kAC, wp_eLst, wp_eTup, wp_aNil, wp_aCons, kM1, kM2, kM, wp_eM, kAnd_t, kAnd_f, kAnd_dec, kAnd_ndec, kAnd_beq, kAnd_bne, kAnd_nbeq, kOr_t, kOr_f, kOr_dec, kOr_ndec, kOr_beq, kOr_bne, kOr_nbeq, kNot, wp_eAnd, wp_eOr, wp_eNot, kIf_t, kIf_f, kIf_dec, kIf_ndec, kIf_beq, kIf_bne, kIf_nbeq, wp_eIf, kBool, wp_tBool, kTAnd_t, kTAnd_f, kTAnd_dec, kTAnd_ndec, kTAnd_beq, kTAnd_bne, kTAnd_nbeq, kTOr_t, kTOr_f, kTOr_dec, kTOr_ndec, kTOr_beq, kTOr_bne, kTOr_nbeq, kTNot, wp_tAnd, wp_tOr, wp_tNot, wp_tTrue, okO_map, okO_bind, kMap, kBind, kBody, kItems, kElt1, kElt_t, kElt_f, kElt_dec, kElt_ndec, kElt_beq, kElt_bne, kElt_nbeq, kRd1, kPick, wp_oPick, pick, itemsOf, kVal, wp_iVal, wp_iFz, kRd, wp_iRd, kRet, kCall1, kCall, wp_eCall, kSeq, wp_sSeq, wp_sIf, kRt, wp_sRet, kEx, wp_sExpr, kAsg, wp_sAsg, kPar, wp_sPar, wp_sNil, wp_sPass, wp_sCont, wp_sBreak, ok_gN, kSet1, kSet, ok_gSet, kFor, wp_sFor, kTurn, kComp2, wp_eComp, kOuts, wp_fn, entryO, outsO, takeOps, putOps, resA, resB, setO, O.erase, O.erases, O.shal, O.isFz, At.d, offE, onE, ownP, Option.map_some, Option.map_none, List.getElem?_cons_zero, List.getElem?_cons_succ, erases_mapF, erases_mapO, okO_ite, semInt2, semGt, semLt, semLe, semGe, ordD, semInt, semMod, semDiv, semSub, semAdd, semPow, semNeg, semAbs, semMax2, semMin2, semLen, slNS_s, slSN_s, slSS_s, slNS_l, slSN_l, slSS_l, gT, gsNil, gsCons, gStar1, hr, due_ok hl, word_ok hl2, pat_ok hl2, semAdd, hb, semEq, deq, okq, xorB, LIM]
  exact wpF_eq key
/-- a comprehension that draws a sign of a text n times -/
theorem comp_draw {l : List Nat} (hl : 0 < l.length) (hl2 : l.length < 1000000) : ∀ (n m : Nat) (o : O) (is : List Nat), Bag m o → m + n < 10 ^ 10 → is.length = n →
    ∃ (cs : List Nat) (o' : O), compLoop (ownP [2]) (gN 2) tTrue (eB semIx (oVar 1 (oExp (eCall φ__law_draw (oVar 0 (oExp (eA semLen (oVar 1 oNil)) oNil))) oNil))) (is.map fun k => I (k : Nat)) [some o, some (S l), none] =
      some (cs.map fun c => S [c], [some o', some (S l), none]) ∧ Bag (m + n) o' ∧ cs.length = n ∧ ∀ c ∈ cs, c ∈ l
  | 0, m, o, is, B, _, hi => by
    have : is = [] := List.length_eq_zero_iff.mp hi
    subst this
    exact ⟨[], o, rfl, B, rfl, fun _ h => nomatch h⟩
  | n + 1, m, o, [], _, _, hi => by cases hi
  | n + 1, m, o, k :: is, B, hm, hi => by
    obtain ⟨r, o1, e, r0, r1, B1⟩ := draw_ok (n := (l.length : Int)) B (by omega) (by omega) (by omega)
    obtain ⟨cs, o2, e2, B2, h1, h2⟩ := comp_draw hl hl2 n (m + 1) o1 is B1 (by omega) (Nat.succ.inj hi)
    have hr : r.toNat < l.length := by omega
    obtain ⟨a, b, c, rfl, _, _⟩ := B.ex
    obtain ⟨a', b', c', rfl, _, _⟩ := B1.ex
    have ix : atI l r = some l[r.toNat] := by
      unfold atI ixN
      rw [if_pos r0, if_pos r1]
      exact List.getElem?_eq_getElem hr
    refine ⟨l[r.toNat] :: cs, o2, ?_, by rw [show m + (n + 1) = m + 1 + n by omega]; exact B2, by simp [h1], fun c m => ?_⟩
    · have g1 : gN 2 (I (k : Nat)) [some (Bg a b c), some (S l), none] = some [some (Bg a b c), some (S l), some (I (k : Nat))] := rfl
      have g2 : (eB semIx (oVar 1 (oExp (eCall φ__law_draw (oVar 0 (oExp (eA semLen (oVar 1 oNil)) oNil))) oNil))) [some (Bg a b c), some (S l), some (I (k : Nat))] =
          .ok (S [l[r.toNat]]) [some (Bg a' b' c'), some (S l), some (I (k : Nat))] := by
        simp [sSeq, sIf, sRet, sExpr, sAsg, sPar, sNil, sPass, oNil, oVar, oExp, eA, eB, eC, eVar, eMove, eLst, eTup, aNil, aCons, eM, eAnd, eOr, eNot, eIf, tBool, tAnd', tOr', tNot', tTrue, iRd, iVal, iFz, gN, gSet, gT, gsNil, gsCons, gStar1, setAt, setO, resA, resB, O.erase, O.erases, O.shal, O.isFz, At.d, semInt2, semIx, semGt, semLt, semLe, semGe, ordD, semInt, semMod, semDiv, semSub, semAdd, semMul, semPow, semNeg, semAbs, semMax2, semMin2, semLen, entryO, outsO, fnSem, eCall, takeOps, putOps, e, ix]
      have g3 : offE (ownP [2]) 0 [some (Bg a' b' c'), some (S l), some (I (k : Nat))] = [some (Bg a' b' c'), some (S l), none] := by simp [offE, ownP]
      have g4 : tTrue [some (Bg a b c), some (S l), some (I (k : Nat))] = .ok true [some (Bg a b c), some (S l), some (I (k : Nat))] := rfl
      rw [List.map_cons, compLoop]
      simp only [g1, g4, g2, g3, e2, Option.map_some, List.map_cons]
    · rcases List.mem_cons.mp m with rfl | m
      · exact List.getElem_mem hr
      · exact h2 c m
theorem text_wp {m : Nat} {o : O} (B : Bag m o) (hm : m < 10 ^ 9) : wpF (φ__law_text [o]) (fun v outs => ∃ l a b c n, v = S l ∧ outs = [Bg a b c] ∧ Bag n (Bg a b c) ∧ n ≤ m + 20 ∧ l.length ≤ 12 ∧ ∀ c ∈ l, plainC c = true) noF := by
  unfold φ__law_text b__law_text
  obtain ⟨a, b, c, rfl, _, _⟩ := B.ex
  simp [wpR_ok, wpR_exc, wpF_ret, wpF_exc, okO_some, okSl_some, kOV, kOE2, kOE, kA2, kA1, kA, kB2, kB1, kB, wp_oNil, wp_oVar, wp_oExp, wp_eA, wp_eB, wp_eC, kVar, wp_eVar, kMove, wp_eMove, kL, kT, kAC2, kAC, wp_eLst, wp_eTup, wp_aNil, wp_aCons, kM1, kM2, kM, wp_eM, kAnd_t, kAnd_f, kAnd_dec, kAnd_ndec, kAnd_beq, kAnd_bne, kAnd_nbeq, kOr_t, kOr_f, kOr_dec, kOr_ndec, kOr_beq, kOr_bne, kOr_nbeq, kNot, wp_eAnd, wp_eOr, wp_eNot, kIf_t, kIf_f, kIf_dec, kIf_ndec, kIf_beq, kIf_bne, kIf_nbeq, wp_eIf, kBool, wp_tBool, kTAnd_t, kTAnd_f, kTAnd_dec, kTAnd_ndec, kTAnd_beq, kTAnd_bne, kTAnd_nbeq, kTOr_t, kTOr_f, kTOr_dec, kTOr_ndec, kTOr_beq, kTOr_bne, kTOr_nbeq, kTNot, wp_tAnd, wp_tOr, wp_tNot, wp_tTrue, okO_map, okO_bind, kMap, kBind, kBody, kItems, kElt1, kElt_t, kElt_f, kElt_dec, kElt_ndec, kElt_beq, kElt_bne, kElt_nbeq, kRd1, kPick, wp_oPick, pick, itemsOf, kVal, wp_iVal, wp_iFz, kRd, wp_iRd, kRet, kCall1, kCall, wp_eCall, kSeq, wp_sSeq, wp_sIf, kRt, wp_sRet, kEx, wp_sExpr, kAsg, wp_sAsg, kPar, wp_sPar, wp_sNil, wp_sPass, wp_sCont, wp_sBreak, ok_gN, kSet1, kSet, ok_gSet, kFor, wp_sFor, kTurn, kComp2, wp_eComp, kOuts, wp_fn, entryO, outsO, takeOps, putOps, resA, resB, setO, O.erase, O.erases, O.shal, O.isFz, At.d, offE, onE, ownP, Option.map_some, Option.map_none, List.getElem?_cons_zero, List.getElem?_cons_succ, erases_mapF, erases_mapO, okO_ite, semInt2, semGt, semLt, semLe, semGe, ordD, semInt, semMod, semDiv, semSub, semAdd, semPow, semNeg, semAbs, semMax2, semMin2, semLen, slNS_s, slSN_s, slSS_s, slNS_l, slSN_l, slSS_l, gT, gsNil, gsCons, gStar1]
  refine wpF_use (draw_wp B (by omega) (by decide) (by decide)) ?_
  rintro _ _ ⟨r, a1, b1, c1, rfl, rfl, h0, h1, B1⟩
  simp [wpR_ok, wpR_exc, wpF_ret, wpF_exc, okO_some, okSl_some, kOV, kOE2, kOE, kA2, kA1, kA, kB2, kB1, kB, wp_oNil, wp_oVar, wp_oExp, wp_eA, wp_eB, wp_eC, kVar, wp_eVar, kMove, wp_eMove, kL, kT, kAC2, kAC, wp_eLst, wp_eTup, wp_aNil, wp_aCons, kM1, kM2, kM, wp_eM, kAnd_t, kAnd_f, kAnd_dec, kAnd_ndec, kAnd_beq, kAnd_bne, kAnd_nbeq, kOr_t, kOr_f, kOr_dec, kOr_ndec, kOr_beq, kOr_bne, kOr_nbeq, kNot, wp_eAnd, wp_eOr, wp_eNot, kIf_t, kIf_f, kIf_dec, kIf_ndec, kIf_beq, kIf_bne, kIf_nbeq, wp_eIf, kBool, wp_tBool, kTAnd_t, kTAnd_f, kTAnd_dec, kTAnd_ndec, kTAnd_beq, kTAnd_bne, kTAnd_nbeq, kTOr_t, kTOr_f, kTOr_dec, kTOr_ndec, kTOr_beq, kTOr_bne, kTOr_nbeq, kTNot, wp_tAnd, wp_tOr, wp_tNot, wp_tTrue, okO_map, okO_bind, kMap, kBind, kBody, kItems, kElt1, kElt_t, kElt_f, kElt_dec, kElt_ndec, kElt_beq, kElt_bne, kElt_nbeq, kRd1, kPick, wp_oPick, pick, itemsOf, kVal, wp_iVal, wp_iFz, kRd, wp_iRd, kRet, kCall1, kCall, wp_eCall, kSeq, wp_sSeq, wp_sIf, kRt, wp_sRet, kEx, wp_sExpr, kAsg, wp_sAsg, kPar, wp_sPar, wp_sNil, wp_sPass, wp_sCont, wp_sBreak, ok_gN, kSet1, kSet, ok_gSet, kFor, wp_sFor, kTurn, kComp2, wp_eComp, kOuts, wp_fn, entryO, outsO, takeOps, putOps, resA, resB, setO, O.erase, O.erases, O.shal, O.isFz, At.d, offE, onE, ownP, Option.map_some, Option.map_none, List.getElem?_cons_zero, List.getElem?_cons_succ, erases_mapF, erases_mapO, okO_ite, semInt2, semGt, semLt, semLe, semGe, ordD, semInt, semMod, semDiv, semSub, semAdd, semPow, semNeg, semAbs, semMax2, semMin2, semLen, slNS_s, slSN_s, slSS_s, slNS_l, slSN_l, slSS_l, gT, gsNil, gsCons, gStar1]
  refine ok_ixL h0 (by simpa using h1) ?_
  intro d hd
  have hd2 : ∃ l : List Nat, d = .str l ∧ 0 < l.length ∧ l.length < 10 ∧ ∀ c ∈ l, plainC c = true := by
    simp at hd
    rcases hd with rfl | rfl | rfl | rfl | rfl <;> exact ⟨_, rfl, by decide, by decide, by decide⟩
  obtain ⟨l, rfl, l0, l1, lp⟩ := hd2
  simp [wpR_ok, wpR_exc, wpF_ret, wpF_exc, okO_some, okSl_some, kOV, kOE2, kOE, kA2, kA1, kA, kB2, kB1, kB, wp_oNil, wp_oVar, wp_oExp, wp_eA, wp_eB, wp_eC, kVar, wp_eVar, kMove, wp_eMove, kL, kT, kAC2, kAC, wp_eLst, wp_eTup, wp_aNil, wp_aCons, kM1, kM2, kM, wp_eM, kAnd_t, kAnd_f, kAnd_dec, kAnd_ndec, kAnd_beq, kAnd_bne, kAnd_nbeq, kOr_t, kOr_f, kOr_dec, kOr_ndec, kOr_beq, kOr_bne, kOr_nbeq, kNot, wp_eAnd, wp_eOr, wp_eNot, kIf_t, kIf_f, kIf_dec, kIf_ndec, kIf_beq, kIf_bne, kIf_nbeq, wp_eIf, kBool, wp_tBool, kTAnd_t, kTAnd_f, kTAnd_dec, kTAnd_ndec, kTAnd_beq, kTAnd_bne, kTAnd_nbeq, kTOr_t, kTOr_f, kTOr_dec, kTOr_ndec, kTOr_beq, kTOr_bne, kTOr_nbeq, kTNot, wp_tAnd, wp_tOr, wp_tNot, wp_tTrue, okO_map, okO_bind, kMap, kBind, kBody, kItems, kElt1, kElt_t, kElt_f, kElt_dec, kElt_ndec, kElt_beq, kElt_bne, kElt_nbeq, kRd1, kPick, wp_oPick, pick, itemsOf, kVal, wp_iVal, wp_iFz, kRd, wp_iRd, kRet, kCall1, kCall, wp_eCall, kSeq, wp_sSeq, wp_sIf, kRt, wp_sRet, kEx, wp_sExpr, kAsg, wp_sAsg, kPar, wp_sPar, wp_sNil, wp_sPass, wp_sCont, wp_sBreak, ok_gN, kSet1, kSet, ok_gSet, kFor, wp_sFor, kTurn, kComp2, wp_eComp, kOuts, wp_fn, entryO, outsO, takeOps, putOps, resA, resB, setO, O.erase, O.erases, O.shal, O.isFz, At.d, offE, onE, ownP, Option.map_some, Option.map_none, List.getElem?_cons_zero, List.getElem?_cons_succ, erases_mapF, erases_mapO, okO_ite, semInt2, semGt, semLt, semLe, semGe, ordD, semInt, semMod, semDiv, semSub, semAdd, semPow, semNeg, semAbs, semMax2, semMin2, semLen, slNS_s, slSN_s, slSS_s, slNS_l, slSN_l, slSS_l, gT, gsNil, gsCons, gStar1]
  refine wpF_use (draw_wp B1 (by omega) (by decide) (by decide)) ?_
  rintro _ _ ⟨r2, a2, b2, c2, rfl, rfl, g0, g1, B2⟩
  obtain ⟨n, rfl⟩ : ∃ n : Nat, r2 = (n : Int) := ⟨r2.toNat, by omega⟩
  have rn : rng1 [D.int (n : Int)] = some ((List.range n).map fun k => I (k : Nat)) := rng1_lit n (by omega)
  simp [wpR_ok, wpR_exc, wpF_ret, wpF_exc, okO_some, okSl_some, kOV, kOE2, kOE, kA2, kA1, kA, kB2, kB1, kB, wp_oNil, wp_oVar, wp_oExp, wp_eA, wp_eB, wp_eC, kVar, wp_eVar, kMove, wp_eMove, kL, kT, kAC2, kAC, wp_eLst, wp_eTup, wp_aNil, wp_aCons, kM1, kM2, kM, wp_eM, kAnd_t, kAnd_f, kAnd_dec, kAnd_ndec, kAnd_beq, kAnd_bne, kAnd_nbeq, kOr_t, kOr_f, kOr_dec, kOr_ndec, kOr_beq, kOr_bne, kOr_nbeq, kNot, wp_eAnd, wp_eOr, wp_eNot, kIf_t, kIf_f, kIf_dec, kIf_ndec, kIf_beq, kIf_bne, kIf_nbeq, wp_eIf, kBool, wp_tBool, kTAnd_t, kTAnd_f, kTAnd_dec, kTAnd_ndec, kTAnd_beq, kTAnd_bne, kTAnd_nbeq, kTOr_t, kTOr_f, kTOr_dec, kTOr_ndec, kTOr_beq, kTOr_bne, kTOr_nbeq, kTNot, wp_tAnd, wp_tOr, wp_tNot, wp_tTrue, okO_map, okO_bind, kMap, kBind, kBody, kItems, kElt1, kElt_t, kElt_f, kElt_dec, kElt_ndec, kElt_beq, kElt_bne, kElt_nbeq, kRd1, kPick, wp_oPick, pick, itemsOf, kVal, wp_iVal, wp_iFz, kRd, wp_iRd, kRet, kCall1, kCall, wp_eCall, kSeq, wp_sSeq, wp_sIf, kRt, wp_sRet, kEx, wp_sExpr, kAsg, wp_sAsg, kPar, wp_sPar, wp_sNil, wp_sPass, wp_sCont, wp_sBreak, ok_gN, kSet1, kSet, ok_gSet, kFor, wp_sFor, kTurn, kComp2, wp_eComp, kOuts, wp_fn, entryO, outsO, takeOps, putOps, resA, resB, setO, O.erase, O.erases, O.shal, O.isFz, At.d, offE, onE, ownP, Option.map_some, Option.map_none, List.getElem?_cons_zero, List.getElem?_cons_succ, erases_mapF, erases_mapO, okO_ite, semInt2, semGt, semLt, semLe, semGe, ordD, semInt, semMod, semDiv, semSub, semAdd, semPow, semNeg, semAbs, semMax2, semMin2, semLen, slNS_s, slSN_s, slSS_s, slNS_l, slSN_l, slSS_l, gT, gsNil, gsCons, gStar1, rn, -List.map_map]
  obtain ⟨cs, o', e, B3, k1, k2⟩ := comp_draw (l := l) l0 (by omega) n (m + 1 + 1) (Bg a2 b2 c2) (List.range n) B2 (by omega) (by simp)
  obtain ⟨a3, b3, c3, rfl, _, _⟩ := B3.ex
  refine ⟨by simp; omega, ?_⟩

  simp [offE, ownP, e]
  have js := join_signs (cs := cs) (by omega)
  simp [wpR_ok, wpR_exc, wpF_ret, wpF_exc, okO_some, okSl_some, kOV, kOE2, kOE, kA2, kA1, kA, kB2, kB1, kB, wp_oNil, wp_oVar, wp_oExp, wp_eA, wp_eB, wp_eC, kVar, wp_eVar, kMove, wp_eMove, kL, kT, kAC2, kAC, wp_eLst, wp_eTup, wp_aNil, wp_aCons, kM1, kM2, kM, wp_eM, kAnd_t, kAnd_f, kAnd_dec, kAnd_ndec, kAnd_beq, kAnd_bne, kAnd_nbeq, kOr_t, kOr_f, kOr_dec, kOr_ndec, kOr_beq, kOr_bne, kOr_nbeq, kNot, wp_eAnd, wp_eOr, wp_eNot, kIf_t, kIf_f, kIf_dec, kIf_ndec, kIf_beq, kIf_bne, kIf_nbeq, wp_eIf, kBool, wp_tBool, kTAnd_t, kTAnd_f, kTAnd_dec, kTAnd_ndec, kTAnd_beq, kTAnd_bne, kTAnd_nbeq, kTOr_t, kTOr_f, kTOr_dec, kTOr_ndec, kTOr_beq, kTOr_bne, kTOr_nbeq, kTNot, wp_tAnd, wp_tOr, wp_tNot, wp_tTrue, okO_map, okO_bind, kMap, kBind, kBody, kItems, kElt1, kElt_t, kElt_f, kElt_dec, kElt_ndec, kElt_beq, kElt_bne, kElt_nbeq, kRd1, kPick, wp_oPick, pick, itemsOf, kVal, wp_iVal, wp_iFz, kRd, wp_iRd, kRet, kCall1, kCall, wp_eCall, kSeq, wp_sSeq, wp_sIf, kRt, wp_sRet, kEx, wp_sExpr, kAsg, wp_sAsg, kPar, wp_sPar, wp_sNil, wp_sPass, wp_sCont, wp_sBreak, ok_gN, kSet1, kSet, ok_gSet, kFor, wp_sFor, kTurn, kComp2, wp_eComp, kOuts, wp_fn, entryO, outsO, takeOps, putOps, resA, resB, setO, O.erase, O.erases, O.shal, O.isFz, At.d, offE, onE, ownP, Option.map_some, Option.map_none, List.getElem?_cons_zero, List.getElem?_cons_succ, erases_mapF, erases_mapO, okO_ite, semInt2, semGt, semLt, semLe, semGe, ordD, semInt, semMod, semDiv, semSub, semAdd, semPow, semNeg, semAbs, semMax2, semMin2, semLen, slNS_s, slSN_s, slSS_s, slNS_l, slSN_l, slSS_l, gT, gsNil, gsCons, gStar1, js, -List.map_map]
  exact ⟨_, _, _, ⟨rfl, rfl, rfl⟩, _, B3, by omega, by omega, fun c h => lp c (k2 c h)⟩
end PyD.k01
end

section
set_option Elab.async false
set_option linter.all false
set_option maxRecDepth 100000
namespace PyD.k01
open PySem L2 PySem.Spec PyProof.Rows PyD
theorem right_s {l : List Nat} (h : (decide (l.length ≤ 1000) && l.all plainC) = true) : φ__law_right [.fz (.str l)] = .ret (B true) [.fz (.str l)] := by
  simp only [Bool.and_eq_true, decide_eq_true_iff, List.all_eq_true] at h
  exact right_ok h.1 h.2
def abc : List Nat := [97,98,99,100,101,102,103,104,105,106,107,108,109,110,111,112,113,114,115,116,117,118,119,120,121,122,48,49,50,51,52,53,54,55,56,57,45,126,42,65,90,95,46,64,32]
def e1 : Env → R (List O) := iVal (eC (.str abc))
def e2 : Env → R (List O) := (iVal (eLst (aCons (eC (.str [])) (aCons (eC (.str [42])) (aCons (eC (.str [42,42])) (aCons (eC (.str [126])) (aCons (eB semMul (oExp (eC (.str [97])) (oExp (eC (.int 400)) oNil))) (aCons (eB semMul (oExp (eC (.str [97,126])) (oExp (eC (.int 200)) oNil))) (aCons (eC (.str [97,42,98,99,100,101,42,102])) (aCons (eC (.str [42,97,42,42])) (aCons (eC (.str [65])) (aCons (eC (.str [97,32,98])) (aCons (eC (.str [10])) (aCons (eC (.str [97,10])) (aCons (eC (.str [45])) (aCons (eC (.str [48])) aNil))))))))))))))))
def e3 : Env → R (List O) := (iVal (eLst (aCons (eC .non) (aCons (eC (.bl true)) (aCons (eC (.bl false)) (aCons (eC (.int 0)) (aCons (eC (.int 7)) (aCons (eLst aNil) (aCons (eLst (aCons (eC (.str [97])) aNil)) (aCons (eTup (aCons (eC (.str [97])) aNil)) (aCons eDic0 (aCons (eDic [[97]] (aCons (eC (.str [98])) aNil)) (aCons (eLst (aCons (eLst aNil) aNil)) (aCons (eTup aNil) aNil))))))))))))))
def its (f : Env → R (List O)) : List O := match f [] with
  | .ok os _ => os
  | _ => []
theorem e1_ok (e : Env) : e1 e = .ok (its e1) e := by kernel_rfl
theorem e2_ok (e : Env) : e2 e = .ok (its e2) e := by kernel_rfl
theorem e3_ok (e : Env) : e3 e = .ok (its e3) e := by kernel_rfl
def okM (d : D) : Bool := match φ__law_right [.fz d] with
  | .ret (.fz (.bl true)) [_] => true
  | _ => false
def okR (o : O) : Bool := match o with
  | .fz (.str l) => (decide (l.length ≤ 1000) && l.all plainC) || okM (.str l)
  | .fz d => okM d
  | _ => false
theorem all1 : (its e1).all okR = true := by decide +kernel
theorem all2 : (its e2).all okR = true := by decide +kernel
theorem all3 : (its e3).all okR = true := by decide +kernel
theorem okM_ok {d : D} (h : okM d = true) : ∃ o', φ__law_right [.fz d] = .ret (B true) [o'] := by
  unfold okM at h
  split at h
  · rename_i o' e
    exact ⟨o', e⟩
  · cases h
theorem okR_ok {o : O} (h : okR o = true) : ∃ d o', o = .fz d ∧ φ__law_right [.fz d] = .ret (B true) [o'] := by
  unfold okR at h
  split at h
  · rename_i l
    rcases Bool.or_eq_true _ _ |>.mp h with h | h
    · exact ⟨_, _, rfl, right_s h⟩
    · obtain ⟨o', e⟩ := okM_ok h
      exact ⟨_, o', rfl, e⟩
  · rename_i d _
    obtain ⟨o', e⟩ := okM_ok h
    exact ⟨_, o', rfl, e⟩
  · cases h
structure A1 (ns : List Int) (k : Nat) (e : Env) : Prop where
  ex : ∃ x1 x2 x3 x4, e = [some (.fz (.lst (ns.map D.int))), x1, x2, x3, x4]
structure A2 (ns : List Int) (k j : Nat) (e : Env) : Prop where
  ex : ∃ m a b c x3 x4, e = [some (.fz (.lst (ns.map D.int))), some (I (k : Nat)), some (Bg a b c), x3, x4] ∧ Bag m (Bg a b c) ∧ m ≤ 20 * j
theorem law_true (ns : List Int) (hl : ns.length ≤ 63) (hb : ∀ z ∈ ns, Builtin.Int.intBits z ≤ 1048576) : ∃ outs, φ_law [.fz (.lst (ns.map D.int))] = .ret (.fz (.bl true)) outs := by
  have goal : wpF (φ_law [.fz (.lst (ns.map D.int))]) (fun x outs => x = B true) noF := by
    unfold φ_law b_law
    simp [wpR_ok, wpR_exc, wpF_ret, wpF_exc, okO_some, okSl_some, kOV, kOE2, kOE, kA2, kA1, kA, kB2, kB1, kB, wp_oNil, wp_oVar, wp_oExp, wp_eA, wp_eB, wp_eC, kVar, wp_eVar, kMove, wp_eMove, kL, kT, kAC2, kAC, wp_eLst, wp_eTup, wp_aNil, wp_aCons, kM1, kM2, kM, wp_eM, kAnd_t, kAnd_f, kAnd_dec, kAnd_ndec, kAnd_beq, kAnd_bne, kAnd_nbeq, kOr_t, kOr_f, kOr_dec, kOr_ndec, kOr_beq, kOr_bne, kOr_nbeq, kNot, wp_eAnd, wp_eOr, wp_eNot, kIf_t, kIf_f, kIf_dec, kIf_ndec, kIf_beq, kIf_bne, kIf_nbeq, wp_eIf, kBool, wp_tBool, kTAnd_t, kTAnd_f, kTAnd_dec, kTAnd_ndec, kTAnd_beq, kTAnd_bne, kTAnd_nbeq, kTOr_t, kTOr_f, kTOr_dec, kTOr_ndec, kTOr_beq, kTOr_bne, kTOr_nbeq, kTNot, wp_tAnd, wp_tOr, wp_tNot, wp_tTrue, okO_map, okO_bind, kMap, kBind, kBody, kItems, kElt1, kElt_t, kElt_f, kElt_dec, kElt_ndec, kElt_beq, kElt_bne, kElt_nbeq, kRd1, kPick, wp_oPick, pick, itemsOf, kVal, wp_iVal, wp_iFz, kRd, wp_iRd, kRet, kCall1, kCall, wp_eCall, kSeq, wp_sSeq, wp_sIf, kRt, wp_sRet, kEx, wp_sExpr, kAsg, wp_sAsg, kPar, wp_sPar, wp_sNil, wp_sPass, wp_sCont, wp_sBreak, ok_gN, kSet1, kSet, ok_gSet, kFor, wp_sFor, kTurn, kComp2, wp_eComp, kOuts, wp_fn, entryO, outsO, takeOps, putOps, resA, resB, setO, O.erase, O.erases, O.shal, O.isFz, At.d, offE, onE, ownP, Option.map_some, Option.map_none, List.getElem?_cons_zero, List.getElem?_cons_succ, erases_mapF, erases_mapO, okO_ite, semInt2, semGt, semLt, semLe, semGe, ordD, semInt, semMod, semDiv, semSub, semAdd, semPow, semNeg, semAbs, semMax2, semMin2, semLen, slNS_s, slSN_s, slSS_s, slNS_l, slSN_l, slSS_l, gT, gsNil, gsCons, gStar1, -List.map_map]
    obtain ⟨n, rn, n4, nl⟩ := rng_mm 4 (by decide) (by decide) ns.length
    have r6 : rng1 [D.int 30] = some ((List.range 30).map fun k => I (k : Nat)) := rng1_lit 30 (by decide)
    simp [wpR_ok, wpR_exc, wpF_ret, wpF_exc, okO_some, okSl_some, kOV, kOE2, kOE, kA2, kA1, kA, kB2, kB1, kB, wp_oNil, wp_oVar, wp_oExp, wp_eA, wp_eB, wp_eC, kVar, wp_eVar, kMove, wp_eMove, kL, kT, kAC2, kAC, wp_eLst, wp_eTup, wp_aNil, wp_aCons, kM1, kM2, kM, wp_eM, kAnd_t, kAnd_f, kAnd_dec, kAnd_ndec, kAnd_beq, kAnd_bne, kAnd_nbeq, kOr_t, kOr_f, kOr_dec, kOr_ndec, kOr_beq, kOr_bne, kOr_nbeq, kNot, wp_eAnd, wp_eOr, wp_eNot, kIf_t, kIf_f, kIf_dec, kIf_ndec, kIf_beq, kIf_bne, kIf_nbeq, wp_eIf, kBool, wp_tBool, kTAnd_t, kTAnd_f, kTAnd_dec, kTAnd_ndec, kTAnd_beq, kTAnd_bne, kTAnd_nbeq, kTOr_t, kTOr_f, kTOr_dec, kTOr_ndec, kTOr_beq, kTOr_bne, kTOr_nbeq, kTNot, wp_tAnd, wp_tOr, wp_tNot, wp_tTrue, okO_map, okO_bind, kMap, kBind, kBody, kItems, kElt1, kElt_t, kElt_f, kElt_dec, kElt_ndec, kElt_beq, kElt_bne, kElt_nbeq, kRd1, kPick, wp_oPick, pick, itemsOf, kVal, wp_iVal, wp_iFz, kRd, wp_iRd, kRet, kCall1, kCall, wp_eCall, kSeq, wp_sSeq, wp_sIf, kRt, wp_sRet, kEx, wp_sExpr, kAsg, wp_sAsg, kPar, wp_sPar, wp_sNil, wp_sPass, wp_sCont, wp_sBreak, ok_gN, kSet1, kSet, ok_gSet, kFor, wp_sFor, kTurn, kComp2, wp_eComp, kOuts, wp_fn, entryO, outsO, takeOps, putOps, resA, resB, setO, O.erase, O.erases, O.shal, O.isFz, At.d, offE, onE, ownP, Option.map_some, Option.map_none, List.getElem?_cons_zero, List.getElem?_cons_succ, erases_mapF, erases_mapO, okO_ite, semInt2, semGt, semLt, semLe, semGe, ordD, semInt, semMod, semDiv, semSub, semAdd, semPow, semNeg, semAbs, semMax2, semMin2, semLen, slNS_s, slSN_s, slSS_s, slNS_l, slSN_l, slSS_l, gT, gsNil, gsCons, gStar1, rn, -List.map_map]
    refine wp_loopN (I := A1 ns) ⟨_, _, _, _, rfl⟩ ?_ ?_
    · rintro k e o' ho ⟨x1, x2, x3, x4, rfl⟩
      obtain ⟨rfl, hkn⟩ := rng_at ho
      simp [wpR_ok, wpR_exc, wpF_ret, wpF_exc, okO_some, okSl_some, kOV, kOE2, kOE, kA2, kA1, kA, kB2, kB1, kB, wp_oNil, wp_oVar, wp_oExp, wp_eA, wp_eB, wp_eC, kVar, wp_eVar, kMove, wp_eMove, kL, kT, kAC2, kAC, wp_eLst, wp_eTup, wp_aNil, wp_aCons, kM1, kM2, kM, wp_eM, kAnd_t, kAnd_f, kAnd_dec, kAnd_ndec, kAnd_beq, kAnd_bne, kAnd_nbeq, kOr_t, kOr_f, kOr_dec, kOr_ndec, kOr_beq, kOr_bne, kOr_nbeq, kNot, wp_eAnd, wp_eOr, wp_eNot, kIf_t, kIf_f, kIf_dec, kIf_ndec, kIf_beq, kIf_bne, kIf_nbeq, wp_eIf, kBool, wp_tBool, kTAnd_t, kTAnd_f, kTAnd_dec, kTAnd_ndec, kTAnd_beq, kTAnd_bne, kTAnd_nbeq, kTOr_t, kTOr_f, kTOr_dec, kTOr_ndec, kTOr_beq, kTOr_bne, kTOr_nbeq, kTNot, wp_tAnd, wp_tOr, wp_tNot, wp_tTrue, okO_map, okO_bind, kMap, kBind, kBody, kItems, kElt1, kElt_t, kElt_f, kElt_dec, kElt_ndec, kElt_beq, kElt_bne, kElt_nbeq, kRd1, kPick, wp_oPick, pick, itemsOf, kVal, wp_iVal, wp_iFz, kRd, wp_iRd, kRet, kCall1, kCall, wp_eCall, kSeq, wp_sSeq, wp_sIf, kRt, wp_sRet, kEx, wp_sExpr, kAsg, wp_sAsg, kPar, wp_sPar, wp_sNil, wp_sPass, wp_sCont, wp_sBreak, ok_gN, kSet1, kSet, ok_gSet, kFor, wp_sFor, kTurn, kComp2, wp_eComp, kOuts, wp_fn, entryO, outsO, takeOps, putOps, resA, resB, setO, O.erase, O.erases, O.shal, O.isFz, At.d, offE, onE, ownP, Option.map_some, Option.map_none, List.getElem?_cons_zero, List.getElem?_cons_succ, erases_mapF, erases_mapO, okO_ite, semInt2, semGt, semLt, semLe, semGe, ordD, semInt, semMod, semDiv, semSub, semAdd, semPow, semNeg, semAbs, semMax2, semMin2, semLen, slNS_s, slSN_s, slSS_s, slNS_l, slSN_l, slSS_l, gT, gsNil, gsCons, gStar1, -List.map_append, -List.map_map]
      refine ⟨by unfold LIM; omega, ok_ixL (by omega) (by simp; omega) ?_⟩
      intro d hd
      have hd : ∃ x, d = .int x := by
        rcases List.mem_append.mp hd with h | h
        · obtain ⟨x, _, rfl⟩ := List.mem_map.mp h
          exact ⟨x, rfl⟩
        · exact ⟨0, by simpa using h⟩
      obtain ⟨x, rfl⟩ := hd
      simp [wpR_ok, wpR_exc, wpF_ret, wpF_exc, okO_some, okSl_some, kOV, kOE2, kOE, kA2, kA1, kA, kB2, kB1, kB, wp_oNil, wp_oVar, wp_oExp, wp_eA, wp_eB, wp_eC, kVar, wp_eVar, kMove, wp_eMove, kL, kT, kAC2, kAC, wp_eLst, wp_eTup, wp_aNil, wp_aCons, kM1, kM2, kM, wp_eM, kAnd_t, kAnd_f, kAnd_dec, kAnd_ndec, kAnd_beq, kAnd_bne, kAnd_nbeq, kOr_t, kOr_f, kOr_dec, kOr_ndec, kOr_beq, kOr_bne, kOr_nbeq, kNot, wp_eAnd, wp_eOr, wp_eNot, kIf_t, kIf_f, kIf_dec, kIf_ndec, kIf_beq, kIf_bne, kIf_nbeq, wp_eIf, kBool, wp_tBool, kTAnd_t, kTAnd_f, kTAnd_dec, kTAnd_ndec, kTAnd_beq, kTAnd_bne, kTAnd_nbeq, kTOr_t, kTOr_f, kTOr_dec, kTOr_ndec, kTOr_beq, kTOr_bne, kTOr_nbeq, kTNot, wp_tAnd, wp_tOr, wp_tNot, wp_tTrue, okO_map, okO_bind, kMap, kBind, kBody, kItems, kElt1, kElt_t, kElt_f, kElt_dec, kElt_ndec, kElt_beq, kElt_bne, kElt_nbeq, kRd1, kPick, wp_oPick, pick, itemsOf, kVal, wp_iVal, wp_iFz, kRd, wp_iRd, kRet, kCall1, kCall, wp_eCall, kSeq, wp_sSeq, wp_sIf, kRt, wp_sRet, kEx, wp_sExpr, kAsg, wp_sAsg, kPar, wp_sPar, wp_sNil, wp_sPass, wp_sCont, wp_sBreak, ok_gN, kSet1, kSet, ok_gSet, kFor, wp_sFor, kTurn, kComp2, wp_eComp, kOuts, wp_fn, entryO, outsO, takeOps, putOps, resA, resB, setO, O.erase, O.erases, O.shal, O.isFz, At.d, offE, onE, ownP, Option.map_some, Option.map_none, List.getElem?_cons_zero, List.getElem?_cons_succ, erases_mapF, erases_mapO, okO_ite, semInt2, semGt, semLt, semLe, semGe, ordD, semInt, semMod, semDiv, semSub, semAdd, semPow, semNeg, semAbs, semMax2, semMin2, semLen, slNS_s, slSN_s, slSS_s, slNS_l, slSN_l, slSS_l, gT, gsNil, gsCons, gStar1]
      refine wpF_use (source_wp (by omega) (by omega)) ?_
      rintro _ _ ⟨sa, sb, sc, rfl, rfl, Bs⟩
      simp [wpR_ok, wpR_exc, wpF_ret, wpF_exc, okO_some, okSl_some, kOV, kOE2, kOE, kA2, kA1, kA, kB2, kB1, kB, wp_oNil, wp_oVar, wp_oExp, wp_eA, wp_eB, wp_eC, kVar, wp_eVar, kMove, wp_eMove, kL, kT, kAC2, kAC, wp_eLst, wp_eTup, wp_aNil, wp_aCons, kM1, kM2, kM, wp_eM, kAnd_t, kAnd_f, kAnd_dec, kAnd_ndec, kAnd_beq, kAnd_bne, kAnd_nbeq, kOr_t, kOr_f, kOr_dec, kOr_ndec, kOr_beq, kOr_bne, kOr_nbeq, kNot, wp_eAnd, wp_eOr, wp_eNot, kIf_t, kIf_f, kIf_dec, kIf_ndec, kIf_beq, kIf_bne, kIf_nbeq, wp_eIf, kBool, wp_tBool, kTAnd_t, kTAnd_f, kTAnd_dec, kTAnd_ndec, kTAnd_beq, kTAnd_bne, kTAnd_nbeq, kTOr_t, kTOr_f, kTOr_dec, kTOr_ndec, kTOr_beq, kTOr_bne, kTOr_nbeq, kTNot, wp_tAnd, wp_tOr, wp_tNot, wp_tTrue, okO_map, okO_bind, kMap, kBind, kBody, kItems, kElt1, kElt_t, kElt_f, kElt_dec, kElt_ndec, kElt_beq, kElt_bne, kElt_nbeq, kRd1, kPick, wp_oPick, pick, itemsOf, kVal, wp_iVal, wp_iFz, kRd, wp_iRd, kRet, kCall1, kCall, wp_eCall, kSeq, wp_sSeq, wp_sIf, kRt, wp_sRet, kEx, wp_sExpr, kAsg, wp_sAsg, kPar, wp_sPar, wp_sNil, wp_sPass, wp_sCont, wp_sBreak, ok_gN, kSet1, kSet, ok_gSet, kFor, wp_sFor, kTurn, kComp2, wp_eComp, kOuts, wp_fn, entryO, outsO, takeOps, putOps, resA, resB, setO, O.erase, O.erases, O.shal, O.isFz, At.d, offE, onE, ownP, Option.map_some, Option.map_none, List.getElem?_cons_zero, List.getElem?_cons_succ, erases_mapF, erases_mapO, okO_ite, semInt2, semGt, semLt, semLe, semGe, ordD, semInt, semMod, semDiv, semSub, semAdd, semPow, semNeg, semAbs, semMax2, semMin2, semLen, slNS_s, slSN_s, slSS_s, slNS_l, slSN_l, slSS_l, gT, gsNil, gsCons, gStar1, r6, -List.map_map]
      refine wp_loopN (I := A2 ns k) ⟨0, _, _, _, _, _, rfl, Bs, by omega⟩ ?_ ?_
      · rintro j e o' ho ⟨m, a, b, c, x3, x4, rfl, B0, hm⟩
        have hj : j < 30 := by
          have := (List.getElem?_eq_some_iff.mp ho).1
          simpa using this
        simp [wpR_ok, wpR_exc, wpF_ret, wpF_exc, okO_some, okSl_some, kOV, kOE2, kOE, kA2, kA1, kA, kB2, kB1, kB, wp_oNil, wp_oVar, wp_oExp, wp_eA, wp_eB, wp_eC, kVar, wp_eVar, kMove, wp_eMove, kL, kT, kAC2, kAC, wp_eLst, wp_eTup, wp_aNil, wp_aCons, kM1, kM2, kM, wp_eM, kAnd_t, kAnd_f, kAnd_dec, kAnd_ndec, kAnd_beq, kAnd_bne, kAnd_nbeq, kOr_t, kOr_f, kOr_dec, kOr_ndec, kOr_beq, kOr_bne, kOr_nbeq, kNot, wp_eAnd, wp_eOr, wp_eNot, kIf_t, kIf_f, kIf_dec, kIf_ndec, kIf_beq, kIf_bne, kIf_nbeq, wp_eIf, kBool, wp_tBool, kTAnd_t, kTAnd_f, kTAnd_dec, kTAnd_ndec, kTAnd_beq, kTAnd_bne, kTAnd_nbeq, kTOr_t, kTOr_f, kTOr_dec, kTOr_ndec, kTOr_beq, kTOr_bne, kTOr_nbeq, kTNot, wp_tAnd, wp_tOr, wp_tNot, wp_tTrue, okO_map, okO_bind, kMap, kBind, kBody, kItems, kElt1, kElt_t, kElt_f, kElt_dec, kElt_ndec, kElt_beq, kElt_bne, kElt_nbeq, kRd1, kPick, wp_oPick, pick, itemsOf, kVal, wp_iVal, wp_iFz, kRd, wp_iRd, kRet, kCall1, kCall, wp_eCall, kSeq, wp_sSeq, wp_sIf, kRt, wp_sRet, kEx, wp_sExpr, kAsg, wp_sAsg, kPar, wp_sPar, wp_sNil, wp_sPass, wp_sCont, wp_sBreak, ok_gN, kSet1, kSet, ok_gSet, kFor, wp_sFor, kTurn, kComp2, wp_eComp, kOuts, wp_fn, entryO, outsO, takeOps, putOps, resA, resB, setO, O.erase, O.erases, O.shal, O.isFz, At.d, offE, onE, ownP, Option.map_some, Option.map_none, List.getElem?_cons_zero, List.getElem?_cons_succ, erases_mapF, erases_mapO, okO_ite, semInt2, semGt, semLt, semLe, semGe, ordD, semInt, semMod, semDiv, semSub, semAdd, semPow, semNeg, semAbs, semMax2, semMin2, semLen, slNS_s, slSN_s, slSS_s, slNS_l, slSN_l, slSS_l, gT, gsNil, gsCons, gStar1]
        refine wpF_use (text_wp B0 (by omega)) ?_
        rintro _ _ ⟨l, a1, b1, c1, m1, rfl, rfl, B1, hm1, ll, lp⟩
        simp [wpR_ok, wpR_exc, wpF_ret, wpF_exc, okO_some, okSl_some, kOV, kOE2, kOE, kA2, kA1, kA, kB2, kB1, kB, wp_oNil, wp_oVar, wp_oExp, wp_eA, wp_eB, wp_eC, kVar, wp_eVar, kMove, wp_eMove, kL, kT, kAC2, kAC, wp_eLst, wp_eTup, wp_aNil, wp_aCons, kM1, kM2, kM, wp_eM, kAnd_t, kAnd_f, kAnd_dec, kAnd_ndec, kAnd_beq, kAnd_bne, kAnd_nbeq, kOr_t, kOr_f, kOr_dec, kOr_ndec, kOr_beq, kOr_bne, kOr_nbeq, kNot, wp_eAnd, wp_eOr, wp_eNot, kIf_t, kIf_f, kIf_dec, kIf_ndec, kIf_beq, kIf_bne, kIf_nbeq, wp_eIf, kBool, wp_tBool, kTAnd_t, kTAnd_f, kTAnd_dec, kTAnd_ndec, kTAnd_beq, kTAnd_bne, kTAnd_nbeq, kTOr_t, kTOr_f, kTOr_dec, kTOr_ndec, kTOr_beq, kTOr_bne, kTOr_nbeq, kTNot, wp_tAnd, wp_tOr, wp_tNot, wp_tTrue, okO_map, okO_bind, kMap, kBind, kBody, kItems, kElt1, kElt_t, kElt_f, kElt_dec, kElt_ndec, kElt_beq, kElt_bne, kElt_nbeq, kRd1, kPick, wp_oPick, pick, itemsOf, kVal, wp_iVal, wp_iFz, kRd, wp_iRd, kRet, kCall1, kCall, wp_eCall, kSeq, wp_sSeq, wp_sIf, kRt, wp_sRet, kEx, wp_sExpr, kAsg, wp_sAsg, kPar, wp_sPar, wp_sNil, wp_sPass, wp_sCont, wp_sBreak, ok_gN, kSet1, kSet, ok_gSet, kFor, wp_sFor, kTurn, kComp2, wp_eComp, kOuts, wp_fn, entryO, outsO, takeOps, putOps, resA, resB, setO, O.erase, O.erases, O.shal, O.isFz, At.d, offE, onE, ownP, Option.map_some, Option.map_none, List.getElem?_cons_zero, List.getElem?_cons_succ, erases_mapF, erases_mapO, okO_ite, semInt2, semGt, semLt, semLe, semGe, ordD, semInt, semMod, semDiv, semSub, semAdd, semPow, semNeg, semAbs, semMax2, semMin2, semLen, slNS_s, slSN_s, slSS_s, slNS_l, slSN_l, slSS_l, gT, gsNil, gsCons, gStar1, right_ok (l := l) (by omega) lp]
        exact ⟨_, _, _, _, _, _, rfl, B1, by omega⟩
      · rintro e ⟨m, a, b, c, x3, x4, rfl, B, hm⟩
        exact ⟨_, _, _, _, rfl⟩
    · rintro e ⟨x1, x2, x3, x4, rfl⟩
      have fixed : ∀ {f : Env → R (List O)} (hf : ∀ e, f e = .ok (its f) e) (ha : (its f).all okR = true) {Q : Fl → Env → Prop} {X : WXK} {e : Env}, A1 ns 0 e → (∀ e, A1 ns 0 e → Q .nx e) →
          wpR (sFor f (gN 4) (sIf (tNot' (tBool (eCall φ__law_right (oVar 4 oNil)))) (sRet (eC (.bl false))) sNil) e) Q X := by
        intro f hf ha Q X e h q
        rw [wp_sFor, hf, wpR_ok]
        refine wp_loopN (I := fun _ => A1 ns 0) h ?_ fun e h => q e h
        rintro k e o ho ⟨x1, x2, x3, x4, rfl⟩
        obtain ⟨d, o', rfl, hr⟩ := okR_ok (List.all_eq_true.mp ha o (List.mem_of_getElem? ho))
        simp [wpR_ok, wpR_exc, wpF_ret, wpF_exc, okO_some, okSl_some, kOV, kOE2, kOE, kA2, kA1, kA, kB2, kB1, kB, wp_oNil, wp_oVar, wp_oExp, wp_eA, wp_eB, wp_eC, kVar, wp_eVar, kMove, wp_eMove, kL, kT, kAC2, kAC, wp_eLst, wp_eTup, wp_aNil, wp_aCons, kM1, kM2, kM, wp_eM, kAnd_t, kAnd_f, kAnd_dec, kAnd_ndec, kAnd_beq, kAnd_bne, kAnd_nbeq, kOr_t, kOr_f, kOr_dec, kOr_ndec, kOr_beq, kOr_bne, kOr_nbeq, kNot, wp_eAnd, wp_eOr, wp_eNot, kIf_t, kIf_f, kIf_dec, kIf_ndec, kIf_beq, kIf_bne, kIf_nbeq, wp_eIf, kBool, wp_tBool, kTAnd_t, kTAnd_f, kTAnd_dec, kTAnd_ndec, kTAnd_beq, kTAnd_bne, kTAnd_nbeq, kTOr_t, kTOr_f, kTOr_dec, kTOr_ndec, kTOr_beq, kTOr_bne, kTOr_nbeq, kTNot, wp_tAnd, wp_tOr, wp_tNot, wp_tTrue, okO_map, okO_bind, kMap, kBind, kBody, kItems, kElt1, kElt_t, kElt_f, kElt_dec, kElt_ndec, kElt_beq, kElt_bne, kElt_nbeq, kRd1, kPick, wp_oPick, pick, itemsOf, kVal, wp_iVal, wp_iFz, kRd, wp_iRd, kRet, kCall1, kCall, wp_eCall, kSeq, wp_sSeq, wp_sIf, kRt, wp_sRet, kEx, wp_sExpr, kAsg, wp_sAsg, kPar, wp_sPar, wp_sNil, wp_sPass, wp_sCont, wp_sBreak, ok_gN, kSet1, kSet, ok_gSet, kFor, wp_sFor, kTurn, kComp2, wp_eComp, kOuts, wp_fn, entryO, outsO, takeOps, putOps, resA, resB, setO, O.erase, O.erases, O.shal, O.isFz, At.d, offE, onE, ownP, Option.map_some, Option.map_none, List.getElem?_cons_zero, List.getElem?_cons_succ, erases_mapF, erases_mapO, okO_ite, semInt2, semGt, semLt, semLe, semGe, ordD, semInt, semMod, semDiv, semSub, semAdd, semPow, semNeg, semAbs, semMax2, semMin2, semLen, slNS_s, slSN_s, slSS_s, slNS_l, slSN_l, slSS_l, gT, gsNil, gsCons, gStar1, hr]
        exact ⟨_, _, _, _, rfl⟩
      show wpR (sSeq (sFor e1 (gN 4) (sIf (tNot' (tBool (eCall φ__law_right (oVar 4 oNil)))) (sRet (eC (.bl false))) sNil)) (sSeq (sFor e2 (gN 4) (sIf (tNot' (tBool (eCall φ__law_right (oVar 4 oNil)))) (sRet (eC (.bl false))) sNil)) (sSeq (sFor e3 (gN 4) (sIf (tNot' (tBool (eCall φ__law_right (oVar 4 oNil)))) (sRet (eC (.bl false))) sNil)) (sRet (eC (.bl true))))) _) _ _
      rw [wp_sSeq]
      refine fixed e1_ok all1 ⟨_, _, _, _, rfl⟩ ?_
      intro e h
      show wpR (sSeq _ _ _) _ _
      rw [wp_sSeq]
      refine fixed e2_ok all2 h ?_
      intro e h
      show wpR (sSeq _ _ _) _ _
      rw [wp_sSeq]
      refine fixed e3_ok all3 h ?_
      rintro e ⟨x1, x2, x3, x4, rfl⟩
      simp [wpR_ok, wpR_exc, wpF_ret, wpF_exc, okO_some, okSl_some, kOV, kOE2, kOE, kA2, kA1, kA, kB2, kB1, kB, wp_oNil, wp_oVar, wp_oExp, wp_eA, wp_eB, wp_eC, kVar, wp_eVar, kMove, wp_eMove, kL, kT, kAC2, kAC, wp_eLst, wp_eTup, wp_aNil, wp_aCons, kM1, kM2, kM, wp_eM, kAnd_t, kAnd_f, kAnd_dec, kAnd_ndec, kAnd_beq, kAnd_bne, kAnd_nbeq, kOr_t, kOr_f, kOr_dec, kOr_ndec, kOr_beq, kOr_bne, kOr_nbeq, kNot, wp_eAnd, wp_eOr, wp_eNot, kIf_t, kIf_f, kIf_dec, kIf_ndec, kIf_beq, kIf_bne, kIf_nbeq, wp_eIf, kBool, wp_tBool, kTAnd_t, kTAnd_f, kTAnd_dec, kTAnd_ndec, kTAnd_beq, kTAnd_bne, kTAnd_nbeq, kTOr_t, kTOr_f, kTOr_dec, kTOr_ndec, kTOr_beq, kTOr_bne, kTOr_nbeq, kTNot, wp_tAnd, wp_tOr, wp_tNot, wp_tTrue, okO_map, okO_bind, kMap, kBind, kBody, kItems, kElt1, kElt_t, kElt_f, kElt_dec, kElt_ndec, kElt_beq, kElt_bne, kElt_nbeq, kRd1, kPick, wp_oPick, pick, itemsOf, kVal, wp_iVal, wp_iFz, kRd, wp_iRd, kRet, kCall1, kCall, wp_eCall, kSeq, wp_sSeq, wp_sIf, kRt, wp_sRet, kEx, wp_sExpr, kAsg, wp_sAsg, kPar, wp_sPar, wp_sNil, wp_sPass, wp_sCont, wp_sBreak, ok_gN, kSet1, kSet, ok_gSet, kFor, wp_sFor, kTurn, kComp2, wp_eComp, kOuts, wp_fn, entryO, outsO, takeOps, putOps, resA, resB, setO, O.erase, O.erases, O.shal, O.isFz, At.d, offE, onE, ownP, Option.map_some, Option.map_none, List.getElem?_cons_zero, List.getElem?_cons_succ, erases_mapF, erases_mapO, okO_ite, semInt2, semGt, semLt, semLe, semGe, ordD, semInt, semMod, semDiv, semSub, semAdd, semPow, semNeg, semAbs, semMax2, semMin2, semLen, slNS_s, slSN_s, slSS_s, slNS_l, slSN_l, slSS_l, gT, gsNil, gsCons, gStar1]
  obtain ⟨o, outs, h, rfl⟩ := wpF_ex goal
  exact ⟨outs, h⟩
end PyD.k01
end

section
set_option Elab.async false
set_option linter.all false
set_option maxRecDepth 100000
set_option maxHeartbeats 0
namespace PyD.k01
open PySem L2 PySem.Spec PyProof.Rows PyD
def dd__law_source : He.DefD := ⟨("_law_source", none), "_law_source", "_law_source", defArgs (top 8), defBody (top 8), defScope (top 8), [], []⟩
def dd__law_due : He.DefD := ⟨("_law_due", none), "_law_due", "_law_due", defArgs (top 11), defBody (top 11), defScope (top 11), [], []⟩
def dd_is_text_of : He.DefD := ⟨("is_text_of", none), "is_text_of", "is_text_of", defArgs (top 4), defBody (top 4), defScope (top 4), [], []⟩
def dd_is_pattern : He.DefD := ⟨("is_pattern", none), "is_pattern", "is_pattern", defArgs (top 6), defBody (top 6), defScope (top 6), [], []⟩
def dd_is_word : He.DefD := ⟨("is_word", none), "is_word", "is_word", defArgs (top 5), defBody (top 5), defScope (top 5), [], []⟩
def dd__law_right : He.DefD := ⟨("_law_right", none), "_law_right", "_law_right", defArgs (top 12), defBody (top 12), defScope (top 12), [], []⟩
def dd__law_draw : He.DefD := ⟨("_law_draw", none), "_law_draw", "_law_draw", defArgs (top 9), defBody (top 9), defScope (top 9), [], []⟩
def dd__law_text : He.DefD := ⟨("_law_text", none), "_law_text", "_law_text", defArgs (top 10), defBody (top 10), defScope (top 10), [], []⟩
def dd_law : He.DefD := ⟨("law", none), "law", "law", defArgs (top 13), defBody (top 13), defScope (top 13), [], []⟩
def fn : List He.DefD := [dd__law_source, dd__law_due, dd_is_text_of, dd_is_pattern, dd_is_word, dd__law_right, dd__law_draw, dd__law_text, dd_law]
def fa : List He.Fa := [.glo "_law_source", .glo "_law_due", .glo "is_text_of", .glo "is_pattern", .glo "is_word", .glo "_law_right", .glo "_law_draw", .glo "_law_text", .glo "law", .free "abs", .free "all", .free "int", .free "isinstance", .free "len", .free "max", .free "min", .free "range", .free "repr", .free "set", .free "sorted", .free "str", .str "FREE" "~", .str "SIGNS" "abcdefghijklmnopqrstuvwxyz0123456789-", .str "STAR" "*"]
abbrev Rr : PySem.W.OpenRow := PySem.W.OpenLaw.row PySem.Challenge.rw_plugnames_k01_words_and_patterns_judged
abbrev hk : PySem.W.Hook := He.hookD 4 fa fn
def ob (s : PySem.W.SharedT) : He.AlD := He.obsDG 4 fa fn (HandSHeadRun.getT s)
theorem ob_eq (s : PySem.W.SharedT) : ob s = hk.obs s.abs := He.obsDG_eq (HandSHeadRun.getT_eq s)
def loose0 : List PySem.Str := ["SIGNS", "FREE", "STAR", "is_text_of", "is_word", "is_pattern", "_law_source", "_law_draw", "_law_text", "_law_due", "_law_right"]
def loose : List PySem.Str := loose0
theorem run (w : World) : HandSHeadRun.RunEq Rr (PySem.W.view Rr.prog [13]) hk ob 4000 loose w := by
  intro os
  kernel_rfl
theorem facts {P : Program} {w : World} {K : PySem.W.Frag} {h : Heap} {mg : Str → Option Value} {f : Addr} (X : K.In h) (G : h.Ns mainGlobals mg) (hfa : mg ("law" : Str) = some (.ref f)) (c : He.SaysD fa fn K) :
    ∃ fd : FuncData, (∀ (s : Shared) (v : Value), BindsTo s fd ⟨[v], []⟩ [("_law_script", v)]) ∧ ∀ base : Heap, K.In base → base.Ns mainGlobals mg → FnG P w K mg base (L2.CX P w) 4 f fd ["_law_script"] (spF K φ_law 1) := by
  have Gm : Gs mg := ⟨He.free_ok X G (c.fact 9 (f := .free "abs") rfl), He.free_ok X G (c.fact 10 (f := .free "all") rfl), He.free_ok X G (c.fact 11 (f := .free "int") rfl), He.free_ok X G (c.fact 12 (f := .free "isinstance") rfl), He.free_ok X G (c.fact 13 (f := .free "len") rfl), He.free_ok X G (c.fact 14 (f := .free "max") rfl), He.free_ok X G (c.fact 15 (f := .free "min") rfl), He.free_ok X G (c.fact 16 (f := .free "range") rfl), He.free_ok X G (c.fact 17 (f := .free "repr") rfl), He.free_ok X G (c.fact 18 (f := .free "set") rfl), He.free_ok X G (c.fact 19 (f := .free "sorted") rfl), He.free_ok X G (c.fact 20 (f := .free "str") rfl), He.str_ok X G (c.fact 21 (f := .str "FREE" "~") rfl), He.str_ok X G (c.fact 22 (f := .str "SIGNS" "abcdefghijklmnopqrstuvwxyz0123456789-") rfl), He.str_ok X G (c.fact 23 (f := .str "STAR" "*") rfl)⟩
  obtain ⟨fd__law_source, F__law_source⟩ := c.def_ 0 (d := dd__law_source) rfl
  obtain ⟨fd__law_due, F__law_due⟩ := c.def_ 1 (d := dd__law_due) rfl
  obtain ⟨fd_is_text_of, F_is_text_of⟩ := c.def_ 2 (d := dd_is_text_of) rfl
  obtain ⟨fd_is_pattern, F_is_pattern⟩ := c.def_ 3 (d := dd_is_pattern) rfl
  obtain ⟨fd_is_word, F_is_word⟩ := c.def_ 4 (d := dd_is_word) rfl
  obtain ⟨fd__law_right, F__law_right⟩ := c.def_ 5 (d := dd__law_right) rfl
  obtain ⟨fd__law_draw, F__law_draw⟩ := c.def_ 6 (d := dd__law_draw) rfl
  obtain ⟨fd__law_text, F__law_text⟩ := c.def_ 7 (d := dd__law_text) rfl
  obtain ⟨fd_law, F_law⟩ := c.def_ 8 (d := dd_law) rfl
  have e := hfa.symm.trans (He.glo_ok X G (c.fact 8 (f := .glo "law") rfl))
  cases e
  refine ⟨fd_law, fun s v => FunD.bindsA (ps := ["_law_script"]) F_law (fun _ _ _ _ _ _ us hl => match us, hl with | [_], _ => rfl) s [v] rfl, fun base _ _ => ?_⟩
  have C__law_source := c__law_source (P := P) (w := w) (base := base) Gm  F__law_source (He.glo_ok X G (c.fact 0 (f := .glo "_law_source") rfl))
  have C__law_due := c__law_due (P := P) (w := w) (base := base) Gm  F__law_due (He.glo_ok X G (c.fact 1 (f := .glo "_law_due") rfl))
  have C_is_text_of := c_is_text_of (P := P) (w := w) (base := base) Gm  F_is_text_of (He.glo_ok X G (c.fact 2 (f := .glo "is_text_of") rfl))
  have C_is_pattern := c_is_pattern (P := P) (w := w) (base := base) Gm C_is_text_of F_is_pattern (He.glo_ok X G (c.fact 3 (f := .glo "is_pattern") rfl))
  have CK_is_pattern_value := ck_is_pattern_value (P := P) (w := w) (base := base) Gm C_is_text_of F_is_pattern (He.glo_ok X G (c.fact 3 (f := .glo "is_pattern") rfl))
  have C_is_word := c_is_word (P := P) (w := w) (base := base) Gm C_is_text_of F_is_word (He.glo_ok X G (c.fact 4 (f := .glo "is_word") rfl))
  have CK_is_word_value := ck_is_word_value (P := P) (w := w) (base := base) Gm C_is_text_of F_is_word (He.glo_ok X G (c.fact 4 (f := .glo "is_word") rfl))
  have C__law_right := c__law_right (P := P) (w := w) (base := base) Gm C__law_due C_is_pattern C_is_word CK_is_pattern_value CK_is_word_value F__law_right (He.glo_ok X G (c.fact 5 (f := .glo "_law_right") rfl))
  have C__law_draw := c__law_draw (P := P) (w := w) (base := base) Gm  F__law_draw (He.glo_ok X G (c.fact 6 (f := .glo "_law_draw") rfl))
  have C__law_text := c__law_text (P := P) (w := w) (base := base) Gm C__law_draw F__law_text (He.glo_ok X G (c.fact 7 (f := .glo "_law_text") rfl))
  unfold φ_law
  exact fnok_of F_law sc_law rfl rfl (m := 0) (by kernel_rfl) fun cdv A outer s H E hr => d_law Gm C__law_source C__law_right C__law_text cdv A outer s H E hr


end PyD.k01
open PySem PySem.W PySem.Calls PyProof.Rows in
theorem PySem.Challenge.cw_plugnames_k01_words_and_patterns_judged_holds : PySem.Challenge.rw_plugnames_k01_words_and_patterns_judged.Holds := by
  w_on; o_law
  refine HandSHeadRun.head_any (r := OpenLaw.row PySem.Challenge.rw_plugnames_k01_words_and_patterns_judged) (q := view (OpenLaw.row PySem.Challenge.rw_plugnames_k01_words_and_patterns_judged).prog [13])
    (H := PyD.k01.hk) (ob := PyD.k01.ob) (M := 4000) (loose := PyD.k01.loose) (d := HandSHeadRun.topDef (OpenLaw.row PySem.Challenge.rw_plugnames_k01_words_and_patterns_judged).prog 13) (kwd := []) PyD.k01.ob_eq
    (by kernel_rfl) (fun s => by kernel_rfl) PyD.k01.run (by kernel_rfl) (by kernel_rfl) (by kernel_rfl) (by rfl) (by first | assumption | decide +kernel) (by decide +kernel)
    ⟨rfl, rfl, rfl, rfl, rfl, by decide +kernel⟩ ?hw ?hc
  case hw => w_witness2
  case hc =>
    refine PyD.walk_law (l := PySem.Challenge.rw_plugnames_k01_words_and_patterns_judged) (n := 63) (k := 4) (x := "_law_script") rfl (by decide) (by kernel_rfl) ⟨⟨rfl, by decide, by decide⟩, rfl⟩ ?F
    intro w mg fa h Y G hmg0
    obtain ⟨K, KX, c⟩ := Y
    have hmg : mg ("law" : PySem.Str) = some (.ref fa) := by
      have e : (HandSHeadRun.topDef (OpenLaw.row PySem.Challenge.rw_plugnames_k01_words_and_patterns_judged).prog 13).name = ("law" : PySem.Str) := by kernel_rfl
      rw [← e]
      exact hmg0
    obtain ⟨fd, hb, hF⟩ := PyD.k01.facts (P := (PySem.Challenge.rw_plugnames_k01_words_and_patterns_judged).prog) (w := w) KX G hmg c
    exact ⟨K, fd, PyD.k01.φ_law, KX, hb, PyD.k01.law_true, hF⟩
end
