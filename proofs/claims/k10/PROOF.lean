import PyProof.Rows.All
import Wide.All
import OpenK.AllK
import Wide.FinOn
import HandS.ForMost
import HandS.ForExc
import PyProof.ReprRoads
import HandS.TupAny
import HandS.Style
import HandS.IsInst
import HandS.Wide
import HandS.ListItems
import HandS.ExcIs
import HandS.ExcValue
import HandS.SetFor
import HandS.More
import HandS.Dict
import HandS.Iter
import PySem.Challenge.RW_layerwise_k10_layers_of_rows
set_option Elab.async false
set_option linter.all false
set_option maxRecDepth 100000
set_option maxHeartbeats 2000000
/-! DL, part A: data as trees, frozen and owned; frames of trees; steps of heaps. -/
namespace DL
open PySem L2

/-- data that stands still; a tuple's k: its very object is known -/
inductive D where
  | non | bl (b : Bool) | int (i : Int) | str (x : Str)
  | tup (k : Bool) (ds : List D) | lst (ds : List D)
  | dK (ks : List Key) (ds : List D) | dT (ks : List (List Key)) (ds : List D)
  | obj (c : Str) (ns : List Str) (ds : List D)
  | exc (c : Str) (ns : List Str) (ds : List D)
  deriving Inhabited
/-- data of which the outer parts may be changed by whoever holds it -/
inductive O where
  | fz (d : D)
  | lst (os : List O)
  | dK (ks : List Key) (os : List O) | dT (ks : List (List Key)) (os : List O)
  | obj (c : Str) (ns : List Str) (os : List O)
  | tup (os : List O)
  deriving Inhabited
mutual
def O.val : O → D
  | .fz d => d
  | .lst os => .lst (vals os)
  | .dK ks os => .dK ks (vals os)
  | .dT ks os => .dT ks (vals os)
  | .obj c ns os => .obj c ns (vals os)
  | .tup os => .tup false (vals os)
def vals : List O → List D
  | [] => []
  | o :: os => o.val :: vals os
end
theorem vals_eq : ∀ os : List O, vals os = os.map O.val
  | [] => rfl
  | o :: os => by unfold vals; rw [vals_eq os]; rfl
theorem vals_fz (ds : List D) : vals (ds.map O.fz) = ds := by
  induction ds with
  | nil => rfl
  | cons d ds ih => unfold vals; rw [List.map_cons]; show O.val (.fz d) :: vals (ds.map O.fz) = _; rw [ih]; rfl

/-- an error that was caught, as it lies -/
def ExV (cls : Value) (d : Option Addr) (a : Addr) : HO := .ext fun h => ∃ (oe : Obj) (vs : Array Value), h.get? a = some oe ∧ Zc cls d oe ∧ oe.data = .fields vs
theorem noK {P : Prop} (e : false = true) : P := Bool.noConfusion e
/-- a tuple's own object, known or just a tuple's -/
def TupK (F : Hp) (a : Addr) (k : Bool) (xs : List V) : Prop := (k = true → ∃ o, F a = some (.frz o (.tup xs)) ∧ o.dict = none) ∧ (k = false → F a = some (.tup xs))
theorem tupN {F : Hp} {a : Addr} {xs : List V} (h : F a = some (.tup xs)) : TupK F a false xs := ⟨noK, fun _ => h⟩
/-- what does not change with the heap -/
structure Cs where
  K : PySem.W.Frag
  ca : Str → Option Addr

def Sub (F H : Hp) : Prop := ∀ b o, F b = some o → H b = some o
theorem Sub.refl (F : Hp) : Sub F F := fun _ _ h => h
theorem Sub.trans {F G H : Hp} (a : Sub F G) (b : Sub G H) : Sub F H := fun x o h => b x o (a x o h)
theorem Sub.rd {F G : Hp} {a : Addr} {u : HO} (s : Sub F G) (h : Rd F a u) : Rd G a u := h.imp (s _ _) fun ⟨o, q⟩ => ⟨o, s _ _ q⟩
theorem Sub.sqL {c : Cs} {F G : Hp} {a : Addr} {xs : List V} (s : Sub F G) (h : SqL c.K F a xs) : SqL c.K G a xs := Same.seq (K := c.K) s h
theorem Sub.sqT {c : Cs} {F G : Hp} {a : Addr} {xs : List V} (s : Sub F G) (h : SqT c.K F a xs) : SqT c.K G a xs := by
  rcases h with (h | ⟨o, h⟩) | h
  · exact .inl (.inl (s _ _ h))
  · exact .inl (.inr ⟨o, s _ _ h⟩)
  · exact .inr h

mutual
inductive Fz (c : Cs) (F : Hp) : V → D → Prop
  | non : Fz c F .non .non
  | bl {b : Bool} : Fz c F (.bl b) (.bl b)
  | int {i : Int} : Fz c F (.int i) (.int i)
  | str {x : Str} : Fz c F (.str x) (.str x)
  | tup {a : Addr} {xs : List V} {k : Bool} {ds : List D} : SqT c.K F a xs → TupK F a k xs → FzAll c F xs ds → Fz c F (.ref a) (.tup k ds)
  | lst {a : Addr} {xs : List V} {ds : List D} : SqL c.K F a xs → FzAll c F xs ds → Fz c F (.ref a) (.lst ds)
  | dK {a : Addr} {kvs : List (Key × V)} {ks : List Key} {ds : List D} : Rd F a (.dK kvs) → kvs.map (·.1) = ks → FzAll c F (kvs.map (·.2)) ds → Fz c F (.ref a) (.dK ks ds)
  | dT {a : Addr} {kvs : List (List Key × V)} {ks : List (List Key)} {ds : List D} : Rd F a (.dT kvs) → kvs.map (·.1) = ks → FzAll c F (kvs.map (·.2)) ds → Fz c F (.ref a) (.dT ks ds)
  | obj {a C dx : Addr} {fs : List (Str × V)} {n : Str} {ns : List Str} {ds : List D} : c.ca n = some C → F a = some (.ins C dx fs) → fs.map (·.1) = ns → FzAll c F (fs.map (·.2)) ds → Fz c F (.ref a) (.obj n ns ds)
  | exc {a C : Addr} {od : Option Addr} {fs : List (Str × V)} {n : Str} {ns : List Str} {ds : List D} : c.ca n = some C → F a = some (ExV (.ref C) od a) → ((fs = [] ∧ od = none) ∨ (fs ≠ [] ∧ ∃ dd, od = some dd ∧ F dd = some (.xd fs))) → fs.map (·.1) = ns → FzAll c F (fs.map (·.2)) ds → Fz c F (.ref a) (.exc n ns ds)
inductive FzAll (c : Cs) (F : Hp) : List V → List D → Prop
  | nil : FzAll c F [] []
  | cons {v : V} {vs : List V} {d : D} {ds : List D} : Fz c F v d → FzAll c F vs ds → FzAll c F (v :: vs) (d :: ds)
end
mutual
inductive Ow (c : Cs) (F H : Hp) : List Addr → V → O → Prop
  | fz {v : V} {d : D} : Fz c F v d → Ow c F H [] v (.fz d)
  | lst {a : Addr} {fp : List Addr} {xs : List V} {os : List O} : H a = some (.lst xs) → F a = none → a ∉ fp → OwAll c F H fp xs os → Ow c F H (a :: fp) (.ref a) (.lst os)
  | dK {a : Addr} {fp : List Addr} {kvs : List (Key × V)} {ks : List Key} {os : List O} : H a = some (.dK kvs) → F a = none → a ∉ fp → kvs.map (·.1) = ks → OwAll c F H fp (kvs.map (·.2)) os → Ow c F H (a :: fp) (.ref a) (.dK ks os)
  | dT {a : Addr} {fp : List Addr} {kvs : List (List Key × V)} {ks : List (List Key)} {os : List O} : H a = some (.dT kvs) → F a = none → a ∉ fp → kvs.map (·.1) = ks → OwAll c F H fp (kvs.map (·.2)) os → Ow c F H (a :: fp) (.ref a) (.dT ks os)
  | obj {a C dx : Addr} {fp : List Addr} {fs : List (Str × V)} {n : Str} {ns : List Str} {os : List O} : c.ca n = some C → H a = some (.ins C dx fs) → F a = none → a ∉ fp → fs.map (·.1) = ns → OwAll c F H fp (fs.map (·.2)) os → Ow c F H (a :: fp) (.ref a) (.obj n ns os)
  | tup {a : Addr} {fp : List Addr} {xs : List V} {os : List O} : F a = some (.tup xs) → OwAll c F H fp xs os → Ow c F H fp (.ref a) (.tup os)
inductive OwAll (c : Cs) (F H : Hp) : List Addr → List V → List O → Prop
  | nil : OwAll c F H [] [] []
  | cons {v : V} {vs : List V} {o : O} {os : List O} {fp fq : List Addr} : Ow c F H fp v o → OwAll c F H fq vs os → (∀ b ∈ fp, b ∉ fq) → OwAll c F H (fp ++ fq) (v :: vs) (o :: os)
end

section
variable {c : Cs} {F G H H' : Hp}
mutual
theorem Fz.mono (s : Sub F G) : ∀ {v : V} {d : D}, Fz c F v d → Fz c G v d
  | _, _, .non => .non
  | _, _, .bl => .bl
  | _, _, .int => .int
  | _, _, .str => .str
  | _, _, .tup h k r => .tup (s.sqT h) ⟨fun e => let ⟨o, p, q⟩ := k.1 e; ⟨o, s _ _ p, q⟩, fun e => s _ _ (k.2 e)⟩ (FzAll.mono s r)
  | _, _, .lst h r => .lst (s.sqL h) (FzAll.mono s r)
  | _, _, .dK h e r => .dK (s.rd h) e (FzAll.mono s r)
  | _, _, .dT h e r => .dT (s.rd h) e (FzAll.mono s r)
  | _, _, .obj k h e r => .obj k (s _ _ h) e (FzAll.mono s r)
  | _, _, .exc k h z e r => .exc k (s _ _ h) (z.imp id fun ⟨ne, dd, p, q⟩ => ⟨ne, dd, p, s _ _ q⟩) e (FzAll.mono s r)
theorem FzAll.mono (s : Sub F G) : ∀ {vs : List V} {ds : List D}, FzAll c F vs ds → FzAll c G vs ds
  | _, _, .nil => .nil
  | _, _, .cons h r => .cons (Fz.mono s h) (FzAll.mono s r)
end
theorem FzAll.length : ∀ {vs : List V} {ds : List D}, FzAll c F vs ds → vs.length = ds.length
  | _, _, .nil => rfl
  | _, _, .cons _ r => by rw [List.length_cons, List.length_cons, FzAll.length r]
theorem FzAll.get : ∀ {vs : List V} {ds : List D} {i : Nat} {d : D}, FzAll c F vs ds → ds[i]? = some d → ∃ v, vs[i]? = some v ∧ Fz c F v d
  | _, _, _, _, .nil, e => by simp at e
  | _, _, 0, _, .cons h _, e => by simp at e; subst e; exact ⟨_, rfl, h⟩
  | _, _, i + 1, _, .cons _ r, e => by
    obtain ⟨v, h1, h2⟩ := FzAll.get (i := i) r (by simpa using e)
    exact ⟨v, by simpa using h1, h2⟩
theorem FzAll.getV : ∀ {vs : List V} {ds : List D} {i : Nat} {v : V}, FzAll c F vs ds → vs[i]? = some v → ∃ d, ds[i]? = some d ∧ Fz c F v d
  | _, _, _, _, .nil, e => by simp at e
  | _, _, 0, _, .cons h _, e => by simp at e; subst e; exact ⟨_, rfl, h⟩
  | _, _, i + 1, _, .cons _ r, e => by
    obtain ⟨v, h1, h2⟩ := FzAll.getV (i := i) r (by simpa using e)
    exact ⟨v, by simpa using h1, h2⟩
theorem FzAll.append : ∀ {vs ws : List V} {ds es : List D}, FzAll c F vs ds → FzAll c F ws es → FzAll c F (vs ++ ws) (ds ++ es)
  | _, _, _, _, .nil, s => s
  | _, _, _, _, .cons h r, s => .cons h (FzAll.append r s)
theorem FzAll.take : ∀ {vs : List V} {ds : List D} (n : Nat), FzAll c F vs ds → FzAll c F (vs.take n) (ds.take n)
  | _, _, 0, _ => by simp; exact .nil
  | _, _, n + 1, .nil => .nil
  | _, _, n + 1, .cons h r => .cons h (FzAll.take n r)
theorem FzAll.drop : ∀ {vs : List V} {ds : List D} (n : Nat), FzAll c F vs ds → FzAll c F (vs.drop n) (ds.drop n)
  | _, _, 0, r => r
  | _, _, n + 1, .nil => .nil
  | _, _, n + 1, .cons h r => FzAll.drop n r
mutual
/-- the whole is looked at by any heap that agrees at its own places -/
theorem Ow.look (s : Sub F G) : ∀ {fp : List Addr} {v : V} {o : O}, Ow c F H fp v o → (∀ b ∈ fp, G b = H b) → Fz c G v o.val
  | _, _, _, .fz h, _ => h.mono s
  | _, _, _, .lst (a := a) h n z r, e => .lst (SqL.of ((e a List.mem_cons_self).trans h)) (OwAll.look s r fun b hb => e b (List.mem_cons_of_mem _ hb))
  | _, _, _, .dK (a := a) h n z k r, e => .dK (.inl ((e a List.mem_cons_self).trans h)) k (OwAll.look s r fun b hb => e b (List.mem_cons_of_mem _ hb))
  | _, _, _, .dT (a := a) h n z k r, e => .dT (.inl ((e a List.mem_cons_self).trans h)) k (OwAll.look s r fun b hb => e b (List.mem_cons_of_mem _ hb))
  | _, _, _, .obj (a := a) ca h n z k r, e => .obj ca ((e a List.mem_cons_self).trans h) k (OwAll.look s r fun b hb => e b (List.mem_cons_of_mem _ hb))
  | _, _, _, .tup h r, e => .tup (SqT.of (s _ _ h)) (tupN (s _ _ h)) (OwAll.look s r e)
theorem OwAll.look (s : Sub F G) : ∀ {fp : List Addr} {vs : List V} {os : List O}, OwAll c F H fp vs os → (∀ b ∈ fp, G b = H b) → FzAll c G vs (vals os)
  | _, _, _, .nil, _ => .nil
  | _, _, _, .cons h r z, e => .cons (Ow.look s h fun b hb => e b (List.mem_append_left _ hb)) (OwAll.look s r fun b hb => e b (List.mem_append_right _ hb))
end
mutual
/-- .. and stands as it is while nobody else touches it -/
theorem Ow.keep (s : Sub F G) : ∀ {fp : List Addr} {v : V} {o : O}, Ow c F H fp v o → (∀ b ∈ fp, G b = none) → (∀ b ∈ fp, H' b = H b) → Ow c G H' fp v o
  | _, _, _, .fz h, _, _ => .fz (h.mono s)
  | _, _, _, .lst (a := a) h n z r, g, e => .lst ((e a List.mem_cons_self).trans h) (g a List.mem_cons_self) z (OwAll.keep s r (fun b hb => g b (List.mem_cons_of_mem _ hb)) fun b hb => e b (List.mem_cons_of_mem _ hb))
  | _, _, _, .dK (a := a) h n z k r, g, e => .dK ((e a List.mem_cons_self).trans h) (g a List.mem_cons_self) z k (OwAll.keep s r (fun b hb => g b (List.mem_cons_of_mem _ hb)) fun b hb => e b (List.mem_cons_of_mem _ hb))
  | _, _, _, .dT (a := a) h n z k r, g, e => .dT ((e a List.mem_cons_self).trans h) (g a List.mem_cons_self) z k (OwAll.keep s r (fun b hb => g b (List.mem_cons_of_mem _ hb)) fun b hb => e b (List.mem_cons_of_mem _ hb))
  | _, _, _, .obj (a := a) ca h n z k r, g, e => .obj ca ((e a List.mem_cons_self).trans h) (g a List.mem_cons_self) z k (OwAll.keep s r (fun b hb => g b (List.mem_cons_of_mem _ hb)) fun b hb => e b (List.mem_cons_of_mem _ hb))
  | _, _, _, .tup h r, g, e => .tup (s _ _ h) (OwAll.keep s r g e)
theorem OwAll.keep (s : Sub F G) : ∀ {fp : List Addr} {vs : List V} {os : List O}, OwAll c F H fp vs os → (∀ b ∈ fp, G b = none) → (∀ b ∈ fp, H' b = H b) → OwAll c G H' fp vs os
  | _, _, _, .nil, _, _ => .nil
  | _, _, _, .cons h r z, g, e => .cons (Ow.keep s h (fun b hb => g b (List.mem_append_left _ hb)) fun b hb => e b (List.mem_append_left _ hb)) (OwAll.keep s r (fun b hb => g b (List.mem_append_right _ hb)) fun b hb => e b (List.mem_append_right _ hb)) z
end
mutual
theorem Ow.has : ∀ {fp : List Addr} {v : V} {o : O}, Ow c F H fp v o → ∀ b ∈ fp, F b = none ∧ H b ≠ none
  | _, _, _, .fz h, _, hb => nomatch hb
  | _, _, _, .lst h n z r, b, hb => by
    rcases List.mem_cons.mp hb with rfl | hb
    · exact ⟨n, by rw [h]; intro q; cases q⟩
    · exact OwAll.has r b hb
  | _, _, _, .dK h n z k r, b, hb => by
    rcases List.mem_cons.mp hb with rfl | hb
    · exact ⟨n, by rw [h]; intro q; cases q⟩
    · exact OwAll.has r b hb
  | _, _, _, .dT h n z k r, b, hb => by
    rcases List.mem_cons.mp hb with rfl | hb
    · exact ⟨n, by rw [h]; intro q; cases q⟩
    · exact OwAll.has r b hb
  | _, _, _, .obj ca h n z k r, b, hb => by
    rcases List.mem_cons.mp hb with rfl | hb
    · exact ⟨n, by rw [h]; intro q; cases q⟩
    · exact OwAll.has r b hb
  | _, _, _, .tup h r, b, hb => OwAll.has r b hb
theorem OwAll.has : ∀ {fp : List Addr} {vs : List V} {os : List O}, OwAll c F H fp vs os → ∀ b ∈ fp, F b = none ∧ H b ≠ none
  | _, _, _, .nil, _, hb => nomatch hb
  | _, _, _, .cons h r z, b, hb => by
    rcases List.mem_append.mp hb with hb | hb
    · exact Ow.has h b hb
    · exact OwAll.has r b hb
end
mutual
theorem Ow.nt : ∀ {fp : List Addr} {v : V} {o : O}, Ow c F H fp v o → ∀ b ∈ fp, ∀ xs, H b ≠ some (.tup xs)
  | _, _, _, .fz h, _, hb => nomatch hb
  | _, _, _, .lst h n z r, b, hb => by
    rcases List.mem_cons.mp hb with e | hb
    · subst e; intro xs q; rw [h] at q; cases q
    · exact OwAll.nt r b hb
  | _, _, _, .dK h n z k r, b, hb => by
    rcases List.mem_cons.mp hb with e | hb
    · subst e; intro xs q; rw [h] at q; cases q
    · exact OwAll.nt r b hb
  | _, _, _, .dT h n z k r, b, hb => by
    rcases List.mem_cons.mp hb with e | hb
    · subst e; intro xs q; rw [h] at q; cases q
    · exact OwAll.nt r b hb
  | _, _, _, .obj ca h n z k r, b, hb => by
    rcases List.mem_cons.mp hb with e | hb
    · subst e; intro xs q; rw [h] at q; cases q
    · exact OwAll.nt r b hb
  | _, _, _, .tup h r, b, hb => OwAll.nt r b hb
theorem OwAll.nt : ∀ {fp : List Addr} {vs : List V} {os : List O}, OwAll c F H fp vs os → ∀ b ∈ fp, ∀ xs, H b ≠ some (.tup xs)
  | _, _, _, .nil, _, hb => nomatch hb
  | _, _, _, .cons h r z, b, hb => by
    rcases List.mem_append.mp hb with hb | hb
    · exact Ow.nt h b hb
    · exact OwAll.nt r b hb
end
theorem OwAll.length : ∀ {fp : List Addr} {vs : List V} {os : List O}, OwAll c F H fp vs os → vs.length = os.length
  | _, _, _, .nil => rfl
  | _, _, _, .cons _ r _ => by rw [List.length_cons, List.length_cons, OwAll.length r]
theorem FzAll.ow : ∀ {vs : List V} {ds : List D}, FzAll c F vs ds → OwAll c F H [] vs (ds.map O.fz)
  | _, _, .nil => .nil
  | _, _, .cons h r => OwAll.cons (fp := []) (fq := []) (.fz h) (FzAll.ow r) fun _ hb => nomatch hb
theorem OwAll.append : ∀ {fp fq : List Addr} {vs ws : List V} {os ps : List O}, OwAll c F H fp vs os → OwAll c F H fq ws ps → (∀ b ∈ fp, b ∉ fq) → OwAll c F H (fp ++ fq) (vs ++ ws) (os ++ ps)
  | _, _, _, _, _, _, .nil, s, _ => s
  | _, _, _, _, _, _, .cons (fp := fp) (fq := fq') h r z, s, e => by
    rw [List.append_assoc]
    refine .cons h (OwAll.append r s fun b hb => e b (List.mem_append_right _ hb)) fun b hb => ?_
    intro q
    rcases List.mem_append.mp q with q | q
    · exact z b hb q
    · exact e b (List.mem_append_left _ hb) q
end

/-! ### steps of the heap: fp: what may be touched ahead, fp': what is held behind -/
structure Stp (F H : Hp) (fp : List Addr) (F' H' : Hp) (fp' : List Addr) : Prop where
  fh : Sub F' H'
  ff : Sub F F'
  keep : ∀ b o, H b = some o → b ∉ fp → H' b = some o
  newF : ∀ b, H b ≠ none → b ∉ fp → F b = none → (∀ xs, H b ≠ some (.tup xs)) → F' b = none
  newP : ∀ b ∈ fp', b ∈ fp ∨ H b = none
section
variable {c : Cs} {F F' F2 H H' H2 : Hp} {fp fp' fp2 fq : List Addr}
theorem Stp.refl (s : Sub F H) : Stp F H fp F H fp := ⟨s, Sub.refl _, fun _ _ h _ => h, fun _ _ _ h _ => h, fun _ hb => .inl hb⟩
theorem Stp.trans (a : Stp F H fp F' H' fp') (b : Stp F' H' fp' F2 H2 fp2) : Stp F H fp F2 H2 fp2 where
  fh := b.fh
  ff := a.ff.trans b.ff
  keep := fun x o h n => b.keep x o (a.keep x o h n) fun z => by
    rcases a.newP x z with q | q
    · exact n q
    · rw [h] at q; cases q
  newF := fun x h n q nt => by
    have same : H' x = H x := by
      cases e : H x with
      | none => exact absurd e h
      | some o => exact a.keep x o e n
    refine b.newF x (by rw [same]; exact h) (fun z => ?_) (a.newF x h n q nt) (by rw [same]; exact nt)
    rcases a.newP x z with q | q
    · exact n q
    · exact h q
  newP := fun x hx => by
    rcases b.newP x hx with q | q
    · exact a.newP x q
    · by_cases hh : x ∈ fp
      · exact .inl hh
      · refine .inr ?_
        cases e : H x with
        | none => rfl
        | some o => rw [a.keep x o e hh] at q; cases q
/-- behind a step that touches other things -/
theorem Stp.part (a : Stp F H fp F' H' fp') (sub : ∀ b ∈ fp, b ∈ fq) (sub' : ∀ b ∈ fp2, b ∈ fp') : Stp F H fq F' H' fp2 :=
  ⟨a.fh, a.ff, fun b o h n => a.keep b o h fun z => n (sub b z), fun b h n q nt => a.newF b h (fun z => n (sub b z)) q nt, fun b hb => (a.newP b (sub' b hb)).imp (sub b) id⟩
/-- what else is held is held on -/
theorem Stp.more (a : Stp F H fp F' H' fp') (hn : ∀ b ∈ fq, H b ≠ none) : Stp F H (fp ++ fq) F' H' (fp' ++ fq) :=
  ⟨a.fh, a.ff, fun b o h n => a.keep b o h fun z => n (List.mem_append_left _ z), fun b h n q nt => a.newF b h (fun z => n (List.mem_append_left _ z)) q nt, fun b hb => by
    rcases List.mem_append.mp hb with hb | hb
    · rcases a.newP b hb with q | q
      · exact .inl (List.mem_append_left _ q)
      · exact .inr q
    · exact .inl (List.mem_append_right _ hb)⟩
theorem Stp.same (a : Stp F H fp F' H' fp') (hn : ∀ b ∈ fq, H b ≠ none) (d : ∀ b ∈ fq, b ∉ fp) : ∀ b ∈ fq, H' b = H b := fun b hb => by
  cases e : H b with
  | none => exact absurd e (hn b hb)
  | some o => exact a.keep b o e (d b hb)
theorem Stp.ow {v : V} {o : O} (a : Stp F H fp F' H' fp') (r : Ow c F H fq v o) (d : ∀ b ∈ fq, b ∉ fp) : Ow c F' H' fq v o :=
  r.keep a.ff (fun b hb => a.newF b (r.has b hb).2 (d b hb) (r.has b hb).1 (r.nt b hb)) (a.same (fun b hb => (r.has b hb).2) d)
theorem Stp.owAll {vs : List V} {os : List O} (a : Stp F H fp F' H' fp') (r : OwAll c F H fq vs os) (d : ∀ b ∈ fq, b ∉ fp) : OwAll c F' H' fq vs os :=
  r.keep a.ff (fun b hb => a.newF b (r.has b hb).2 (d b hb) (r.has b hb).1 (r.nt b hb)) (a.same (fun b hb => (r.has b hb).2) d)
theorem Stp.apart (a : Stp F H fp F' H' fp') (hn : ∀ b ∈ fq, H b ≠ none) (d : ∀ b ∈ fq, b ∉ fp) : ∀ b ∈ fq, b ∉ fp' := fun b hb z => by
  rcases a.newP b z with q | q
  · exact d b hb q
  · exact hn b hb q
/-- something is laid anew -/
theorem Stp.new {p : Addr} {o : HO} (s : Sub F H) (hp : H p = none) : Stp F H fp F (upd H p o) (fp ++ [p]) :=
  ⟨fun b u h => by rw [upd_ne (ne_of_none (s b u h) hp)]; exact s b u h, Sub.refl _, fun b u h _ => by rw [upd_ne (ne_of_none h hp)]; exact h, fun _ _ _ h _ => h, fun b hb => by
    rcases List.mem_append.mp hb with hb | hb
    · exact .inl hb
    · rw [List.mem_singleton] at hb; subst hb; exact .inr hp⟩
/-- something held is changed -/
theorem Stp.chg {p : Addr} {o : HO} (s : Sub F H) (hp : p ∈ fp) (hF : F p = none) : Stp F H fp F (upd H p o) fp :=
  ⟨fun b u h => by rw [upd_ne (ne_of_none h hF)]; exact s b u h, Sub.refl _, fun b u h n => by rw [upd_ne (fun e => n (by rw [e]; exact hp))]; exact h, fun _ _ _ h _ => h, fun _ hb => .inl hb⟩
/-- F with what stands at some places now -/
def ice (F H : Hp) (fq : List Addr) : Hp := fun b => if b ∈ fq then H b else F b
theorem ice_in {b : Addr} (h : b ∈ fq) : ice F H fq b = H b := if_pos h
theorem ice_out {b : Addr} (h : b ∉ fq) : ice F H fq b = F b := if_neg h
/-- what is held is frozen -/
theorem Stp.ice (s : Sub F H) (hF : ∀ b ∈ fq, F b = none) (hq : ∀ b ∈ fq, b ∈ fp) (hp : ∀ b ∈ fp', b ∈ fp) : Stp F H fp (ice F H fq) H fp' where
  fh := fun b o h => by
    by_cases q : b ∈ fq
    · rw [ice_in q] at h; exact h
    · rw [ice_out q] at h; exact s b o h
  ff := fun b o h => by
    rw [ice_out (fun q => by rw [hF b q] at h; cases h)]; exact h
  keep := fun _ _ h _ => h
  newF := fun b _ n h _ => by rw [ice_out (fun q => n (hq b q))]; exact h
  newP := fun b hb => .inl (hp b hb)
theorem Ow.ice {v : V} {o : O} (s : Sub F H) (r : Ow c F H fq v o) : Fz c (ice F H fq) v o.val :=
  r.look (fun b u h => by rw [ice_out (fun q => by rw [(r.has b q).1] at h; cases h)]; exact h) fun b hb => ice_in hb
theorem OwAll.ice {vs : List V} {os : List O} (s : Sub F H) (r : OwAll c F H fq vs os) : FzAll c (ice F H fq) vs (vals os) :=
  r.look (fun b u h => by rw [ice_out (fun q => by rw [(r.has b q).1] at h; cases h)]; exact h) fun b hb => ice_in hb
end
end DL

set_option Elab.async false
set_option linter.all false
set_option maxRecDepth 100000
set_option maxHeartbeats 2000000
/-! DL, part B: a frame of trees, outcomes, the readings. -/
namespace DL
open PySem L2

/-- a slot: a thing of its own, or the one that the caller lent -/
inductive Sl where
  | ow (o : O) | me
structure En where
  sl : List (Option Sl)
  me : O
/-- an error: its class, its fields -/
structure XD where
  c : Str
  fs : List (Str × D)
inductive Out (α : Type) where
  | ok (a : α) (e : En) | ex (x : XD) (e : En) | no
def Out.bind {α β : Type} (r : Out α) (k : α → En → Out β) : Out β :=
  match r with
  | .ok a e => k a e
  | .ex x e => .ex x e
  | .no => .no
/-- a value that an expression tells: what stands in a slot, or a new one -/
inductive Rv where
  | sl (i : Nat) | me | tm (o : O)

section
variable (c : Cs) (mv : V) (F H : Hp)
inductive SlR : List Addr → St → List (Option Sl) → Prop
  | nil : SlR [] [] []
  | hole {s : Option V} {fp : List Addr} {σ : St} {e : List (Option Sl)} : SlR fp σ e → SlR fp (s :: σ) (none :: e)
  | me {fp : List Addr} {σ : St} {e : List (Option Sl)} : SlR fp σ e → SlR fp (some mv :: σ) (some .me :: e)
  | ow {fp fq : List Addr} {v : V} {o : O} {σ : St} {e : List (Option Sl)} : Ow c F H fp v o → SlR fq σ e → (∀ b ∈ fp, b ∉ fq) → SlR (fp ++ fq) (some v :: σ) (some (.ow o) :: e)
structure EnvR (fp : List Addr) (σ : St) (e : En) : Prop where
  ex : ∃ fm fs, Ow c F H fm mv e.me ∧ SlR c mv F H fs σ e.sl ∧ (∀ b ∈ fm, b ∉ fs) ∧ ∀ b, b ∈ fp ↔ b ∈ fm ∨ b ∈ fs
inductive RvR (σ : St) : List Addr → V → Rv → Prop
  | sl {i : Nat} {v : V} : σ[i]? = some (some v) → RvR σ [] v (.sl i)
  | me : RvR σ [] mv .me
  | tm {fq : List Addr} {v : V} {o : O} : Ow c F H fq v o → RvR σ fq v (.tm o)
inductive RvAll (σ : St) : List Addr → List V → List Rv → Prop
  | nil : RvAll σ [] [] []
  | cons {fp fq : List Addr} {v : V} {r : Rv} {vs : List V} {rs : List Rv} : RvR c mv F H σ fp v r → RvAll σ fq vs rs → (∀ b ∈ fp, b ∉ fq) → RvAll σ (fp ++ fq) (v :: vs) (r :: rs)
end
/-- an error as it lies -/
def XR (c : Cs) (F : Hp) (cls : Value) (d : Option Addr) (x : XD) : Prop :=
  ∃ C, c.ca x.c = some C ∧ cls = .ref C ∧ ((x.fs = [] ∧ d = none) ∨ x.fs ≠ [] ∧ ∃ dd vs, d = some dd ∧ F dd = some (.xd vs) ∧ vs.map (·.1) = x.fs.map (·.1) ∧ FzAll c F (vs.map (·.2)) (x.fs.map (·.2)))
theorem XR.mono {c : Cs} {F G : Hp} {cls : Value} {d : Option Addr} {x : XD} (s : Sub F G) (h : XR c F cls d x) : XR c G cls d x := by
  obtain ⟨C, h1, h2, h3⟩ := h
  refine ⟨C, h1, h2, ?_⟩
  rcases h3 with h3 | ⟨ne, dd, vs, a, b, k, r⟩
  · exact .inl h3
  · exact .inr ⟨ne, dd, vs, a, s _ _ b, k, r.mono s⟩

section
variable {c : Cs} {mv : V} {F F' H H' : Hp} {fp fp' fq fq' : List Addr} {σ : St} {e : En}
theorem SlR.has : ∀ {fp : List Addr} {σ : St} {l : List (Option Sl)}, SlR c mv F H fp σ l → ∀ b ∈ fp, F b = none ∧ H b ≠ none
  | _, _, _, .nil, _, hb => nomatch hb
  | _, _, _, .hole r, b, hb => SlR.has r b hb
  | _, _, _, .me r, b, hb => SlR.has r b hb
  | _, _, _, .ow h r z, b, hb => by
    rcases List.mem_append.mp hb with hb | hb
    · exact h.has b hb
    · exact SlR.has r b hb
theorem SlR.stp (s : Stp F H fp F' H' fp') : ∀ {fq : List Addr} {σ : St} {l : List (Option Sl)}, SlR c mv F H fq σ l → (∀ b ∈ fq, b ∉ fp) → SlR c mv F' H' fq σ l
  | _, _, _, .nil, _ => .nil
  | _, _, _, .hole r, d => .hole (SlR.stp s r d)
  | _, _, _, .me r, d => .me (SlR.stp s r d)
  | _, _, _, .ow h r z, d => .ow (s.ow h fun b hb => d b (List.mem_append_left _ hb)) (SlR.stp s r fun b hb => d b (List.mem_append_right _ hb)) z
theorem EnvR.has (r : EnvR c mv F H fp σ e) : ∀ b ∈ fp, F b = none ∧ H b ≠ none := fun b hb => by
  obtain ⟨fm, fs, h1, h2, _, h4⟩ := r.ex
  rcases (h4 b).mp hb with q | q
  · exact h1.has b q
  · exact h2.has b q
theorem EnvR.stp (s : Stp F H fp F' H' fp') (r : EnvR c mv F H fq σ e) (d : ∀ b ∈ fq, b ∉ fp) : EnvR c mv F' H' fq σ e := by
  obtain ⟨fm, fs, h1, h2, h3, h4⟩ := r.ex
  exact ⟨fm, fs, s.ow h1 fun b hb => d b ((h4 b).mpr (.inl hb)), h2.stp s fun b hb => d b ((h4 b).mpr (.inr hb)), h3, h4⟩
theorem EnvR.perm (r : EnvR c mv F H fp σ e) (h : ∀ b, b ∈ fq ↔ b ∈ fp) : EnvR c mv F H fq σ e := by
  obtain ⟨fm, fs, h1, h2, h3, h4⟩ := r.ex
  exact ⟨fm, fs, h1, h2, h3, fun b => (h b).trans (h4 b)⟩
theorem RvR.has {v : V} {r : Rv} (h : RvR c mv F H σ fq v r) : ∀ b ∈ fq, F b = none ∧ H b ≠ none := by
  cases h with
  | sl h => intro b hb; cases hb
  | me => intro b hb; cases hb
  | tm h => exact h.has
theorem RvR.stp {v : V} {r : Rv} (s : Stp F H fp F' H' fp') (h : RvR c mv F H σ fq v r) (d : ∀ b ∈ fq, b ∉ fp) : RvR c mv F' H' σ fq v r := by
  cases h with
  | sl h => exact .sl h
  | me => exact .me
  | tm h => exact .tm (s.ow h d)
theorem RvAll.has : ∀ {fq : List Addr} {vs : List V} {rs : List Rv}, RvAll c mv F H σ fq vs rs → ∀ b ∈ fq, F b = none ∧ H b ≠ none
  | _, _, _, .nil, _, hb => nomatch hb
  | _, _, _, .cons h r z, b, hb => by
    rcases List.mem_append.mp hb with hb | hb
    · exact h.has b hb
    · exact RvAll.has r b hb
theorem RvAll.stp (s : Stp F H fp F' H' fp') : ∀ {fq : List Addr} {vs : List V} {rs : List Rv}, RvAll c mv F H σ fq vs rs → (∀ b ∈ fq, b ∉ fp) → RvAll c mv F' H' σ fq vs rs
  | _, _, _, .nil, _ => .nil
  | _, _, _, .cons h r z, d => .cons (h.stp s fun b hb => d b (List.mem_append_left _ hb)) (RvAll.stp s r fun b hb => d b (List.mem_append_right _ hb)) z

/-! ### slots taken out and put in -/
theorem SlR.take : ∀ {fp : List Addr} {σ : St} {l : List (Option Sl)} {i : Nat} {o : O}, SlR c mv F H fp σ l → l[i]? = some (some (.ow o)) →
    ∃ v fo fr, σ[i]? = some (some v) ∧ Ow c F H fo v o ∧ SlR c mv F H fr σ (l.set i none) ∧ (∀ b ∈ fo, b ∉ fr) ∧ ∀ b, b ∈ fp ↔ b ∈ fo ∨ b ∈ fr
  | _, _, _, _, _, .nil, e => by simp at e
  | _, _, _, 0, _, .hole r, e => by simp at e
  | _, _, _, 0, _, .me r, e => by simp at e
  | _, _, _, 0, o, .ow (v := v) (fp := fo) (fq := fr) h r z, e => by
    simp at e; subst e
    exact ⟨v, fo, fr, rfl, h, .hole r, z, fun b => List.mem_append⟩
  | _, _, _, i + 1, o, .hole r, e => by
    obtain ⟨v, fo, fr, h1, h2, h3, h4, h5⟩ := SlR.take (i := i) r (by simpa using e)
    exact ⟨v, fo, fr, by simpa using h1, h2, .hole h3, h4, h5⟩
  | _, _, _, i + 1, o, .me r, e => by
    obtain ⟨v, fo, fr, h1, h2, h3, h4, h5⟩ := SlR.take (i := i) r (by simpa using e)
    exact ⟨v, fo, fr, by simpa using h1, h2, .me h3, h4, h5⟩
  | _, _, _, i + 1, o, .ow (fp := fa) (fq := fb) h r z, e => by
    obtain ⟨v, fo, fr, h1, h2, h3, h4, h5⟩ := SlR.take (i := i) r (by simpa using e)
    refine ⟨v, fo, fa ++ fr, by simpa using h1, h2, .ow h h3 fun b hb q => z b hb ((h5 b).mpr (.inr q)), fun b hb q => ?_, fun b => ?_⟩
    · rcases List.mem_append.mp q with q | q
      · exact z b q ((h5 b).mpr (.inl hb))
      · exact h4 b hb q
    · rw [List.mem_append, List.mem_append, h5 b]
      constructor
      · rintro (q | q | q)
        · exact .inr (.inl q)
        · exact .inl q
        · exact .inr (.inr q)
      · rintro (q | q | q)
        · exact .inr (.inl q)
        · exact .inl q
        · exact .inr (.inr q)
/-- a store: what stood there is forgotten -/
theorem SlR.put : ∀ {fr : List Addr} {σ : St} {l : List (Option Sl)} {i : Nat} {v : V} {o : O} {fo : List Addr}, SlR c mv F H fr σ l → Ow c F H fo v o → (∀ b ∈ fo, b ∉ fr) →
    ∃ fp, SlR c mv F H fp (σ.set i (some v)) (l.set i (some (.ow o))) ∧ ∀ b ∈ fp, b ∈ fo ∨ b ∈ fr
  | _, _, _, _, _, _, _, .nil, h, d => ⟨[], .nil, fun b hb => nomatch hb⟩
  | _, _, _, 0, v, o, fo, .hole (fp := fr) r, h, d => ⟨fo ++ fr, .ow h r d, fun b => List.mem_append.mp⟩
  | _, _, _, 0, v, o, fo, .me (fp := fr) r, h, d => ⟨fo ++ fr, .ow h r d, fun b => List.mem_append.mp⟩
  | _, _, _, 0, v, o, fo, .ow (fp := fa) (fq := fr) _ r z, h, d => ⟨fo ++ fr, .ow h r fun b hb q => d b hb (List.mem_append_right _ q), fun b hb => (List.mem_append.mp hb).imp id (List.mem_append_right _)⟩
  | _, _, _, i + 1, v, o, fo, .hole r, h, d => by
    obtain ⟨fp, h1, h2⟩ := SlR.put (i := i) r h d
    exact ⟨fp, .hole h1, h2⟩
  | _, _, _, i + 1, v, o, fo, .me r, h, d => by
    obtain ⟨fp, h1, h2⟩ := SlR.put (i := i) r h d
    exact ⟨fp, .me h1, h2⟩
  | _, _, _, i + 1, v, o, fo, .ow (fp := fa) (fq := fb) h' r z, h, d => by
    obtain ⟨fp, h1, h2⟩ := SlR.put (i := i) r h fun b hb q => d b hb (List.mem_append_right _ q)
    refine ⟨fa ++ fp, .ow h' h1 fun b hb q => ?_, fun b hb => ?_⟩
    · rcases h2 b q with q | q
      · exact d b q (List.mem_append_left _ hb)
      · exact z b hb q
    · rcases List.mem_append.mp hb with q | q
      · exact .inr (List.mem_append_left _ q)
      · exact (h2 b q).imp id (List.mem_append_right _)
/-- a slot is forgotten -/
theorem SlR.drop : ∀ {fr : List Addr} {σ : St} {l : List (Option Sl)} {i : Nat}, SlR c mv F H fr σ l → ∃ fp, SlR c mv F H fp σ (l.set i none) ∧ ∀ b ∈ fp, b ∈ fr
  | _, _, _, _, .nil => ⟨[], .nil, fun b hb => nomatch hb⟩
  | _, _, _, 0, .hole (fp := fr) r => ⟨fr, .hole r, fun b h => h⟩
  | _, _, _, 0, .me (fp := fr) r => ⟨fr, .hole r, fun b h => h⟩
  | _, _, _, 0, .ow (fq := fr) _ r z => ⟨fr, .hole r, fun b h => List.mem_append_right _ h⟩
  | _, _, _, i + 1, .hole r => by
    obtain ⟨fp, h1, h2⟩ := SlR.drop (i := i) r
    exact ⟨fp, .hole h1, h2⟩
  | _, _, _, i + 1, .me r => by
    obtain ⟨fp, h1, h2⟩ := SlR.drop (i := i) r
    exact ⟨fp, .me h1, h2⟩
  | _, _, _, i + 1, .ow (fp := fa) h r z => by
    obtain ⟨fp, h1, h2⟩ := SlR.drop (i := i) r
    exact ⟨fa ++ fp, .ow h h1 fun b hb q => z b hb (h2 b q), fun b hb => (List.mem_append.mp hb).elim (List.mem_append_left _) fun q => List.mem_append_right _ (h2 b q)⟩
theorem SlR.atMe : ∀ {fr : List Addr} {σ : St} {l : List (Option Sl)} {i : Nat}, SlR c mv F H fr σ l → l[i]? = some (some .me) → σ[i]? = some (some mv)
  | _, _, _, _, .nil, e => by simp at e
  | _, _, _, 0, .hole r, e => by simp at e
  | _, _, _, 0, .me r, e => rfl
  | _, _, _, 0, .ow _ r z, e => by simp at e
  | _, _, _, i + 1, .hole r, e => by simpa using SlR.atMe (i := i) r (by simpa using e)
  | _, _, _, i + 1, .me r, e => by simpa using SlR.atMe (i := i) r (by simpa using e)
  | _, _, _, i + 1, .ow _ r z, e => by simpa using SlR.atMe (i := i) r (by simpa using e)
theorem SlR.length : ∀ {fr : List Addr} {σ : St} {l : List (Option Sl)}, SlR c mv F H fr σ l → σ.length = l.length
  | _, _, _, .nil => rfl
  | _, _, _, .hole r => by rw [List.length_cons, List.length_cons, SlR.length r]
  | _, _, _, .me r => by rw [List.length_cons, List.length_cons, SlR.length r]
  | _, _, _, .ow _ r _ => by rw [List.length_cons, List.length_cons, SlR.length r]
def En.put (e : En) (i : Nat) (o : O) : En := { e with sl := e.sl.set i (some (.ow o)) }
def En.hole (e : En) (i : Nat) : En := { e with sl := e.sl.set i none }
theorem EnvR.put {i : Nat} {v : V} {o : O} (r : EnvR c mv F H fp σ e) (h : Ow c F H fq v o) (d : ∀ b ∈ fq, b ∉ fp) : ∃ fp', EnvR c mv F H fp' (σ.set i (some v)) (e.put i o) ∧ ∀ b ∈ fp', b ∈ fp ++ fq := by
  obtain ⟨fm, fs, h1, h2, h3, h4⟩ := r.ex
  obtain ⟨f1, g1, g2⟩ := h2.put (i := i) h fun b hb q => d b hb ((h4 b).mpr (.inr q))
  refine ⟨fm ++ f1, ⟨fm, f1, h1, g1, fun b hb q => ?_, fun b => List.mem_append⟩, fun b hb => ?_⟩
  · rcases g2 b q with q | q
    · exact d b q ((h4 b).mpr (.inl hb))
    · exact h3 b hb q
  · rcases List.mem_append.mp hb with q | q
    · exact List.mem_append_left _ ((h4 b).mpr (.inl q))
    · rcases g2 b q with q | q
      · exact List.mem_append_right _ q
      · exact List.mem_append_left _ ((h4 b).mpr (.inr q))
theorem EnvR.drop {i : Nat} (r : EnvR c mv F H fp σ e) : ∃ fp', EnvR c mv F H fp' σ (e.hole i) ∧ ∀ b ∈ fp', b ∈ fp := by
  obtain ⟨fm, fs, h1, h2, h3, h4⟩ := r.ex
  obtain ⟨f1, g1, g2⟩ := h2.drop (i := i)
  refine ⟨fm ++ f1, ⟨fm, f1, h1, g1, fun b hb q => h3 b hb (g2 b q), fun b => List.mem_append⟩, fun b hb => ?_⟩
  rcases List.mem_append.mp hb with q | q
  · exact (h4 b).mpr (.inl q)
  · exact (h4 b).mpr (.inr (g2 b q))
theorem EnvR.take {i : Nat} {o : O} (r : EnvR c mv F H fp σ e) (hi : e.sl[i]? = some (some (.ow o))) :
    ∃ v fo fr, σ[i]? = some (some v) ∧ Ow c F H fo v o ∧ EnvR c mv F H fr σ (e.hole i) ∧ (∀ b ∈ fo, b ∉ fr) ∧ ∀ b, b ∈ fp ↔ b ∈ fo ∨ b ∈ fr := by
  obtain ⟨fm, fs, h1, h2, h3, h4⟩ := r.ex
  obtain ⟨v, fo, fr, g1, g2, g3, g4, g5⟩ := h2.take hi
  refine ⟨v, fo, fm ++ fr, g1, g2, ⟨fm, fr, h1, g3, fun b hb q => h3 b hb ((g5 b).mpr (.inr q)), fun b => List.mem_append⟩, fun b hb q => ?_, fun b => ?_⟩
  · rcases List.mem_append.mp q with q | q
    · exact h3 b q ((g5 b).mpr (.inl hb))
    · exact g4 b hb q
  · rw [h4 b, g5 b, List.mem_append]
    constructor
    · rintro (q | q | q)
      · exact .inr (.inl q)
      · exact .inl q
      · exact .inr (.inr q)
    · rintro (q | q | q)
      · exact .inr (.inl q)
      · exact .inl q
      · exact .inr (.inr q)
theorem set_same {α : Type} : ∀ {l : List α} {i : Nat} {a : α}, l[i]? = some a → l.set i a = l
  | [], _, _, h => by simp at h
  | x :: l, 0, a, h => by simp at h; rw [h]; rfl
  | x :: l, i + 1, a, h => by
    show x :: l.set i a = _
    rw [set_same (i := i) (by simpa using h)]
theorem hole_put {i : Nat} {o : O} : (e.hole i).put i o = e.put i o := by
  unfold En.hole En.put
  simp [List.set_set]
/-- put back where it was -/
theorem EnvR.back {i : Nat} {v : V} {o : O} (r : EnvR c mv F H fp σ (e.hole i)) (h : Ow c F H fq v o) (d : ∀ b ∈ fq, b ∉ fp) (hi : σ[i]? = some (some v)) : ∃ fp', EnvR c mv F H fp' σ (e.put i o) ∧ ∀ b ∈ fp', b ∈ fp ++ fq := by
  obtain ⟨f1, g1, g2⟩ := r.put (i := i) h d
  rw [set_same hi, hole_put] at g1
  exact ⟨f1, g1, g2⟩
end

/-! ### what is wanted of an outcome -/
section
variable {α β γ : Type}
abbrev Rel (α β : Type) := Hp → Hp → St → List Addr → β → α → Prop
def Po (c : Cs) (mv : V) (R : Rel α β) (W : WX) (F H : Hp) (fp : List Addr) (σ : St) (r : Out α) (Q : β → Hp → Prop) : Prop :=
  match r with
  | .ok a e => ∀ F' H' fp' fq v, Stp F H fp F' H' (fp' ++ fq) → EnvR c mv F' H' fp' σ e → R F' H' σ fq v a → (∀ b ∈ fq, b ∉ fp') → Q v H'
  | .ex x e => ∀ F' H' fp' cls d, Stp F H fp F' H' fp' → EnvR c mv F' H' fp' σ e → XR c F' cls d x → W cls d σ H'
  | .no => False
variable {c : Cs} {mv : V} {R : Rel α β} {W : WX} {F F' H H' : Hp} {fp fp' : List Addr} {σ : St} {Q : β → Hp → Prop}
theorem Po.step {r : Out α} (h : Po c mv R W F H fp σ r Q) (s : Stp F H fp F' H' fp') : Po c mv R W F' H' fp' σ r Q := by
  cases r with
  | ok a e => exact fun F2 H2 f2 fq v t => h F2 H2 f2 fq v (s.trans t)
  | ex x e => exact fun F2 H2 f2 cls d t => h F2 H2 f2 cls d (s.trans t)
  | no => exact h
/-- the first of two in a row -/
theorem Po.seq {δ : Type} {R1 : Rel γ δ} {r : Out γ} {k : γ → En → Out α} (h : Po c mv R W F H fp σ (r.bind k) Q) {Q1 : δ → Hp → Prop}
    (hk : ∀ a e F1 H1 f1 q1 v, r = .ok a e → Stp F H fp F1 H1 (f1 ++ q1) → EnvR c mv F1 H1 f1 σ e → R1 F1 H1 σ q1 v a → (∀ b ∈ q1, b ∉ f1) → Po c mv R W F1 H1 (f1 ++ q1) σ (k a e) Q → Q1 v H1) : Po c mv R1 W F H fp σ r Q1 := by
  cases r with
  | ok a e => exact fun F1 H1 f1 q1 v s er rr d => hk a e F1 H1 f1 q1 v rfl s er rr d (Po.step h s)
  | ex x e => exact h
  | no => exact h
/-- the second of two in a row: q is held besides -/
theorem Po.seqS {δ : Type} {R1 : Rel γ δ} {r : Out γ} {k : γ → En → Out α} {q : List Addr} (h : Po c mv R W F H (fp ++ q) σ (r.bind k) Q) (hq : ∀ b ∈ q, F b = none ∧ H b ≠ none) {Q1 : δ → Hp → Prop}
    (hk : ∀ a e F1 H1 f1 q1 v, r = .ok a e → Stp F H fp F1 H1 (f1 ++ q1) → EnvR c mv F1 H1 f1 σ e → R1 F1 H1 σ q1 v a → (∀ b ∈ q1, b ∉ f1) → Po c mv R W F1 H1 ((f1 ++ q1) ++ q) σ (k a e) Q → Q1 v H1) : Po c mv R1 W F H fp σ r Q1 := by
  cases r with
  | ok a e => exact fun F1 H1 f1 q1 v s er rr d => hk a e F1 H1 f1 q1 v rfl s er rr d (Po.step h (s.more fun b hb => (hq b hb).2))
  | ex x e => exact fun F1 H1 f1 cls d s er xr => h F1 H1 f1 cls d (s.part (fun b => List.mem_append_left _) fun b h => h) er xr
  | no => exact h
end
/-- an expression's reading by trees -/
def rd {α β : Type} (c : Cs) (mv : V) (R : Rel α β) (W : WX) (f : En → Out α) : St → Hp → (β → Hp → Prop) → Prop := fun σ H Q =>
  ∃ F fp e, Sub F H ∧ EnvR c mv F H fp σ e ∧ Po c mv R W F H fp σ (f e) Q
def rvR (c : Cs) (mv : V) : Rel Rv V := fun F H σ fq v r => RvR c mv F H σ fq v r
def rvsR (c : Cs) (mv : V) : Rel (List Rv) (List V) := fun F H σ fq vs rs => RvAll c mv F H σ fq vs rs
def blR : Rel Bool Bool := fun _ _ _ fq b a => fq = [] ∧ b = a
def DE (X : Cx) (c : Cs) (mv : V) (W : WX) (e : Expr) (f : En → Out Rv) : Prop := PE X e (rd c mv (rvR c mv) W f)
def DA (X : Cx) (c : Cs) (mv : V) (W : WX) (es : List Expr) (f : En → Out (List Rv)) : Prop := PA X es (rd c mv (rvsR c mv) W f)
def DT (X : Cx) (c : Cs) (mv : V) (W : WX) (e : Expr) (f : En → Out Bool) : Prop := PT X e (rd c mv blR W f)
def DW (X : Cx) (c : Cs) (mv : V) (W : WX) (e : Expr) (f : En → Out Bool) : Prop := PW X e (rd c mv blR W f)

/-! ### readings made weaker -/
theorem pe_imp {X : Cx} {e : Expr} {t u : TE} (h : PE X e t) (i : ∀ σ H Q, u σ H Q → t σ H Q) : PE X e u := ⟨fun pins s σ H Q I q => h.run pins s σ H Q I (i σ H Q q)⟩
theorem pt_imp {X : Cx} {e : Expr} {t u : TT} (h : PT X e t) (i : ∀ σ H Q, u σ H Q → t σ H Q) : PT X e u := ⟨fun pins s σ H Q I q => h.run pins s σ H Q I (i σ H Q q)⟩
theorem pw_imp {X : Cx} {e : Expr} {t u : TT} (h : PW X e t) (i : ∀ σ H Q, u σ H Q → t σ H Q) : PW X e u := ⟨fun wh pins s σ H Q I q => h.run wh pins s σ H Q I (i σ H Q q)⟩
theorem pa_imp {X : Cx} {es : List Expr} {t u : TA} (h : PA X es t) (i : ∀ σ H Q, u σ H Q → t σ H Q) : PA X es u := ⟨fun pos pins s σ H Q I q => h.run pos pins s σ H Q I (i σ H Q q)⟩
theorem ps_imp {X : Cx} {st : Stmt} {t u : TS} (h : PS X st t) (i : ∀ D σ H, u D σ H → t D σ H) : PS X st u := ⟨fun pins s σ H D I q => h.run pins s σ H D I (i D σ H q)⟩
theorem pss_imp {X : Cx} {st : List Stmt} {t u : TS} (h : PSs X st t) (i : ∀ D σ H, u D σ H → t D σ H) : PSs X st u := ⟨fun pins s σ H D I q => h.run pins s σ H D I (i D σ H q)⟩

/-! ### a value looked at, a value taken over -/
def En.at (e : En) (i : Nat) : Option O := match e.sl[i]? with
  | some (some (.ow o)) => some o
  | some (some .me) => some e.me
  | _ => none
def look (e : En) : Rv → Option D
  | .sl i => (e.at i).map O.val
  | .me => some e.me.val
  | .tm o => some o.val
/-- what it is, for good: what stood in a slot is frozen there -/
def En.frz (e : En) (i : Nat) : Option (O × En) := match e.sl[i]? with
  | some (some (.ow o)) => some (.fz o.val, e.put i (.fz o.val))
  | some (some .me) => some (.fz e.me.val, { e with me := .fz e.me.val })
  | _ => none
def own (e : En) : Rv → Option (O × En)
  | .sl i => e.frz i
  | .me => some (.fz e.me.val, { e with me := .fz e.me.val })
  | .tm o => some (o, e)
section
variable {c : Cs} {mv : V} {F F' H H' : Hp} {fp fp' fq fq' : List Addr} {σ : St} {e e' : En} {v : V} {r : Rv} {d : D} {o : O}
theorem Ow.view (s : Sub F H) (h : Ow c F H fq v o) : Fz c H v o.val := h.look s fun _ _ => rfl
theorem look_ok (s : Sub F H) (E : EnvR c mv F H fp σ e) (h : RvR c mv F H σ fq v r) (l : look e r = some d) : Fz c H v d := by
  obtain ⟨fm, fs, h1, h2, _, _⟩ := E.ex
  cases h with
  | tm h => unfold look at l; cases l; exact h.view s
  | me => unfold look at l; cases l; exact h1.view s
  | @sl i v hi =>
    have l' : (e.at i).map O.val = some d := l
    unfold En.at at l'
    cases q : e.sl[i]? with
    | none => rw [q] at l'; cases l'
    | some w =>
      rw [q] at l'
      cases w with
      | none => cases l'
      | some x =>
        cases x with
        | ow o' =>
          cases l'
          obtain ⟨v', fo, fr, g1, g2, _⟩ := h2.take q
          rw [hi] at g1; cases g1
          exact g2.view s
        | me =>
          cases l'
          have z := h2.atMe q
          rw [hi] at z; cases z
          exact h1.view s
theorem EnvR.frzMe (s : Sub F H) (E : EnvR c mv F H fp σ e) : ∃ F' fp', Stp F H fp F' H fp' ∧ Fz c F' mv e.me.val ∧ EnvR c mv F' H fp' σ { e with me := .fz e.me.val } ∧ ∀ b ∈ fp', b ∈ fp := by
  obtain ⟨fm, fs, h1, h2, h3, h4⟩ := E.ex
  have st : Stp F H fm (ice F H fm) H [] := Stp.ice s (fun b hb => (h1.has b hb).1) (fun b hb => hb) fun b hb => nomatch hb
  refine ⟨ice F H fm, fs, ?_, h1.ice s, ⟨[], fs, .fz (h1.ice s), h2.stp st (fun b hb q => h3 b q hb), (fun b hb => nomatch hb), fun b => by simp⟩, fun b hb => (h4 b).mpr (.inr hb)⟩
  exact Stp.ice s (fun b hb => (h1.has b hb).1) (fun b hb => (h4 b).mpr (.inl hb)) fun b hb => (h4 b).mpr (.inr hb)
theorem EnvR.frz {i : Nat} (s : Sub F H) (E : EnvR c mv F H fp σ e) (hi : e.sl[i]? = some (some (.ow o))) (hv : σ[i]? = some (some v)) :
    ∃ F' fp', Stp F H fp F' H fp' ∧ Fz c F' v o.val ∧ EnvR c mv F' H fp' σ (e.put i (.fz o.val)) ∧ ∀ b ∈ fp', b ∈ fp := by
  obtain ⟨v', fo, fr, g1, g2, g3, g4, g5⟩ := E.take hi
  rw [hv] at g1; cases g1
  have st : Stp F H fo (ice F H fo) H [] := Stp.ice s (fun b hb => (g2.has b hb).1) (fun b hb => hb) fun b hb => nomatch hb
  have g3' := EnvR.stp st g3 fun b hb q => g4 b q hb
  obtain ⟨f1, k1, k2⟩ := g3'.back (.fz (g2.ice s)) (fun b hb => nomatch hb) hv
  refine ⟨ice F H fo, f1, Stp.ice s (fun b hb => (g2.has b hb).1) (fun b hb => (g5 b).mpr (.inl hb)) fun b hb => ?_, g2.ice s, k1, fun b hb => ?_⟩
  all_goals
    have := k2 b hb
    rw [List.append_nil] at this
    exact (g5 b).mpr (.inr this)
theorem own_ok (s : Sub F H) (E : EnvR c mv F H fp σ e) (h : RvR c mv F H σ fq v r) (dj : ∀ b ∈ fq, b ∉ fp) (l : own e r = some (o, e')) :
    ∃ F' fp' fq', Stp F H (fp ++ fq) F' H (fp' ++ fq') ∧ Ow c F' H fq' v o ∧ EnvR c mv F' H fp' σ e' ∧ (∀ b ∈ fq', b ∉ fp') ∧ (∀ b ∈ fp', b ∈ fp) ∧ ∀ b ∈ fq', b ∈ fq := by
  cases h with
  | tm h => unfold own at l; cases l; exact ⟨F, fp, fq, Stp.refl s, h, E, dj, fun _ h => h, fun _ h => h⟩
  | me =>
    unfold own at l; cases l
    obtain ⟨F', fp', a, b, k, m⟩ := E.frzMe s
    exact ⟨F', fp', [], by rw [List.append_nil, List.append_nil]; exact a, .fz b, k, (fun _ h => nomatch h), m, fun _ h => h⟩
  | @sl i v hi =>
    have l' : e.frz i = some (o, e') := l
    unfold En.frz at l'
    cases q : e.sl[i]? with
    | none => rw [q] at l'; cases l'
    | some w =>
      rw [q] at l'
      cases w with
      | none => cases l'
      | some x =>
        cases x with
        | ow o' =>
          cases l'
          obtain ⟨F', fp', a, b, k, m⟩ := E.frz s q hi
          exact ⟨F', fp', [], by rw [List.append_nil, List.append_nil]; exact a, .fz b, k, (fun _ h => nomatch h), m, fun _ h => h⟩
        | me =>
          cases l'
          obtain ⟨fm, fs, h1, h2, _, _⟩ := E.ex
          have z := h2.atMe q
          rw [hi] at z; cases z
          obtain ⟨F', fp', a, b, k, m⟩ := E.frzMe s
          exact ⟨F', fp', [], by rw [List.append_nil, List.append_nil]; exact a, .fz b, k, (fun _ h => nomatch h), m, fun _ h => h⟩
end
end DL

set_option Elab.async false
set_option linter.all false
set_option maxRecDepth 100000
set_option maxHeartbeats 2000000
/-! DL, part C: rules of expressions. -/
namespace DL
open PySem L2

section
variable {X : Cx} {c : Cs} {mv : V} {W : WX}
/-- a value that is ready -/
theorem Po.ret {R : Rel Rv V} {F H : Hp} {fp fq fr : List Addr} {σ : St} {e : En} {r : Rv} {v : V} {Q : VK} (s : Sub F H) (E : EnvR c mv F H fp σ e) (h : RvR c mv F H σ fq v r) (d : ∀ b ∈ fq, b ∉ fp)
    (hs : ∀ b, b ∈ fp ++ fq → b ∈ fr) (p : Po c mv (rvR c mv) W F H fr σ (.ok r e) Q) : Q v H :=
  p F H fp fq v ((Stp.refl s).part (fun b h => h) hs) E h d
theorem Po.fz {F H : Hp} {fp fr : List Addr} {σ : St} {e : En} {v : V} {d : D} {Q : VK} (s : Sub F H) (E : EnvR c mv F H fp σ e) (h : Fz c F v d)
    (hs : ∀ b ∈ fp, b ∈ fr) (p : Po c mv (rvR c mv) W F H fr σ (.ok (.tm (.fz d)) e) Q) : Q v H :=
  Po.ret (R := rvR c mv) (fq := []) s E (.tm (.fz h)) (fun b hb => nomatch hb) (by simpa using hs) p

/-! ### names, constants -/
def eVar (i : Nat) : En → Out Rv := fun e => match e.sl[i]? with
  | some (some (.ow (.fz d))) => .ok (.tm (.fz d)) e
  | some (some (.ow _)) => .ok (.sl i) e
  | some (some .me) => .ok .me e
  | _ => .no
theorem eVar_ok {e : En} {F H : Hp} {fp : List Addr} {σ : St} {i : Nat} {Q : VK} (s : Sub F H) (E : EnvR c mv F H fp σ e) (p : Po c mv (rvR c mv) W F H fp σ (eVar i e) Q) : ∃ v, σ[i]? = some (some v) ∧ Q v H := by
  obtain ⟨fm, fs, h1, h2, h3, h4⟩ := E.ex
  have key : ∀ o, e.sl[i]? = some (some (.ow o)) → ∃ v, σ[i]? = some (some v) ∧ (∀ d, o = .fz d → Fz c F v d) := fun o q => by
    obtain ⟨v, fo, fr, g1, g2, g3, g4, g5⟩ := h2.take q
    refine ⟨v, g1, fun d hd => ?_⟩
    subst hd
    cases g2 with
    | fz z => exact z
  unfold eVar at p
  split at p
  · rename_i d q
    obtain ⟨v, h, z⟩ := key _ q
    exact ⟨v, h, Po.fz s E (z d rfl) (fun _ h => h) p⟩
  · rename_i o _ q
    obtain ⟨v, h, z⟩ := key _ q
    exact ⟨v, h, Po.ret (R := rvR c mv) (fq := []) s E (.sl h) (fun b hb => nomatch hb) (by simp) p⟩
  · rename_i q
    exact ⟨mv, h2.atMe q, Po.ret (R := rvR c mv) (fq := []) s E .me (fun b hb => nomatch hb) (by simp) p⟩
  · exact p.elim
theorem de_var (i : Nat) {x : Str} {pos : Pos} (hN : X.N[i]? = some x := by rfl) (hv : Vis X.env.scope x := by first | exact Or.inl rfl | exact Or.inr (Or.inl rfl) | exact Or.inr (Or.inr rfl)) (hd : (x == ("__debug__" : Str)) = false := by decide)
    (hcd : (x == ("__classdict__" : Str)) = false := by decide) : DE X c mv W (.Name x pos) (eVar i) :=
  pe_imp (pe_var (i := i) hN hv hd hcd) fun σ H Q ⟨F, fp, e, s, E, p⟩ => eVar_ok s E p
def eC (d : D) : En → Out Rv := fun e => .ok (.tm (.fz d)) e
theorem de_C {e : Expr} {v : V} {d : D} (h : PE X e (tC v)) (hz : ∀ F, Fz c F v d) : DE X c mv W e (eC d) :=
  pe_imp h fun σ H Q ⟨F, fp, en, s, E, p⟩ => Po.fz s E (hz F) (fun _ h => h) p
theorem de_int {i j pos} : DE X c mv W (.Constant (.int i) j pos) (eC (.int i)) := de_C pe_int fun _ => .int
theorem de_bl {b j pos} : DE X c mv W (.Constant (.bool b) j pos) (eC (.bl b)) := de_C pe_bl fun _ => .bl
theorem de_non {j pos} : DE X c mv W (.Constant .none j pos) (eC .non) := de_C pe_non fun _ => .non
theorem de_str {x j pos} : DE X c mv W (.Constant (.str x) j pos) (eC (.str x)) := de_C pe_str fun _ => .str
theorem de_glob {x : Str} {v : V} {u : Value} {d : D} {pos : Pos} (hg : Gl X x) (hm : X.mg x = some u) (r : RelV v u) (hz : ∀ F, Fz c F v d) (hd : (x == ("__debug__" : Str)) = false := by decide) : DE X c mv W (.Name x pos) (eC d) :=
  de_C (pe_glob hg hm r hd) hz

/-! ### argument lists -/
def aNil : En → Out (List Rv) := fun e => .ok [] e
def aCons (f : En → Out Rv) (g : En → Out (List Rv)) : En → Out (List Rv) := fun e => (f e).bind fun r e1 => (g e1).bind fun rs e2 => .ok (r :: rs) e2
theorem da_nil : DA X c mv W [] aNil := pa_imp pa_nil fun σ H Q ⟨F, fp, e, s, E, p⟩ => p F H fp [] [] (by rw [List.append_nil]; exact Stp.refl s) E .nil fun b hb => nomatch hb
theorem disj_app {p q r : List Addr} (h1 : ∀ b ∈ p, b ∉ q) (h2 : ∀ b ∈ p, b ∉ r) : ∀ b ∈ p, b ∉ q ++ r := fun b hb z => (List.mem_append.mp z).elim (h1 b hb) (h2 b hb)
theorem da_cons {e : Expr} {es : List Expr} {f : En → Out Rv} {g : En → Out (List Rv)} (ha : DE X c mv W e f) (hr : DA X c mv W es g) (hs : starEach (e :: es) X.env = (false, eval e X.env) :: starEach es X.env := by rfl) : DA X c mv W (e :: es) (aCons f g) :=
  pa_imp (pa_cons ha hr hs) fun σ H Q ⟨F, fp, en, s, E, p⟩ => by
    refine ⟨F, fp, en, s, E, Po.seq (R1 := rvR c mv) p fun r e1 F1 H1 f1 q1 v _ s1 E1 r1 d1 p1 => ?_⟩
    refine ⟨F1, f1, e1, s1.fh, E1, ?_⟩
    refine Po.seqS (R1 := rvsR c mv) p1 r1.has fun rs e2 F2 H2 f2 q2 vs _ s2 E2 r2 d2 p2 => ?_
    have ap := s2.apart (fun b hb => (r1.has b hb).2) d1
    refine p2 F2 H2 f2 (q1 ++ q2) (v :: vs) ((Stp.refl s2.fh).part (fun b h => h) fun b h => ?_) E2 (.cons (r1.stp s2 d1) r2 fun b hb z => ap b hb (List.mem_append_right _ z)) fun b hb => ?_
    · rcases List.mem_append.mp h with h | h
      · exact List.mem_append_left _ (List.mem_append_left _ h)
      · rcases List.mem_append.mp h with h | h
        · exact List.mem_append_right _ h
        · exact List.mem_append_left _ (List.mem_append_right _ h)
    · rcases List.mem_append.mp hb with h | h
      · exact fun z => ap b h (List.mem_append_left _ z)
      · exact d2 b h

/-! ### values frozen, looked at, in a row -/
def fix (e : En) (r : Rv) : Option (D × En) := match own e r with
  | some (o, e') => some (o.val, e')
  | none => none
def fixAll : En → List Rv → Option (List D × En)
  | e, [] => some ([], e)
  | e, r :: rs => match fix e r with
    | none => none
    | some (d, e1) => match fixAll e1 rs with
      | none => none
      | some (ds, e2) => some (d :: ds, e2)
def lookAll (e : En) : List Rv → Option (List D)
  | [] => some []
  | r :: rs => match look e r with
    | none => none
    | some d => match lookAll e rs with
      | none => none
      | some ds => some (d :: ds)
theorem fix_ok {F H : Hp} {fp fq : List Addr} {σ : St} {e e' : En} {v : V} {r : Rv} {d : D} (s : Sub F H) (E : EnvR c mv F H fp σ e) (h : RvR c mv F H σ fq v r) (dj : ∀ b ∈ fq, b ∉ fp) (l : fix e r = some (d, e')) :
    ∃ F' fp', Stp F H (fp ++ fq) F' H fp' ∧ Fz c F' v d ∧ EnvR c mv F' H fp' σ e' ∧ ∀ b ∈ fp', b ∈ fp := by
  unfold fix at l
  cases q : own e r with
  | none => rw [q] at l; cases l
  | some p =>
    obtain ⟨o, e1⟩ := p
    rw [q] at l
    cases l
    obtain ⟨F1, f1, q1, s1, h1, E1, d1, m1, n1⟩ := own_ok s E h dj q
    have st : Stp F1 H q1 (ice F1 H q1) H [] := Stp.ice s1.fh (fun b hb => (h1.has b hb).1) (fun b hb => hb) fun b hb => nomatch hb
    refine ⟨ice F1 H q1, f1, s1.trans (Stp.ice s1.fh (fun b hb => (h1.has b hb).1) (fun b hb => List.mem_append_right _ hb) fun b hb => List.mem_append_left _ hb), h1.ice s1.fh, E1.stp st fun b hb z => d1 b z hb, m1⟩
theorem fixAll_ok {σ : St} {H : Hp} : ∀ {rs : List Rv} {F : Hp} {fp fq : List Addr} {e e' : En} {vs : List V} {ds : List D}, Sub F H → EnvR c mv F H fp σ e → RvAll c mv F H σ fq vs rs → (∀ b ∈ fq, b ∉ fp) → fixAll e rs = some (ds, e') →
    ∃ F' fp', Stp F H (fp ++ fq) F' H fp' ∧ FzAll c F' vs ds ∧ EnvR c mv F' H fp' σ e' ∧ ∀ b ∈ fp', b ∈ fp
  | [], F, fp, fq, e, e', vs, ds, s, E, h, dj, l => by
    cases h
    cases l
    exact ⟨F, fp, by rw [List.append_nil]; exact Stp.refl s, .nil, E, fun _ h => h⟩
  | r :: rs, F, fp, fq, e, e', vs, ds, s, E, h, dj, l => by
    cases h with
    | @cons p q v r vs rs h1 h2 hd =>
      unfold fixAll at l
      cases z : fix e r with
      | none => rw [z] at l; cases l
      | some y =>
        obtain ⟨d, e1⟩ := y
        rw [z] at l
        simp only at l
        obtain ⟨F1, f1, s1, k1, E1, m1⟩ := fix_ok s E h1 (fun b hb => dj b (List.mem_append_left _ hb)) z
        cases z2 : fixAll e1 rs with
        | none => rw [z2] at l; cases l
        | some y2 =>
          obtain ⟨ds2, e2⟩ := y2
          rw [z2] at l
          cases l
          have h2' : RvAll c mv F1 H σ q vs rs := h2.stp s1 fun b hb z => (List.mem_append.mp z).elim (fun y => dj b (List.mem_append_right _ hb) y) fun y => hd b y hb
          obtain ⟨F2, f2, s2, k2, E2, m2⟩ := fixAll_ok s1.fh E1 h2' (fun b hb z => dj b (List.mem_append_right _ hb) (m1 b z)) z2
          refine ⟨F2, f2, ?_, .cons (k1.mono s2.ff) k2, E2, fun b hb => m1 b (m2 b hb)⟩
          have s1' := s1.more (fq := q) fun b hb => (h2.has b hb).2
          rw [← List.append_assoc]
          exact s1'.trans s2
theorem lookAll_ok {F H : Hp} {fp : List Addr} {σ : St} {e : En} (s : Sub F H) (E : EnvR c mv F H fp σ e) : ∀ {fq : List Addr} {vs : List V} {rs : List Rv} {ds : List D}, RvAll c mv F H σ fq vs rs → lookAll e rs = some ds → FzAll c H vs ds
  | _, _, _, _, .nil, l => by cases l; exact .nil
  | _, _, _, ds, .cons (r := r) (rs := rs) h1 h2 _, l => by
    unfold lookAll at l
    cases z : look e r with
    | none => rw [z] at l; cases l
    | some d =>
      rw [z] at l
      simp only at l
      cases z2 : lookAll e rs with
      | none => rw [z2] at l; cases l
      | some ds2 =>
        rw [z2] at l
        cases l
        exact .cons (look_ok s E h1 z) (lookAll_ok s E h2 z2)

/-! ### operations on values: V: they look, and tell something small; F: they take over -/
inductive Res where
  | ok (o : O) | ex (x : XD) | no
def VOp (c : Cs) (r : List V → Hp → VK → Prop) (φ : List D → Option D) : Prop :=
  ∀ (F H : Hp) (vs : List V) (ds : List D) (d : D) (Q : VK), Sub F H → FzAll c H vs ds → φ ds = some d → (∀ v, (∀ G, Fz c G v d) → Q v H) → r vs H Q
def FOp (c : Cs) (r : List V → Hp → VK → Prop) (φ : List D → Option O) : Prop :=
  ∀ (F H : Hp) (vs : List V) (ds : List D) (o : O) (Q : VK), Sub F H → FzAll c F vs ds → φ ds = some o → (∀ F' H' fq v, Stp F H [] F' H' fq → Ow c F' H' fq v o → Q v H') → r vs H Q
def eV (φ : List D → Option D) (f : En → Out (List Rv)) : En → Out Rv := fun e => (f e).bind fun rs e1 => match lookAll e1 rs with
  | none => .no
  | some ds => match φ ds with
    | none => .no
    | some d => .ok (.tm (.fz d)) e1
def eF (φ : List D → Option O) (f : En → Out (List Rv)) : En → Out Rv := fun e => (f e).bind fun rs e1 => match fixAll e1 rs with
  | none => .no
  | some (ds, e2) => match φ ds with
    | none => .no
    | some o => .ok (.tm o) e2
/-- a step beside what is held -/
theorem Stp.beside {F H F' H' : Hp} {fp fq : List Addr} (s : Stp F H [] F' H' fq) (hp : ∀ b ∈ fp, F b = none ∧ H b ≠ none) : Stp F H fp F' H' (fp ++ fq) ∧ ∀ b ∈ fq, b ∉ fp := by
  have m := s.more (fq := fp) fun b hb => (hp b hb).2
  refine ⟨m.part (fun b hb => by simpa using hb) fun b hb => ?_, fun b hb z => ?_⟩
  · rcases List.mem_append.mp hb with h | h
    · exact List.mem_append_right _ h
    · exact List.mem_append_left _ h
  · rcases s.newP b hb with q | q
    · cases q
    · exact (hp b z).2 q
theorem eV_ok {r : List V → Hp → VK → Prop} {φ : List D → Option D} (vo : VOp c r φ) {F H : Hp} {fp fq : List Addr} {σ : St} {e : En} {vs : List V} {rs : List Rv} {Q : VK} (s : Sub F H) (E : EnvR c mv F H fp σ e) (h : RvAll c mv F H σ fq vs rs)
    (p : Po c mv (rvR c mv) W F H (fp ++ fq) σ (match lookAll e rs with | none => Out.no | some ds => match φ ds with | none => .no | some d => .ok (.tm (.fz d)) e) Q) : r vs H Q := by
  cases z : lookAll e rs with
  | none => rw [z] at p; exact p.elim
  | some ds =>
    rw [z] at p
    simp only at p
    cases z2 : φ ds with
    | none => rw [z2] at p; exact p.elim
    | some d =>
      rw [z2] at p
      exact vo F H vs ds d Q s (lookAll_ok s E h z) z2 fun v hv => Po.fz s E (hv F) (fun b hb => List.mem_append_left _ hb) p
theorem eF_ok {r : List V → Hp → VK → Prop} {φ : List D → Option O} (fo : FOp c r φ) {F H : Hp} {fp fq : List Addr} {σ : St} {e : En} {vs : List V} {rs : List Rv} {Q : VK} (s : Sub F H) (E : EnvR c mv F H fp σ e) (h : RvAll c mv F H σ fq vs rs) (dj : ∀ b ∈ fq, b ∉ fp)
    (p : Po c mv (rvR c mv) W F H (fp ++ fq) σ (match fixAll e rs with | none => Out.no | some (ds, e2) => match φ ds with | none => .no | some o => .ok (.tm o) e2) Q) : r vs H Q := by
  cases z : fixAll e rs with
  | none => rw [z] at p; exact p.elim
  | some y =>
    obtain ⟨ds, e2⟩ := y
    rw [z] at p
    simp only at p
    cases z2 : φ ds with
    | none => rw [z2] at p; exact p.elim
    | some o =>
      rw [z2] at p
      obtain ⟨F1, f1, s1, k1, E1, m1⟩ := fixAll_ok s E h dj z
      refine fo F1 H vs ds o Q s1.fh k1 z2 fun F2 H2 q2 v s2 h2 => ?_
      obtain ⟨s3, d3⟩ := s2.beside (fp := f1) E1.has
      exact p F2 H2 f1 q2 v (s1.trans s3) (E1.stp s2 fun b hb z => nomatch z) (.tm h2) d3
/-- two in a row as a list -/
def two (f g : En → Out Rv) : En → Out (List Rv) := aCons f (aCons g aNil)
/-- the operands ready -/
theorem two_ok {f g : En → Out Rv} {k : List Rv → En → Out Rv} {R : V → V → Hp → VK → Prop} {Q : VK} {σ : St} {H : Hp}
    (h : ∃ F fp e, Sub F H ∧ EnvR c mv F H fp σ e ∧ Po c mv (rvR c mv) W F H fp σ ((two f g e).bind k) Q)
    (hk : ∀ F H fp fq e v w rs, Sub F H → EnvR c mv F H fp σ e → RvAll c mv F H σ fq [v, w] rs → (∀ b ∈ fq, b ∉ fp) → Po c mv (rvR c mv) W F H (fp ++ fq) σ (k rs e) Q → R v w H Q) :
    rd c mv (rvR c mv) W f σ H fun x H1 => rd c mv (rvR c mv) W g σ H1 fun y H2 => R x y H2 Q := by
  obtain ⟨F, fp, e, s, E, p⟩ := h
  have re : (two f g e).bind k = (f e).bind fun a e1 => (g e1).bind fun b e2 => k [a, b] e2 := by
    unfold two aCons aNil
    cases f e with
    | no => rfl
    | ex x e1 => rfl
    | ok a e1 =>
      simp only [Out.bind]
      cases g e1 <;> rfl
  rw [re] at p
  refine ⟨F, fp, e, s, E, Po.seq (R1 := rvR c mv) p fun a e1 F1 H1 f1 q1 v _ s1 E1 r1 d1 p1 => ⟨F1, f1, e1, s1.fh, E1, ?_⟩⟩
  refine Po.seqS (R1 := rvR c mv) p1 r1.has fun b e2 F2 H2 f2 q2 w _ s2 E2 r2 d2 p2 => ?_
  have ap := s2.apart (fun b hb => (r1.has b hb).2) d1
  refine hk F2 H2 f2 (q1 ++ (q2 ++ [])) e2 v w [a, b] s2.fh E2 (.cons (r1.stp s2 d1) (.cons r2 .nil fun b hb z => nomatch z) fun b hb z => ap b hb (List.mem_append_right _ (by simpa using z))) ?_ ?_
  · intro b hb
    rcases List.mem_append.mp hb with h | h
    · exact fun z => ap b h (List.mem_append_left _ z)
    · exact d2 b (by simpa using h)
  · refine Po.step p2 ((Stp.refl s2.fh).part (fun _ h => h) fun b hb => ?_)
    simp only [List.mem_append, List.append_nil] at hb ⊢
    rcases hb with h | h | h
    · exact .inl (.inl h)
    · exact .inr h
    · exact .inl (.inr h)
def R2of (r : R2) : List V → Hp → VK → Prop := fun vs H Q => ∃ x y, vs = [x, y] ∧ r x y H Q
theorem R2of.out {r : R2} {x y : V} {H : Hp} {Q : VK} (h : R2of r [x, y] H Q) : r x y H Q := by
  obtain ⟨a, b, e, h⟩ := h
  cases e
  exact h
section
variable {op : Operator} {cp : CmpOp} {r : R2} {a b : Expr} {f g : En → Out Rv} {pos : Pos}
theorem de_opF {φ : List D → Option O} (ho : OpR X (binaryOp op) r) (fo : FOp c (R2of r) φ) (ha : DE X c mv W a f) (hb : DE X c mv W b g) : DE X c mv W (.BinOp a op b pos) (eF φ (two f g)) :=
  pe_imp (pe_op ho ha hb) fun σ H Q h => two_ok (R := r) h fun F H fp fq e v w rs s E rr d p => (eF_ok fo s E rr d p).out
theorem de_opV {φ : List D → Option D} (ho : OpR X (binaryOp op) r) (vo : VOp c (R2of r) φ) (ha : DE X c mv W a f) (hb : DE X c mv W b g) : DE X c mv W (.BinOp a op b pos) (eV φ (two f g)) :=
  pe_imp (pe_op ho ha hb) fun σ H Q h => two_ok (R := r) h fun F H fp fq e v w rs s E rr d p => (eV_ok vo s E rr p).out
theorem de_cmp {φ : List D → Option D} (ho : OpR X (compareOp cp) r) (vo : VOp c (R2of r) φ) (ha : DE X c mv W a f) (hb : DE X c mv W b g) (hm : behindInMarks cp b = false) : DE X c mv W (.Compare a [cp] [b] pos) (eV φ (two f g)) :=
  pe_imp (pe_cmpR ho ha hb hm) fun σ H Q h => two_ok (R := r) h fun F H fp fq e v w rs s E rr d p => (eV_ok vo s E rr p).out
/-- a value as a test -/
def tOf (f : En → Out Rv) : En → Out Bool := fun e => (f e).bind fun r e1 => match r with
  | .tm (.fz (.bl b)) => .ok b e1
  | _ => .no
theorem tOf_ok {f : En → Out Rv} {σ : St} {H : Hp} {Q : Bool → Hp → Prop} (h : rd c mv blR W (tOf f) σ H Q) : rd c mv (rvR c mv) W f σ H fun x H' => ∃ k, x = .bl k ∧ Q k H' := by
  obtain ⟨F, fp, e, s, E, p⟩ := h
  refine ⟨F, fp, e, s, E, Po.seq (R1 := rvR c mv) p fun r e1 F1 H1 f1 q1 v _ s1 E1 r1 d1 p1 => ?_⟩
  cases r with
  | sl i => exact p1.elim
  | me => exact p1.elim
  | tm o =>
    cases o with
    | fz d =>
      cases d with
      | bl k =>
        cases r1 with
        | tm r1 =>
          cases r1 with
          | fz r1 =>
            cases r1
            exact ⟨k, rfl, p1 F1 H1 f1 [] k (by simpa using Stp.refl s1.fh) E1 ⟨rfl, rfl⟩ fun b hb => nomatch hb⟩
      | _ => exact p1.elim
    | _ => exact p1.elim
theorem dt_cmp {φ : List D → Option D} (ho : OpR X (compareOp cp) r) (vo : VOp c (R2of r) φ) (ha : DE X c mv W a f) (hb : DE X c mv W b g) (hm : behindInMarks cp b = false) : DT X c mv W (.Compare a [cp] [b] pos) (tOf (eV φ (two f g))) :=
  pt_imp (pt_cmpR ho ha hb hm) fun σ H Q h => two_ok (R := r) (tOf_ok h) fun F H fp fq e v w rs s E rr d p => (eV_ok vo s E rr p).out
end
end
end DL

set_option Elab.async false
set_option linter.all false
set_option maxRecDepth 100000
set_option maxHeartbeats 2000000
/-! DL, part G: defs that are called where nothing is being shown. -/
namespace DL
open PySem L2 PySem.Spec PyProof.Rows

def Quiet (A : Around) : Prop := A.guards = some []
structure FnG (P : Program) (w : World) (K : PySem.W.Frag) (mg : Str → Option Value) (base : Heap) (k : Nat) (f : Addr) (fd : FuncData) (ps : List Str) (sp : Sp) : Prop where
  len : ∀ vs H Q E, sp vs H Q E → vs.length = ps.length
  run : ∀ (A : Around) (outer : List Env) (s : Shared) (H : Hp) (args : Args) (us : List Value) (vs : List V) (Q : VK) (E : XK),
    Quiet A → Room k A → Env0 P w K mg base A outer s H → BindsTo s fd args (ps.zip us) → Vals vs us → sp vs H Q E →
    codeAny (model P w) A (.call (.ref f) args) (CR (L2.CX P w) outer P w H s Q E) s
section
variable {P : Program} {w : World} {K : PySem.W.Frag} {mg : Str → Option Value} {base : Heap} {j k : Nat} {f : Addr} {fd : FuncData} {ps N : List Str} {sp sp' : Sp}
theorem FnG.up (F : FnG P w K mg base j f fd ps sp) (h : j ≤ k) : FnG P w K mg base k f fd ps sp :=
  { len := F.len
    run := fun A outer s H args us vs Q E g r => F.run A outer s H args us vs Q E g (r.mono h) }
theorem FnG.weak (F : FnG P w K mg base k f fd ps sp) (h : ∀ vs H Q E, sp' vs H Q E → sp vs H Q E) : FnG P w K mg base k f fd ps sp' :=
  { len := fun vs H Q E q => F.len vs H Q E (h vs H Q E q)
    run := fun A outer s H args us vs Q E g r e b v q => F.run A outer s H args us vs Q E g r e b v (h vs H Q E q) }
/-- nothing is promised -/
theorem FnG.never (h : ∀ vs H Q E, ¬ sp vs H Q E) : FnG P w K mg base k f fd ps sp :=
  { len := fun vs H Q E q => (h vs H Q E q).elim
    run := fun A outer s H args us vs Q E _ _ _ _ _ q => (h vs H Q E q).elim }
theorem quiet_deeper {A : Around} {env : Env} (g : Quiet A) : Quiet (A.deeper env) := by
  unfold Quiet at g ⊢
  first
    | exact g
    | simpa [Around.deeper] using g
/-- a def of the text by its body -/
theorem defG {x qual : Str} {st : Stmt} (F : Fun K x qual st f fd) (S : FnScope N ps (defScope st)) (len : ∀ vs H Q E, sp vs H Q E → vs.length = ps.length)
    (body : ∀ (cdv : Value) (A : Around) (outer : List Env) (s : Shared) (H : Hp) (vs : List V) (Q : VK) (E : XK),
      Quiet (A.deeper (envOfC qual (defScope st) s.heap.objs.size f cdv)) → Room k (A.deeper (envOfC qual (defScope st) s.heap.objs.size f cdv)) → sp vs H Q E →
      ∃ t, PSs (cxOf (L2.CX P w) P w K mg base N qual (defScope st) f cdv A outer s H E) (defBody st) t ∧
        t { nx := fun _ H' => Q .non H', rt := Q } (start N vs) H) : FnG P w K mg base (k + 1) f fd ps sp := by
  obtain ⟨oc, od, kV, doc, pm, an, cdv, ct, osl, rfl, lk, hcd⟩ := F.ex
  refine { len := len, run := fun A outer s H args us vs Q E g r e0 hb rv hsp => ?_ }
  have hl := len _ _ _ _ hsp
  have there : K.In s.heap := e0.mod.kin.keeps fun b o e => (e0.bs b o e).1
  have roomy : s.heap.NoLimit := e0.mod.nolimit.keeps fun b o e => (e0.bs b o e).1
  have kinds : ∀ y ∈ ps.zip us, (defScope st).names.lookup y.1 = some .local ∨ ((defScope st).names.lookup y.1 = some .cell ∧
      ((cellsFrom (s.heap.objs.size + 1) (defScope st).names []).lookup y.1).isSome = true) := by
    rintro ⟨n, v⟩ hy
    rcases S.par n (List.of_mem_zip hy).1 with q | q
    · exact Or.inl q
    · exact Or.inr ⟨q, PySem.W.cellsFrom_some _ _ _ (Or.inl q)⟩
  refine codeAny_call_function r.depth (there _ _ lk) rfl S.co S.gen rfl (PySem.W.codeRec_of there hcd) (hb _ _ _ _ ?_)
  refine wpAny_newFunctionEnv_cells S.kind kinds fun env he s1 ic => ?_
  subst he
  refine ⟨roomy.keeps ic.toInCall.keep, codeAny_func ?_⟩
  obtain ⟨t, ht, hq⟩ := body cdv A outer s H vs Q E (quiet_deeper g) (r.deeper _) hsp
  have I := inv_start (CX := L2.CX P w) (E := E) (qual := qual) (f := f) (cd := cdv) S r.hd e0 hl rv ic
  refine wpAny_mono (ht.run [] s1 (start N vs) H _ I hq) ?_ (fun e s' hs => hs)
  intro fl s' hs
  cases fl with
  | brk =>
    obtain ⟨_, _, _, q⟩ := hs
    exact q.elim
  | cont =>
    obtain ⟨_, _, _, q⟩ := hs
    exact q.elim
  | next =>
    obtain ⟨_, H', J, q⟩ := hs
    exact ⟨V.non, H', J.os, J.bare, J.base, J.hok, rfl, q⟩
  | ret u =>
    obtain ⟨v, _, H', J, rr, q⟩ := hs
    exact ⟨v, H', J.os, J.bare, J.base, J.hok, rr, q⟩
end

/-! ### calls -/
section
variable {X : Cx} {W : WX} {k : Nat} {f C : Addr} {fd : FuncData} {ps : List Str} {sp : Sp} {x m : Str} {p pos apos : Pos} {e o : Expr} {es : List Expr} {ta : TE} {t : TA} {σ : L2.St}
theorem goG {pins : List (Addr × Obj)} {H : Hp} {s : Shared} {Q : VK} {us : List Value} {vs : List V} (F : FnG X.prog X.w X.K X.mg X.base k f fd ps sp) (g : Quiet X.A) (r : Room k X.A) (hb : Binds X.K fd ps []) (tk : Takes X W)
    (I : Inv X pins σ H s) (rv : Vals vs us) (h : sp vs H Q (WE W σ)) : wpAny (model X.prog X.w) X.A (call (.ref f) us) (EP X pins σ Q) X.xe s := by
  have hl : (us ++ []).length = ps.length := by
    rw [List.append_nil, ← rv.length]
    exact F.len _ _ _ _ h
  have b := hb s us I.kIn hl
  rw [List.append_nil] at b
  refine wpAny_call (codeAny_mono (F.run X.A X.stack s H ⟨us, []⟩ us vs Q (WE W σ) g r I.env0 b rv h) ?_)
  intro res s' hq
  cases res with
  | error u => exact passAt tk σ pins H s u s' I hq
  | ok fl =>
    cases fl with
    | ret u => exact I.after hq
    | next => exact hq.elim
    | brk => exact hq.elim
    | cont => exact hq.elim
theorem pe_callG (F : FnG X.prog X.w X.K X.mg X.base k f fd ps sp) (g : Quiet X.A) (r : Room k X.A) (hg : Gl X x) (hm : X.mg x = some (.ref f)) (hk : PySem.W.keepIn X.K (.ref f) = true) (hb : Binds X.K fd ps []) (tk : Takes X W)
    (ha : PA X (e :: es) t) (hdb : (x == ("__debug__" : Str)) = false := by decide) (he : starEach (e :: es) X.env = (false, eval e X.env) :: starEach es X.env := by rfl) (hpl : (backTo pos (starEach es X.env)).any (·.1) = false := by rfl) :
    PE X (.Call (.Name x p) (e :: es) [] pos) (tCallS sp (WE W) t) := by
  constructor
  intro pins s σ H Q I h
  refine wpAny_Call_Name_kw (ld_glob I hg hm (PySem.W.callWith_K (h₀ := X.base) I.ok.mod.kin hk (thn (ha.run pos pins s σ H _ I h) ?_) he hpl) hdb)
  rintro us s1 ⟨vs, H1, I1, rv, q⟩
  exact ⟨I1.kIn, goG F g r hb tk I1 rv q⟩
theorem pe_callG0 (F : FnG X.prog X.w X.K X.mg X.base k f fd ps sp) (g : Quiet X.A) (r : Room k X.A) (hg : Gl X x) (hm : X.mg x = some (.ref f)) (hk : PySem.W.keepIn X.K (.ref f) = true) (hb : Binds X.K fd ps []) (tk : Takes X W)
    (hdb : (x == ("__debug__" : Str)) = false := by decide) : PE X (.Call (.Name x p) [] [] pos) (tCallS sp (WE W) tNil) := by
  constructor
  intro pins s σ H Q I h
  exact wpAny_Call_Name_kw (ld_glob I hg hm (PySem.W.callWith_K0 I.kIn hk (goG (us := []) F g r hb tk I .nil h)) hdb)
end

/-! ### the law -/
theorem lawG {P : Program} {w : World} {K : PySem.W.Frag} {mg mb : Str → Option Value} {k : Nat} {fa a : Addr} {fd : FuncData} {x : Str} {sp : Sp} {s1 : Shared} {vs : List Value} {ns : List Int}
    (KX : K.In s1.heap) (hns : s1.heap.Ns mainGlobals mg) (hb : s1.heap.Ns builtinsNs mb) (hbb : ∀ x : Str, x ≠ "__name__" → mb x = bootBuiltins x) (hlim : s1.heap.NoLimit) (hg : s1.gens = #[])
    (ha : s1.heap.get? a = some { cls := .type "list", data := .seq vs.toArray }) (hi : IntsAre vs ns) (hl : ns.length ≤ sizeLine) (hr : Room k callerA)
    (F : ∀ base : Heap, K.In base → base.Ns mainGlobals mg → FnG P w K mg base k fa fd [x] sp) (hbind : ∀ (s : Shared) (u : Value), BindsTo s fd ⟨[u], []⟩ [(x, u)])
    (hsp : ∀ H : Hp, Only H → SqL K H a (ns.map V.int) → sp [.ref a] H (fun v _ => v = .bl true) fun _ _ _ => False) :
    codeAny (model P w) callerA (.call (.ref fa) ⟨[.ref a], []⟩) (fun r s' => r = .ok (.ret (.bool true)) ∧ OldK s1.heap s'.heap ∧ s'.os = s1.os ∧ AllBare s'.gens) s1 := by
  have rv := vals_ints hi
  have lenV := hi.length
  -- whatever is tracked at the entry is the script alone
  have main : ∀ H : Hp, Only H → SqL K H a (ns.map V.int) → HOk P w H s1.heap → (∀ b, H b ≠ none → b = a) → (H a ≠ none → K.lookup a = none) →
      codeAny (model P w) callerA (.call (.ref fa) ⟨[.ref a], []⟩)
        (fun r s' => r = .ok (.ret (.bool true)) ∧ OldK s1.heap s'.heap ∧ s'.os = s1.os ∧ AllBare s'.gens) s1 := by
    intro H hO hS hok hA hK
    have under : ∀ {b : Addr} {o : Obj}, s1.heap.get? b = some o → H b = none → (hidT s1.heap H).get? b = some o := by
      intro b o e n
      exact hidT_get e n
    have notScript : ∀ {b : Addr}, H b ≠ none → b = a := fun {b} h => hA b h
    have dictFree : ∀ {b : Addr} {o : Obj} {es : Array DictEntry} {ep : Nat}, s1.heap.get? b = some o → o.data = .dict es ep → H b = none := by
      intro b o es ep e d
      refine Classical.byContradiction fun q => ?_
      rw [notScript q, ha] at e
      cases e
      cases (show Data.seq vs.toArray _ = Data.dict es ep from d)
    have names : ∀ {b : Addr} {m : Str → Option Value}, s1.heap.Ns b m → (hidT s1.heap H).Ns b m := by
      rintro b m ⟨o, es, ep, e, d, r⟩
      exact ⟨o, es, ep, under e (dictFree e d), d, r⟩
    have inBase : K.In (hidT s1.heap H) := by
      intro b o e
      refine under (KX b o e) (Classical.byContradiction fun q => ?_)
      have z := hK (by rw [← notScript q]; exact q)
      rw [← notScript q, e] at z
      cases z
    have M : Mod K mg (hidT s1.heap H) := by
      obtain ⟨mc, h1, h2⟩ := hlim
      exact { kin := inBase, glob := names hns, blt := ⟨mb, names hb, hbb⟩, nolimit := ⟨mc, names h1, h2⟩ }
    have e0 : Env0 P w K mg (hidT s1.heap H) callerA [] s1 H :=
      { frames := rfl, mod := M, bs := fun b o e => of_hidT e, bsz := Nat.le_of_eq (hidT_size _ _), funs := trivial, frf := (fun b hb => nomatch hb), hok := hok, bare := AllBare.of_eq hg }
    have called := (F _ inBase (names hns)).run callerA [] s1 H ⟨[.ref a], []⟩ [.ref a] [.ref a] _ _ rfl hr e0 (hbind s1 (.ref a)) (.cons rfl .nil) (hsp H hO hS)
    refine codeAny_mono called fun r s' h => ?_
    cases r with
    | error e =>
      obtain ⟨_, _, _, _, _, _, _, _, _, _, _, _, z⟩ := h
      exact z.elim
    | ok fl =>
      cases fl with
      | ret u =>
        obtain ⟨v, H', os, bare, un, hok', r', q⟩ := h
        obtain rfl : v = .bl true := q
        obtain rfl : u = Value.bool true := r'
        refine ⟨rfl, OldK.of_keep fun b o e => ?_, os, bare⟩
        rcases hO b with z | ⟨ob, xs, z⟩
        · exact un.keep b o e z (fun z => nomatch z) (fun z => nomatch z)
        · have z1 := (hok b _ z).1
          have z2 := (hok' b _ (un.frzs b ob _ z)).1
          rw [e] at z1
          cases z1
          exact z2
      | next => exact h.elim
      | brk => exact h.elim
      | cont => exact h.elim
  cases hk : K.lookup a with
  | some o =>
    have e := KX a o hk
    rw [ha] at e
    cases e
    refine main (fun _ => none) (fun _ => Or.inl rfl) (Or.inr ⟨_, vs.toArray, _, hk, rfl, rfl, rfl, ?_, by simpa using rv⟩) ?_ (fun b z => absurd rfl z) (fun z => absurd rfl z)
    · rw [List.size_toArray, lenV]
      exact hl
    · intro b u z
      cases (show (none : Option HO) = some u from z)
  | none =>
    have at_a : ∀ b, b = a → (if b = a then some (HO.frz { cls := .type "list", data := .seq vs.toArray } (.lst (ns.map V.int))) else none) = some (HO.frz { cls := .type "list", data := .seq vs.toArray } (.lst (ns.map V.int))) := fun b h => if_pos h
    have off_a : ∀ b, ¬ b = a → (if b = a then some (HO.frz { cls := .type "list", data := .seq vs.toArray } (.lst (ns.map V.int))) else none) = none := fun b h => if_neg h
    refine main (fun b => if b = a then some (.frz { cls := .type "list", data := .seq vs.toArray } (.lst (ns.map V.int))) else none) ?_ (Or.inl (Or.inr ⟨_, at_a a rfl⟩)) ?_ ?_ (fun _ => hk)
    · intro b
      rcases Classical.em (b = a) with h | h
      · exact Or.inr ⟨_, _, at_a b h⟩
      · exact Or.inl (off_a b h)
    · intro b u z
      rcases Classical.em (b = a) with h | h
      · cases (at_a b h).symm.trans z
        subst h
        exact ⟨ha, by rw [List.length_map]; exact hl, vs, _, rv, ha⟩
      · cases (off_a b h).symm.trans z
    · intro b z
      exact Classical.byContradiction fun h => z (off_a b h)
theorem walkG {l : PySem.W.OpenLaw} {n k : Nat} {q : Program} {loose : List Str} {XP : (Str → Option Value) → Heap → Prop} {YP : World → Heap → Prop} {d : DefRec} {K : Params → PySem.W.Frag} {sp : World → Sp} {x : Str}
    (hn : l.most = some n) (hn2 : n ≤ sizeLine) (hdf : d.params.defaults = []) (hr : Room k callerA) (hY : ∀ (w : World) (h : Heap), YP w h → (K w.params).In h)
    (F : ∀ (w : World) (mg : Str → Option Value) (fa : Addr) (h : Heap), (K w.params).In h → h.Ns mainGlobals mg → mg d.name = some (.ref fa) →
      ∃ fd : FuncData, (∀ (s : Shared) (u : Value), BindsTo s fd ⟨[u], []⟩ [(x, u)]) ∧ ∀ base : Heap, (K w.params).In base → base.Ns mainGlobals mg → FnG l.prog w (K w.params) mg base k fa fd [x] (sp w))
    (hsp : ∀ (w : World) (H : Hp) (a : Addr) (ns : List Int), ns.length ≤ n → Only H → SqL (K w.params) H a (ns.map V.int) → sp w [.ref a] H (fun v _ => v = .bl true) fun _ _ _ => False) :
    PySem.W.WalkO q loose XP YP l.row.toRowW d [] (fun f vs => PySem.call f vs) := by
  refine Att.attach_call hn hdf ?_
  intro w s0 s1 mg mb fa o pm cd doc a vs ns G Y ho hd hcd hmg hobj hints hlen hg
  obtain ⟨fd, hb, hF⟩ := F w mg fa _ (hY w _ Y) G.T.g hmg
  exact lawG (hY w _ Y) G.T.g G.T.b G.T.builtins G.T.nolimit hg hobj hints (Nat.le_trans hlen hn2) hr hF hb fun H hO hS => hsp w H a ns hlen hO hS
end DL

set_option Elab.async false
set_option linter.all false
set_option maxRecDepth 100000
set_option maxHeartbeats 2000000
/-! DL, part D: tests, calls, displays, statements, defs. -/
namespace DL
open PySem L2

section
variable {X : Cx} {c : Cs} {mv : V} {W : WX}

/-! ### tests -/
theorem Po.bl {F H : Hp} {fp fr : List Addr} {σ : L2.St} {e : En} {k : Bool} {Q : Bool → Hp → Prop} (s : Sub F H) (E : EnvR c mv F H fp σ e) (hs : ∀ b ∈ fp, b ∈ fr) (p : Po c mv blR W F H fr σ (.ok k e) Q) : Q k H :=
  p F H fp [] k (by rw [List.append_nil]; exact (Stp.refl s).part (fun _ h => h) hs) E ⟨rfl, rfl⟩ fun b hb => nomatch hb
theorem dt_val {e : Expr} {f : En → Out Rv} (h : DE X c mv W e f) (he : ∀ whole, isTrue e X.env whole = (do let v ← whole; standAt e.pos; holding [v] (truthy v)) := by intro _; rfl) : DT X c mv W e (tOf f) :=
  pt_imp (pt_val h he) fun σ H Q h => tOf_ok h
theorem dw_pt {e : Expr} {f : En → Out Bool} (h : DW X c mv W e f) : DT X c mv W e f := PW.pt h
def tAndD (f g : En → Out Bool) : En → Out Bool := fun e => (f e).bind fun k e1 => match k with | true => g e1 | false => .ok false e1
def tOrD (f g : En → Out Bool) : En → Out Bool := fun e => (f e).bind fun k e1 => match k with | true => .ok true e1 | false => g e1
def tNotD (f : En → Out Bool) : En → Out Bool := fun e => (f e).bind fun k e1 => .ok (!k) e1
/-- a test, then by its answer -/
theorem test_ok {α β : Type} {R : Rel α β} {f : En → Out Bool} {k : Bool → En → Out α} {σ : L2.St} {H : Hp} {Q : β → Hp → Prop} {T : Bool → Hp → Prop}
    (h : ∃ F fp e, Sub F H ∧ EnvR c mv F H fp σ e ∧ Po c mv R W F H fp σ ((f e).bind k) Q)
    (hk : ∀ b F H fp e, Sub F H → EnvR c mv F H fp σ e → Po c mv R W F H fp σ (k b e) Q → T b H) : rd c mv blR W f σ H T := by
  obtain ⟨F, fp, e, s, E, p⟩ := h
  refine ⟨F, fp, e, s, E, Po.seq (R1 := blR) p fun b e1 F1 H1 f1 q1 v _ s1 E1 r1 d1 p1 => ?_⟩
  obtain ⟨rfl, rfl⟩ := r1
  rw [List.append_nil] at p1
  exact hk _ F1 H1 f1 e1 s1.fh E1 p1
section
variable {a b : Expr} {rest : List Expr} {f g : En → Out Bool} {pos : Pos}
theorem dw_and1 (ha : DT X c mv W a f) : DW X c mv W (.BoolOp .And [a] pos) f := pw_and1 ha
theorem dw_or1 (ha : DT X c mv W a f) : DW X c mv W (.BoolOp .Or [a] pos) f := pw_or1 ha
theorem dw_and (ha : DT X c mv W a f) (hb : DW X c mv W (.BoolOp .And (b :: rest) pos) g) : DW X c mv W (.BoolOp .And (a :: b :: rest) pos) (tAndD f g) :=
  pw_imp (pw_and ha hb) fun σ H Q h => test_ok (R := blR) h fun k F H fp e s E p => by
    cases k with
    | true => exact iteT ⟨F, fp, e, s, E, p⟩
    | false => exact iteF (Po.bl s E (fun _ h => h) p)
theorem dw_or (ha : DT X c mv W a f) (hb : DW X c mv W (.BoolOp .Or (b :: rest) pos) g) : DW X c mv W (.BoolOp .Or (a :: b :: rest) pos) (tOrD f g) :=
  pw_imp (pw_or ha hb) fun σ H Q h => test_ok (R := blR) h fun k F H fp e s E p => by
    cases k with
    | true => exact iteT (Po.bl s E (fun _ h => h) p)
    | false => exact iteF ⟨F, fp, e, s, E, p⟩
theorem dt_not (ha : DT X c mv W a f) : DT X c mv W (.UnaryOp .Not a pos) (tNotD f) :=
  pt_imp (pt_not ha) fun σ H Q h => test_ok (R := blR) h fun k F H fp e s E p => Po.bl s E (fun _ h => h) p
def eIf (t : En → Out Bool) (f g : En → Out Rv) : En → Out Rv := fun e => (t e).bind fun k e1 => match k with | true => f e1 | false => g e1
theorem de_if {t : Expr} {ft : En → Out Bool} {fa fb : En → Out Rv} (ht : DT X c mv W t ft) (ha : DE X c mv W a fa) (hb : DE X c mv W b fb) : DE X c mv W (.IfExp t a b pos) (eIf ft fa fb) :=
  pe_imp (pe_ifExp ht ha hb) fun σ H Q h => test_ok (R := rvR c mv) h fun k F H fp e s E p => by
    cases k with
    | true => exact iteT ⟨F, fp, e, s, E, p⟩
    | false => exact iteF ⟨F, fp, e, s, E, p⟩
/-- and, or, not as values -/
def eAndD (f g : En → Out Rv) : En → Out Rv := fun e => (tOf f e).bind fun k e1 => match k with | true => g e1 | false => .ok (.tm (.fz (.bl false))) e1
def eOrD (f g : En → Out Rv) : En → Out Rv := fun e => (tOf f e).bind fun k e1 => match k with | true => .ok (.tm (.fz (.bl true))) e1 | false => g e1
def eNotD (f : En → Out Rv) : En → Out Rv := fun e => (tOf f e).bind fun k e1 => .ok (.tm (.fz (.bl (!k)))) e1
section
variable {f g : En → Out Rv}
theorem de_one {op : BoolOp} (ha : DE X c mv W a f) : DE X c mv W (.BoolOp op [a] pos) f := pe_one ha
theorem de_and (ha : DE X c mv W a f) (hb : DE X c mv W (.BoolOp .And (b :: rest) pos) g) : DE X c mv W (.BoolOp .And (a :: b :: rest) pos) (eAndD f g) :=
  pe_imp (pe_and ha hb) fun σ H Q h => tOf_ok (test_ok (R := rvR c mv) h fun k F H fp e s E p => by
    cases k with
    | true => exact iteT ⟨F, fp, e, s, E, p⟩
    | false => exact iteF (Po.fz s E .bl (fun _ h => h) p))
theorem de_or (ha : DE X c mv W a f) (hb : DE X c mv W (.BoolOp .Or (b :: rest) pos) g) : DE X c mv W (.BoolOp .Or (a :: b :: rest) pos) (eOrD f g) :=
  pe_imp (pe_or ha hb) fun σ H Q h => tOf_ok (test_ok (R := rvR c mv) h fun k F H fp e s E p => by
    cases k with
    | true => exact iteT (Po.fz s E .bl (fun _ h => h) p)
    | false => exact iteF ⟨F, fp, e, s, E, p⟩)
theorem de_not (ha : DE X c mv W a f) : DE X c mv W (.UnaryOp .Not a pos) (eNotD f) :=
  pe_imp (pe_not ha) fun σ H Q h => tOf_ok (test_ok (R := rvR c mv) h fun k F H fp e s E p => Po.fz s E .bl (fun _ h => h) p)
end
end

/-! ### arguments ready, then an operation -/
theorem args_ok {f : En → Out (List Rv)} {k : List Rv → En → Out Rv} {R : List V → Hp → Prop} {Q : VK} {σ : L2.St} {H : Hp}
    (h : ∃ F fp e, Sub F H ∧ EnvR c mv F H fp σ e ∧ Po c mv (rvR c mv) W F H fp σ ((f e).bind k) Q)
    (hk : ∀ F H fp fq e vs rs, Sub F H → EnvR c mv F H fp σ e → RvAll c mv F H σ fq vs rs → (∀ b ∈ fq, b ∉ fp) → Po c mv (rvR c mv) W F H (fp ++ fq) σ (k rs e) Q → R vs H) :
    rd c mv (rvsR c mv) W f σ H R := by
  obtain ⟨F, fp, e, s, E, p⟩ := h
  exact ⟨F, fp, e, s, E, Po.seq (R1 := rvsR c mv) p fun rs e1 F1 H1 f1 q1 vs _ s1 E1 r1 d1 p1 => hk F1 H1 f1 q1 e1 vs rs s1.fh E1 r1 d1 p1⟩
section
variable {x : Str} {p pos : Pos} {a : Expr} {es : List Expr} {f : En → Out (List Rv)} {id T : String} {r : List V → Hp → VK → Prop}
theorem de_callV {φ : List D → Option D} (hc : CallR X (.builtin id) r) (vo : VOp c r φ) (hg : Gl X x) (hm : X.mg x = none) (hv : bootBuiltins x = some (.builtin id)) (ha : DA X c mv W (a :: es) f) (hn : x ≠ "__name__" := by decide) (hdb : (x == ("__debug__" : Str)) = false := by decide)
    (he : starEach (a :: es) X.env = (false, eval a X.env) :: starEach es X.env := by rfl) (hpl : (backTo pos (starEach es X.env)).any (·.1) = false := by rfl) : DE X c mv W (.Call (.Name x p) (a :: es) [] pos) (eV φ f) :=
  pe_imp (pe_callB hc hg hm hv ha hn hdb he hpl) fun σ H Q h => args_ok h fun F H fp fq e vs rs s E rr d p => eV_ok vo s E rr p
theorem de_callF {φ : List D → Option O} (hc : CallR X (.builtin id) r) (vo : FOp c r φ) (hg : Gl X x) (hm : X.mg x = none) (hv : bootBuiltins x = some (.builtin id)) (ha : DA X c mv W (a :: es) f) (hn : x ≠ "__name__" := by decide) (hdb : (x == ("__debug__" : Str)) = false := by decide)
    (he : starEach (a :: es) X.env = (false, eval a X.env) :: starEach es X.env := by rfl) (hpl : (backTo pos (starEach es X.env)).any (·.1) = false := by rfl) : DE X c mv W (.Call (.Name x p) (a :: es) [] pos) (eF φ f) :=
  pe_imp (pe_callB hc hg hm hv ha hn hdb he hpl) fun σ H Q h => args_ok h fun F H fp fq e vs rs s E rr d p => eF_ok vo s E rr d p
theorem de_typeV {φ : List D → Option D} (hc : CallR X (.type T) r) (vo : VOp c r φ) (hg : Gl X x) (hm : X.mg x = none) (hv : bootBuiltins x = some (.type T)) (ha : DA X c mv W (a :: es) f) (hn : x ≠ "__name__" := by decide) (hdb : (x == ("__debug__" : Str)) = false := by decide)
    (he : starEach (a :: es) X.env = (false, eval a X.env) :: starEach es X.env := by rfl) (hpl : (backTo pos (starEach es X.env)).any (·.1) = false := by rfl) : DE X c mv W (.Call (.Name x p) (a :: es) [] pos) (eV φ f) :=
  pe_imp (pe_callTy hc hg hm hv ha hn hdb he hpl) fun σ H Q h => args_ok h fun F H fp fq e vs rs s E rr d p => eV_ok vo s E rr p
theorem de_typeF {φ : List D → Option O} (hc : CallR X (.type T) r) (vo : FOp c r φ) (hg : Gl X x) (hm : X.mg x = none) (hv : bootBuiltins x = some (.type T)) (ha : DA X c mv W (a :: es) f) (hn : x ≠ "__name__" := by decide) (hdb : (x == ("__debug__" : Str)) = false := by decide)
    (he : starEach (a :: es) X.env = (false, eval a X.env) :: starEach es X.env := by rfl) (hpl : (backTo pos (starEach es X.env)).any (·.1) = false := by rfl) : DE X c mv W (.Call (.Name x p) (a :: es) [] pos) (eF φ f) :=
  pe_imp (pe_callTy hc hg hm hv ha hn hdb he hpl) fun σ H Q h => args_ok h fun F H fp fq e vs rs s E rr d p => eF_ok vo s E rr d p
end

/-! ### the text's own defs -/
def spP (c : Cs) (n : Nat) (φ : List D → Res) : Sp := fun vs H Q E => vs.length = n ∧ ∃ F ds, Sub F H ∧ FzAll c F vs ds ∧ match φ ds with
  | .ok o => ∀ F' H' fq v, Stp F H [] F' H' fq → Ow c F' H' fq v o → Q v H'
  | .ex x => ∀ F' H' cls d, Stp F H [] F' H' [] → XR c F' cls d x → E cls d H'
  | .no => False
structure Kn (P : Program) (w : World) (mg : Str → Option Value) (base : Heap) (c : Cs) (k : Nat) (x : Str) (n : Nat) (φ : List D → Res) : Prop where
  ex : ∃ (f : Addr) (fd : FuncData) (ps : List Str), FnG P w c.K mg base k f fd ps (spP c n φ) ∧ mg x = some (.ref f) ∧ PySem.W.keepIn c.K (.ref f) = true ∧ Binds c.K fd ps []
def eCall (φ : List D → Res) (f : En → Out (List Rv)) : En → Out Rv := fun e => (f e).bind fun rs e1 => match fixAll e1 rs with
  | none => .no
  | some (ds, e2) => match φ ds with
    | .ok o => .ok (.tm o) e2
    | .ex x => .ex x e2
    | .no => .no
section
variable {x : Str} {p pos : Pos} {a : Expr} {es : List Expr} {f : En → Out (List Rv)} {k n : Nat} {φ : List D → Res}
theorem eCall_ok {F H : Hp} {fp fq : List Addr} {σ : L2.St} {e : En} {vs : List V} {rs : List Rv} {Q : VK} (hn : rs.length = n) (s : Sub F H) (E : EnvR c mv F H fp σ e) (h : RvAll c mv F H σ fq vs rs) (dj : ∀ b ∈ fq, b ∉ fp)
    (p : Po c mv (rvR c mv) W F H (fp ++ fq) σ (match fixAll e rs with | none => Out.no | some (ds, e2) => match φ ds with | .ok o => .ok (.tm o) e2 | .ex x => .ex x e2 | .no => .no) Q) : spP c n φ vs H Q (WE W σ) := by
  have hl : ∀ {fq : List Addr} {vs : List V} {rs : List Rv}, RvAll c mv F H σ fq vs rs → vs.length = rs.length := fun {fq vs rs} h => by
    induction h with
    | nil => rfl
    | cons _ _ _ ih => rw [List.length_cons, List.length_cons, ih]
  cases z : fixAll e rs with
  | none => rw [z] at p; exact p.elim
  | some y =>
    obtain ⟨ds, e2⟩ := y
    rw [z] at p
    simp only at p
    obtain ⟨F1, f1, s1, k1, E1, m1⟩ := fixAll_ok s E h dj z
    refine ⟨(hl h).trans hn, F1, ds, s1.fh, k1, ?_⟩
    cases z2 : φ ds with
    | no => rw [z2] at p; exact p
    | ok o =>
      rw [z2] at p
      intro F2 H2 q2 v s2 h2
      obtain ⟨s3, d3⟩ := s2.beside (fp := f1) E1.has
      exact p F2 H2 f1 q2 v (s1.trans s3) (E1.stp s2 fun b hb z => nomatch z) (.tm h2) d3
    | ex x =>
      rw [z2] at p
      intro F2 H2 cls d s2 h2
      obtain ⟨s3, d3⟩ := s2.beside (fp := f1) E1.has
      rw [List.append_nil] at s3
      exact p F2 H2 f1 cls d (s1.trans s3) (E1.stp s2 fun b hb z => nomatch z) h2
/-- how many values an argument list tells -/
def Many (n : Nat) (f : En → Out (List Rv)) : Prop := ∀ e rs e1, f e = .ok rs e1 → rs.length = n
theorem many_nil : Many 0 aNil := fun e rs e1 h => by cases h; rfl
theorem many_cons {g : En → Out Rv} (h : Many n f) : Many (n + 1) (aCons g f) := fun e rs e1 q => by
  unfold aCons at q
  cases z : g e with
  | no => rw [z] at q; cases q
  | ex y e2 => rw [z] at q; cases q
  | ok r e2 =>
    rw [z] at q
    simp only [Out.bind] at q
    cases z2 : f e2 with
    | no => rw [z2] at q; cases q
    | ex y e3 => rw [z2] at q; cases q
    | ok rs2 e3 =>
      rw [z2] at q
      cases q
      rw [List.length_cons, h _ _ _ z2]
theorem de_call (hK : X.K = c.K) (G : Kn X.prog X.w X.mg X.base c k x n φ) (g : Quiet X.A) (r : Room k X.A) (tk : Takes X W) (ha : DA X c mv W (a :: es) f) (hn : Many n f) (hg : Gl X x) (hdb : (x == ("__debug__" : Str)) = false := by decide)
    (he : starEach (a :: es) X.env = (false, eval a X.env) :: starEach es X.env := by rfl) (hpl : (backTo pos (starEach es X.env)).any (·.1) = false := by rfl) : DE X c mv W (.Call (.Name x p) (a :: es) [] pos) (eCall φ f) := by
  obtain ⟨fa, fd, ps, F, hm, hk, hb⟩ := G.ex
  rw [← hK] at F hk hb
  refine pe_imp (pe_callG F g r hg hm hk hb tk ha hdb he hpl) fun σ H Q h => ?_
  obtain ⟨F, fp, e, s, E, p⟩ := h
  refine ⟨F, fp, e, s, E, Po.seq (R1 := rvsR c mv) p fun rs e1 F1 H1 f1 q1 vs hq s1 E1 r1 d1 p1 => ?_⟩
  exact eCall_ok (hn _ _ _ hq) s1.fh E1 r1 d1 p1
end

/-! ### displays -/
def ownAll : En → List Rv → Option (List O × En)
  | e, [] => some ([], e)
  | e, r :: rs => match own e r with
    | none => none
    | some (o, e1) => match ownAll e1 rs with
      | none => none
      | some (os, e2) => some (o :: os, e2)
theorem ownAll_ok {σ : L2.St} {H : Hp} : ∀ {rs : List Rv} {F : Hp} {fp fq : List Addr} {e e' : En} {vs : List V} {os : List O}, Sub F H → EnvR c mv F H fp σ e → RvAll c mv F H σ fq vs rs → (∀ b ∈ fq, b ∉ fp) → ownAll e rs = some (os, e') →
    ∃ F' fp' fq', Stp F H (fp ++ fq) F' H (fp' ++ fq') ∧ OwAll c F' H fq' vs os ∧ EnvR c mv F' H fp' σ e' ∧ (∀ b ∈ fq', b ∉ fp') ∧ (∀ b ∈ fp', b ∈ fp) ∧ ∀ b ∈ fq', b ∈ fq
  | [], F, fp, fq, e, e', vs, os, s, E, h, dj, l => by
    cases h
    cases l
    exact ⟨F, fp, [], Stp.refl s, .nil, E, (fun b hb => nomatch hb), (fun _ h => h), fun _ h => h⟩
  | r :: rs, F, fp, fq, e, e', vs, os, s, E, h, dj, l => by
    cases h with
    | @cons p q v r vs rs h1 h2 hd =>
      unfold ownAll at l
      cases z : own e r with
      | none => rw [z] at l; cases l
      | some y =>
        obtain ⟨o, e1⟩ := y
        rw [z] at l
        simp only at l
        obtain ⟨F1, f1, q1, s1, k1, E1, d1, m1, n1⟩ := own_ok s E h1 (fun b hb => dj b (List.mem_append_left _ hb)) z
        cases z2 : ownAll e1 rs with
        | none => rw [z2] at l; cases l
        | some y2 =>
          obtain ⟨os2, e2⟩ := y2
          rw [z2] at l
          cases l
          have h2' : RvAll c mv F1 H σ q vs rs := h2.stp s1 fun b hb z => (List.mem_append.mp z).elim (fun y => dj b (List.mem_append_right _ hb) y) fun y => hd b y hb
          obtain ⟨F2, f2, q2, s2, k2, E2, d2, m2, n2⟩ := ownAll_ok s1.fh E1 h2' (fun b hb z => dj b (List.mem_append_right _ hb) (m1 b z)) z2
          have k1' : Ow c F2 H q1 v o := s2.ow k1 fun b hb z => by
            rcases List.mem_append.mp z with y | y
            · exact d1 b hb y
            · exact hd b (n1 b hb) y
          refine ⟨F2, f2, q1 ++ q2, ?_, .cons k1' k2 fun b hb y => hd b (n1 b hb) (n2 b y), E2, fun b hb y => ?_, fun b hb => m1 b (m2 b hb), fun b hb => ?_⟩
          · have s1' := s1.more (fq := q) fun b hb => (h2.has b hb).2
            have s2' := s2.more (fq := q1) fun b hb => (k1.has b hb).2
            refine (s1'.part (fun b hb => ?_) (fp2 := (f1 ++ q) ++ q1) fun b hb => ?_).trans (s2'.part (fun _ h => h) fun b hb => ?_)
            all_goals
              simp only [List.mem_append] at hb ⊢
              first | (rcases hb with h | h | h <;> simp [h]; done) | (rcases hb with (h | h) | h <;> simp [h]; done)
            
          · rcases List.mem_append.mp hb with h | h
            · exact d1 b h (m2 b y)
            · exact d2 b h y
          · rcases List.mem_append.mp hb with h | h
            · exact List.mem_append_left _ (n1 b h)
            · exact List.mem_append_right _ (n2 b h)
def eLst (f : En → Out (List Rv)) : En → Out Rv := fun e => (f e).bind fun rs e1 => match ownAll e1 rs with
  | none => .no
  | some (os, e2) => if os.length ≤ 1000 then .ok (.tm (.lst os)) e2 else .no
def eTup (f : En → Out (List Rv)) : En → Out Rv := fun e => (f e).bind fun rs e1 => match fixAll e1 rs with
  | none => .no
  | some (ds, e2) => if ds.length ≤ 1000 then .ok (.tm (.fz (.tup false ds))) e2 else .no
theorem small_line {n : Nat} (h : n ≤ 1000) : n ≤ sizeLine := Nat.le_of_lt (small1000 h)
theorem Stp.lay {F H : Hp} {fp fq : List Addr} {p : Addr} {o : HO} (s : Sub F H) (hp : H p = none) (hq : ∀ b ∈ fq, b ∈ fp) : Stp F H fp F (upd H p o) (p :: fq) :=
  (Stp.new s hp).part (fun _ h => h) fun b hb => by
    rcases List.mem_cons.mp hb with h | h
    · subst h; exact List.mem_append_right _ (List.mem_singleton.mpr rfl)
    · exact List.mem_append_left _ (hq b h)
theorem upd_at {H : Hp} {p b : Addr} {o : HO} (hp : H p = none) (hb : H b ≠ none) : upd H p o b = H b := upd_ne (fun e => hb (by rw [e]; exact hp))
theorem de_lst {es : List Expr} {f : En → Out (List Rv)} {pos : Pos} (h : DA X c mv W es f) : DE X c mv W (.List es pos) (eLst f) :=
  pe_imp (pe_lst h) fun σ H Q h => args_ok h fun F H fp fq e vs rs s E rr dj p => by
    cases z : ownAll e rs with
    | none => rw [z] at p; exact p.elim
    | some y =>
      obtain ⟨os, e2⟩ := y
      rw [z] at p
      simp only at p
      by_cases hs : os.length ≤ 1000
      · rw [if_pos hs] at p
        obtain ⟨F1, f1, q1, s1, k1, E1, d1, m1, n1⟩ := ownAll_ok s E rr dj z
        refine ⟨by rw [k1.length]; exact small_line hs, fun a ha => ?_⟩
        have st : Stp F1 H (f1 ++ q1) F1 (upd H a (.lst vs)) (a :: (f1 ++ q1)) := Stp.lay s1.fh ha fun _ h => h
        have st0 : Stp F1 H [] F1 (upd H a (.lst vs)) [a] := Stp.lay s1.fh ha fun _ h => h
        have na : ∀ b ∈ f1 ++ q1, b ≠ a := fun b hb z => by
          subst z
          rcases List.mem_append.mp hb with h | h
          · exact (E1.has _ h).2 ha
          · exact (k1.has _ h).2 ha
        have Fa : F1 a = none := by
          cases q : F1 a with
          | none => rfl
          | some u => have := s1.fh a u q; rw [ha] at this; cases this
        refine p F1 _ f1 (a :: q1) _ (s1.trans (st.part (fun _ h => h) fun b hb => ?_)) (E1.stp st0 fun b hb z => nomatch z) (.tm (.lst upd_same Fa (fun h => na a (List.mem_append_right _ h) rfl) (st0.owAll k1 fun b hb z => nomatch z))) fun b hb y => ?_
        · rcases List.mem_append.mp hb with h | h
          · exact List.mem_cons_of_mem _ (List.mem_append_left _ h)
          · rcases List.mem_cons.mp h with h | h
            · subst h; exact List.mem_cons_self
            · exact List.mem_cons_of_mem _ (List.mem_append_right _ h)
        · rcases List.mem_cons.mp hb with h | h
          · exact na b (List.mem_append_left _ y) h
          · exact d1 b h y
      · rw [if_neg hs] at p; exact p.elim
theorem de_tup {es : List Expr} {f : En → Out (List Rv)} {x1} {pos : Pos} (h : DA X c mv W es f) : DE X c mv W (.Tuple es x1 pos) (eTup f) :=
  pe_imp (pe_tup h) fun σ H Q h => args_ok h fun F H fp fq e vs rs s E rr dj p => by
    cases z : fixAll e rs with
    | none => rw [z] at p; exact p.elim
    | some y =>
      obtain ⟨ds, e2⟩ := y
      rw [z] at p
      simp only at p
      by_cases hs : ds.length ≤ 1000
      · rw [if_pos hs] at p
        obtain ⟨F1, f1, s1, k1, E1, m1⟩ := fixAll_ok s E rr dj z
        refine ⟨by rw [k1.length]; exact small_line hs, fun a ha => ?_⟩
        have st : Stp F1 H f1 F1 (upd H a (.tup vs)) (a :: f1) := Stp.lay s1.fh ha fun _ h => h
        have Fa : F1 a = none := by
          cases q : F1 a with
          | none => rfl
          | some u => have := s1.fh a u q; rw [ha] at this; cases this
        have ic : Stp F1 (upd H a (.tup vs)) (a :: f1) (ice F1 (upd H a (.tup vs)) [a]) (upd H a (.tup vs)) f1 :=
          Stp.ice st.fh (fun b hb => by rw [List.mem_singleton] at hb; subst hb; exact Fa) (fun b hb => by rw [List.mem_singleton] at hb; subst hb; exact List.mem_cons_self) fun b hb => List.mem_cons_of_mem _ hb
        have st2 := st.trans ic
        have st0 : Stp F1 H [] (ice F1 (upd H a (.tup vs)) [a]) (upd H a (.tup vs)) [] :=
          (Stp.lay (fq := []) s1.fh ha fun _ h => h).trans (Stp.ice st.fh (fun b hb => by rw [List.mem_singleton] at hb; subst hb; exact Fa) (fun b hb => hb) fun b hb => nomatch hb)
        refine Po.fz (F := ice F1 (upd H a (.tup vs)) [a]) st2.fh (E1.stp st0 fun b hb z => nomatch z) (.tup (SqT.of ((ice_in (List.mem_singleton.mpr rfl)).trans upd_same)) (tupN ((ice_in (List.mem_singleton.mpr rfl)).trans upd_same)) (k1.mono st0.ff)) (fun _ h => h) (Po.step p (s1.trans st2))
      · rw [if_neg hs] at p; exact p.elim
end
end DL

set_option Elab.async false
set_option linter.all false
set_option maxRecDepth 100000
set_option maxHeartbeats 2000000
/-! DL, part E: statements, loops, comprehensions, defs by their bodies. -/
namespace DL
open PySem L2 PySem.Spec PyProof.Rows

/-- how a statement ends -/
inductive SO where
  | nx (e : En) | bk (e : En) | ct (e : En) | rt (o : O) (e : En) | ex (x : XD) (e : En) | no
abbrev SS := En → SO
def PoS (c : Cs) (mv : V) (W : WX) (F H : Hp) (fp : List Addr) (r : SO) (D : Ends) : Prop := match r with
  | .nx e => ∀ F' H' fp' σ', Stp F H fp F' H' fp' → EnvR c mv F' H' fp' σ' e → D.nx σ' H'
  | .bk e => ∀ F' H' fp' σ', Stp F H fp F' H' fp' → EnvR c mv F' H' fp' σ' e → D.bk σ' H'
  | .ct e => ∀ F' H' fp' σ', Stp F H fp F' H' fp' → EnvR c mv F' H' fp' σ' e → D.ct σ' H'
  | .rt o e => ∀ F' H' fp' fq σ' v, Stp F H fp F' H' (fp' ++ fq) → EnvR c mv F' H' fp' σ' e → Ow c F' H' fq v o → (∀ b ∈ fq, b ∉ fp') → D.rt v H'
  | .ex x e => ∀ F' H' fp' σ' cls d, Stp F H fp F' H' fp' → EnvR c mv F' H' fp' σ' e → XR c F' cls d x → W cls d σ' H'
  | .no => False
section
variable {c : Cs} {mv : V} {W : WX} {F F' H H' : Hp} {fp fp' : List Addr} {D : Ends}
theorem PoS.step {r : SO} (h : PoS c mv W F H fp r D) (s : Stp F H fp F' H' fp') : PoS c mv W F' H' fp' r D := by
  cases r with
  | nx e => exact fun F2 H2 f2 σ t => h F2 H2 f2 σ (s.trans t)
  | bk e => exact fun F2 H2 f2 σ t => h F2 H2 f2 σ (s.trans t)
  | ct e => exact fun F2 H2 f2 σ t => h F2 H2 f2 σ (s.trans t)
  | rt o e => exact fun F2 H2 f2 fq σ v t => h F2 H2 f2 fq σ v (s.trans t)
  | ex x e => exact fun F2 H2 f2 σ cls d t => h F2 H2 f2 σ cls d (s.trans t)
  | no => exact h
end
def rdS (c : Cs) (mv : V) (W : WX) (g : SS) : TS := fun D σ H => ∃ F fp e, Sub F H ∧ EnvR c mv F H fp σ e ∧ PoS c mv W F H fp (g e) D
def DS (X : Cx) (c : Cs) (mv : V) (W : WX) (st : Stmt) (g : SS) : Prop := PS X st (rdS c mv W g)
def DSs (X : Cx) (c : Cs) (mv : V) (W : WX) (st : List Stmt) (g : SS) : Prop := PSs X st (rdS c mv W g)
def Out.so {α : Type} (r : Out α) (k : α → En → SO) : SO := match r with
  | .ok a e => k a e
  | .ex x e => .ex x e
  | .no => .no
def SO.then (r : SO) (k : En → SO) : SO := match r with
  | .nx e => k e
  | .bk e => .bk e
  | .ct e => .ct e
  | .rt o e => .rt o e
  | .ex x e => .ex x e
  | .no => .no

section
variable {X : Cx} {c : Cs} {mv : V} {W : WX}
/-- an expression, then what is done with it -/
theorem then_ok {α β : Type} {R : Rel α β} {f : En → Out α} {k : α → En → SO} {σ : L2.St} {H : Hp} {D : Ends} {T : β → Hp → Prop}
    (h : rdS c mv W (fun e => (f e).so k) D σ H)
    (hk : ∀ F H fp fq e v a, Sub F H → EnvR c mv F H fp σ e → R F H σ fq v a → (∀ b ∈ fq, b ∉ fp) → PoS c mv W F H (fp ++ fq) (k a e) D → T v H) : rd c mv R W f σ H T := by
  obtain ⟨F, fp, e, s, E, p⟩ := h
  refine ⟨F, fp, e, s, E, ?_⟩
  cases z : f e with
  | no => simp only [z, Out.so] at p; exact p
  | ex x e1 =>
    simp only [z, Out.so] at p
    exact fun F1 H1 f1 cls d st E1 xr => p F1 H1 f1 σ cls d st E1 xr
  | ok a e1 =>
    simp only [z, Out.so] at p
    exact fun F1 H1 f1 q1 v st E1 r1 d1 => hk F1 H1 f1 q1 e1 v a st.fh E1 r1 d1 (p.step st)
theorem PoS.nx {F H : Hp} {fp fr : List Addr} {σ : L2.St} {e : En} {D : Ends} (s : Sub F H) (E : EnvR c mv F H fp σ e) (hs : ∀ b ∈ fp, b ∈ fr) (p : PoS c mv W F H fr (.nx e) D) : D.nx σ H :=
  p F H fp σ ((Stp.refl s).part (fun _ h => h) hs) E

/-! ### blocks -/
def sNil : SS := fun e => .nx e
def sCons (g k : SS) : SS := fun e => (g e).then k
theorem dss_nil : DSs X c mv W [] sNil := pss_imp pss_nil fun D σ H ⟨F, fp, e, s, E, p⟩ => PoS.nx s E (fun _ h => h) p
theorem dss_cons {st : Stmt} {sts : List Stmt} {g k : SS} (h : DS X c mv W st g) (hr : DSs X c mv W sts k) : DSs X c mv W (st :: sts) (sCons g k) :=
  pss_imp (pss_cons h hr) fun D σ H ⟨F, fp, e, s, E, p⟩ => by
    refine ⟨F, fp, e, s, E, ?_⟩
    unfold sCons at p
    cases z : g e with
    | nx e1 =>
      simp only [z, SO.then] at p
      exact fun F1 H1 f1 σ1 st E1 => ⟨F1, f1, e1, st.fh, E1, p.step st⟩
    | bk e1 => simp only [z, SO.then] at p; exact p
    | ct e1 => simp only [z, SO.then] at p; exact p
    | rt o e1 => simp only [z, SO.then] at p; exact p
    | ex x e1 => simp only [z, SO.then] at p; exact p
    | no => simp only [z, SO.then] at p; exact p
theorem dss_one {st : Stmt} {g : SS} (h : DS X c mv W st g) : DSs X c mv W [st] g := pss_one h
theorem ds_pass {pos : Pos} : DS X c mv W (.Pass pos) sNil := ps_imp ps_pass fun D σ H ⟨F, fp, e, s, E, p⟩ => PoS.nx s E (fun _ h => h) p
theorem ds_doc {x j pos pos'} : DS X c mv W (.Expr (.Constant (.str x) j pos) pos') sNil := ps_imp ps_doc fun D σ H ⟨F, fp, e, s, E, p⟩ => PoS.nx s E (fun _ h => h) p
def sBreak : SS := fun e => .bk e
def sCont : SS := fun e => .ct e
theorem ds_break {pos : Pos} : DS X c mv W (.Break pos) sBreak := ps_imp ps_break fun D σ H ⟨F, fp, e, s, E, p⟩ => p F H fp σ (Stp.refl s) E
theorem ds_cont {pos : Pos} : DS X c mv W (.Continue pos) sCont := ps_imp ps_continue fun D σ H ⟨F, fp, e, s, E, p⟩ => p F H fp σ (Stp.refl s) E
def sIf (t : En → Out Bool) (g k : SS) : SS := fun e => (t e).so fun b e1 => match b with | true => g e1 | false => k e1
theorem ds_if {t : Expr} {a b : List Stmt} {ft : En → Out Bool} {g k : SS} {pos : Pos} (ht : DT X c mv W t ft) (ha : DSs X c mv W a g) (hb : DSs X c mv W b k) : DS X c mv W (.If t a b pos) (sIf ft g k) :=
  ps_imp (ps_if ht ha hb) fun D σ H h => then_ok (R := blR) (T := fun k' H1 => if k' = true then rdS c mv W g D σ H1 else rdS c mv W k D σ H1) h fun F H fp fq e v a s E r d p => by
    obtain ⟨rfl, rfl⟩ := r
    rw [List.append_nil] at p
    cases v with
    | true => exact iteT ⟨F, fp, e, s, E, p⟩
    | false => exact iteF ⟨F, fp, e, s, E, p⟩

/-! ### stores, returns -/
def sSet (i : Nat) (f : En → Out Rv) : SS := fun e => (f e).so fun r e1 => match own e1 r with
  | none => .no
  | some (o, e2) => .nx (e2.put i o)
theorem ds_set {i : Nat} {x : Str} {a : Expr} {f : En → Out Rv} {pos pos' : Pos} (hN : X.N.Nodup) (hi : X.N[i]? = some x) (hx : Loc X.env.scope x) (ha : DE X c mv W a f) (hs : swapsWith a (some (.Name x pos')) pos.line X.env = pure false := by rfl)
    (hf : X.fn x = true ∨ X.env.scope.names.lookup x = some .local := by first | exact .inl rfl | exact .inr rfl | assumption) : DS X c mv W (.Assign [.Name x pos'] a pos) (sSet i f) :=
  ps_imp (ps_set hN hi hx ha hs hf) fun D σ H h => then_ok (R := rvR c mv) (T := fun v H1 => D.nx (σ.set i (some v)) H1) h fun F H fp fq e v r s E rr d p => by
    cases z : own e r with
    | none => rw [z] at p; exact p.elim
    | some y =>
      obtain ⟨o, e2⟩ := y
      rw [z] at p
      obtain ⟨F1, f1, q1, s1, k1, E1, d1, m1, n1⟩ := own_ok s E rr d z
      obtain ⟨f2, E2, m2⟩ := E1.put (i := i) k1 d1
      exact p F1 H f2 _ (s1.part (fun _ h => h) m2) E2
/-- what a def hands back: a thing of its own goes out whole -/
def give (e : En) : Rv → Option (O × En)
  | .sl i => match e.sl[i]? with
    | some (some (.ow o)) => some (o, e.hole i)
    | _ => own e (.sl i)
  | r => own e r
theorem give_ok {F H : Hp} {fp fq : List Addr} {σ : L2.St} {e e' : En} {v : V} {r : Rv} {o : O} (s : Sub F H) (E : EnvR c mv F H fp σ e) (h : RvR c mv F H σ fq v r) (dj : ∀ b ∈ fq, b ∉ fp) (l : give e r = some (o, e')) :
    ∃ F' fp' fq', Stp F H (fp ++ fq) F' H (fp' ++ fq') ∧ Ow c F' H fq' v o ∧ EnvR c mv F' H fp' σ e' ∧ ∀ b ∈ fq', b ∉ fp' := by
  have base : own e r = some (o, e') → ∃ F' fp' fq', Stp F H (fp ++ fq) F' H (fp' ++ fq') ∧ Ow c F' H fq' v o ∧ EnvR c mv F' H fp' σ e' ∧ ∀ b ∈ fq', b ∉ fp' := fun l => by
    obtain ⟨F1, f1, q1, s1, k1, E1, d1, _⟩ := own_ok s E h dj l
    exact ⟨F1, f1, q1, s1, k1, E1, d1⟩
  cases r with
  | tm o => exact base l
  | me => exact base l
  | sl i =>
    cases h with
    | sl hi =>
      have l : (match e.sl[i]? with
        | some (some (.ow o)) => some (o, e.hole i)
        | _ => own e (.sl i)) = some (o, e') := l
      cases q : e.sl[i]? with
      | none => rw [q] at l; exact base l
      | some w =>
        cases w with
        | none => rw [q] at l; exact base l
        | some x =>
          cases x with
          | me => rw [q] at l; exact base l
          | ow o' =>
            rw [q] at l
            cases l
            obtain ⟨v', fo, fr, g1, g2, g3, g4, g5⟩ := E.take q
            rw [hi] at g1; cases g1
            refine ⟨F, fr, fo, (Stp.refl s).part (fun _ h => h) fun b hb => List.mem_append_left _ ((g5 b).mpr ?_), g2, g3, g4⟩
            exact (List.mem_append.mp hb).elim .inr .inl
def sRet (f : En → Out Rv) : SS := fun e => (f e).so fun r e1 => match give e1 r with
  | none => .no
  | some (o, e2) => .rt o e2
theorem ds_ret {a : Expr} {f : En → Out Rv} {pos : Pos} (ha : DE X c mv W a f) : DS X c mv W (.Return (some a) pos) (sRet f) :=
  ps_imp (ps_ret ha) fun D σ H h => then_ok (R := rvR c mv) (T := fun v H1 => D.rt v H1) h fun F H fp fq e v r s E rr d p => by
    cases z : give e r with
    | none => rw [z] at p; exact p.elim
    | some y =>
      obtain ⟨o, e2⟩ := y
      rw [z] at p
      obtain ⟨F1, f1, q1, s1, k1, E1, d1⟩ := give_ok s E rr d z
      exact p F1 H f1 q1 σ v s1 E1 k1 d1
def sRetN : SS := fun e => .rt (.fz .non) e
theorem ds_retN {pos : Pos} : DS X c mv W (.Return none pos) sRetN :=
  ps_imp ps_retN fun D σ H ⟨F, fp, e, s, E, p⟩ => p F H fp [] σ .non (by rw [List.append_nil]; exact Stp.refl s) E (.fz .non) fun b hb => nomatch hb
/-- a value dropped -/
def sDrop (f : En → Out Rv) : SS := fun e => (f e).so fun r e1 => .nx e1
theorem ds_expr {a : Expr} {f : En → Out Rv} {pos : Pos} (ha : DE X c mv W a f) (hs : swapsWith a none pos.line X.env = pure false := by rfl) : DS X c mv W (.Expr a pos) (sDrop f) :=
  ps_imp (ps_expr ha hs) fun D σ H h => then_ok (R := rvR c mv) (T := fun v H1 => D.nx σ H1) h fun F H fp fq e v r s E rr d p => PoS.nx s E (fun b hb => List.mem_append_left _ hb) p

/-! ### targets of frozen data -/
abbrev TgS := D → En → Option En
def TgOk (c : Cs) (mv : V) (ts : List Nat) (g : TG) (t : TgS) : Prop :=
  ∀ (F H : Hp) (fp : List Addr) (σ : L2.St) (e e' : En) (v : V) (d : D) (Q : L2.St → Hp → Prop), Sub F H → EnvR c mv F H fp σ e → Fz c F v d → t d e = some e' →
    (∀ fp' σ', EnvR c mv F H fp' σ' e' → (∀ b ∈ fp', b ∈ fp) → σ'.length = σ.length → (∀ j, j ∉ ts → σ'[j]? = σ[j]?) → Q σ' H) → g v σ H Q
def TgsOk (c : Cs) (mv : V) (ts : List Nat) (g : TGs) (t : List D → En → Option En) : Prop :=
  ∀ (F H : Hp) (fp : List Addr) (σ : L2.St) (e e' : En) (vs : List V) (ds : List D) (Q : L2.St → Hp → Prop), Sub F H → EnvR c mv F H fp σ e → FzAll c F vs ds → t ds e = some e' →
    (∀ fp' σ', EnvR c mv F H fp' σ' e' → (∀ b ∈ fp', b ∈ fp) → σ'.length = σ.length → (∀ j, j ∉ ts → σ'[j]? = σ[j]?) → Q σ' H) → g vs σ H Q
/-- a target: how it reads, what it does to a frame, which slots it fills -/
structure DG (X : Cx) (c : Cs) (mv : V) (tg : Expr) (ts : List Nat) (g : TG) (t : TgS) : Prop where
  pg : PG X tg g
  ok : TgOk c mv ts g t
structure DGs (X : Cx) (c : Cs) (mv : V) (tgs : List Expr) (ts : List Nat) (g : TGs) (t : List D → En → Option En) : Prop where
  pg : PGs X tgs g
  ok : TgsOk c mv ts g t
def gN (i : Nat) : TgS := fun d e => some (e.put i (.fz d))
theorem tok_name {i : Nat} : TgOk c mv [i] (gName i) (gN i) := fun F H fp σ e e' v d Q s E h l k => by
  cases l
  obtain ⟨f2, E2, m2⟩ := E.put (i := i) (.fz h) fun b hb => nomatch hb
  exact k f2 _ E2 (fun b hb => by simpa using m2 b hb) (List.length_set ..) fun j hj => List.getElem?_set_ne fun q => hj (by rw [q]; exact List.mem_singleton.mpr rfl)
theorem dg_name {i : Nat} {x : Str} {pos : Pos} (hN : X.N.Nodup) (hi : X.N[i]? = some x) (hx : Loc X.env.scope x) (hf : X.fn x = true ∨ X.env.scope.names.lookup x = some .local := by first | exact .inl rfl | exact .inr rfl | assumption) : DG X c mv (.Name x pos) [i] (gName i) (gN i) :=
  ⟨pg_name hN hi hx hf, tok_name⟩
def gNil' : List D → En → Option En := fun ds e => match ds with | [] => some e | _ => none
def gCons' (t : TgS) (u : List D → En → Option En) : List D → En → Option En := fun ds e => match ds with
  | [] => none
  | d :: ds => match t d e with
    | none => none
    | some e1 => u ds e1
theorem toks_nil : TgsOk c mv [] gNil gNil' := fun F H fp σ e e' vs ds Q s E h l k => by
  cases ds with
  | nil => cases h; cases l; exact ⟨rfl, k fp σ E (fun _ h => h) rfl fun _ _ => rfl⟩
  | cons d ds => cases l
theorem toks_cons {ts us : List Nat} {g1 : TG} {g2 : TGs} {t : TgS} {u : List D → En → Option En} (h1 : TgOk c mv ts g1 t) (h2 : TgsOk c mv us g2 u) : TgsOk c mv (ts ++ us) (gCons g1 g2) (gCons' t u) := fun F H fp σ e e' vs ds Q s E h l k => by
  cases h with
  | nil => cases l
  | cons h hr =>
    rename_i v vs d ds
    unfold gCons' at l
    simp only at l
    cases z : t d e with
    | none => rw [z] at l; cases l
    | some e1 =>
      rw [z] at l
      refine ⟨v, vs, rfl, h1 F H fp σ e e1 v d _ s E h z fun f1 σ1 E1 m1 l1 j1 => ?_⟩
      exact h2 F H f1 σ1 e1 e' vs ds _ s E1 hr l fun f2 σ2 E2 m2 l2 j2 => k f2 σ2 E2 (fun b hb => m1 b (m2 b hb)) (l2.trans l1) fun j hj =>
        (j2 j fun q => hj (List.mem_append_right _ q)).trans (j1 j fun q => hj (List.mem_append_left _ q))
theorem dgs_nil : DGs X c mv [] [] gNil gNil' := ⟨pgs_nil, toks_nil⟩
theorem dgs_cons {a : Expr} {es : List Expr} {ts us : List Nat} {g1 : TG} {g2 : TGs} {t : TgS} {u : List D → En → Option En} (h1 : DG X c mv a ts g1 t) (h2 : DGs X c mv es us g2 u) (hs : (assignEach (a :: es) X.env).map (·.2) = assign a X.env :: (assignEach es X.env).map (·.2) := by rfl) : DGs X c mv (a :: es) (ts ++ us) (gCons g1 g2) (gCons' t u) :=
  ⟨pgs_cons h1.pg h2.pg hs, toks_cons h1.ok h2.ok⟩
def gT (u : List D → En → Option En) : TgS := fun d e => match d with
  | .tup _ ds => u ds e
  | _ => none
theorem tok_tup {us : List Nat} {g : TGs} {u : List D → En → Option En} {n : Nat} (h : TgsOk c mv us g u) (hl : ∀ ds e e', u ds e = some e' → ds.length = n) : TgOk c mv us (gTup c.K n g) (gT u) := fun F H fp σ e e' v d Q s E hz l kk => by
  cases hz with
  | tup hs _ ha => exact ⟨_, _, rfl, s.sqT hs, ha.length.trans (hl _ _ _ l), h F H fp σ e e' _ _ Q s E ha l kk⟩
  | _ => cases l
/-- how many a row of targets takes -/
theorem dg_tup {es : List Expr} {k : Nat} {us : List Nat} {g : TGs} {u : List D → En → Option En} {n : Nat} {pos : Pos} (hK : X.K = c.K) (hc : X.calm = true) (h : DGs X c mv es us g u) (hl : ∀ ds e e', u ds e = some e' → ds.length = n) (hn : (assignEach es X.env).length = n := by rfl) (hst : (assignEach es X.env).findIdx? (·.1) = none := by rfl) :
    DG X c mv (.Tuple es k pos) us (gTup c.K n g) (gT u) := by
  refine ⟨?_, tok_tup h.ok hl⟩
  rw [← hK]
  exact pg_tup hc h.pg hn hst
theorem glen_nil : ∀ ds e e', gNil' ds e = some e' → ds.length = 0 := fun ds e e' h => by
  cases ds with
  | nil => rfl
  | cons d ds => cases h
theorem glen_cons {t : TgS} {u : List D → En → Option En} {n : Nat} (h : ∀ ds e e', u ds e = some e' → ds.length = n) : ∀ ds e e', gCons' t u ds e = some e' → ds.length = n + 1 := fun ds e e' q => by
  cases ds with
  | nil => cases q
  | cons d ds =>
    unfold gCons' at q
    simp only at q
    cases z : t d e with
    | none => rw [z] at q; cases q
    | some e1 => rw [z] at q; rw [List.length_cons, h _ _ _ q]
def sAsg (t : TgS) (f : En → Out Rv) : SS := fun e => (f e).so fun r e1 => match fix e1 r with
  | none => .no
  | some (d, e2) => match t d e2 with
    | none => .no
    | some e3 => .nx e3
theorem ds_asg {tg a : Expr} {ts : List Nat} {g : TG} {t : TgS} {f : En → Out Rv} {pos : Pos} (ha : DE X c mv W a f) (hg : DG X c mv tg ts g t) (hs : swapsWithSole [tg] a pos.line X.env = pure false := by rfl) (hw : swappedStores [tg] a X.env = pure none := by rfl)
    (h1 : (assignEach [tg] X.env).map (·.2) = [assign tg X.env] := by rfl) : DS X c mv W (.Assign [tg] a pos) (sAsg t f) := by
  refine ps_imp (ps_asg ha hg.pg hs hw h1) fun D σ H h => then_ok (R := rvR c mv) (T := fun v H1 => g v σ H1 D.nx) h fun F H fp fq e v r s E rr d p => ?_
  cases z : fix e r with
  | none => rw [z] at p; exact p.elim
  | some y =>
    obtain ⟨d', e2⟩ := y
    rw [z] at p
    simp only at p
    obtain ⟨F1, f1, s1, k1, E1, m1⟩ := fix_ok s E rr d z
    cases z2 : t d' e2 with
    | none => rw [z2] at p; exact p.elim
    | some e3 =>
      rw [z2] at p
      exact hg.ok F1 H f1 σ e2 e3 v d' D.nx s1.fh E1 k1 z2 fun f2 σ2 E2 m2 _ _ => p F1 H f2 σ2 (s1.trans ((Stp.refl s1.fh).part (fun _ h => h) m2)) E2

/-! ### what is walked -/
structure Walks (c : Cs) (F : Hp) (J : It) (ds : List D) : Prop where
  stop : ∀ H, Sub F H → J.stop ds.length H
  go : ∀ i H d, Sub F H → ds[i]? = some d → J.go i H
  yld : ∀ i F1 H d x H', Sub F F1 → Sub F1 H → ds[i]? = some d → J.yld i H x H' → ∃ F', Stp F1 H [] F' H' [] ∧ Fz c F' x d
def wkR (c : Cs) : Rel (List D) It := fun F _ _ fq J ds => fq = [] ∧ Walks c F J ds
def DI (X : Cx) (c : Cs) (mv : V) (W : WX) (tg iter : Expr) (f : En → Out (List D)) : Prop := PI X tg iter (rd c mv (wkR c) W f)
theorem pi_imp {tg iter : Expr} {t u : TI} (h : PI X tg iter t) (i : ∀ σ H R, u σ H R → t σ H R) : PI X tg iter u := ⟨fun pins s σ H R I q => h.run pins s σ H R I (i σ H R q)⟩
def itSeq (f : En → Out Rv) : En → Out (List D) := fun e => (f e).bind fun r e1 => match fix e1 r with
  | some (.lst ds, e2) => .ok ds e2
  | some (.tup _ ds, e2) => .ok ds e2
  | _ => .no
def itLst (f : En → Out Rv) : En → Out (List D) := fun e => (f e).bind fun r e1 => match fix e1 r with
  | some (.lst ds, e2) => .ok ds e2
  | _ => .no
def itTup (f : En → Out Rv) : En → Out (List D) := fun e => (f e).bind fun r e1 => match fix e1 r with
  | some (.tup _ ds, e2) => .ok ds e2
  | _ => .no
theorem seq_val {F H : Hp} {v : V} {d : D} (z : Stp F H [] F H []) (h : Fz c F v d) : ∃ F', Stp F H [] F' H [] ∧ Fz c F' v d := ⟨F, z, h⟩
theorem di_list {tg l : Expr} {f : En → Out Rv} (hK : X.K = c.K) (h : DE X c mv W l f) : DI X c mv W tg l (itLst f) :=
  pi_imp (pi_list h) fun σ H R h => by
    obtain ⟨F, fp, e, s, E, p⟩ := h
    refine ⟨F, fp, e, s, E, Po.seq (R1 := rvR c mv) p fun r e1 F1 H1 f1 q1 v _ s1 E1 r1 d1 p1 => ?_⟩
    cases z : fix e1 r with
    | none => rw [z] at p1; exact p1.elim
    | some y =>
      obtain ⟨d, e2⟩ := y
      rw [z] at p1
      obtain ⟨F2, f2, s2, k2, E2, m2⟩ := fix_ok s1.fh E1 r1 d1 z
      cases d with
      | lst ds =>
        cases k2 with
        | @lst a xs ds hs ha =>
          rw [hK]
          refine ⟨a, rfl, ⟨xs, s2.fh.sqL hs⟩, p1 F2 H1 f2 [] _ (by rw [List.append_nil]; exact s2) E2 ⟨rfl, ?_⟩ fun b hb => nomatch hb⟩
          refine ⟨fun H sH => ⟨xs, sH.sqL hs, by rw [ha.length]; exact Nat.le_refl _⟩, fun i H d sH hd => ?_, fun i F3 H d x H' s3 sH hd hy => ?_⟩
          · obtain ⟨x, hx, _⟩ := ha.get hd
            exact ⟨xs, x, sH.sqL hs, hx⟩
          · obtain ⟨rfl, hy⟩ := hy
            obtain ⟨x', hx', hz⟩ := ha.get hd
            have := hy xs ((s3.trans sH).sqL hs)
            rw [hx'] at this; cases this
            exact ⟨F3, Stp.refl sH, hz.mono s3⟩
      | _ => exact p1.elim
theorem di_tup {tg l : Expr} {f : En → Out Rv} (hK : X.K = c.K) (h : DE X c mv W l f) : DI X c mv W tg l (itTup f) :=
  pi_imp (pi_tup h) fun σ H R h => by
    obtain ⟨F, fp, e, s, E, p⟩ := h
    refine ⟨F, fp, e, s, E, Po.seq (R1 := rvR c mv) p fun r e1 F1 H1 f1 q1 v _ s1 E1 r1 d1 p1 => ?_⟩
    cases z : fix e1 r with
    | none => rw [z] at p1; exact p1.elim
    | some y =>
      obtain ⟨d, e2⟩ := y
      rw [z] at p1
      obtain ⟨F2, f2, s2, k2, E2, m2⟩ := fix_ok s1.fh E1 r1 d1 z
      cases d with
      | tup kk ds =>
        cases k2 with
        | @tup a xs _ ds hs _ ha =>
          rw [hK]
          refine ⟨a, rfl, ⟨xs, s2.fh.sqT hs⟩, p1 F2 H1 f2 [] _ (by rw [List.append_nil]; exact s2) E2 ⟨rfl, ?_⟩ fun b hb => nomatch hb⟩
          refine ⟨fun H sH => ⟨xs, sH.sqT hs, by rw [ha.length]; exact Nat.le_refl _⟩, fun i H d sH hd => ?_, fun i F3 H d x H' s3 sH hd hy => ?_⟩
          · obtain ⟨x, hx, _⟩ := ha.get hd
            exact ⟨xs, x, sH.sqT hs, hx⟩
          · obtain ⟨rfl, hy⟩ := hy
            obtain ⟨x', hx', hz⟩ := ha.get hd
            have := hy xs ((s3.trans sH).sqT hs)
            rw [hx'] at this; cases this
            exact ⟨F3, Stp.refl sH, hz.mono s3⟩
      | _ => exact p1.elim
/-- lo, lo + 1, .. -/
def nums (lo : Int) (n : Nat) : List D := (List.range n).map fun (k : Nat) => D.int (lo + k)
theorem walks_range {F : Hp} (lo : Int) (n : Nat) : Walks c F (Itr lo n) (nums lo n) := by
  refine ⟨fun H sH => ?_, fun i H d sH hd => ?_, fun i F1 H d x H' _ sH hd hy => ?_⟩
  · show n ≤ (nums lo n).length
    simp [nums]
  · have h1 : i < (nums lo n).length := (List.getElem?_eq_some_iff.mp hd).1
    show i < n
    simpa [nums] using h1
  · obtain ⟨rfl, rfl⟩ := hy
    have h1 : i < n := by
      have := (List.getElem?_eq_some_iff.mp hd).1
      simpa [nums] using this
    have : (nums lo n)[i]? = some (D.int (lo + i)) := by simp [nums, h1]
    rw [this] at hd; cases hd
    exact ⟨F1, Stp.refl sH, .int⟩
def rangeOk (i : Int) : Bool := decide (-(2 ^ 62) ≤ i) && decide (i < 2 ^ 62)
def itRange1 (f : En → Out (List Rv)) : En → Out (List D) := fun e => (f e).bind fun rs e1 => match rs with
  | [.tm (.fz (.int j))] => if rangeOk j then .ok (nums 0 j.toNat) e1 else .no
  | _ => .no
def itRange2 (f : En → Out (List Rv)) : En → Out (List D) := fun e => (f e).bind fun rs e1 => match rs with
  | [.tm (.fz (.int i)), .tm (.fz (.int j))] => if rangeOk i && rangeOk j then .ok (nums i (j - i).toNat) e1 else .no
  | _ => .no
theorem rv_int {F H : Hp} {σ : L2.St} {fq : List Addr} {v : V} {i : Int} (h : RvR c mv F H σ fq v (.tm (.fz (.int i)))) : v = .int i ∧ fq = [] := by
  cases h with
  | tm h => cases h with
    | fz h => cases h; exact ⟨rfl, rfl⟩
theorem di_range1 {tg a : Expr} {f : En → Out (List Rv)} {p pos : Pos} (hg : Gl X "range") (hm : X.mg "range" = none) (ha : DA X c mv W [a] f) (hs : starEach [a] X.env = [(false, eval a X.env)] := by rfl) : DI X c mv W tg (.Call (.Name "range" p) [a] [] pos) (itRange1 f) :=
  pi_imp (pi_range1 hg hm ha hs) fun σ H R h => by
    obtain ⟨F, fp, e, s, E, p⟩ := h
    refine ⟨F, fp, e, s, E, Po.seq (R1 := rvsR c mv) p fun rs e1 F1 H1 f1 q1 vs _ s1 E1 r1 d1 p1 => ?_⟩
    split at p1
    · rename_i j _
      split at p1
      · rename_i hj
        cases r1 with
        | cons h1 h2 hd =>
          cases h2
          obtain ⟨rfl, rfl⟩ := rv_int h1
          simp only [rangeOk, Bool.and_eq_true, decide_eq_true_eq] at hj
          exact ⟨j, rfl, hj.1, hj.2, p1 F1 H1 f1 [] _ (by simpa using Stp.refl s1.fh) E1 ⟨rfl, walks_range 0 _⟩ fun b hb => nomatch hb⟩
      · exact p1.elim
    · exact p1.elim
theorem di_range2 {tg a b : Expr} {f : En → Out (List Rv)} {p pos : Pos} (hg : Gl X "range") (hm : X.mg "range" = none) (ha : DA X c mv W [a, b] f) (hs : starEach [a, b] X.env = [(false, eval a X.env), (false, eval b X.env)] := by rfl) (hs2 : starEach [b] X.env = [(false, eval b X.env)] := by rfl) :
    DI X c mv W tg (.Call (.Name "range" p) [a, b] [] pos) (itRange2 f) :=
  pi_imp (pi_range2 hg hm ha hs hs2) fun σ H R h => by
    obtain ⟨F, fp, e, s, E, p⟩ := h
    refine ⟨F, fp, e, s, E, Po.seq (R1 := rvsR c mv) p fun rs e1 F1 H1 f1 q1 vs _ s1 E1 r1 d1 p1 => ?_⟩
    split at p1
    · rename_i i j _
      split at p1
      · rename_i hj
        cases r1 with
        | cons h1 h2 hd =>
          cases h2 with
          | cons h2 h3 hd2 =>
            cases h3
            obtain ⟨rfl, rfl⟩ := rv_int h1
            obtain ⟨rfl, rfl⟩ := rv_int h2
            simp only [rangeOk, Bool.and_eq_true, decide_eq_true_eq] at hj
            exact ⟨i, j, rfl, ⟨hj.1.1, hj.1.2, hj.2.1, hj.2.2⟩, p1 F1 H1 f1 [] _ (by simpa using Stp.refl s1.fh) E1 ⟨rfl, walks_range i _⟩ fun b hb => nomatch hb⟩
      · exact p1.elim
    · exact p1.elim

/-! ### for, while -/
def loop (t : TgS) (g : SS) : List D → En → SO
  | [], e => .nx e
  | d :: ds, e => match t d e with
    | none => .no
    | some e1 => match g e1 with
      | .nx e2 => loop t g ds e2
      | .ct e2 => loop t g ds e2
      | .bk e2 => .nx e2
      | .rt o e2 => .rt o e2
      | .ex x e2 => .ex x e2
      | .no => .no
def sFor (s : En → Out (List D)) (t : TgS) (g : SS) : SS := fun e => (s e).so fun ds e1 => loop t g ds e1
theorem ds_for {tg iter : Expr} {body : List Stmt} {si : En → Out (List D)} {ts : List Nat} {gg : TG} {t : TgS} {g : SS} {pos : Pos} (hp : PassesOwn (model X.prog X.w) X.A X.env X.xe) (hc : X.calm = true) (hi : DI X c mv W tg iter si) (hg : DG X c mv tg ts gg t) (hb : DSs X c mv W body g)
    (hs : ∀ x, foldedSetIterable iter X.env x = pure x := by intro _; rfl) : DS X c mv W (.For tg iter body [] pos) (sFor si t g) := by
  refine ps_imp (ps_for hp hc hi hg.pg hb hs) fun D σ H h => then_ok (R := wkR c) (T := fun J H1 => ∃ W' : Nat → Nat → L2.St → Hp → Prop, (∃ m, W' 0 m σ H1) ∧ ∀ i m σ H, W' i m σ H →
    (J.stop i H ∧ D.nx σ H) ∨ (J.go i H ∧ ∃ N : L2.St → Hp → Prop, (∀ σ' H', N σ' H' → ∃ m', m' < m ∧ W' (i + 1) m' σ' H') ∧ ∀ x H', J.yld i H x H' → gg x σ H' fun σ2 H2 => rdS c mv W g { D with nx := N, ct := N, bk := D.nx } σ2 H2)) h fun F H fp fq e J ds s E rr d p => ?_
  obtain ⟨rfl, wk⟩ := rr
  rw [List.append_nil] at p
  refine ⟨fun i m σ' H' => m = ds.length - i ∧ i ≤ ds.length ∧ ∃ F' fp' e', Stp F H fp F' H' fp' ∧ EnvR c mv F' H' fp' σ' e' ∧ PoS c mv W F' H' fp' (loop t g (ds.drop i) e') D, ⟨ds.length, by simp, Nat.zero_le _, F, fp, e, Stp.refl s, E, by simpa using p⟩, ?_⟩
  rintro i m σ' H' ⟨rfl, hi, F', fp', e', st, E', p'⟩
  by_cases hlt : i < ds.length
  · refine .inr ⟨wk.go i H' ds[i] (st.ff.trans st.fh) (by simp [hlt]), fun σ2 H2 => ∃ F2 fp2 e2, Stp F H fp F2 H2 fp2 ∧ EnvR c mv F2 H2 fp2 σ2 e2 ∧ PoS c mv W F2 H2 fp2 (loop t g (ds.drop (i + 1)) e2) D,
      fun σ2 H2 ⟨F2, fp2, e2, a, b, k⟩ => ⟨ds.length - (i + 1), by omega, rfl, hlt, F2, fp2, e2, a, b, k⟩, fun x H2 hy => ?_⟩
    obtain ⟨F2, s2, hz⟩ := wk.yld i F' H' ds[i] x H2 st.ff st.fh (by simp [hlt]) hy
    obtain ⟨s3, _⟩ := s2.beside (fp := fp') E'.has
    rw [List.append_nil] at s3
    have E2 : EnvR c mv F2 H2 fp' σ' e' := E'.stp s2 fun b hb z => nomatch z
    rw [List.drop_eq_getElem_cons hlt] at p'
    simp only [loop] at p'
    cases z : t ds[i] e' with
    | none => rw [z] at p'; exact p'.elim
    | some e1 =>
      rw [z] at p'
      simp only at p'
      refine hg.ok F2 H2 fp' σ' e' e1 x ds[i] _ s2.fh E2 hz z fun f3 σ3 E3 m3 _ _ => ?_
      have s4 : Stp F H fp F2 H2 f3 := (st.trans s3).part (fun _ h => h) m3
      refine ⟨F2, f3, e1, s2.fh, E3, ?_⟩
      have p2 := PoS.step p' (s3.part (fun _ h => h) m3)
      cases z2 : g e1 with
      | nx e2 =>
        rw [z2] at p2
        exact fun F4 H4 f4 σ4 s5 E4 => ⟨F4, f4, e2, s4.trans s5, E4, PoS.step p2 s5⟩
      | ct e2 =>
        rw [z2] at p2
        exact fun F4 H4 f4 σ4 s5 E4 => ⟨F4, f4, e2, s4.trans s5, E4, PoS.step p2 s5⟩
      | bk e2 => rw [z2] at p2; exact p2
      | rt o e2 => rw [z2] at p2; exact p2
      | ex x e2 => rw [z2] at p2; exact p2
      | no => rw [z2] at p2; exact p2
  · have e1 : i = ds.length := by omega
    subst e1
    rw [List.drop_length] at p'
    exact .inl ⟨wk.stop H' (st.ff.trans st.fh), p' F' H' fp' σ' (Stp.refl st.fh) E'⟩
def turns (t : En → Out Bool) (g : SS) : Nat → SS
  | 0, _ => .no
  | n + 1, e => (t e).so fun b e1 => match b with
    | false => .nx e1
    | true => match g e1 with
      | .nx e2 => turns t g n e2
      | .ct e2 => turns t g n e2
      | .bk e2 => .nx e2
      | .rt o e2 => .rt o e2
      | .ex x e2 => .ex x e2
      | .no => .no
theorem ds_while {a : Expr} {body : List Stmt} {t : En → Out Bool} {g : SS} {pos : Pos} (n : Nat) (hp : PassesOwn (model X.prog X.w) X.A X.env X.xe) (ht : DT X c mv W a t) (hb : DSs X c mv W body g) : DS X c mv W (.While a body [] pos) (turns t g n) :=
  ps_imp (ps_while hp ht hb) fun D σ H ⟨F, fp, e, s, E, p⟩ => by
    refine ⟨fun m σ' H' => ∃ F' fp' e', Sub F' H' ∧ EnvR c mv F' H' fp' σ' e' ∧ PoS c mv W F' H' fp' (turns t g m e') D, ⟨n, F, fp, e, s, E, p⟩, ?_⟩
    rintro m σ' H' ⟨F', fp', e', s', E', p'⟩
    cases m with
    | zero => exact p'.elim
    | succ m =>
      refine then_ok (R := blR) (c := c) (mv := mv) (W := W) (D := D) ⟨F', fp', e', s', E', p'⟩ fun F2 H2 f2 q2 e2 b k s2 E2 r2 d2 p2 => ?_
      obtain ⟨rfl, rfl⟩ := r2
      rw [List.append_nil] at p2
      cases b with
      | false => exact iteF (p2 F2 H2 f2 σ' (Stp.refl s2) E2)
      | true =>
        refine iteT ⟨fun σ3 H3 => ∃ F3 fp3 e3, Sub F3 H3 ∧ EnvR c mv F3 H3 fp3 σ3 e3 ∧ PoS c mv W F3 H3 fp3 (turns t g m e3) D, fun σ3 H3 h3 => ⟨m, Nat.lt_succ_self _, h3⟩, F2, f2, e2, s2, E2, ?_⟩
        simp only at p2
        cases z2 : g e2 with
        | nx e3 =>
          rw [z2] at p2
          exact fun F4 H4 f4 σ4 s5 E4 => ⟨F4, f4, e3, s5.fh, E4, PoS.step p2 s5⟩
        | ct e3 =>
          rw [z2] at p2
          exact fun F4 H4 f4 σ4 s5 E4 => ⟨F4, f4, e3, s5.fh, E4, PoS.step p2 s5⟩
        | bk e3 => rw [z2] at p2; exact p2
        | rt o e3 => rw [z2] at p2; exact p2
        | ex x e3 => rw [z2] at p2; exact p2
        | no => rw [z2] at p2; exact p2

end

/-! ### a def by its body -/
def frame (m n : Nat) (ds : List D) : En := ⟨ds.map (fun d => some (.ow (.fz d))) ++ List.replicate (m - n) none, .fz .non⟩
def defSem (m n : Nat) (g : SS) (ds : List D) : Res := match g (frame m n ds) with
  | .rt o _ => .ok o
  | .nx _ => .ok (.fz .non)
  | .ex x _ => .ex x
  | _ => .no
theorem slots_start {c : Cs} {mv : V} {F H : Hp} (k : Nat) : ∀ {vs : List V} {ds : List D}, FzAll c F vs ds → SlR c mv F H [] (vs.map some ++ List.replicate k none) (ds.map (fun d => some (Sl.ow (.fz d))) ++ List.replicate k none)
  | _, _, .nil => by
    show SlR c mv F H [] (List.replicate k none) (List.replicate k none)
    induction k with
    | zero => exact .nil
    | succ k ih => exact .hole ih
  | _, _, .cons h r => SlR.ow (fp := []) (.fz h) (slots_start k r) fun b hb => nomatch hb
section
variable {P : Program} {w : World} {mg : Str → Option Value} {base : Heap} {c : Cs} {k : Nat} {f : Addr} {fd : FuncData} {x qual : Str} {st : Stmt} {N ps : List Str} {g : SS}
theorem defP (F : Fun c.K x qual st f fd) (S : FnScope N ps (defScope st))
    (body : ∀ (cdv : Value) (A : Around) (outer : List Env) (s : Shared) (H : Hp) (E : XK), Quiet (A.deeper (envOfC qual (defScope st) s.heap.objs.size f cdv)) → Room k (A.deeper (envOfC qual (defScope st) s.heap.objs.size f cdv)) →
      DSs (cxOf (L2.CX P w) P w c.K mg base N qual (defScope st) f cdv A outer s H E) c .non (fun cls d _ H => E cls d H) (defBody st) g) :
    FnG P w c.K mg base (k + 1) f fd ps (spP c ps.length (defSem N.length ps.length g)) := by
  refine defG F S (fun vs H Q E h => h.1) fun cdv A outer s H vs Q E gq r h => ⟨_, body cdv A outer s H E gq r, ?_⟩
  obtain ⟨hl, F0, ds, s0, z0, p⟩ := h
  refine ⟨F0, [], frame N.length ps.length ds, s0, ?_, ?_⟩
  · refine ⟨[], [], .fz .non, ?_, (fun b hb => nomatch hb), fun b => by simp⟩
    have q := slots_start (mv := .non) (H := H) (N.length - ps.length) z0
    unfold L2.start
    rw [hl]
    exact q
  · unfold defSem at p
    cases z : g (frame N.length ps.length ds) with
    | no => rw [z] at p; exact p
    | bk e => rw [z] at p; exact False.elim p
    | ct e => rw [z] at p; exact False.elim p
    | nx e =>
      rw [z] at p
      exact fun F1 H1 f1 σ1 s1 E1 => p F1 H1 [] .non (s1.part (fun _ h => h) fun b hb => nomatch hb) (.fz .non)
    | rt o e =>
      rw [z] at p
      exact fun F1 H1 f1 q1 σ1 v s1 E1 h1 d1 => p F1 H1 q1 v (s1.part (fun _ h => h) fun b hb => List.mem_append_right _ hb) h1
    | ex x e =>
      rw [z] at p
      exact fun F1 H1 f1 σ1 cls d s1 E1 xr => p F1 H1 cls d (s1.part (fun _ h => h) fun b hb => nomatch hb) xr
end
end DL

set_option Elab.async false
set_option linter.all false
set_option maxRecDepth 100000
set_option maxHeartbeats 2000000
/-! DL, part H: list comprehensions. -/
namespace DL
open PySem L2 PySem.Spec PyProof.Rows

def En.wipe (e : En) : List Nat → En
  | [] => e
  | v :: vs => (e.wipe vs).hole v
def W0 : WX := fun _ _ _ _ => False
section
variable {c : Cs} {mv : V} {F H : Hp} {fp : List Addr} {σ : L2.St} {e : En}
theorem SlR.dropS : ∀ {fr : List Addr} {σ : L2.St} {l : List (Option Sl)} {i : Nat}, SlR c mv F H fr σ l → ∃ fp, SlR c mv F H fp (σ.set i none) (l.set i none) ∧ ∀ b ∈ fp, b ∈ fr
  | _, _, _, _, .nil => ⟨[], .nil, fun b hb => nomatch hb⟩
  | _, _, _, 0, .hole (fp := fr) r => ⟨fr, .hole r, fun b h => h⟩
  | _, _, _, 0, .me (fp := fr) r => ⟨fr, .hole r, fun b h => h⟩
  | _, _, _, 0, .ow (fq := fr) _ r z => ⟨fr, .hole r, fun b h => List.mem_append_right _ h⟩
  | _, _, _, i + 1, .hole r => by
    obtain ⟨fp, h1, h2⟩ := SlR.dropS (i := i) r
    exact ⟨fp, .hole h1, h2⟩
  | _, _, _, i + 1, .me r => by
    obtain ⟨fp, h1, h2⟩ := SlR.dropS (i := i) r
    exact ⟨fp, .me h1, h2⟩
  | _, _, _, i + 1, .ow (fp := fa) h r z => by
    obtain ⟨fp, h1, h2⟩ := SlR.dropS (i := i) r
    exact ⟨fa ++ fp, .ow h h1 fun b hb q => z b hb (h2 b q), fun b hb => (List.mem_append.mp hb).elim (List.mem_append_left _) fun q => List.mem_append_right _ (h2 b q)⟩
theorem EnvR.dropS {i : Nat} (r : EnvR c mv F H fp σ e) : ∃ fp', EnvR c mv F H fp' (σ.set i none) (e.hole i) ∧ ∀ b ∈ fp', b ∈ fp := by
  obtain ⟨fm, fs, h1, h2, h3, h4⟩ := r.ex
  obtain ⟨f1, g1, g2⟩ := h2.dropS (i := i)
  refine ⟨fm ++ f1, ⟨fm, f1, h1, g1, fun b hb q => h3 b hb (g2 b q), fun b => List.mem_append⟩, fun b hb => ?_⟩
  rcases List.mem_append.mp hb with q | q
  · exact (h4 b).mpr (.inl q)
  · exact (h4 b).mpr (.inr (g2 b q))
theorem EnvR.wipeS (r : EnvR c mv F H fp σ e) : ∀ vs : List Nat, ∃ fp', EnvR c mv F H fp' (wipe σ vs) (e.wipe vs) ∧ ∀ b ∈ fp', b ∈ fp
  | [] => ⟨fp, r, fun _ h => h⟩
  | v :: vs => by
    obtain ⟨f1, E1, m1⟩ := EnvR.wipeS r vs
    obtain ⟨f2, E2, m2⟩ := E1.dropS (i := v)
    exact ⟨f2, E2, fun b hb => m1 b (m2 b hb)⟩
/-- the slots that are holes may hold anything -/
theorem SlR.any : ∀ {fr : List Addr} {σ σ' : L2.St} {l : List (Option Sl)}, SlR c mv F H fr σ l → σ'.length = σ.length → (∀ (i : Nat) (x : Sl), l[i]? = some (some x) → σ'[i]? = σ[i]?) → SlR c mv F H fr σ' l
  | _, _, [], _, .nil, _, _ => .nil
  | _, _, _ :: _, _, .nil, h, _ => by simp at h
  | _, _, [], _, .hole _, h, _ => by simp at h
  | _, _, [], _, .me _, h, _ => by simp at h
  | _, _, [], _, .ow _ _ _, h, _ => by simp at h
  | _, _, x :: xs, _, .hole r, h, k => .hole (SlR.any r (by simpa using h) fun i y q => by simpa using k (i + 1) y (by simpa using q))
  | _, _, x :: xs, _, .me r, h, k => by
    have := k 0 _ rfl
    simp at this
    subst this
    exact .me (SlR.any r (by simpa using h) fun i y q => by simpa using k (i + 1) y (by simpa using q))
  | _, _, x :: xs, _, .ow hh r z, h, k => by
    have := k 0 _ rfl
    simp at this
    subst this
    exact .ow hh (SlR.any r (by simpa using h) fun i y q => by simpa using k (i + 1) y (by simpa using q)) z
theorem EnvR.any {σ' : L2.St} (r : EnvR c mv F H fp σ e) (h : σ'.length = σ.length) (k : ∀ (i : Nat) (x : Sl), e.sl[i]? = some (some x) → σ'[i]? = σ[i]?) : EnvR c mv F H fp σ' e := by
  obtain ⟨fm, fs, h1, h2, h3, h4⟩ := r.ex
  exact ⟨fm, fs, h1, h2.any h k, h3, h4⟩
theorem wipe_holes {e : En} : ∀ {vs : List Nat} {i : Nat} {x : Sl}, (e.wipe vs).sl[i]? = some (some x) → i ∉ vs
  | [], i, x, _ => by simp
  | v :: vs, i, x, h => by
    have h' : ((e.wipe vs).sl.set v none)[i]? = some (some x) := h
    by_cases hv : v = i
    · subst hv
      by_cases hl : v < (e.wipe vs).sl.length
      · rw [List.getElem?_set_self hl] at h'; cases h'
      · rw [List.getElem?_eq_none (by simpa using hl)] at h'; cases h'
    · rw [List.getElem?_set_ne hv] at h'
      have := wipe_holes (vs := vs) h'
      simp only [List.mem_cons, not_or]
      exact ⟨fun q => hv q.symm, this⟩
theorem wipe_out {σ : L2.St} : ∀ {vs : List Nat} {i : Nat}, i ∉ vs → (wipe σ vs)[i]? = σ[i]?
  | [], i, _ => rfl
  | v :: vs, i, h => by
    unfold wipe
    rw [List.getElem?_set_ne (fun q => h (by rw [q]; exact List.mem_cons_self)), wipe_out fun q => h (List.mem_cons_of_mem _ q)]
theorem wipe_in {σ : L2.St} : ∀ {vs : List Nat} {i : Nat}, i ∈ vs → i < σ.length → (wipe σ vs)[i]? = some none
  | v :: vs, i, h, hl => by
    unfold wipe
    by_cases q : v = i
    · subst q
      rw [List.getElem?_set_self (by rw [wipe_length]; exact hl)]
    · rw [List.getElem?_set_ne q]
      exact wipe_in ((List.mem_cons.mp h).resolve_left fun z => q z.symm) hl
theorem wipe_eq {σ σ' : L2.St} {vs : List Nat} (hl : σ'.length = σ.length) (h : ∀ j, j ∉ vs → σ'[j]? = σ[j]?) : wipe σ' vs = wipe σ vs := by
  apply List.ext_getElem?
  intro i
  by_cases hi : i ∈ vs
  · by_cases hb : i < σ.length
    · rw [wipe_in hi hb, wipe_in hi (by rw [hl]; exact hb)]
    · rw [List.getElem?_eq_none (by rw [wipe_length]; omega), List.getElem?_eq_none (by rw [wipe_length]; omega)]
  · rw [wipe_out hi, wipe_out hi, h i hi]
end

/-- the turns of a comprehension -/
def cloop (t : TgS) (tt : En → Out Bool) (f : En → Out Rv) (vs : List Nat) : List D → List O → En → Out (List O)
  | [], acc, e => .ok acc e
  | d :: ds, acc, e => match t d e with
    | none => .no
    | some e1 => match tt e1 with
      | .ok true e2 => match f e2 with
        | .ok r e3 => match own e3 r with
          | none => .no
          | some (o, e4) => if acc.length < 1000000 then cloop t tt f vs ds (acc ++ [o]) (e4.wipe vs) else .no
        | _ => .no
      | .ok false e2 => cloop t tt f vs ds acc (e2.wipe vs)
      | _ => .no
def eComp (si : En → Out (List D)) (t : TgS) (tt : En → Out Bool) (f : En → Out Rv) (vs : List Nat) : En → Out Rv := fun e => (si e).bind fun ds e1 => (cloop t tt f vs ds [] (e1.wipe vs)).bind fun os e2 => .ok (.tm (.lst os)) e2
def tYesD : En → Out Bool := fun e => .ok true e
def DTs (X : Cx) (c : Cs) (mv : V) (W : WX) (ifs : List Expr) (f : En → Out Bool) : Prop := PTs X ifs (rd c mv blR W f)
section
variable {X : Cx} {c : Cs} {mv : V} {W : WX}
theorem dts_nil : DTs X c mv W [] tYesD := ⟨fun pins s σ H Q I ⟨F, fp, e, sb, E, p⟩ => (pts_nil (X := X)).run pins s σ H Q I (Po.bl sb E (fun _ h => h) p)⟩
theorem dts_one {a : Expr} {f : En → Out Bool} (h : DT X c mv W a f) : DTs X c mv W [a] f := pts_one h

theorem comp_ok {si : En → Out (List D)} {ts : List Nat} {g : TG} {t : TgS} {tt : En → Out Bool} {f : En → Out Rv} {vs : List Nat} {σ : L2.St} {H : Hp} {Q : VK} (tok : TgOk c mv ts g t) (hts : ∀ j ∈ ts, j ∈ vs)
    (h : rd c mv (rvR c mv) W (eComp si t tt f vs) σ H Q) : tLc (rd c mv (wkR c) W si) g (rd c mv blR W0 tt) (rd c mv (rvR c mv) W0 f) vs σ H Q := by
  obtain ⟨F, fp, e, s, E, p⟩ := h
  refine ⟨F, fp, e, s, E, Po.seq (R1 := wkR c) p fun ds e1 F1 H1 f1 q1 J _ s1 E1 r1 d1 p1 => ?_⟩
  obtain ⟨rfl, wk⟩ := r1
  rw [List.append_nil] at p1 s1
  intro Dn hDn
  have F1D : F1 Dn = none := by
    cases q : F1 Dn with
    | none => rfl
    | some u => have := s1.fh Dn u q; rw [hDn] at this; cases this
  -- what holds between two turns
  let Iv : Nat → Hp → Prop := fun i H' => ∃ (F' : Hp) (fp' fq' : List Addr) (e' : En) (ws : List V) (acc : List O), Stp F1 H1 f1 F' H' (fp' ++ (Dn :: fq')) ∧ EnvR c mv F' H' fp' (wipe σ vs) (e'.wipe vs) ∧ H' Dn = some (.lst ws) ∧ OwAll c F' H' fq' ws acc ∧
    F' Dn = none ∧ Dn ∉ fp' ∧ Dn ∉ fq' ∧ (∀ b ∈ fq', b ∉ fp') ∧ Po c mv (rvR c mv) W F' H' (fp' ++ (Dn :: fq')) σ ((cloop t tt f vs (ds.drop i) acc (e'.wipe vs)).bind fun os e2 => .ok (.tm (.lst os)) e2) Q
  refine ⟨fun i m H' => m = ds.length - i ∧ i ≤ ds.length ∧ Iv i H', ⟨ds.length, by simp, Nat.zero_le _, ?_⟩, ?_⟩
  · obtain ⟨f2, E2, m2⟩ := E1.wipeS vs
    have st : Stp F1 H1 f1 F1 (upd H1 Dn (.lst [])) (f2 ++ [Dn]) := (Stp.lay s1.fh hDn m2).part (fun _ h => h) fun b hb => by
      rcases List.mem_append.mp hb with h | h
      · exact List.mem_cons_of_mem _ h
      · rw [List.mem_singleton] at h; subst h; exact List.mem_cons_self
    have st0 : Stp F1 H1 [] F1 (upd H1 Dn (.lst [])) [Dn] := Stp.lay s1.fh hDn fun _ h => h
    refine ⟨F1, f2, [], e1, [], [], st, E2.stp st0 (fun b hb z => nomatch z), upd_same, .nil, F1D, fun q => (E2.has _ q).2 hDn, (fun q => nomatch q), (fun b hb => nomatch hb), ?_⟩
    rw [List.drop_zero]
    exact Po.step p1 st
  · rintro i m H' ⟨rfl, hi', F', fp', fq', e', ws, acc, st, E', hD, ha, FD, n1, n2, dj, p'⟩
    have outE : ∀ {F2 H2 : Hp} {fp2 : List Addr} {e2 : En}, EnvR c mv F2 H2 fp2 (wipe σ vs) (e2.wipe vs) → EnvR c mv F2 H2 fp2 σ (e2.wipe vs) := fun {F2 H2 fp2 e2} r =>
      r.any (wipe_length σ vs).symm fun j x hx => (wipe_out (wipe_holes hx)).symm
    by_cases hlt : i < ds.length
    · refine .inr ⟨wk.go i H' ds[i] (st.ff.trans st.fh) (by simp [hlt]), Iv (i + 1), fun H2 h2 => ⟨ds.length - (i + 1), by omega, rfl, hlt, h2⟩, fun x H2 hy => ?_⟩
      obtain ⟨F2, s2, hz⟩ := wk.yld i F' H' ds[i] x H2 st.ff st.fh (by simp [hlt]) hy
      have held : ∀ b ∈ fp' ++ (Dn :: fq'), F' b = none ∧ H' b ≠ none := fun b hb => by
        rcases List.mem_append.mp hb with h | h
        · exact E'.has b h
        · rcases List.mem_cons.mp h with h | h
          · subst h; exact ⟨FD, by rw [hD]; intro q; cases q⟩
          · exact ha.has b h
      obtain ⟨s3, _⟩ := s2.beside (fp := fp' ++ (Dn :: fq')) held
      rw [List.append_nil] at s3
      have E2 : EnvR c mv F2 H2 fp' (wipe σ vs) (e'.wipe vs) := E'.stp s2 fun b hb z => nomatch z
      have ha2 : OwAll c F2 H2 fq' ws acc := s2.owAll ha fun b hb z => nomatch z
      have hD2 : H2 Dn = some (.lst ws) := s2.keep Dn _ hD fun z => nomatch z
      have FD2 : F2 Dn = none := s2.newF Dn (by rw [hD]; intro q; cases q) (fun z => nomatch z) FD (by intro xs q; rw [hD] at q; cases q)
      rw [List.drop_eq_getElem_cons hlt] at p'
      simp only [cloop] at p'
      cases z : t ds[i] (e'.wipe vs) with
      | none => rw [z] at p'; exact p'.elim
      | some e2 =>
        rw [z] at p'
        simp only at p'
        refine tok F2 H2 fp' _ _ e2 x ds[i] _ s2.fh E2 hz z fun f3 σ3 E3 m3 l3 j3 => ?_
        have wq : wipe σ3 vs = wipe σ vs := by
          have a1 : wipe σ3 vs = wipe (wipe σ vs) vs := wipe_eq l3 fun j hj => j3 j fun q => hj (hts j q)
          have a2 : wipe (wipe σ vs) vs = wipe σ vs := wipe_eq (wipe_length σ vs) fun j hj => wipe_out hj
          exact a1.trans a2
        refine ⟨wq, F2, f3, e2, s2.fh, E3, ?_⟩
        -- the list beside
        have sub3 : ∀ b ∈ f3 ++ (Dn :: fq'), b ∈ fp' ++ (Dn :: fq') := fun b hb => (List.mem_append.mp hb).elim (fun q => List.mem_append_left _ (m3 b q)) (List.mem_append_right _)
        have p2 := Po.step p' (s3.part (fun _ h => h) sub3)
        have st2 : Stp F1 H1 f1 F2 H2 (f3 ++ (Dn :: fq')) := (st.trans s3).part (fun _ h => h) sub3
        have heldQ : ∀ b ∈ Dn :: fq', F2 b = none ∧ H2 b ≠ none := fun b hb => by
          rcases List.mem_cons.mp hb with h | h
          · subst h; exact ⟨FD2, by rw [hD2]; intro q; cases q⟩
          · exact ha2.has b h
        have djQ : ∀ b ∈ Dn :: fq', b ∉ f3 := fun b hb q => by
          rcases List.mem_cons.mp hb with h | h
          · subst h; exact n1 (m3 _ q)
          · exact dj b h (m3 _ q)
        cases z2 : tt e2 with
        | no => rw [z2] at p2; exact p2.elim
        | ex y e3 => rw [z2] at p2; exact p2.elim
        | ok b e3 =>
          rw [z2] at p2
          intro F4 H4 f4 q4 b' s4 E4 r4 d4
          obtain ⟨rfl, rfl⟩ := r4
          rw [List.append_nil] at s4
          have s4' := s4.more (fq := Dn :: fq') fun b hb => (heldQ b hb).2
          have st4 := st2.trans s4'
          have p4 := Po.step p2 s4'
          have ha4 : OwAll c F4 H4 fq' ws acc := s4.owAll ha2 fun b hb q => djQ b (List.mem_cons_of_mem _ hb) q
          have hD4 : H4 Dn = some (.lst ws) := s4.keep Dn _ hD2 (djQ Dn List.mem_cons_self)
          have FD4 : F4 Dn = none := s4.newF Dn (heldQ Dn List.mem_cons_self).2 (djQ Dn List.mem_cons_self) FD2 (by intro xs q; rw [hD2] at q; cases q)
          have ap4 := s4.apart (fun b hb => (heldQ b hb).2) djQ
          cases b' with
          | false =>
            refine iteF ?_
            simp only at p4
            obtain ⟨f5, E5, m5⟩ := E4.wipeS vs
            rw [wq] at E5
            have sub5 : ∀ b ∈ f5 ++ (Dn :: fq'), b ∈ f4 ++ (Dn :: fq') := fun b hb => (List.mem_append.mp hb).elim (fun q => List.mem_append_left _ (m5 b q)) (List.mem_append_right _)
            exact ⟨F4, f5, fq', e3, ws, acc, st4.part (fun _ h => h) sub5, E5, hD4, ha4, FD4, fun q => ap4 Dn List.mem_cons_self (m5 _ q), n2, fun b hb q => ap4 b (List.mem_cons_of_mem _ hb) (m5 _ q),
              Po.step p4 ((Stp.refl s4.fh).part (fun _ h => h) sub5)⟩
          | true =>
            refine iteT ⟨F4, f4, e3, s4.fh, E4, ?_⟩
            simp only at p4
            cases z3 : f e3 with
            | no => rw [z3] at p4; exact p4.elim
            | ex y e5 => rw [z3] at p4; exact p4.elim
            | ok r e5 =>
              rw [z3] at p4
              simp only at p4
              intro F6 H6 f6 q6 y s6 E6 r6 d6
              have heldR : ∀ b ∈ Dn :: fq', F4 b = none ∧ H4 b ≠ none := fun b hb => by
                rcases List.mem_cons.mp hb with h | h
                · subst h; exact ⟨FD4, by rw [hD4]; intro q; cases q⟩
                · exact ha4.has b h
              have s6' := s6.more (fq := Dn :: fq') fun b hb => (heldR b hb).2
              have p6 := Po.step p4 s6'
              have st6 := st4.trans s6'
              have ha6 : OwAll c F6 H6 fq' ws acc := s6.owAll ha4 fun b hb q => ap4 b (List.mem_cons_of_mem _ hb) q
              have hD6 : H6 Dn = some (.lst ws) := s6.keep Dn _ hD4 (ap4 Dn List.mem_cons_self)
              have FD6 : F6 Dn = none := s6.newF Dn (heldR Dn List.mem_cons_self).2 (ap4 Dn List.mem_cons_self) FD4 (by intro xs q; rw [hD4] at q; cases q)
              have ap6 := s6.apart (fun b hb => (heldR b hb).2) ap4
              cases z4 : own e5 r with
              | none => rw [z4] at p6; exact p6.elim
              | some yy =>
                obtain ⟨o, e6⟩ := yy
                rw [z4] at p6
                simp only at p6
                by_cases hsz : acc.length < 1000000
                · rw [if_pos hsz] at p6
                  obtain ⟨F7, f7, q7, s7, k7, E7, d7, m7, w7⟩ := own_ok s6.fh E6 r6 d6 z4
                  have s7' := s7.more (fq := Dn :: fq') fun b hb => by
                    rcases List.mem_cons.mp hb with h | h
                    · subst h; rw [hD6]; intro q; cases q
                    · exact (ha6.has b h).2
                  have st7 := st6.trans s7'
                  have p7 := Po.step p6 s7'
                  have ha7 : OwAll c F7 H6 fq' ws acc := s7.owAll ha6 fun b hb q => ap6 b (List.mem_cons_of_mem _ hb) q
                  have FD7 : F7 Dn = none := s7.newF Dn (by rw [hD6]; intro q; cases q) (ap6 Dn List.mem_cons_self) FD6 (by intro xs q; rw [hD6] at q; cases q)
                  have ap7 := s7.apart (fq := Dn :: fq') (fun b hb => by
                    rcases List.mem_cons.mp hb with h | h
                    · subst h; rw [hD6]; intro q; cases q
                    · exact (ha6.has b h).2) ap6
                  obtain ⟨f8, E8, m8⟩ := E7.wipeS vs
                  rw [wq] at E8
                  have hl : ws.length < sizeLine := by rw [ha7.length]; exact Nat.lt_of_lt_of_le hsz (by decide)
                  -- the new item comes behind
                  have s8 : Stp F7 H6 ((f7 ++ q7) ++ (Dn :: fq')) F7 (upd H6 Dn (.lst (ws ++ [y]))) (f8 ++ (Dn :: (fq' ++ q7))) :=
                    (Stp.chg s7.fh (List.mem_append_right _ List.mem_cons_self) FD7).part (fun _ h => h) fun b hb => by
                      simp only [List.mem_append, List.mem_cons] at hb ⊢
                      rcases hb with h | h | h | h
                      · exact .inl (.inl (m8 b h))
                      · exact .inr (.inl h)
                      · exact .inr (.inr h)
                      · exact .inl (.inr h)
                  have s9 : Stp F7 H6 [Dn] F7 (upd H6 Dn (.lst (ws ++ [y]))) [Dn] := Stp.chg s7.fh (List.mem_singleton.mpr rfl) FD7
                  have out1 : ∀ b ∈ f7 ++ q7, b ∉ [Dn] := fun b hb z => by
                    rw [List.mem_singleton] at z; subst z
                    exact ap7 _ List.mem_cons_self hb
                  have kq : OwAll c F7 H6 (fq' ++ (q7 ++ [])) (ws ++ [y]) (acc ++ [o]) := ha7.append (.cons k7 .nil fun b hb z => nomatch z) fun b hb z => ap7 b (List.mem_cons_of_mem _ hb) (List.mem_append_right _ (by simpa using z))
                  rw [List.append_nil] at kq
                  have inQ : ∀ b ∈ fq' ++ q7, b ∉ [Dn] := fun b hb z => by
                    rcases List.mem_append.mp hb with h | h
                    · rw [List.mem_singleton] at z; subst z; exact n2 h
                    · exact out1 b (List.mem_append_right _ h) z
                  refine ⟨ws, hD6, hl, F7, f8, fq' ++ q7, e6, ws ++ [y], acc ++ [o], st7.trans s8, E8.stp s9 fun b hb => out1 b (List.mem_append_left _ (m8 b hb)), upd_same, s9.owAll kq inQ, FD7,
                    fun q => ap7 Dn List.mem_cons_self (List.mem_append_left _ (m8 _ q)), fun q => inQ Dn q (List.mem_singleton.mpr rfl), fun b hb q => ?_, Po.step p7 s8⟩
                  rcases List.mem_append.mp hb with h | h
                  · exact ap7 b (List.mem_cons_of_mem _ h) (List.mem_append_left _ (m8 _ q))
                  · exact d7 b h (m8 _ q)
                · rw [if_neg hsz] at p6; exact p6.elim
    · have e1 : i = ds.length := by omega
      subst e1
      rw [List.drop_length] at p'
      refine .inl ⟨wk.stop H' (st.ff.trans st.fh), ?_⟩
      simp only [cloop, Out.bind] at p'
      refine p' F' H' fp' (Dn :: fq') (.ref Dn) (Stp.refl st.fh) (outE E') (.tm (.lst hD FD n2 ha)) fun b hb => ?_
      rcases List.mem_cons.mp hb with h | h
      · subst h; exact n1
      · exact dj b h
section
variable {elt tg iter : Expr} {ifs : List Expr} {scope : Scope} {own' : List (Str × Nat)} {pos : Pos} {si : En → Out (List D)} {ts : List Nat} {g : TG} {t : TgS} {tt : En → Out Bool} {f : En → Out Rv}
theorem de_comp (hc : X.calm = true) (hN : X.N.Nodup) (hi : DI X c mv W tg iter si) (ok : BlkOk X.N X.env.scope scope own')
    (hg : ∀ (s : Shared) (H : Hp) (C : Addr) (cl : List (Str × Addr)) (fp : List Addr), DG (X.blk s H scope (compEnvC scope cl C X.env) fp) c mv tg ts g t)
    (ht : ∀ (s : Shared) (H : Hp) (C : Addr) (cl : List (Str × Addr)) (fp : List Addr), DTs (X.blk s H scope (compEnvC scope cl C X.env) fp) c mv W0 ifs tt)
    (he : ∀ (s : Shared) (H : Hp) (C : Addr) (cl : List (Str × Addr)) (fp : List Addr), DE (X.blk s H scope (compEnvC scope cl C X.env) fp) c mv W0 elt f)
    (tok : TgOk c mv ts g t) (hts : ∀ j ∈ ts, j ∈ own'.map (·.2)) (hs : ∀ x, foldedSetIterable iter X.env x = pure x := by intro _; rfl) :
    DE X c mv W (.ListComp elt [⟨tg, iter, ifs, 0⟩] scope pos) (eComp si t tt f (own'.map (·.2))) :=
  pe_imp (pe_lc hc hN hi ok (fun s H C cl fp => (hg s H C cl fp).pg) ht he hs) fun σ H Q h => comp_ok tok hts h
/-- name = [..], the name a local -/
theorem ds_setLc {i : Nat} {y : Str} {py spos : Pos} (hc : X.calm = true) (hN : X.N.Nodup) (hy : X.N[i]? = some y) (hyl : X.env.scope.names.lookup y = some .local) (hi : DI X c mv W tg iter si) (ok : BlkOk X.N X.env.scope scope own')
    (hg : ∀ (s : Shared) (H : Hp) (C : Addr) (cl : List (Str × Addr)) (fp : List Addr), DG (X.blk s H scope (compEnvC scope cl C X.env) fp) c mv tg ts g t)
    (ht : ∀ (s : Shared) (H : Hp) (C : Addr) (cl : List (Str × Addr)) (fp : List Addr), DTs (X.blk s H scope (compEnvC scope cl C X.env) fp) c mv W0 ifs tt)
    (he : ∀ (s : Shared) (H : Hp) (C : Addr) (cl : List (Str × Addr)) (fp : List Addr), DE (X.blk s H scope (compEnvC scope cl C X.env) fp) c mv W0 elt f)
    (tok : TgOk c mv ts g t) (hts : ∀ j ∈ ts, j ∈ own'.map (·.2)) (hsw : swapsWith (.ListComp elt [⟨tg, iter, ifs, 0⟩] scope pos) (some (.Name y py)) spos.line X.env = pure true) (hs : ∀ x, foldedSetIterable iter X.env x = pure x := by intro _; rfl) :
    DS X c mv W (.Assign [.Name y py] (.ListComp elt [⟨tg, iter, ifs, 0⟩] scope pos) spos) (sSet i (eComp si t tt f (own'.map (·.2)))) :=
  ps_imp (ps_setLc hc hN hy hyl hsw hi ok (fun s H C cl fp => (hg s H C cl fp).pg) ht he hs) fun D σ H h => comp_ok (W := W) tok hts (then_ok (R := rvR c mv) (T := fun v H1 => D.nx (σ.set i (some v)) H1) h fun F H fp fq e v r s E rr d p => by
    cases z : own e r with
    | none => rw [z] at p; exact p.elim
    | some y =>
      obtain ⟨o, e2⟩ := y
      rw [z] at p
      obtain ⟨F1, f1, q1, s1, k1, E1, d1, m1, n1⟩ := own_ok s E rr d z
      obtain ⟨f2, E2, m2⟩ := E1.put (i := i) k1 d1
      exact p F1 H f2 _ (s1.part (fun _ h => h) m2) E2)
end
end
end DL

set_option Elab.async false
set_option linter.all false
set_option maxRecDepth 100000
set_option maxHeartbeats 2000000
/-! DL, part F: operators and built-ins by trees. -/
namespace DL
open PySem L2 PySem.Spec PyProof.Rows

/-! ### arithmetic -/
def most : Nat := 10000000
def addD : List D → Option O
  | [.int i, .int j] => some (.fz (.int (i + j)))
  | [.str x, .str y] => if x.length + y.length ≤ most then some (.fz (.str (x ++ y))) else none
  | [.tup false xs, .tup false ys] => if xs.length + ys.length ≤ most then some (.fz (.tup false (xs ++ ys))) else none
  | [.lst xs, .lst ys] => if xs.length + ys.length ≤ most then some (.lst ((xs ++ ys).map .fz)) else none
  | _ => none
def subD : List D → Option D
  | [.int i, .int j] => some (.int (i - j))
  | _ => none
def mulD : List D → Option D
  | [.int i, .int j] => if i.natAbs < 2 ^ 64 ∨ j.natAbs < 2 ^ 64 then some (.int (i * j)) else none
  | [.str x, .int k] => if k.natAbs ≤ 100000 ∧ x.length * k.toNat ≤ most then some (.str ⟨(List.replicate k.toNat x.cps).foldl (· ++ ·) #[]⟩) else none
  | _ => none
def divD : List D → Option D
  | [.int i, .int j] => if 0 < j ∧ j < 1073741824 then some (.int (i / j)) else none
  | _ => none
def modD : List D → Option D
  | [.int i, .int j] => if 0 < j then some (.int (i % j)) else none
  | _ => none
def powD : List D → Option D
  | [.int i, .int j] => if 0 ≤ j ∧ j ≤ 1000000 ∧ i.natAbs < 2 ^ 64 then some (.int (i ^ j.toNat)) else none
  | _ => none
def negD : List D → Option D
  | [.int i] => some (.int (-i))
  | _ => none
theorem most_line {n : Nat} (h : n ≤ most) : n ≤ sizeLine := Nat.le_trans h (by decide)
section
variable {X : Cx}
def rCatL (K : PySem.W.Frag) : R2 := fun x y H Q => ∃ a b xs ys, x = .ref a ∧ y = .ref b ∧ SqL K H a xs ∧ SqL K H b ys ∧ xs.length + ys.length ≤ sizeLine ∧ ∀ p, H p = none → Q (.ref p) (upd H p (.lst (xs ++ ys)))
theorem op_catL : OpR X (binaryOp .Add) (rCatL X.K) := by
  intro pins s σ H x y v u Q I rx ry h
  obtain ⟨a, b, xs, ys, rfl, rfl, ha, hb, hz, q⟩ := h
  cases rx
  cases ry
  obtain ⟨its, r1, ⟨⟨c1, dd1, t1, sl1⟩, n1, ho, hc, hd, ht⟩, _⟩ := I.list ha
  obtain ⟨its2, r2, ⟨⟨c2, dd2, t2, sl2⟩, n2, ho2, hc2, hd2, ht2⟩, _⟩ := I.list hb
  simp only at hc hd ht hc2 hd2 ht2
  subst hc hd ht hc2 hd2 ht2
  have e : its.toArray ++ its2.toArray = (its ++ its2).toArray := by simp
  refine concat_meets ⟨_, ho, rfl⟩ ⟨_, ho2, rfl⟩ noFill_list_add seq_list_add PySem.F.slot_list_add PySem.F.entry_list_add (PySem.F.args_list_add_2 _ _)
    (list_addW a b its.toArray its2.toArray n1 n2 none none sl1 sl2 (by rw [List.size_toArray, List.size_toArray, ← r1.length, ← r2.length]; exact hz)) ⟨ho, ho2, ?_⟩
  rw [e]
  exact ⟨.ref _, _, I.lnew (t' := s.toks) (r1.append r2) (by rw [List.length_append]; exact hz), rfl, q _ I.fresh⟩
theorem op_mulS : OpR X (binaryOp .Mult) (fun x y H Q => ∃ z k, x = .str z ∧ y = .int k ∧ k.natAbs ≤ 100000 ∧ z.length * k.toNat ≤ most ∧ Q (.str ⟨(List.replicate k.toNat z.cps).foldl (· ++ ·) #[]⟩) H) := by
  intro pins s σ H x y v u Q I rx ry h
  obtain ⟨z, k, rfl, rfl, hk, hz, q⟩ := h
  obtain ⟨t, rfl⟩ := rx
  obtain ⟨t', rfl⟩ := ry
  have hln : z.length * k.toNat ≤ sizeLine := most_line hz
  refine PySem.P.mul_str ?_ (fun h1 h2 => ?_) (fun h1 h2 => ?_) ?_
  · rw [decide_eq_false (by omega), decide_eq_false (by omega)]; rfl
  · have h2 : (k == 1) = false ∧ (z.length == 0) = false := by simpa using h2
    intro h3
    have h4 : (0 : Int) < k := by omega
    have h5 := (Int.lt_iff_add_one_le.mp h3)
    have h6 : ((2 ^ 63 - 1 : Int) / k) < (z.length : Int) := h3
    have h7 := (Int.ediv_lt_iff_lt_mul h4).mp h6
    have h8 : ((z.length : Int) * k) = ((z.length * k.toNat : Nat) : Int) := by rw [Int.natCast_mul, Int.toNat_of_nonneg (by omega)]
    rw [h8] at h7
    have h9 : z.length * k.toNat ≤ 10000000 := hz
    omega
  · refine decide_eq_false ?_
    omega
  · split
    · rename_i h1
      have e : k.toNat = 0 := by omega
      rw [e] at q
      exact ⟨by decide, ⟨.str ⟨#[]⟩, H, I.tok _, ⟨_, rfl⟩, q⟩⟩
    · rename_i h1
      split
      · rename_i h2
        refine ⟨.str z, H, I, ⟨_, rfl⟩, ?_⟩
        have e : (⟨(List.replicate k.toNat z.cps).foldl (· ++ ·) #[]⟩ : Str) = z := by
          have h2' : k = 1 ∨ z.length = 0 := by simpa using h2
          rcases h2' with e | e
          · subst e; cases z; simp
          · obtain ⟨cs⟩ := z
            have : cs = #[] := Array.eq_empty_of_size_eq_zero e
            subst this
            have : ∀ n : Nat, List.foldl (fun x1 x2 : Array Nat => x1 ++ x2) #[] (List.replicate n #[]) = #[] := fun n => by
              induction n with
              | zero => rfl
              | succ n ih => rw [List.replicate_succ, List.foldl_cons]; simpa using ih
            rw [this]
        rw [e] at q
        exact q
      · refine ⟨?_, ⟨.str _, H, I.tok _, ⟨_, rfl⟩, q⟩⟩
        have key : ∀ (n : Nat) (acc : Array Nat), (List.foldl (fun x1 x2 : Array Nat => x1 ++ x2) acc (List.replicate n z.cps)).size = acc.size + z.cps.size * n := fun n => by
          induction n with
          | zero => intro acc; simp
          | succ n ih => intro acc; rw [List.replicate_succ, List.foldl_cons, ih, Array.size_append, Nat.mul_succ]; omega
        show (List.foldl (fun x1 x2 : Array Nat => x1 ++ x2) #[] (List.replicate k.toNat z.cps)).size ≤ sizeLine
        rw [key]
        simpa [Str.length] using hln
end
section
variable {X : Cx} {c : Cs}
theorem two_int {F : Hp} {vs : List V} {i j : Int} (h : FzAll c F vs [.int i, .int j]) : vs = [.int i, .int j] := by
  cases h with
  | cons h1 h2 =>
    cases h1
    cases h2 with
    | cons h2 h3 => cases h2; cases h3; rfl
theorem vop_sub : VOp c (R2of (rI0 fun i j => .int (i - j))) subD := fun F H vs ds d Q s h e k => by
  unfold subD at e
  split at e
  · cases e
    cases two_int h
    exact ⟨_, _, rfl, _, _, rfl, rfl, k _ fun _ => .int⟩
  · cases e
theorem natAbs_64 {i : Int} (h : i.natAbs < 2 ^ 64) : -(2 ^ 64) < i ∧ i < 2 ^ 64 := by omega
theorem vop_mul : VOp c (R2of (fun x y H Q => rI CMul (fun i j => .int (i * j)) x y H Q ∨ ∃ z k, x = .str z ∧ y = .int k ∧ k.natAbs ≤ 100000 ∧ z.length * k.toNat ≤ most ∧ Q (.str ⟨(List.replicate k.toNat z.cps).foldl (· ++ ·) #[]⟩) H)) mulD := fun F H vs ds d Q s h e k => by
  unfold mulD at e
  split at e
  · split at e
    · rename_i hb
      cases e
      cases two_int h
      exact ⟨_, _, rfl, .inl ⟨_, _, rfl, rfl, hb.imp natAbs_64 natAbs_64, k _ fun _ => .int⟩⟩
    · cases e
  · split at e
    · rename_i hb
      cases e
      cases h with
      | cons h1 h2 =>
        cases h1
        cases h2 with
        | cons h2 h3 => cases h2; cases h3; exact ⟨_, _, rfl, .inr ⟨_, _, rfl, rfl, hb.1, hb.2, k _ fun _ => .str⟩⟩
    · cases e
  · cases e
theorem vop_div : VOp c (R2of (rI CDiv fun i j => .int (i / j))) divD := fun F H vs ds d Q s h e k => by
  unfold divD at e
  split at e
  · split at e
    · rename_i hb
      cases e
      cases two_int h
      exact ⟨_, _, rfl, _, _, rfl, rfl, hb, k _ fun _ => .int⟩
    · cases e
  · cases e
theorem vop_mod : VOp c (R2of (rI (fun _ j => 0 < j) fun i j => .int (i % j))) modD := fun F H vs ds d Q s h e k => by
  unfold modD at e
  split at e
  · split at e
    · rename_i hb
      cases e
      cases two_int h
      exact ⟨_, _, rfl, _, _, rfl, rfl, hb, k _ fun _ => .int⟩
    · cases e
  · cases e
theorem vop_pow : VOp c (R2of (rI CPow fun i j => .int (i ^ j.toNat))) powD := fun F H vs ds d Q s h e k => by
  unfold powD at e
  split at e
  · split at e
    · rename_i hb
      cases e
      cases two_int h
      exact ⟨_, _, rfl, _, _, rfl, rfl, hb, k _ fun _ => .int⟩
    · cases e
  · cases e
def rAddD (K : PySem.W.Frag) : R2 := fun x y H Q => rI0 (fun i j => .int (i + j)) x y H Q ∨ (∃ i j, x = .str i ∧ y = .str j ∧ i.length + j.length ≤ sizeLine ∧ Q (.str (i ++ j)) H) ∨ rCatA K x y H Q ∨ rCatL K x y H Q
theorem op_addD : OpR X (binaryOp .Add) (rAddD X.K) := op_add.or (op_add_str.or (op_catA.or op_catL))
/-- a new list of frozen things -/
theorem new_lst {F H : Hp} {vs : List V} {ds : List D} {Q : VK} (s : Sub F H) (h : FzAll c F vs ds) (k : ∀ F' H' fq v, Stp F H [] F' H' fq → Ow c F' H' fq v (.lst (ds.map .fz)) → Q v H') : ∀ p, H p = none → Q (.ref p) (upd H p (.lst vs)) := fun p hp => by
  have st : Stp F H [] F (upd H p (.lst vs)) [p] := Stp.lay s hp fun _ h => h
  have Fp : F p = none := by
    cases q : F p with
    | none => rfl
    | some u => have := s p u q; rw [hp] at this; cases this
  exact k F _ [p] _ st (.lst upd_same Fp (fun z => nomatch z) (FzAll.ow (h.mono st.ff)))
theorem new_tup {F H : Hp} {vs : List V} {ds : List D} {Q : VK} (s : Sub F H) (h : FzAll c F vs ds) (k : ∀ F' H' fq v, Stp F H [] F' H' fq → Ow c F' H' fq v (.fz (.tup false ds)) → Q v H') : ∀ p, H p = none → Q (.ref p) (upd H p (.tup vs)) := fun p hp => by
  have st : Stp F H [] F (upd H p (.tup vs)) [p] := Stp.lay s hp fun _ h => h
  have Fp : F p = none := by
    cases q : F p with
    | none => rfl
    | some u => have := s p u q; rw [hp] at this; cases this
  have ic : Stp F (upd H p (.tup vs)) [p] (ice F (upd H p (.tup vs)) [p]) (upd H p (.tup vs)) [] :=
    Stp.ice st.fh (fun b hb => by rw [List.mem_singleton] at hb; subst hb; exact Fp) (fun b hb => hb) fun b hb => nomatch hb
  have st2 := st.trans ic
  exact k _ _ [] _ st2 (.fz (.tup (SqT.of ((ice_in (List.mem_singleton.mpr rfl)).trans upd_same)) (tupN ((ice_in (List.mem_singleton.mpr rfl)).trans upd_same)) (h.mono st2.ff)))
theorem fop_add (hK : X.K = c.K) : FOp c (R2of (rAddD X.K)) addD := fun F H vs ds o Q s h e k => by
  rw [hK]
  unfold addD at e
  split at e
  · cases e
    cases two_int h
    exact ⟨_, _, rfl, .inl ⟨_, _, rfl, rfl, k F H [] _ (Stp.refl s) (.fz .int)⟩⟩
  · split at e
    · rename_i hb
      cases e
      cases h with
      | cons h1 h2 =>
        cases h1
        cases h2 with
        | cons h2 h3 => cases h2; cases h3; exact ⟨_, _, rfl, .inr (.inl ⟨_, _, rfl, rfl, most_line hb, k F H [] _ (Stp.refl s) (.fz .str)⟩)⟩
    · cases e
  · rename_i xs ys
    split at e
    · rename_i hb
      cases e
      cases h with
      | cons h1 h2 =>
        cases h1 with
        | @tup a ws _ ds hs hk1 ha =>
          cases h2 with
          | cons h2 h3 =>
            cases h2 with
            | @tup b us _ es hs2 hk2 hb2 =>
              cases h3
              refine ⟨_, _, rfl, .inr (.inr (.inl ⟨a, b, ws, us, rfl, rfl, s.sqT hs, s.sqT hs2, by rw [ha.length, hb2.length]; exact most_line hb, fun e => ?_, fun _ e => ?_, fun _ _ => new_tup s (ha.append hb2) k⟩))⟩
              · subst e; cases ha; exact k F H [] _ (Stp.refl s) (.fz (.tup hs2 hk2 hb2))
              · subst e; cases hb2; rw [List.append_nil] at k; exact k F H [] _ (Stp.refl s) (.fz (.tup hs hk1 ha))
    · cases e
  · rename_i xs ys
    split at e
    · rename_i hb
      cases e
      cases h with
      | cons h1 h2 =>
        cases h1 with
        | @lst a ws ds hs ha =>
          cases h2 with
          | cons h2 h3 =>
            cases h2 with
            | @lst b us es hs2 hb2 =>
              cases h3
              exact ⟨_, _, rfl, .inr (.inr (.inr ⟨a, b, ws, us, rfl, rfl, s.sqL hs, s.sqL hs2, by rw [ha.length, hb2.length]; exact most_line hb, new_lst s (ha.append hb2) k⟩))⟩
    · cases e
  · cases e
section
variable {mv : V} {W : WX} {a b : Expr} {f g : En → Out Rv} {pos : Pos}
theorem de_add (hK : X.K = c.K) (ha : DE X c mv W a f) (hb : DE X c mv W b g) : DE X c mv W (.BinOp a .Add b pos) (eF addD (two f g)) := de_opF op_addD (fop_add hK) ha hb
theorem de_sub (ha : DE X c mv W a f) (hb : DE X c mv W b g) : DE X c mv W (.BinOp a .Sub b pos) (eV subD (two f g)) := de_opV op_sub vop_sub ha hb
theorem de_mul (ha : DE X c mv W a f) (hb : DE X c mv W b g) : DE X c mv W (.BinOp a .Mult b pos) (eV mulD (two f g)) := de_opV (op_mul.or op_mulS) vop_mul ha hb
theorem de_div (ha : DE X c mv W a f) (hb : DE X c mv W b g) : DE X c mv W (.BinOp a .FloorDiv b pos) (eV divD (two f g)) := de_opV op_fdiv vop_div ha hb
theorem de_mod (ha : DE X c mv W a f) (hb : DE X c mv W b g) : DE X c mv W (.BinOp a .Mod b pos) (eV modD (two f g)) := de_opV op_mod vop_mod ha hb
theorem de_pow (ha : DE X c mv W a f) (hb : DE X c mv W b g) : DE X c mv W (.BinOp a .Pow b pos) (eV powD (two f g)) := de_opV op_pow vop_pow ha hb
end
end

/-! ### data as the library names it -/
mutual
def D.pd : D → PyData
  | .non => .none
  | .bl b => .bool b
  | .int i => .int i
  | .str x => .str x
  | .tup _ ds => .tuple (pds ds)
  | .lst ds => .list (pds ds)
  | .dK _ _ => .none
  | .dT _ _ => .none
  | .obj _ _ _ => .none
  | .exc _ _ _ => .none
def pds : List D → List PyData
  | [] => []
  | d :: ds => d.pd :: pds ds
end
mutual
/-- made of nothing but scalars, lists and tuples -/
def D.plain : D → Bool
  | .non => true
  | .bl _ => true
  | .int _ => true
  | .str _ => true
  | .tup _ ds => plains ds
  | .lst ds => plains ds
  | .dK _ _ => false
  | .dT _ _ => false
  | .obj _ _ _ => false
  | .exc _ _ _ => false
def plains : List D → Bool
  | [] => true
  | d :: ds => d.plain && plains ds
end
mutual
theorem Fz.dp {c : Cs} {F : Hp} : ∀ {v : V} {d : D}, Fz c F v d → d.plain = true → Dp c.K F v d.pd
  | _, _, .non, _ => .non
  | _, _, .bl, _ => .bl _
  | _, _, .int, _ => .int _
  | _, _, .str, _ => .str _
  | _, _, .tup hs _ ha, h => .tup hs (FzAll.dp ha h)
  | _, _, .lst hs ha, h => .lst hs (FzAll.dp ha h)
  | _, _, .dK _ _ _, h => noK h
  | _, _, .dT _ _ _, h => noK h
  | _, _, .obj _ _ _ _, h => noK h
  | _, _, .exc _ _ _ _ _, h => noK h
theorem FzAll.dp {c : Cs} {F : Hp} : ∀ {vs : List V} {ds : List D}, FzAll c F vs ds → plains ds = true → DpAll c.K F vs (pds ds)
  | _, _, .nil, _ => .nil
  | _, _, .cons h r, e => by
    unfold plains at e
    rw [Bool.and_eq_true] at e
    exact .cons (Fz.dp h e.1) (FzAll.dp r e.2)
end
/-- == is asked of such things -/
def eqOk (d : D) : Bool := d.plain && SeqAt.shaped d.pd
def eqD : List D → Option D
  | [.str x, .str y] => some (.bl (x == y))
  | [a, b] => if eqOk a && eqOk b then some (.bl (PyData.eqv a.pd b.pd)) else none
  | _ => none
def neD : List D → Option D
  | [.str x, .str y] => some (.bl (x != y))
  | [a, b] => if eqOk a && eqOk b then some (.bl (!PyData.eqv a.pd b.pd)) else none
  | _ => none
section
variable {X : Cx} {c : Cs}
def rTxt (p : Str → Str → Bool) : R2 := fun x y H Q => ∃ i j, x = .str i ∧ y = .str j ∧ Q (.bl (p i j)) H
theorem op_eqTxt : OpR X (compareOp .Eq) (rTxt fun i j => i == j) := by
  intro pins s σ H x y v u Q I rx ry ⟨i, j, e1, e2, q⟩
  subst e1; subst e2
  obtain ⟨t, rfl⟩ := rx
  obtain ⟨t2, rfl⟩ := ry
  exact PyProof.Rows.eq_str ⟨.bl _, H, I, rfl, q⟩
theorem op_neTxt : OpR X (compareOp .NotEq) (rTxt fun i j => i != j) := by
  intro pins s σ H x y v u Q I rx ry ⟨i, j, e1, e2, q⟩
  subst e1; subst e2
  obtain ⟨t, rfl⟩ := rx
  obtain ⟨t2, rfl⟩ := ry
  exact PyProof.Rows.ne_str ⟨.bl _, H, I, rfl, q⟩
def rEqE (K : PySem.W.Frag) : R2 := fun x y H Q => rTxt (fun i j => i == j) x y H Q ∨ rEqD K x y H Q
def rNeE (K : PySem.W.Frag) : R2 := fun x y H Q => rTxt (fun i j => i != j) x y H Q ∨ rNeD K x y H Q
theorem vop_eq (hK : X.K = c.K) : VOp c (R2of (rEqE X.K)) eqD := fun F H vs ds d Q s h e k => by
  rw [hK]
  unfold eqD at e
  split at e
  · cases e
    cases h with
    | cons h1 h2 => cases h2 with
      | cons h2 h3 => cases h3; cases h2; cases h1; exact ⟨_, _, rfl, .inl ⟨_, _, rfl, rfl, k _ fun _ => .bl⟩⟩
  · split at e
    · rename_i hb
      cases e
      simp only [eqOk, Bool.and_eq_true] at hb
      cases h with
      | cons h1 h2 => cases h2 with
        | cons h2 h3 => cases h3; exact ⟨_, _, rfl, .inr ⟨_, _, h1.dp hb.1.1, h2.dp hb.2.1, hb.1.2, hb.2.2, k _ fun _ => .bl⟩⟩
    · cases e
  · cases e
theorem vop_ne (hK : X.K = c.K) : VOp c (R2of (rNeE X.K)) neD := fun F H vs ds d Q s h e k => by
  rw [hK]
  unfold neD at e
  split at e
  · cases e
    cases h with
    | cons h1 h2 => cases h2 with
      | cons h2 h3 => cases h3; cases h2; cases h1; exact ⟨_, _, rfl, .inl ⟨_, _, rfl, rfl, k _ fun _ => .bl⟩⟩
  · split at e
    · rename_i hb
      cases e
      simp only [eqOk, Bool.and_eq_true] at hb
      cases h with
      | cons h1 h2 => cases h2 with
        | cons h2 h3 => cases h3; exact ⟨_, _, rfl, .inr ⟨_, _, h1.dp hb.1.1, h2.dp hb.2.1, hb.1.2, hb.2.2, k _ fun _ => .bl⟩⟩
    · cases e
  · cases e
def cmpD (p : Int → Int → Bool) : List D → Option D
  | [.int i, .int j] => some (.bl (p i j))
  | _ => none
theorem vop_cmp {p : Int → Int → Bool} : VOp c (R2of (rI0 fun i j => .bl (p i j))) (cmpD p) := fun F H vs ds d Q s h e k => by
  unfold cmpD at e
  split at e
  · cases e
    cases two_int h
    exact ⟨_, _, rfl, _, _, rfl, rfl, k _ fun _ => .bl⟩
  · cases e
def isNone : D → Bool
  | .non => true
  | _ => false
def isD : List D → Option D
  | [a, .non] => some (.bl (isNone a))
  | [.bl a, .bl b] => some (.bl (decide (a = b)))
  | _ => none
def isntD : List D → Option D
  | [a, .non] => some (.bl (!isNone a))
  | [.bl a, .bl b] => some (.bl (!decide (a = b)))
  | _ => none
theorem Fz.isNone {F : Hp} {v : V} {d : D} (h : Fz c F v d) : decide (v = .non) = isNone d := by
  cases h <;> simp [DL.isNone]
theorem vop_is : VOp c (R2of (fun x y H Q => (y = .non ∧ Q (.bl (decide (x = .non))) H) ∨ rIsB x y H Q)) isD := fun F H vs ds d Q s h e k => by
  unfold isD at e
  split at e
  · cases e
    cases h with
    | cons h1 h2 => cases h2 with
      | cons h2 h3 =>
        cases h3; cases h2
        refine ⟨_, _, rfl, .inl ⟨rfl, ?_⟩⟩
        rw [h1.isNone]
        exact k _ fun _ => .bl
  · cases e
    cases h with
    | cons h1 h2 => cases h2 with
      | cons h2 h3 => cases h3; cases h2; cases h1; exact ⟨_, _, rfl, .inr ⟨_, _, rfl, rfl, k _ fun _ => .bl⟩⟩
  · cases e
theorem vop_isnt : VOp c (R2of (fun x y H Q => (y = .non ∧ Q (.bl (!decide (x = .non))) H) ∨ rNotB x y H Q)) isntD := fun F H vs ds d Q s h e k => by
  unfold isntD at e
  split at e
  · cases e
    cases h with
    | cons h1 h2 => cases h2 with
      | cons h2 h3 =>
        cases h3; cases h2
        refine ⟨_, _, rfl, .inl ⟨rfl, ?_⟩⟩
        rw [h1.isNone]
        exact k _ fun _ => .bl
  · cases e
    cases h with
    | cons h1 h2 => cases h2 with
      | cons h2 h3 => cases h3; cases h2; cases h1; exact ⟨_, _, rfl, .inr ⟨_, _, rfl, rfl, k _ fun _ => .bl⟩⟩
  · cases e
/-- in, not in: a flat thing among flat things, a text in a text -/
def flatD : D → Bool
  | .non => true
  | .bl _ => true
  | .int _ => true
  | .str _ => true
  | _ => false
def flatEq : D → D → Bool
  | .non, .non => true
  | .bl a, .bl b => a == b
  | .bl a, .int b => (if a then 1 else 0) == b
  | .int a, .bl b => a == (if b then 1 else 0)
  | .int a, .int b => a == b
  | .str a, .str b => a == b
  | _, _ => false
def inSeq (x : D) (ds : List D) : Bool := ds.any fun y => flatEq y x
def inStr (i j : Str) : Bool := !(Builtin.Str.occurrences j i 0 j.length 1).isEmpty
def inB : D → D → Option Bool
  | x, .lst ds => if flatD x && ds.all flatD then some (inSeq x ds) else none
  | x, .tup _ ds => if flatD x && ds.all flatD then some (inSeq x ds) else none
  | .str i, .str j => some (inStr i j)
  | _, _ => none
def inD : List D → Option D
  | [a, b] => (inB a b).map .bl
  | _ => none
def notInD : List D → Option D
  | [a, b] => (inB a b).map fun k => .bl (!k)
  | _ => none
theorem flat_V {F : Hp} {v : V} {d : D} (h : Fz c F v d) (hf : flatD d = true) : flatV v = true := by
  cases h <;> first | rfl | (exfalso; exact absurd hf (by decide)) | cases hf
theorem flat_all {F : Hp} : ∀ {vs : List V} {ds : List D}, FzAll c F vs ds → ds.all flatD = true → vs.all flatV = true
  | _, _, .nil, _ => rfl
  | _, _, .cons h r, e => by
    rw [List.all_cons, Bool.and_eq_true] at e
    rw [List.all_cons, flat_V h e.1, flat_all r e.2]
    rfl
theorem flat_eq {F : Hp} {v u : V} {d e : D} (h : Fz c F v d) (g : Fz c F u e) : flatD d = true → flatD e = true → eqV v u = flatEq d e := fun h1 h2 => by
  cases h <;> cases g <;> first | rfl | cases h1 | cases h2
theorem flat_in {F : Hp} {v : V} {x : D} (hx : Fz c F v x) (fx : flatD x = true) : ∀ {vs : List V} {ds : List D}, FzAll c F vs ds → ds.all flatD = true → inV v vs = inSeq x ds
  | _, _, .nil, _ => rfl
  | _, _, .cons h r, e => by
    rw [List.all_cons, Bool.and_eq_true] at e
    have ih := flat_in hx fx r e.2
    unfold inV at ih ⊢
    unfold inSeq at ih ⊢
    rw [List.any_cons, List.any_cons, ih, flat_eq h hx e.1 fx]
theorem in_cases {H : Hp} {v u : V} {x y : D} {k : Bool} (hx : Fz c H v x) (hy : Fz c H u y) (e : inB x y = some k) :
    (∃ p xs, u = .ref p ∧ (SqL c.K H p xs ∨ SqT c.K H p xs) ∧ flatV v = true ∧ xs.all flatV = true ∧ inV v xs = k) ∨ ∃ i j, v = .str i ∧ u = .str j ∧ (!(Builtin.Str.occurrences j i 0 j.length 1).isEmpty) = k := by
  unfold inB at e
  split at e
  · split at e
    · rename_i hb
      cases e
      rw [Bool.and_eq_true] at hb
      cases hy with
      | lst hs ha => exact .inl ⟨_, _, rfl, .inl hs, flat_V hx hb.1, flat_all ha hb.2, flat_in hx hb.1 ha hb.2⟩
    · cases e
  · split at e
    · rename_i hb
      cases e
      rw [Bool.and_eq_true] at hb
      cases hy with
      | tup hs _ ha => exact .inl ⟨_, _, rfl, .inr hs, flat_V hx hb.1, flat_all ha hb.2, flat_in hx hb.1 ha hb.2⟩
    · cases e
  · cases e
    cases hx; cases hy
    exact .inr ⟨_, _, rfl, rfl, rfl⟩
  · cases e
theorem vop_in (hK : X.K = c.K) : VOp c (R2of (fun x y H Q => rIn X.K false x y H Q ∨ ∃ i j, x = .str i ∧ y = .str j ∧ Q (.bl (!(Builtin.Str.occurrences j i 0 j.length 1).isEmpty)) H)) inD := fun F H vs ds d Q s h e k => by
  rw [hK]
  unfold inD at e
  split at e
  · rename_i a b
    cases z : inB a b with
    | none => rw [z] at e; cases e
    | some q =>
      rw [z] at e
      cases e
      cases h with
      | cons h1 h2 => cases h2 with
        | cons h2 h3 =>
          cases h3
          rcases in_cases h1 h2 z with ⟨p, xs, rfl, h4, h5, h6, h7⟩ | ⟨i, j, rfl, rfl, h4⟩
          · refine ⟨_, _, rfl, .inl ⟨p, xs, rfl, h4, h5, h6, ?_⟩⟩
            rw [if_neg Bool.false_ne_true, h7]
            exact k _ fun _ => .bl
          · refine ⟨_, _, rfl, .inr ⟨i, j, rfl, rfl, ?_⟩⟩
            rw [h4]
            exact k _ fun _ => .bl
  · cases e
theorem vop_notIn (hK : X.K = c.K) : VOp c (R2of (fun x y H Q => rIn X.K true x y H Q ∨ ∃ i j, x = .str i ∧ y = .str j ∧ Q (.bl (!(!(Builtin.Str.occurrences j i 0 j.length 1).isEmpty))) H)) notInD := fun F H vs ds d Q s h e k => by
  rw [hK]
  unfold notInD at e
  split at e
  · rename_i a b
    cases z : inB a b with
    | none => rw [z] at e; cases e
    | some q =>
      rw [z] at e
      cases e
      cases h with
      | cons h1 h2 => cases h2 with
        | cons h2 h3 =>
          cases h3
          rcases in_cases h1 h2 z with ⟨p, xs, rfl, h4, h5, h6, h7⟩ | ⟨i, j, rfl, rfl, h4⟩
          · refine ⟨_, _, rfl, .inl ⟨p, xs, rfl, h4, h5, h6, ?_⟩⟩
            rw [if_pos rfl, h7]
            exact k _ fun _ => .bl
          · refine ⟨_, _, rfl, .inr ⟨i, j, rfl, rfl, ?_⟩⟩
            rw [h4]
            exact k _ fun _ => .bl
  · cases e
section
variable {mv : V} {W : WX} {a b : Expr} {f g : En → Out Rv} {pos : Pos}
theorem hu64 {k : Nat} (r : Room k X.A) : X.A.units + 64 < cLine := r.units
theorem de_eq {k : Nat} (hK : X.K = c.K) (r : Room k X.A) (ha : DE X c mv W a f) (hb : DE X c mv W b g) : DE X c mv W (.Compare a [.Eq] [b] pos) (eV eqD (two f g)) := de_cmp (op_eqTxt.or (op_eqD r.units)) (vop_eq hK) ha hb (nomark _)
theorem dt_eq {k : Nat} (hK : X.K = c.K) (r : Room k X.A) (ha : DE X c mv W a f) (hb : DE X c mv W b g) : DT X c mv W (.Compare a [.Eq] [b] pos) (tOf (eV eqD (two f g))) := dt_cmp (op_eqTxt.or (op_eqD r.units)) (vop_eq hK) ha hb (nomark _)
theorem de_ne {k : Nat} (hK : X.K = c.K) (r : Room k X.A) (ha : DE X c mv W a f) (hb : DE X c mv W b g) : DE X c mv W (.Compare a [.NotEq] [b] pos) (eV neD (two f g)) := de_cmp (op_neTxt.or (op_neD r.units)) (vop_ne hK) ha hb (nomark _)
theorem dt_ne {k : Nat} (hK : X.K = c.K) (r : Room k X.A) (ha : DE X c mv W a f) (hb : DE X c mv W b g) : DT X c mv W (.Compare a [.NotEq] [b] pos) (tOf (eV neD (two f g))) := dt_cmp (op_neTxt.or (op_neD r.units)) (vop_ne hK) ha hb (nomark _)
theorem de_lt (ha : DE X c mv W a f) (hb : DE X c mv W b g) : DE X c mv W (.Compare a [.Lt] [b] pos) (eV (cmpD fun i j => decide (i < j)) (two f g)) := de_cmp op_lt vop_cmp ha hb (nomark _)
theorem dt_lt (ha : DE X c mv W a f) (hb : DE X c mv W b g) : DT X c mv W (.Compare a [.Lt] [b] pos) (tOf (eV (cmpD fun i j => decide (i < j)) (two f g))) := dt_cmp op_lt vop_cmp ha hb (nomark _)
theorem de_le (ha : DE X c mv W a f) (hb : DE X c mv W b g) : DE X c mv W (.Compare a [.LtE] [b] pos) (eV (cmpD fun i j => decide (i ≤ j)) (two f g)) := de_cmp op_le vop_cmp ha hb (nomark _)
theorem dt_le (ha : DE X c mv W a f) (hb : DE X c mv W b g) : DT X c mv W (.Compare a [.LtE] [b] pos) (tOf (eV (cmpD fun i j => decide (i ≤ j)) (two f g))) := dt_cmp op_le vop_cmp ha hb (nomark _)
theorem de_gt (ha : DE X c mv W a f) (hb : DE X c mv W b g) : DE X c mv W (.Compare a [.Gt] [b] pos) (eV (cmpD fun i j => decide (i > j)) (two f g)) := de_cmp op_gt vop_cmp ha hb (nomark _)
theorem dt_gt (ha : DE X c mv W a f) (hb : DE X c mv W b g) : DT X c mv W (.Compare a [.Gt] [b] pos) (tOf (eV (cmpD fun i j => decide (i > j)) (two f g))) := dt_cmp op_gt vop_cmp ha hb (nomark _)
theorem de_ge (ha : DE X c mv W a f) (hb : DE X c mv W b g) : DE X c mv W (.Compare a [.GtE] [b] pos) (eV (cmpD fun i j => decide (i ≥ j)) (two f g)) := de_cmp op_ge vop_cmp ha hb (nomark _)
theorem dt_ge (ha : DE X c mv W a f) (hb : DE X c mv W b g) : DT X c mv W (.Compare a [.GtE] [b] pos) (tOf (eV (cmpD fun i j => decide (i ≥ j)) (two f g))) := dt_cmp op_ge vop_cmp ha hb (nomark _)
theorem de_is (ha : DE X c mv W a f) (hb : DE X c mv W b g) : DE X c mv W (.Compare a [.Is] [b] pos) (eV isD (two f g)) := de_cmp (op_isN.or op_isBl) vop_is ha hb (nomark _)
theorem dt_is (ha : DE X c mv W a f) (hb : DE X c mv W b g) : DT X c mv W (.Compare a [.Is] [b] pos) (tOf (eV isD (two f g))) := dt_cmp (op_isN.or op_isBl) vop_is ha hb (nomark _)
theorem de_isnt (ha : DE X c mv W a f) (hb : DE X c mv W b g) : DE X c mv W (.Compare a [.IsNot] [b] pos) (eV isntD (two f g)) := de_cmp (op_notN.or op_notBl) vop_isnt ha hb (nomark _)
theorem dt_isnt (ha : DE X c mv W a f) (hb : DE X c mv W b g) : DT X c mv W (.Compare a [.IsNot] [b] pos) (tOf (eV isntD (two f g))) := dt_cmp (op_notN.or op_notBl) vop_isnt ha hb (nomark _)
theorem de_in (hK : X.K = c.K) (ha : DE X c mv W a f) (hb : DE X c mv W b g) (hm : behindInMarks .In b = false := by rfl) : DE X c mv W (.Compare a [.In] [b] pos) (eV inD (two f g)) := de_cmp (op_in_seq.or op_in_str) (vop_in hK) ha hb hm
theorem dt_in (hK : X.K = c.K) (ha : DE X c mv W a f) (hb : DE X c mv W b g) (hm : behindInMarks .In b = false := by rfl) : DT X c mv W (.Compare a [.In] [b] pos) (tOf (eV inD (two f g))) := dt_cmp (op_in_seq.or op_in_str) (vop_in hK) ha hb hm
theorem de_notIn (hK : X.K = c.K) (ha : DE X c mv W a f) (hb : DE X c mv W b g) (hm : behindInMarks .NotIn b = false := by rfl) : DE X c mv W (.Compare a [.NotIn] [b] pos) (eV notInD (two f g)) := de_cmp (op_notIn_seq.or op_notIn_str) (vop_notIn hK) ha hb hm
theorem dt_notIn (hK : X.K = c.K) (ha : DE X c mv W a f) (hb : DE X c mv W b g) (hm : behindInMarks .NotIn b = false := by rfl) : DT X c mv W (.Compare a [.NotIn] [b] pos) (tOf (eV notInD (two f g))) := dt_cmp (op_notIn_seq.or op_notIn_str) (vop_notIn hK) ha hb hm
end
end
end DL

set_option Elab.async false
set_option linter.all false
set_option maxRecDepth 100000
set_option maxHeartbeats 2000000
/-! DL, part I: subscripts, built-ins, methods, stores. -/
namespace DL
open PySem L2 PySem.Spec PyProof.Rows

section
variable {X : Cx} {c : Cs} {mv : V} {W : WX}

/-! ### what a value is, as it may be looked into -/
def treeOf (e : En) : Rv → Option O
  | .sl i => e.at i
  | .me => some e.me
  | .tm o => some o
theorem tree_ok {F H : Hp} {fp fq : List Addr} {σ : L2.St} {e : En} {v : V} {r : Rv} {o : O} (E : EnvR c mv F H fp σ e) (h : RvR c mv F H σ fq v r) (l : treeOf e r = some o) : ∃ fo, Ow c F H fo v o := by
  obtain ⟨fm, fs, h1, h2, _, _⟩ := E.ex
  cases h with
  | tm h => cases l; exact ⟨_, h⟩
  | me => cases l; exact ⟨_, h1⟩
  | @sl i v hi =>
    have l' : e.at i = some o := l
    unfold En.at at l'
    cases q : e.sl[i]? with
    | none => rw [q] at l'; cases l'
    | some w =>
      rw [q] at l'
      cases w with
      | none => cases l'
      | some x =>
        cases x with
        | ow o' =>
          cases l'
          obtain ⟨v', fo, fr, g1, g2, _⟩ := h2.take q
          rw [hi] at g1; cases g1
          exact ⟨_, g2⟩
        | me =>
          cases l'
          have z := h2.atMe q
          rw [hi] at z; cases z
          exact ⟨_, h1⟩
theorem OwAll.getO {F H : Hp} : ∀ {fp : List Addr} {vs : List V} {os : List O} {i : Nat} {o : O}, OwAll c F H fp vs os → os[i]? = some o → ∃ v fo, vs[i]? = some v ∧ Ow c F H fo v o
  | _, _, _, _, _, .nil, e => by simp at e
  | _, _, _, 0, _, .cons h r z, e => by simp at e; subst e; exact ⟨_, _, rfl, h⟩
  | _, _, _, i + 1, _, .cons h r z, e => by
    obtain ⟨v, fo, h1, h2⟩ := OwAll.getO (i := i) r (by simpa using e)
    exact ⟨v, fo, by simpa using h1, h2⟩

/-! ### an item -/
def itemD : D → Int → Option D
  | .lst ds, i => atI ds i
  | .tup _ ds, i => atI ds i
  | .str z, i => if z.length ≤ most then (atI z.cps.toList i).map fun c => .str ⟨#[c]⟩ else none
  | _, _ => none
def eItem (f g : En → Out Rv) : En → Out Rv := fun e => (two f g e).bind fun rs e1 => match rs with
  | [r, .tm (.fz (.int i))] => match treeOf e1 r with
    | some (.lst os) => match atI os i with
      | some (.fz d) => .ok (.tm (.fz d)) e1
      | _ => .no
    | some (.fz d) => match itemD d i with
      | some x => .ok (.tm (.fz x)) e1
      | none => .no
    | _ => .no
  | _ => .no
theorem atI_map {α β : Type} {xs : List α} {ys : List β} {i : Int} {y : β} (hl : xs.length = ys.length) (h : atI ys i = some y) : ∃ j : Nat, ys[j]? = some y ∧ ∀ x, xs[j]? = some x → atI xs i = some x := by
  unfold atI at h
  cases q : ixN ys.length i with
  | none => rw [q] at h; cases h
  | some j =>
    rw [q] at h
    refine ⟨j, h, fun x hx => ?_⟩
    unfold atI
    rw [hl, q]
    exact hx
theorem rIx_out {K : PySem.W.Frag} {x y : V} {H : Hp} {Q : VK} (h : R2of (rIx K) [x, y] H Q) : rIx K x y H Q := h.out
theorem de_item {a b : Expr} {f g : En → Out Rv} {pos : Pos} (hK : X.K = c.K) (ha : DE X c mv W a f) (hb : DE X c mv W b g) (hs : PlainIx b := by intro _ _; rfl) : DE X c mv W (.Subscript a b pos) (eItem f g) :=
  pe_imp (pe_ix ix_seq ha hb hs) fun σ H Q h => two_ok (R := rIx X.K) h fun F H fp fq e v w rs s E rr d p => by
    rw [hK]
    split at p
    · rename_i r i
      cases rr with
      | @cons p1 q1 _ _ _ _ h1 h2 hd =>
        cases h2 with
        | cons h2 h3 _ =>
          cases h3
          obtain ⟨rfl, rfl⟩ := rv_int h2
          cases z : treeOf e r with
          | none => rw [z] at p; exact p.elim
          | some o =>
            rw [z] at p
            obtain ⟨fo, ho⟩ := tree_ok E h1 z
            cases o with
            | fz d' =>
              simp only at p
              cases z2 : itemD d' i with
              | none => rw [z2] at p; exact p.elim
              | some x =>
                rw [z2] at p
                have fin : ∀ u, Fz c F u x → Q u H := fun u hu => Po.fz s E hu (fun b hb => List.mem_append_left _ hb) p
                cases ho with
                | fz ho =>
                  cases ho with
                  | @lst a xs ds hs ha =>
                    obtain ⟨j, k1, k2⟩ := atI_map ha.length (show atI ds i = some x from z2)
                    obtain ⟨u, u1, u2⟩ := ha.get k1
                    exact .inl ⟨a, xs, i, u, rfl, rfl, s.sqL hs, k2 u u1, fin u u2⟩
                  | @tup a xs _ ds hs _ ha =>
                    obtain ⟨j, k1, k2⟩ := atI_map ha.length (show atI ds i = some x from z2)
                    obtain ⟨u, u1, u2⟩ := ha.get k1
                    exact .inr (.inl ⟨a, xs, i, u, rfl, rfl, s.sqT hs, k2 u u1, fin u u2⟩)
                  | @str zz =>
                    unfold itemD at z2
                    simp only at z2
                    split at z2
                    · rename_i hz
                      cases z3 : atI zz.cps.toList i with
                      | none => rw [z3] at z2; cases z2
                      | some cc =>
                        rw [z3] at z2
                        cases z2
                        exact .inr (.inr ⟨zz, i, cc, rfl, rfl, most_line hz, z3, fin _ .str⟩)
                    · cases z2
                  | _ => cases z2
            | lst os =>
              simp only at p
              cases z2 : atI os i with
              | none => rw [z2] at p; exact p.elim
              | some o2 =>
                rw [z2] at p
                cases o2 with
                | fz d' =>
                  cases ho with
                  | @lst a fp' xs os hH hF hn ha =>
                    obtain ⟨j, k1, k2⟩ := atI_map ha.length z2
                    obtain ⟨u, fu, u1, u2⟩ := ha.getO k1
                    cases u2 with
                    | fz u2 => exact .inl ⟨a, xs, i, u, rfl, rfl, SqL.of hH, k2 u u1, Po.fz s E u2 (fun b hb => List.mem_append_left _ hb) p⟩
                | _ => exact p.elim
            | _ => exact p.elim
    · exact p.elim

/-! ### slices -/
def DP (X : Cx) (c : Cs) (mv : V) (W : WX) (a : Option Expr) (f : En → Out (Option Int)) : Prop := PO X a (rd c mv (fun _ _ _ fq o a => fq = [] ∧ o = a) W f)
def pNone : En → Out (Option Int) := fun e => .ok none e
def pSome (f : En → Out Rv) : En → Out (Option Int) := fun e => (f e).bind fun r e1 => match r with
  | .tm (.fz (.int i)) => .ok (some i) e1
  | _ => .no
theorem dp_none : DP X c mv W none pNone := ⟨fun pins s σ H Q I ⟨F, fp, e, sb, E, p⟩ => (po_none (X := X)).run pins s σ H Q I (p F H fp [] none (by rw [List.append_nil]; exact Stp.refl sb) E ⟨rfl, rfl⟩ fun b hb => nomatch hb)⟩
theorem dp_some {a : Expr} {f : En → Out Rv} (h : DE X c mv W a f) : DP X c mv W (some a) (pSome f) := ⟨fun pins s σ H Q I ⟨F, fp, e, sb, E, p⟩ => (po_some h).run pins s σ H Q I (by
  refine ⟨F, fp, e, sb, E, Po.seq (R1 := rvR c mv) p fun r e1 F1 H1 f1 q1 v _ s1 E1 r1 d1 p1 => ?_⟩
  split at p1
  · rename_i i _
    obtain ⟨rfl, rfl⟩ := rv_int r1
    exact ⟨i, rfl, p1 F1 H1 f1 [] (some i) (by simpa using Stp.refl s1.fh) E1 ⟨rfl, rfl⟩ fun b hb => nomatch hb⟩
  · exact p1.elim)⟩
def cutL {α : Type} (xs : List α) (lo hi : Option Int) : List α := (xs.drop (HT.sIx xs.length 0 lo)).take (HT.sIx xs.length xs.length hi - HT.sIx xs.length 0 lo)
def sliceD : D → Option Int → Option Int → Option O
  | .lst ds, lo, hi => some (.lst ((cutL ds lo hi).map .fz))
  | .tup false ds, lo, hi => some (.fz (.tup false (cutL ds lo hi)))
  | .str z, lo, hi => if z.length ≤ most then some (.fz (.str (cutS z lo hi))) else none
  | _, _, _ => none
def eSlice (f : En → Out Rv) (lo hi : En → Out (Option Int)) : En → Out Rv := fun e => (f e).bind fun r e1 => match fix e1 r with
  | none => .no
  | some (d, e2) => (lo e2).bind fun l e3 => (hi e3).bind fun h e4 => match sliceD d l h with
    | none => .no
    | some o => .ok (.tm o) e4
def rSlD (K : PySem.W.Frag) : V → Option Int → Option Int → Hp → VK → Prop := fun x lo hi H Q => rSlL K x lo hi H Q ∨ rSlA K x lo hi H Q ∨ rSlS x lo hi H Q
theorem sl_D : L2.SlR X (rSlD X.K) := sl_list.or (sl_tupA.or sl_str)
theorem slice_ok {F H : Hp} {v : V} {d : D} {lo hi : Option Int} {o : O} {Q : VK} (hK : X.K = c.K) (s : Sub F H) (h : Fz c F v d) (e : sliceD d lo hi = some o) (k : ∀ F' H' fq v, Stp F H [] F' H' fq → Ow c F' H' fq v o → Q v H') : rSlD X.K v lo hi H Q := by
  rw [hK]
  cases h with
  | @lst a xs ds hs ha =>
    cases e
    refine .inl ⟨a, xs, rfl, s.sqL hs, new_lst s ?_ k⟩
    unfold cutV cutL
    rw [ha.length]
    exact (ha.drop _).take _
  | @tup a xs kk ds hs hk1 ha =>
    cases kk with
    | true => cases e
    | false =>
    cases e
    refine .inr (.inl ⟨a, xs, rfl, s.sqT hs, fun w => ?_, fun _ => new_tup s ?_ k⟩)
    · have : cutL ds lo hi = ds := by
        unfold cutL
        rw [← ha.length, w.1, w.2, ha.length, List.drop_zero, Nat.sub_zero, List.take_length]
      rw [this] at k
      exact k F H [] _ (Stp.refl s) (.fz (.tup hs hk1 ha))
    · unfold cutV cutL
      rw [ha.length]
      exact (ha.drop _).take _
  | @str z =>
    unfold sliceD at e
    simp only at e
    split at e
    · rename_i hz
      cases e
      exact .inr (.inr ⟨z, rfl, most_line hz, k F H [] _ (Stp.refl s) (.fz .str)⟩)
    · cases e
  | _ => cases e
theorem de_slice {a : Expr} {l h : Option Expr} {f : En → Out Rv} {fl fh : En → Out (Option Int)} {p2 pos : Pos} (hK : X.K = c.K) (ha : DE X c mv W a f) (hl : DP X c mv W l fl) (hh : DP X c mv W h fh) : DE X c mv W (.Subscript a (.Slice l h none p2) pos) (eSlice f fl fh) :=
  pe_imp (pe_slice sl_D ha hl hh) fun σ H Q hw => by
    obtain ⟨F, fp, e, s, E, p⟩ := hw
    refine ⟨F, fp, e, s, E, Po.seq (R1 := rvR c mv) p fun r e1 F1 H1 f1 q1 v _ s1 E1 r1 d1 p1 => ?_⟩
    cases z : fix e1 r with
    | none => rw [z] at p1; exact p1.elim
    | some y =>
      obtain ⟨d, e2⟩ := y
      rw [z] at p1
      simp only at p1
      obtain ⟨F2, f2, s2, k2, E2, m2⟩ := fix_ok s1.fh E1 r1 d1 z
      refine ⟨F2, f2, e2, s2.fh, E2, Po.seq (Po.step p1 s2) fun l' e3 F3 H3 f3 q3 lv _ s3 E3 r3 d3 p3 => ?_⟩
      obtain ⟨rfl, rfl⟩ := r3
      rw [List.append_nil] at p3
      refine ⟨F3, f3, e3, s3.fh, E3, Po.seq p3 fun h' e4 F4 H4 f4 q4 hv _ s4 E4 r4 d4 p4 => ?_⟩
      obtain ⟨rfl, rfl⟩ := r4
      rw [List.append_nil] at p4
      cases z4 : sliceD d lv hv with
      | none => rw [z4] at p4; exact p4.elim
      | some o =>
        rw [z4] at p4
        refine slice_ok hK s4.fh ((k2.mono s3.ff).mono s4.ff) z4 fun F5 H5 q5 u s5 h5 => ?_
        obtain ⟨s6, d6⟩ := s5.beside (fp := f4) E4.has
        exact p4 F5 H5 f4 q5 u s6 (E4.stp s5 fun b hb z => nomatch z) (.tm h5) d6

/-! ### built-ins -/
def lenD : List D → Option D
  | [.lst ds] => some (.int ds.length)
  | [.tup _ ds] => some (.int ds.length)
  | [.str z] => if z.length ≤ most then some (.int z.length) else none
  | _ => none
def rLen (K : PySem.W.Frag) : List V → Hp → VK → Prop := fun xs H Q => (∃ p ys, xs = [.ref p] ∧ (SqL K H p ys ∨ SqT K H p ys) ∧ Q (.int ys.length) H) ∨ ∃ z, xs = [.str z] ∧ z.length ≤ sizeLine ∧ Q (.int z.length) H
theorem call_lenX : CallR X (.builtin "len") (rLen X.K) := call_len_seq.or call_len_str
theorem vop_len (hK : X.K = c.K) : VOp c (rLen X.K) lenD := fun F H vs ds d Q s h e k => by
  rw [hK]
  unfold lenD at e
  split at e
  · cases e
    cases h with
    | cons h1 h2 =>
      cases h2
      cases h1 with
      | lst hs ha => exact .inl ⟨_, _, rfl, .inl hs, by rw [ha.length]; exact k _ fun _ => .int⟩
  · cases e
    cases h with
    | cons h1 h2 =>
      cases h2
      cases h1 with
      | tup hs _ ha => exact .inl ⟨_, _, rfl, .inr hs, by rw [ha.length]; exact k _ fun _ => .int⟩
  · split at e
    · rename_i hz
      cases e
      cases h with
      | cons h1 h2 =>
        cases h2
        cases h1
        exact .inr ⟨_, rfl, most_line hz, k _ fun _ => .int⟩
    · cases e
  · cases e
def listD : List D → Option O
  | [.lst ds] => some (.lst (ds.map .fz))
  | [.tup _ ds] => some (.lst (ds.map .fz))
  | _ => none
theorem fop_list (hK : X.K = c.K) : FOp c (fun xs H Q => ∃ p ys, xs = [.ref p] ∧ (SqL X.K H p ys ∨ SqT X.K H p ys) ∧ ∀ l, H l = none → Q (.ref l) (upd H l (.lst ys))) listD := fun F H vs ds o Q s h e k => by
  rw [hK]
  unfold listD at e
  split at e
  · cases e
    cases h with
    | cons h1 h2 =>
      cases h2
      cases h1 with
      | lst hs ha => exact ⟨_, _, rfl, .inl (s.sqL hs), new_lst s ha k⟩
  · cases e
    cases h with
    | cons h1 h2 =>
      cases h2
      cases h1 with
      | tup hs _ ha => exact ⟨_, _, rfl, .inr (s.sqT hs), new_lst s ha k⟩
  · cases e
def tupleD : List D → Option O
  | [.lst ds] => some (.fz (.tup false ds))
  | [.tup k ds] => some (.fz (.tup k ds))
  | _ => none
theorem fop_tuple (hK : X.K = c.K) : FOp c (fun xs H Q => ∃ p ys, xs = [.ref p] ∧ ((SqL X.K H p ys ∧ ∀ l, H l = none → Q (.ref l) (upd H l (.tup ys))) ∨ (SqT X.K H p ys ∧ Q (.ref p) H))) tupleD := fun F H vs ds o Q s h e k => by
  rw [hK]
  unfold tupleD at e
  split at e
  · cases e
    cases h with
    | cons h1 h2 =>
      cases h2
      cases h1 with
      | lst hs ha => exact ⟨_, _, rfl, .inl ⟨s.sqL hs, new_tup s ha k⟩⟩
  · cases e
    cases h with
    | cons h1 h2 =>
      cases h2
      cases h1 with
      | tup hs hk ha => exact ⟨_, _, rfl, .inr ⟨s.sqT hs, k F H [] _ (Stp.refl s) (.fz (.tup hs hk ha))⟩⟩
  · cases e
def intD : List D → Option D
  | [.int i] => some (.int i)
  | [.bl b] => some (.int (if b then 1 else 0))
  | _ => none
theorem vop_int : VOp c (fun xs H Q => (∃ i, xs = [.int i] ∧ Q (.int i) H) ∨ ∃ k, xs = [.bl k] ∧ Q (.int (if k then 1 else 0)) H) intD := fun F H vs ds d Q s h e k => by
  unfold intD at e
  split at e
  · cases e
    cases h with
    | cons h1 h2 => cases h2; cases h1; exact .inl ⟨_, rfl, k _ fun _ => .int⟩
  · cases e
    cases h with
    | cons h1 h2 => cases h2; cases h1; exact .inr ⟨_, rfl, k _ fun _ => .int⟩
  · cases e
def minD : List D → Option D
  | [.int i, .int j] => some (.int (if j < i then j else i))
  | _ => none
def maxD : List D → Option D
  | [.int i, .int j] => some (.int (if j > i then j else i))
  | _ => none
def absD : List D → Option D
  | [.int i] => some (.int (if i < 0 then -i else i))
  | _ => none
theorem vop_min : VOp c (fun xs H Q => ∃ i j, xs = [.int i, .int j] ∧ Q (.int (if j < i then j else i)) H) minD := fun F H vs ds d Q s h e k => by
  unfold minD at e
  split at e
  · cases e
    cases two_int h
    exact ⟨_, _, rfl, k _ fun _ => .int⟩
  · cases e
theorem vop_max : VOp c (fun xs H Q => ∃ i j, xs = [.int i, .int j] ∧ Q (.int (if j > i then j else i)) H) maxD := fun F H vs ds d Q s h e k => by
  unfold maxD at e
  split at e
  · cases e
    cases two_int h
    exact ⟨_, _, rfl, k _ fun _ => .int⟩
  · cases e
theorem vop_abs : VOp c (fun xs H Q => ∃ i, xs = [.int i] ∧ Q (.int (if i < 0 then -i else i)) H) absD := fun F H vs ds d Q s h e k => by
  unfold absD at e
  split at e
  · cases e
    cases h with
    | cons h1 h2 => cases h2; cases h1; exact ⟨_, rfl, k _ fun _ => .int⟩
  · cases e
/-- repr of scalars, lists and tuples -/
def showOk (d : D) : Bool := d.plain && d.pd.showable && decide (d.pd.depth ≤ 64) && decide (d.pd.shown.length ≤ most)
def reprD : List D → Option D
  | [d] => if showOk d then some (.str d.pd.shown) else none
  | _ => none
def rRepr (K : PySem.W.Frag) : List V → Hp → VK → Prop := fun xs H Q => ∃ x d, xs = [x] ∧ Dp K H x d ∧ d.showable = true ∧ d.hasDict = false ∧ d.depth ≤ 64 ∧ d.shown.length ≤ sizeLine ∧ Q (.str d.shown) H
theorem units_line {k : Nat} (r : Room k X.A) {n : Nat} (h : n ≤ 64) : X.A.units + (n + 1) < cLine := by
  have := r.un
  omega
theorem call_repr {k : Nat} (g : Quiet X.A) (r : Room k X.A) : CallR X (.builtin "repr") (rRepr X.K) := by
  intro pins s σ H xs us Q I rv h
  obtain ⟨x, d, rfl, hd, h1, h2, h3, h4, q⟩ := h
  obtain ⟨u, rfl, ru⟩ := vals1 rv
  have fin : ∀ (t : Tok) (tk : Nat), EP X pins σ Q (.str d.shown t) { s with toks := tk } := fun t tk => ⟨.str d.shown, H, I.tok tk, ⟨_, rfl⟩, q⟩
  cases x with
  | non =>
    cases ru; cases hd
    exact PySem.P.repr_of_none (fin _ _)
  | bl b =>
    cases ru; cases hd
    exact PySem.P.repr_of_bool (fin _ _)
  | int i =>
    obtain ⟨t, rfl⟩ := ru
    cases hd
    exact PySem.P.repr_of_int (by simpa [PyData.showable] using h1) (fin _ _)
  | str z =>
    obtain ⟨t, rfl⟩ := ru
    cases hd
    exact PySem.P.repr_of_str (fin _ _) (by simpa [PyData.shown] using h4)
  | ref a =>
    obtain ⟨as, rr⟩ := Dp.reads I d _ _ hd ru
    cases ru
    exact repr_of_reads' rr h1 (PyData.noDict_hsm h2) g (units_line r h3) (fun _ _ e => e) (fun h' u tk kp => ⟨.str d.shown, H, I.kept (t' := tk) kp, ⟨_, rfl⟩, q⟩) h4
  | _ => cases hd
mutual
theorem plain_noDict : ∀ d : D, d.plain = true → d.pd.hasDict = false
  | .non, _ => rfl
  | .bl _, _ => rfl
  | .int _, _ => rfl
  | .str _, _ => rfl
  | .tup _ ds, h => by
    show PyData.hasDictAll (pds ds) = false
    exact plains_noDict ds h
  | .lst ds, h => by
    show PyData.hasDictAll (pds ds) = false
    exact plains_noDict ds h
theorem plains_noDict : ∀ ds : List D, plains ds = true → PyData.hasDictAll (pds ds) = false
  | [], _ => rfl
  | d :: ds, h => by
    unfold plains at h
    rw [Bool.and_eq_true] at h
    show (d.pd.hasDict || PyData.hasDictAll (pds ds)) = false
    rw [plain_noDict d h.1, plains_noDict ds h.2]
    rfl
end
theorem vop_repr (hK : X.K = c.K) : VOp c (rRepr X.K) reprD := fun F H vs ds d Q s h e k => by
  rw [hK]
  unfold reprD at e
  split at e
  · split at e
    · rename_i d0 hb
      cases e
      simp only [showOk, Bool.and_eq_true, decide_eq_true_eq] at hb
      obtain ⟨⟨⟨h1, h2⟩, h3⟩, h4⟩ := hb
      cases h with
      | cons g1 g2 =>
        cases g2
        exact ⟨_, _, rfl, g1.dp h1, h2, plain_noDict _ h1, h3, most_line h4, k _ fun _ => .str⟩
    · cases e
  · cases e
section
variable {a b : Expr} {f : En → Out (List Rv)} {p pos : Pos}
theorem de_len (hK : X.K = c.K) (hm : X.mg "len" = none) (hg : Gl X "len") (ha : DA X c mv W [a] f) (he : starEach [a] X.env = (false, eval a X.env) :: starEach [] X.env := by rfl) : DE X c mv W (.Call (.Name "len" p) [a] [] pos) (eV lenD f) :=
  de_callV call_lenX (vop_len hK) hg hm PySem.boot_len ha (he := he)
theorem de_repr {k : Nat} (hK : X.K = c.K) (g : Quiet X.A) (r : Room k X.A) (hm : X.mg "repr" = none) (hg : Gl X "repr") (ha : DA X c mv W [a] f) (he : starEach [a] X.env = (false, eval a X.env) :: starEach [] X.env := by rfl) : DE X c mv W (.Call (.Name "repr" p) [a] [] pos) (eV reprD f) :=
  de_callV (call_repr g r) (vop_repr hK) hg hm (by decide +kernel) ha (he := he)
theorem de_list (hK : X.K = c.K) (hm : X.mg "list" = none) (hg : Gl X "list") (ha : DA X c mv W [a] f) (he : starEach [a] X.env = (false, eval a X.env) :: starEach [] X.env := by rfl) : DE X c mv W (.Call (.Name "list" p) [a] [] pos) (eF listD f) :=
  de_typeF call_list_of (fop_list hK) hg hm (by decide +kernel) ha (he := he)
theorem de_tuple (hK : X.K = c.K) (hm : X.mg "tuple" = none) (hg : Gl X "tuple") (ha : DA X c mv W [a] f) (he : starEach [a] X.env = (false, eval a X.env) :: starEach [] X.env := by rfl) : DE X c mv W (.Call (.Name "tuple" p) [a] [] pos) (eF tupleD f) :=
  de_typeF call_tuple_of (fop_tuple hK) hg hm (by decide +kernel) ha (he := he)
theorem de_intB (hm : X.mg "int" = none) (hg : Gl X "int") (ha : DA X c mv W [a] f) (he : starEach [a] X.env = (false, eval a X.env) :: starEach [] X.env := by rfl) : DE X c mv W (.Call (.Name "int" p) [a] [] pos) (eV intD f) :=
  de_typeV call_int1 vop_int hg hm (by decide +kernel) ha (he := he)
theorem de_abs (hm : X.mg "abs" = none) (hg : Gl X "abs") (ha : DA X c mv W [a] f) (he : starEach [a] X.env = (false, eval a X.env) :: starEach [] X.env := by rfl) : DE X c mv W (.Call (.Name "abs" p) [a] [] pos) (eV absD f) :=
  de_callV call_abs vop_abs hg hm (by decide +kernel) ha (he := he)
theorem de_min (hc : X.calm = true) (hm : X.mg "min" = none) (hg : Gl X "min") (ha : DA X c mv W [a, b] f) (he : starEach [a, b] X.env = (false, eval a X.env) :: starEach [b] X.env := by rfl) (hpl : (backTo pos (starEach [b] X.env)).any (·.1) = false := by rfl) : DE X c mv W (.Call (.Name "min" p) [a, b] [] pos) (eV minD f) :=
  de_callV (call_min2 hc) vop_min hg hm (by decide +kernel) ha (he := he) (hpl := hpl)
theorem de_max (hc : X.calm = true) (hm : X.mg "max" = none) (hg : Gl X "max") (ha : DA X c mv W [a, b] f) (he : starEach [a, b] X.env = (false, eval a X.env) :: starEach [b] X.env := by rfl) (hpl : (backTo pos (starEach [b] X.env)).any (·.1) = false := by rfl) : DE X c mv W (.Call (.Name "max" p) [a, b] [] pos) (eV maxD f) :=
  de_callV (call_max2 hc) vop_max hg hm (by decide +kernel) ha (he := he) (hpl := hpl)
end

/-! ### text methods: the receiver a text -/
def strsOf : List D → Option (List Str)
  | [] => some []
  | .str x :: ds => (strsOf ds).map (x :: ·)
  | _ :: _ => none
def joinS (a : Str) : D → Option D
  | .lst ds => match strsOf ds with
    | none => none
    | some ys => if (ys.map (·.length)).sum + ys.length * a.length ≤ most then some (.str (Txt.join a ys)) else none
  | .tup _ ds => match strsOf ds with
    | none => none
    | some ys => if (ys.map (·.length)).sum + ys.length * a.length ≤ most then some (.str (Txt.join a ys)) else none
  | _ => none
def eM1 (φ : Str → D → Option D) (f g : En → Out Rv) : En → Out Rv := fun e => (f e).bind fun r e1 => match r with
  | .tm (.fz (.str z)) => (g e1).bind fun r2 e2 => match look e2 r2 with
    | none => .no
    | some d => match φ z d with
      | none => .no
      | some x => .ok (.tm (.fz x)) e2
  | _ => .no
theorem rv_str {F H : Hp} {σ : L2.St} {fq : List Addr} {v : V} {z : Str} (h : RvR c mv F H σ fq v (.tm (.fz (.str z)))) : v = .str z ∧ fq = [] := by
  cases h with
  | tm h => cases h with
    | fz h => cases h; exact ⟨rfl, rfl⟩
theorem m1_ok {f g : En → Out Rv} {φ : Str → D → Option D} {r : V → List V → Hp → VK → Prop} {σ : L2.St} {H : Hp} {Q : VK} (h : rd c mv (rvR c mv) W (eM1 φ f g) σ H Q)
    (k : ∀ F H v z d x, Sub F H → Fz c H v d → φ z d = some x → (∀ u, (∀ G, Fz c G u x) → Q u H) → r (.str z) [v] H Q) : tM1 r (rd c mv (rvR c mv) W f) (rd c mv (rvR c mv) W g) σ H Q := by
  obtain ⟨F, fp, e, s, E, p⟩ := h
  refine ⟨F, fp, e, s, E, Po.seq (R1 := rvR c mv) p fun a e1 F1 H1 f1 q1 v _ s1 E1 r1 d1 p1 => ?_⟩
  split at p1
  · rename_i z _
    obtain ⟨rfl, rfl⟩ := rv_str r1
    rw [List.append_nil] at p1
    refine ⟨⟨z, rfl⟩, F1, f1, e1, s1.fh, E1, Po.seq (R1 := rvR c mv) p1 fun b e2 F2 H2 f2 q2 w _ s2 E2 r2 d2 p2 => ?_⟩
    cases z2 : look e2 b with
    | none => rw [z2] at p2; exact p2.elim
    | some d =>
      rw [z2] at p2
      simp only at p2
      cases z3 : φ z d with
      | none => rw [z3] at p2; exact p2.elim
      | some x =>
        rw [z3] at p2
        exact k F2 H2 w z d x s2.fh (look_ok s2.fh E2 r2 z2) z3 fun u hu => Po.fz s2.fh E2 (hu F2) (fun b hb => List.mem_append_left _ hb) p2
  · exact p1.elim
theorem strs_of {F : Hp} : ∀ {vs : List V} {ds : List D} {ys : List Str}, FzAll c F vs ds → strsOf ds = some ys → vs = ys.map V.str
  | _, _, _, .nil, e => by cases e; rfl
  | _, d :: ds, ys, .cons h r, e => by
    cases d with
    | str x =>
      cases h
      unfold strsOf at e
      cases q : strsOf ds with
      | none => rw [q] at e; cases e
      | some zs =>
        rw [q] at e
        cases e
        rw [strs_of r q]
        rfl
    | _ => cases e
theorem de_join {o a : Expr} {f g : En → Out Rv} {apos pos : Pos} (hK : X.K = c.K) (ho : DE X c mv W o f) (ha : DE X c mv W a g) (hs : starEach [a] X.env = [(false, eval a X.env)] := by rfl) (hbase : attributeBase o "join" X.env (eval o X.env) = eval o X.env := by rfl) (hline : (apos.endLine == pos.line) = true := by rfl) :
    DE X c mv W (.Call (.Attribute o "join" apos) [a] [] pos) (eM1 joinS f g) :=
  pe_imp (pe_join ho ha hs hbase hline) fun σ H Q h => m1_ok h fun F H v z d x s hv e k => by
    rw [hK]
    unfold joinS at e
    split at e
    · rename_i ds
      split at e
      · cases e
      · rename_i ys hys
        split at e
        · rename_i hz
          cases e
          cases hv with
          | lst hs ha =>
            have := strs_of ha hys
            subst this
            exact ⟨z, _, ys, rfl, rfl, .inl hs, Nat.le_trans hz (by decide), k _ fun _ => .str⟩
        · cases e
    · rename_i ds
      split at e
      · cases e
      · rename_i ys hys
        split at e
        · rename_i hz
          cases e
          cases hv with
          | tup hs _ ha =>
            have := strs_of ha hys
            subst this
            exact ⟨z, _, ys, rfl, rfl, .inr hs, Nat.le_trans hz (by decide), k _ fun _ => .str⟩
        · cases e
    · cases e
end
end DL

set_option Elab.async false
set_option linter.all false
set_option maxRecDepth 100000
set_option maxHeartbeats 2000000
/-! DL, part J: what is owned changes: append, stores in lists and dicts. -/
namespace DL
open PySem L2 PySem.Spec PyProof.Rows

section
variable {X : Cx} {c : Cs} {mv : V} {W : WX}
/-- the things of a slot, changed at its own place -/
theorem chg_ok {F H : Hp} {fp fo fr : List Addr} {σ : L2.St} {e : En} {i : Nat} {a : Addr} {ho : HO} {o : O} {D : Ends} {v : V} (s : Sub F H) (hv : σ[i]? = some (some v)) (E : EnvR c mv F H fr σ (e.hole i)) (hF : F a = none) (hH : H a ≠ none)
    (na : a ∉ fr) (hno : ∀ b ∈ fo, b ∉ fr) (ho' : Ow c F (upd H a ho) (a :: fo) v o) (hall : ∀ b, b ∈ fr ∨ b = a ∨ b ∈ fo → b ∈ fp) (p : PoS c mv W F H fp (.nx (e.put i o)) D) : D.nx σ (upd H a ho) := by
  have ap : a ∈ fp := hall a (.inr (.inl rfl))
  have st : Stp F H fp F (upd H a ho) fp := Stp.chg s ap hF
  have st1 : Stp F H [a] F (upd H a ho) [a] := Stp.chg s (List.mem_singleton.mpr rfl) hF
  have E1 : EnvR c mv F (upd H a ho) fr σ (e.hole i) := E.stp st1 fun b hb z => by
    rw [List.mem_singleton] at z; subst z; exact na hb
  obtain ⟨f2, E2, m2⟩ := E1.back ho' (fun b hb z => by
    rcases List.mem_cons.mp hb with h | h
    · subst h; exact na z
    · exact hno b h z) hv
  refine p F _ f2 σ (st.part (fun _ h => h) fun b hb => ?_) E2
  rcases List.mem_append.mp (m2 b hb) with h | h
  · exact hall b (.inl h)
  · exact hall b (.inr (List.mem_cons.mp h))

/-! ### append -/
def isLst (e : En) (i : Nat) : Bool := match e.sl[i]? with
  | some (some (.ow (.lst _))) => true
  | _ => false
def sAppend (i : Nat) (f : En → Out Rv) : SS := fun e => if isLst e i then (f e).so fun r e1 => match own e1 r with
    | none => .no
    | some (o, e2) => match e2.sl[i]? with
      | some (some (.ow (.lst os))) => if os.length < 1000000 then .nx (e2.put i (.lst (os ++ [o]))) else .no
      | _ => .no
  else .no
theorem ds_append {i : Nat} {x : Str} {a : Expr} {f : En → Out Rv} {px apos cpos pos : Pos} (hK : X.K = c.K) (hN : X.N[i]? = some x) (hv : Vis X.env.scope x) (ha : DE X c mv W a f) (hd : (x == ("__debug__" : Str)) = false := by decide)
    (hcd : (x == ("__classdict__" : Str)) = false := by decide)
    (hbase : attributeBase (.Name x px) "append" X.env (eval (.Name x px) X.env) = eval (.Name x px) X.env := by rfl)
    (hfew : ((backTo cpos (starEach [a] X.env)).all (fun x => !x.1) && (backToKw cpos (keywordEach [] X.env)).all (fun x => x.1.isSome)
      && decide (([a] : List Expr).length + ([] : List Keyword).length + (if ([] : List Keyword).isEmpty then 0 else 1) < 30)) = true := by rfl)
    (hline : (apos.endLine == cpos.line) = true := by rfl) (hs : starEach [a] X.env = (false, eval a X.env) :: starEach [] X.env := by rfl)
    (hsw : swapsWith (.Call (.Attribute (.Name x px) "append" apos) [a] [] cpos) none pos.line X.env = pure false := by rfl) :
    DS X c mv W (.Expr (.Call (.Attribute (.Name x px) "append" apos) [a] [] cpos) pos) (sAppend i f) := by
  refine ps_imp (ps_expr (pe_bm PySem.F.plainAttrs_list PySem.F.slot_list_append PySem.F.type_list_append mt_append (pe_var hN hv hd hcd) (pa_cons ha pa_nil hs) hbase hfew hline hs) hsw) fun D σ H h => ?_
  obtain ⟨F, fp, e, s, E, p⟩ := h
  unfold sAppend at p
  split at p
  · rename_i hl
    -- the receiver is a list
    cases q : e.sl[i]? with
    | none => unfold isLst at hl; rw [q] at hl; cases hl
    | some w =>
      cases w with
      | none => unfold isLst at hl; rw [q] at hl; cases hl
      | some sx =>
        cases sx with
        | me => unfold isLst at hl; rw [q] at hl; cases hl
        | ow ol =>
          cases ol with
          | lst os0 =>
            obtain ⟨v, fo, fr, hv0, ho0, _⟩ := E.take q
            cases ho0 with
            | @lst l fl xs _ hH hF hn hall =>
              refine ⟨_, hv0, .inl ⟨rfl, xs, by rw [hK]; exact SqL.of hH⟩, ?_⟩
              show rd c mv (rvR c mv) W f σ H _
              refine then_ok (R := rvR c mv) (c := c) (mv := mv) (W := W) (D := D) ⟨F, fp, e, s, E, p⟩ fun F1 H1 f1 q1 e1 y r s1 E1 r1 d1 p1 => ?_
              cases z : own e1 r with
              | none => rw [z] at p1; exact p1.elim
              | some yy =>
                obtain ⟨o, e2⟩ := yy
                rw [z] at p1
                obtain ⟨F2, f2, q2, s2, k2, E2, d2, m2, n2⟩ := own_ok s1 E1 r1 d1 z
                simp only at p1
                split at p1
                · rename_i os hq2
                  split at p1
                  · rename_i hsz
                    obtain ⟨v', fo2, fr2, hv2, ho2, E3, d3, g3⟩ := E2.take hq2
                    rw [hv0] at hv2; cases hv2
                    cases ho2 with
                    | @lst l2 fl2 xs2 _ hH2 hF2 hn2 hall2 =>
                      refine ⟨l, xs2, y, rfl, rfl, hH2, by rw [hall2.length]; exact Nat.lt_of_lt_of_le hsz (by decide), ?_⟩
                      have na : l ∉ q2 := fun z => d2 l z ((g3 l).mpr (.inl List.mem_cons_self))
                      have st1 : Stp F2 H1 [l] F2 (upd H1 l (.lst (xs2 ++ [y]))) [l] := Stp.chg s2.fh (List.mem_singleton.mpr rfl) hF2
                      have kk : OwAll c F2 H1 (fl2 ++ (q2 ++ [])) (xs2 ++ [y]) (os ++ [o]) := hall2.append (.cons k2 .nil fun b hb z => nomatch z) fun b hb z => d2 b (by simpa using z) ((g3 b).mpr (.inl (List.mem_cons_of_mem _ hb)))
                      rw [List.append_nil] at kk
                      have nl : ∀ b ∈ fl2 ++ q2, b ∉ [l] := fun b hb z => by
                        rw [List.mem_singleton] at z; subst z
                        rcases List.mem_append.mp hb with h | h
                        · exact hn2 h
                        · exact na h
                      refine chg_ok (fp := f2 ++ q2) (fo := fl2 ++ q2) s2.fh hv0 E3 hF2 (by rw [hH2]; intro q; cases q) (d3 l List.mem_cons_self) (fun b hb z => ?_) (.lst upd_same hF2 (fun z => nl l z (List.mem_singleton.mpr rfl)) (st1.owAll kk nl)) (fun b hb => ?_) (PoS.step p1 s2)
                      · rcases List.mem_append.mp hb with h | h
                        · exact d3 b (List.mem_cons_of_mem _ h) z
                        · exact d2 b h ((g3 b).mpr (.inr z))
                      · rcases hb with h | h | h
                        · exact List.mem_append_left _ ((g3 b).mpr (.inr h))
                        · subst h; exact List.mem_append_left _ ((g3 _).mpr (.inl List.mem_cons_self))
                        · rcases List.mem_append.mp h with h | h
                          · exact List.mem_append_left _ ((g3 b).mpr (.inl (List.mem_cons_of_mem _ h)))
                          · exact List.mem_append_right _ h
                  · exact p1.elim
                · exact p1.elim
          | _ => unfold isLst at hl; rw [q] at hl; cases hl
  · exact p.elim

/-! ### xs[i] = v -/
theorem OwAll.setFz {F H : Hp} {v : V} {d : D} (h : Fz c F v d) : ∀ {fp : List Addr} {vs : List V} {os : List O} (j : Nat), OwAll c F H fp vs os → ∃ fp', OwAll c F H fp' (vs.set j v) (os.set j (.fz d)) ∧ ∀ b ∈ fp', b ∈ fp
  | _, _, _, _, .nil => ⟨[], .nil, fun b hb => nomatch hb⟩
  | _, _, _, 0, .cons (fq := fq) _ r z => ⟨[] ++ fq, .cons (.fz h) r (fun b hb => nomatch hb), fun b hb => List.mem_append_right _ (by simpa using hb)⟩
  | _, _, _, j + 1, .cons (fp := f1) h1 r z => by
    obtain ⟨f2, k, m⟩ := OwAll.setFz h j r
    exact ⟨f1 ++ f2, .cons h1 k (fun b hb q => z b hb (m b q)), fun b hb => (List.mem_append.mp hb).elim (List.mem_append_left _) fun q => List.mem_append_right _ (m b q)⟩
def sSetI (i : Nat) (fv fi : En → Out Rv) : SS := fun e => (fv e).so fun r e1 => if isLst e1 i then (fi e1).so fun r2 e2 => match r2 with
    | .tm (.fz (.int k)) => match fix e2 r with
      | none => .no
      | some (d, e3) => match e3.sl[i]? with
        | some (some (.ow (.lst os))) => match ixN os.length k with
          | none => .no
          | some j => .nx (e3.put i (.lst (os.set j (.fz d))))
        | _ => .no
    | _ => .no
  else .no
theorem isLst_at {F H : Hp} {fp : List Addr} {σ : L2.St} {e : En} {i : Nat} (E : EnvR c mv F H fp σ e) (h : isLst e i = true) : ∃ v, σ[i]? = some (some v) ∧ ∃ l xs, v = .ref l ∧ H l = some (.lst xs) := by
  unfold isLst at h
  split at h
  · rename_i os q
    obtain ⟨v, fo, fr, hv, ho, _⟩ := E.take q
    cases ho with
    | @lst l fl xs _ hH hF hn hall => exact ⟨_, hv, l, xs, rfl, hH⟩
  · cases h
/-- the second of two expressions of a statement -/
theorem then2_ok {R : Rel Rv V} {f : En → Out Rv} {k : Rv → En → SO} {F H : Hp} {fp fq : List Addr} {e : En} {σ : L2.St} {D : Ends} {T : V → Hp → Prop} (s : Sub F H) (E : EnvR c mv F H fp σ e) (hq : ∀ b ∈ fq, F b = none ∧ H b ≠ none)
    (p : PoS c mv W F H (fp ++ fq) ((f e).so k) D)
    (hk : ∀ F1 H1 f1 q1 e1 v a, Stp F H fp F1 H1 (f1 ++ q1) → EnvR c mv F1 H1 f1 σ e1 → R F1 H1 σ q1 v a → (∀ b ∈ q1, b ∉ f1) → PoS c mv W F1 H1 ((f1 ++ q1) ++ fq) (k a e1) D → T v H1) : rd c mv R W f σ H T := by
  refine ⟨F, fp, e, s, E, ?_⟩
  cases z : f e with
  | no => rw [z] at p; exact p
  | ex x e1 =>
    rw [z] at p
    exact fun F1 H1 f1 cls d st E1 xr => p F1 H1 f1 σ cls d (st.part (fun b => List.mem_append_left _) fun _ h => h) E1 xr
  | ok a e1 =>
    rw [z] at p
    exact fun F1 H1 f1 q1 v st E1 r1 d1 => hk F1 H1 f1 q1 e1 v a st E1 r1 d1 (PoS.step p (st.more fun b hb => (hq b hb).2))
theorem ds_setI {i : Nat} {x : Str} {a b : Expr} {fv fi : En → Out Rv} {px pos' pos : Pos} (hN : X.N[i]? = some x) (hv : Vis X.env.scope x) (ha : DE X c mv W a fv) (hb : DE X c mv W b fi) (hd : (x == ("__debug__" : Str)) = false := by decide)
    (hcd : (x == ("__classdict__" : Str)) = false := by decide)
    (hsub : ∀ v, assign (.Subscript (.Name x px) b pos') X.env v = (do
      let ov ← holding [v] (eval (.Name x px) X.env)
      let iv ← holding [v, ov] (eval b X.env)
      standAt pos'
      holding [v, ov, iv] (setItem ov iv v)
      release [v, ov, iv] []) := by intro _; rfl)
    (hs : swapsWithSole [.Subscript (.Name x px) b pos'] a pos.line X.env = pure false := by rfl) (hw : swappedStores [.Subscript (.Name x px) b pos'] a X.env = pure none := by rfl)
    (h1 : (assignEach [.Subscript (.Name x px) b pos'] X.env).map (·.2) = [assign (.Subscript (.Name x px) b pos') X.env] := by rfl) :
    DS X c mv W (.Assign [.Subscript (.Name x px) b pos'] a pos) (sSetI i fv fi) := by
  refine ps_imp (ps_asg ha (pg_sub (pe_var hN hv hd hcd) hb set_list hsub) hs hw h1) fun D σ H h => ?_
  refine then_ok (R := rvR c mv) (c := c) (mv := mv) (W := W) (D := D) h fun F1 H1 f1 q1 e1 y r s1 E1 r1 d1 p1 => ?_
  split at p1
  · rename_i hl
    obtain ⟨w, hσ, _⟩ := isLst_at E1 hl
    refine ⟨w, hσ, ?_⟩
    show rd c mv (rvR c mv) W fi σ H1 _
    refine then2_ok (R := rvR c mv) s1 E1 r1.has p1 fun F2 H2 f2 q2 e2 u r2 s2 E2 r2' d2 p2 => ?_
    split at p2
    · rename_i k
      obtain ⟨rfl, rfl⟩ := rv_int r2'
      rw [List.append_nil] at p2 s2
      have ap := s2.apart (fun b hb => (r1.has b hb).2) d1
      cases z : fix e2 r with
      | none => rw [z] at p2; exact p2.elim
      | some yy =>
        obtain ⟨d, e3⟩ := yy
        rw [z] at p2
        simp only at p2
        obtain ⟨F3, f3, s3, k3, E3, m3⟩ := fix_ok s2.fh E2 (r1.stp s2 d1) ap z
        split at p2
        · rename_i os hq
          cases zj : ixN os.length k with
          | none => rw [zj] at p2; exact p2.elim
          | some j =>
            rw [zj] at p2
            obtain ⟨v', fo, fr, hv', ho, E4, d4, g4⟩ := E3.take hq
            rw [hσ] at hv'; cases hv'
            cases ho with
            | @lst l fl xs _ hH hF hn hall =>
              refine ⟨l, xs, k, j, rfl, rfl, hH, by rw [hall.length]; exact zj, ?_⟩
              obtain ⟨f5, k5, m5⟩ := OwAll.setFz k3 j hall
              have st1 : Stp F3 H2 [l] F3 (upd H2 l (.lst (xs.set j y))) [l] := Stp.chg s3.fh (List.mem_singleton.mpr rfl) hF
              have nl : ∀ b ∈ f5, b ∉ [l] := fun b hb z => by
                rw [List.mem_singleton] at z; subst z
                exact hn (m5 _ hb)
              refine chg_ok (fp := f3) (fo := f5) s3.fh hσ E4 hF (by rw [hH]; intro q; cases q) (d4 l List.mem_cons_self) (fun b hb z => d4 b (List.mem_cons_of_mem _ (m5 b hb)) z) (.lst upd_same hF (fun z => hn (m5 _ z)) (st1.owAll k5 nl)) (fun b hb => ?_) (PoS.step p2 s3)
              rcases hb with h | h | h
              · exact (g4 b).mpr (.inr h)
              · subst h; exact (g4 _).mpr (.inl List.mem_cons_self)
              · exact (g4 b).mpr (.inl (List.mem_cons_of_mem _ (m5 b h)))
        · exact p2.elim
    · exact p2.elim
  · exact p1.elim
end
end DL

set_option Elab.async false
set_option linter.all false
set_option maxRecDepth 100000
set_option maxHeartbeats 2000000
/-! DL, part K0: a tuple has no keys. -/
namespace DL
open PySem L2 PySem.Spec PyProof.Rows
section
variable {prog : Program} {w : World} {A : Around} {E : Value → Shared → Prop}
theorem tuple_keys_none : typeLookup (.type "tuple") "keys" = pure none := am_miss_of_fast (by first | decide +kernel | rfl)
/-- a tuple has no attribute of that name -/
theorem miss_tuple {s : Shared} {a : Addr} {o : Obj} {xs : Array Value} {k : Nat} {Q : Option Value → Shared → Prop} (at_a : s.heap.get? a = some o) (cls : o.cls = .type "tuple") (dat : o.data = .seq xs k) (nodict : o.dict = none) (quiet : A.handled = none)
    (go : ∀ h' tk, (∀ b ob, s.heap.get? b = some ob → h'.get? b = some ob) → Q none { s with heap := h', toks := tk }) : wpAny (model prog w) A (getAttr? (.ref a) "keys") Q E s := by
  obtain ⟨oc, od, ot, osl⟩ := o
  simp only at cls dat nodict
  subst cls dat nodict
  obtain ⟨hp, g, d, tk, os⟩ := s
  have isT : ∀ tk', (⟨hp, g, d, tk', os⟩ : Shared).TypeIs (.ref a) "tuple" := fun _ => ⟨_, at_a, rfl⟩
  have n1 := tuple_keys_none
  have n2 : (["__module__", "__name__", "__qualname__", "__doc__", "__annotations__"] : List Str).contains "keys" = false := by decide +kernel
  have n3 : ("keys" : Str).length + 100 ≤ sizeLine := by first | size_fits | decide +kernel
  have l1 := sub_AttributeError
  have l2 := PySem.F.slot_tuple_getattribute.lookup
  have l3 := PySem.F.slot_tuple_getattribute.bind (.ref a)
  have l4 := am_tuple_getattr_none
  unfold getAttr? getAttrBy? getAttrBy
  repeat (any_goals (first | assumption | exact isT _ | ((with_reducible show wpAny _ _ (call (Value.builtin "tuple.__getattribute__") _ _) _ _ _); refine call_meets PySem.F.slot_tuple_getattribute (isT _) am_entry_tuple_getattribute (PySem.F.args_tuple_getattribute_2 _ _) (meets_getattribute_miss_tuple a xs k osl "keys" _ n1 n2 n3) ⟨at_a, quiet, fun h' tk' e ne => ?_⟩) | wp_step))
  obtain ⟨t', u', he⟩ := ne.there
  show wpAny _ _ (getattributeRaised _ _ _ _ _ _ _) _ _ _
  unfold getattributeRaised
  repeat (any_goals (first | assumption | wp_step))
  all_goals first | exact go _ _ ne.keeps | (dsimp only; repeat (any_goals (first | assumption | exact go _ _ ne.keeps | wp_step)))
end
end DL

set_option Elab.async false
set_option linter.all false
set_option maxRecDepth 100000
set_option maxHeartbeats 2000000
/-! DL, part K: dicts; tuples whose object is known. -/
namespace DL
open PySem L2 PySem.Spec PyProof.Rows

/-! ### the library's side: tuple(d.items()), dict(a tuple of pairs) -/
section
variable {prog : Program} {w : World} {A : Around} {E : Value → Shared → Prop}
/-- the pairs of a tuple go into a dict, from the i-th on -/
theorem pairs_loop {R : Result → Shared → Prop} {S I l : Addr} {items : Array Value} (quiet : A.handled = none) (lI : l ≠ I) (SI : S ≠ I) (Sl : S ≠ l) :
    ∀ (rest : List (Key × Value)) (i : Nat) (acc : List (Key × Value)) (ix : Int) (t : Tok) (s : Shared), items.size = i + rest.length → acc.length + rest.length ≤ sizeLine →
      (∀ (j : Nat) (q : Key × Value), rest[j]? = some q → ∃ (b : Addr) (u : Value), items[i + j]? = some (.ref b) ∧ b ≠ S ∧ b ≠ I ∧ IsTup s.heap b #[u, q.2] ∧ keyIs q.1 u = true) →
      s.heap.IsTupleIter I l i → s.heap.IsTuple l items → s.heap.DictOf (mixKind prog w) S acc →
      (∀ h' tk, h'.DictOf (mixKind prog w) S (merged acc rest) → (∀ b o, b ≠ S → b ≠ I → s.heap.get? b = some o → h'.get? b = some o) → R (.ok (.ret .none)) { s with heap := h', toks := tk }) →
      codeAny (model prog w) A (.builtin "dict.update.loop" ⟨[.ref S, .ref I, .int ix t, .none], []⟩) R s := by
  intro rest
  induction rest with
  | nil =>
    intro i acc ix t s size room ht hit hl hm hR
    refine codeAny_builtin ud_entry ?_
    rw [Around.under_plainId ud_plain _]
    show wpAny _ A.in1 (pyNext (.ref I) >>= _) _ _ s
    have atEnd : items[i]? = none := Array.getElem?_eq_none (by rw [size, List.length_nil]; exact Nat.le_refl _)
    refine wpAny_bind (wpAny_pyNext_tuple_end (A := A.in1) quiet hit hl atEnd fun h' he => ?_)
    show wpAny _ A.in1 (Builtin.Dict.addKeywords S [] >>= _) _ _ _
    refine wpAny_bind (wpAny_pure (wpAny_pure ?_))
    exact hR h' s.toks (hm.extBut he SI) fun b o _ hb e => he b o hb e
  | cons q rest ih =>
    intro i acc ix t s size room ht hit hl hm hR
    obtain ⟨b, u, hb, bS, bI, htup, hk⟩ := ht 0 q rfl
    rw [List.length_cons] at size room
    refine codeAny_builtin ud_entry ?_
    rw [Around.under_plainId ud_plain _]
    show wpAny _ A.in1 (pyNext (.ref I) >>= _) _ _ s
    refine wpAny_bind (wpAny_pyNext_tuple_item (x := .ref b) hit hl (by simpa using hb) fun h1 it1 same1 => ?_)
    have tup1 : IsTup h1 b #[u, q.2] := htup.extBut same1.extBut bI
    have l1 : h1.IsTuple l items := hl.extBut same1.extBut lI
    have m1 : h1.DictOf (mixKind prog w) S acc := hm.extBut same1.extBut SI
    obtain ⟨o, ho, hc, n, hd⟩ := id tup1
    show wpAny _ A.in1 (holding [Value.ref b] _ >>= _) _ _ _
    refine wpAny_bind (wpAny_holding (wpAny_bind (wpAny_tryCatch ?_)))
    unfold Builtin.Dict.pairItems
    refine wpAny_bind (wpAny_typeOf (T := "tuple") ⟨o, ho, hc⟩ ?_)
    rw [if_pos (by first | decide | rfl | simp)]
    refine wpAny_bind (wpAny_seqItems ho hd (wpAny_pure ?_))
    show wpAny _ A.in1 (holding [u, q.2] (dictSet S u q.2)) _ _ _
    refine wpAny_holding (wpAny_dictSet_pairs (knd := mixKind prog w) (k := q.1) hk m1 (fun h2 m2 same2 => ?_) (by omega))
    have more := stored_length_le acc q.1 q.2
    refine wpAny_pure ⟨plainId_quiet ud_plain _, ih (i + 1) (stored acc q.1 q.2) (ix + 1) 0 _ (show items.size = i + 1 + rest.length by omega) (by omega) (fun j q' e => ?_) ?_ ?_ m2 fun h' tk hd' k => ?_⟩
    · obtain ⟨b', u', at', b'S, b'I, tup', hk'⟩ := ht (j + 1) q' (by simpa using e)
      refine ⟨b', u', ?_, b'S, b'I, (tup'.extBut same1.extBut b'I).extBut same2.extBut b'S, hk'⟩
      have e2 : i + 1 + j = i + (j + 1) := by omega
      rw [e2]
      exact at'
    · exact it1.extBut same2.extBut (Ne.symm SI)
    · exact l1.extBut same2.extBut (Ne.symm Sl)
    · exact hR h' tk hd' fun x ox h3 h4 e => k x ox h3 h4 (same2.extBut x ox h3 (same1.extBut x ox h4 e))
/-- dict(t), t a tuple of pairs -/
theorem call_dict_tuple {s : Shared} {l : Addr} {ol : Obj} {items : Array Value} {n : Nat} {prs : List (Key × Value)} {Q : Value → Shared → Prop} (quiet : A.handled = none) (hl : s.heap.get? l = some ol) (hc : ol.cls = .type "tuple") (hd : ol.dict = none)
    (hdat : ol.data = .seq items n) (size : items.size = prs.length) (room : prs.length ≤ sizeLine)
    (ht : ∀ (j : Nat) (q : Key × Value), prs[j]? = some q → ∃ (b : Addr) (u : Value), items[j]? = some (.ref b) ∧ IsTup s.heap b #[u, q.2] ∧ keyIs q.1 u = true)
    (go : ∀ h' tk, h'.DictOf (mixKind prog w) s.heap.objs.size (merged [] prs) → (∀ b o, s.heap.get? b = some o → h'.get? b = some o) → Q (.ref s.heap.objs.size) { s with heap := h', toks := tk }) :
    wpAny (model prog w) A (call (.type "dict") [.ref l]) Q E s := by
  refine callType_codes (Q₁ := fun obj s₁ => obj = .ref s.heap.objs.size ∧ s₁ = { s with heap := s.heap.push { cls := .type "dict", data := .dict #[] } }) PySem.F.kt_called_dict (PySem.F.kt_typeCall_dict_1 _) PySem.F.entry_dict_init (kt_code_dict_new _ ⟨rfl, rfl⟩) ?_
  rintro obj s₁ ⟨rfl, rfl⟩
  have fresh : (s.heap.push { cls := .type "dict", data := .dict #[] }).DictOf (mixKind prog w) s.heap.objs.size [] := Heap.DictOf.new s.heap
  have k0 : ∀ b o, s.heap.get? b = some o → (s.heap.push { cls := .type "dict", data := .dict #[] }).get? b = some o := fun b o e => Heap.get?_push_of_some _ e
  refine ⟨fresh.typeIs, PySem.F.args_dict_init_2 _ _, ?_⟩
  unfold Builtin.«dict.__init__»
  refine wpAny_bind ?_
  unfold Builtin.Dict.selfAndRest
  refine wpAny_bind (wpAny_notOrdered_dict fresh.typeIs ?_)
  show wpAny _ _ (pure (s.heap.objs.size, [Value.ref l])) _ _ _
  refine wpAny_pure ?_
  show wpAny _ _ (Builtin.Dict.updateFrom "dict.__init__" s.heap.objs.size (.ref l) [] .none) _ _ _
  unfold Builtin.Dict.updateFrom
  refine wpAny_bind (wpAny_typeOf (T := "tuple") ⟨ol, k0 _ _ hl, hc⟩ ?_)
  rw [if_pos (by first | decide | rfl | simp)]
  refine wpAny_bind (miss_tuple (k0 _ _ hl) hc hdat hd quiet fun h1 tk1 k1 => ?_)
  rw [if_pos (show (none : Option Value).isNone = true from rfl)]
  refine wpAny_bind (wpAny_rule ?_)
  have l1 : h1.IsTuple l items := ⟨ol, k1 _ _ (k0 _ _ hl), hc, n, hdat⟩
  have atS : (s.heap.push { cls := .type "dict", data := .dict #[] }).get? s.heap.objs.size = some { cls := .type "dict", data := .dict #[] } := Heap.get?_push_size _ rfl
  have hS : s.heap.objs.size < h1.objs.size := Heap.lt_size (k1 _ _ atS)
  refine wpAny_bind (wpAny_pyIter_tuple l1 ?_)
  have k2 : ∀ b o, h1.get? b = some o → (h1.push { cls := .type "tuple_iterator", data := .fields #[.ref l, .int 0 0] }).get? b = some o := fun b o e => Heap.get?_push_of_some _ e
  have hlt : l < s.heap.objs.size := Heap.lt_size hl
  have all : ∀ b o, s.heap.get? b = some o → (h1.push { cls := .type "tuple_iterator", data := .fields #[.ref l, .int 0 0] }).get? b = some o := fun b o e => k2 _ _ (k1 _ _ (k0 _ _ e))
  have key := pairs_loop (prog := prog) (w := w) (A := A.in1) (R := wants (fun r s₂ => r = .none ∧ Q (.ref s.heap.objs.size) s₂) E) (S := s.heap.objs.size) (I := h1.objs.size) (l := l) (items := items) quiet
    (Nat.ne_of_lt (Nat.lt_trans hlt hS)) (Nat.ne_of_lt hS) (Nat.ne_of_gt hlt) prs 0 [] 0 0
    { s with heap := h1.push { cls := .type "tuple_iterator", data := .fields #[.ref l, .int 0 0] }, toks := tk1 } (by omega) (by simpa using room)
    (fun j q e => by
      obtain ⟨b, u, e1, e2, e3⟩ := ht j q e
      have hb : b < s.heap.objs.size := e2.lt
      exact ⟨b, u, by simpa using e1, Nat.ne_of_lt hb, Nat.ne_of_lt (Nat.lt_trans hb hS), e2.keeps all, e3⟩)
    ⟨_, Heap.get?_push_size _ rfl, rfl, rfl⟩ (l1.push _) ((fresh.at fun o e => k1 _ _ e).at fun o e => k2 _ _ e)
    (fun h' tk hd' k => ⟨rfl, go h' tk hd' fun b o e => k b o (Nat.ne_of_lt (Heap.lt_size e)) (Nat.ne_of_lt (Nat.lt_trans (Heap.lt_size e) hS)) (all b o e)⟩)
  first
    | exact wpAny_pure ⟨plainId_quiet ud_plain _, key⟩
    | exact wpAny_bind (wpAny_pure (wpAny_pure ⟨plainId_quiet ud_plain _, key⟩))

/-- what a dict's items are collected to -/
theorem collect_items {s : Shared} {r d : Addr} {kvs : List (Key × Value)} {ep : Nat} {Q : List Value → Shared → Prop} (quiet : A.handled = none) (hv : s.heap.IsItemsView r d) (hm : s.heap.DictAt (mixKind prog w) d kvs ep) (room : kvs.length ≤ sizeLine)
    (go : ∀ h' tk as, (∀ b o, s.heap.get? b = some o → h'.get? b = some o) → as.length = kvs.length → PySem.W.KdxG (mixKind prog w) kvs s.heap.objs.size h' as → Q (as.map Value.ref) { s with heap := h', toks := tk }) :
    wpAny (model prog w) A (collect (.ref r)) Q E s := by
  unfold collect
  refine wpAny_bind (wpAny_runValue (codeAny_builtin PySem.F.entry_proto_collect ?_))
  rw [Around.under_plainId PySem.F.plain_proto_collect _]
  show wpAny _ A.in1 (newList [] >>= fun l => again (.builtin "list.__iadd__" ⟨[l, .ref r], []⟩)) _ _ s
  refine wpAny_bind (wpAny_newObj_type (wpAny_pure ⟨plainId_quiet PySem.F.plain_list_iadd _, codeAny_builtin PySem.F.entry_list_iadd ?_⟩))
  rw [Around.under_plainId PySem.F.plain_list_iadd _]
  show wpAny _ A.in1 (Builtin.List.listExtendWith (.ref s.heap.objs.size) (.ref r) (.ref s.heap.objs.size)) _ _ _
  have atS : (s.heap.push { cls := .type "list", data := .seq ([] : List Value).toArray }).get? s.heap.objs.size = some { cls := .type "list", data := .seq #[] 0 } := Heap.get?_push_size _ rfl
  have hr : r < s.heap.objs.size := let ⟨_, ho, _⟩ := hv; Heap.lt_size ho
  let T : Result → Shared → Prop := fun res s' => res = .ok (.ret (.ref s.heap.objs.size)) ∧ ∃ h' tk acc c as, s' = { s with heap := h', toks := tk } ∧ (∀ b o, s.heap.get? b = some o → h'.get? b = some o) ∧
    h'.get? s.heap.objs.size = some { cls := .type "list", dict := none, data := .seq acc c, slots := #[] } ∧ as.length = kvs.length ∧ PySem.W.KdxG (mixKind prog w) kvs s.heap.objs.size h' as ∧ acc.toList = as.map Value.ref
  have ext : wpAny (model prog w) A.in1 (Builtin.List.listExtendWith (.ref s.heap.objs.size) (.ref r) (.ref s.heap.objs.size))
      (fun fin s' => match fin with | .done f => T (.ok f) s' | .again c' => c'.quiet = true ∧ codeAny (model prog w) A c' T s') (fun e s' => T (.error e) s') { s with heap := s.heap.push { cls := .type "list", data := .seq ([] : List Value).toArray } } := by
    refine PySem.W.kdx_extend (R := T) (knd := mixKind prog w) (kvs := kvs) (ep := ep) (A := A) (s := { s with heap := s.heap.push { cls := .type "list", data := .seq ([] : List Value).toArray } }) quiet
      (let ⟨o, ho, x⟩ := hv; ⟨o, Heap.get?_push_of_some _ ho, x⟩) (hm.push _) s.heap.objs.size (Nat.ne_of_gt hr) (Nat.ne_of_lt hm.lt_size) _ 0 atS (fun h' tk acc c as hk hS hl hG hacc => ?_) room
    exact ⟨rfl, h', tk, acc, c, as, rfl, fun b o e => hk b o (Nat.ne_of_lt (Heap.lt_size e)) (Heap.get?_push_of_some _ e), hS, hl, hG.low (Nat.le_of_lt (by rw [Heap.size_push]; exact Nat.lt_succ_self _)), hacc⟩
  have fin : ∀ res s', T res s' → (match res with
      | Except.ok (Flow.ret v) => wpAny (model prog w) A (match v with
          | Value.ref a => do
            match (← load a).data with
              | Data.seq xs _ => pure xs.toList
              | _ => unsupported "internal:collect"
          | _ => unsupported "internal:collect") Q E s'
      | Except.ok _ => False
      | Except.error e => E e s') := by
    rintro res s' ⟨rfl, h', tk, acc, c, as, rfl, hk, hS, hl, hG, hacc⟩
    show wpAny _ A (load s.heap.objs.size >>= _) _ _ _
    refine wpAny_bind (wpAny_load hS (wpAny_pure ?_))
    rw [hacc]
    exact go h' tk as hk hl hG
  refine wpAny_mono ext (fun fi s' h => ?_) fun e s' h => ?_
  · cases fi with
    | done f => exact fin _ _ h
    | again c' => exact ⟨h.1, codeAny_mono h.2 fun r s'' hr => fin r s'' hr⟩
  · exact absurd h.1 (by simp)
/-- tuple(d.items()) -/
theorem call_tuple_items {s : Shared} {r d : Addr} {kvs : List (Key × Value)} {ep : Nat} {Q : Value → Shared → Prop} (quiet : A.handled = none) (hv : s.heap.IsItemsView r d) (hm : s.heap.DictAt (mixKind prog w) d kvs ep) (room : kvs.length ≤ sizeLine)
    (go : ∀ h' tk as, (∀ b o, s.heap.get? b = some o → h'.get? b = some o) → as.length = kvs.length → PySem.W.KdxG (mixKind prog w) kvs s.heap.objs.size h' as →
      Q (.ref h'.objs.size) { s with heap := h'.push { cls := .type "tuple", data := .seq (as.map Value.ref).toArray }, toks := tk }) :
    wpAny (model prog w) A (call (.type "tuple") [.ref r]) Q E s := by
  refine callType_codes (Q₁ := fun obj s₁ => s₁.TypeIs obj "tuple" ∧ Q obj s₁) PySem.F.called_tuple (PySem.F.typeCall_tuple_1 _) PySem.F.entry_object_init ?_ fun obj s₁ hq => ⟨hq.1, PySem.F.args_object_init_2 obj _, ?_⟩
  · refine codeAny_call_builtin PySem.F.called_tuple.plain PySem.F.entry_tuple_new (wpAny_of_eq (PySem.F.newCall_tuple_1 _) ?_)
    have hsub := sub_tuple_self
    have hinit := init_tuple_lookup
    have hmh := madeHere_tuple
    have hT : s.TypeIs (.ref r) "dict_items" := hv.typeIs
    obtain ⟨hp, g, dr, tk, os⟩ := s
    wp_walk using wpAny_typeOf hT, collect_items (A := A.in1.in1) quiet hv hm room
    intro h' tk' as hk hl hG
    show wpAny _ _ (Builtin.Tuple.tupleExact (as.map Value.ref).toArray >>= fun v => ret v) _ _ _
    unfold Builtin.Tuple.tupleExact
    refine wpAny_bind (wpAny_newObj_type ?_ (by show (as.map Value.ref).toArray.size ≤ sizeLine; rw [List.size_toArray, List.length_map, hl]; exact room))
    exact wpAny_pure ⟨⟨_, Heap.get?_push_size _ rfl, rfl⟩, go h' tk' as hk hl hG⟩
  · exact object_init_meets PySem.F.called_tuple.init.lookup PySem.F.called_tuple.made (by decide) prog w A.in1 _ s₁ ⟨hq.1, rfl, hq.2⟩
end
end DL

set_option Elab.async false
set_option linter.all false
set_option maxRecDepth 100000
set_option maxHeartbeats 2000000
/-! DL, part L: dicts by trees. -/
namespace DL
open PySem L2 PySem.Spec PyProof.Rows

/-! ### tuples whose object is known -/
section
variable {X : Cx} {c : Cs} {mv : V} {W : WX}
/-- a tuple laid, its object known -/
theorem knownOk {P : Program} {w : World} {H : Hp} {h : Heap} {a : Addr} {xs : List V} {its : List Value} {o : Obj} (hz : xs.length ≤ sizeLine) (r : Vals xs its) (ho : h.get? a = some o) (hc : o.cls = .type "tuple") {n : Nat} (hd : o.data = .seq its.toArray n) :
    ObjOk P w H h a (.frz o (.tup xs)) := ⟨ho, hz, its, r, o, ho, hc, n, hd⟩
theorem call_tupleK : CallR X (.type "tuple") (fun xs H Q => ∃ p ys, xs = [.ref p] ∧ SqL X.K H p ys ∧ ∀ l o, H l = none → o.dict = none → Q (.ref l) (upd H l (.frz o (.tup ys)))) := by
  intro pins s σ H xs us Q I r h
  obtain ⟨p, ys, rfl, hq, q⟩ := h
  obtain ⟨u, rfl, rx⟩ := vals1 r
  cases rx
  obtain ⟨its, r', pl, hz⟩ := I.list hq
  refine call_tuple_list pl.isList (fun h' kp => ?_) (by rw [List.size_toArray, ← r'.length]; exact hz)
  have I1 : Inv X pins σ H { s with heap := h' } := I.kept (t' := s.toks) kp
  have at' : (h'.push { cls := .type "tuple", data := .seq its.toArray }).get? h'.objs.size = some { cls := .type "tuple", data := .seq its.toArray } := Heap.get?_push_size _ rfl
  have I2 : Inv X pins σ (upd H h'.objs.size (.frz { cls := .type "tuple", data := .seq its.toArray } (.tup ys))) { s with heap := h'.push { cls := .type "tuple", data := .seq its.toArray } } :=
    I1.laid (t' := s.toks) (fun b o e => Heap.get?_push_of_some _ e) (Nat.le_refl _) (knownOk hz r' at' rfl rfl)
  exact ⟨.ref h'.objs.size, _, I2, rfl, q _ _ (I1.hok.fresh (Nat.le_refl _)) rfl⟩
def tTupK (t : TA) : TE := fun σ H Q => t σ H fun xs H1 => xs.length ≤ sizeLine ∧ ∀ p o, H1 p = none → o.dict = none → Q (.ref p) (upd H1 p (.frz o (.tup xs)))
theorem pe_tupK {es : List Expr} {t : TA} {x1} {pos : Pos} (h : PA X es t) : PE X (.Tuple es x1 pos) (tTupK t) := by
  constructor
  intro pins s σ H Q I hq
  refine wpAny_Tuple_spliced (thn (h.run pos pins s σ H _ I hq) ?_)
  rintro us s1 ⟨xs, H1, I1, r, z, q⟩
  refine ⟨by rw [← r.length]; exact z, ?_⟩
  have hf : H1 s1.heap.objs.size = none := I1.hok.fresh (Nat.le_refl _)
  have at' : (s1.heap.push { cls := .type "tuple", data := .seq us.toArray }).get? s1.heap.objs.size = some { cls := .type "tuple", data := .seq us.toArray } := Heap.get?_push_size _ rfl
  exact ⟨.ref s1.heap.objs.size, _, I1.laid (t' := s1.toks) (fun b u e => Heap.get?_push_of_some _ e) (Nat.le_refl _) (knownOk z r at' rfl rfl), rfl, q _ _ hf rfl⟩
theorem new_tupK {F H : Hp} {vs : List V} {ds : List D} {Q : VK} (s : Sub F H) (h : FzAll c F vs ds) (k : ∀ F' H' fq v, Stp F H [] F' H' fq → Ow c F' H' fq v (.fz (.tup true ds)) → Q v H') : ∀ p o, H p = none → o.dict = none → Q (.ref p) (upd H p (.frz o (.tup vs))) := fun p o hp ho => by
  have st : Stp F H [] F (upd H p (.frz o (.tup vs))) [p] := Stp.lay s hp fun _ h => h
  have Fp : F p = none := by
    cases q : F p with
    | none => rfl
    | some u => have := s p u q; rw [hp] at this; cases this
  have ic : Stp F (upd H p (.frz o (.tup vs))) [p] (ice F (upd H p (.frz o (.tup vs))) [p]) (upd H p (.frz o (.tup vs))) [] :=
    Stp.ice st.fh (fun b hb => by rw [List.mem_singleton] at hb; subst hb; exact Fp) (fun b hb => hb) fun b hb => nomatch hb
  have st2 := st.trans ic
  have at' : ice F (upd H p (.frz o (.tup vs))) [p] p = some (.frz o (.tup vs)) := (ice_in (List.mem_singleton.mpr rfl)).trans upd_same
  exact k _ _ [] _ st2 (.fz (.tup (.inl (.inr ⟨o, at'⟩)) ⟨fun _ => ⟨o, at', ho⟩, fun z => by cases z⟩ (h.mono st2.ff)))
def tupleKD : List D → Option O
  | [.lst ds] => some (.fz (.tup true ds))
  | _ => none
theorem fop_tupleK (hK : X.K = c.K) : FOp c (fun xs H Q => ∃ p ys, xs = [.ref p] ∧ SqL X.K H p ys ∧ ∀ l o, H l = none → o.dict = none → Q (.ref l) (upd H l (.frz o (.tup ys)))) tupleKD := fun F H vs ds o Q s h e k => by
  rw [hK]
  unfold tupleKD at e
  split at e
  · cases e
    cases h with
    | cons h1 h2 =>
      cases h2
      cases h1 with
      | lst hs ha => exact ⟨_, _, rfl, s.sqL hs, new_tupK s ha k⟩
  · cases e
theorem de_tupleK {a : Expr} {f : En → Out (List Rv)} {p pos : Pos} (hK : X.K = c.K) (hm : X.mg "tuple" = none) (hg : Gl X "tuple") (ha : DA X c mv W [a] f) (he : starEach [a] X.env = (false, eval a X.env) :: starEach [] X.env := by rfl) : DE X c mv W (.Call (.Name "tuple" p) [a] [] pos) (eF tupleKD f) :=
  de_typeF call_tupleK (fop_tupleK hK) hg hm (by decide +kernel) ha (he := he)
def eTupK (f : En → Out (List Rv)) : En → Out Rv := fun e => (f e).bind fun rs e1 => match fixAll e1 rs with
  | none => .no
  | some (ds, e2) => if ds.length ≤ 1000 then .ok (.tm (.fz (.tup true ds))) e2 else .no
theorem de_tupK {es : List Expr} {f : En → Out (List Rv)} {x1} {pos : Pos} (h : DA X c mv W es f) : DE X c mv W (.Tuple es x1 pos) (eTupK f) :=
  pe_imp (pe_tupK h) fun σ H Q h => args_ok h fun F H fp fq e vs rs s E rr dj p => by
    cases z : fixAll e rs with
    | none => rw [z] at p; exact p.elim
    | some y =>
      obtain ⟨ds, e2⟩ := y
      rw [z] at p
      simp only at p
      by_cases hs : ds.length ≤ 1000
      · rw [if_pos hs] at p
        obtain ⟨F1, f1, s1, k1, E1, m1⟩ := fixAll_ok s E rr dj z
        refine ⟨by rw [k1.length]; exact small_line hs, new_tupK s1.fh k1 fun F2 H2 q2 v s2 h2 => ?_⟩
        obtain ⟨s3, d3⟩ := s2.beside (fp := f1) E1.has
        exact p F2 H2 f1 q2 v (s1.trans s3) (E1.stp s2 fun b hb z => nomatch z) (.tm h2) d3
      · rw [if_neg hs] at p; exact p.elim

/-! ### keys, places -/
def keyD : D → Option Key
  | .int i => some (.inl i)
  | .str x => some (.inr x)
  | _ => none
def lookL {κ α : Type} [DecidableEq κ] : List κ → List α → κ → Option α
  | k :: ks, a :: as, x => if k = x then some a else lookL ks as x
  | _, _, _ => none
theorem key_V {F : Hp} {v : V} {d : D} {k : Key} (h : Fz c F v d) (e : keyD d = some k) : v = kV k := by
  cases h with
  | int => cases e; rfl
  | str => cases e; rfl
  | _ => cases e
theorem look_fz {κ : Type} [DecidableEq κ] {F : Hp} {k : κ} : ∀ {kvs : List (κ × V)} {ds : List D}, FzAll c F (kvs.map (·.2)) ds → (∀ d, lookL (kvs.map (·.1)) ds k = some d → ∃ v, valV kvs k = some v ∧ Fz c F v d) ∧ (lookL (kvs.map (·.1)) ds k = none → valV kvs k = none)
  | [], _, h => by
    cases h
    exact ⟨(fun d e => by cases e), fun _ => rfl⟩
  | p :: kvs, _, h => by
    cases h with
    | cons h1 h2 =>
      obtain ⟨i1, i2⟩ := look_fz (k := k) h2
      by_cases q : p.1 = k
      · refine ⟨fun d e => ?_, fun e => ?_⟩
        · simp only [List.map_cons, lookL, if_pos q] at e
          cases e
          exact ⟨_, valV_pos q, h1⟩
        · simp only [List.map_cons, lookL, if_pos q] at e
          cases e
      · have hv : valV (p :: kvs) k = valV kvs k := by simp [valV, List.find?_cons, q]
        refine ⟨fun d e => ?_, fun e => ?_⟩
        · simp only [List.map_cons, lookL, if_neg q] at e
          rw [hv]
          exact i1 d e
        · simp only [List.map_cons, lookL, if_neg q] at e
          rw [hv]
          exact i2 e
theorem Ow.out {F H : Hp} {fp : List Addr} {v : V} {d : D} (h : Ow c F H fp v (.fz d)) : Fz c F v d := by
  cases h with
  | fz h => exact h
theorem look_ow {κ : Type} [DecidableEq κ] {F H : Hp} {k : κ} : ∀ {kvs : List (κ × V)} {fp : List Addr} {os : List O}, OwAll c F H fp (kvs.map (·.2)) os → (∀ d, lookL (kvs.map (·.1)) os k = some (.fz d) → ∃ v, valV kvs k = some v ∧ Fz c F v d) ∧ (lookL (kvs.map (·.1)) os k = none → valV kvs k = none)
  | [], _, _, h => by
    cases h
    exact ⟨(fun d e => by cases e), fun _ => rfl⟩
  | p :: kvs, _, _, h => by
    cases h with
    | cons h1 h2 hd =>
      obtain ⟨i1, i2⟩ := look_ow (k := k) h2
      by_cases q : p.1 = k
      · refine ⟨fun d e => ?_, fun e => ?_⟩
        · simp only [List.map_cons, lookL, if_pos q] at e
          cases e
          exact ⟨_, valV_pos q, h1.out⟩
        · simp only [List.map_cons, lookL, if_pos q] at e
          cases e
      · have hv : valV (p :: kvs) k = valV kvs k := by simp [valV, List.find?_cons, q]
        refine ⟨fun d e => ?_, fun e => ?_⟩
        · simp only [List.map_cons, lookL, if_neg q] at e
          rw [hv]
          exact i1 d e
        · simp only [List.map_cons, lookL, if_neg q] at e
          rw [hv]
          exact i2 e
/-- what a dict tells of a key: none (the tree is no such dict, or the thing is owned), or what is there -/
def lookO (o : O) (k : Key) : Option (Option D) := match o with
  | .fz (.dK ks ds) => some (lookL ks ds k)
  | .dK ks os => match lookL ks os k with
    | none => some none
    | some (.fz d) => some (some d)
    | _ => none
  | _ => none
theorem lookO_ok {F H : Hp} {fp : List Addr} {v : V} {o : O} {k : Key} {r : Option D} (s : Sub F H) (h : Ow c F H fp v o) (e : lookO o k = some r) : ∃ a kvs, v = .ref a ∧ Rd H a (.dK kvs) ∧ (∀ d, r = some d → ∃ u, valV kvs k = some u ∧ Fz c F u d) ∧ (r = none → valV kvs k = none) := by
  cases h with
  | fz h =>
    cases h with
    | @dK a kvs ks ds ha hk hz =>
      subst hk
      have e' : lookL (kvs.map (·.1)) ds k = r := Option.some.inj e
      obtain ⟨i1, i2⟩ := look_fz (k := k) hz
      exact ⟨a, kvs, rfl, s.rd ha, fun d q => i1 d (e'.trans q), fun q => i2 (e'.trans q)⟩
    | _ => cases e
  | @dK a fl kvs ks os ha hF hn hk hz =>
    subst hk
    obtain ⟨i1, i2⟩ := look_ow (k := k) hz
    unfold lookO at e
    simp only at e
    refine ⟨a, kvs, rfl, .inl ha, ?_⟩
    split at e
    · rename_i q
      cases e
      exact ⟨fun d z => (nomatch z), fun _ => i2 q⟩
    · rename_i d q
      cases e
      exact ⟨fun d' z => by cases z; exact i1 d q, fun z => nomatch z⟩
    · cases e
  | _ => cases e
def isDk (o : Option O) : Bool := match o with
  | some (.fz (.dK _ _)) => true
  | some (.dK _ _) => true
  | _ => false
theorem isDk_ok {F H : Hp} {fp : List Addr} {v : V} {o : O} (s : Sub F H) (h : Ow c F H fp v o) (e : isDk (some o) = true) : ∃ a kvs, v = .ref a ∧ Rd H a (.dK kvs) := by
  cases h with
  | fz h =>
    cases h with
    | dK ha hk hz => exact ⟨_, _, rfl, s.rd ha⟩
    | _ => cases e
  | dK ha hF hn hk hz => exact ⟨_, _, rfl, .inl ha⟩
  | _ => cases e
/-- d.get(k) -/
def eGet1 (f g : En → Out Rv) : En → Out Rv := fun e => (f e).bind fun r e1 => if isDk (treeOf e1 r) then (g e1).bind fun rk e2 => match look e2 rk with
    | none => .no
    | some kd => match keyD kd with
      | none => .no
      | some k => match treeOf e2 r with
        | none => .no
        | some o => match lookO o k with
          | none => .no
          | some none => .ok (.tm (.fz .non)) e2
          | some (some d) => .ok (.tm (.fz d)) e2
  else .no
theorem de_get1 {o a : Expr} {f g : En → Out Rv} {apos cpos : Pos} {k : Nat} (r : Room k X.A) (ho : DE X c mv W o f) (ha : DE X c mv W a g) (m : M1 X o "get" apos a cpos) : DE X c mv W (.Call (.Attribute o "get" apos) [a] [] cpos) (eGet1 f g) :=
  pe_imp (pe_dget1 (hu_of r) ho ha m) fun σ H Q h => by
    obtain ⟨F, fp, e, s, E, p⟩ := h
    refine ⟨F, fp, e, s, E, Po.seq (R1 := rvR c mv) p fun r1 e1 F1 H1 f1 q1 v _ s1 E1 rr1 d1 p1 => ?_⟩
    split at p1
    · rename_i hd
      cases zt : treeOf e1 r1 with
      | none => rw [zt] at hd; cases hd
      | some o1 =>
        rw [zt] at hd
        obtain ⟨fo, ho1⟩ := tree_ok E1 rr1 zt
        obtain ⟨a1, kvs1, rfl, ha1⟩ := isDk_ok s1.fh ho1 hd
        refine ⟨a1, rfl, .inl ⟨kvs1, ha1⟩, F1, f1, e1, s1.fh, E1, ?_⟩
        refine Po.seqS (R1 := rvR c mv) p1 rr1.has fun rk e2 F2 H2 f2 q2 w _ s2 E2 rr2 d2 p2 => ?_
        cases z1 : look e2 rk with
        | none => rw [z1] at p2; exact p2.elim
        | some kd =>
          rw [z1] at p2
          simp only at p2
          have hkd := look_ok s2.fh E2 rr2 z1
          cases z2 : keyD kd with
          | none => rw [z2] at p2; exact p2.elim
          | some k =>
            rw [z2] at p2
            simp only at p2
            cases z3 : treeOf e2 r1 with
            | none => rw [z3] at p2; exact p2.elim
            | some o2 =>
              rw [z3] at p2
              simp only at p2
              obtain ⟨fo2, ho2⟩ := tree_ok E2 (rr1.stp s2 d1) z3
              cases z4 : lookO o2 k with
              | none => rw [z4] at p2; exact p2.elim
              | some res =>
                rw [z4] at p2
                obtain ⟨a2, kvs2, e2', ha2, l1, l2⟩ := lookO_ok s2.fh ho2 z4
                cases e2'
                have hw := key_V hkd z2
                subst hw
                refine ⟨valV kvs2 k, (.inl ⟨kvs2, k, ha2, rfl, rfl⟩), ?_⟩
                have sub : ∀ b ∈ f2, b ∈ (f2 ++ q2) ++ q1 := fun b hb => List.mem_append_left _ (List.mem_append_left _ hb)
                cases res with
                | none => rw [l2 rfl]; exact Po.fz s2.fh E2 .non sub p2
                | some d =>
                  obtain ⟨u, hu, hz⟩ := l1 d rfl
                  rw [hu]
                  exact Po.fz s2.fh E2 hz sub p2
    · exact p1.elim

/-! ### d[k] = v -/
def putKs {κ : Type} [DecidableEq κ] (ks : List κ) (k : κ) : List κ := if k ∈ ks then ks else ks ++ [k]
def putAt {κ α : Type} [DecidableEq κ] : List κ → List α → κ → α → List α
  | k :: ks, a :: as, x, b => (if k = x then b else a) :: putAt ks as x b
  | _, as, _, _ => as
def putOs {κ α : Type} [DecidableEq κ] (ks : List κ) (as : List α) (k : κ) (b : α) : List α := if k ∈ ks then putAt ks as k b else as ++ [b]
theorem any_mem {κ : Type} [DecidableEq κ] {kvs : List (κ × V)} {k : κ} : (kvs.any fun kv => decide (kv.1 = k)) = true ↔ k ∈ kvs.map (·.1) := by
  rw [List.any_eq_true, List.mem_map]
  constructor
  · rintro ⟨p, h1, h2⟩
    exact ⟨p, h1, of_decide_eq_true h2⟩
  · rintro ⟨p, h1, h2⟩
    exact ⟨p, h1, decide_eq_true h2⟩
theorem putK_fst {κ : Type} [DecidableEq κ] {kvs : List (κ × V)} {k : κ} {v : V} : (putK kvs k v).map (·.1) = putKs (kvs.map (·.1)) k := by
  unfold putK putKs
  by_cases h : k ∈ kvs.map (·.1)
  · rw [if_pos (any_mem.mpr h), if_pos h, List.map_map]
    apply List.map_congr_left
    intro p _
    show (if p.1 = k then (p.1, v) else p).1 = p.1
    split <;> rfl
  · rw [if_neg (fun q => h (any_mem.mp q)), if_neg h, List.map_append]
    rfl
theorem putAt_ow {κ : Type} [DecidableEq κ] {F H : Hp} {k : κ} {v : V} {d : D} (hv : Fz c F v d) : ∀ {kvs : List (κ × V)} {fp : List Addr} {os : List O}, OwAll c F H fp (kvs.map (·.2)) os →
    ∃ fp', OwAll c F H fp' ((kvs.map fun kv => if kv.1 = k then (kv.1, v) else kv).map (·.2)) (putAt (kvs.map (·.1)) os k (.fz d)) ∧ ∀ b ∈ fp', b ∈ fp
  | [], _, _, h => by
    cases h
    exact ⟨[], .nil, fun b hb => nomatch hb⟩
  | p :: kvs, _, _, h => by
    cases h with
    | @cons _ _ o os f1 f2 h1 h2 hd =>
      obtain ⟨f3, i1, i2⟩ := putAt_ow hv h2
      by_cases q : p.1 = k
      · refine ⟨[] ++ f3, ?_, fun b hb => List.mem_append_right _ (i2 b (by simpa using hb))⟩
        simp only [List.map_cons, putAt, if_pos q]
        exact .cons (.fz hv) i1 fun b hb => nomatch hb
      · refine ⟨f1 ++ f3, ?_, fun b hb => (List.mem_append.mp hb).elim (List.mem_append_left _) fun z => List.mem_append_right _ (i2 b z)⟩
        simp only [List.map_cons, putAt, if_neg q]
        exact .cons h1 i1 fun b hb z => hd b hb (i2 b z)
theorem putK_ow {κ : Type} [DecidableEq κ] {F H : Hp} {k : κ} {v : V} {d : D} {kvs : List (κ × V)} {fp : List Addr} {os : List O} (hv : Fz c F v d) (h : OwAll c F H fp (kvs.map (·.2)) os) :
    ∃ fp', OwAll c F H fp' ((putK kvs k v).map (·.2)) (putOs (kvs.map (·.1)) os k (.fz d)) ∧ ∀ b ∈ fp', b ∈ fp := by
  unfold putK putOs
  by_cases q : k ∈ kvs.map (·.1)
  · rw [if_pos (any_mem.mpr q), if_pos q]
    exact putAt_ow hv h
  · rw [if_neg (fun z => q (any_mem.mp z)), if_neg q, List.map_append]
    have := h.append (.cons (.fz hv) .nil fun b hb => nomatch hb) fun b hb z => by simp at z
    exact ⟨_, this, fun b hb => by simpa using hb⟩
def isDkOwn (e : En) (i : Nat) : Bool := match e.sl[i]? with
  | some (some (.ow (.dK _ _))) => true
  | _ => false
def sPutK (i : Nat) (fv fk : En → Out Rv) : SS := fun e => (fv e).so fun r e1 => if isDkOwn e1 i then (fk e1).so fun rk e2 => match look e2 rk with
    | none => .no
    | some kd => match keyD kd with
      | none => .no
      | some k => match fix e2 r with
        | none => .no
        | some (d, e3) => match e3.sl[i]? with
          | some (some (.ow (.dK ks os))) => if ks.length < 1000000 then .nx (e3.put i (.dK (putKs ks k) (putOs ks os k (.fz d)))) else .no
          | _ => .no
  else .no
theorem ds_putK {i : Nat} {x : Str} {a b : Expr} {fv fk : En → Out Rv} {px pos' pos : Pos} {k : Nat} (r : Room k X.A) (hN : X.N[i]? = some x) (hv : Vis X.env.scope x) (ha : DE X c mv W a fv) (hb : DE X c mv W b fk) (hd : (x == ("__debug__" : Str)) = false := by decide)
    (hcd : (x == ("__classdict__" : Str)) = false := by decide) (hs : swapsWith a (some (.Subscript (.Name x px) b pos')) pos.line X.env = pure false := by rfl) :
    DS X c mv W (.Assign [.Subscript (.Name x px) b pos'] a pos) (sPutK i fv fk) := by
  refine ps_imp (ps_dput (hu_of r) (pe_var hN hv hd hcd) hb ha hs) fun D σ H h => ?_
  refine then_ok (R := rvR c mv) (c := c) (mv := mv) (W := W) (D := D) h fun F1 H1 f1 q1 e1 y r s1 E1 r1 d1 p1 => ?_
  split at p1
  · rename_i hl
    have hat : ∃ w, σ[i]? = some (some w) := by
      unfold isDkOwn at hl
      split at hl
      · rename_i ks os q
        obtain ⟨v, fo, fr, hv', _⟩ := E1.take q
        exact ⟨v, hv'⟩
      · cases hl
    obtain ⟨w, hσ⟩ := hat
    refine ⟨w, hσ, ?_⟩
    show rd c mv (rvR c mv) W fk σ H1 _
    refine then2_ok (R := rvR c mv) s1 E1 r1.has p1 fun F2 H2 f2 q2 e2 u rk s2 E2 r2' d2 p2 => ?_
    have ap := s2.apart (fun b hb => (r1.has b hb).2) d1
    cases z1 : look e2 rk with
    | none => rw [z1] at p2; exact p2.elim
    | some kd =>
      rw [z1] at p2
      simp only at p2
      have hkd := look_ok s2.fh E2 r2' z1
      cases z2 : keyD kd with
      | none => rw [z2] at p2; exact p2.elim
      | some k =>
        rw [z2] at p2
        simp only at p2
        have hw := key_V hkd z2
        subst hw
        cases z : fix e2 r with
        | none => rw [z] at p2; exact p2.elim
        | some yy =>
          obtain ⟨d, e3⟩ := yy
          rw [z] at p2
          simp only at p2
          obtain ⟨F3, f3, s3, k3, E3, m3⟩ := fix_ok s2.fh E2 (r1.stp s2 d1) (fun b hb z => ap b hb (List.mem_append_left _ z)) z
          split at p2
          · rename_i ks os hq
            split at p2
            · rename_i hsz
              obtain ⟨v', fo, fr, hv', ho, E4, d4, g4⟩ := E3.take hq
              rw [hσ] at hv'; cases hv'
              cases ho with
              | @dK l fl kvs _ _ hH hF hn hk hall =>
                subst hk
                rw [List.length_map] at hsz
                refine ⟨l, _, rfl, DPut.k (k := k) hH (Nat.lt_of_lt_of_le hsz (by decide)), ?_⟩
                obtain ⟨f5, k5, m5⟩ := putK_ow (k := k) k3 hall
                have st1 : Stp F3 H2 [l] F3 (upd H2 l (.dK (putK kvs k y))) [l] := Stp.chg s3.fh (List.mem_singleton.mpr rfl) hF
                have nl : ∀ b ∈ f5, b ∉ [l] := fun b hb z => by
                  rw [List.mem_singleton] at z; subst z
                  exact hn (m5 _ hb)
                have p3 := PoS.step p2 ((s3.part (fp2 := f3) (fq := (f2 ++ q2) ++ q1) (fun b hb => by
                  rcases List.mem_append.mp hb with h | h
                  · exact List.mem_append_left _ (List.mem_append_left _ h)
                  · exact List.mem_append_right _ h) fun _ h => h))
                refine chg_ok (fp := f3) (fo := f5) s3.fh hσ E4 hF (by rw [hH]; intro q; cases q) (d4 l List.mem_cons_self) (fun b hb z => d4 b (List.mem_cons_of_mem _ (m5 b hb)) z) (.dK upd_same hF (fun z => hn (m5 _ z)) putK_fst (st1.owAll k5 nl)) (fun b hb => ?_) p3
                rcases hb with h | h | h
                · exact (g4 b).mpr (.inr h)
                · subst h; exact (g4 _).mpr (.inl List.mem_cons_self)
                · exact (g4 b).mpr (.inl (List.mem_cons_of_mem _ (m5 b h)))
            · exact p2.elim
          · exact p2.elim
  · exact p1.elim

/-! ### dict(a tuple of pairs) -/
def pairOf : D → Option (Key × D)
  | .tup _ [k, d] => (keyD k).map fun k => (k, d)
  | _ => none
def pairsOf : List D → Option (List (Key × D))
  | [] => some []
  | d :: ds => match pairOf d with
    | none => none
    | some p => (pairsOf ds).map (p :: ·)
def putPairs (ks : List Key) (ds : List D) : List (Key × D) → List Key × List D
  | [] => (ks, ds)
  | p :: ps => putPairs (putKs ks p.1) (putOs ks ds p.1 p.2) ps
def dictTD : List D → Option O
  | [.tup true ds] => match pairsOf ds with
    | none => none
    | some ps => if ps.length ≤ 1000000 then some (.dK (putPairs [] [] ps).1 ((putPairs [] [] ps).2.map .fz)) else none
  | _ => none
def rDictT (K : PySem.W.Frag) : List V → Hp → VK → Prop := fun xs H Q => ∃ (a : Addr) (o : Obj) (ps : List Addr) (kvs : List (Key × V)), xs = [.ref a] ∧ H a = some (.frz o (.tup (ps.map V.ref))) ∧ o.dict = none ∧
  Paired (fun p kv => SqT K H p [kV kv.1, kv.2]) ps kvs ∧ ∀ p, H p = none → Q (.ref p) (upd H p (.dK (mergeK [] kvs)))
theorem call_dictT (hcalm : X.calm = true) : CallR X (.type "dict") (rDictT X.K) := by
  intro pins s σ H xs us Q I r q
  obtain ⟨a, o, ps, kvs, rfl, hq, hdn, hp, q⟩ := q
  obtain ⟨u, rfl, rx⟩ := vals1 r
  cases rx
  obtain ⟨ho, hz, its, rv, ob, ho2, hc, n, hdat⟩ := I.hok a _ hq
  rw [ho] at ho2; cases ho2
  have ei := refs_at rv
  subst ei
  rw [List.length_map] at hz
  obtain ⟨prs, rel, hl, hpr⟩ := pairs_of I hp
  refine call_dict_tuple (prs := prs) (I.ok.hd hcalm) ho hc hdn hdat (by simp [hl]) (by rw [hl]; exact hz) (fun j q' e => ?_) fun h' tk hd' k => ?_
  · obtain ⟨b, u, e1, e2, e3⟩ := hpr j q' e
    exact ⟨b, u, by simp [e1], e2, e3⟩
  · have hm : (s.heap.objs.size == sysModules) = false := beq_eq_false_iff_ne.mpr (Nat.ne_of_gt I.big)
    have few : (mergeK [] kvs).length ≤ sizeLine := by
      refine Nat.le_trans (length_mergeK kvs []) ?_
      rw [List.length_nil, Nat.zero_add, rel.length, hl]
      exact hz
    exact ⟨.ref s.heap.objs.size, upd H s.heap.objs.size (.dK (mergeK [] kvs)), I.laid (t' := tk) k (Nat.le_refl _) (show ObjOk X.prog X.w _ _ _ (.dK (mergeK [] kvs)) from ⟨few, hm, merged [] prs, KV.merge rel .nil, hd'⟩), rfl, q _ (I.hok.fresh (Nat.le_refl _))⟩
theorem pairs_ok {F : Hp} : ∀ {vs : List V} {ds : List D} {ps : List (Key × D)}, FzAll c F vs ds → pairsOf ds = some ps → ∃ (as : List Addr) (kvs : List (Key × V)), vs = as.map V.ref ∧ Paired (fun p kv => SqT c.K F p [kV kv.1, kv.2]) as kvs ∧ kvs.map (·.1) = ps.map (·.1) ∧ FzAll c F (kvs.map (·.2)) (ps.map (·.2))
  | _, _, _, .nil, e => by cases e; exact ⟨[], [], rfl, .nil, rfl, .nil⟩
  | _, d :: ds, ps, .cons h r, e => by
    unfold pairsOf at e
    cases z : pairOf d with
    | none => rw [z] at e; cases e
    | some p =>
      rw [z] at e
      simp only at e
      cases z2 : pairsOf ds with
      | none => rw [z2] at e; cases e
      | some qs =>
        rw [z2] at e
        cases e
        obtain ⟨as, kvs, e1, e2, e3, e4⟩ := pairs_ok r z2
        unfold pairOf at z
        split at z
        · rename_i k0 k d'
          cases zk : keyD k with
          | none => rw [zk] at z; cases z
          | some kk =>
            rw [zk] at z
            cases z
            cases h with
            | @tup a xs _ _ hs _ ha =>
              cases ha with
              | cons hk ha =>
                cases ha with
                | cons hd ha =>
                  cases ha
                  have := key_V hk zk
                  subst this
                  exact ⟨a :: as, (kk, _) :: kvs, by rw [e1]; rfl, .cons hs e2, by rw [List.map_cons, List.map_cons, e3], .cons hd e4⟩
        · cases z
theorem merge_ok {F : Hp} : ∀ {kvs : List (Key × V)} {ps : List (Key × D)} {acc : List (Key × V)} {ds : List D}, kvs.map (·.1) = ps.map (·.1) → FzAll c F (kvs.map (·.2)) (ps.map (·.2)) → FzAll c F (acc.map (·.2)) ds →
    (mergeK acc kvs).map (·.1) = (putPairs (acc.map (·.1)) ds ps).1 ∧ FzAll c F ((mergeK acc kvs).map (·.2)) (putPairs (acc.map (·.1)) ds ps).2
  | [], [], acc, ds, _, _, h => ⟨rfl, h⟩
  | [], _ :: _, _, _, e, _, _ => by cases e
  | _ :: _, [], _, _, e, _, _ => by cases e
  | kv :: kvs, p :: ps, acc, ds, e, hz, h => by
    rw [List.map_cons, List.map_cons] at e
    injection e with e1 e2
    cases hz with
    | cons hz1 hz2 =>
      have step : FzAll c F ((putK acc kv.1 kv.2).map (·.2)) (putOs (acc.map (·.1)) ds kv.1 p.2) := by
        have key : ∀ {acc : List (Key × V)} {ds : List D}, FzAll c F (acc.map (·.2)) ds → FzAll c F ((acc.map fun q => if q.1 = kv.1 then (q.1, kv.2) else q).map (·.2)) (putAt (acc.map (·.1)) ds kv.1 p.2) := by
          intro acc
          induction acc with
          | nil => intro ds h; cases h; exact .nil
          | cons q acc ih =>
            intro ds h
            cases h with
            | cons h1 h2 =>
              by_cases z : q.1 = kv.1
              · simp only [List.map_cons, putAt, if_pos z]
                exact .cons hz1 (ih h2)
              · simp only [List.map_cons, putAt, if_neg z]
                exact .cons h1 (ih h2)
        unfold putK putOs
        by_cases q : kv.1 ∈ acc.map (·.1)
        · rw [if_pos (any_mem.mpr q), if_pos q]
          exact key h
        · rw [if_neg (fun z => q (any_mem.mp z)), if_neg q, List.map_append]
          exact h.append (.cons hz1 .nil)
      have := merge_ok (acc := putK acc kv.1 kv.2) e2 hz2 step
      rw [putK_fst] at this
      unfold putPairs
      rw [← e1]
      exact this
theorem fop_dictT (hK : X.K = c.K) : FOp c (rDictT X.K) dictTD := fun F H vs ds o Q s h e k => by
  rw [hK]
  unfold dictTD at e
  split at e
  · rename_i ds0
    split at e
    · cases e
    · rename_i ps hps
      split at e
      · rename_i hsz
        cases e
        cases h with
        | cons h1 h2 =>
          cases h2
          cases h1 with
          | @tup a xs _ _ hs hk ha =>
            obtain ⟨ob, hob, hdn⟩ := hk.1 rfl
            obtain ⟨as, kvs, e1, e2, e3, e4⟩ := pairs_ok ha hps
            subst e1
            refine ⟨a, ob, as, kvs, rfl, s _ _ hob, hdn, Paired.mapP e2 fun p q z => s.sqT z, fun p hp => ?_⟩
            obtain ⟨m1, m2⟩ := merge_ok (acc := []) e3 e4 .nil
            have st : Stp F H [] F (upd H p (.dK (mergeK [] kvs))) [p] := Stp.lay s hp fun _ h => h
            have Fp : F p = none := by
              cases q : F p with
              | none => rfl
              | some u => have := s p u q; rw [hp] at this; cases this
            exact k F _ [p] _ st (.dK upd_same Fp (fun z => nomatch z) m1 (FzAll.ow (m2.mono st.ff)))
      · cases e
  · cases e
theorem de_dictT {a : Expr} {f : En → Out (List Rv)} {p pos : Pos} (hK : X.K = c.K) (hc : X.calm = true) (hm : X.mg "dict" = none) (hg : Gl X "dict") (ha : DA X c mv W [a] f) (he : starEach [a] X.env = (false, eval a X.env) :: starEach [] X.env := by rfl) : DE X c mv W (.Call (.Name "dict" p) [a] [] pos) (eF dictTD f) :=
  de_typeF (call_dictT hc) (fop_dictT hK) hg hm (by decide +kernel) ha (he := he)
end
end DL

set_option Elab.async false
set_option linter.all false
set_option maxRecDepth 100000
set_option maxHeartbeats 2000000
/-! DL, part M: tuple(d.items()). -/
namespace DL
open PySem L2 PySem.Spec PyProof.Rows
section
variable {X : Cx} {c : Cs} {mv : V} {W : WX}
/-- the pairs' tuples come to be tracked -/
theorem pairs_laid {pins : List (Addr × Obj)} {σ : L2.St} {H : Hp} {s : Shared} {h' : Heap} {tk : Nat} {kvs : List (Key × V)} {vs : List (Key × Value)} {as : List Addr} (I : Inv X pins σ H s) (kv : KV kvs vs)
    (old : ∀ b o, s.heap.get? b = some o → h'.get? b = some o) (hl : as.length = vs.length) (G : PySem.W.KdxG (mixKind X.prog X.w) vs s.heap.objs.size h' as) :
    (∀ t ∈ as, H t = none) ∧ as.Nodup ∧ Inv X pins σ (LiI.putT H as kvs) { s with heap := h', toks := tk } := by
  have len : kvs.length = vs.length := Paired.length kv
  have apart : as.Nodup := by
    refine List.Pairwise.imp ?_ G.rise
    intro a b h
    exact Nat.ne_of_lt h
  have fresh : ∀ t ∈ as, H t = none := by
    intro t ht
    exact I.hok.fresh (Nat.le_of_lt (G.above t ht))
  have there := LiI.putT_at as kvs H (by omega) apart
  have other : ∀ b, b ∉ as → LiI.putT H as kvs b = H b := fun b hb => LiI.putT_off as kvs H hb
  have below : ∀ b o, s.heap.get? b = some o → b ∉ as := by
    intro b o e z
    exact Nat.lt_asymm (Heap.lt_size e) (G.above b z)
  have keeps : ∀ b u, H b = some u → LiI.putT H as kvs b = some u := by
    intro b u e
    rw [other b (fun z => by rw [fresh b z] at e; cases e)]
    exact e
  refine ⟨fresh, apart, ?_⟩
  have un : Un (frs X.stack) [] H (LiI.putT H as kvs) s.heap h' :=
    { keep := fun b o q _ _ _ => old b o q
      slot := fun b o q _ _ _ => ⟨o.slots, old b o q⟩
      free := fun b o q n _ => by rw [other b (below b o q)]; exact n
      there := fun b o q _ => ⟨o, old b o q⟩
      tups := fun b xs q => keeps b _ q
      frzs := fun b o u q => keeps b _ q
      tbls := fun b ps q => ⟨#[], by rw [keeps b _ q]; simp⟩ }
  refine I.call (h' := h') (g' := s.gens) (d' := s.drawn) (t' := tk) (ch := []) un (fun b u q => ?_) I.bare (fun b z => absurd z (by simp))
  by_cases hb : b ∈ as
  · obtain ⟨j, pk, e1, e2, e3⟩ := LiI.paired_ix there hb
    rw [e3] at q
    cases q
    obtain ⟨key, k, x, f1, f2, f3⟩ := G.pairs j b e1
    obtain ⟨qv, g1, g2, g3⟩ := LiI.paired_get kv e2
    rw [f1] at g1
    cases g1
    have rk : RelV (kV pk.1) key := by
      rw [g2]
      exact relV_key f2
    exact ⟨by show 2 ≤ sizeLine; decide, [key, x], .cons rk (.cons g3 .nil), ⟨_, f3, rfl, _, rfl⟩⟩
  · rw [other b hb] at q
    exact (I.hok b u q).stay (fun d v _ y => old d v y) (fun d y => keeps d _ y) fun d xs y => keeps d _ y
def rItemsT : V → Hp → VK → Prop := fun x H Q => ∃ (d : Addr) (kvs : List (Key × V)), x = .ref d ∧ Rd H d (.dK kvs) ∧
  ∀ (p : Addr) (o : Obj) (ts : List Addr), LiI.putT H ts kvs p = none → o.dict = none → ts.length = kvs.length → ts.Nodup → (∀ t ∈ ts, H t = none) → Q (.ref p) (upd (LiI.putT H ts kvs) p (.frz o (.tup (ts.map V.ref))))
def tTupItems (te : TE) : TE := fun σ H Q => te σ H fun x H1 => rItemsT x H1 Q
theorem pe_tupItems {e : Expr} {te : TE} {p apos cpos pos : Pos} (hc : X.calm = true) (he : PE X e te) (hg : Gl X "tuple") (hm : X.mg "tuple" = none) (hv : bootBuiltins "tuple" = some (.type "tuple")) (hbase : attributeBase e "items" X.env (eval e X.env) = eval e X.env := by rfl) (hline : (apos.endLine == cpos.line) = true := by rfl)
    (hs : starEach [.Call (.Attribute e "items" apos) [] [] cpos] X.env = (false, eval (.Call (.Attribute e "items" apos) [] [] cpos) X.env) :: starEach [] X.env := by rfl) :
    PE X (.Call (.Name "tuple" p) [.Call (.Attribute e "items" apos) [] [] cpos] [] pos) (tTupItems te) := by
  constructor
  intro pins s σ H Q I hq
  refine wpAny_Call_Name_kw (ld_blt I hg hm hv (PyProof.Rows.callWith_type1 ?_ hs rfl))
  rw [hs]
  show wpAny _ _ (spliced ((false, eval (.Call (.Attribute e "items" apos) [] [] cpos) X.env) :: backTo pos (starEach [] X.env))) _ _ s
  refine Calls.spliced_cons (wpAny_Call_method (T := "dict") (id := "dict.items") hbase rfl hline F.plainAttrs_dict F.slot_dict_items F.type_dict_items (thn (he.run pins s σ H _ I hq) ?_))
  rintro u s1 ⟨x, H1, I1, rx, d, kvs, ex, hd, q⟩
  subst ex
  obtain rfl : u = Value.ref d := rx
  obtain ⟨room, notSys, vs, kv, hdo⟩ := hd.ok I1.hok
  obtain ⟨ep, hat⟩ := hdo.dictAt
  have len : kvs.length = vs.length := Paired.length kv
  have I2 : Inv X pins σ H1 { s1 with heap := s1.heap.push { cls := .type "dict_items", data := .fields #[.ref d] } } := I1.kept (t' := s1.toks) fun b ob z => Heap.get?_push_of_some _ z
  refine ⟨hdo.typeIs, hdo.mapOf.noDict, ?_⟩
  show wpAny _ _ (callWith cpos (.builtin "dict.items") [.ref d] [] []) _ X.xe s1
  refine method_meetsIn F.slot_dict_items F.entry_dict_items rfl (PySem.evalArgs_none ⟨rfl, hdo.typeIs, F.args_dict_items_1 _, _, meets_dict_items (mixKind X.prog X.w) d notSys, ⟨vs, hdo⟩, Calls.spliced_nil ?_⟩)
  refine call_tuple_items (kvs := vs) (ep := ep) (I1.ok.hd hc) ⟨_, Heap.get?_push_size _ rfl, rfl, rfl⟩ (hat.push _) (by omega) fun h' tk as hk hl hG => ?_
  obtain ⟨new, apart, J⟩ := pairs_laid (tk := tk) I2 kv hk hl hG
  have at' : (h'.push { cls := .type "tuple", data := .seq (as.map Value.ref).toArray }).get? h'.objs.size = some { cls := .type "tuple", data := .seq (as.map Value.ref).toArray } := Heap.get?_push_size _ rfl
  have hf : LiI.putT H1 as kvs h'.objs.size = none := J.hok.fresh (Nat.le_refl _)
  exact ⟨.ref h'.objs.size, _, J.laid (t' := tk) (fun b o z => Heap.get?_push_of_some _ z) (Nat.le_refl _) (knownOk (by rw [List.length_map, hl, ← len]; exact room) (LiI.vals_refs as) at' rfl rfl), rfl, q _ _ as hf rfl (by omega) apart new⟩
def pairD (k : Key) (d : D) : D := .tup false [(match k with | .inl i => .int i | .inr x => .str x), d]
def pairsD : List Key → List D → List D
  | k :: ks, d :: ds => pairD k d :: pairsD ks ds
  | _, _ => []
/-- tuple(d.items()): the dict's things are taken over -/
def eTupItems (f : En → Out Rv) : En → Out Rv := fun e => (f e).bind fun r e1 => match fix e1 r with
  | some (.dK ks ds, e2) => .ok (.tm (.fz (.tup true (pairsD ks ds)))) e2
  | _ => .no
theorem keyV_fz {F : Hp} (k : Key) : Fz c F (kV k) (match k with | .inl i => .int i | .inr x => .str x) := by
  cases k with
  | inl i => exact .int
  | inr x => exact .str
theorem putT_fz {G : Hp} : ∀ {kvs : List (Key × V)} {ts : List Addr} {ks : List Key} {ds : List D}, Paired (fun (t : Addr) (p : Key × V) => G t = some (.tup [kV p.1, p.2])) ts kvs → kvs.map (·.1) = ks → FzAll c G (kvs.map (·.2)) ds → FzAll c G (ts.map V.ref) (pairsD ks ds)
  | _, _, _, _, .nil, e, h => by
    subst e
    cases h
    exact .nil
  | _, _, _, _, .cons (b := p) hp hr, e, h => by
    subst e
    cases h with
    | cons h1 h2 => exact .cons (.tup (SqT.of hp) (tupN hp) (.cons (keyV_fz p.1) (.cons h1 .nil))) (putT_fz hr rfl h2)
theorem de_tupItems {a : Expr} {f : En → Out Rv} {p apos cpos pos : Pos} (hc : X.calm = true) (ha : DE X c mv W a f) (hg : Gl X "tuple") (hm : X.mg "tuple" = none) (hbase : attributeBase a "items" X.env (eval a X.env) = eval a X.env := by rfl) (hline : (apos.endLine == cpos.line) = true := by rfl)
    (hs : starEach [.Call (.Attribute a "items" apos) [] [] cpos] X.env = (false, eval (.Call (.Attribute a "items" apos) [] [] cpos) X.env) :: starEach [] X.env := by rfl) :
    DE X c mv W (.Call (.Name "tuple" p) [.Call (.Attribute a "items" apos) [] [] cpos] [] pos) (eTupItems f) :=
  pe_imp (pe_tupItems hc ha hg hm (by decide +kernel) hbase hline hs) fun σ H Q h => by
    obtain ⟨F, fp, e, s, E, p⟩ := h
    refine ⟨F, fp, e, s, E, Po.seq (R1 := rvR c mv) p fun r e1 F1 H1 f1 q1 v _ s1 E1 r1 d1 p1 => ?_⟩
    cases z : fix e1 r with
    | none => rw [z] at p1; exact p1.elim
    | some y =>
      obtain ⟨d, e2⟩ := y
      rw [z] at p1
      obtain ⟨F2, f2, s2, k2, E2, m2⟩ := fix_ok s1.fh E1 r1 d1 z
      cases d with
      | dK ks ds =>
        simp only at p1
        cases k2 with
        | @dK a kvs _ _ ha hk hz =>
          refine ⟨a, kvs, rfl, s2.fh.rd ha, fun p o ts hp ho hl nd new => ?_⟩
          have off : ∀ b, b ∉ ts → LiI.putT H1 ts kvs b = H1 b := fun b hb => LiI.putT_off ts kvs H1 hb
          have atT := LiI.putT_at ts kvs H1 hl nd
          have kp : ∀ b o, H1 b = some o → LiI.putT H1 ts kvs b = some o := fun b o e => by
            rw [off b (fun z => by rw [new b z] at e; cases e)]; exact e
          have Fn : ∀ t ∈ ts, F2 t = none := fun t ht => by
            cases q : F2 t with
            | none => rfl
            | some u => have := s2.fh t u q; rw [new t ht] at this; cases this
          have has : ∀ t ∈ ts, LiI.putT H1 ts kvs t ≠ none := fun t ht => by
            obtain ⟨j, pk, _, _, e3⟩ := LiI.paired_ix atT ht
            rw [e3]; intro q; cases q
          -- the pairs, frozen
          have st : Stp F2 H1 [] (ice F2 (LiI.putT H1 ts kvs) ts) (LiI.putT H1 ts kvs) [] := by
            refine ⟨fun b u q => ?_, fun b u q => ?_, fun b u q _ => kp b u q, fun b n _ q _ => ?_, fun b hb => nomatch hb⟩
            · by_cases hb : b ∈ ts
              · rw [ice_in hb] at q; exact q
              · rw [ice_out hb] at q; exact kp b u (s2.fh b u q)
            · rw [ice_out (fun z => by rw [Fn b z] at q; cases q)]; exact q
            · by_cases hb : b ∈ ts
              · exact absurd (new b hb) n
              · rw [ice_out hb]; exact q
          have pz : FzAll c (ice F2 (LiI.putT H1 ts kvs) ts) (ts.map V.ref) (pairsD ks ds) := by
            refine putT_fz ?_ hk (hz.mono st.ff)
            have key : ∀ {as : List Addr} {qs : List (Key × V)}, Paired (fun (t : Addr) (p : Key × V) => LiI.putT H1 ts kvs t = some (.tup [kV p.1, p.2])) as qs → (∀ a ∈ as, a ∈ ts) → Paired (fun (t : Addr) (p : Key × V) => ice F2 (LiI.putT H1 ts kvs) ts t = some (.tup [kV p.1, p.2])) as qs := by
              intro as qs h
              induction h with
              | nil => intro _; exact .nil
              | cons h1 h2 ih => intro m; exact .cons (by rw [ice_in (m _ List.mem_cons_self)]; exact h1) (ih fun a ha => m a (List.mem_cons_of_mem _ ha))
            exact key atT fun a ha => ha
          refine new_tupK (c := c) st.fh pz (fun F3 H3 q3 v s3 h3 => ?_) p o hp ho
          have s4 := st.trans s3
          obtain ⟨s5, d5⟩ := s4.beside (fp := f2) E2.has
          exact p1 F3 H3 f2 q3 v (s2.trans s5) (E2.stp s4 fun b hb z => nomatch z) (.tm h3) d5
      | _ => exact p1.elim
end
end DL

set_option Elab.async false
set_option linter.all false
set_option maxRecDepth 100000
set_option maxHeartbeats 2000000
/-! DL, part N: walks over lists or tuples, minus, defs of the text, the law's end. -/
namespace DL
open PySem L2 PySem.Spec PyProof.Rows
section
variable {X : Cx} {c : Cs} {mv : V} {W : WX}
def iSeq (K : PySem.W.Frag) (tl : TE) : TI := fun σ H R => tl σ H fun x H1 => ∃ a, x = .ref a ∧ (((∃ xs, SqL K H1 a xs) ∧ R (Itl K a) H1) ∨ ((∃ xs, SqT K H1 a xs) ∧ R (Itt K a) H1))
theorem pi_seq {tg l : Expr} {tl : TE} (hl : PE X l tl) : PI X tg l (iSeq X.K tl) := by
  constructor
  intro pins s σ H R I h
  refine thn (hl.run pins s σ H _ I h) ?_
  rintro v s1 ⟨x, H1, I1, r1, a, rfl, q⟩
  obtain rfl : v = Value.ref a := r1
  have here : ∀ b ∈ [s1.heap.objs.size], FpOk X pins H1 b := fun b hb => by
    rw [List.mem_singleton] at hb
    subst hb
    exact I1.fpOk (Nat.le_refl _) (I1.hok.fresh (Nat.le_refl _))
  rcases q with ⟨⟨xs, hq⟩, q⟩ | ⟨⟨xs, hq⟩, q⟩
  · obtain ⟨its, rv, pl, _⟩ := I1.list hq
    exact wpAny_pyIter_list pl.isList ⟨s1.heap.objs.size, [s1.heap.objs.size], _, _, H1, rfl, I1.kept (t' := s1.toks) (fun b o e => Heap.get?_push_of_some _ e), turn_list a _, ⟨_, Heap.get?_push_size _ rfl, rfl, rfl⟩, here, q⟩
  · obtain ⟨its, rv, pl, _⟩ := I1.tuple hq
    exact wpAny_pyIter_tuple (show s1.heap.IsTuple a its.toArray from pl) ⟨s1.heap.objs.size, [s1.heap.objs.size], _, _, H1, rfl, I1.kept (t' := s1.toks) (fun b o e => Heap.get?_push_of_some _ e), turn_tuple a _, ⟨_, Heap.get?_push_size _ rfl, rfl, rfl⟩, here, q⟩
theorem di_seq {tg l : Expr} {f : En → Out Rv} (hK : X.K = c.K) (h : DE X c mv W l f) : DI X c mv W tg l (itSeq f) :=
  pi_imp (pi_seq h) fun σ H R h => by
    obtain ⟨F, fp, e, s, E, p⟩ := h
    refine ⟨F, fp, e, s, E, Po.seq (R1 := rvR c mv) p fun r e1 F1 H1 f1 q1 v _ s1 E1 r1 d1 p1 => ?_⟩
    cases z : fix e1 r with
    | none => rw [z] at p1; exact p1.elim
    | some y =>
      obtain ⟨d, e2⟩ := y
      rw [z] at p1
      obtain ⟨F2, f2, s2, k2, E2, m2⟩ := fix_ok s1.fh E1 r1 d1 z
      cases d with
      | lst ds =>
        cases k2 with
        | @lst a xs ds hs ha =>
          rw [hK]
          refine ⟨a, rfl, .inl ⟨⟨xs, s2.fh.sqL hs⟩, p1 F2 H1 f2 [] _ (by rw [List.append_nil]; exact s2) E2 ⟨rfl, ?_⟩ fun b hb => nomatch hb⟩⟩
          refine ⟨fun H sH => ⟨xs, sH.sqL hs, by rw [ha.length]; exact Nat.le_refl _⟩, fun i H d sH hd => ?_, fun i F3 H d x H' s3 sH hd hy => ?_⟩
          · obtain ⟨x, hx, _⟩ := ha.get hd
            exact ⟨xs, x, sH.sqL hs, hx⟩
          · obtain ⟨rfl, hy⟩ := hy
            obtain ⟨x', hx', hz⟩ := ha.get hd
            have := hy xs ((s3.trans sH).sqL hs)
            rw [hx'] at this; cases this
            exact ⟨F3, Stp.refl sH, hz.mono s3⟩
      | tup k ds =>
        cases k2 with
        | @tup a xs _ ds hs _ ha =>
          rw [hK]
          refine ⟨a, rfl, .inr ⟨⟨xs, s2.fh.sqT hs⟩, p1 F2 H1 f2 [] _ (by rw [List.append_nil]; exact s2) E2 ⟨rfl, ?_⟩ fun b hb => nomatch hb⟩⟩
          refine ⟨fun H sH => ⟨xs, sH.sqT hs, by rw [ha.length]; exact Nat.le_refl _⟩, fun i H d sH hd => ?_, fun i F3 H d x H' s3 sH hd hy => ?_⟩
          · obtain ⟨x, hx, _⟩ := ha.get hd
            exact ⟨xs, x, sH.sqT hs, hx⟩
          · obtain ⟨rfl, hy⟩ := hy
            obtain ⟨x', hx', hz⟩ := ha.get hd
            have := hy xs ((s3.trans sH).sqT hs)
            rw [hx'] at this; cases this
            exact ⟨F3, Stp.refl sH, hz.mono s3⟩
      | _ => exact p1.elim
theorem one_ok {f : En → Out Rv} {k : List Rv → En → Out Rv} {R : V → Hp → VK → Prop} {Q : VK} {σ : L2.St} {H : Hp}
    (h : ∃ F fp e, Sub F H ∧ EnvR c mv F H fp σ e ∧ Po c mv (rvR c mv) W F H fp σ ((aCons f aNil e).bind k) Q)
    (hk : ∀ F H fp fq e v rs, Sub F H → EnvR c mv F H fp σ e → RvAll c mv F H σ fq [v] rs → (∀ b ∈ fq, b ∉ fp) → Po c mv (rvR c mv) W F H (fp ++ fq) σ (k rs e) Q → R v H Q) : rd c mv (rvR c mv) W f σ H fun x H1 => R x H1 Q := by
  obtain ⟨F, fp, e, s, E, p⟩ := h
  have re : (aCons f aNil e).bind k = (f e).bind fun a e1 => k [a] e1 := by
    unfold aCons aNil
    cases f e <;> rfl
  rw [re] at p
  refine ⟨F, fp, e, s, E, Po.seq (R1 := rvR c mv) p fun a e1 F1 H1 f1 q1 v _ s1 E1 r1 d1 p1 => ?_⟩
  exact hk F1 H1 f1 (q1 ++ []) e1 v [a] s1.fh E1 (.cons r1 .nil fun b hb z => nomatch z) (fun b hb => d1 b (by simpa using hb)) (by simpa using p1)
theorem vop_neg : VOp c (fun vs H Q => ∃ x, vs = [x] ∧ rU (fun i => .int (-i)) x H Q) negD := fun F H vs ds d Q s h e k => by
  unfold negD at e
  split at e
  · cases e
    cases h with
    | cons h1 h2 => cases h2; cases h1; exact ⟨_, rfl, _, rfl, k _ fun _ => .int⟩
  · cases e
theorem de_neg {a : Expr} {f : En → Out Rv} {pos : Pos} (ha : DE X c mv W a f) : DE X c mv W (.UnaryOp .USub a pos) (eV negD (aCons f aNil)) :=
  pe_imp (pe_un un_neg ha) fun σ H Q h => one_ok (R := fun x H Q => rU (fun i => .int (-i)) x H Q) h fun F H fp fq e v rs s E rr d p => by
    obtain ⟨x, e, q⟩ := eV_ok vop_neg s E rr p
    cases e
    exact q
end

/-! ### the text's defs -/
/-- a def that stands in the text, called by its parameters -/
structure Src (K : PySem.W.Frag) (mg : Str → Option Value) (x qual : Str) (st : Stmt) (ps : List Str) : Prop where
  ex : ∃ (f : Addr) (fd : FuncData), Fun K x qual st f fd ∧ mg x = some (.ref f) ∧ Binds K fd ps []
theorem src_mk {K : PySem.W.Frag} {mg : Str → Option Value} {h : Heap} {f : Addr} {x qual : Str} {st : Stmt} {ps : List Str} {oc : Value} {od an : Option Addr} {osl : Array (Option Value)} {kV doc pm cdv ct : Value} (X : K.In h) (G : h.Ns mainGlobals mg)
    (a : PySem.W.nsIn K mainGlobals x = some (some (.ref f))) (l : K.lookup f = some ⟨oc, od, .func (PySem.W.fnOf x qual (defArgs st) (defBody st) (defScope st) .none kV doc pm an cdv ct), osl⟩)
    (cd : PySem.W.codeIn K cdv qual = true) (kp : PySem.W.keepIn K (.ref f) = true)
    (b : ∀ (kV doc pm : Value) (an : Option Addr) (cdv ct : Value) (us : List Value), us.length = ps.length → bindArgs (PySem.W.fnOf x qual (defArgs st) (defBody st) (defScope st) .none kV doc pm an cdv ct) ⟨us, []⟩ = pure (ps.zip us)) : Src K mg x qual st ps :=
  ⟨f, _, fun_mk l cd kp, PySem.W.mg_of X G a, (fun_mk l cd kp).binds b⟩
section
variable {P : Program} {w : World} {mg : Str → Option Value} {base : Heap} {c : Cs} {j k n : Nat} {x qual : Str} {st : Stmt} {N ps : List Str} {g : SS} {φ : List D → Res}
theorem Src.kn (S : Src c.K mg x qual st ps) (sc : FnScope N ps (defScope st))
    (body : ∀ (f : Addr) (cdv : Value) (A : Around) (outer : List Env) (s : Shared) (H : Hp) (E : XK), Quiet (A.deeper (envOfC qual (defScope st) s.heap.objs.size f cdv)) → Room k (A.deeper (envOfC qual (defScope st) s.heap.objs.size f cdv)) →
      DSs (cxOf (L2.CX P w) P w c.K mg base N qual (defScope st) f cdv A outer s H E) c .non (fun cls d _ H => E cls d H) (defBody st) g) :
    Kn P w mg base c (k + 1) x ps.length (defSem N.length ps.length g) := by
  obtain ⟨f, fd, F, hm, hb⟩ := S.ex
  exact ⟨f, fd, ps, defP F sc fun cdv A outer s H E gq r => body f cdv A outer s H E gq r, hm, F.kp, hb⟩
theorem Kn.up (h : Kn P w mg base c j x n φ) (hjk : j ≤ k) : Kn P w mg base c k x n φ := by
  obtain ⟨f, fd, ps, F, r⟩ := h.ex
  exact ⟨f, fd, ps, F.up hjk, r⟩
def never : List D → Res := fun _ => .no
theorem Src.never (S : Src c.K mg x qual st ps) : Kn P w mg base c k x n DL.never := by
  obtain ⟨f, fd, F, hm, hb⟩ := S.ex
  refine ⟨f, fd, ps, .never fun vs H Q E h => ?_, hm, F.kp, hb⟩
  obtain ⟨_, _, _, _, _, z⟩ := h
  exact z
/-- the law's promise: of every list of at most 63 ints the answer is True -/
theorem spLaw_ok {K : PySem.W.Frag} {ca : Str → Option Addr} {φ : List D → Res} (h : ∀ ns : List Int, ns.length ≤ 63 → φ [.lst (ns.map .int)] = .ok (.fz (.bl true))) (H : Hp) (a : Addr) (ns : List Int) (hl : ns.length ≤ 63) (hS : SqL K H a (ns.map V.int)) :
    spP ⟨K, ca⟩ 1 φ [.ref a] H (fun v _ => v = .bl true) fun _ _ _ => False := by
  refine ⟨rfl, H, [.lst (ns.map .int)], Sub.refl H, .cons (.lst hS ?_) .nil, ?_⟩
  · have : ∀ ns : List Int, FzAll ⟨K, ca⟩ H (ns.map V.int) (ns.map D.int) := fun ns => by
      induction ns with
      | nil => exact .nil
      | cons n ns ih => exact .cons .int ih
    exact this ns
  · rw [h ns hl]
    intro F' H' fq v _ ho
    cases ho.out
    rfl
theorem walkL {l : PySem.W.OpenLaw} {k : Nat} {q : Program} {loose : List Str} {XP : (Str → Option Value) → Heap → Prop} {YP : World → Heap → Prop} {d : DefRec} {K : Params → PySem.W.Frag} {x : Str} {φ : List D → Res}
    (hn : l.most = some 63) (hdf : d.params.defaults = []) (hr : Room k callerA) (hY : ∀ (w : World) (h : Heap), YP w h → (K w.params).In h)
    (F : ∀ (w : World) (mg : Str → Option Value) (fa : Addr) (h : Heap), (K w.params).In h → h.Ns mainGlobals mg → mg d.name = some (.ref fa) →
      ∃ fd : FuncData, (∀ (s : Shared) (u : Value), BindsTo s fd ⟨[u], []⟩ [(x, u)]) ∧ ∀ base : Heap, (K w.params).In base → base.Ns mainGlobals mg → ∃ ca, FnG l.prog w (K w.params) mg base k fa fd [x] (spP ⟨K w.params, ca⟩ 1 φ))
    (hφ : ∀ ns : List Int, ns.length ≤ 63 → φ [.lst (ns.map .int)] = .ok (.fz (.bl true))) :
    PySem.W.WalkO q loose XP YP l.row.toRowW d [] (fun f vs => PySem.call f vs) :=
  walkG (n := 63) (sp := fun w vs H Q E => ∀ ca, spP ⟨K w.params, ca⟩ 1 φ vs H Q E) hn (by decide) hdf hr hY (fun w mg fa h KX G hm => by
    obtain ⟨fd, hb, hF⟩ := F w mg fa h KX G hm
    refine ⟨fd, hb, fun base hK hG => ?_⟩
    obtain ⟨ca, hf⟩ := hF base hK hG
    exact hf.weak fun vs H Q E q => q ca) fun w H a ns hl hO hS ca => spLaw_ok hφ H a ns hl hS
end
end DL

set_option Elab.async false
set_option linter.all false
set_option maxRecDepth 100000
set_option maxHeartbeats 2000000
/-! DL, part O: d.get(k, x). -/
namespace DL
open PySem L2 PySem.Spec PyProof.Rows
section
variable {X : Cx} {c : Cs} {mv : V} {W : WX}
/-- d.get(k, x) -/
def eGet2 (f g h : En → Out Rv) : En → Out Rv := fun e => (f e).bind fun r e1 => if isDk (treeOf e1 r) then (g e1).bind fun rk e2 => match look e2 rk with
    | none => .no
    | some kd => match keyD kd with
      | none => .no
      | some k => (h e2).bind fun rx e3 => match fix e3 rx with
        | none => .no
        | some (dx, e4) => match treeOf e4 r with
          | none => .no
          | some o => match lookO o k with
            | none => .no
            | some none => .ok (.tm (.fz dx)) e4
            | some (some d) => .ok (.tm (.fz d)) e4
  else .no
theorem de_get2 {o a b : Expr} {f g h : En → Out Rv} {apos cpos : Pos} {k : Nat} (r : Room k X.A) (ho : DE X c mv W o f) (ha : DE X c mv W a g) (hb : DE X c mv W b h) (m : M2 X o "get" apos a b cpos) : DE X c mv W (.Call (.Attribute o "get" apos) [a, b] [] cpos) (eGet2 f g h) :=
  pe_imp (pe_dget2 (hu_of r) ho ha hb m) fun σ H Q h => by
    obtain ⟨F, fp, e, s, E, p⟩ := h
    refine ⟨F, fp, e, s, E, Po.seq (R1 := rvR c mv) p fun r1 e1 F1 H1 f1 q1 v _ s1 E1 rr1 d1 p1 => ?_⟩
    split at p1
    · rename_i hd
      cases zt : treeOf e1 r1 with
      | none => rw [zt] at hd; cases hd
      | some o1 =>
        rw [zt] at hd
        obtain ⟨fo, ho1⟩ := tree_ok E1 rr1 zt
        obtain ⟨a1, kvs1, rfl, ha1⟩ := isDk_ok s1.fh ho1 hd
        refine ⟨a1, rfl, .inl ⟨kvs1, ha1⟩, F1, f1, e1, s1.fh, E1, ?_⟩
        refine Po.seqS (R1 := rvR c mv) p1 rr1.has fun rk e2 F2 H2 f2 q2 w _ s2 E2 rr2 d2 p2 => ?_
        cases z1 : look e2 rk with
        | none => rw [z1] at p2; exact p2.elim
        | some kd =>
          rw [z1] at p2
          simp only at p2
          have hkd := look_ok s2.fh E2 rr2 z1
          cases z2 : keyD kd with
          | none => rw [z2] at p2; exact p2.elim
          | some k =>
            rw [z2] at p2
            simp only at p2
            have hw := key_V hkd z2
            subst hw
            have r12 := rr1.stp s2 d1
            have ap := s2.apart (fun b hb => (rr1.has b hb).2) d1
            rw [List.append_assoc] at p2
            refine ⟨F2, f2, e2, s2.fh, E2, Po.seqS (R1 := rvR c mv) p2 (fun b hb => ?_) fun rx e3 F3 H3 f3 q3 x _ s3 E3 rr3 d3 p3 => ?_⟩
            · rcases List.mem_append.mp hb with hb | hb
              · exact rr2.has b hb
              · exact r12.has b hb
            · have r13 := r12.stp s3 fun b hb z => ap b hb (List.mem_append_left _ z)
              have ap3 := s3.apart (fun b hb => (r12.has b hb).2) fun b hb z => ap b hb (List.mem_append_left _ z)
              cases z3 : fix e3 rx with
              | none => rw [z3] at p3; exact p3.elim
              | some y =>
                obtain ⟨dx, e4⟩ := y
                rw [z3] at p3
                simp only at p3
                obtain ⟨F4, f4, s4, k4, E4, m4⟩ := fix_ok s3.fh E3 rr3 d3 z3
                have r14 := r13.stp s4 ap3
                cases z5 : treeOf e4 r1 with
                | none => rw [z5] at p3; exact p3.elim
                | some o2 =>
                  rw [z5] at p3
                  simp only at p3
                  obtain ⟨fo2, ho2⟩ := tree_ok E4 r14 z5
                  cases z6 : lookO o2 k with
                  | none => rw [z6] at p3; exact p3.elim
                  | some res =>
                    rw [z6] at p3
                    obtain ⟨a2, kvs2, e2', ha2, l1, l2⟩ := lookO_ok s4.fh ho2 z6
                    cases e2'
                    refine ⟨valV kvs2 k, (.inl ⟨kvs2, k, ha2, rfl, rfl⟩), ?_⟩
                    have p4 := Po.step p3 (s4.more (fq := q2 ++ q1) fun b hb => ?_)
                    · have sub : ∀ b ∈ f4, b ∈ f4 ++ (q2 ++ q1) := fun b hb => List.mem_append_left _ hb
                      cases res with
                      | none => rw [l2 rfl]; exact Po.fz s4.fh E4 k4 sub p4
                      | some d =>
                        obtain ⟨u, hu, hz⟩ := l1 d rfl
                        rw [hu]
                        exact Po.fz s4.fh E4 hz sub p4
                    · rcases List.mem_append.mp hb with hb | hb
                      · exact ((rr2.stp s3 d2).has b hb).2
                      · exact (r13.has b hb).2
    · exact p1.elim
end
end DL

set_option Elab.async false
set_option linter.all false
set_option maxRecDepth 100000
set_option maxHeartbeats 2000000
/-! DL, part P: plain help: places in lists, loops. -/
namespace DL
open PySem L2 PySem.Spec PyProof.Rows
theorem atI_lt {α : Type} {xs : List α} {i : Int} (h : 0 ≤ i) (h2 : i.toNat < xs.length) : atI xs i = some (xs[i.toNat]'h2) := by
  have e : ((i.toNat : Nat) : Int) = i := Int.toNat_of_nonneg h
  have := atI_nat (xs := xs) (j := i.toNat) (v := xs[i.toNat]'h2) (List.getElem?_eq_getElem h2)
  rwa [e] at this
theorem atI_mem {α : Type} {xs : List α} {i : Int} (h : 0 ≤ i) (h2 : i < xs.length) : ∃ x ∈ xs, atI xs i = some x :=
  ⟨xs[i.toNat]'(by omega), List.getElem_mem _, atI_lt h (by omega)⟩
theorem atI_0 {α : Type} {a : α} {l : List α} : atI (a :: l) 0 = some a := atI_nat (j := 0) rfl
theorem atI_1 {α : Type} {a b : α} {l : List α} : atI (a :: b :: l) 1 = some b := atI_nat (j := 1) rfl
theorem atI_2 {α : Type} {a b c : α} {l : List α} : atI (a :: b :: c :: l) 2 = some c := atI_nat (j := 2) rfl
theorem atI_3 {α : Type} {a b c d : α} {l : List α} : atI (a :: b :: c :: d :: l) 3 = some d := atI_nat (j := 3) rfl
theorem atI_4 {α : Type} {a b c d e : α} {l : List α} : atI (a :: b :: c :: d :: e :: l) 4 = some e := atI_nat (j := 4) rfl
theorem atI_5 {α : Type} {a b c d e f : α} {l : List α} : atI (a :: b :: c :: d :: e :: f :: l) 5 = some f := atI_nat (j := 5) rfl
theorem atI_negmem {α : Type} {xs : List α} {i : Int} (h : i < 0) (h2 : -(xs.length : Int) ≤ i) : ∃ x ∈ xs, atI xs i = some x := by
  unfold atI ixN
  rw [if_neg (by omega), if_pos h2]
  exact ⟨xs[(i + xs.length).toNat]'(by omega), List.getElem_mem _, List.getElem?_eq_getElem (by omega)⟩
theorem bind_ok {α β : Type} {a : α} {e : En} {k : α → En → Out β} : (Out.ok a e).bind k = k a e := rfl
theorem so_ok {α : Type} {a : α} {e : En} {k : α → En → SO} : (Out.ok a e).so k = k a e := rfl
theorem then_nx {e : En} {k : En → SO} : (SO.nx e).then k = k e := rfl
theorem then_rt {o : O} {e : En} {k : En → SO} : (SO.rt o e).then k = .rt o e := rfl
theorem then_ex {x : XD} {e : En} {k : En → SO} : (SO.ex x e).then k = .ex x e := rfl
theorem then_bk {e : En} {k : En → SO} : (SO.bk e).then k = .bk e := rfl
theorem then_ct {e : En} {k : En → SO} : (SO.ct e).then k = .ct e := rfl
theorem eVar_fz {e : En} {i : Nat} {d : D} (h : e.sl[i]? = some (some (.ow (.fz d)))) : eVar i e = .ok (.tm (.fz d)) e := by
  unfold eVar; rw [h]
/-- one turn of a comprehension -/
def turn1 (t : TgS) (tt : En → Out Bool) (f : En → Out Rv) (vs : List Nat) (d : D) (e : En) : Option (Option O × En) := match t d e with
  | none => none
  | some e1 => match tt e1 with
    | .ok true e2 => match f e2 with
      | .ok r e3 => match own e3 r with
        | none => none
        | some (o, e4) => some (some o, e4.wipe vs)
      | _ => none
    | .ok false e2 => some (none, e2.wipe vs)
    | _ => none
theorem cloop_cons {t : TgS} {tt : En → Out Bool} {f : En → Out Rv} {vs : List Nat} {d : D} {ds : List D} {acc : List O} {e e' : En} {r : Option O} (h : turn1 t tt f vs d e = some (r, e')) (hl : acc.length < 1000000) :
    cloop t tt f vs (d :: ds) acc e = cloop t tt f vs ds (acc ++ r.toList) e' := by
  unfold turn1 at h
  conv => lhs; unfold cloop
  cases h1 : t d e with
  | none => rw [h1] at h; cases h
  | some e1 =>
    rw [h1] at h
    simp only at h ⊢
    cases h2 : tt e1 with
    | ok b e2 =>
      rw [h2] at h
      cases b with
      | true =>
        simp only at h ⊢
        cases h3 : f e2 with
        | ok r1 e3 =>
          rw [h3] at h
          simp only at h ⊢
          cases h4 : own e3 r1 with
          | none => rw [h4] at h; cases h
          | some y =>
            obtain ⟨o, e4⟩ := y
            rw [h4] at h
            cases h
            simp only [if_pos hl, Option.toList]
        | ex x e3 => rw [h3] at h; cases h
        | no => rw [h3] at h; cases h
      | false =>
        cases h
        simp only [Option.toList, List.append_nil]
    | ex x e2 => rw [h2] at h; cases h
    | no => rw [h2] at h; cases h
/-- a comprehension whose turns leave the frame alone -/
theorem cloop_map {t : TgS} {tt : En → Out Bool} {f : En → Out Rv} {vs : List Nat} {e : En} {h : D → Option O} : ∀ {ds : List D} {acc : List O}, (∀ d ∈ ds, turn1 t tt f vs d e = some (h d, e)) → acc.length + ds.length ≤ 1000000 →
    cloop t tt f vs ds acc e = .ok (acc ++ ds.filterMap h) e
  | [], acc, _, _ => by rw [List.filterMap_nil, List.append_nil]; rfl
  | d :: ds, acc, hs, hl => by
    rw [List.length_cons] at hl
    rw [cloop_cons (hs d List.mem_cons_self) (by omega), cloop_map (fun x hx => hs x (List.mem_cons_of_mem _ hx)) ?_]
    · cases q : h d with
      | none => simp [q]
      | some o => simp [q]
    · cases h d with
      | none => simp; omega
      | some o => simp; omega
/-- .. none left out -/
theorem cloop_all {t : TgS} {tt : En → Out Bool} {f : En → Out Rv} {vs : List Nat} {e : En} {h : D → O} {ds : List D} (hs : ∀ d ∈ ds, turn1 t tt f vs d e = some (some (h d), e)) (hl : ds.length ≤ 1000000) :
    cloop t tt f vs ds [] e = .ok (ds.map h) e := by
  rw [cloop_map (h := fun d => some (h d)) hs (by simpa using hl), List.nil_append]
  congr 1
  induction ds with
  | nil => rfl
  | cons d ds ih => simp
theorem eComp_all {si : En → Out (List D)} {t : TgS} {tt : En → Out Bool} {f : En → Out Rv} {vs : List Nat} {e : En} {ds : List D} (h : D → O) (hsi : si e = .ok ds e) (hw : e.wipe vs = e) (ht : ∀ d ∈ ds, turn1 t tt f vs d e = some (some (h d), e)) (hl : ds.length ≤ 1000000) :
    eComp si t tt f vs e = .ok (.tm (.lst (ds.map h))) e := by
  unfold eComp
  rw [hsi]
  show Out.bind (cloop t tt f vs ds [] (e.wipe vs)) _ = _
  rw [hw, cloop_all ht hl]
  rfl
theorem eComp_some {si : En → Out (List D)} {t : TgS} {tt : En → Out Bool} {f : En → Out Rv} {vs : List Nat} {e : En} {ds : List D} (h : D → Option O) (hsi : si e = .ok ds e) (hw : e.wipe vs = e) (ht : ∀ d ∈ ds, turn1 t tt f vs d e = some (h d, e)) (hl : ds.length ≤ 1000000) :
    eComp si t tt f vs e = .ok (.tm (.lst (ds.filterMap h))) e := by
  unfold eComp
  rw [hsi]
  show Out.bind (cloop t tt f vs ds [] (e.wipe vs)) _ = _
  rw [hw, cloop_map (h := h) ht (by simpa using hl), List.nil_append]
  rfl
/-- a loop, turn by turn: I holds between the turns -/
theorem loop_inv {t : TgS} {g : SS} (I : Nat → En → Prop) : ∀ {ds : List D} {n : Nat} {e : En}, I n e → (∀ j d e, ds[j]? = some d → I (n + j) e → ∃ e1 e2, t d e = some e1 ∧ (g e1 = .nx e2 ∨ g e1 = .ct e2) ∧ I (n + j + 1) e2) → ∃ e', loop t g ds e = .nx e' ∧ I (n + ds.length) e'
  | [], n, e, h, _ => ⟨e, rfl, h⟩
  | d :: ds, n, e, h, st => by
    obtain ⟨e1, e2, h1, h2, h3⟩ := st 0 d e rfl h
    obtain ⟨e', k1, k2⟩ := loop_inv I (ds := ds) (n := n + 1) (e := e2) h3 fun j d e hj hI => by
      have := st (j + 1) d e (by simpa using hj)
      rw [show n + (j + 1) = n + 1 + j from by omega] at this
      exact this hI
    refine ⟨e', ?_, by rw [List.length_cons, show n + (ds.length + 1) = n + 1 + ds.length from by omega]; exact k2⟩
    unfold loop
    rw [h1]
    simp only
    rcases h2 with h2 | h2 <;> rw [h2] <;> exact k1
theorem sFor_inv {si : En → Out (List D)} {t : TgS} {g : SS} {ds : List D} {e e0 : En} (I : Nat → En → Prop) (hsi : si e = .ok ds e0) (h : I 0 e0) (st : ∀ j d e, ds[j]? = some d → I j e → ∃ e1 e2, t d e = some e1 ∧ (g e1 = .nx e2 ∨ g e1 = .ct e2) ∧ I (j + 1) e2) :
    ∃ e', sFor si t g e = .nx e' ∧ I ds.length e' := by
  unfold sFor
  rw [hsi]
  have := loop_inv I (n := 0) h fun j d e hj hI => by
    rw [Nat.zero_add] at hI ⊢
    exact st j d e hj hI
  rwa [Nat.zero_add] at this
theorem nums_get {lo : Int} {n j : Nat} {d : D} (h : (nums lo n)[j]? = some d) : j < n ∧ d = .int (lo + j) := by
  unfold nums at h
  rw [List.getElem?_map] at h
  cases q : (List.range n)[j]? with
  | none => rw [q] at h; cases h
  | some k =>
    rw [q] at h
    obtain ⟨h1, h2⟩ := List.getElem?_eq_some_iff.mp q
    rw [List.getElem_range] at h2
    subst h2
    cases h
    exact ⟨by simpa using h1, rfl⟩
theorem nums_length {lo : Int} {n : Nat} : (nums lo n).length = n := by
  unfold nums; rw [List.length_map, List.length_range]
theorem nums_mem {lo : Int} {n : Nat} {d : D} (h : d ∈ nums lo n) : ∃ j : Nat, j < n ∧ d = .int (lo + j) := by
  obtain ⟨j, hj⟩ := List.getElem?_of_mem h
  exact ⟨j, nums_get hj⟩
theorem nums0_mem {n : Nat} {d : D} (h : d ∈ nums 0 n) : ∃ j : Nat, j < n ∧ d = .int (j : Int) := by
  obtain ⟨j, h1, h2⟩ := nums_mem h
  exact ⟨j, h1, by rw [h2, Int.zero_add]⟩
theorem nums0_get {n j : Nat} {d : D} (h : (nums 0 n)[j]? = some d) : j < n ∧ d = .int (j : Int) := by
  obtain ⟨h1, h2⟩ := nums_get h
  exact ⟨h1, by rw [h2, Int.zero_add]⟩
theorem itemD_lst {ds : List D} {i : Int} : itemD (.lst ds) i = atI ds i := rfl
theorem itemD_tup {k : Bool} {ds : List D} {i : Int} : itemD (.tup k ds) i = atI ds i := rfl
theorem nodup_map {α β : Type} {f : α → β} : ∀ {l : List α}, (∀ a ∈ l, ∀ b ∈ l, f a = f b → a = b) → l.Nodup → (l.map f).Nodup
  | [], _, _ => List.nodup_nil
  | a :: l, h, n => by
    rw [List.nodup_cons] at n
    rw [List.map_cons, List.nodup_cons]
    refine ⟨fun z => ?_, nodup_map (fun x hx y hy => h x (List.mem_cons_of_mem _ hx) y (List.mem_cons_of_mem _ hy)) n.2⟩
    obtain ⟨b, hb, e⟩ := List.mem_map.mp z
    have := h b (List.mem_cons_of_mem _ hb) a List.mem_cons_self e
    subst this
    exact n.1 hb
theorem cutL_from {α : Type} {xs : List α} {t : Int} (h : 0 ≤ t) : cutL xs (some t) none = xs.drop t.toNat := by
  unfold cutL HT.sIx
  simp only
  rw [if_neg (by omega)]
  by_cases q : t.toNat ≤ xs.length
  · rw [Nat.min_eq_left q]
    exact List.take_of_length_le (by rw [List.length_drop]; exact Nat.le_refl _)
  · rw [Nat.min_eq_right (by omega), Nat.sub_self, List.take_zero]
    exact (List.drop_eq_nil_of_le (by omega)).symm
theorem cutL_to {α : Type} {xs : List α} {t : Int} (h : 0 ≤ t) : cutL xs none (some t) = xs.take t.toNat := by
  unfold cutL HT.sIx
  simp only
  rw [if_neg (by omega), List.drop_zero, Nat.sub_zero]
  by_cases q : t.toNat ≤ xs.length
  · rw [Nat.min_eq_left q]
  · rw [Nat.min_eq_right (by omega), List.take_of_length_le (Nat.le_refl _), List.take_of_length_le (by omega)]
theorem rangeOk_of {i : Int} (h1 : -(2 ^ 62) ≤ i) (h2 : i < 2 ^ 62) : rangeOk i = true := by
  unfold rangeOk; rw [decide_eq_true h1, decide_eq_true h2]; rfl
theorem rangeOk_int {i : Int} (h : 0 ≤ i) (h2 : i ≤ 1000000) : rangeOk i = true := by
  refine rangeOk_of (Int.le_trans ?_ h) (Int.lt_of_le_of_lt h2 ?_) <;> decide
theorem rangeOk_nat {m : Nat} (h : m ≤ 1000000) : rangeOk (m : Int) = true := rangeOk_int (Int.natCast_nonneg m) (Int.ofNat_le.mpr h)
theorem itRange1_int {f : En → Out (List Rv)} {e e' : En} {i : Int} (h : f e = .ok [.tm (.fz (.int i))] e') (h0 : 0 ≤ i) (h1 : i ≤ 1000000) : itRange1 f e = .ok (nums 0 i.toNat) e' := by
  unfold itRange1
  rw [h]
  show (if rangeOk i = true then Out.ok (nums 0 i.toNat) e' else .no) = _
  rw [if_pos (rangeOk_int h0 h1)]
theorem itRange1_nat {f : En → Out (List Rv)} {e e' : En} {m : Nat} (h : f e = .ok [.tm (.fz (.int (m : Int)))] e') (hm : m ≤ 1000000) : itRange1 f e = .ok (nums 0 m) e' :=
  itRange1_int h (Int.natCast_nonneg m) (Int.ofNat_le.mpr hm)
end DL

set_option Elab.async false
set_option linter.all false
set_option maxRecDepth 100000
set_option maxHeartbeats 2000000
/-! DL, part Q: what repr writes is short enough. -/
namespace DL
open PySem L2 PySem.Spec PyProof.Rows
mutual
/-- scalars, lists and tuples with ints that are not too long -/
def D.fit : D → Bool
  | .non => true
  | .bl _ => true
  | .int i => decide (i.natAbs < 10 ^ 31)
  | .str x => PyData.strOk x
  | .tup _ ds => fits ds
  | .lst ds => fits ds
  | .dK _ _ => false
  | .dT _ _ => false
  | .obj _ _ _ => false
  | .exc _ _ _ => false
def fits : List D → Bool
  | [] => true
  | d :: ds => d.fit && fits ds
end
mutual
/-- room for what repr writes -/
def D.wt : D → Nat
  | .non => 4
  | .bl _ => 5
  | .int _ => 32
  | .str x => 10 * x.length + 2
  | .tup _ ds => 2 + wts ds
  | .lst ds => 2 + wts ds
  | .dK _ _ => 0
  | .dT _ _ => 0
  | .obj _ _ _ => 0
  | .exc _ _ _ => 0
def wts : List D → Nat
  | [] => 0
  | d :: ds => d.wt + 2 + wts ds
end
mutual
def D.dep : D → Nat
  | .tup _ ds => deps ds + 1
  | .lst ds => deps ds + 1
  | _ => 0
def deps : List D → Nat
  | [] => 0
  | d :: ds => max d.dep (deps ds)
end
theorem fits_iff : ∀ {ds : List D}, fits ds = true ↔ ∀ d ∈ ds, d.fit = true
  | [] => ⟨fun _ _ h => (nomatch h), fun _ => rfl⟩
  | d :: ds => by
    unfold fits
    rw [Bool.and_eq_true, fits_iff (ds := ds)]
    constructor
    · rintro ⟨h1, h2⟩ x hx
      rcases List.mem_cons.mp hx with rfl | hx
      · exact h1
      · exact h2 x hx
    · exact fun h => ⟨h d List.mem_cons_self, fun x hx => h x (List.mem_cons_of_mem _ hx)⟩
theorem wts_app : ∀ {xs ys : List D}, wts (xs ++ ys) = wts xs + wts ys
  | [], ys => by rw [List.nil_append]; unfold wts; omega
  | x :: xs, ys => by
    rw [List.cons_append]
    conv => lhs; unfold wts
    conv => rhs; unfold wts
    rw [wts_app]
    cases ys <;> simp [wts] <;> omega
theorem deps_app : ∀ {xs ys : List D}, deps (xs ++ ys) = max (deps xs) (deps ys)
  | [], ys => by rw [List.nil_append]; simp [deps]
  | x :: xs, ys => by
    rw [List.cons_append]
    simp only [deps]
    rw [deps_app, Nat.max_assoc]
theorem fits_app {xs ys : List D} : fits (xs ++ ys) = (fits xs && fits ys) := by
  rw [Bool.eq_iff_iff, Bool.and_eq_true, fits_iff, fits_iff, fits_iff]
  constructor
  · exact fun h => ⟨fun d hd => h d (List.mem_append_left _ hd), fun d hd => h d (List.mem_append_right _ hd)⟩
  · rintro ⟨h1, h2⟩ d hd
    rcases List.mem_append.mp hd with hd | hd
    · exact h1 d hd
    · exact h2 d hd
theorem deps_le {n : Nat} : ∀ {ds : List D}, (∀ d ∈ ds, d.dep ≤ n) → deps ds ≤ n
  | [], _ => Nat.zero_le _
  | d :: ds, h => by
    unfold deps
    exact Nat.max_le.mpr ⟨h d List.mem_cons_self, deps_le fun x hx => h x (List.mem_cons_of_mem _ hx)⟩
theorem wts_le {n : Nat} : ∀ {ds : List D}, (∀ d ∈ ds, d.wt ≤ n) → wts ds ≤ ds.length * (n + 2)
  | [], _ => by unfold wts; omega
  | d :: ds, h => by
    unfold wts
    have h1 := h d List.mem_cons_self
    have h2 := wts_le fun x hx => h x (List.mem_cons_of_mem d hx)
    rw [List.length_cons, Nat.succ_mul]
    omega
mutual
theorem fit_plain : ∀ {d : D}, d.fit = true → d.plain = true
  | .non, _ => rfl
  | .bl _, _ => rfl
  | .int _, _ => rfl
  | .str _, _ => rfl
  | .tup _ ds, h => by unfold D.plain; exact fits_plain (by simpa [D.fit] using h)
  | .lst ds, h => by unfold D.plain; exact fits_plain (by simpa [D.fit] using h)
theorem fits_plain : ∀ {ds : List D}, fits ds = true → plains ds = true
  | [], _ => rfl
  | d :: ds, h => by
    unfold fits at h
    rw [Bool.and_eq_true] at h
    unfold plains
    rw [fit_plain h.1, fits_plain h.2]
    rfl
end
mutual
theorem dep_pd : ∀ {d : D}, d.fit = true → d.pd.depth = d.dep
  | .non, _ => by simp [D.pd, D.dep, PyData.depth]
  | .bl _, _ => by simp [D.pd, D.dep, PyData.depth]
  | .int _, _ => by simp [D.pd, D.dep, PyData.depth]
  | .str _, _ => by simp [D.pd, D.dep, PyData.depth]
  | .tup _ ds, h => by
    have := deps_pd (ds := ds) (by simpa [D.fit] using h)
    simp [D.pd, D.dep, PyData.depth, this]
  | .lst ds, h => by
    have := deps_pd (ds := ds) (by simpa [D.fit] using h)
    simp [D.pd, D.dep, PyData.depth, this]
theorem deps_pd : ∀ {ds : List D}, fits ds = true → PyData.depthAll (pds ds) = deps ds
  | [], _ => by simp [pds, deps, PyData.depthAll]
  | d :: ds, h => by
    unfold fits at h
    rw [Bool.and_eq_true] at h
    simp [pds, deps, PyData.depthAll, dep_pd h.1, deps_pd h.2]
end
mutual
theorem lay_pd : ∀ {d : D}, d.fit = true → d.pd.canLay0 = true
  | .non, _ => by simp [D.pd, PyData.canLay0]
  | .bl _, _ => by simp [D.pd, PyData.canLay0]
  | .int _, _ => by simp [D.pd, PyData.canLay0]
  | .str _, h => by simpa [D.pd, PyData.canLay0, D.fit] using h
  | .tup _ ds, h => by
    have := lays_pd (ds := ds) (by simpa [D.fit] using h)
    simp [D.pd, PyData.canLay0, this]
  | .lst ds, h => by
    have := lays_pd (ds := ds) (by simpa [D.fit] using h)
    simp [D.pd, PyData.canLay0, this]
theorem lays_pd : ∀ {ds : List D}, fits ds = true → PyData.canLayAll0 (pds ds) = true
  | [], _ => by simp [pds, PyData.canLayAll0]
  | d :: ds, h => by
    unfold fits at h
    rw [Bool.and_eq_true] at h
    simp [pds, PyData.canLayAll0, lay_pd h.1, lays_pd h.2]
end
mutual
theorem show_pd : ∀ {d : D}, d.fit = true → d.pd.showable = true
  | .non, _ => by simp [D.pd, PyData.showable]
  | .bl _, _ => by simp [D.pd, PyData.showable]
  | .int i, h => by
    have h1 : i.natAbs < 10 ^ 31 := by simpa [D.fit] using h
    have h2 : i.natAbs.log2 < 1920 := by
      by_cases z : i.natAbs = 0
      · rw [z]; decide
      · rw [Nat.log2_lt z]
        exact Nat.lt_trans h1 (Nat.lt_of_lt_of_le (show 10 ^ 31 < 2 ^ 104 by decide) (Nat.pow_le_pow_right (by decide) (by decide)))
    simp [D.pd, PyData.showable, h2]
  | .str _, _ => by simp [D.pd, PyData.showable]
  | .tup _ ds, h => by
    have := shows_pd (ds := ds) (by simpa [D.fit] using h)
    simp [D.pd, PyData.showable, this]
  | .lst ds, h => by
    have := shows_pd (ds := ds) (by simpa [D.fit] using h)
    simp [D.pd, PyData.showable, this]
theorem shows_pd : ∀ {ds : List D}, fits ds = true → PyData.showableAll (pds ds) = true
  | [], _ => by simp [pds, PyData.showableAll]
  | d :: ds, h => by
    unfold fits at h
    rw [Bool.and_eq_true] at h
    simp [pds, PyData.showableAll, show_pd h.1, shows_pd h.2]
end
theorem textFrom_le : ∀ (ts : List Str) (k : Nat) (acc : Str), (textFrom k acc ts).length ≤ acc.length + PySem.piled ts
  | [], _, acc => Nat.le_add_right _ _
  | t :: ts, k, acc => by
    unfold textFrom
    refine Nat.le_trans (textFrom_le ts _ _) ?_
    rw [strLen_append, strLen_append, piled_cons]
    have : (((if k > 0 then ", " else "" : String) : Str)).length ≤ 2 := by split <;> decide
    omega
theorem tupleText_le (ts : List Str) : (tupleText ts).length ≤ 2 + PySem.piled ts := by
  unfold tupleText
  rw [strLen_append, strLen_append]
  have e1 : ((("(" : String) : Str)).length = 1 := rfl
  cases ts with
  | nil => decide
  | cons t r =>
    have := join_length_add (t :: r) (by simp)
    have e3 : (((if (t :: r).length == 1 then ",)" else ")" : String) : Str)).length ≤ 2 := by split <;> decide
    omega
theorem listText_le (ts : List Str) : (listText ts).length ≤ 2 + PySem.piled ts := by
  unfold listText
  rw [strLen_append]
  have := textFrom_le ts 0 "["
  have e1 : ((("[" : String) : Str)).length = 1 := rfl
  have e2 : ((("]" : String) : Str)).length = 1 := rfl
  omega
mutual
theorem len_pd : ∀ {d : D}, d.fit = true → d.pd.shown.length ≤ d.wt
  | .non, _ => by simp only [D.pd, PyData.shown, D.wt]; decide
  | .bl b, _ => by simp only [D.pd, PyData.shown, D.wt]; cases b <;> decide
  | .int i, h => by
    have h1 : i.natAbs < 10 ^ 31 := by simpa [D.fit] using h
    simp only [D.pd, PyData.shown, D.wt]
    have := int_text_length_le10 (k := 31) (by decide) h1
    show (Str.ofString (toString i)).length ≤ 32
    rw [PySem.ofString_length]
    exact this
  | .str x, h => by
    have h1 : PyData.strOk x = true := by simpa [D.fit] using h
    simp only [D.pd, PyData.shown, D.wt]
    refine StrLaws.reprText_len x fun c hc => ?_
    unfold PyData.strOk at h1
    rw [Array.all_eq_true'] at h1
    have := h1 c (Array.mem_toList_iff.mp hc)
    have := of_decide_eq_true this
    exact Nat.lt_trans this (by decide)
  | .tup _ ds, h => by
    have h1 := lens_pd (ds := ds) (by simpa [D.fit] using h)
    simp only [D.pd, PyData.shown, D.wt]
    exact Nat.le_trans (tupleText_le _) (by omega)
  | .lst ds, h => by
    have h1 := lens_pd (ds := ds) (by simpa [D.fit] using h)
    simp only [D.pd, PyData.shown, D.wt]
    exact Nat.le_trans (listText_le _) (by omega)
theorem lens_pd : ∀ {ds : List D}, fits ds = true → PySem.piled (PyData.shownAll (pds ds)) ≤ wts ds
  | [], _ => by simp [pds, PyData.shownAll, wts, PySem.piled]
  | d :: ds, h => by
    unfold fits at h
    rw [Bool.and_eq_true] at h
    simp only [pds, PyData.shownAll, wts]
    rw [piled_cons]
    have h1 := len_pd h.1
    have h2 := lens_pd h.2
    omega
end
theorem showOk_of {d : D} (h : d.fit = true) (hd : d.dep ≤ 64) (hw : d.wt ≤ most) : showOk d = true := by
  unfold showOk
  rw [fit_plain h, show_pd h, dep_pd h, decide_eq_true hd, decide_eq_true (Nat.le_trans (len_pd h) hw)]
  rfl
theorem eqOk_of {d : D} (h : d.fit = true) (hd : d.dep ≤ 64) : eqOk d = true := by
  unfold eqOk SeqAt.shaped
  rw [fit_plain h, lay_pd h, dep_pd h, decide_eq_true hd]
  rfl
mutual
theorem eqv_refl : ∀ {d : D}, d.fit = true → PyData.eqv d.pd d.pd = true
  | .non, _ => by simp [D.pd, PyData.eqv]
  | .bl _, _ => by simp [D.pd, PyData.eqv]
  | .int _, _ => by simp [D.pd, PyData.eqv]
  | .str _, _ => by simp [D.pd, PyData.eqv]
  | .tup _ ds, h => by
    have := eqvs_refl (ds := ds) (by simpa [D.fit] using h)
    simp [D.pd, PyData.eqv, this]
  | .lst ds, h => by
    have := eqvs_refl (ds := ds) (by simpa [D.fit] using h)
    simp [D.pd, PyData.eqv, this]
theorem eqvs_refl : ∀ {ds : List D}, fits ds = true → PyData.eqvAll (pds ds) (pds ds) = true
  | [], _ => by simp [pds, PyData.eqvAll]
  | d :: ds, h => by
    unfold fits at h
    rw [Bool.and_eq_true] at h
    simp [pds, PyData.eqvAll, eqv_refl h.1, eqvs_refl h.2]
end
theorem eqD_same {d : D} (h : d.fit = true) (hd : d.dep ≤ 64) : eqD [d, d] = some (.bl true) := by
  unfold eqD
  split
  · rename_i x y e
    cases e
    rw [beq_self_eq_true]
  · rename_i a b _ e
    cases e
    rw [eqOk_of h hd, eqv_refl h]
    rfl
  · rename_i _ n
    exact absurd rfl (n d d)
theorem neD_same {d : D} (h : d.fit = true) (hd : d.dep ≤ 64) : neD [d, d] = some (.bl false) := by
  unfold neD
  split
  · rename_i x y e
    cases e
    simp
  · rename_i a b _ e
    cases e
    rw [eqOk_of h hd, eqv_refl h]
    rfl
  · rename_i _ n
    exact absurd rfl (n d d)
theorem eqD_int {i j : Int} : eqD [.int i, .int j] = some (.bl (decide (i = j))) := by
  have e : (i == j) = decide (i = j) := by rw [Bool.eq_iff_iff]; simp
  simp [eqD, eqOk, D.plain, SeqAt.shaped, D.pd, PyData.canLay0, PyData.depth, PyData.eqv, e]
theorem neD_int {i j : Int} : neD [.int i, .int j] = some (.bl (!decide (i = j))) := by
  have e : (i == j) = decide (i = j) := by rw [Bool.eq_iff_iff]; simp
  simp [neD, eqOk, D.plain, SeqAt.shaped, D.pd, PyData.canLay0, PyData.depth, PyData.eqv, e]
theorem eqD_str {x y : Str} : eqD [.str x, .str y] = some (.bl (x == y)) := rfl
theorem neD_str {x y : Str} : neD [.str x, .str y] = some (.bl (x != y)) := rfl
theorem modD_of {i j : Int} (h : 0 < j) : modD [.int i, .int j] = some (.int (i % j)) := if_pos h
theorem divD_of {i j : Int} (h : 0 < j ∧ j < 1073741824) : divD [.int i, .int j] = some (.int (i / j)) := if_pos h
theorem mulD_l {i j : Int} (h : i.natAbs < 18446744073709551616) : mulD [.int i, .int j] = some (.int (i * j)) := if_pos (.inl h)
theorem mulD_r {i j : Int} (h : j.natAbs < 18446744073709551616) : mulD [.int i, .int j] = some (.int (i * j)) := if_pos (.inr h)
theorem addD_int {i j : Int} : addD [.int i, .int j] = some (.fz (.int (i + j))) := rfl
theorem reprD_of {d : D} (h : d.fit = true) (hd : d.dep ≤ 64) (hw : d.wt ≤ most) : reprD [d] = some (.str d.pd.shown) := by
  show (if showOk d then some (D.str d.pd.shown) else none) = _
  rw [showOk_of h hd hw]
  rfl
end DL

set_option Elab.async false
set_option linter.all false
set_option maxRecDepth 100000
set_option maxHeartbeats 2000000
/-! DL, part R: the functions on frames, one step at a time, at a frame that is written out. -/
namespace DL
open PySem L2 PySem.Spec PyProof.Rows

section
variable {sl : List (Option Sl)} {me : O} {i : Nat} {o : O} {r : Rv} {rs : List Rv} {d : D} {ds : List D} {t : TgS} {u : List D → En → Option En}
theorem at_k : En.at ⟨sl, me⟩ i = (match sl[i]? with | some (some (.ow o)) => some o | some (some .me) => some me | _ => none) := id rfl
theorem put_k : En.put ⟨sl, me⟩ i o = ⟨sl.set i (some (.ow o)), me⟩ := id rfl
theorem hole_k : En.hole ⟨sl, me⟩ i = ⟨sl.set i none, me⟩ := id rfl
theorem frz_k : En.frz ⟨sl, me⟩ i = (match sl[i]? with | some (some (.ow o)) => some (.fz o.val, ⟨sl.set i (some (.ow (.fz o.val))), me⟩) | some (some .me) => some (.fz me.val, ⟨sl, .fz me.val⟩) | _ => none) := id rfl
theorem own_tm_k : own ⟨sl, me⟩ (.tm o) = some (o, ⟨sl, me⟩) := id rfl
theorem own_sl_k : own ⟨sl, me⟩ (.sl i) = En.frz ⟨sl, me⟩ i := id rfl
theorem own_me_k : own ⟨sl, me⟩ .me = some (.fz me.val, ⟨sl, .fz me.val⟩) := id rfl
theorem look_tm_k : look ⟨sl, me⟩ (.tm o) = some o.val := id rfl
theorem look_sl_k : look ⟨sl, me⟩ (.sl i) = (En.at ⟨sl, me⟩ i).map O.val := id rfl
theorem look_me_k : look ⟨sl, me⟩ .me = some me.val := id rfl
theorem fix_k : fix ⟨sl, me⟩ r = (match own ⟨sl, me⟩ r with | some (o, e') => some (o.val, e') | none => none) := id rfl
theorem give_tm_k : give ⟨sl, me⟩ (.tm o) = some (o, ⟨sl, me⟩) := id rfl
theorem give_sl_k : give ⟨sl, me⟩ (.sl i) = (match sl[i]? with | some (some (.ow o)) => some (o, ⟨sl.set i none, me⟩) | _ => own ⟨sl, me⟩ (.sl i)) := id rfl
theorem give_me_k : give ⟨sl, me⟩ .me = own ⟨sl, me⟩ .me := id rfl
theorem fixAll_nil_k : fixAll ⟨sl, me⟩ [] = some ([], ⟨sl, me⟩) := id rfl
theorem fixAll_cons_k : fixAll ⟨sl, me⟩ (r :: rs) = (match fix ⟨sl, me⟩ r with | none => none | some (d, e1) => match fixAll e1 rs with | none => none | some (ds, e2) => some (d :: ds, e2)) := id rfl
theorem lookAll_nil_k : lookAll ⟨sl, me⟩ [] = some [] := id rfl
theorem lookAll_cons_k : lookAll ⟨sl, me⟩ (r :: rs) = (match look ⟨sl, me⟩ r with | none => none | some d => match lookAll ⟨sl, me⟩ rs with | none => none | some ds => some (d :: ds)) := id rfl
theorem ownAll_nil_k : ownAll ⟨sl, me⟩ [] = some ([], ⟨sl, me⟩) := id rfl
theorem ownAll_cons_k : ownAll ⟨sl, me⟩ (r :: rs) = (match own ⟨sl, me⟩ r with | none => none | some (d, e1) => match ownAll e1 rs with | none => none | some (ds, e2) => some (d :: ds, e2)) := id rfl
theorem tree_tm_k : treeOf ⟨sl, me⟩ (.tm o) = some o := id rfl
theorem tree_sl_k : treeOf ⟨sl, me⟩ (.sl i) = En.at ⟨sl, me⟩ i := id rfl
theorem tree_me_k : treeOf ⟨sl, me⟩ .me = some me := id rfl
theorem gN_k : gN i d ⟨sl, me⟩ = some ⟨sl.set i (some (.ow (.fz d))), me⟩ := id rfl
theorem gNil_k : gNil' [] ⟨sl, me⟩ = some ⟨sl, me⟩ := id rfl
theorem gCons_k : gCons' t u (d :: ds) ⟨sl, me⟩ = (match t d ⟨sl, me⟩ with | none => none | some e1 => u ds e1) := id rfl
theorem gT_k {k : Bool} : gT u (.tup k ds) ⟨sl, me⟩ = u ds ⟨sl, me⟩ := id rfl
theorem isLst_k : isLst ⟨sl, me⟩ i = (match sl[i]? with | some (some (.ow (.lst _))) => true | _ => false) := id rfl
theorem isDkOwn_k : isDkOwn ⟨sl, me⟩ i = (match sl[i]? with | some (some (.ow (.dK _ _))) => true | _ => false) := id rfl
theorem val_fz_k : (O.fz d).val = d := id rfl
theorem val_lst_k {os : List O} : (O.lst os).val = .lst (vals os) := id rfl
theorem val_dK_k {ks : List Key} {os : List O} : (O.dK ks os).val = .dK ks (vals os) := id rfl
theorem defSem_k {m n : Nat} {g : SS} : defSem m n g ds = (match g ⟨ds.map (fun d => some (.ow (.fz d))) ++ List.replicate (m - n) none, .fz .non⟩ with | .rt o _ => .ok o | .nx _ => .ok (.fz .non) | .ex x _ => .ex x | _ => .no) := id rfl
end
theorem eVar_k {i : Nat} {sl : List (Option Sl)} {me : O} : eVar i ⟨sl, me⟩ = (match sl[i]? with
  | some (some (.ow (.fz d))) => .ok (.tm (.fz d)) ⟨sl, me⟩
  | some (some (.ow _)) => .ok (.sl i) ⟨sl, me⟩
  | some (some .me) => .ok .me ⟨sl, me⟩
  | _ => .no) := id rfl
theorem eC_k {d : D} {sl : List (Option Sl)} {me : O} : eC d ⟨sl, me⟩ = (.ok (.tm (.fz d)) ⟨sl, me⟩) := id rfl
theorem aNil_k  {sl : List (Option Sl)} {me : O} : aNil  ⟨sl, me⟩ = (.ok [] ⟨sl, me⟩) := id rfl
theorem aCons_k {f : En → Out Rv} {g : En → Out (List Rv)} {sl : List (Option Sl)} {me : O} : aCons f g ⟨sl, me⟩ = ((f ⟨sl, me⟩).bind fun r e1 => (g e1).bind fun rs e2 => .ok (r :: rs) e2) := id rfl
theorem eV_k {φ : List D → Option D} {f : En → Out (List Rv)} {sl : List (Option Sl)} {me : O} : eV φ f ⟨sl, me⟩ = ((f ⟨sl, me⟩).bind fun rs e1 => match lookAll e1 rs with
  | none => .no
  | some ds => match φ ds with
    | none => .no
    | some d => .ok (.tm (.fz d)) e1) := id rfl
theorem eF_k {φ : List D → Option O} {f : En → Out (List Rv)} {sl : List (Option Sl)} {me : O} : eF φ f ⟨sl, me⟩ = ((f ⟨sl, me⟩).bind fun rs e1 => match fixAll e1 rs with
  | none => .no
  | some (ds, e2) => match φ ds with
    | none => .no
    | some o => .ok (.tm o) e2) := id rfl
theorem two_k {f g : En → Out Rv} {sl : List (Option Sl)} {me : O} : two f g ⟨sl, me⟩ = (aCons f (aCons g aNil)) ⟨sl, me⟩ := id rfl
theorem tOf_k {f : En → Out Rv} {sl : List (Option Sl)} {me : O} : tOf f ⟨sl, me⟩ = ((f ⟨sl, me⟩).bind fun r e1 => match r with
  | .tm (.fz (.bl b)) => .ok b e1
  | _ => .no) := id rfl
theorem tAndD_k {f g : En → Out Bool} {sl : List (Option Sl)} {me : O} : tAndD f g ⟨sl, me⟩ = ((f ⟨sl, me⟩).bind fun k e1 => match k with | true => g e1 | false => .ok false e1) := id rfl
theorem tOrD_k {f g : En → Out Bool} {sl : List (Option Sl)} {me : O} : tOrD f g ⟨sl, me⟩ = ((f ⟨sl, me⟩).bind fun k e1 => match k with | true => .ok true e1 | false => g e1) := id rfl
theorem tNotD_k {f : En → Out Bool} {sl : List (Option Sl)} {me : O} : tNotD f ⟨sl, me⟩ = ((f ⟨sl, me⟩).bind fun k e1 => .ok (!k) e1) := id rfl
theorem eIf_k {t : En → Out Bool} {f g : En → Out Rv} {sl : List (Option Sl)} {me : O} : eIf t f g ⟨sl, me⟩ = ((t ⟨sl, me⟩).bind fun k e1 => match k with | true => f e1 | false => g e1) := id rfl
theorem eAndD_k {f g : En → Out Rv} {sl : List (Option Sl)} {me : O} : eAndD f g ⟨sl, me⟩ = ((tOf f ⟨sl, me⟩).bind fun k e1 => match k with | true => g e1 | false => .ok (.tm (.fz (.bl false))) e1) := id rfl
theorem eOrD_k {f g : En → Out Rv} {sl : List (Option Sl)} {me : O} : eOrD f g ⟨sl, me⟩ = ((tOf f ⟨sl, me⟩).bind fun k e1 => match k with | true => .ok (.tm (.fz (.bl true))) e1 | false => g e1) := id rfl
theorem eNotD_k {f : En → Out Rv} {sl : List (Option Sl)} {me : O} : eNotD f ⟨sl, me⟩ = ((tOf f ⟨sl, me⟩).bind fun k e1 => .ok (.tm (.fz (.bl (!k)))) e1) := id rfl
theorem eCall_k {φ : List D → Res} {f : En → Out (List Rv)} {sl : List (Option Sl)} {me : O} : eCall φ f ⟨sl, me⟩ = ((f ⟨sl, me⟩).bind fun rs e1 => match fixAll e1 rs with
  | none => .no
  | some (ds, e2) => match φ ds with
    | .ok o => .ok (.tm o) e2
    | .ex x => .ex x e2
    | .no => .no) := id rfl
theorem eLst_k {f : En → Out (List Rv)} {sl : List (Option Sl)} {me : O} : eLst f ⟨sl, me⟩ = ((f ⟨sl, me⟩).bind fun rs e1 => match ownAll e1 rs with
  | none => .no
  | some (os, e2) => if os.length ≤ 1000 then .ok (.tm (.lst os)) e2 else .no) := id rfl
theorem eTup_k {f : En → Out (List Rv)} {sl : List (Option Sl)} {me : O} : eTup f ⟨sl, me⟩ = ((f ⟨sl, me⟩).bind fun rs e1 => match fixAll e1 rs with
  | none => .no
  | some (ds, e2) => if ds.length ≤ 1000 then .ok (.tm (.fz (.tup false ds))) e2 else .no) := id rfl
theorem eTupK_k {f : En → Out (List Rv)} {sl : List (Option Sl)} {me : O} : eTupK f ⟨sl, me⟩ = ((f ⟨sl, me⟩).bind fun rs e1 => match fixAll e1 rs with
  | none => .no
  | some (ds, e2) => if ds.length ≤ 1000 then .ok (.tm (.fz (.tup true ds))) e2 else .no) := id rfl
theorem sNil_k  {sl : List (Option Sl)} {me : O} : sNil  ⟨sl, me⟩ = (.nx ⟨sl, me⟩) := id rfl
theorem sCons_k {g k : SS} {sl : List (Option Sl)} {me : O} : sCons g k ⟨sl, me⟩ = ((g ⟨sl, me⟩).then k) := id rfl
theorem sBreak_k  {sl : List (Option Sl)} {me : O} : sBreak  ⟨sl, me⟩ = (.bk ⟨sl, me⟩) := id rfl
theorem sCont_k  {sl : List (Option Sl)} {me : O} : sCont  ⟨sl, me⟩ = (.ct ⟨sl, me⟩) := id rfl
theorem sIf_k {t : En → Out Bool} {g k : SS} {sl : List (Option Sl)} {me : O} : sIf t g k ⟨sl, me⟩ = ((t ⟨sl, me⟩).so fun b e1 => match b with | true => g e1 | false => k e1) := id rfl
theorem sSet_k {i : Nat} {f : En → Out Rv} {sl : List (Option Sl)} {me : O} : sSet i f ⟨sl, me⟩ = ((f ⟨sl, me⟩).so fun r e1 => match own e1 r with
  | none => .no
  | some (o, e2) => .nx (e2.put i o)) := id rfl
theorem sRet_k {f : En → Out Rv} {sl : List (Option Sl)} {me : O} : sRet f ⟨sl, me⟩ = ((f ⟨sl, me⟩).so fun r e1 => match give e1 r with
  | none => .no
  | some (o, e2) => .rt o e2) := id rfl
theorem sRetN_k  {sl : List (Option Sl)} {me : O} : sRetN  ⟨sl, me⟩ = (.rt (.fz .non) ⟨sl, me⟩) := id rfl
theorem sDrop_k {f : En → Out Rv} {sl : List (Option Sl)} {me : O} : sDrop f ⟨sl, me⟩ = ((f ⟨sl, me⟩).so fun r e1 => .nx e1) := id rfl
theorem sAsg_k {t : TgS} {f : En → Out Rv} {sl : List (Option Sl)} {me : O} : sAsg t f ⟨sl, me⟩ = ((f ⟨sl, me⟩).so fun r e1 => match fix e1 r with
  | none => .no
  | some (d, e2) => match t d e2 with
    | none => .no
    | some e3 => .nx e3) := id rfl
theorem itSeq_k {f : En → Out Rv} {sl : List (Option Sl)} {me : O} : itSeq f ⟨sl, me⟩ = ((f ⟨sl, me⟩).bind fun r e1 => match fix e1 r with
  | some (.lst ds, e2) => .ok ds e2
  | some (.tup _ ds, e2) => .ok ds e2
  | _ => .no) := id rfl
theorem itRange1_k {f : En → Out (List Rv)} {sl : List (Option Sl)} {me : O} : itRange1 f ⟨sl, me⟩ = ((f ⟨sl, me⟩).bind fun rs e1 => match rs with
  | [.tm (.fz (.int j))] => if rangeOk j then .ok (nums 0 j.toNat) e1 else .no
  | _ => .no) := id rfl
theorem itRange2_k {f : En → Out (List Rv)} {sl : List (Option Sl)} {me : O} : itRange2 f ⟨sl, me⟩ = ((f ⟨sl, me⟩).bind fun rs e1 => match rs with
  | [.tm (.fz (.int i)), .tm (.fz (.int j))] => if rangeOk i && rangeOk j then .ok (nums i (j - i).toNat) e1 else .no
  | _ => .no) := id rfl
theorem sFor_k {s : En → Out (List D)} {t : TgS} {g : SS} {sl : List (Option Sl)} {me : O} : sFor s t g ⟨sl, me⟩ = ((s ⟨sl, me⟩).so fun ds e1 => loop t g ds e1) := id rfl
theorem tYesD_k  {sl : List (Option Sl)} {me : O} : tYesD  ⟨sl, me⟩ = (.ok true ⟨sl, me⟩) := id rfl
theorem eItem_k {f g : En → Out Rv} {sl : List (Option Sl)} {me : O} : eItem f g ⟨sl, me⟩ = ((two f g ⟨sl, me⟩).bind fun rs e1 => match rs with
  | [r, .tm (.fz (.int i))] => match treeOf e1 r with
    | some (.lst os) => match atI os i with
      | some (.fz d) => .ok (.tm (.fz d)) e1
      | _ => .no
    | some (.fz d) => match itemD d i with
      | some x => .ok (.tm (.fz x)) e1
      | none => .no
    | _ => .no
  | _ => .no) := id rfl
theorem pNone_k  {sl : List (Option Sl)} {me : O} : pNone  ⟨sl, me⟩ = (.ok none ⟨sl, me⟩) := id rfl
theorem pSome_k {f : En → Out Rv} {sl : List (Option Sl)} {me : O} : pSome f ⟨sl, me⟩ = ((f ⟨sl, me⟩).bind fun r e1 => match r with
  | .tm (.fz (.int i)) => .ok (some i) e1
  | _ => .no) := id rfl
theorem eSlice_k {f : En → Out Rv} {lo hi : En → Out (Option Int)} {sl : List (Option Sl)} {me : O} : eSlice f lo hi ⟨sl, me⟩ = ((f ⟨sl, me⟩).bind fun r e1 => match fix e1 r with
  | none => .no
  | some (d, e2) => (lo e2).bind fun l e3 => (hi e3).bind fun h e4 => match sliceD d l h with
    | none => .no
    | some o => .ok (.tm o) e4) := id rfl
theorem eM1_k {φ : Str → D → Option D} {f g : En → Out Rv} {sl : List (Option Sl)} {me : O} : eM1 φ f g ⟨sl, me⟩ = ((f ⟨sl, me⟩).bind fun r e1 => match r with
  | .tm (.fz (.str z)) => (g e1).bind fun r2 e2 => match look e2 r2 with
    | none => .no
    | some d => match φ z d with
      | none => .no
      | some x => .ok (.tm (.fz x)) e2
  | _ => .no) := id rfl
theorem eGet1_k {f g : En → Out Rv} {sl : List (Option Sl)} {me : O} : eGet1 f g ⟨sl, me⟩ = ((f ⟨sl, me⟩).bind fun r e1 => if isDk (treeOf e1 r) then (g e1).bind fun rk e2 => match look e2 rk with
    | none => .no
    | some kd => match keyD kd with
      | none => .no
      | some k => match treeOf e2 r with
        | none => .no
        | some o => match lookO o k with
          | none => .no
          | some none => .ok (.tm (.fz .non)) e2
          | some (some d) => .ok (.tm (.fz d)) e2
  else .no) := id rfl
theorem eGet2_k {f g h : En → Out Rv} {sl : List (Option Sl)} {me : O} : eGet2 f g h ⟨sl, me⟩ = ((f ⟨sl, me⟩).bind fun r e1 => if isDk (treeOf e1 r) then (g e1).bind fun rk e2 => match look e2 rk with
    | none => .no
    | some kd => match keyD kd with
      | none => .no
      | some k => (h e2).bind fun rx e3 => match fix e3 rx with
        | none => .no
        | some (dx, e4) => match treeOf e4 r with
          | none => .no
          | some o => match lookO o k with
            | none => .no
            | some none => .ok (.tm (.fz dx)) e4
            | some (some d) => .ok (.tm (.fz d)) e4
  else .no) := id rfl
theorem sPutK_k {i : Nat} {fv fk : En → Out Rv} {sl : List (Option Sl)} {me : O} : sPutK i fv fk ⟨sl, me⟩ = ((fv ⟨sl, me⟩).so fun r e1 => if isDkOwn e1 i then (fk e1).so fun rk e2 => match look e2 rk with
    | none => .no
    | some kd => match keyD kd with
      | none => .no
      | some k => match fix e2 r with
        | none => .no
        | some (d, e3) => match e3.sl[i]? with
          | some (some (.ow (.dK ks os))) => if ks.length < 1000000 then .nx (e3.put i (.dK (putKs ks k) (putOs ks os k (.fz d)))) else .no
          | _ => .no
  else .no) := id rfl
theorem sAppend_k {i : Nat} {f : En → Out Rv} {sl : List (Option Sl)} {me : O} : sAppend i f ⟨sl, me⟩ = (if isLst ⟨sl, me⟩ i then (f ⟨sl, me⟩).so fun r e1 => match own e1 r with
    | none => .no
    | some (o, e2) => match e2.sl[i]? with
      | some (some (.ow (.lst os))) => if os.length < 1000000 then .nx (e2.put i (.lst (os ++ [o]))) else .no
      | _ => .no
  else .no) := id rfl
theorem sSetI_k {i : Nat} {fv fi : En → Out Rv} {sl : List (Option Sl)} {me : O} : sSetI i fv fi ⟨sl, me⟩ = ((fv ⟨sl, me⟩).so fun r e1 => if isLst e1 i then (fi e1).so fun r2 e2 => match r2 with
    | .tm (.fz (.int k)) => match fix e2 r with
      | none => .no
      | some (d, e3) => match e3.sl[i]? with
        | some (some (.ow (.lst os))) => match ixN os.length k with
          | none => .no
          | some j => .nx (e3.put i (.lst (os.set j (.fz d))))
        | _ => .no
    | _ => .no
  else .no) := id rfl
theorem eTupItems_k {f : En → Out Rv} {sl : List (Option Sl)} {me : O} : eTupItems f ⟨sl, me⟩ = ((f ⟨sl, me⟩).bind fun r e1 => match fix e1 r with
  | some (.dK ks ds, e2) => .ok (.tm (.fz (.tup true (pairsD ks ds)))) e2
  | _ => .no) := id rfl
/-! the same of what is no function on frames: not by rfl, so that the kernel goes the way that simp went -/
theorem bind_ok_k {α β : Type} {a : α} {e : En} {k : α → En → Out β} : (Out.ok a e).bind k = k a e := id rfl
theorem bind_ex_k {α β : Type} {x : XD} {e : En} {k : α → En → Out β} : (Out.ex x e : Out α).bind k = .ex x e := id rfl
theorem so_ok_k {α : Type} {a : α} {e : En} {k : α → En → SO} : (Out.ok a e).so k = k a e := id rfl
theorem so_ex_k {α : Type} {x : XD} {e : En} {k : α → En → SO} : (Out.ex x e : Out α).so k = .ex x e := id rfl
theorem then_nx_k {e : En} {k : En → SO} : (SO.nx e).then k = k e := id rfl
theorem then_rt_k {o : O} {e : En} {k : En → SO} : (SO.rt o e).then k = .rt o e := id rfl
theorem then_ex_k {x : XD} {e : En} {k : En → SO} : (SO.ex x e).then k = .ex x e := id rfl
theorem then_bk_k {e : En} {k : En → SO} : (SO.bk e).then k = .bk e := id rfl
theorem then_ct_k {e : En} {k : En → SO} : (SO.ct e).then k = .ct e := id rfl
theorem addD_int_k {i j : Int} : addD [.int i, .int j] = some (.fz (.int (i + j))) := id rfl
theorem subD_k {i j : Int} : subD [.int i, .int j] = some (.int (i - j)) := id rfl
theorem negD_k {i : Int} : negD [.int i] = some (.int (-i)) := id rfl
theorem eqD_str_k {x y : Str} : eqD [.str x, .str y] = some (.bl (x == y)) := id rfl
theorem neD_str_k {x y : Str} : neD [.str x, .str y] = some (.bl (x != y)) := id rfl
theorem cmpD_k {p : Int → Int → Bool} {i j : Int} : cmpD p [.int i, .int j] = some (.bl (p i j)) := id rfl
theorem item_lst_k {ds : List D} {i : Int} : itemD (.lst ds) i = atI ds i := id rfl
theorem item_tup_k {k : Bool} {ds : List D} {i : Int} : itemD (.tup k ds) i = atI ds i := id rfl
theorem isnt_tup_k {k : Bool} {ds : List D} : isntD [.tup k ds, .non] = some (.bl true) := id rfl
theorem isnt_non_k : isntD [.non, .non] = some (.bl false) := id rfl
theorem is_tup_k {k : Bool} {ds : List D} : isD [.tup k ds, .non] = some (.bl false) := id rfl
theorem is_non_k : isD [.non, .non] = some (.bl true) := id rfl
theorem vals_nil_k : vals [] = [] := id rfl
theorem vals_cons_k {o : O} {os : List O} : vals (o :: os) = o.val :: vals os := id rfl
end DL

set_option Elab.async false
set_option linter.all false
set_option maxRecDepth 100000
set_option maxHeartbeats 2000000
/-! DL, part S: errors: raised, caught, kept as values; isinstance. -/
namespace DL
open PySem L2 PySem.Spec PyProof.Rows

/-! ### an object that stands there is tracked from now on -/
section
variable {X : Cx} {pins : List (Addr × Obj)} {σ : L2.St} {H : Hp} {s : Shared} {a : Addr} {o : HO}
theorem un_track {fs ex : List Addr} {H0 : Hp} {h0 h : Heap} (u : Un fs ex H0 H h0 h) (new : h0.get? a = none) (hn : H a = none) : Un fs ex H0 (upd H a o) h0 h where
  keep := u.keep
  slot := u.slot
  there := u.there
  free := fun b ob e n x => by
    have ne : b ≠ a := fun z => by rw [z, new] at e; cases e
    rw [upd_ne ne]; exact u.free b ob e n x
  tups := fun b xs e => by rw [upd_ne (ne_of_none (u.tups b xs e) hn)]; exact u.tups b xs e
  frzs := fun b ob w e => by rw [upd_ne (ne_of_none (u.frzs b ob w e) hn)]; exact u.frzs b ob w e
  tbls := fun b ps e => by
    obtain ⟨more, q⟩ := u.tbls b ps e
    exact ⟨more, by rw [upd_ne (ne_of_none q hn)]; exact q⟩
theorem inv_track (I : Inv X pins σ H s) (new : X.s_0.heap.get? a = none) (hn : H a = none) (nL : a ≠ X.env.locals) (nC : ∀ v, ¬ s.heap.IsCell a v) (nP : ∀ p ∈ X.pn ++ pins, p.1 ≠ a)
    (ok : ObjOk X.prog X.w (upd H a o) s.heap a o) : Inv X pins σ (upd H a o) s where
  ok := I.ok
  os := I.os
  bare := I.bare
  base := un_track I.base new hn
  loc := I.loc
  cell := I.cell
  free := by rw [upd_ne (Ne.symm nL)]; exact I.free
  freeC := fun x cc e => by
    obtain ⟨v, iv⟩ := I.cell x cc e
    have ne : cc ≠ a := fun z => by subst z; exact nC v iv
    rw [upd_ne ne]; exact I.freeC x cc e
  pin := fun p hp => by
    obtain ⟨h1, h2, h3⟩ := I.pin p hp
    exact ⟨h1, by rw [upd_ne (nP p hp)]; exact h2, h3⟩
  hok := HOk.laidN I.hok (fun _ _ e => e) hn ok
  len := I.len
theorem exV_ok {P : Program} {w : World} {h : Heap} {cls : Value} {d : Option Addr} {oe : Obj} {vs : Array Value} (e : h.get? a = some oe) (z : Zc cls d oe) (f : oe.data = .fields vs) : ObjOk P w H h a (ExV cls d a) :=
  ⟨⟨oe, vs, e, z, f⟩, ⟨oe, e⟩, fun _ _ ⟨o', v', q, r⟩ k => ⟨o', v', k o' q, r⟩⟩
end

/-! ### try: .. except X as n: .. -/
/-- the error as a value -/
def XD.val (x : XD) : D := .exc x.c (x.fs.map (·.1)) (x.fs.map (·.2))
def SO.gone (i : Nat) : SO → SO
  | .nx e => .nx (e.hole i)
  | .bk e => .bk (e.hole i)
  | .ct e => .ct (e.hole i)
  | .rt o e => .rt o (e.hole i)
  | _ => .no
/-- tab: which errors the clause takes -/
def sTry (g : SS) (tab : Str → Option Bool) (i : Nat) (k : SS) : SS := fun e => match g e with
  | .ex x e1 => match tab x.c with
    | some true => (k (e1.put i (.fz x.val))).gone i
    | some false => .ex x e1
    | none => .no
  | r => r
section
variable {X : Cx} {c : Cs} {mv : V} {W : WX}
/-- what the clause wishes -/
def wTry (c : Cs) (mv : V) (tab : Str → Option Bool) (i : Nat) (k : SS) (W : WX) (D : Ends) : WX := fun cls d σ H =>
  ∃ F fp e x, Sub F H ∧ EnvR c mv F H fp σ e ∧ XR c F cls d x ∧ match tab x.c with
    | some true => PoS c mv W F H fp ((k (e.put i (.fz x.val))).gone i) D
    | some false => PoS c mv W F H fp (.ex x e) D
    | none => False
theorem try_body {g k : SS} {tab : Str → Option Bool} {i : Nat} {σ : L2.St} {H : Hp} {D : Ends} (h : rdS c mv W (sTry g tab i k) D σ H) : rdS c mv (wTry c mv tab i k W D) g D σ H := by
  obtain ⟨F, fp, e, s, E, p⟩ := h
  refine ⟨F, fp, e, s, E, ?_⟩
  unfold sTry at p
  cases z : g e with
  | nx e1 => rw [z] at p; exact p
  | bk e1 => rw [z] at p; exact p
  | ct e1 => rw [z] at p; exact p
  | rt o e1 => rw [z] at p; exact p
  | no => rw [z] at p; exact p
  | ex x e1 =>
    rw [z] at p
    intro F1 H1 f1 σ1 cls d s1 E1 xr
    refine ⟨F1, f1, e1, x, s1.fh, E1, xr, ?_⟩
    simp only at p
    cases zt : tab x.c with
    | none => rw [zt] at p; exact p
    | some b =>
      rw [zt] at p
      cases b with
      | true => exact PoS.step p s1
      | false => exact PoS.step p s1
/-- the error's object is a frozen thing from now on -/
theorem exc_in {F H : Hp} {fp : List Addr} {cls : Value} {d : Option Addr} {x : XD} {a : Addr} (s : Sub F H) (xr : XR c F cls d x) (na : H a = none) :
    ∃ F', Stp F H fp F' (upd H a (ExV cls d a)) fp ∧ Stp F H [] F' (upd H a (ExV cls d a)) [] ∧ Fz c F' (.ref a) x.val := by
  have st : ∀ fp, Stp F H fp F (upd H a (ExV cls d a)) (a :: fp) := fun fp => Stp.lay s na fun _ h => h
  have Fa : F a = none := by
    cases q : F a with
    | none => rfl
    | some u => have := s a u q; rw [na] at this; cases this
  have ic : ∀ fp, Stp F (upd H a (ExV cls d a)) (a :: fp) (ice F (upd H a (ExV cls d a)) [a]) (upd H a (ExV cls d a)) fp := fun fp =>
    Stp.ice (st fp).fh (fun b hb => by rw [List.mem_singleton] at hb; subst hb; exact Fa) (fun b hb => by rw [List.mem_singleton] at hb; subst hb; exact List.mem_cons_self) fun b hb => List.mem_cons_of_mem _ hb
  refine ⟨_, (st fp).trans (ic fp), (st []).trans (ic []), ?_⟩
  have sub := ((st []).trans (ic [])).ff
  obtain ⟨C, h1, h2, h3⟩ := xr.mono sub
  subst h2
  have at_a : ice F (upd H a (ExV (.ref C) d a)) [a] a = some (ExV (.ref C) d a) := (ice_in (List.mem_singleton.mpr rfl)).trans upd_same
  rcases h3 with ⟨h4, h5⟩ | ⟨h0, dd, vs, h4, h5, h6, h7⟩
  · unfold XD.val
    rw [h4]
    exact .exc (fs := []) h1 at_a (.inl ⟨rfl, h5⟩) rfl .nil
  · exact .exc (fs := vs) h1 at_a (.inr ⟨fun z => h0 (by rw [z] at h6; exact List.map_eq_nil_iff.mp h6.symm), dd, h4, h5⟩) h6 h7
theorem gone_end {k : SS} {i : Nat} {F H : Hp} {fp : List Addr} {e : En} {D : Ends} (p : PoS c mv W F H fp ((k e).gone i) D) :
    PoS c mv W0 F H fp (k e) { nx := fun σ' H' => D.nx (σ'.set i none) H', rt := D.rt, bk := fun σ' H' => D.bk (σ'.set i none) H', ct := fun σ' H' => D.ct (σ'.set i none) H' } := by
  cases z : k e with
  | no => rw [z] at p; exact p
  | ex x e1 => rw [z] at p; exact p.elim
  | nx e1 =>
    rw [z] at p
    intro F1 H1 f1 σ1 s1 E1
    obtain ⟨f2, E2, m2⟩ := E1.dropS (i := i)
    exact p F1 H1 f2 _ (s1.part (fun _ h => h) m2) E2
  | bk e1 =>
    rw [z] at p
    intro F1 H1 f1 σ1 s1 E1
    obtain ⟨f2, E2, m2⟩ := E1.dropS (i := i)
    exact p F1 H1 f2 _ (s1.part (fun _ h => h) m2) E2
  | ct e1 =>
    rw [z] at p
    intro F1 H1 f1 σ1 s1 E1
    obtain ⟨f2, E2, m2⟩ := E1.dropS (i := i)
    exact p F1 H1 f2 _ (s1.part (fun _ h => h) m2) E2
  | rt o e1 =>
    rw [z] at p
    intro F1 H1 f1 q1 σ1 v s1 E1 h1 d1
    obtain ⟨f2, E2, m2⟩ := E1.dropS (i := i)
    refine p F1 H1 f2 q1 _ v (s1.part (fun _ h => h) fun b hb => ?_) E2 h1 fun b hb z => d1 b hb (m2 b z)
    exact (List.mem_append.mp hb).elim (fun h => List.mem_append_left _ (m2 b h)) fun h => List.mem_append_right _ h
theorem suite_ctx {pins : List (Addr × Obj)} {σ : L2.St} {H : Hp} {s : Shared} (I : Inv X pins σ H s) (a : Addr) : Inv (X.suite a (X.pn ++ pins)) [] σ H s :=
  ⟨I.ok.suite _ _, I.os, I.bare, I.base, I.loc, I.cell, I.free, I.freeC, fun p hp => I.pin p (by rw [List.append_nil] at hp; exact hp), I.hok, I.len⟩
theorem suite_out {pins pn' : List (Addr × Obj)} {σ : L2.St} {H : Hp} {s : Shared} {a : Addr} (I : Inv (X.suite a (X.pn ++ pins)) pn' σ H s) (ok : X.Ok) : Inv X pins σ H s :=
  ⟨ok, I.os, I.bare, I.base, I.loc, I.cell, I.free, I.freeC, fun p hp => I.pin p (List.mem_append_left _ hp), I.hok, I.len⟩
theorem ds_try {x n : Str} {cl : Value} {i : Nat} {body suite : List Stmt} {b₀ : Stmt} {np pos pos' : Pos} {g k : SS} {tab : Str → Option Bool} (hK : X.K = c.K) (hs : X.stack = X.env :: X.outer) (hf : X.env.frame = some X.env.locals)
    (hex : X.ex = []) (hN : X.N.Nodup) (hi : X.N[i]? = some n) (hln : X.env.kindOf n = some .local) (hc : Names X x cl) (tk : Takes X W) (htab : ∀ m b, tab m = some b → ∀ C, c.ca m = some C → PySem.W.exmOne c.K (.ref C) cl = some b)
    (hb : ∀ (W' : WX) (pn : List (Addr × Obj)) (xe : Value → Shared → Prop), Takes (X.tr pn xe) W' → PassesOwn (model X.prog X.w) X.A X.env xe → DSs (X.tr pn xe) c mv W' body g)
    (hsu : ∀ (a : Addr) (pn : List (Addr × Obj)), DSs (X.suite a pn) c mv W0 (b₀ :: suite) k) :
    DS X c mv W (.Try body [.ExceptHandler (some (.Name x np)) (some n) (b₀ :: suite) pos'] [] [] pos) (sTry g tab i k) := by
  refine ⟨fun pins s σ H D I h => ?_⟩
  have ok := I.ok
  have hfr : X.A.frames = some (X.env :: X.outer) := ok.frames.trans (congrArg some hs)
  have hloc : Loc X.env.scope n := Or.inl hln
  let WT : WX := wTry c mv tab i k W D
  let air : Value → Shared → Prop := fun e s₁ => wpAny (model X.prog X.w) X.A (noteFrame e X.env) (fun _ s₂ => wpAny (model X.prog X.w) X.A (setFlight e none) (fun _ s₃ =>
    wpAny (model X.prog X.w) X.A (handleBy e X.env [.ExceptHandler (some (.Name x np)) (some n) (b₀ :: suite) pos']) (SP X pins D) X.xe s₃) X.xe s₂) X.xe s₁
  have caught : Takes (X.tr (X.pn ++ pins) air) WT := by
    rintro u s' ⟨a, B, sI, pins', σ', H', cls, d, rfl, J', nb, up, sky, na, os, ag, F0, fp0, e0, x0, sb, E0, xr0, w0⟩
    have J : Inv X pins σ' H' sI := J'.ofTry ok
    have sky1 : Sky B (X.env :: X.outer) a (Zc cls d) X.env.locals s'.heap := by rw [← hs]; exact sky
    show wpAny (model X.prog X.w) X.A (noteFrame (.ref a) X.env) _ _ _
    refine Sky.land Zc.steady hfr hf sky1 fun h3 fl3 up3 => ?_
    have J3 : Inv X pins σ' H' { s' with heap := h3 } := J.landed nb fl3.1 (up.trans up3) os ag
    obtain ⟨oe3, vs3, he3, hz3, hd3⟩ := fl3.there
    have apart : ∀ {hh : Heap} {oo : Obj} {ws : Array Value}, hh.FunFrames B (X.env :: X.outer) → hh.get? a = some oo → oo.data = .fields ws → a ∉ frs (X.env :: X.outer) := fun {hh oo ws} ff eo eds hm => by
      obtain ⟨_, o2, e2, hnf⟩ := ff.mem hm
      rw [eo] at e2; cases e2
      exact hnf _ eds
    have nfr := apart fl3.2.2.1 he3 hd3
    have nL : a ≠ X.env.locals := fun z => nfr (List.mem_filterMap.mpr ⟨X.env, List.mem_cons_self, by rw [hf, z]⟩)
    have Ba : B.get? a = none := fl3.2.1
    have nI : sI.heap.get? a = none := by
      cases q : sI.heap.get? a with
      | none => rfl
      | some oq => rw [nb a oq q (by rw [hs]; exact nfr)] at Ba; cases Ba
    have n0 : X.s_0.heap.get? a = none := by
      cases q : X.s_0.heap.get? a with
      | none => rfl
      | some oq =>
        obtain ⟨o2, e2⟩ := J.base.there a oq q (by rw [hex]; exact fun z => nomatch z)
        rw [nI] at e2; cases e2
    have nP : ∀ p ∈ X.pn ++ pins, p.1 ≠ a := fun p hp z => by
      have := (J.pin p hp).1
      rw [z, nI] at this; cases this
    have S3 := J3.suite he3 hd3 na nL (fun hm => by
      obtain ⟨e, he, q⟩ := List.mem_filterMap.mp hm
      exact nfr (List.mem_filterMap.mpr ⟨e, List.mem_cons_of_mem _ he, q⟩))
    obtain ⟨C0, hca, hcls, _⟩ := id xr0
    refine wpAny_handleBy_cons (codeAny_handlers_test ?_) (by intro q; cases q)
    cases zt : tab x0.c with
    | none => rw [zt] at w0; exact w0.elim
    | some b =>
      rw [zt] at w0
      have hb1 : PySem.W.exmOne X.K cls cl = some b := by rw [hcls, hK]; exact htab _ _ zt _ hca
      have LT : PySem.W.Looks (model X.prog X.w) h3 (typeOf (.ref a)) cls := fun A Q E s k q => wpAny_typeOf_ref (k _ _ he3) (by rw [hz3.1]; exact q)
      have LM := PySem.W.exm_one (M := model X.prog X.w) J3.kIn LT hb1
      have named : ∀ {Q : Value → Shared → Prop} {E : Value → Shared → Prop}, Q cl { s' with heap := h3 } → wpAny (model X.prog X.w) (X.A.mark (some (.ref a))) (eval (.Name x np) X.env) Q E { s' with heap := h3 } := fun {Q E} q => by
        rcases hc with ⟨hg, hdbg, hm | ⟨hm, hv, hnn⟩⟩
        · exact ld_glob (X := X.suite a ((a, oe3) :: (X.pn ++ pins))) S3 hg hm q hdbg
        · exact ld_blt (X := X.suite a ((a, oe3) :: (X.pn ++ pins))) S3 hg hm hv q hnn hdbg
      refine named (LM.here ?_)
      cases b with
      | true =>
        refine codeAny_handlers_suite_as ?_
        refine HandSPX.lands_againZ fl3 fun h4 fl4 up4 => ?_
        have J4 : Inv X pins σ' H' { s' with heap := h4 } := J.landed nb fl4.1 ((up.trans up3).trans up4) os ag
        obtain ⟨oe4, vs4, he4, hz4, hd4⟩ := fl4.there
        have J5 : Inv X pins σ' (upd H' a (ExV cls d a)) { s' with heap := h4 } := inv_track J4 n0 na nL (fun v ⟨oc, q1, q2⟩ => by
          rw [he4] at q1; cases q1; rw [hd4] at q2; cases q2) nP (exV_ok he4 hz4 hd4)
        refine store_ok (X := X.suite a (X.pn ++ pins)) (v := .ref a) (suite_ctx J5 a) hN hi hloc rfl (fun s5 S5 => ?_) (.inr hln)
        obtain ⟨F1, st1, st0, fz1⟩ := exc_in (fp := fp0) sb xr0 na
        obtain ⟨f2, E2, m2⟩ := (E0.stp st0 fun b hb z => nomatch z).put (i := i) (.fz fz1) (fun b hb => nomatch hb)
        have start : rdS c mv W0 k { nx := fun σ' H' => D.nx (σ'.set i none) H', rt := D.rt, bk := fun σ' H' => D.bk (σ'.set i none) H', ct := fun σ' H' => D.ct (σ'.set i none) H' } (σ'.set i (some (.ref a))) (upd H' a (ExV cls d a)) :=
          ⟨F1, f2, _, st1.fh, E2, gone_end (PoS.step w0 (st1.part (fun _ h => h) fun b hb => by simpa using m2 b hb))⟩
        refine wpAny_mono ((hsu a (X.pn ++ pins)).run [] s5 _ _ _ S5 start) (fun f s6 hsp => ?_) (fun _ _ z => False.elim z)
        have fin : ∀ {σ6 : L2.St} {H6 : Hp} {Q : Shared → Prop}, Inv (X.suite a (X.pn ++ pins)) [] σ6 H6 s6 → (∀ s7, Inv X pins (σ6.set i none) H6 s7 → Q s7) →
            wpAny (model X.prog X.w) X.A (do bindName X.env n .none; unbindBehindTheSuite X.env n pos') (fun _ s7 => Q s7) X.xe s6 := fun {σ6 H6 Q} S6 hq => gone_ok (suite_out S6 ok) hN hi hln hq
        cases f with
        | next => obtain ⟨σ6, H6, S6, q6⟩ := hsp; exact fin S6 fun s7 J7 => ⟨_, _, J7, q6⟩
        | brk => obtain ⟨σ6, H6, S6, q6⟩ := hsp; exact fin S6 fun s7 J7 => ⟨_, _, J7, q6⟩
        | cont => obtain ⟨σ6, H6, S6, q6⟩ := hsp; exact fin S6 fun s7 J7 => ⟨_, _, J7, q6⟩
        | ret u => obtain ⟨v6, σ6, H6, S6, r6, q6⟩ := hsp; exact fin S6 fun s7 J7 => ⟨_, _, _, J7, r6, q6⟩
      | false =>
        show wpAny _ X.A (handleBy (.ref a) X.env []) _ _ _
        refine wpAny_handleBy_nil ?_
        obtain ⟨k1, k2, k3, oe, vs, T, oT, ts', he, hz, hd, h1, hr⟩ := id fl3
        unfold PySem.passOn
        refine wpAny_bind (wpAny_field he hd h1 ?_)
        rw [if_neg (show ¬ ((Value.ref T == Value.none) = true) from by simp)]
        have out : wpAny (model X.prog X.w) X.A (setFlight (.ref a) X.env.frame) (fun _ s4 => wpAny (model X.prog X.w) X.A (throw (.ref a) : Sem Flow) (SP X pins D) X.xe s4) X.xe { s' with heap := h3 } := by
          rw [hf]
          refine HandSPX.setFlight_upZ fl3 fun h4 hh4 up4 => wpAny_throw (tk _ _ ?_)
          exact ⟨a, B, sI, pins, σ', H', cls, d, rfl, J, nb, (up.trans up3).trans up4, .inr (.inr (by rw [hs]; exact hh4)), na, os, ag, w0 F0 H' fp0 σ' cls d (Stp.refl sb) E0 xr0⟩
        first | exact wpAny_bind (wpAny_pure (wpAny_bind out)) | exact wpAny_bind out
  refine wpAny_Try_except ?_
  refine wpAny_mono ((hb WT (X.pn ++ pins) air caught PassesOwn.looking).run [] s σ H D (I.toTry _) (try_body h)) (fun f s1 hsp => ?_) fun e s1 he => he
  cases f with
  | next => obtain ⟨σ1, H1, I1, q⟩ := hsp; exact wpAny_execs_nil ⟨σ1, H1, I1.ofTry ok, q⟩
  | brk => obtain ⟨σ1, H1, I1, q⟩ := hsp; exact ⟨σ1, H1, I1.ofTry ok, q⟩
  | cont => obtain ⟨σ1, H1, I1, q⟩ := hsp; exact ⟨σ1, H1, I1.ofTry ok, q⟩
  | ret u => obtain ⟨v, σ1, H1, I1, r, q⟩ := hsp; exact ⟨v, σ1, H1, I1.ofTry ok, r, q⟩
end
end DL

set_option Elab.async false
set_option linter.all false
set_option maxRecDepth 100000
set_option maxHeartbeats 2000000
/-! DL, part T: raise, isinstance, chains, enumerate, sum, count, index, displays, tuples of one's own. -/
namespace DL
open PySem L2 PySem.Spec PyProof.Rows

/-! ### own errors -/
def veB : List Value := [.type "ValueError", .type "Exception", .type "BaseException", .type "object"]
/-- what the top says of an own error's class without own __init__ -/
structure ErrK (c : Cs) (mg : Str → Option Value) (n : Str) (C : Addr) : Prop where
  ca : c.ca n = some C
  g : mg n = some (.ref C)
  k : PySem.W.keepIn c.K (.ref C) = true
  x : PySem.W.excIn c.K C veB "ValueError.__new__" = true
  b : PySem.W.subIn c.K (.ref C) (.type "BaseException") = some true
  t : PySem.W.typeIn c.K (.ref C) = some (.type "type")
def sRaise (n : Str) : SS := fun e => .ex ⟨n, []⟩ e
section
variable {X : Cx} {c : Cs} {mv : V} {W : WX}
theorem ds_raise {n m : Str} {C : Addr} {j : Nat} {p p2 p3 pos : Pos} (hK : X.K = c.K) (k : ErrK c X.mg n C) (tk : Takes X W) (hg : Gl X n) (hc : X.calm = true := by rfl) (hdb : (n == ("__debug__" : Str)) = false := by decide) :
    DS X c mv W (.Raise (some (.Call (.Name n p) [.Constant (.str m) j p2] [] p3)) none pos) (sRaise n) :=
  ps_imp (ps_raise hc tk (pmk_own PySem.F.excBase_ValueError (by rw [hK]; exact k.x) k.g (by rw [hK]; exact k.k) (raises_own (by rw [hK]; exact k.b) (by rw [hK]; exact k.t)) hg hdb)) fun D σ H h => by
    obtain ⟨F, fp, e, s, E, p⟩ := h
    exact p F H fp σ (.ref C) none (Stp.refl s) E ⟨C, k.ca, rfl, .inl ⟨rfl, rfl⟩⟩

/-! ### isinstance -/
def tyD : D → Option String
  | .non => some "NoneType"
  | .bl _ => some "bool"
  | .int _ => some "int"
  | .str _ => some "str"
  | .tup _ _ => some "tuple"
  | .lst _ => some "list"
  | .dK _ _ => some "dict"
  | .dT _ _ => none
  | .obj _ _ _ => none
  | .exc _ _ _ => none
def isiTys : List String := ["NoneType", "bool", "int", "str", "tuple", "list", "dict"]
def isiB (t T : String) : Bool := t == T || (t == "bool" && T == "int")
theorem isi_tab : ∀ t ∈ isiTys, ∀ T ∈ isiTys, kitB t T = some (isiB t T) := by decide +kernel
theorem tyD_in {d : D} {t : String} (h : tyD d = some t) : t ∈ isiTys := by
  cases d <;> cases h <;> decide
/-- T: a built-in type's name, or none: an own class; tab: of the errors -/
def isiX (T : Option String) (d : D) : Option D := match T, tyD d with
  | some T, some t => some (.bl (isiB t T))
  | _, _ => none
def isiD (T : Option String) (tab : Str → Option Bool) : List D → Option D
  | [.exc n [] []] => (tab n).map .bl
  | [d] => isiX T d
  | _ => none
/-- what the library's isinstance asks of an own error's class -/
def ExcCs (c : Cs) (n : Str) : Prop := ∀ C, c.ca n = some C → ExcC c.K C
theorem Fz.ty {F : Hp} {v : V} {d : D} {t : String} (h : Fz c F v d) (e : tyD d = some t) : TyX c.K F v (.type t) := by
  cases h with
  | non => cases e; exact .base .non
  | bl => cases e; exact .base (.bl _)
  | int => cases e; exact .base (.int _)
  | str => cases e; exact .base (.str _)
  | tup hs _ _ =>
    cases e
    rcases hs with (hs | ⟨o, hs⟩) | hs
    · exact .base (.tup hs)
    · exact .fTuple hs
    · obtain ⟨ob, its, n, q, k, _⟩ := hs
      exact .kTuple q k
  | lst hs _ =>
    cases e
    rcases hs with (hs | ⟨o, hs⟩) | hs
    · exact .base (.lst hs)
    · exact .base (.frz hs)
    · obtain ⟨ob, its, n, q, k, _⟩ := hs
      exact .kList q k
  | dK hs _ _ =>
    cases e
    rcases hs with hs | ⟨o, hs⟩
    · exact .base (.dK hs)
    · exact .fDict hs
  | dT _ _ _ => cases e
  | obj _ _ _ _ => cases e
  | exc _ _ _ _ _ => cases e
/-- one argument, looked at -/
theorem arg1_ok {φ : List D → Option D} {f : En → Out Rv} {σ : L2.St} {H : Hp} {Q : VK} {T : V → Hp → Prop} (h : rd c mv (rvR c mv) W (eV φ (aCons f aNil)) σ H Q)
    (hk : ∀ F H1 v d d', Sub F H1 → Fz c H1 v d → φ [d] = some d' → (∀ v', (∀ G, Fz c G v' d') → Q v' H1) → T v H1) : rd c mv (rvR c mv) W f σ H T := by
  obtain ⟨F, fp, e, s, E, p⟩ := h
  refine ⟨F, fp, e, s, E, ?_⟩
  unfold eV aCons aNil at p
  cases z : f e with
  | no => rw [z] at p; exact p
  | ex x e1 => rw [z] at p; exact p
  | ok r e1 =>
    rw [z] at p
    intro F1 H1 f1 q1 v s1 E1 r1 d1
    simp only [Out.bind, lookAll] at p
    cases zl : look e1 r with
    | none => rw [zl] at p; exact p.elim
    | some d =>
      rw [zl] at p
      simp only at p
      cases zd : φ [d] with
      | none => rw [zd] at p; exact p.elim
      | some d' =>
        rw [zd] at p
        refine hk F1 H1 v d d' s1.fh (look_ok s1.fh E1 r1 zl) zd fun v' hv => ?_
        exact Po.fz s1.fh E1 (hv F1) (fun b hb => List.mem_append_left _ hb) (Po.step p s1)
def rIsX (K : PySem.W.Frag) : List V → Hp → VK → Prop := fun xs H Q => ∃ (a C : Addr) (cv : V) (u : Value) (b : Bool), xs = [.ref a, cv] ∧ H a = some (ExV (.ref C) none a) ∧ ExcC K C ∧ ClsV cv u ∧ PySem.W.kitOne K (.ref C) u = some b ∧ Q (.bl b) H
theorem call_isX : CallR X (.builtin "isinstance") (rIsX X.K) := by
  rintro pins s σ H xs us Q I rv ⟨a, C, cv, u, b, rfl, hH, hC, hcv, e, q⟩
  obtain ⟨u1, u2, rfl, r1, r2⟩ := vals2 rv
  cases r1
  obtain rfl := hcv.eq r2
  obtain ⟨⟨oe, vs, ho, hz, hd⟩, _⟩ := I.hok a _ hH
  have J : PySem.W.InstAt s.heap a oe C none := by
    obtain ⟨oc, od, oda, osl⟩ := oe
    obtain ⟨h1, h2⟩ := hz
    dsimp only at h1 h2 hd
    subst h1 h2 hd
    exact ⟨ho, rfl, rfl, trivial⟩
  exact PySem.W.kia_one (PySem.W.handS_kitx_exc hC.hg hC.hk hC.hs hC.hd hC.ha hC.hn hC.ht hC.hm) I.kIn J e (fun z => nomatch z) fun tk => ⟨.bl b, H, I.tok tk, rfl, q⟩
theorem de_isi {T : Option String} {tab : Str → Option Bool} {tv : V} {u : Value} {a b : Expr} {f : En → Out Rv} {p pos : Pos} (hK : X.K = c.K) (hm : X.mg "isinstance" = none) (hg : Gl X "isinstance") (pc : PE X b (tC tv)) (cv : ClsV tv u)
    (hT : ∀ T', T = some T' → u = .type T' ∧ T' ∈ isiTys) (htab : ∀ n b, tab n = some b → ∀ C, c.ca n = some C → ExcC c.K C ∧ PySem.W.kitOne c.K (.ref C) u = some b) (ha : DE X c mv W a f)
    (he : starEach [a, b] X.env = (false, eval a X.env) :: starEach [b] X.env := by rfl) (hs2 : starEach [b] X.env = (false, eval b X.env) :: starEach [] X.env := by rfl) (hpl : (backTo pos (starEach [b] X.env)).any (·.1) = false := by rfl) :
    DE X c mv W (.Call (.Name "isinstance" p) [a, b] [] pos) (eV (isiD T tab) (aCons f aNil)) :=
  pe_imp (pe_callB (call_isi.or call_isX) hg hm PyProof.Rows.boot_isinstance (pa_cons ha (pa_cons pc pa_nil hs2) he) (he := he) (hpl := hpl)) fun σ H Q h => by
    refine arg1_ok (T := fun x H1 => rIsi X.K [x, tv] H1 Q ∨ rIsX X.K [x, tv] H1 Q) h fun F H1 v d d' s hz hd q => ?_
    rw [hK]
    have base : isiX T d = some d' → rIsi c.K [v, tv] H1 Q := fun hd2 => by
      unfold isiX at hd2
      cases T with
      | none => cases hd2
      | some T =>
        cases zt : tyD d with
        | none => rw [zt] at hd2; cases hd2
        | some t =>
          rw [zt] at hd2
          cases hd2
          obtain ⟨rfl, hin⟩ := hT T rfl
          exact ⟨v, tv, .type t, _, isiB t T, rfl, cv, hz.ty zt, kit_ty (isi_tab t (tyD_in zt) T hin), q _ fun _ => .bl⟩
    cases hz with
    | @exc a C od fs n ns ds hca hH hfs hns hall =>
      cases ns with
      | cons x ns =>
        have hd2 : isiX T (.exc n (x :: ns) ds) = some d' := hd
        exact .inl (base hd2)
      | nil =>
        cases ds with
        | cons x ds =>
          have hd2 : isiX T (.exc n [] (x :: ds)) = some d' := hd
          exact .inl (base hd2)
        | nil =>
          have hd2 : (tab n).map D.bl = some d' := hd
          cases zt : tab n with
          | none => rw [zt] at hd2; cases hd2
          | some b =>
            rw [zt] at hd2
            cases hd2
            obtain ⟨g1, g2⟩ := htab n b zt C hca
            have hod : od = none := by
              rcases hfs with ⟨_, h⟩ | ⟨h, _⟩
              · exact h
              · exact absurd (List.map_eq_nil_iff.mp hns) h
            subst hod
            exact .inr ⟨a, C, tv, u, b, rfl, hH, g1, cv, g2, q _ fun _ => .bl⟩
    | _ => exact .inl (base hd)
end
end DL

set_option Elab.async false
set_option linter.all false
set_option maxRecDepth 100000
set_option maxHeartbeats 2000000
/-! DL, part U: chains, enumerate, sum, count, index, displayed dicts, written dicts. -/
namespace DL
open PySem L2 PySem.Spec PyProof.Rows
section
variable {X : Cx} {c : Cs} {mv : V} {W : WX}

/-! ### i < j < k -/
def eChain (p p' : Int → Int → Bool) (f g h : En → Out Rv) : En → Out Rv := fun e => (two f g e).bind fun rs e1 => match lookAll e1 rs with
  | some [.int i, .int j] => match p i j with
    | false => .ok (.tm (.fz (.bl false))) e1
    | true => (h e1).bind fun r e2 => match look e2 r with
      | some (.int k) => .ok (.tm (.fz (.bl (p' j k)))) e2
      | _ => .no
  | _ => .no
theorem chain_ok {p p' : Int → Int → Bool} {f g h : En → Out Rv} {σ : L2.St} {H : Hp} {Q : VK} (hh : rd c mv (rvR c mv) W (eChain p p' f g h) σ H Q) :
    tChain (rI0 fun i j => .bl (p i j)) (rI0 fun i j => .bl (p' i j)) (rd c mv (rvR c mv) W f) (rd c mv (rvR c mv) W g) (rd c mv (rvR c mv) W h) σ H Q := by
  refine two_ok (R := fun x y H2 Q => rI0 (fun i j => .bl (p i j)) x y H2 fun z H3 => ∃ k, z = .bl k ∧ (if k = true then rd c mv (rvR c mv) W h σ H3 fun w' H4 => rI0 (fun i j => .bl (p' i j)) y w' H4 Q else Q (.bl false) H3)) hh
    fun F H fp fq e v w rs s E rr d pp => ?_
  cases zl : lookAll e rs with
  | none => rw [zl] at pp; exact pp.elim
  | some ds =>
    rw [zl] at pp
    have hz := lookAll_ok s E rr zl
    split at pp
    · rename_i i j he
      cases he
      cases hz with
      | cons h1 h2 =>
        cases h2 with
        | cons h2 h3 =>
          cases h1; cases h2
          refine ⟨i, j, rfl, rfl, p i j, rfl, ?_⟩
          cases zp : p i j with
          | false =>
            rw [zp] at pp
            rw [if_neg (by decide)]
            exact Po.fz s E .bl (fun b hb => List.mem_append_left _ hb) pp
          | true =>
            rw [zp] at pp
            rw [if_pos rfl]
            refine ⟨F, fp, e, s, E, Po.seqS (R1 := rvR c mv) pp rr.has fun r e2 F2 H2 f2 q2 x _ s2 E2 r2 d2 p2 => ?_⟩
            cases zr : look e2 r with
            | none => rw [zr] at p2; exact p2.elim
            | some dk =>
              rw [zr] at p2
              have hk := look_ok s2.fh E2 r2 zr
              split at p2
              · rename_i k hk2
                cases hk2
                cases hk
                exact ⟨j, k, rfl, rfl, Po.fz s2.fh E2 .bl (fun b hb => List.mem_append_left _ (List.mem_append_left _ hb)) p2⟩
              · exact p2.elim
    · exact pp.elim
theorem de_chain {op op' : CmpOp} {p p' : Int → Int → Bool} {a b d : Expr} {f g h : En → Out Rv} {pos : Pos} (ho : OpR X (compareOp op) (rI0 fun i j => .bl (p i j))) (ho' : OpR X (compareOp op') (rI0 fun i j => .bl (p' i j)))
    (ha : DE X c mv W a f) (hb : DE X c mv W b g) (hd : DE X c mv W d h) (hm : lastMarks [op, op'] [b, d] = false := by with_unfolding_all rfl) : DE X c mv W (.Compare a [op, op'] [b, d] pos) (eChain p p' f g h) :=
  pe_imp (pe_chain ho ho' ha hb hd hm) fun σ H Q hh => chain_ok hh
theorem dt_chain {op op' : CmpOp} {p p' : Int → Int → Bool} {a b d : Expr} {f g h : En → Out Rv} {pos : Pos} (ho : OpR X (compareOp op) (rI0 fun i j => .bl (p i j))) (ho' : OpR X (compareOp op') (rI0 fun i j => .bl (p' i j)))
    (ha : DE X c mv W a f) (hb : DE X c mv W b g) (hd : DE X c mv W d h) (hm : lastMarks [op, op'] [b, d] = false := by with_unfolding_all rfl) : DT X c mv W (.Compare a [op, op'] [b, d] pos) (tOf (eChain p p' f g h)) :=
  pt_imp (pt_chain ho ho' ha hb hd hm) fun σ H Q hh => chain_ok (tOf_ok hh)

/-! ### enumerate -/
def enumD (ds : List D) : List D := ds.zipIdx.map fun x => .tup false [.int (x.2 : Nat), x.1]
def itEnum (f : En → Out Rv) : En → Out (List D) := fun e => (f e).bind fun r e1 => match fix e1 r with
  | some (.lst ds, e2) => .ok (enumD ds) e2
  | _ => .no
theorem enumD_at {ds : List D} {i : Nat} {d : D} (h : (enumD ds)[i]? = some d) : ∃ x, ds[i]? = some x ∧ d = .tup false [.int (i : Nat), x] := by
  unfold enumD at h
  rw [List.getElem?_map, List.getElem?_zipIdx] at h
  cases q : ds[i]? with
  | none => rw [q] at h; cases h
  | some x =>
    rw [q] at h
    simp at h
    exact ⟨x, rfl, h.symm⟩
theorem di_enum {a : Expr} {elts : List Expr} {kk : Nat} {f : En → Out Rv} {p pos tpos : Pos} (hK : X.K = c.K) (hg : Gl X "enumerate") (hm : X.mg "enumerate" = none) (ha : DE X c mv W a f) (hs : starEach [a] X.env = [(false, eval a X.env)] := by rfl) :
    DI X c mv W (.Tuple elts kk tpos) (.Call (.Name "enumerate" p) [a] [] pos) (itEnum f) :=
  pi_imp (pi_enum hg hm (pa_cons ha pa_nil hs) hs) fun σ H R h => by
    obtain ⟨F, fp, e, s, E, p⟩ := h
    refine ⟨F, fp, e, s, E, Po.seq (R1 := rvR c mv) p fun r e1 F1 H1 f1 q1 v _ s1 E1 r1 d1 p1 => ?_⟩
    cases z : fix e1 r with
    | none => rw [z] at p1; exact p1.elim
    | some y =>
      obtain ⟨d, e2⟩ := y
      rw [z] at p1
      obtain ⟨F2, f2, s2, k2, E2, m2⟩ := fix_ok s1.fh E1 r1 d1 z
      cases d with
      | lst ds =>
        cases k2 with
        | @lst a xs ds hs ha =>
          rw [hK]
          refine ⟨a, xs, rfl, s2.fh.sqL hs, p1 F2 H1 f2 [] _ (by rw [List.append_nil]; exact s2) E2 ⟨rfl, ?_⟩ fun b hb => nomatch hb⟩
          refine ⟨fun H sH => ⟨xs, sH.sqL hs, by rw [ha.length]; simp [enumD]⟩, fun i H d sH hd => ?_, fun i F3 H d x H' s3 sH hd hy => ?_⟩
          · obtain ⟨x0, hx0, _⟩ := enumD_at hd
            obtain ⟨x, hx, _⟩ := ha.get hx0
            exact ⟨xs, x, sH.sqL hs, hx⟩
          · obtain ⟨T, y, rfl, hT, rfl, hy⟩ := hy
            obtain ⟨x0, hx0, rfl⟩ := enumD_at hd
            obtain ⟨x', hx', hz⟩ := ha.get hx0
            have := hy xs ((s3.trans sH).sqL hs)
            rw [hx'] at this; cases this
            refine new_tup (c := c) (Q := fun v H' => ∃ F', Stp F3 H [] F' H' [] ∧ Fz c F' v (.tup false [.int (i : Nat), x0])) sH (.cons .int (.cons (hz.mono s3) .nil)) (fun F' H' fq v st ho => ?_) T hT
            cases ho with
            | fz ho => exact ⟨F', st, ho⟩
      | _ => exact p1.elim

/-! ### sum, count, index -/
def intsOf : List D → Option (List Int)
  | [] => some []
  | .int i :: ds => (intsOf ds).map (i :: ·)
  | _ => none
def sumD : List D → Option D
  | [.lst ds] => (intsOf ds).map fun ns => .int ns.sum
  | _ => none
theorem ints_V {F : Hp} : ∀ {vs : List V} {ds : List D} {ns : List Int}, FzAll c F vs ds → intsOf ds = some ns → vs = ns.map V.int
  | _, _, ns, .nil, e => by cases e; rfl
  | _, d :: ds, ns, .cons h r, e => by
    cases d with
    | int i =>
      cases h
      have e' : (intsOf ds).map (i :: ·) = some ns := e
      cases q : intsOf ds with
      | none => rw [q] at e'; cases e'
      | some ms =>
        rw [q] at e'
        cases e'
        rw [ints_V r q]
        rfl
    | _ => cases e
theorem vop_sum : VOp c (rSum c.K) sumD := fun F H vs ds d Q s h e k => by
  unfold sumD at e
  split at e
  · rename_i ds
    cases h with
    | cons h1 h2 =>
      cases h2
      cases h1 with
      | @lst a xs _ hs ha =>
        cases q : intsOf ds with
        | none => rw [q] at e; cases e
        | some ns =>
          rw [q] at e
          cases e
          rw [ints_V ha q] at hs
          exact ⟨a, ns, rfl, hs, k _ fun _ => .int⟩
  · cases e
theorem de_sum {a : Expr} {f : En → Out (List Rv)} {p pos : Pos} (hK : X.K = c.K) (hc : X.calm = true) (hm : X.mg "sum" = none) (hg : Gl X "sum") (ha : DA X c mv W [a] f) (he : starEach [a] X.env = (false, eval a X.env) :: starEach [] X.env := by rfl) :
    DE X c mv W (.Call (.Name "sum" p) [a] [] pos) (eV sumD f) :=
  de_callV (r := rSum c.K) (by rw [← hK]; exact cr_sum hc) vop_sum hg hm PyProof.Rows.boot_sum ha (he := he)
/-- xs.count(y), flat things -/
def rCnt (K : PySem.W.Frag) : V → List V → Hp → VK → Prop := fun x xs H Q => ∃ (p : Addr) (ys : List V) (y : V), x = .ref p ∧ xs = [y] ∧ SqL K H p ys ∧ flatV y = true ∧ ys.all flatV = true ∧ Q (.int (ys.countP (eqV · y) : Nat)) H
theorem cnt_eq {x : V} : ∀ {ys : List V} {us : List Value}, Vals ys us → ys.all flatV = true → us.countP (eqU x) = ys.countP (eqV · x)
  | _, _, .nil, _ => rfl
  | y :: ys, u :: us, .cons h r, e => by
    rw [List.all_cons, Bool.and_eq_true] at e
    rw [List.countP_cons, List.countP_cons, cnt_eq r e.2, eqU_of h e.1]
theorem mt_cnt : MtR X "list.count" (rCnt X.K) := by
  rintro pins s σ H x xs v us Q I rx rxs ⟨p, ys, y, rfl, rfl, hs, fy, fys, q⟩
  cases rx
  obtain ⟨u, rfl, ru⟩ := rxs.one
  obtain ⟨its, rv, ⟨⟨cls, dd, data, sl⟩, n, ho, hc, hdn, hd⟩, hlen⟩ := I.list hs
  simp only at hc hd
  subst hc hd
  refine call_meets PySem.F.slot_list_count ⟨_, ho, rfl⟩ PySem.F.entry_list_count (PySem.F.args_list_count_2 _ _)
    (SeqAt.list_countAt p its.toArray n dd sl u (eqU y)) ⟨ho, fun z hz => mem_eqAt ru fy rv fys z (by simpa using hz), ?_⟩
  refine ⟨.int (ys.countP (eqV · y) : Nat), H, I.tok _, ⟨s.toks, ?_⟩, q⟩
  show Value.int ((its.toArray.toList.countP (eqU y) : Nat) : Int) s.toks = Value.int ((ys.countP (eqV · y) : Nat) : Int) s.toks
  rw [show its.toArray.toList = its from rfl, cnt_eq rv fys]
def cntD : List D → Option D
  | [.lst ds, x] => if flatD x && ds.all flatD then some (.int (ds.countP (flatEq · x) : Nat)) else none
  | _ => none
def ixFlat (x : D) : List D → Option Nat
  | [] => none
  | d :: ds => if flatEq d x then some 0 else (ixFlat x ds).map (· + 1)
def indexD : List D → Option D
  | [.lst ds, x] => if flatD x && ds.all flatD then (ixFlat x ds).map fun j => .int (j : Nat) else none
  | _ => none
theorem cnt_flat {F : Hp} {v : V} {x : D} (hx : Fz c F v x) (fx : flatD x = true) : ∀ {vs : List V} {ds : List D}, FzAll c F vs ds → ds.all flatD = true → vs.countP (eqV · v) = ds.countP (flatEq · x)
  | _, _, .nil, _ => rfl
  | _, _, .cons h r, e => by
    rw [List.all_cons, Bool.and_eq_true] at e
    rw [List.countP_cons, List.countP_cons, cnt_flat hx fx r e.2, flat_eq h hx e.1 fx]
theorem ix_flat {F : Hp} {v : V} {x : D} (hx : Fz c F v x) (fx : flatD x = true) : ∀ {vs : List V} {ds : List D} {j : Nat}, FzAll c F vs ds → ds.all flatD = true → ixFlat x ds = some j →
    (∃ z, vs[j]? = some z ∧ eqV z v = true) ∧ ∀ (m : Nat) (z' : V), m < j → vs[m]? = some z' → eqV z' v = false
  | _, _, j, .nil, _, q => by cases q
  | v0 :: vs, d :: ds, j, .cons h r, e, q => by
    rw [List.all_cons, Bool.and_eq_true] at e
    have fe := flat_eq h hx e.1 fx
    unfold ixFlat at q
    cases z : flatEq d x with
    | true =>
      rw [z, if_pos rfl] at q
      cases q
      exact ⟨⟨v0, rfl, by rw [fe, z]⟩, fun m z' hm => absurd hm (Nat.not_lt_zero _)⟩
    | false =>
      rw [z, if_neg (by decide)] at q
      cases q2 : ixFlat x ds with
      | none => rw [q2] at q; cases q
      | some j2 =>
        rw [q2] at q
        cases q
        obtain ⟨⟨z1, h1, h2⟩, h3⟩ := ix_flat hx fx r e.2 q2
        refine ⟨⟨z1, by simpa using h1, h2⟩, fun m z' hm hz => ?_⟩
        cases m with
        | zero => simp at hz; subst hz; rw [fe, z]
        | succ m => exact h3 m z' (Nat.lt_of_succ_lt_succ hm) (by simpa using hz)
/-- xs.m(y), xs a list -/
def isL : Option O → Bool
  | some (.lst _) => true
  | some (.fz (.lst _)) => true
  | _ => false
def eLM (φ : List D → Option D) (f g : En → Out Rv) : En → Out Rv := fun e => (f e).bind fun r e1 => if isL (treeOf e1 r) then (g e1).bind fun r2 e2 => match look e2 r, look e2 r2 with
    | some a, some y => match φ [a, y] with
      | some d => .ok (.tm (.fz d)) e2
      | none => .no
    | _, _ => .no
  else .no
theorem isL_ok {F H : Hp} {fp fq : List Addr} {e : En} {v : V} {r : Rv} {σ : L2.St} (s : Sub F H) (E : EnvR c mv F H fp σ e) (h : RvR c mv F H σ fq v r) (hl : isL (treeOf e r) = true) : ∃ p xs, v = .ref p ∧ SqL c.K H p xs := by
  cases z : treeOf e r with
  | none => rw [z] at hl; cases hl
  | some o =>
    rw [z] at hl
    obtain ⟨fo, ho⟩ := tree_ok E h z
    cases ho with
    | fz hz =>
      cases hz with
      | lst hs _ => exact ⟨_, _, rfl, s.sqL hs⟩
      | _ => cases hl
    | lst hH _ _ _ => exact ⟨_, _, rfl, SqL.of hH⟩
    | _ => cases hl
theorem lm_ok {φ : List D → Option D} {r : V → List V → Hp → VK → Prop} {f g : En → Out Rv} {σ : L2.St} {H : Hp} {Q : VK}
    (hr : ∀ H1 v w a y d, Fz c H1 v a → Fz c H1 w y → φ [a, y] = some d → (∀ u, (∀ G, Fz c G u d) → Q u H1) → r v [w] H1 Q)
    (h : rd c mv (rvR c mv) W (eLM φ f g) σ H Q) : tBM c.K "list" r (rd c mv (rvR c mv) W f) (tCons (rd c mv (rvR c mv) W g) tNil) σ H Q := by
  obtain ⟨F, fp, e, s, E, p⟩ := h
  refine ⟨F, fp, e, s, E, Po.seq (R1 := rvR c mv) p fun a e1 F1 H1 f1 q1 v _ s1 E1 r1 d1 p1 => ?_⟩
  split at p1
  · rename_i hl
    obtain ⟨l, xs, rfl, hs⟩ := isL_ok s1.fh E1 r1 hl
    refine ⟨.inl ⟨rfl, xs, hs⟩, F1, f1, e1, s1.fh, E1, Po.seqS (R1 := rvR c mv) p1 r1.has fun b e2 F2 H2 f2 q2 w _ s2 E2 r2 d2 p2 => ?_⟩
    cases z1 : look e2 a with
    | none => rw [z1] at p2; exact p2.elim
    | some da =>
      cases z2 : look e2 b with
      | none => rw [z1, z2] at p2; exact p2.elim
      | some dy =>
        rw [z1, z2] at p2
        simp only at p2
        cases z3 : φ [da, dy] with
        | none => rw [z3] at p2; exact p2.elim
        | some d =>
          rw [z3] at p2
          exact hr H2 _ w da dy d (look_ok s2.fh E2 (r1.stp s2 d1) z1) (look_ok s2.fh E2 r2 z2) z3 fun u hu => Po.fz s2.fh E2 (hu F2) (fun b hb => List.mem_append_left _ (List.mem_append_left _ hb)) p2
  · exact p1.elim
theorem de_count {o a : Expr} {f g : En → Out Rv} {apos cpos : Pos} (hK : X.K = c.K) (ho : DE X c mv W o f) (ha : DE X c mv W a g)
    (hbase : attributeBase o "count" X.env (eval o X.env) = eval o X.env := by rfl)
    (hfew : ((backTo cpos (starEach [a] X.env)).all (fun x => !x.1) && (backToKw cpos (keywordEach [] X.env)).all (fun x => x.1.isSome)
      && decide (([a] : List Expr).length + ([] : List Keyword).length + (if ([] : List Keyword).isEmpty then 0 else 1) < 30)) = true := by rfl)
    (hline : (apos.endLine == cpos.line) = true := by rfl) (hs : starEach [a] X.env = (false, eval a X.env) :: starEach [] X.env := by rfl) :
    DE X c mv W (.Call (.Attribute o "count" apos) [a] [] cpos) (eLM cntD f g) :=
  pe_imp (pe_bm PySem.F.plainAttrs_list PySem.F.slot_list_count (by first | exact PySem.F.type_list_count | decide +kernel | rfl) mt_cnt ho (pa_cons ha pa_nil hs) hbase hfew hline hs) fun σ H Q h => by
    rw [hK]
    refine lm_ok (fun H1 v w a y d h1 h2 e k => ?_) h
    unfold cntD at e
    split at e
    · rename_i ds x he
      cases he
      split at e
      · rename_i hb
        cases e
        rw [Bool.and_eq_true] at hb
        cases h1 with
        | lst hs ha =>
          refine ⟨_, _, w, rfl, rfl, hs, flat_V h2 hb.1, flat_all ha hb.2, ?_⟩
          rw [cnt_flat h2 hb.1 ha hb.2]
          exact k _ fun _ => .int
      · cases e
    · cases e
theorem de_index {o a : Expr} {f g : En → Out Rv} {apos cpos : Pos} (hK : X.K = c.K) (ho : DE X c mv W o f) (ha : DE X c mv W a g)
    (hbase : attributeBase o "index" X.env (eval o X.env) = eval o X.env := by rfl)
    (hfew : ((backTo cpos (starEach [a] X.env)).all (fun x => !x.1) && (backToKw cpos (keywordEach [] X.env)).all (fun x => x.1.isSome)
      && decide (([a] : List Expr).length + ([] : List Keyword).length + (if ([] : List Keyword).isEmpty then 0 else 1) < 30)) = true := by rfl)
    (hline : (apos.endLine == cpos.line) = true := by rfl) (hs : starEach [a] X.env = (false, eval a X.env) :: starEach [] X.env := by rfl) :
    DE X c mv W (.Call (.Attribute o "index" apos) [a] [] cpos) (eLM indexD f g) :=
  pe_imp (pe_bm PySem.F.plainAttrs_list PySem.F.slot_list_index (by first | exact PySem.F.type_list_index | decide +kernel | rfl) mt_index ho (pa_cons ha pa_nil hs) hbase hfew hline hs) fun σ H Q h => by
    rw [hK]
    refine lm_ok (fun H1 v w a y d h1 h2 e k => ?_) h
    unfold indexD at e
    split at e
    · rename_i ds x he
      cases he
      split at e
      · rename_i hb
        rw [Bool.and_eq_true] at hb
        cases q : ixFlat y ds with
        | none => rw [q] at e; cases e
        | some j =>
          rw [q] at e
          cases e
          cases h1 with
          | lst hs ha =>
            obtain ⟨⟨z, g1, g2⟩, g3⟩ := ix_flat h2 hb.1 ha hb.2 q
            exact ⟨_, _, w, j, z, rfl, rfl, hs, flat_V h2 hb.1, flat_all ha hb.2, g1, g2, g3, k _ fun _ => .int⟩
      · cases e
    · cases e

/-! ### a displayed dict of written texts and scalars -/
def keyed (ks : List Str) : List Key := ks.map Sum.inr
def eDisp (ks : List Str) (ds : List D) : En → Out Rv := fun e => .ok (.tm (.dK (keyed ks) (ds.map .fz))) e
/-- its pairs, as they are written -/
structure DisC (X : Cx) (c : Cs) (pos : Pos) (keys : List (Option Expr)) (values : List Expr) (ks : List Str) (ds : List D) : Prop where
  ex : ∃ trs vs, PPs X pos keys values trs ∧ (∀ G, FzAll c G vs ds) ∧ vs.length = ks.length ∧ ∀ σ H Q, Q ((ks.zip vs).map fun kv => (.str kv.1, kv.2)) H → tPairs trs σ H Q
theorem disc_nil {pos : Pos} : DisC X c pos [] [] [] [] := ⟨[], [], pps_nil, fun _ => .nil, rfl, fun _ _ _ q => q⟩
theorem disc_cons {pos p : Pos} {j : Nat} {k : Str} {v : Expr} {x : V} {d : D} {keys : List (Option Expr)} {values : List Expr} {ks : List Str} {ds : List D} (hv : PE X v (tC x)) (hx : ∀ G, Fz c G x d) (h : DisC X c pos keys values ks ds) :
    DisC X c pos (some (.Constant (.str k) j p) :: keys) (v :: values) (k :: ks) (d :: ds) := by
  obtain ⟨trs, vs, h1, h2, h3, h4⟩ := h.ex
  exact ⟨_, x :: vs, pps_cons pe_str hv h1, fun G => .cons (hx G) (h2 G), by rw [List.length_cons, List.length_cons, h3], fun σ H Q q => h4 σ H _ q⟩
theorem de_disp {pos : Pos} {keys : List (Option Expr)} {values : List Expr} {ks : List Str} {ds : List D} (h : DisC X c pos keys values ks ds) (hall : keys.all (·.isSome) = true) (hl : keys.length = values.length) (h0 : keys ≠ []) (h15 : keys.length ≤ 15)
    (hk : ks.length ≤ 15) (hm : ∀ vs : List V, vs.length = ks.length → mergeK [] ((ks.zip vs).map fun kv => (.inr kv.1, kv.2)) = (ks.zip vs).map fun kv => (.inr kv.1, kv.2)) :
    DE X c mv W (.Dict keys values pos) (eDisp ks ds) := by
  obtain ⟨trs, vs, h1, h2, h3, h4⟩ := h.ex
  refine pe_imp (pe_disp h1 hall hl h0 h15) fun σ H Q ⟨F, fp, e, s, E, p⟩ a ha => h4 σ _ _ ⟨upd_same, (ks.zip vs).map fun kv => (.inr kv.1, kv.2), ?_, ?_, ?_⟩
  · rw [List.map_map]
    rfl
  · rw [List.length_map, List.length_zip, h3, Nat.min_self]; exact hk
  · have st : Stp F H fp F (upd (upd H a (.dK [])) a (.dK (mergeK [] ((ks.zip vs).map fun kv => (.inr kv.1, kv.2))))) (a :: fp) := (Stp.lay (o := .dK []) s ha fun _ h => h).trans
      (Stp.chg (Stp.lay (fp := fp) (o := .dK []) s ha fun _ h => h).fh List.mem_cons_self (by
        cases q : F a with
        | none => rfl
        | some u => have := s a u q; rw [ha] at this; cases this))
    have Fa : F a = none := by
      cases q : F a with
      | none => rfl
      | some u => have := s a u q; rw [ha] at this; cases this
    have st0 : Stp F H [] F (upd (upd H a (.dK [])) a (.dK (mergeK [] ((ks.zip vs).map fun kv => (.inr kv.1, kv.2))))) [a] := (Stp.lay (o := .dK []) s ha fun _ h => h).trans
      (Stp.chg (Stp.lay (fp := []) (fq := []) (o := .dK []) s ha fun _ h => h).fh List.mem_cons_self Fa)
    refine p F _ fp [a] _ (st.part (fun _ h => h) fun b hb => ?_) (E.stp st0 fun b hb z => nomatch z) (.tm ?_) fun b hb z => ?_
    · rcases List.mem_append.mp hb with h | h
      · exact List.mem_cons_of_mem _ h
      · exact List.mem_cons.mpr (.inl (List.mem_singleton.mp h))
    · rw [hm vs h3]
      have e1 : ((ks.zip vs).map fun kv => ((Sum.inr kv.1 : Key), kv.2)).map (·.1) = keyed ks := by
        rw [List.map_map]
        show (ks.zip vs).map (fun kv => (Sum.inr kv.1 : Key)) = ks.map Sum.inr
        rw [show (fun kv : Str × V => (Sum.inr kv.1 : Key)) = Sum.inr ∘ Prod.fst from rfl, ← List.map_map, List.map_fst_zip (Nat.le_of_eq h3.symm)]
      have e2 : ((ks.zip vs).map fun kv => ((Sum.inr kv.1 : Key), kv.2)).map (·.2) = vs := by
        rw [List.map_map]
        show (ks.zip vs).map Prod.snd = vs
        exact List.map_snd_zip (Nat.le_of_eq h3)
      refine .dK (kvs := (ks.zip vs).map fun kv => (.inr kv.1, kv.2)) upd_same Fa (fun z => nomatch z) e1 ?_
      rw [e2]
      exact FzAll.ow (h2 F)
    · rw [List.mem_singleton] at hb
      subst hb
      exact (E.has b z).2 ha

/-! ### an item of a dict that is written in the text -/
def eWix (tab : Str → Option D) (f : En → Out Rv) : En → Out Rv := eV (fun ds => match ds with
  | [.str z] => tab z
  | _ => none) (aCons f aNil)
theorem de_wix {x : Str} {a : Addr} {b : Expr} {tab : Str → Option D} {f : En → Out Rv} {p pos : Pos} (hg : Gl X x) (hm : X.mg x = some (.ref a)) (htab : ∀ z d, tab z = some d → ∃ v, KDct X.K X.w a z v ∧ ∀ G, Fz c G v d)
    (hb : DE X c mv W b f) (hs : PlainIx b := by intro _ _; rfl) (hdb : (x == ("__debug__" : Str)) = false := by decide) : DE X c mv W (.Subscript (.Name x p) b pos) (eWix tab f) :=
  pe_imp (pe_ix ix_kdict (pe_glob (v := .ref a) hg hm rfl hdb) hb hs) fun σ H Q h =>
    arg1_ok (T := fun y H1 => rIxD X.K X.w (.ref a) y H1 Q) h fun F H1 v d d' s hz e k => by
      split at e
      · rename_i z he
        cases he
        cases hz
        obtain ⟨v', h1, h2⟩ := htab z d' e
        exact ⟨a, z, v', rfl, rfl, h1, k v' h2⟩
      · cases e
end
end DL

set_option Elab.async false
set_option linter.all false
set_option maxRecDepth 100000
set_option maxHeartbeats 2000000
/-! DL, part V: tuples that hold one's own things; two names at once. -/
namespace DL
open PySem L2 PySem.Spec PyProof.Rows
section
variable {X : Cx} {c : Cs} {mv : V} {W : WX}

/-! ### return (a, b, ..): what is one's own goes out whole -/
def giveAll : En → List Rv → Option (List O × En)
  | e, [] => some ([], e)
  | e, r :: rs => match give e r with
    | none => none
    | some (o, e1) => match giveAll e1 rs with
      | none => none
      | some (os, e2) => some (o :: os, e2)
theorem give_sub {F H : Hp} {fp fq : List Addr} {σ : L2.St} {e e' : En} {v : V} {r : Rv} {o : O} (s : Sub F H) (E : EnvR c mv F H fp σ e) (h : RvR c mv F H σ fq v r) (dj : ∀ b ∈ fq, b ∉ fp) (l : give e r = some (o, e')) :
    ∃ F' fp' fq', Stp F H (fp ++ fq) F' H (fp' ++ fq') ∧ Ow c F' H fq' v o ∧ EnvR c mv F' H fp' σ e' ∧ (∀ b ∈ fq', b ∉ fp') ∧ (∀ b ∈ fp', b ∈ fp) ∧ ∀ b ∈ fq', b ∈ fp ++ fq := by
  have base : own e r = some (o, e') → ∃ F' fp' fq', Stp F H (fp ++ fq) F' H (fp' ++ fq') ∧ Ow c F' H fq' v o ∧ EnvR c mv F' H fp' σ e' ∧ (∀ b ∈ fq', b ∉ fp') ∧ (∀ b ∈ fp', b ∈ fp) ∧ ∀ b ∈ fq', b ∈ fp ++ fq := fun l => by
    obtain ⟨F1, f1, q1, s1, k1, E1, d1, m1, n1⟩ := own_ok s E h dj l
    exact ⟨F1, f1, q1, s1, k1, E1, d1, m1, fun b hb => List.mem_append_right _ (n1 b hb)⟩
  cases r with
  | tm o => exact base l
  | me => exact base l
  | sl i =>
    cases h with
    | sl hi =>
      have l : (match e.sl[i]? with
        | some (some (.ow o)) => some (o, e.hole i)
        | _ => own e (.sl i)) = some (o, e') := l
      cases q : e.sl[i]? with
      | none => rw [q] at l; exact base l
      | some w =>
        cases w with
        | none => rw [q] at l; exact base l
        | some x =>
          cases x with
          | me => rw [q] at l; exact base l
          | ow o' =>
            rw [q] at l
            cases l
            obtain ⟨v', fo, fr, g1, g2, g3, g4, g5⟩ := E.take q
            rw [hi] at g1; cases g1
            refine ⟨F, fr, fo, (Stp.refl s).part (fun _ h => h) fun b hb => List.mem_append_left _ ((g5 b).mpr ?_), g2, g3, g4, fun b hb => (g5 b).mpr (.inr hb), fun b hb => List.mem_append_left _ ((g5 b).mpr (.inl hb))⟩
            exact (List.mem_append.mp hb).elim .inr .inl
theorem giveAll_ok {σ : L2.St} {H : Hp} : ∀ {rs : List Rv} {F : Hp} {fp fq : List Addr} {e e' : En} {vs : List V} {os : List O}, Sub F H → EnvR c mv F H fp σ e → RvAll c mv F H σ fq vs rs → (∀ b ∈ fq, b ∉ fp) → giveAll e rs = some (os, e') →
    ∃ F' fp' fq', Stp F H (fp ++ fq) F' H (fp' ++ fq') ∧ OwAll c F' H fq' vs os ∧ EnvR c mv F' H fp' σ e' ∧ (∀ b ∈ fq', b ∉ fp') ∧ (∀ b ∈ fp', b ∈ fp) ∧ ∀ b ∈ fq', b ∈ fp ++ fq
  | [], F, fp, fq, e, e', vs, os, s, E, h, dj, l => by
    cases h
    cases l
    exact ⟨F, fp, [], Stp.refl s, .nil, E, (fun b hb => nomatch hb), (fun _ h => h), fun b hb => nomatch hb⟩
  | r :: rs, F, fp, fq, e, e', vs, os, s, E, h, dj, l => by
    cases h with
    | @cons p q v r vs rs h1 h2 hd =>
      unfold giveAll at l
      cases z : give e r with
      | none => rw [z] at l; cases l
      | some y =>
        obtain ⟨o, e1⟩ := y
        rw [z] at l
        simp only at l
        obtain ⟨F1, f1, q1, s1, k1, E1, d1, m1, n1⟩ := give_sub s E h1 (fun b hb => dj b (List.mem_append_left _ hb)) z
        cases z2 : giveAll e1 rs with
        | none => rw [z2] at l; cases l
        | some y2 =>
          obtain ⟨os2, e2⟩ := y2
          rw [z2] at l
          cases l
          have h2' : RvAll c mv F1 H σ q vs rs := h2.stp s1 fun b hb z => (List.mem_append.mp z).elim (fun y => dj b (List.mem_append_right _ hb) y) fun y => hd b y hb
          obtain ⟨F2, f2, q2, s2, k2, E2, d2, m2, n2⟩ := giveAll_ok s1.fh E1 h2' (fun b hb z => dj b (List.mem_append_right _ hb) (m1 b z)) z2
          have apart : ∀ b ∈ q1, b ∉ f1 ++ q := fun b hb z => by
            rcases List.mem_append.mp z with y | y
            · exact d1 b hb y
            · rcases List.mem_append.mp (n1 b hb) with w | w
              · exact dj b (List.mem_append_right _ y) w
              · exact hd b w y
          have k1' : Ow c F2 H q1 v o := s2.ow k1 apart
          refine ⟨F2, f2, q1 ++ q2, ?_, .cons k1' k2 fun b hb y => apart b hb (n2 b y), E2, fun b hb y => ?_, fun b hb => m1 b (m2 b hb), fun b hb => ?_⟩
          · have s1' := s1.more (fq := q) fun b hb => (h2.has b hb).2
            have s2' := s2.more (fq := q1) fun b hb => (k1.has b hb).2
            refine (s1'.part (fun b hb => ?_) (fp2 := (f1 ++ q) ++ q1) fun b hb => ?_).trans (s2'.part (fun _ h => h) fun b hb => ?_)
            all_goals
              simp only [List.mem_append] at hb ⊢
              first | (rcases hb with h | h | h <;> simp [h]; done) | (rcases hb with (h | h) | h <;> simp [h]; done)
          · rcases List.mem_append.mp hb with h | h
            · exact d1 b h (m2 b y)
            · exact d2 b h y
          · rcases List.mem_append.mp hb with h | h
            · rcases List.mem_append.mp (n1 b h) with w | w
              · exact List.mem_append_left _ w
              · exact List.mem_append_right _ (List.mem_append_left _ w)
            · rcases List.mem_append.mp (n2 b h) with w | w
              · exact List.mem_append_left _ (m1 b w)
              · exact List.mem_append_right _ (List.mem_append_right _ w)
def sRetT (f : En → Out (List Rv)) : SS := fun e => (f e).so fun rs e1 => match giveAll e1 rs with
  | none => .no
  | some (os, e2) => if os.length ≤ 1000 then .rt (.tup os) e2 else .no
theorem thenA_ok {f : En → Out (List Rv)} {k : List Rv → En → SO} {σ : L2.St} {H : Hp} {D : Ends} {T : List V → Hp → Prop} (h : ∃ F fp e, Sub F H ∧ EnvR c mv F H fp σ e ∧ PoS c mv W F H fp ((f e).so k) D)
    (hk : ∀ F H fp fq e vs rs, Sub F H → EnvR c mv F H fp σ e → RvAll c mv F H σ fq vs rs → (∀ b ∈ fq, b ∉ fp) → PoS c mv W F H (fp ++ fq) (k rs e) D → T vs H) : rd c mv (rvsR c mv) W f σ H T := by
  obtain ⟨F, fp, e, s, E, p⟩ := h
  refine ⟨F, fp, e, s, E, ?_⟩
  cases z : f e with
  | no => rw [z] at p; exact p
  | ex x e1 => rw [z] at p; exact fun F1 H1 f1 cls d s1 E1 xr => p F1 H1 f1 σ cls d s1 E1 xr
  | ok rs e1 =>
    rw [z] at p
    exact fun F1 H1 f1 q1 vs s1 E1 r1 d1 => hk F1 H1 f1 q1 e1 vs rs s1.fh E1 r1 d1 (PoS.step p s1)
theorem ds_retT {es : List Expr} {f : En → Out (List Rv)} {x1} {pos pos' : Pos} (h : DA X c mv W es f) : DS X c mv W (.Return (some (.Tuple es x1 pos)) pos') (sRetT f) :=
  ps_imp (ps_ret (pe_tup h)) fun D σ H h => thenA_ok (T := fun vs H1 => vs.length ≤ sizeLine ∧ ∀ p, H1 p = none → D.rt (.ref p) (upd H1 p (.tup vs))) h fun F H fp fq e vs rs s E rr dj p => by
    cases z : giveAll e rs with
    | none => rw [z] at p; exact p.elim
    | some y =>
      obtain ⟨os, e2⟩ := y
      rw [z] at p
      simp only at p
      by_cases hs : os.length ≤ 1000
      · rw [if_pos hs] at p
        obtain ⟨F1, f1, q1, s1, k1, E1, d1, m1, n1⟩ := giveAll_ok s E rr dj z
        refine ⟨by rw [k1.length]; exact small_line hs, fun a ha => ?_⟩
        have Fa : F1 a = none := by
          cases q : F1 a with
          | none => rfl
          | some u => have := s1.fh a u q; rw [ha] at this; cases this
        have lay : ∀ fr, Stp F1 H fr (ice F1 (upd H a (.tup vs)) [a]) (upd H a (.tup vs)) fr := fun fr =>
          (Stp.lay (o := .tup vs) (fq := fr) s1.fh ha fun _ h => h).trans (Stp.ice (Stp.lay (fp := fr) (o := .tup vs) s1.fh ha fun _ h => h).fh (fun b hb => by rw [List.mem_singleton] at hb; subst hb; exact Fa)
            (fun b hb => by rw [List.mem_singleton] at hb; subst hb; exact List.mem_cons_self) fun b hb => List.mem_cons_of_mem _ hb)
        exact p _ _ f1 q1 σ _ (s1.trans (lay (f1 ++ q1))) (E1.stp (lay []) fun b hb z => nomatch z)
          (.tup ((ice_in (List.mem_singleton.mpr rfl)).trans upd_same) ((lay []).owAll k1 fun b hb z => nomatch z)) d1
      · rw [if_neg hs] at p; exact p.elim

/-! ### such a tuple's item: isinstance(x[k], T), x[k].append(v) -/
def En.tupAt (e : En) (i : Nat) : Option (List O) := match e.sl[i]? with
  | some (some (.ow (.tup os))) => some os
  | _ => none
theorem tupAt_sl {e : En} {i : Nat} {os : List O} (h : e.tupAt i = some os) : e.sl[i]? = some (some (.ow (.tup os))) := by
  unfold En.tupAt at h
  split at h
  · rename_i os' q
    cases h
    exact q
  · cases h
def eIsiIt (T : Option String) (tab : Str → Option Bool) (i k : Nat) : En → Out Rv := fun e => match e.tupAt i with
  | some os => match os[k]? with
    | some o => match isiD T tab [o.val] with
      | some d => .ok (.tm (.fz d)) e
      | none => .no
    | none => .no
  | none => .no
theorem OwAll.split {F H : Hp} : ∀ {fp : List Addr} {vs : List V} {os : List O} {j : Nat} {o : O}, OwAll c F H fp vs os → os[j]? = some o →
    ∃ v fo, vs[j]? = some v ∧ Ow c F H fo v o ∧ (∀ b ∈ fo, b ∈ fp) ∧ ∀ F' H' fo' o', Ow c F' H' fo' v o' → (∀ fp' vs' os', OwAll c F H fp' vs' os' → (∀ b ∈ fp', b ∉ fo) → OwAll c F' H' fp' vs' os') → (∀ b ∈ fo', b ∈ fo ∨ b ∉ fp) →
      ∃ fp', OwAll c F' H' fp' vs (os.set j o') ∧ ∀ b ∈ fp', b ∈ fp ∨ b ∈ fo'
  | _, _, _, _, _, .nil, e => by simp at e
  | _, _, _, 0, _, .cons (fp := fa) (fq := fb) (v := v) h r z, e => by
    simp at e; subst e
    refine ⟨v, fa, rfl, h, fun b hb => List.mem_append_left _ hb, fun F' H' fo' o' h' keep sub => ?_⟩
    refine ⟨fo' ++ fb, .cons h' (keep _ _ _ r fun b hb y => z b y hb) fun b hb y => ?_, fun b hb => ?_⟩
    · rcases sub b hb with w | w
      · exact z b w y
      · exact w (List.mem_append_right _ y)
    · rcases List.mem_append.mp hb with w | w
      · exact .inr w
      · exact .inl (List.mem_append_right _ w)
  | _, _, _, j + 1, _, .cons (fp := fa) (fq := fb) (v := v0) (o := o0) h r z, e => by
    obtain ⟨v, fo, h1, h2, h3, h4⟩ := OwAll.split (j := j) r (by simpa using e)
    refine ⟨v, fo, by simpa using h1, h2, fun b hb => List.mem_append_right _ (h3 b hb), fun F' H' fo' o' h' keep sub => ?_⟩
    obtain ⟨fp', g1, g2⟩ := h4 F' H' fo' o' h' keep fun b hb => (sub b hb).imp id fun w y => w (List.mem_append_right _ y)
    have h0 := keep (fa ++ []) [v0] [o0] (.cons h .nil fun b hb y => nomatch y) fun b hb y => by
      rw [List.append_nil] at hb
      exact z b hb (h3 b y)
    rw [List.append_nil] at h0
    have h0' : Ow c F' H' fa v0 o0 := by
      have := h0
      generalize hfa : fa = ff at this
      cases this with
      | cons k1 k2 k3 =>
        cases k2
        rw [List.append_nil]
        exact k1
    refine ⟨fa ++ fp', .cons h0' g1 fun b hb y => ?_, fun b hb => ?_⟩
    · rcases g2 b y with w | w
      · exact z b hb w
      · rcases sub b w with u | u
        · exact z b hb (h3 b u)
        · exact u (List.mem_append_left _ hb)
    · rcases List.mem_append.mp hb with w | w
      · exact .inl (List.mem_append_left _ w)
      · exact (g2 b w).imp (List.mem_append_right _) id
theorem de_isiIt {T : Option String} {tab : Str → Option Bool} {tv : V} {u : Value} {x : Str} {i k : Nat} {b : Expr} {j : Nat} {px p p2 pi pos : Pos} (hK : X.K = c.K) (hm : X.mg "isinstance" = none) (hg : Gl X "isinstance") (pc : PE X b (tC tv)) (cv : ClsV tv u)
    (hT : ∀ T', T = some T' → u = .type T' ∧ T' ∈ isiTys) (hN : X.N[i]? = some x) (hv : Vis X.env.scope x) (hd : (x == ("__debug__" : Str)) = false := by decide) (hcd : (x == ("__classdict__" : Str)) = false := by decide)
    (hs : PlainIx (.Constant (.int (k : Nat)) j pi) := by intro _ _; rfl) (hk : k < 1000 := by decide)
    (he : starEach [.Subscript (.Name x px) (.Constant (.int (k : Nat)) j pi) p2, b] X.env = (false, eval (.Subscript (.Name x px) (.Constant (.int (k : Nat)) j pi) p2) X.env) :: starEach [b] X.env := by rfl)
    (hs2 : starEach [b] X.env = (false, eval b X.env) :: starEach [] X.env := by rfl) (hpl : (backTo pos (starEach [b] X.env)).any (·.1) = false := by rfl) :
    DE X c mv W (.Call (.Name "isinstance" p) [.Subscript (.Name x px) (.Constant (.int (k : Nat)) j pi) p2, b] [] pos) (eIsiIt T (fun _ => none) i k) :=
  pe_imp (pe_callB call_isi hg hm PyProof.Rows.boot_isinstance (pa_cons (pe_ix ix_tup (pe_var hN hv hd hcd) pe_int hs) (pa_cons pc pa_nil hs2) he) (he := he) (hpl := hpl)) fun σ H Q ⟨F, fp, e, s, E, p⟩ => by
    unfold eIsiIt at p
    cases z : e.tupAt i with
    | none => rw [z] at p; exact p.elim
    | some os =>
      rw [z] at p
      simp only at p
      cases zo : os[k]? with
      | none => rw [zo] at p; exact p.elim
      | some o =>
        rw [zo] at p
        simp only at p
        cases zd : isiD T (fun _ => none) [o.val] with
        | none => rw [zd] at p; exact p.elim
        | some d =>
          rw [zd] at p
          obtain ⟨v, fo, fr, hv', ho, _⟩ := E.take (tupAt_sl z)
          cases ho with
          | @tup a _ xs _ hs hall =>
            obtain ⟨w, f2, hw, how⟩ := hall.getO zo
            have hz := how.view s
            rw [hK]
            refine ⟨_, hv', a, xs, (k : Int), w, rfl, rfl, SqT.of (s _ _ hs), atI_nat hw, ?_⟩
            show rIsi c.K [w, tv] H Q
            have fin : isiX T o.val = some d → rIsi c.K [w, tv] H Q := fun hd2 => by
              unfold isiX at hd2
              cases T with
              | none => cases hd2
              | some T =>
                cases zt : tyD o.val with
                | none => rw [zt] at hd2; cases hd2
                | some t =>
                  rw [zt] at hd2
                  cases hd2
                  obtain ⟨rfl, hin⟩ := hT T rfl
                  exact ⟨w, tv, .type t, _, isiB t T, rfl, cv, hz.ty zt, kit_ty (isi_tab t (tyD_in zt) T hin), Po.fz s E .bl (fun b hb => hb) p⟩
            unfold isiD at zd
            split at zd
            · cases zd
            · rename_i d0 _ e0
              cases e0
              exact fin zd
            · cases zd
def sAppIt (i k : Nat) (f : En → Out Rv) : SS := fun e => match e.tupAt i with
  | some os0 => match os0[k]? with
    | some (.lst _) => (f e).so fun r e1 => match own e1 r with
      | none => .no
      | some (o, e2) => match e2.tupAt i with
        | some os => match os[k]? with
          | some (.lst ys) => if ys.length < 1000000 then .nx (e2.put i (.tup (os.set k (.lst (ys ++ [o]))))) else .no
          | _ => .no
        | none => .no
    | _ => .no
  | none => .no
theorem ds_appIt {x : Str} {i k : Nat} {j : Nat} {a : Expr} {f : En → Out Rv} {px pi p2 apos cpos pos : Pos} (hK : X.K = c.K) (hN : X.N[i]? = some x) (hv : Vis X.env.scope x) (ha : DE X c mv W a f) (hd : (x == ("__debug__" : Str)) = false := by decide)
    (hcd : (x == ("__classdict__" : Str)) = false := by decide) (hs0 : PlainIx (.Constant (.int (k : Nat)) j pi) := by intro _ _; rfl)
    (hbase : attributeBase (.Subscript (.Name x px) (.Constant (.int (k : Nat)) j pi) p2) "append" X.env (eval (.Subscript (.Name x px) (.Constant (.int (k : Nat)) j pi) p2) X.env) = eval (.Subscript (.Name x px) (.Constant (.int (k : Nat)) j pi) p2) X.env := by rfl)
    (hfew : ((backTo cpos (starEach [a] X.env)).all (fun x => !x.1) && (backToKw cpos (keywordEach [] X.env)).all (fun x => x.1.isSome)
      && decide (([a] : List Expr).length + ([] : List Keyword).length + (if ([] : List Keyword).isEmpty then 0 else 1) < 30)) = true := by rfl)
    (hline : (apos.endLine == cpos.line) = true := by rfl) (hs : starEach [a] X.env = (false, eval a X.env) :: starEach [] X.env := by rfl)
    (hsw : swapsWith (.Call (.Attribute (.Subscript (.Name x px) (.Constant (.int (k : Nat)) j pi) p2) "append" apos) [a] [] cpos) none pos.line X.env = pure false := by rfl) :
    DS X c mv W (.Expr (.Call (.Attribute (.Subscript (.Name x px) (.Constant (.int (k : Nat)) j pi) p2) "append" apos) [a] [] cpos) pos) (sAppIt i k f) := by
  refine ps_imp (ps_expr (pe_bm PySem.F.plainAttrs_list PySem.F.slot_list_append PySem.F.type_list_append mt_append (pe_ix ix_tup (pe_var hN hv hd hcd) pe_int hs0) (pa_cons ha pa_nil hs) hbase hfew hline hs) hsw) fun D σ H ⟨F, fp, e, s, E, p⟩ => ?_
  unfold sAppIt at p
  cases z0 : e.tupAt i with
  | none => rw [z0] at p; exact p.elim
  | some os0 =>
    rw [z0] at p
    simp only at p
    split at p
    · rename_i ys0 zk
      obtain ⟨v, fo, fr, hv0, ho0, _⟩ := E.take (tupAt_sl z0)
      cases ho0 with
      | @tup ta _ xs _ hts hall =>
        obtain ⟨w, fw, hw, how⟩ := hall.getO zk
        cases how with
        | @lst l fl zs _ hH hF hn hall2 =>
          rw [hK]
          refine ⟨_, hv0, ta, xs, (k : Int), .ref l, rfl, rfl, SqT.of (s _ _ hts), atI_nat hw, .inl ⟨rfl, zs, SqL.of hH⟩, ?_⟩
          show rd c mv (rvR c mv) W f σ H _
          refine then2_ok (R := rvR c mv) (fq := []) s E (fun b hb => nomatch hb) (by rw [List.append_nil]; exact p) fun F1 H1 f1 q1 e1 y r st00 E1 r1 d1 p1 => ?_
          rw [List.append_nil] at p1
          have s1 := st00.fh
          cases z : own e1 r with
          | none => rw [z] at p1; exact p1.elim
          | some yy =>
            obtain ⟨o, e2⟩ := yy
            rw [z] at p1
            obtain ⟨F2, f2, q2, s2, k2, E2, d2, m2, n2⟩ := own_ok s1 E1 r1 d1 z
            simp only at p1
            cases z3 : e2.tupAt i with
            | none => rw [z3] at p1; exact p1.elim
            | some os =>
              rw [z3] at p1
              simp only at p1
              split at p1
              · rename_i ys zk2
                split at p1
                · rename_i hsz
                  obtain ⟨v', fo2, fr2, hv2, ho2, E3, d3, g3⟩ := E2.take (tupAt_sl z3)
                  rw [hv0] at hv2; cases hv2
                  cases ho2 with
                  | @tup _ _ xs2 _ hts2 hallt =>
                    have ex : xs = xs2 := by
                      have z1 := st00.ff _ _ hts
                      have z2 := s2.ff _ _ z1
                      rw [hts2] at z2
                      cases z2
                      rfl
                    subst ex
                    obtain ⟨w2, fw2, hw2, how2, sub2, put2⟩ := hallt.split zk2
                    have ew : w2 = .ref l := by rw [hw] at hw2; cases hw2; rfl
                    subst ew
                    cases how2 with
                    | @lst _ fl2 zs2 _ hH2 hF2 hn2 hall3 =>
                      refine ⟨l, zs2, y, rfl, rfl, hH2, by rw [hall3.length]; exact Nat.lt_of_lt_of_le hsz (by decide), ?_⟩
                      have na : l ∉ q2 := fun z => d2 l z ((g3 l).mpr (.inl (sub2 l List.mem_cons_self)))
                      have st1 : Stp F2 H1 [l] F2 (upd H1 l (.lst (zs2 ++ [y]))) [l] := Stp.chg s2.fh (List.mem_singleton.mpr rfl) hF2
                      have kk : OwAll c F2 H1 (fl2 ++ (q2 ++ [])) (zs2 ++ [y]) (ys ++ [o]) := hall3.append (.cons k2 .nil fun b hb z => nomatch z) fun b hb z => d2 b (by simpa using z) ((g3 b).mpr (.inl (sub2 b (List.mem_cons_of_mem _ hb))))
                      rw [List.append_nil] at kk
                      have nl : ∀ b ∈ fl2 ++ q2, b ∉ [l] := fun b hb z => by
                        rw [List.mem_singleton] at z; subst z
                        rcases List.mem_append.mp hb with h | h
                        · exact hn2 h
                        · exact na h
                      have new : Ow c F2 (upd H1 l (.lst (zs2 ++ [y]))) (l :: (fl2 ++ q2)) (.ref l) (.lst (ys ++ [o])) := .lst upd_same hF2 (fun z => nl l z (List.mem_singleton.mpr rfl)) (st1.owAll kk nl)
                      obtain ⟨fp', g1, g2⟩ := put2 F2 _ _ _ new (fun fp' vs' os' k1 k3 => st1.owAll k1 fun b hb z => by
                        rw [List.mem_singleton] at z; subst z
                        exact k3 b hb List.mem_cons_self) fun b hb => by
                          rcases List.mem_cons.mp hb with h | h
                          · subst h; exact .inl List.mem_cons_self
                          · rcases List.mem_append.mp h with h | h
                            · exact .inl (List.mem_cons_of_mem _ h)
                            · exact .inr fun z => d2 b h ((g3 b).mpr (.inl z))
                      have E4 := E3.stp st1 fun b hb z => by
                        rw [List.mem_singleton] at z; subst z
                        exact d3 b (sub2 b List.mem_cons_self) hb
                      have inside : ∀ b ∈ fp', b ∈ fo2 ∨ b ∈ q2 := fun b hb => by
                        rcases g2 b hb with h | h
                        · exact .inl h
                        · rcases List.mem_cons.mp h with h | h
                          · subst h; exact .inl (sub2 _ List.mem_cons_self)
                          · rcases List.mem_append.mp h with h | h
                            · exact .inl (sub2 b (List.mem_cons_of_mem _ h))
                            · exact .inr h
                      obtain ⟨f5, E5, m5⟩ := E4.back (.tup hts2 g1) (fun b hb z => by
                        rcases inside b hb with h | h
                        · exact d3 b h z
                        · exact d2 b h ((g3 b).mpr (.inr z))) hv0
                      have lf : l ∈ f2 := (g3 l).mpr (.inl (sub2 l List.mem_cons_self))
                      have st2 : Stp F2 H1 (f2 ++ q2) F2 (upd H1 l (.lst (zs2 ++ [y]))) (f2 ++ q2) := Stp.chg s2.fh (List.mem_append_left _ lf) hF2
                      refine p1 F2 _ f5 σ (s2.trans (st2.part (fun _ h => h) fun b hb => ?_)) E5
                      rcases List.mem_append.mp (m5 b hb) with h | h
                      · exact List.mem_append_left _ ((g3 b).mpr (.inr h))
                      · rcases inside b h with h | h
                        · exact List.mem_append_left _ ((g3 b).mpr (.inl h))
                        · exact List.mem_append_right _ h
                · exact p1.elim
              · exact p1.elim
    · exact p.elim
end
end DL

set_option Elab.async false
set_option linter.all false
set_option maxRecDepth 100000
set_option maxHeartbeats 2000000
/-! DL, part W: a, b = x, y; what the top says of classes and written things. -/
namespace DL
open PySem L2 PySem.Spec PyProof.Rows
section
variable {X : Cx} {c : Cs} {mv : V} {W : WX}
def sPar (i j : Nat) (f : En → Out (List Rv)) : SS := fun e => (f e).so fun rs e1 => match fixAll e1 rs with
  | some ([d1, d2], e2) => .nx ((e2.put i (.fz d1)).put j (.fz d2))
  | _ => .no
theorem ds_par {i j : Nat} {x y : Str} {a b : Expr} {f : En → Out (List Rv)} {px py pt pt2 pos : Pos} {kt k2} (hc : X.calm = true) (hN : X.N.Nodup) (hi : X.N[i]? = some x) (hj : X.N[j]? = some y) (hij : i ≠ j)
    (hx : X.env.scope.names.lookup x = some .local) (hy : X.env.scope.names.lookup y = some .local) (ha : DA X c mv W [a, b] f)
    (hw : swappedStores [.Tuple [.Name x px, .Name y py] kt pt] (.Tuple [a, b] k2 pt2) X.env = pure (some [x, y]))
    (hs : swapsWithSole [.Tuple [.Name x px, .Name y py] kt pt] (.Tuple [a, b] k2 pt2) pos.line X.env = pure false := by rfl) :
    DS X c mv W (.Assign [.Tuple [.Name x px, .Name y py] kt pt] (.Tuple [a, b] k2 pt2) pos) (sPar i j f) :=
  ps_imp (ps_par hc hN hi hj hij hx hy ha hw hs) fun D σ H h => thenA_ok (T := fun vs H1 => ∃ v w, vs = [v, w] ∧ D.nx ((σ.set i (some v)).set j (some w)) H1) h fun F H fp fq e vs rs s E rr dj p => by
    cases z : fixAll e rs with
    | none => rw [z] at p; exact p.elim
    | some y =>
      obtain ⟨ds, e2⟩ := y
      rw [z] at p
      split at p
      · rename_i d1 d2 e3 he
        cases he
        obtain ⟨F1, f1, s1, k1, E1, m1⟩ := fixAll_ok s E rr dj z
        cases k1 with
        | cons h1 h2 =>
          cases h2 with
          | cons h2 h3 =>
            cases h3
            obtain ⟨f2, E2, m2⟩ := E1.put (i := i) (.fz h1) (fun b hb => nomatch hb)
            obtain ⟨f3, E3, m3⟩ := E2.put (i := j) (.fz h2) (fun b hb => nomatch hb)
            exact ⟨_, _, rfl, p F1 H f3 _ (s1.part (fun _ h => h) fun b hb => by simpa using m2 b (by simpa using m3 b hb)) E3⟩
      · exact p.elim
end
/-- isinstance's answers for errors: u: the class asked for -/
def IsT (c : Cs) (tab : Str → Option Bool) (u : Value) : Prop := ∀ n b, tab n = some b → ∀ C, c.ca n = some C → ExcC c.K C ∧ PySem.W.kitOne c.K (.ref C) u = some b
/-- an except clause's answers -/
def ExT (c : Cs) (tab : Str → Option Bool) (u : Value) : Prop := ∀ n b, tab n = some b → ∀ C, c.ca n = some C → PySem.W.exmOne c.K (.ref C) u = some b
/-- a written dict's items -/
def WiT (c : Cs) (w : World) (tab : Str → Option D) (a : Addr) : Prop := ∀ z d, tab z = some d → ∃ v, KDct c.K w a z v ∧ ∀ G, Fz c G v d
def assoc {α : Type} (l : List (Str × α)) (n : Str) : Option α := l.lookup n
theorem assoc_all {α : Type} {P : Str → α → Prop} : ∀ {l : List (Str × α)}, (∀ q ∈ l, P q.1 q.2) → ∀ n a, assoc l n = some a → P n a
  | [], _, _, _, e => by cases e
  | (k, x) :: l, h, n, a, e => by
    unfold assoc at e
    rw [List.lookup_cons] at e
    split at e
    · rename_i hk
      cases e
      have := eq_of_beq hk
      subst this
      exact h _ List.mem_cons_self
    · exact assoc_all (fun q hq => h q (List.mem_cons_of_mem _ hq)) n a e
theorem kit_ref {K : PySem.W.Frag} {C T : Addr} {b : Bool} (hT : PySem.W.typeIn K (.ref T) = some (.type "type")) (hd : PySem.W.hasDictIn K T = true) (hs : PySem.W.subIn K (.ref C) (.ref T) = some b) (hself : PySem.W.subIn K (.ref T) (.ref T) = some true) :
    PySem.W.kitOne K (.ref C) (.ref T) = some b := by
  unfold PySem.W.kitOne
  by_cases e : C = T
  · subst e
    rw [hself] at hs
    cases hs
    rw [if_pos (beq_self_eq_true _)]
  · rw [if_neg (fun z => e (Value.ref.inj (beq_iff_eq.mp z)))]
    obtain ⟨cd, hc, _⟩ := PySem.W.any_some hd
    have e2 : ((PySem.W.clsIn K T).isSome && PySem.W.typeIn K (.ref T) == some (.type "type")) = true := by rw [hc, hT]; rfl
    show (if ((PySem.W.clsIn K T).isSome && PySem.W.typeIn K (.ref T) == some (.type "type")) = true then PySem.W.subIn K (.ref C) (.ref T) else none) = some b
    rw [if_pos e2]
    exact hs
theorem kit_ve {K : PySem.W.Frag} {C : Addr} {b : Bool} (hs : PySem.W.subIn K (.ref C) (.type "ValueError") = some b) : PySem.W.kitOne K (.ref C) (.type "ValueError") = some b := by
  have hm : PySem.W.kitMeta "ValueError" = true := by decide +kernel
  unfold PySem.W.kitOne
  rw [if_neg (by intro z; cases (beq_iff_eq.mp z))]
  show (if PySem.W.kitMeta "ValueError" = true then PySem.W.subIn K (.ref C) (.type "ValueError") else none) = some b
  rw [if_pos hm]
  exact hs
end DL

set_option Elab.async false
set_option linter.all false
set_option maxRecDepth 100000
set_option maxHeartbeats 2000000
/-! DL, part X: defs that take over what is handed to them. -/
namespace DL
open PySem L2 PySem.Spec PyProof.Rows
def spO (c : Cs) (n : Nat) (φ : List O → Res) : Sp := fun vs H Q E => vs.length = n ∧ ∃ F fq os, Sub F H ∧ OwAll c F H fq vs os ∧ match φ os with
  | .ok o => ∀ F' H' fr v, Stp F H fq F' H' fr → Ow c F' H' fr v o → Q v H'
  | .ex x => ∀ F' H' cls d, Stp F H fq F' H' [] → XR c F' cls d x → E cls d H'
  | .no => False
structure KnO (P : Program) (w : World) (mg : Str → Option Value) (base : Heap) (c : Cs) (k : Nat) (x : Str) (n : Nat) (φ : List O → Res) : Prop where
  ex : ∃ (f : Addr) (fd : FuncData) (ps : List Str), FnG P w c.K mg base k f fd ps (spO c n φ) ∧ mg x = some (.ref f) ∧ PySem.W.keepIn c.K (.ref f) = true ∧ Binds c.K fd ps []
def eCallO (φ : List O → Res) (f : En → Out (List Rv)) : En → Out Rv := fun e => (f e).bind fun rs e1 => match ownAll e1 rs with
  | none => .no
  | some (os, e2) => match φ os with
    | .ok o => .ok (.tm o) e2
    | .ex x => .ex x e2
    | .no => .no
section
variable {X : Cx} {c : Cs} {mv : V} {W : WX}
variable {x : Str} {p pos : Pos} {a : Expr} {es : List Expr} {f : En → Out (List Rv)} {k n : Nat} {φ : List O → Res}
theorem eCallO_ok {F H : Hp} {fp fq : List Addr} {σ : L2.St} {e : En} {vs : List V} {rs : List Rv} {Q : VK} (hn : rs.length = n) (s : Sub F H) (E : EnvR c mv F H fp σ e) (h : RvAll c mv F H σ fq vs rs) (dj : ∀ b ∈ fq, b ∉ fp)
    (p : Po c mv (rvR c mv) W F H (fp ++ fq) σ (match ownAll e rs with | none => Out.no | some (os, e2) => match φ os with | .ok o => .ok (.tm o) e2 | .ex x => .ex x e2 | .no => .no) Q) : spO c n φ vs H Q (WE W σ) := by
  have hl : ∀ {fq : List Addr} {vs : List V} {rs : List Rv}, RvAll c mv F H σ fq vs rs → vs.length = rs.length := fun {fq vs rs} h => by
    induction h with
    | nil => rfl
    | cons _ _ _ ih => rw [List.length_cons, List.length_cons, ih]
  cases z : ownAll e rs with
  | none => rw [z] at p; exact p.elim
  | some y =>
    obtain ⟨os, e2⟩ := y
    rw [z] at p
    simp only at p
    obtain ⟨F1, f1, q1, s1, k1, E1, d1, m1, n1⟩ := ownAll_ok s E h dj z
    refine ⟨(hl h).trans hn, F1, q1, os, s1.fh, k1, ?_⟩
    cases z2 : φ os with
    | no => rw [z2] at p; exact p
    | ok o =>
      rw [z2] at p
      intro F2 H2 q2 v s2 h2
      have dis : ∀ b ∈ f1, b ∉ q1 := fun b hb z => d1 b z hb
      have s3 := s2.more (fq := f1) fun b hb => (E1.has b hb).2
      have ap := s2.apart (fun b hb => (E1.has b hb).2) dis
      refine p F2 H2 f1 q2 v (s1.trans (s3.part (fun b hb => ?_) fun b hb => ?_)) (E1.stp s2 dis) (.tm h2) fun b hb z => ap b z hb
      · exact (List.mem_append.mp hb).elim (List.mem_append_right _) (List.mem_append_left _)
      · exact (List.mem_append.mp hb).elim (List.mem_append_right _) (List.mem_append_left _)
    | ex x =>
      rw [z2] at p
      intro F2 H2 cls d s2 h2
      have dis : ∀ b ∈ f1, b ∉ q1 := fun b hb z => d1 b z hb
      have s3 := s2.more (fq := f1) fun b hb => (E1.has b hb).2
      refine p F2 H2 f1 cls d (s1.trans (s3.part (fun b hb => ?_) fun b hb => List.mem_append_right _ hb)) (E1.stp s2 dis) h2
      exact (List.mem_append.mp hb).elim (List.mem_append_right _) (List.mem_append_left _)
theorem de_callO (hK : X.K = c.K) (G : KnO X.prog X.w X.mg X.base c k x n φ) (g : Quiet X.A) (r : Room k X.A) (tk : Takes X W) (ha : DA X c mv W (a :: es) f) (hn : Many n f) (hg : Gl X x) (hdb : (x == ("__debug__" : Str)) = false := by decide)
    (he : starEach (a :: es) X.env = (false, eval a X.env) :: starEach es X.env := by rfl) (hpl : (backTo pos (starEach es X.env)).any (·.1) = false := by rfl) : DE X c mv W (.Call (.Name x p) (a :: es) [] pos) (eCallO φ f) := by
  obtain ⟨fa, fd, ps, F, hm, hk, hb⟩ := G.ex
  rw [← hK] at F hk hb
  refine pe_imp (pe_callG F g r hg hm hk hb tk ha hdb he hpl) fun σ H Q h => ?_
  obtain ⟨F, fp, e, s, E, p⟩ := h
  refine ⟨F, fp, e, s, E, Po.seq (R1 := rvsR c mv) p fun rs e1 F1 H1 f1 q1 vs hq s1 E1 r1 d1 p1 => ?_⟩
  exact eCallO_ok (hn _ _ _ hq) s1.fh E1 r1 d1 p1
end
def frameO (m n : Nat) (os : List O) : En := ⟨os.map (fun o => some (.ow o)) ++ List.replicate (m - n) none, .fz .non⟩
def defSemO (m n : Nat) (g : SS) (os : List O) : Res := match g (frameO m n os) with
  | .rt o _ => .ok o
  | .nx _ => .ok (.fz .non)
  | .ex x _ => .ex x
  | _ => .no
theorem slots_startO {c : Cs} {mv : V} {F H : Hp} (k : Nat) : ∀ {fq : List Addr} {vs : List V} {os : List O}, OwAll c F H fq vs os → SlR c mv F H fq (vs.map some ++ List.replicate k none) (os.map (fun o => some (Sl.ow o)) ++ List.replicate k none)
  | _, _, _, .nil => by
    show SlR c mv F H [] (List.replicate k none) (List.replicate k none)
    induction k with
    | zero => exact .nil
    | succ k ih => exact .hole ih
  | _, _, _, .cons h r z => SlR.ow h (slots_startO k r) z
section
variable {P : Program} {w : World} {mg : Str → Option Value} {base : Heap} {c : Cs} {j k n : Nat} {f : Addr} {fd : FuncData} {x qual : Str} {st : Stmt} {N ps : List Str} {g : SS} {φ : List O → Res}
theorem defPO (F : Fun c.K x qual st f fd) (S : FnScope N ps (defScope st))
    (body : ∀ (cdv : Value) (A : Around) (outer : List Env) (s : Shared) (H : Hp) (E : XK), Quiet (A.deeper (envOfC qual (defScope st) s.heap.objs.size f cdv)) → Room k (A.deeper (envOfC qual (defScope st) s.heap.objs.size f cdv)) →
      DSs (cxOf (L2.CX P w) P w c.K mg base N qual (defScope st) f cdv A outer s H E) c .non (fun cls d _ H => E cls d H) (defBody st) g) :
    FnG P w c.K mg base (k + 1) f fd ps (spO c ps.length (defSemO N.length ps.length g)) := by
  refine defG F S (fun vs H Q E h => h.1) fun cdv A outer s H vs Q E gq r h => ⟨_, body cdv A outer s H E gq r, ?_⟩
  obtain ⟨hl, F0, fq, os, s0, z0, p⟩ := h
  refine ⟨F0, fq, frameO N.length ps.length os, s0, ?_, ?_⟩
  · refine ⟨[], fq, .fz .non, ?_, (fun b hb => nomatch hb), fun b => by simp⟩
    have q := slots_startO (mv := .non) (N.length - ps.length) z0
    unfold L2.start
    rw [hl]
    exact q
  · unfold defSemO at p
    cases z : g (frameO N.length ps.length os) with
    | no => rw [z] at p; exact p
    | bk e => rw [z] at p; exact False.elim p
    | ct e => rw [z] at p; exact False.elim p
    | nx e =>
      rw [z] at p
      exact fun F1 H1 f1 σ1 s1 E1 => p F1 H1 [] .non (s1.part (fun _ h => h) fun b hb => nomatch hb) (.fz .non)
    | rt o e =>
      rw [z] at p
      exact fun F1 H1 f1 q1 σ1 v s1 E1 h1 d1 => p F1 H1 q1 v (s1.part (fun _ h => h) fun b hb => List.mem_append_right _ hb) h1
    | ex x e =>
      rw [z] at p
      exact fun F1 H1 f1 σ1 cls d s1 E1 xr => p F1 H1 cls d (s1.part (fun _ h => h) fun b hb => nomatch hb) xr
theorem Src.knO (S : Src c.K mg x qual st ps) (sc : FnScope N ps (defScope st))
    (body : ∀ (f : Addr) (cdv : Value) (A : Around) (outer : List Env) (s : Shared) (H : Hp) (E : XK), Quiet (A.deeper (envOfC qual (defScope st) s.heap.objs.size f cdv)) → Room k (A.deeper (envOfC qual (defScope st) s.heap.objs.size f cdv)) →
      DSs (cxOf (L2.CX P w) P w c.K mg base N qual (defScope st) f cdv A outer s H E) c .non (fun cls d _ H => E cls d H) (defBody st) g) :
    KnO P w mg base c (k + 1) x ps.length (defSemO N.length ps.length g) := by
  obtain ⟨f, fd, F, hm, hb⟩ := S.ex
  exact ⟨f, fd, ps, defPO F sc fun cdv A outer s H E gq r => body f cdv A outer s H E gq r, hm, F.kp, hb⟩
theorem KnO.up (h : KnO P w mg base c j x n φ) (hjk : j ≤ k) : KnO P w mg base c k x n φ := by
  obtain ⟨f, fd, ps, F, r⟩ := h.ex
  exact ⟨f, fd, ps, F.up hjk, r⟩
def neverO : List O → Res := fun _ => .no
theorem Src.neverO (S : Src c.K mg x qual st ps) : KnO P w mg base c k x n DL.neverO := by
  obtain ⟨f, fd, F, hm, hb⟩ := S.ex
  refine ⟨f, fd, ps, .never fun vs H Q E h => ?_, hm, F.kp, hb⟩
  obtain ⟨_, _, _, _, _, _, z⟩ := h
  exact z
end
/-! ### x = e, and the thing stands still from now on -/
def sSetF (i : Nat) (f : En → Out Rv) : SS := fun e => (f e).so fun r e1 => match own e1 r with
  | none => .no
  | some (o, e2) => .nx (e2.put i (.fz o.val))
theorem put_put {e : En} {i : Nat} {o o' : O} : (e.put i o).put i o' = e.put i o' := by
  unfold En.put
  simp [List.set_set]
theorem ds_frz {X : Cx} {c : Cs} {mv : V} {W : WX} {st : Stmt} {i : Nat} {f : En → Out Rv} (h : DS X c mv W st (sSet i f)) : DS X c mv W st (sSetF i f) :=
  ps_imp h fun D σ H ⟨F, fp, e, s, E, p⟩ => ⟨F, fp, e, s, E, by
    unfold sSetF at p
    unfold sSet
    cases z : f e with
    | no => rw [z] at p; exact p
    | ex x e1 => rw [z] at p; exact p
    | ok r e1 =>
      rw [z] at p
      simp only [Out.so] at p ⊢
      cases z2 : own e1 r with
      | none => rw [z2] at p; exact p.elim
      | some y =>
        obtain ⟨o, e2⟩ := y
        rw [z2] at p
        intro F1 H1 f1 σ1 s1 E1
        by_cases hi : i < e2.sl.length
        · have hs : (e2.put i o).sl[i]? = some (some (.ow o)) := by
            show (e2.sl.set i (some (.ow o)))[i]? = _
            exact List.getElem?_set_self hi
          obtain ⟨v, _, _, hv, _⟩ := E1.take hs
          obtain ⟨F2, f2, s2, _, E2, m2⟩ := E1.frz s1.fh hs hv
          rw [put_put] at E2
          exact p F2 H1 f2 σ1 (s1.trans s2) E2
        · have same : ∀ o' : O, e2.put i o' = e2 := fun o' => by
            unfold En.put
            rw [List.set_eq_of_length_le (Nat.le_of_not_lt hi)]
          have E1' : EnvR c mv F1 H1 f1 σ1 (e2.put i (.fz o.val)) := by rw [same]; rw [same] at E1; exact E1
          exact p F1 H1 f1 σ1 s1 E1'⟩
theorem sSetF_k {i : Nat} {f : En → Out Rv} {sl : List (Option Sl)} {me : O} : sSetF i f ⟨sl, me⟩ = ((f ⟨sl, me⟩).so fun r e1 => match own e1 r with
  | none => .no
  | some (o, e2) => .nx (e2.put i (.fz o.val))) := id rfl
end DL

set_option Elab.async false
set_option linter.all false
set_option maxRecDepth 100000
set_option maxHeartbeats 2000000
/-! DL, part Y: more of what a reading does, one step each. -/
namespace DL
open PySem L2 PySem.Spec PyProof.Rows
section
variable {sl : List (Option Sl)} {me : O} {i j k m n : Nat} {f g h : En → Out Rv} {fa : En → Out (List Rv)} {o : O} {os : List O} {d : D} {ds : List D} {r : Rv} {rs : List Rv} {e : En}
theorem eCallO_k {φ : List O → Res} : eCallO φ fa ⟨sl, me⟩ = ((fa ⟨sl, me⟩).bind fun rs e1 => match ownAll e1 rs with
  | none => .no
  | some (os, e2) => match φ os with
    | .ok o => .ok (.tm o) e2
    | .ex x => .ex x e2
    | .no => .no) := id rfl
theorem sTry_k {g k : SS} {tab : Str → Option Bool} : sTry g tab i k ⟨sl, me⟩ = (match g ⟨sl, me⟩ with
  | .ex x e1 => match tab x.c with
    | some true => (k (e1.put i (.fz x.val))).gone i
    | some false => .ex x e1
    | none => .no
  | r => r) := id rfl
theorem sRaise_k {n : Str} : sRaise n ⟨sl, me⟩ = .ex ⟨n, []⟩ ⟨sl, me⟩ := id rfl
theorem eChain_k {p p' : Int → Int → Bool} : eChain p p' f g h ⟨sl, me⟩ = ((two f g ⟨sl, me⟩).bind fun rs e1 => match lookAll e1 rs with
  | some [.int i, .int j] => match p i j with
    | false => .ok (.tm (.fz (.bl false))) e1
    | true => (h e1).bind fun r e2 => match look e2 r with
      | some (.int k) => .ok (.tm (.fz (.bl (p' j k)))) e2
      | _ => .no
  | _ => .no) := id rfl
theorem itEnum_k : itEnum f ⟨sl, me⟩ = ((f ⟨sl, me⟩).bind fun r e1 => match fix e1 r with
  | some (.lst ds, e2) => .ok (enumD ds) e2
  | _ => .no) := id rfl
theorem eLM_k {φ : List D → Option D} : eLM φ f g ⟨sl, me⟩ = ((f ⟨sl, me⟩).bind fun r e1 => if isL (treeOf e1 r) then (g e1).bind fun r2 e2 => match look e2 r, look e2 r2 with
    | some a, some y => match φ [a, y] with
      | some d => .ok (.tm (.fz d)) e2
      | none => .no
    | _, _ => .no
  else .no) := id rfl
theorem isL_lst_k : isL (some (.lst os)) = true := id rfl
theorem isL_fz_k : isL (some (.fz (.lst ds))) = true := id rfl
theorem eDisp_k {ks : List Str} : eDisp ks ds ⟨sl, me⟩ = .ok (.tm (.dK (keyed ks) (ds.map .fz))) ⟨sl, me⟩ := id rfl
theorem eWix_k {tab : Str → Option D} : eWix tab f ⟨sl, me⟩ = (eV (fun ds => match ds with
  | [.str z] => tab z
  | _ => none) (aCons f aNil)) ⟨sl, me⟩ := id rfl
theorem sRetT_k : sRetT fa ⟨sl, me⟩ = ((fa ⟨sl, me⟩).so fun rs e1 => match giveAll e1 rs with
  | none => .no
  | some (os, e2) => if os.length ≤ 1000 then .rt (.tup os) e2 else .no) := id rfl
theorem giveAll_nil_k : giveAll ⟨sl, me⟩ [] = some ([], ⟨sl, me⟩) := id rfl
theorem giveAll_cons_k : giveAll ⟨sl, me⟩ (r :: rs) = (match give ⟨sl, me⟩ r with
    | none => none
    | some (o, e1) => match giveAll e1 rs with
      | none => none
      | some (os, e2) => some (o :: os, e2)) := id rfl
theorem tupAt_k : En.tupAt ⟨sl, me⟩ i = (match sl[i]? with
  | some (some (.ow (.tup os))) => some os
  | _ => none) := id rfl
theorem eIsiIt_k {T : Option String} {tab : Str → Option Bool} : eIsiIt T tab i k ⟨sl, me⟩ = (match En.tupAt ⟨sl, me⟩ i with
  | some os => match os[k]? with
    | some o => match isiD T tab [o.val] with
      | some d => .ok (.tm (.fz d)) ⟨sl, me⟩
      | none => .no
    | none => .no
  | none => .no) := id rfl
theorem sAppIt_k : sAppIt i k f ⟨sl, me⟩ = (match En.tupAt ⟨sl, me⟩ i with
  | some os0 => match os0[k]? with
    | some (.lst _) => (f ⟨sl, me⟩).so fun r e1 => match own e1 r with
      | none => .no
      | some (o, e2) => match e2.tupAt i with
        | some os => match os[k]? with
          | some (.lst ys) => if ys.length < 1000000 then .nx (e2.put i (.tup (os.set k (.lst (ys ++ [o]))))) else .no
          | _ => .no
        | none => .no
    | _ => .no
  | none => .no) := id rfl
theorem sPar_k : sPar i j fa ⟨sl, me⟩ = ((fa ⟨sl, me⟩).so fun rs e1 => match fixAll e1 rs with
  | some ([d1, d2], e2) => .nx ((e2.put i (.fz d1)).put j (.fz d2))
  | _ => .no) := id rfl
theorem defSemO_k {g : SS} : defSemO m n g os = (match g ⟨os.map (fun o => some (.ow o)) ++ List.replicate (m - n) none, .fz .non⟩ with
  | .rt o _ => .ok o
  | .nx _ => .ok (.fz .non)
  | .ex x _ => .ex x
  | _ => .no) := id rfl
theorem gone_nx_k : (SO.nx e).gone i = .nx (e.hole i) := id rfl
theorem gone_rt_k : (SO.rt o e).gone i = .rt o (e.hole i) := id rfl
theorem bind_no_k {α β : Type} {k : α → En → Out β} : (Out.no : Out α).bind k = .no := id rfl
theorem so_no_k {α : Type} {k : α → En → SO} : (Out.no : Out α).so k = .no := id rfl
theorem then_no_k {k : En → SO} : SO.no.then k = .no := id rfl
theorem val_tup_k : (O.tup os).val = .tup false (vals os) := id rfl
theorem xval_k {x : XD} : x.val = .exc x.c (x.fs.map (·.1)) (x.fs.map (·.2)) := id rfl
end
end DL

set_option Elab.async false
set_option linter.all false
set_option maxRecDepth 100000
set_option maxHeartbeats 2000000
/-! DL, part Z: dicts whose keys are tuples; any; calls that only look. -/
namespace DL
open PySem L2 PySem.Spec PyProof.Rows
section
variable {X : Cx} {c : Cs} {mv : V} {W : WX}
def keysD : List D → Option (List Key)
  | [] => some []
  | d :: ds => match keyD d with
    | none => none
    | some k => (keysD ds).map (k :: ·)
def keyT : D → Option (List Key)
  | .tup false ds => keysD ds
  | _ => none
theorem keys_V {F : Hp} : ∀ {vs : List V} {ds : List D} {k : List Key}, FzAll c F vs ds → keysD ds = some k → vs = k.map kV
  | _, _, k, .nil, e => by cases e; rfl
  | _, d :: ds, k, .cons h r, e => by
    unfold keysD at e
    cases z : keyD d with
    | none => rw [z] at e; cases e
    | some k0 =>
      rw [z] at e
      cases z2 : keysD ds with
      | none => rw [z2] at e; cases e
      | some ks =>
        rw [z2] at e
        cases e
        rw [List.map_cons, key_V h z, keys_V r z2]
theorem keyT_V {F : Hp} {v : V} {d : D} {k : List Key} (h : Fz c F v d) (e : keyT d = some k) : ∃ b, v = .ref b ∧ F b = some (.tup (k.map kV)) := by
  cases h with
  | @tup a xs kk ds hs hk ha =>
    cases kk with
    | true => cases e
    | false =>
      have := keys_V ha (show keysD ds = some k from e)
      subst this
      exact ⟨a, rfl, hk.2 rfl⟩
  | _ => cases e
def lookOT (o : O) (k : List Key) : Option (Option D) := match o with
  | .fz (.dT ks ds) => some (lookL ks ds k)
  | .dT ks os => match lookL ks os k with
    | none => some none
    | some (.fz d) => some (some d)
    | _ => none
  | _ => none
theorem lookOT_ok {F H : Hp} {fp : List Addr} {v : V} {o : O} {k : List Key} {r : Option D} (s : Sub F H) (h : Ow c F H fp v o) (e : lookOT o k = some r) : ∃ a kvs, v = .ref a ∧ Rd H a (.dT kvs) ∧ (∀ d, r = some d → ∃ u, valV kvs k = some u ∧ Fz c F u d) ∧ (r = none → valV kvs k = none) := by
  cases h with
  | fz h =>
    cases h with
    | @dT a kvs ks ds ha hk hz =>
      subst hk
      have e' : lookL (kvs.map (·.1)) ds k = r := Option.some.inj e
      obtain ⟨i1, i2⟩ := look_fz (k := k) hz
      exact ⟨a, kvs, rfl, s.rd ha, fun d q => i1 d (e'.trans q), fun q => i2 (e'.trans q)⟩
    | _ => cases e
  | @dT a fl kvs ks os ha hF hn hk hz =>
    subst hk
    obtain ⟨i1, i2⟩ := look_ow (k := k) hz
    unfold lookOT at e
    simp only at e
    refine ⟨a, kvs, rfl, .inl ha, ?_⟩
    split at e
    · rename_i q
      cases e
      exact ⟨fun d z => (nomatch z), fun _ => i2 q⟩
    · rename_i d q
      cases e
      exact ⟨fun d' z => by cases z; exact i1 d q, fun z => nomatch z⟩
    · cases e
  | _ => cases e
def isDt (o : Option O) : Bool := match o with
  | some (.fz (.dT _ _)) => true
  | some (.dT _ _) => true
  | _ => false
theorem isDt_ok {F H : Hp} {fp : List Addr} {v : V} {o : O} (s : Sub F H) (h : Ow c F H fp v o) (e : isDt (some o) = true) : ∃ a kvs, v = .ref a ∧ Rd H a (.dT kvs) := by
  cases h with
  | fz h =>
    cases h with
    | dT ha hk hz => exact ⟨_, _, rfl, s.rd ha⟩
    | _ => cases e
  | dT ha hF hn hk hz => exact ⟨_, _, rfl, .inl ha⟩
  | _ => cases e
/-- k in d, k not in d -/
def eInT (neg : Bool) (f g : En → Out Rv) : En → Out Rv := fun e => (two f g e).bind fun rs e1 => match rs with
  | [rk, rd] => match look e1 rk with
    | none => .no
    | some kd => match keyT kd with
      | none => .no
      | some k => match treeOf e1 rd with
        | none => .no
        | some o => match lookOT o k with
          | none => .no
          | some r => .ok (.tm (.fz (.bl (if neg then !r.isSome else r.isSome)))) e1
  | _ => .no
theorem inT_ok {neg : Bool} {f g : En → Out Rv} {σ : L2.St} {H : Hp} {Q : VK} (h : rd c mv (rvR c mv) W (eInT neg f g) σ H Q) :
    rd c mv (rvR c mv) W f σ H fun y H1 => rd c mv (rvR c mv) W g σ H1 fun x H2 => ∃ a o, x = .ref a ∧ DGet H2 a y o ∧ Q (.bl (if neg then !o.isSome else o.isSome)) H2 :=
  two_ok (R := fun y x H2 Q => ∃ a o, x = .ref a ∧ DGet H2 a y o ∧ Q (.bl (if neg then !o.isSome else o.isSome)) H2) h fun F H fp fq e v w rs s E rr d p => by
    split at p
    · rename_i rk rd
      cases rr with
      | cons h1 h2 =>
        cases h2 with
        | cons h2 h3 =>
          cases h3
          cases z1 : look e rk with
          | none => rw [z1] at p; exact p.elim
          | some kd =>
            rw [z1] at p
            simp only at p
            cases z2 : keyT kd with
            | none => rw [z2] at p; exact p.elim
            | some k =>
              rw [z2] at p
              simp only at p
              obtain ⟨b, rfl, hb⟩ := keyT_V (look_ok s E h1 z1) z2
              cases z3 : treeOf e rd with
              | none => rw [z3] at p; exact p.elim
              | some o =>
                rw [z3] at p
                simp only at p
                obtain ⟨fo, ho⟩ := tree_ok E h2 z3
                cases z4 : lookOT o k with
                | none => rw [z4] at p; exact p.elim
                | some r =>
                  rw [z4] at p
                  obtain ⟨a, kvs, rfl, ha, i1, i2⟩ := lookOT_ok s ho z4
                  have er : (valV kvs k).isSome = r.isSome := by
                    cases r with
                    | none => rw [i2 rfl]; rfl
                    | some d => obtain ⟨u, hu, _⟩ := i1 d rfl; rw [hu]; rfl
                  refine ⟨a, valV kvs k, rfl, (.inr ⟨kvs, k, b, ha, rfl, hb, rfl⟩), ?_⟩
                  rw [er]
                  exact Po.fz s E .bl (fun b hb => List.mem_append_left _ hb) p
    · exact p.elim
theorem de_inT {a b : Expr} {f g : En → Out Rv} {pos : Pos} {k : Nat} (r : Room k X.A) (ha : DE X c mv W a f) (hb : DE X c mv W b g) (hm : behindInMarks .In b = false := by rfl) : DE X c mv W (.Compare a [.In] [b] pos) (eInT false f g) :=
  pe_imp (pe_cmp (pc_din (hu_of r) ha hb) hm) fun σ H Q h => inT_ok h
theorem dt_inT {a b : Expr} {f g : En → Out Rv} {pos : Pos} {k : Nat} (r : Room k X.A) (ha : DE X c mv W a f) (hb : DE X c mv W b g) (he : ∀ whole, isTrue (.Compare a [.In] [b] pos) X.env whole = (do let v ← whole; standAt pos; holding [v] (truthy v)) := by intro _; rfl) (hm : behindInMarks .In b = false := by rfl) :
    DT X c mv W (.Compare a [.In] [b] pos) (tOf (eInT false f g)) := dt_val (de_inT r ha hb hm) he

/-! ### d.get(k, x), d[k] = v, {} -/
def eGet2T (f g h : En → Out Rv) : En → Out Rv := fun e => (f e).bind fun r e1 => if isDt (treeOf e1 r) then (g e1).bind fun rk e2 => match fix e2 rk with
    | none => .no
    | some (kd, e2') => match keyT kd with
      | none => .no
      | some k => (h e2').bind fun rx e3 => match fix e3 rx with
        | none => .no
        | some (dx, e4) => match treeOf e4 r with
          | none => .no
          | some o => match lookOT o k with
            | none => .no
            | some none => .ok (.tm (.fz dx)) e4
            | some (some d) => .ok (.tm (.fz d)) e4
  else .no
theorem de_get2T {o a b : Expr} {f g h : En → Out Rv} {apos cpos : Pos} {k : Nat} (r : Room k X.A) (ho : DE X c mv W o f) (ha : DE X c mv W a g) (hb : DE X c mv W b h) (m : M2 X o "get" apos a b cpos) : DE X c mv W (.Call (.Attribute o "get" apos) [a, b] [] cpos) (eGet2T f g h) :=
  pe_imp (pe_dget2 (hu_of r) ho ha hb m) fun σ H Q h => by
    obtain ⟨F, fp, e, s, E, p⟩ := h
    refine ⟨F, fp, e, s, E, Po.seq (R1 := rvR c mv) p fun r1 e1 F1 H1 f1 q1 v _ s1 E1 rr1 d1 p1 => ?_⟩
    split at p1
    · rename_i hd
      cases zt : treeOf e1 r1 with
      | none => rw [zt] at hd; cases hd
      | some o1 =>
        rw [zt] at hd
        obtain ⟨fo, ho1⟩ := tree_ok E1 rr1 zt
        obtain ⟨a1, kvs1, rfl, ha1⟩ := isDt_ok s1.fh ho1 hd
        refine ⟨a1, rfl, .inr ⟨kvs1, ha1⟩, F1, f1, e1, s1.fh, E1, ?_⟩
        refine Po.seqS (R1 := rvR c mv) p1 rr1.has fun rk e2 F2 H2 f2 q2 w _ s2 E2 rr2 d2 p2 => ?_
        cases z1 : fix e2 rk with
        | none => rw [z1] at p2; exact p2.elim
        | some y =>
          obtain ⟨kd, e2'⟩ := y
          rw [z1] at p2
          simp only at p2
          have r12 := rr1.stp s2 d1
          have ap := s2.apart (fun b hb => (rr1.has b hb).2) d1
          obtain ⟨F2', f2', s2', kz, E2', m2'⟩ := fix_ok s2.fh E2 rr2 d2 z1
          have r12' := r12.stp s2' fun b hb z => ap b hb z
          cases z2 : keyT kd with
          | none => rw [z2] at p2; exact p2.elim
          | some k =>
            rw [z2] at p2
            simp only at p2
            obtain ⟨bk, rfl, hbk⟩ := keyT_V kz z2
            have p2' := Po.step p2 (s2'.more (fq := q1) fun b hb => (r12.has b hb).2)
            have dis : ∀ b ∈ q1, b ∉ f2' := fun b hb z => ap b hb (List.mem_append_left _ (m2' b z))
            refine ⟨F2', f2', e2', s2'.fh, E2', Po.seqS (R1 := rvR c mv) p2' r12'.has fun rx e3 F3 H3 f3 q3 x _ s3 E3 rr3 d3 p3 => ?_⟩
            have r13 := r12'.stp s3 dis
            have ap3 := s3.apart (fun b hb => (r12'.has b hb).2) dis
            cases z3 : fix e3 rx with
            | none => rw [z3] at p3; exact p3.elim
            | some y =>
              obtain ⟨dx, e4⟩ := y
              rw [z3] at p3
              simp only at p3
              obtain ⟨F4, f4, s4, k4, E4, m4⟩ := fix_ok s3.fh E3 rr3 d3 z3
              have r14 := r13.stp s4 ap3
              cases z5 : treeOf e4 r1 with
              | none => rw [z5] at p3; exact p3.elim
              | some o2 =>
                rw [z5] at p3
                simp only at p3
                obtain ⟨fo2, ho2⟩ := tree_ok E4 r14 z5
                cases z6 : lookOT o2 k with
                | none => rw [z6] at p3; exact p3.elim
                | some res =>
                  rw [z6] at p3
                  obtain ⟨a2, kvs2, e2', ha2, l1, l2⟩ := lookOT_ok s4.fh ho2 z6
                  cases e2'
                  refine ⟨valV kvs2 k, (.inr ⟨kvs2, k, bk, ha2, rfl, s3.fh _ _ (s3.ff _ _ hbk), rfl⟩), ?_⟩
                  have p4 := Po.step p3 (s4.more (fq := q1) fun b hb => (r13.has b hb).2)
                  have sub : ∀ b ∈ f4, b ∈ f4 ++ q1 := fun b hb => List.mem_append_left _ hb
                  cases res with
                  | none => rw [l2 rfl]; exact Po.fz s4.fh E4 k4 sub p4
                  | some d =>
                    obtain ⟨u, hu, hz⟩ := l1 d rfl
                    rw [hu]
                    exact Po.fz s4.fh E4 hz sub p4
    · exact p1.elim
def isDtOwn (e : En) (i : Nat) : Bool := match e.sl[i]? with
  | some (some (.ow (.dT _ _))) => true
  | _ => false
def sPutT (i : Nat) (fv fk : En → Out Rv) : SS := fun e => (fv e).so fun r e1 => if isDtOwn e1 i then (fk e1).so fun rk e2 => match look e2 rk with
    | none => .no
    | some kd => match keyT kd with
      | none => .no
      | some k => match fix e2 r with
        | none => .no
        | some (d, e3) => match e3.sl[i]? with
          | some (some (.ow (.dT ks os))) => if ks.length < 1000000 then .nx (e3.put i (.dT (putKs ks k) (putOs ks os k (.fz d)))) else .no
          | _ => .no
  else .no
theorem ds_putT {i : Nat} {x : Str} {a b : Expr} {fv fk : En → Out Rv} {px pos' pos : Pos} {k : Nat} (r : Room k X.A) (hN : X.N[i]? = some x) (hv : Vis X.env.scope x) (ha : DE X c mv W a fv) (hb : DE X c mv W b fk) (hd : (x == ("__debug__" : Str)) = false := by decide)
    (hcd : (x == ("__classdict__" : Str)) = false := by decide) (hs : swapsWith a (some (.Subscript (.Name x px) b pos')) pos.line X.env = pure false := by rfl) :
    DS X c mv W (.Assign [.Subscript (.Name x px) b pos'] a pos) (sPutT i fv fk) := by
  refine ps_imp (ps_dput (hu_of r) (pe_var hN hv hd hcd) hb ha hs) fun D σ H h => ?_
  refine then_ok (R := rvR c mv) (c := c) (mv := mv) (W := W) (D := D) h fun F1 H1 f1 q1 e1 y r s1 E1 r1 d1 p1 => ?_
  split at p1
  · rename_i hl
    obtain ⟨w, hσ⟩ : ∃ w, σ[i]? = some (some w) := by
      unfold isDtOwn at hl
      split at hl
      · rename_i ks os q
        obtain ⟨v, fo, fr, hv', _⟩ := E1.take q
        exact ⟨v, hv'⟩
      · cases hl
    refine ⟨w, hσ, ?_⟩
    show rd c mv (rvR c mv) W fk σ H1 _
    refine then2_ok (R := rvR c mv) s1 E1 r1.has p1 fun F2 H2 f2 q2 e2 u rk s2 E2 r2' d2 p2 => ?_
    have ap := s2.apart (fun b hb => (r1.has b hb).2) d1
    cases z1 : look e2 rk with
    | none => rw [z1] at p2; exact p2.elim
    | some kd =>
      rw [z1] at p2
      simp only at p2
      cases z2 : keyT kd with
      | none => rw [z2] at p2; exact p2.elim
      | some k =>
        rw [z2] at p2
        simp only at p2
        obtain ⟨bk, rfl, hbk⟩ := keyT_V (look_ok s2.fh E2 r2' z1) z2
        cases z : fix e2 r with
        | none => rw [z] at p2; exact p2.elim
        | some yy =>
          obtain ⟨d, e3⟩ := yy
          rw [z] at p2
          simp only at p2
          obtain ⟨F3, f3, s3, k3, E3, m3⟩ := fix_ok s2.fh E2 (r1.stp s2 d1) (fun b hb z => ap b hb (List.mem_append_left _ z)) z
          split at p2
          · rename_i ks os hq
            split at p2
            · rename_i hsz
              obtain ⟨v', fo, fr, hv', ho, E4, d4, g4⟩ := E3.take hq
              rw [hσ] at hv'; cases hv'
              cases ho with
              | @dT l fl kvs _ _ hH hF hn hk hall =>
                subst hk
                rw [List.length_map] at hsz
                refine ⟨l, _, rfl, DPut.t (k := k) hH hbk (Nat.lt_of_lt_of_le hsz (by decide)), ?_⟩
                obtain ⟨f5, k5, m5⟩ := putK_ow (k := k) k3 hall
                have st1 : Stp F3 H2 [l] F3 (upd H2 l (.dT (putK kvs k y))) [l] := Stp.chg s3.fh (List.mem_singleton.mpr rfl) hF
                have nl : ∀ b ∈ f5, b ∉ [l] := fun b hb z => by
                  rw [List.mem_singleton] at z; subst z
                  exact hn (m5 _ hb)
                have p3 := PoS.step p2 ((s3.part (fp2 := f3) (fq := (f2 ++ q2) ++ q1) (fun b hb => by
                  rcases List.mem_append.mp hb with h | h
                  · exact List.mem_append_left _ (List.mem_append_left _ h)
                  · exact List.mem_append_right _ h) fun _ h => h))
                refine chg_ok (fp := f3) (fo := f5) s3.fh hσ E4 hF (by rw [hH]; intro q; cases q) (d4 l List.mem_cons_self) (fun b hb z => d4 b (List.mem_cons_of_mem _ (m5 b hb)) z) (.dT upd_same hF (fun z => hn (m5 _ z)) putK_fst (st1.owAll k5 nl)) (fun b hb => ?_) p3
                rcases hb with h | h | h
                · exact (g4 b).mpr (.inr h)
                · subst h; exact (g4 _).mpr (.inl List.mem_cons_self)
                · exact (g4 b).mpr (.inl (List.mem_cons_of_mem _ (m5 b h)))
            · exact p2.elim
          · exact p2.elim
  · exact p1.elim
def eNewT : En → Out Rv := fun e => .ok (.tm (.dT [] [])) e
theorem de_newT {pos : Pos} : DE X c mv W (.Dict [] [] pos) eNewT :=
  pe_imp pe_dnewT fun σ H Q ⟨F, fp, e, s, E, p⟩ a ha => by
    have Fa : F a = none := by
      cases q : F a with
      | none => rfl
      | some u => have := s a u q; rw [ha] at this; cases this
    have st : Stp F H fp F (upd H a (.dT [])) (a :: fp) := Stp.lay s ha fun _ h => h
    refine p F _ fp [a] _ (st.part (fun _ h => h) fun b hb => ?_) (E.stp (Stp.lay (fp := []) (fq := []) s ha fun _ h => h) fun b hb z => nomatch z) (.tm (.dT (kvs := []) upd_same Fa (fun z => nomatch z) rfl .nil)) fun b hb z => ?_
    · rcases List.mem_append.mp hb with h | h
      · exact List.mem_cons_of_mem _ h
      · exact List.mem_cons.mpr (.inl (List.mem_singleton.mp h))
    · rw [List.mem_singleton] at hb
      subst hb
      exact (E.has b z).2 ha

/-! ### any, all of truths -/
def blsOf : List D → Option (List Bool)
  | [] => some []
  | .bl b :: ds => (blsOf ds).map (b :: ·)
  | _ => none
def anyD : List D → Option D
  | [.lst ds] => (blsOf ds).map fun bs => .bl (bs.any id)
  | _ => none
def allD : List D → Option D
  | [.lst ds] => (blsOf ds).map fun bs => .bl (bs.all id)
  | _ => none
theorem bls_V {F : Hp} : ∀ {vs : List V} {ds : List D} {bs : List Bool}, FzAll c F vs ds → blsOf ds = some bs → vs = bs.map V.bl
  | _, _, bs, .nil, e => by cases e; rfl
  | _, d :: ds, bs, .cons h r, e => by
    cases d with
    | bl b =>
      cases h
      have e' : (blsOf ds).map (b :: ·) = some bs := e
      cases q : blsOf ds with
      | none => rw [q] at e'; cases e'
      | some ms =>
        rw [q] at e'
        cases e'
        rw [bls_V r q]
        rfl
    | _ => cases e
theorem de_any {a : Expr} {f : En → Out (List Rv)} {p pos : Pos} (hK : X.K = c.K) (hc : X.calm = true) (hm : X.mg "any" = none) (hg : Gl X "any") (ha : DA X c mv W [a] f) (he : starEach [a] X.env = (false, eval a X.env) :: starEach [] X.env := by rfl) :
    DE X c mv W (.Call (.Name "any" p) [a] [] pos) (eV anyD f) :=
  de_callV (cr_any hc) (fun F H vs ds d Q s h e k => by
    rw [hK]
    unfold anyD at e
    split at e
    · rename_i ds
      cases h with
      | cons h1 h2 =>
        cases h2
        cases h1 with
        | @lst a xs _ hs ha =>
          cases q : blsOf ds with
          | none => rw [q] at e; cases e
          | some bs =>
            rw [q] at e
            cases e
            rw [bls_V ha q] at hs
            exact ⟨a, bs, rfl, hs, k _ fun _ => .bl⟩
    · cases e) hg hm (by decide +kernel) ha (he := he)
theorem de_all {a : Expr} {f : En → Out (List Rv)} {p pos : Pos} (hK : X.K = c.K) (hc : X.calm = true) (hm : X.mg "all" = none) (hg : Gl X "all") (ha : DA X c mv W [a] f) (he : starEach [a] X.env = (false, eval a X.env) :: starEach [] X.env := by rfl) :
    DE X c mv W (.Call (.Name "all" p) [a] [] pos) (eV allD f) :=
  de_callV (cr_all hc) (fun F H vs ds d Q s h e k => by
    rw [hK]
    unfold allD at e
    split at e
    · rename_i ds
      cases h with
      | cons h1 h2 =>
        cases h2
        cases h1 with
        | @lst a xs _ hs ha =>
          cases q : blsOf ds with
          | none => rw [q] at e; cases e
          | some bs =>
            rw [q] at e
            cases e
            rw [bls_V ha q] at hs
            exact ⟨a, bs, rfl, hs, k _ fun _ => .bl⟩
    · cases e) hg hm (by decide +kernel) ha (he := he)

/-! ### a call that only looks: what it tells is small -/
def smallD : D → Bool
  | .non => true
  | .bl _ => true
  | .int _ => true
  | .str _ => true
  | _ => false
theorem small_fz {F G : Hp} {v : V} {d : D} (h : Fz c F v d) (e : smallD d = true) : Fz c G v d := by
  cases h with
  | non => exact .non
  | bl => exact .bl
  | int => exact .int
  | str => exact .str
  | _ => cases e
def eLook (φ : List D → Res) (f : En → Out (List Rv)) : En → Out Rv := fun e => (f e).bind fun rs e1 => match lookAll e1 rs with
  | none => .no
  | some ds => match φ ds with
    | .ok (.fz d) => if smallD d then .ok (.tm (.fz d)) e1 else .no
    | _ => .no
theorem de_look {x : Str} {p pos : Pos} {a : Expr} {es : List Expr} {f : En → Out (List Rv)} {k n : Nat} {φ : List D → Res} (hK : X.K = c.K) (G : Kn X.prog X.w X.mg X.base c k x n φ) (g : Quiet X.A) (r : Room k X.A) (tk : Takes X W) (ha : DA X c mv W (a :: es) f) (hn : Many n f) (hg : Gl X x)
    (hdb : (x == ("__debug__" : Str)) = false := by decide) (he : starEach (a :: es) X.env = (false, eval a X.env) :: starEach es X.env := by rfl) (hpl : (backTo pos (starEach es X.env)).any (·.1) = false := by rfl) :
    DE X c mv W (.Call (.Name x p) (a :: es) [] pos) (eLook φ f) := by
  obtain ⟨fa, fd, ps, F, hm, hk, hb⟩ := G.ex
  rw [← hK] at F hk hb
  refine pe_imp (pe_callG F g r hg hm hk hb tk ha hdb he hpl) fun σ H Q h => ?_
  obtain ⟨F, fp, e, s, E, p⟩ := h
  refine ⟨F, fp, e, s, E, Po.seq (R1 := rvsR c mv) p fun rs e1 F1 H1 f1 q1 vs hq s1 E1 r1 d1 p1 => ?_⟩
  have hl : ∀ {fq : List Addr} {vs : List V} {rs : List Rv}, RvAll c mv F1 H1 σ fq vs rs → vs.length = rs.length := fun {fq vs rs} h => by
    induction h with
    | nil => rfl
    | cons _ _ _ ih => rw [List.length_cons, List.length_cons, ih]
  cases z : lookAll e1 rs with
  | none => rw [z] at p1; exact p1.elim
  | some ds =>
    rw [z] at p1
    simp only at p1
    refine ⟨(hl r1).trans (hn _ _ _ hq), H1, ds, Sub.refl _, lookAll_ok s1.fh E1 r1 z, ?_⟩
    cases z2 : φ ds with
    | no => rw [z2] at p1; exact p1.elim
    | ex x => rw [z2] at p1; exact p1.elim
    | ok o =>
      rw [z2] at p1
      cases o with
      | fz d =>
        simp only at p1
        cases zs : smallD d with
        | false => rw [zs] at p1; exact p1.elim
        | true =>
          rw [zs] at p1
          intro F2 H2 q2 v s2 h2
          have keep : ∀ b o, H1 b = some o → H2 b = some o := fun b o e => s2.keep b o e fun z => nomatch z
          have st : ∀ fr, Stp F1 H1 fr F1 H2 fr := fun fr => ⟨fun b o e => keep b o (s1.fh b o e), Sub.refl _, fun b o e _ => keep b o e, fun _ _ _ h _ => h, fun _ hb => .inl hb⟩
          exact Po.fz (st []).fh (E1.stp (st []) fun b hb z => nomatch z) (small_fz h2.out zs) (fun b hb => List.mem_append_left _ hb) (Po.step p1 (st (f1 ++ q1)))
      | _ => exact p1.elim
end
end DL

set_option Elab.async false
set_option linter.all false
set_option maxRecDepth 100000
set_option maxHeartbeats 2000000
/-! DL, part mA: a dict is walked by a comprehension: it is locked meanwhile. -/
namespace DL
open PySem L2 PySem.Spec PyProof.Rows
def isDict (u : HO) : Prop := (∃ kvs, u = .dK kvs) ∨ ∃ kvs, u = .dT kvs
def dlike (w : HO) : Prop := isDict w ∨ ∃ o u, w = .frz o u ∧ isDict u
/-- the same but for locks -/
structure Ren (F G : Hp) : Prop where
  st : ∀ a w, F a = some w → ¬ dlike w → G a = some w
  di : ∀ a u, isDict u → Rd F a u → Rd G a u
section
variable {c : Cs} {mv : V} {F G H H' : Hp} {d : Addr} {od : Obj} {u : HO}
theorem nd_tup {xs : List V} : ¬ dlike (.tup xs) := by
  rintro (h | ⟨o, u, h, _⟩)
  · rcases h with ⟨_, h⟩ | ⟨_, h⟩ <;> cases h
  · cases h
theorem nd_lst {xs : List V} : ¬ dlike (.lst xs) := by
  rintro (h | ⟨o, u, h, _⟩)
  · rcases h with ⟨_, h⟩ | ⟨_, h⟩ <;> cases h
  · cases h
theorem nd_ins {C dx : Addr} {fs : List (Str × V)} : ¬ dlike (.ins C dx fs) := by
  rintro (h | ⟨o, u, h, _⟩)
  · rcases h with ⟨_, h⟩ | ⟨_, h⟩ <;> cases h
  · cases h
theorem nd_xd {fs : List (Str × V)} : ¬ dlike (.xd fs) := by
  rintro (h | ⟨o, u, h, _⟩)
  · rcases h with ⟨_, h⟩ | ⟨_, h⟩ <;> cases h
  · cases h
theorem nd_ext {φ : Heap → Prop} : ¬ dlike (.ext φ) := by
  rintro (h | ⟨o, u, h, _⟩)
  · rcases h with ⟨_, h⟩ | ⟨_, h⟩ <;> cases h
  · cases h
theorem nd_ftup {o : Obj} {xs : List V} : ¬ dlike (.frz o (.tup xs)) := by
  rintro (h | ⟨o', u, h, h2⟩)
  · rcases h with ⟨_, h⟩ | ⟨_, h⟩ <;> cases h
  · cases h
    rcases h2 with ⟨_, h⟩ | ⟨_, h⟩ <;> cases h
theorem nd_flst {o : Obj} {xs : List V} : ¬ dlike (.frz o (.lst xs)) := by
  rintro (h | ⟨o', u, h, h2⟩)
  · rcases h with ⟨_, h⟩ | ⟨_, h⟩ <;> cases h
  · cases h
    rcases h2 with ⟨_, h⟩ | ⟨_, h⟩ <;> cases h
mutual
theorem Fz.ren (r : Ren F G) : ∀ {v : V} {x : D}, Fz c F v x → Fz c G v x
  | _, _, .non => .non
  | _, _, .bl => .bl
  | _, _, .int => .int
  | _, _, .str => .str
  | _, _, .tup h k q => .tup (by
      rcases h with (h | ⟨o, h⟩) | h
      · exact .inl (.inl (r.st _ _ h nd_tup))
      · exact .inl (.inr ⟨o, r.st _ _ h nd_ftup⟩)
      · exact .inr h) ⟨fun e => let ⟨o, p, z⟩ := k.1 e; ⟨o, r.st _ _ p nd_ftup, z⟩, fun e => r.st _ _ (k.2 e) nd_tup⟩ (FzAll.ren r q)
  | _, _, .lst h q => .lst (by
      rcases h with (h | ⟨o, h⟩) | h
      · exact .inl (.inl (r.st _ _ h nd_lst))
      · exact .inl (.inr ⟨o, r.st _ _ h nd_flst⟩)
      · exact .inr h) (FzAll.ren r q)
  | _, _, .dK h e q => .dK (r.di _ _ (.inl ⟨_, rfl⟩) h) e (FzAll.ren r q)
  | _, _, .dT h e q => .dT (r.di _ _ (.inr ⟨_, rfl⟩) h) e (FzAll.ren r q)
  | _, _, .obj k h e q => .obj k (r.st _ _ h nd_ins) e (FzAll.ren r q)
  | _, _, .exc k h z e q => .exc k (r.st _ _ h nd_ext) (z.imp id fun ⟨ne, dd, p, y⟩ => ⟨ne, dd, p, r.st _ _ y nd_xd⟩) e (FzAll.ren r q)
theorem FzAll.ren (r : Ren F G) : ∀ {vs : List V} {ds : List D}, FzAll c F vs ds → FzAll c G vs ds
  | _, _, .nil => .nil
  | _, _, .cons h q => .cons (Fz.ren r h) (FzAll.ren r q)
end
mutual
theorem Ow.ren (r : Ren F G) : ∀ {fp : List Addr} {v : V} {o : O}, Ow c F H fp v o → (∀ b ∈ fp, G b = none) → (∀ b ∈ fp, H' b = H b) → Ow c G H' fp v o
  | _, _, _, .fz h, _, _ => .fz (h.ren r)
  | _, _, _, .lst (a := a) h n z q, g, e => .lst ((e a List.mem_cons_self).trans h) (g a List.mem_cons_self) z (OwAll.ren r q (fun b hb => g b (List.mem_cons_of_mem _ hb)) fun b hb => e b (List.mem_cons_of_mem _ hb))
  | _, _, _, .dK (a := a) h n z k q, g, e => .dK ((e a List.mem_cons_self).trans h) (g a List.mem_cons_self) z k (OwAll.ren r q (fun b hb => g b (List.mem_cons_of_mem _ hb)) fun b hb => e b (List.mem_cons_of_mem _ hb))
  | _, _, _, .dT (a := a) h n z k q, g, e => .dT ((e a List.mem_cons_self).trans h) (g a List.mem_cons_self) z k (OwAll.ren r q (fun b hb => g b (List.mem_cons_of_mem _ hb)) fun b hb => e b (List.mem_cons_of_mem _ hb))
  | _, _, _, .obj (a := a) ca h n z k q, g, e => .obj ca ((e a List.mem_cons_self).trans h) (g a List.mem_cons_self) z k (OwAll.ren r q (fun b hb => g b (List.mem_cons_of_mem _ hb)) fun b hb => e b (List.mem_cons_of_mem _ hb))
  | _, _, _, .tup h q, g, e => .tup (r.st _ _ h nd_tup) (OwAll.ren r q g e)
theorem OwAll.ren (r : Ren F G) : ∀ {fp : List Addr} {vs : List V} {os : List O}, OwAll c F H fp vs os → (∀ b ∈ fp, G b = none) → (∀ b ∈ fp, H' b = H b) → OwAll c G H' fp vs os
  | _, _, _, .nil, _, _ => .nil
  | _, _, _, .cons h q z, g, e => .cons (Ow.ren r h (fun b hb => g b (List.mem_append_left _ hb)) fun b hb => e b (List.mem_append_left _ hb)) (OwAll.ren r q (fun b hb => g b (List.mem_append_right _ hb)) fun b hb => e b (List.mem_append_right _ hb)) z
end
theorem SlR.ren (r : Ren F G) : ∀ {fp : List Addr} {σ : L2.St} {l : List (Option Sl)}, SlR c mv F H fp σ l → (∀ b ∈ fp, G b = none) → (∀ b ∈ fp, H' b = H b) → SlR c mv G H' fp σ l
  | _, _, _, .nil, _, _ => .nil
  | _, _, _, .hole q, g, e => .hole (SlR.ren r q g e)
  | _, _, _, .me q, g, e => .me (SlR.ren r q g e)
  | _, _, _, .ow h q z, g, e => .ow (Ow.ren r h (fun b hb => g b (List.mem_append_left _ hb)) fun b hb => e b (List.mem_append_left _ hb)) (SlR.ren r q (fun b hb => g b (List.mem_append_right _ hb)) fun b hb => e b (List.mem_append_right _ hb)) z
theorem EnvR.ren (r : Ren F G) {fp : List Addr} {σ : L2.St} {e : En} (E : EnvR c mv F H fp σ e) (g : ∀ b ∈ fp, G b = none) (q : ∀ b ∈ fp, H' b = H b) : EnvR c mv G H' fp σ e := by
  obtain ⟨fm, fs, h1, h2, h3, h4⟩ := E.ex
  exact ⟨fm, fs, h1.ren r (fun b hb => g b ((h4 b).mpr (.inl hb))) fun b hb => q b ((h4 b).mpr (.inl hb)), h2.ren r (fun b hb => g b ((h4 b).mpr (.inr hb))) fun b hb => q b ((h4 b).mpr (.inr hb)), h3, h4⟩
theorem isDict.ne_frz (hu : isDict u) {o : Obj} {w : HO} : u ≠ .frz o w := by
  rintro rfl
  rcases hu with ⟨_, h⟩ | ⟨_, h⟩ <;> cases h
theorem ren_lock (hd : F d = some u) (hu : isDict u) : Ren F (upd F d (.frz od u)) where
  st := fun a w h n => by
    have ne : a ≠ d := fun z => by subst z; rw [hd] at h; cases h; exact n (.inl hu)
    rw [upd_ne ne]; exact h
  di := fun a w hw h => by
    by_cases ne : a = d
    · subst ne
      rcases h with h | ⟨o, h⟩
      · rw [hd] at h; cases h
        exact .inr ⟨od, upd_same⟩
      · rw [hd] at h; cases h
        exact absurd rfl (hu.ne_frz)
    · exact h.imp (fun h => by rw [upd_ne ne]; exact h) fun ⟨o, h⟩ => ⟨o, by rw [upd_ne ne]; exact h⟩
theorem ren_unlock (hd : F d = some (.frz od u)) (hu : isDict u) : Ren F (upd F d u) where
  st := fun a w h n => by
    have ne : a ≠ d := fun z => by subst z; rw [hd] at h; cases h; exact n (.inr ⟨od, u, rfl, hu⟩)
    rw [upd_ne ne]; exact h
  di := fun a w hw h => by
    by_cases ne : a = d
    · subst ne
      rcases h with h | ⟨o, h⟩
      · rw [hd] at h; cases h
        exact absurd rfl (hw.ne_frz)
      · rw [hd] at h; cases h
        exact .inl upd_same
    · exact h.imp (fun h => by rw [upd_ne ne]; exact h) fun ⟨o, h⟩ => ⟨o, by rw [upd_ne ne]; exact h⟩
/-- what holds ahead of the lock, behind it -/
theorem lock_in {fp : List Addr} {σ : L2.St} {e : En} (s : Sub F H) (E : EnvR c mv F H fp σ e) (hd : F d = some u) (hu : isDict u) : Sub (upd F d (.frz od u)) (upd H d (.frz od u)) ∧ EnvR c mv (upd F d (.frz od u)) (upd H d (.frz od u)) fp σ e := by
  have ne : ∀ b ∈ fp, b ≠ d := fun b hb z => by subst z; rw [(E.has _ hb).1] at hd; cases hd
  refine ⟨fun b w h => ?_, E.ren (ren_lock hd hu) (fun b hb => by rw [upd_ne (ne b hb)]; exact (E.has b hb).1) fun b hb => upd_ne (ne b hb)⟩
  by_cases q : b = d
  · subst q; rw [upd_same] at h ⊢; exact h
  · rw [upd_ne q] at h ⊢; exact s b w h
theorem lock_out {F2 H2 : Hp} {fp fp' : List Addr} (s : Sub F H) (hd : F d = some u) (hp : ∀ b ∈ fp, F b = none ∧ H b ≠ none) (st : Stp (upd F d (.frz od u)) (upd H d (.frz od u)) fp F2 H2 fp') : F2 d = some (.frz od u) ∧ H2 d = some (.frz od u) ∧ Stp F H fp (upd F2 d u) (upd H2 d u) fp' := by
  have f2 : F2 d = some (.frz od u) := st.ff _ _ upd_same
  have h2 := st.fh _ _ f2
  have Hd := s _ _ hd
  refine ⟨f2, h2, ⟨fun b w h => ?_, fun b w h => ?_, fun b w h n => ?_, fun b h n q nt => ?_, fun b hb => ?_⟩⟩
  · by_cases q : b = d
    · subst q; rw [upd_same] at h ⊢; exact h
    · rw [upd_ne q] at h ⊢; exact st.fh b w h
  · by_cases q : b = d
    · subst q; rw [hd] at h; cases h; exact upd_same
    · rw [upd_ne q]; exact st.ff b w (by rw [upd_ne q]; exact h)
  · by_cases q : b = d
    · subst q; rw [Hd] at h; cases h; exact upd_same
    · rw [upd_ne q]; exact st.keep b w (by rw [upd_ne q]; exact h) n
  · have ne : b ≠ d := fun z => by subst z; rw [hd] at q; cases q
    rw [upd_ne ne]
    exact st.newF b (by rw [upd_ne ne]; exact h) n (by rw [upd_ne ne]; exact q) (by rw [upd_ne ne]; exact nt)
  · rcases st.newP b hb with q | q
    · exact .inl q
    · refine .inr ?_
      have ne : b ≠ d := fun z => by subst z; rw [upd_same] at q; cases q
      rwa [upd_ne ne] at q
end
section
variable {X : Cx} {c : Cs} {mv : V} {W : WX}
theorem comp_body {ts : List Nat} {g : TG} {t : TgS} {tt : En → Out Bool} {f : En → Out Rv} {vs : List Nat} {σ : L2.St} {Q : VK} (tok : TgOk c mv ts g t) (hts : ∀ j ∈ ts, j ∈ vs) {F1 H1 : Hp} {f1 : List Addr} {e1 : En} {J : It} {ds : List D}
    (s1 : Sub F1 H1) (E1 : EnvR c mv F1 H1 f1 σ e1) (wk : Walks c F1 J ds) (p1 : Po c mv (rvR c mv) W F1 H1 f1 σ ((cloop t tt f vs ds [] (e1.wipe vs)).bind fun os e2 => .ok (.tm (.lst os)) e2) Q) :
    ∀ D, H1 D = none → ∃ Wv : Nat → Nat → Hp → Prop, (∃ m, Wv 0 m (upd H1 D (.lst []))) ∧ ∀ i m H, Wv i m H →
      (J.stop i H ∧ Q (.ref D) H) ∨ (J.go i H ∧ ∃ Nx : Hp → Prop, (∀ H', Nx H' → ∃ m', m' < m ∧ Wv (i + 1) m' H') ∧ ∀ x H', J.yld i H x H' → g x (wipe σ vs) H' fun σ2 H2 => wipe σ2 vs = wipe σ vs ∧ rd c mv blR W0 tt σ2 H2 fun b H3 =>
        if b = true then rd c mv (rvR c mv) W0 f σ2 H3 fun y H4 => ∃ acc, H4 D = some (.lst acc) ∧ acc.length < sizeLine ∧ Nx (upd H4 D (.lst (acc ++ [y]))) else Nx H3) := by
  intro Dn hDn
  have F1D : F1 Dn = none := by
    cases q : F1 Dn with
    | none => rfl
    | some u => have := s1 Dn u q; rw [hDn] at this; cases this
  -- what holds between two turns
  let Iv : Nat → Hp → Prop := fun i H' => ∃ (F' : Hp) (fp' fq' : List Addr) (e' : En) (ws : List V) (acc : List O), Stp F1 H1 f1 F' H' (fp' ++ (Dn :: fq')) ∧ EnvR c mv F' H' fp' (wipe σ vs) (e'.wipe vs) ∧ H' Dn = some (.lst ws) ∧ OwAll c F' H' fq' ws acc ∧
    F' Dn = none ∧ Dn ∉ fp' ∧ Dn ∉ fq' ∧ (∀ b ∈ fq', b ∉ fp') ∧ Po c mv (rvR c mv) W F' H' (fp' ++ (Dn :: fq')) σ ((cloop t tt f vs (ds.drop i) acc (e'.wipe vs)).bind fun os e2 => .ok (.tm (.lst os)) e2) Q
  refine ⟨fun i m H' => m = ds.length - i ∧ i ≤ ds.length ∧ Iv i H', ⟨ds.length, by simp, Nat.zero_le _, ?_⟩, ?_⟩
  · obtain ⟨f2, E2, m2⟩ := E1.wipeS vs
    have st : Stp F1 H1 f1 F1 (upd H1 Dn (.lst [])) (f2 ++ [Dn]) := (Stp.lay s1 hDn m2).part (fun _ h => h) fun b hb => by
      rcases List.mem_append.mp hb with h | h
      · exact List.mem_cons_of_mem _ h
      · rw [List.mem_singleton] at h; subst h; exact List.mem_cons_self
    have st0 : Stp F1 H1 [] F1 (upd H1 Dn (.lst [])) [Dn] := Stp.lay s1 hDn fun _ h => h
    refine ⟨F1, f2, [], e1, [], [], st, E2.stp st0 (fun b hb z => nomatch z), upd_same, .nil, F1D, fun q => (E2.has _ q).2 hDn, (fun q => nomatch q), (fun b hb => nomatch hb), ?_⟩
    rw [List.drop_zero]
    exact Po.step p1 st
  · rintro i m H' ⟨rfl, hi', F', fp', fq', e', ws, acc, st, E', hD, ha, FD, n1, n2, dj, p'⟩
    have outE : ∀ {F2 H2 : Hp} {fp2 : List Addr} {e2 : En}, EnvR c mv F2 H2 fp2 (wipe σ vs) (e2.wipe vs) → EnvR c mv F2 H2 fp2 σ (e2.wipe vs) := fun {F2 H2 fp2 e2} r =>
      r.any (wipe_length σ vs).symm fun j x hx => (wipe_out (wipe_holes hx)).symm
    by_cases hlt : i < ds.length
    · refine .inr ⟨wk.go i H' ds[i] (st.ff.trans st.fh) (by simp [hlt]), Iv (i + 1), fun H2 h2 => ⟨ds.length - (i + 1), by omega, rfl, hlt, h2⟩, fun x H2 hy => ?_⟩
      obtain ⟨F2, s2, hz⟩ := wk.yld i F' H' ds[i] x H2 st.ff st.fh (by simp [hlt]) hy
      have held : ∀ b ∈ fp' ++ (Dn :: fq'), F' b = none ∧ H' b ≠ none := fun b hb => by
        rcases List.mem_append.mp hb with h | h
        · exact E'.has b h
        · rcases List.mem_cons.mp h with h | h
          · subst h; exact ⟨FD, by rw [hD]; intro q; cases q⟩
          · exact ha.has b h
      obtain ⟨s3, _⟩ := s2.beside (fp := fp' ++ (Dn :: fq')) held
      rw [List.append_nil] at s3
      have E2 : EnvR c mv F2 H2 fp' (wipe σ vs) (e'.wipe vs) := E'.stp s2 fun b hb z => nomatch z
      have ha2 : OwAll c F2 H2 fq' ws acc := s2.owAll ha fun b hb z => nomatch z
      have hD2 : H2 Dn = some (.lst ws) := s2.keep Dn _ hD fun z => nomatch z
      have FD2 : F2 Dn = none := s2.newF Dn (by rw [hD]; intro q; cases q) (fun z => nomatch z) FD (by intro xs q; rw [hD] at q; cases q)
      rw [List.drop_eq_getElem_cons hlt] at p'
      simp only [cloop] at p'
      cases z : t ds[i] (e'.wipe vs) with
      | none => rw [z] at p'; exact p'.elim
      | some e2 =>
        rw [z] at p'
        simp only at p'
        refine tok F2 H2 fp' _ _ e2 x ds[i] _ s2.fh E2 hz z fun f3 σ3 E3 m3 l3 j3 => ?_
        have wq : wipe σ3 vs = wipe σ vs := by
          have a1 : wipe σ3 vs = wipe (wipe σ vs) vs := wipe_eq l3 fun j hj => j3 j fun q => hj (hts j q)
          have a2 : wipe (wipe σ vs) vs = wipe σ vs := wipe_eq (wipe_length σ vs) fun j hj => wipe_out hj
          exact a1.trans a2
        refine ⟨wq, F2, f3, e2, s2.fh, E3, ?_⟩
        -- the list beside
        have sub3 : ∀ b ∈ f3 ++ (Dn :: fq'), b ∈ fp' ++ (Dn :: fq') := fun b hb => (List.mem_append.mp hb).elim (fun q => List.mem_append_left _ (m3 b q)) (List.mem_append_right _)
        have p2 := Po.step p' (s3.part (fun _ h => h) sub3)
        have st2 : Stp F1 H1 f1 F2 H2 (f3 ++ (Dn :: fq')) := (st.trans s3).part (fun _ h => h) sub3
        have heldQ : ∀ b ∈ Dn :: fq', F2 b = none ∧ H2 b ≠ none := fun b hb => by
          rcases List.mem_cons.mp hb with h | h
          · subst h; exact ⟨FD2, by rw [hD2]; intro q; cases q⟩
          · exact ha2.has b h
        have djQ : ∀ b ∈ Dn :: fq', b ∉ f3 := fun b hb q => by
          rcases List.mem_cons.mp hb with h | h
          · subst h; exact n1 (m3 _ q)
          · exact dj b h (m3 _ q)
        cases z2 : tt e2 with
        | no => rw [z2] at p2; exact p2.elim
        | ex y e3 => rw [z2] at p2; exact p2.elim
        | ok b e3 =>
          rw [z2] at p2
          intro F4 H4 f4 q4 b' s4 E4 r4 d4
          obtain ⟨rfl, rfl⟩ := r4
          rw [List.append_nil] at s4
          have s4' := s4.more (fq := Dn :: fq') fun b hb => (heldQ b hb).2
          have st4 := st2.trans s4'
          have p4 := Po.step p2 s4'
          have ha4 : OwAll c F4 H4 fq' ws acc := s4.owAll ha2 fun b hb q => djQ b (List.mem_cons_of_mem _ hb) q
          have hD4 : H4 Dn = some (.lst ws) := s4.keep Dn _ hD2 (djQ Dn List.mem_cons_self)
          have FD4 : F4 Dn = none := s4.newF Dn (heldQ Dn List.mem_cons_self).2 (djQ Dn List.mem_cons_self) FD2 (by intro xs q; rw [hD2] at q; cases q)
          have ap4 := s4.apart (fun b hb => (heldQ b hb).2) djQ
          cases b' with
          | false =>
            refine iteF ?_
            simp only at p4
            obtain ⟨f5, E5, m5⟩ := E4.wipeS vs
            rw [wq] at E5
            have sub5 : ∀ b ∈ f5 ++ (Dn :: fq'), b ∈ f4 ++ (Dn :: fq') := fun b hb => (List.mem_append.mp hb).elim (fun q => List.mem_append_left _ (m5 b q)) (List.mem_append_right _)
            exact ⟨F4, f5, fq', e3, ws, acc, st4.part (fun _ h => h) sub5, E5, hD4, ha4, FD4, fun q => ap4 Dn List.mem_cons_self (m5 _ q), n2, fun b hb q => ap4 b (List.mem_cons_of_mem _ hb) (m5 _ q),
              Po.step p4 ((Stp.refl s4.fh).part (fun _ h => h) sub5)⟩
          | true =>
            refine iteT ⟨F4, f4, e3, s4.fh, E4, ?_⟩
            simp only at p4
            cases z3 : f e3 with
            | no => rw [z3] at p4; exact p4.elim
            | ex y e5 => rw [z3] at p4; exact p4.elim
            | ok r e5 =>
              rw [z3] at p4
              simp only at p4
              intro F6 H6 f6 q6 y s6 E6 r6 d6
              have heldR : ∀ b ∈ Dn :: fq', F4 b = none ∧ H4 b ≠ none := fun b hb => by
                rcases List.mem_cons.mp hb with h | h
                · subst h; exact ⟨FD4, by rw [hD4]; intro q; cases q⟩
                · exact ha4.has b h
              have s6' := s6.more (fq := Dn :: fq') fun b hb => (heldR b hb).2
              have p6 := Po.step p4 s6'
              have st6 := st4.trans s6'
              have ha6 : OwAll c F6 H6 fq' ws acc := s6.owAll ha4 fun b hb q => ap4 b (List.mem_cons_of_mem _ hb) q
              have hD6 : H6 Dn = some (.lst ws) := s6.keep Dn _ hD4 (ap4 Dn List.mem_cons_self)
              have FD6 : F6 Dn = none := s6.newF Dn (heldR Dn List.mem_cons_self).2 (ap4 Dn List.mem_cons_self) FD4 (by intro xs q; rw [hD4] at q; cases q)
              have ap6 := s6.apart (fun b hb => (heldR b hb).2) ap4
              cases z4 : own e5 r with
              | none => rw [z4] at p6; exact p6.elim
              | some yy =>
                obtain ⟨o, e6⟩ := yy
                rw [z4] at p6
                simp only at p6
                by_cases hsz : acc.length < 1000000
                · rw [if_pos hsz] at p6
                  obtain ⟨F7, f7, q7, s7, k7, E7, d7, m7, w7⟩ := own_ok s6.fh E6 r6 d6 z4
                  have s7' := s7.more (fq := Dn :: fq') fun b hb => by
                    rcases List.mem_cons.mp hb with h | h
                    · subst h; rw [hD6]; intro q; cases q
                    · exact (ha6.has b h).2
                  have st7 := st6.trans s7'
                  have p7 := Po.step p6 s7'
                  have ha7 : OwAll c F7 H6 fq' ws acc := s7.owAll ha6 fun b hb q => ap6 b (List.mem_cons_of_mem _ hb) q
                  have FD7 : F7 Dn = none := s7.newF Dn (by rw [hD6]; intro q; cases q) (ap6 Dn List.mem_cons_self) FD6 (by intro xs q; rw [hD6] at q; cases q)
                  have ap7 := s7.apart (fq := Dn :: fq') (fun b hb => by
                    rcases List.mem_cons.mp hb with h | h
                    · subst h; rw [hD6]; intro q; cases q
                    · exact (ha6.has b h).2) ap6
                  obtain ⟨f8, E8, m8⟩ := E7.wipeS vs
                  rw [wq] at E8
                  have hl : ws.length < sizeLine := by rw [ha7.length]; exact Nat.lt_of_lt_of_le hsz (by decide)
                  -- the new item comes behind
                  have s8 : Stp F7 H6 ((f7 ++ q7) ++ (Dn :: fq')) F7 (upd H6 Dn (.lst (ws ++ [y]))) (f8 ++ (Dn :: (fq' ++ q7))) :=
                    (Stp.chg s7.fh (List.mem_append_right _ List.mem_cons_self) FD7).part (fun _ h => h) fun b hb => by
                      simp only [List.mem_append, List.mem_cons] at hb ⊢
                      rcases hb with h | h | h | h
                      · exact .inl (.inl (m8 b h))
                      · exact .inr (.inl h)
                      · exact .inr (.inr h)
                      · exact .inl (.inr h)
                  have s9 : Stp F7 H6 [Dn] F7 (upd H6 Dn (.lst (ws ++ [y]))) [Dn] := Stp.chg s7.fh (List.mem_singleton.mpr rfl) FD7
                  have out1 : ∀ b ∈ f7 ++ q7, b ∉ [Dn] := fun b hb z => by
                    rw [List.mem_singleton] at z; subst z
                    exact ap7 _ List.mem_cons_self hb
                  have kq : OwAll c F7 H6 (fq' ++ (q7 ++ [])) (ws ++ [y]) (acc ++ [o]) := ha7.append (.cons k7 .nil fun b hb z => nomatch z) fun b hb z => ap7 b (List.mem_cons_of_mem _ hb) (List.mem_append_right _ (by simpa using z))
                  rw [List.append_nil] at kq
                  have inQ : ∀ b ∈ fq' ++ q7, b ∉ [Dn] := fun b hb z => by
                    rcases List.mem_append.mp hb with h | h
                    · rw [List.mem_singleton] at z; subst z; exact n2 h
                    · exact out1 b (List.mem_append_right _ h) z
                  refine ⟨ws, hD6, hl, F7, f8, fq' ++ q7, e6, ws ++ [y], acc ++ [o], st7.trans s8, E8.stp s9 fun b hb => out1 b (List.mem_append_left _ (m8 b hb)), upd_same, s9.owAll kq inQ, FD7,
                    fun q => ap7 Dn List.mem_cons_self (List.mem_append_left _ (m8 _ q)), fun q => inQ Dn q (List.mem_singleton.mpr rfl), fun b hb q => ?_, Po.step p7 s8⟩
                  rcases List.mem_append.mp hb with h | h
                  · exact ap7 b (List.mem_cons_of_mem _ h) (List.mem_append_left _ (m8 _ q))
                  · exact d7 b h (m8 _ q)
                · rw [if_neg hsz] at p6; exact p6.elim
    · have e1 : i = ds.length := by omega
      subst e1
      rw [List.drop_length] at p'
      refine .inl ⟨wk.stop H' (st.ff.trans st.fh), ?_⟩
      simp only [cloop, Out.bind] at p'
      refine p' F' H' fp' (Dn :: fq') (.ref Dn) (Stp.refl st.fh) (outE E') (.tm (.lst hD FD n2 ha)) fun b hb => ?_
      rcases List.mem_cons.mp hb with h | h
      · subst h; exact n1
      · exact dj b h

end
end DL

set_option Elab.async false
set_option linter.all false
set_option maxRecDepth 100000
set_option maxHeartbeats 2000000
/-! DL, part mB: comprehensions over dicts; attributes; methods; calls that only read; clear. -/
namespace DL
open PySem L2 PySem.Spec PyProof.Rows
section
variable {X : Cx} {c : Cs} {mv : V} {W : WX}

/-! ### attributes -/
/-- what is known of an own class by its name -/
def ClsF (c : Cs) (n : Str) (fld : Str) : Prop := ∀ C, c.ca n = some C → Cls c.K C ∧ NoAttr c.K C fld
theorem look_fld {F : Hp} {fld : Str} {d : D} : ∀ {fs : List (Str × V)} {ds : List D}, FzAll c F (fs.map (·.2)) ds → lookL (fs.map (·.1)) ds fld = some d → ∃ v, fs.lookup fld = some v ∧ Fz c F v d
  | [], _, h, e => by cases h; cases e
  | (k, x) :: fs, _, h, e => by
    cases h with
    | cons h1 h2 =>
      simp only [List.map_cons, lookL] at e
      by_cases q : k = fld
      · subst q
        rw [if_pos rfl] at e
        cases e
        exact ⟨x, by simp [List.lookup], h1⟩
      · rw [if_neg q] at e
        obtain ⟨v, e1, e2⟩ := look_fld h2 e
        have nq : (fld == k) = false := by simpa using fun z : fld = k => q z.symm
        exact ⟨v, by simp [List.lookup, nq, e1], e2⟩
theorem no_fld {m : Str} : ∀ {fs : List (Str × V)}, m ∉ fs.map (·.1) → fs.lookup m = none
  | [], _ => rfl
  | (k, x) :: fs, h => by
    have h1 : ¬ m = k := fun z => h (by rw [z]; exact List.mem_cons_self)
    have nq : (m == k) = false := by simpa using h1
    have ih := no_fld (m := m) (fs := fs) fun z => h (List.mem_cons_of_mem _ z)
    simp [List.lookup, nq, ih]
def eFld (cls fld : Str) (f : En → Out Rv) : En → Out Rv := fun e => (f e).bind fun r e1 => match fix e1 r with
  | some (.obj n ns ds, e2) => if n = cls then match lookL ns ds fld with
      | some d => .ok (.tm (.fz d)) e2
      | none => .no
    else .no
  | _ => .no
theorem de_fld {cls fld : Str} {a : Expr} {f : En → Out Rv} {pos : Pos} (hK : X.K = c.K) (T : ClsF c cls fld) (ha : DE X c mv W a f) (hb : attributeBase a fld X.env (eval a X.env) = eval a X.env := by rfl) : DE X c mv W (.Attribute a fld pos) (eFld cls fld f) :=
  pe_imp (pe_fld ha hb) fun σ H Q ⟨F, fp, e, s, E, p⟩ => by
    refine ⟨F, fp, e, s, E, Po.seq (R1 := rvR c mv) p fun r e1 F1 H1 f1 q1 v _ s1 E1 r1 d1 p1 => ?_⟩
    cases z : fix e1 r with
    | none => rw [z] at p1; exact p1.elim
    | some y =>
      obtain ⟨d, e2⟩ := y
      rw [z] at p1
      obtain ⟨F2, f2, s2, k2, E2, m2⟩ := fix_ok s1.fh E1 r1 d1 z
      cases d with
      | obj n ns ds =>
        simp only at p1
        by_cases hn : n = cls
        · rw [if_pos hn] at p1
          subst hn
          cases zl : lookL ns ds fld with
          | none => rw [zl] at p1; exact p1.elim
          | some d =>
            rw [zl] at p1
            cases k2 with
            | @obj a C dx fs _ _ _ hca hF hns hall =>
              subst hns
              obtain ⟨u, hu, hz⟩ := look_fld hall zl
              obtain ⟨t1, t2⟩ := T C hca
              rw [hK]
              exact ⟨a, C, dx, fs, u, rfl, s2.fh _ _ hF, t1, t2, hu, Po.fz s2.fh E2 hz (fun _ h => h) (Po.step p1 s2)⟩
        · rw [if_neg hn] at p1; exact p1.elim
      | _ => exact p1.elim

/-! ### o.m(..), o stands still -/
def tMethG (C : Addr) (m : Str) (sp : Sp) (W : WX) (ta : TE) (t : TA) : TE := fun σ H Q => ta σ H fun x H1 => ∃ a dx fs, x = .ref a ∧ H1 a = some (.ins C dx fs) ∧ fs.lookup m = none ∧ t σ H1 fun vs H2 => sp (x :: vs) H2 Q (WE W σ)
theorem pe_methG {C f : Addr} {m : Str} {k : Nat} {fd : FuncData} {ps : List Str} {sp : Sp} {o e : Expr} {es : List Expr} {ta : TE} {t : TA} {apos pos : Pos} {pl : Sem Bool} (he : PE X o ta) (cl : Cls X.K C) (hm : Meth X.K C m f) (F : FnG X.prog X.w X.K X.mg X.base k f fd ps sp) (g : Quiet X.A) (r : Room k X.A)
    (hb : Binds X.K fd ps []) (tk : Takes X W) (ha : PA X (e :: es) t)
    (hst : starEach (e :: es) X.env = (false, eval e X.env) :: starEach es X.env := by rfl) (hpl : (backTo pos (starEach es X.env)).any (·.1) = false := by rfl)
    (ht : eval (.Call (.Attribute o m apos) (e :: es) [] pos) X.env = (do
      let ov ← eval o X.env
      standAt apos.atName
      let (f, first) ← holding [ov] (getMethod ov m pl)
      callWith pos f first (backTo pos (starEach (e :: es) X.env)) (backToKw pos (keywordEach [] X.env))) := by rfl) :
    PE X (.Call (.Attribute o m apos) (e :: es) [] pos) (tMethG C m sp W ta t) := by
  constructor
  intro pins s σ H Q I h
  refine PySem.W.methodCall_KW (pl := pl) (thn (he.run pins s σ H _ I h) ?_) ht
  rintro u s1 ⟨x, H1, I1, rx, a, dx, fs, ex, ea, l, q⟩
  subst ex
  obtain rfl : u = Value.ref a := rx
  refine getmeth_ok I1 ea cl hm l (PySem.W.callWith_K (first := [.ref a]) (h₀ := X.base) I.ok.mod.kin hm.kp (thn (ha.run pos pins s1 σ H1 _ I1 q) ?_) hst hpl)
  rintro us s2 ⟨vs, H2, I2, rv, q2⟩
  exact ⟨I2.kIn, goG (us := .ref a :: us) (vs := .ref a :: vs) F g r hb tk I2 (.cons rfl rv) q2⟩
structure KnM (P : Program) (w : World) (mg : Str → Option Value) (base : Heap) (c : Cs) (k : Nat) (cls m : Str) (n : Nat) (φ : List D → Res) : Prop where
  ex : ∃ (C f : Addr) (fd : FuncData) (ps : List Str), c.ca cls = some C ∧ Cls c.K C ∧ Meth c.K C m f ∧ FnG P w c.K mg base k f fd ps (spP c n φ) ∧ Binds c.K fd ps []
def eMeth (cls m : Str) (φ : List D → Res) (f : En → Out Rv) (g : En → Out (List Rv)) : En → Out Rv := fun e => (f e).bind fun r e1 => match fix e1 r with
  | some (.obj n ns ds, e2) => if n = cls ∧ m ∉ ns then (g e2).bind fun rs e3 => match fixAll e3 rs with
      | none => .no
      | some (as, e4) => match φ (.obj n ns ds :: as) with
        | .ok o => .ok (.tm o) e4
        | .ex x => .ex x e4
        | .no => .no
    else .no
  | _ => .no
theorem de_meth {cls m : Str} {o a : Expr} {es : List Expr} {f : En → Out Rv} {g : En → Out (List Rv)} {apos pos : Pos} {pl : Sem Bool} {k n : Nat} {φ : List D → Res} (hK : X.K = c.K) (G : KnM X.prog X.w X.mg X.base c k cls m (n + 1) φ) (q : Quiet X.A) (r : Room k X.A) (tk : Takes X W)
    (ho : DE X c mv W o f) (ha : DA X c mv W (a :: es) g) (hn : Many n g)
    (hst : starEach (a :: es) X.env = (false, eval a X.env) :: starEach es X.env := by rfl) (hpl : (backTo pos (starEach es X.env)).any (·.1) = false := by rfl)
    (ht : eval (.Call (.Attribute o m apos) (a :: es) [] pos) X.env = (do
      let ov ← eval o X.env
      standAt apos.atName
      let (f, first) ← holding [ov] (getMethod ov m pl)
      callWith pos f first (backTo pos (starEach (a :: es) X.env)) (backToKw pos (keywordEach [] X.env))) := by rfl) :
    DE X c mv W (.Call (.Attribute o m apos) (a :: es) [] pos) (eMeth cls m φ f g) := by
  obtain ⟨C, fa, fd, ps, hca, hcl, hme, F, hb⟩ := G.ex
  rw [← hK] at F hcl hme hb
  refine pe_imp (pe_methG ho hcl hme F q r hb tk ha hst hpl ht) fun σ H Q ⟨F0, fp, e, s, E, p⟩ => ?_
  refine ⟨F0, fp, e, s, E, Po.seq (R1 := rvR c mv) p fun r0 e1 F1 H1 f1 q1 v _ s1 E1 r1 d1 p1 => ?_⟩
  cases z : fix e1 r0 with
  | none => rw [z] at p1; exact p1.elim
  | some y =>
    obtain ⟨d, e2⟩ := y
    rw [z] at p1
    obtain ⟨F2, f2, s2, k2, E2, m2⟩ := fix_ok s1.fh E1 r1 d1 z
    cases d with
    | obj n' ns ds =>
      simp only at p1
      by_cases hh : n' = cls ∧ m ∉ ns
      · rw [if_pos hh] at p1
        obtain ⟨rfl, hm⟩ := hh
        cases id k2 with
        | @obj a0 C0 dx fs _ _ _ hca0 hF hns hall =>
          rw [hca] at hca0
          cases hca0
          subst hns
          refine ⟨a0, dx, fs, rfl, s2.fh _ _ hF, no_fld hm, F2, f2, e2, s2.fh, E2, ?_⟩
          refine Po.seq (R1 := rvsR c mv) (Po.step p1 s2) fun rs e3 F3 H3 f3 q3 vs hq s3 E3 r3 d3 p3 => ?_
          have hl : ∀ {fq : List Addr} {vs : List V} {rs : List Rv}, RvAll c mv F3 H3 σ fq vs rs → vs.length = rs.length := fun {fq vs rs} h => by
            induction h with
            | nil => rfl
            | cons _ _ _ ih => rw [List.length_cons, List.length_cons, ih]
          cases z3 : fixAll e3 rs with
          | none => rw [z3] at p3; exact p3.elim
          | some y =>
            obtain ⟨as, e4⟩ := y
            rw [z3] at p3
            simp only at p3
            obtain ⟨F4, f4, s4, k4, E4, m4⟩ := fixAll_ok s3.fh E3 r3 d3 z3
            refine ⟨by rw [List.length_cons, hl r3, hn _ _ _ hq], F4, .obj n' (fs.map (·.1)) ds :: as, s4.fh, .cons (k2.mono (s3.ff.trans s4.ff)) k4, ?_⟩
            cases z4 : φ (.obj n' (fs.map (·.1)) ds :: as) with
            | no => rw [z4] at p3; exact p3
            | ok o =>
              rw [z4] at p3
              intro F5 H5 q5 v5 s5 h5
              obtain ⟨s6, d6⟩ := s5.beside (fp := f4) E4.has
              exact p3 F5 H5 f4 q5 v5 (s4.trans s6) (E4.stp s5 fun b hb z => nomatch z) (.tm h5) d6
            | ex x =>
              rw [z4] at p3
              intro F5 H5 cls5 d5 s5 h5
              obtain ⟨s6, d6⟩ := s5.beside (fp := f4) E4.has
              rw [List.append_nil] at s6
              exact p3 F5 H5 f4 cls5 d5 (s4.trans s6) (E4.stp s5 fun b hb z => nomatch z) h5
      · rw [if_neg hh] at p1; exact p1.elim
    | _ => exact p1.elim

/-! ### a dict's items, its tuple keys: walked by a comprehension -/
theorem pairsD_get : ∀ {ks : List Key} {ds : List D} {i : Nat} {x : D}, (pairsD ks ds)[i]? = some x → ∃ k d, ks[i]? = some k ∧ ds[i]? = some d ∧ x = pairD k d
  | [], _, _, _, h => by simp [pairsD] at h
  | _ :: _, [], _, _, h => by simp [pairsD] at h
  | k :: ks, d :: ds, 0, x, h => by simp [pairsD] at h; exact ⟨k, d, rfl, rfl, h.symm⟩
  | k :: ks, d :: ds, i + 1, x, h => by
    obtain ⟨k', d', h1, h2, h3⟩ := pairsD_get (i := i) (ks := ks) (ds := ds) (by simpa [pairsD] using h)
    exact ⟨k', d', by simpa using h1, by simpa using h2, h3⟩
theorem pairsD_len : ∀ {ks : List Key} {ds : List D}, ks.length = ds.length → (pairsD ks ds).length = ks.length
  | [], [], _ => rfl
  | k :: ks, d :: ds, h => by
    show (pairD k d :: pairsD ks ds).length = _
    rw [List.length_cons, List.length_cons, pairsD_len (by simpa using h)]
theorem walks_items {F : Hp} {d : Addr} {od : Obj} {kvs : List (Key × V)} {ds : List D} (hd : F d = some (.frz od (.dK kvs))) (h : FzAll c F (kvs.map (·.2)) ds) : Walks c F (Iti d od kvs) (pairsD (kvs.map (·.1)) ds) := by
  have hl : (kvs.map (·.1)).length = ds.length := by rw [List.length_map]; have := h.length; rw [List.length_map] at this; exact this
  have len := pairsD_len hl
  rw [List.length_map] at len
  refine ⟨fun H s => ⟨s _ _ hd, by omega⟩, fun i H x s hx => ⟨s _ _ hd, ?_⟩, fun i F1 H x y H' s1 s hx hy => ?_⟩
  · have := (List.getElem?_eq_some_iff.mp hx).1
    omega
  · obtain ⟨k, x0, h1, h2, rfl⟩ := pairsD_get hx
    obtain ⟨T, k', v', e1, rfl, hT, rfl⟩ := hy
    rw [List.getElem?_map, e1] at h1
    cases h1
    obtain ⟨v, g1, g2⟩ := h.get h2
    rw [List.getElem?_map, e1] at g1
    cases g1
    refine new_tup (c := c) (Q := fun v H' => ∃ F', Stp F1 H [] F' H' [] ∧ Fz c F' v (pairD k' x0)) s (.cons (keyV_fz k') (.cons (g2.mono s1) .nil)) (fun F' H' fq v st ho => ?_) T hT
    cases ho with
    | fz ho =>
      exact ⟨F', st, ho⟩
theorem pe_or {e : Expr} {t u : TE} (h1 : PE X e t) (h2 : PE X e u) : PE X e (fun σ H Q => t σ H Q ∨ u σ H Q) :=
  ⟨fun pins s σ H Q I h => h.elim (h1.run pins s σ H Q I) (h2.run pins s σ H Q I)⟩
def En.fldK (e : En) (i : Nat) (cls fld : Str) : Option (List Key × List D) := match e.sl[i]? with
  | some (some (.ow (.fz (.obj n ns ds)))) => if n = cls then match lookL ns ds fld with
      | some (.dK ks es) => some (ks, es)
      | _ => none
    else none
  | _ => none
def compOut (r : Out (List O)) : Out Rv := match r with
  | .ok os e2 => .ok (.tm (.lst os)) e2
  | _ => .no
def eCompI (i : Nat) (cls fld : Str) (t : TgS) (tt : En → Out Bool) (f : En → Out Rv) (vs : List Nat) : En → Out Rv := fun e => match e.fldK i cls fld with
  | some (ks, es) => compOut (cloop t tt f vs (pairsD ks es) [] (e.wipe vs))
  | none => .no
theorem fldK_ok {F H : Hp} {fp : List Addr} {σ : L2.St} {e : En} {i : Nat} {cls fld : Str} {ks : List Key} {es : List D} (E : EnvR c mv F H fp σ e) (T : ClsF c cls fld) (h : e.fldK i cls fld = some (ks, es)) :
    ∃ a C dx fs d kvs, σ[i]? = some (some (.ref a)) ∧ F a = some (.ins C dx fs) ∧ Cls c.K C ∧ NoAttr c.K C fld ∧ fs.lookup fld = some (.ref d) ∧ Rd F d (.dK kvs) ∧ kvs.map (·.1) = ks ∧ FzAll c F (kvs.map (·.2)) es := by
  unfold En.fldK at h
  split at h
  · rename_i n ns ds q
    split at h
    · rename_i hn
      subst hn
      split at h
      · rename_i ks' es' ql
        cases h
        obtain ⟨v, fo, fr, hv, ho, _⟩ := E.take q
        cases ho with
        | fz hz =>
          cases hz with
          | @obj a C dx fs _ _ _ hca hF hns hall =>
            subst hns
            obtain ⟨u, hu, hz⟩ := look_fld hall ql
            obtain ⟨t1, t2⟩ := T C hca
            cases hz with
            | @dK d kvs _ _ hd hk hz => exact ⟨a, C, dx, fs, d, kvs, hv, hF, t1, t2, hu, hd, hk, hz⟩
      · cases h
    · cases h
  · cases h
section
variable {elt : Expr} {elts : List Expr} {kk : Nat} {tpos : Pos} {ifs : List Expr} {scope : Scope} {own' : List (Str × Nat)} {pos px p1 p2 p3 : Pos} {x fld cls : Str} {i : Nat} {ts : List Nat} {g : TG} {t : TgS} {tt : En → Out Bool} {f : En → Out Rv}
theorem de_compI (hK : X.K = c.K) (hc : X.calm = true) (hN : X.N.Nodup) (T : ClsF c cls fld) (hi : X.N[i]? = some x) (hv : Vis X.env.scope x) (ok : BlkOk X.N X.env.scope scope own')
    (hg : ∀ (s : Shared) (H : Hp) (C : Addr) (cl : List (Str × Addr)) (fp : List Addr), DG (X.blk s H scope (compEnvC scope cl C X.env) fp) c mv (.Tuple elts kk tpos) ts g t)
    (ht : ∀ (s : Shared) (H : Hp) (C : Addr) (cl : List (Str × Addr)) (fp : List Addr), DTs (X.blk s H scope (compEnvC scope cl C X.env) fp) c mv W0 ifs tt)
    (he : ∀ (s : Shared) (H : Hp) (C : Addr) (cl : List (Str × Addr)) (fp : List Addr), DE (X.blk s H scope (compEnvC scope cl C X.env) fp) c mv W0 elt f)
    (tok : TgOk c mv ts g t) (hts : ∀ j ∈ ts, j ∈ own'.map (·.2)) (hd : (x == ("__debug__" : Str)) = false := by decide) (hcd : (x == ("__classdict__" : Str)) = false := by decide)
    (hb : attributeBase (.Name x px) fld X.env (eval (.Name x px) X.env) = eval (.Name x px) X.env := by rfl)
    (hbase : attributeBase (.Attribute (.Name x px) fld p1) "items" X.env (eval (.Attribute (.Name x px) fld p1) X.env) = eval (.Attribute (.Name x px) fld p1) X.env := by rfl) (hline : (p2.endLine == p3.line) = true := by rfl)
    (hs : ∀ x', foldedSetIterable (.Call (.Attribute (.Attribute (.Name x px) fld p1) "items" p2) [] [] p3) X.env x' = pure x' := by intro _; rfl) :
    DE X c mv W (.ListComp elt [⟨.Tuple elts kk tpos, .Call (.Attribute (.Attribute (.Name x px) fld p1) "items" p2) [] [] p3, ifs, 0⟩] scope pos) (eCompI i cls fld t tt f (own'.map (·.2))) := by
  have base := pe_lc hc hN (pi_items (elts := elts) (kk := kk) (tpos := tpos) (pe_fld (pe_var hi hv hd hcd) hb) hbase hline) ok (fun s H C cl fp => (hg s H C cl fp).pg) ht he hs (pos := pos)
  refine pe_imp (pe_or (pe_lock base) base) fun σ H Q ⟨F, fp, e, s, E, p⟩ => ?_
  unfold eCompI at p
  cases z : e.fldK i cls fld with
  | none => rw [z] at p; exact p.elim
  | some y =>
    obtain ⟨ks, es⟩ := y
    rw [z] at p
    simp only at p
    obtain ⟨a, C, dx, fs, d, kvs, g1, g2, g3, g4, g5, g6, g7, g8⟩ := fldK_ok E T z
    subst g7
    rcases g6 with g6 | ⟨od, g6⟩
    · -- it is locked meanwhile
      refine .inl ⟨d, .dK kvs, s _ _ g6, trivial, fun od => ?_⟩
      have hu : isDict (.dK kvs) := .inl ⟨kvs, rfl⟩
      obtain ⟨sL, EL⟩ := lock_in (od := od) s E g6 hu
      have rn := ren_lock (od := od) g6 hu
      refine ⟨.ref a, g1, a, C, dx, fs, .ref d, rfl, sL _ _ (rn.st _ _ g2 nd_ins), by rw [hK]; exact g3, by rw [hK]; exact g4, g5, d, od, kvs, rfl, upd_same, ?_⟩
      refine comp_body (c := c) (mv := mv) (W := W) (t := t) (tt := tt) (f := f) (Q := fun v H' => H' d = some (.frz od (.dK kvs)) ∧ Q v (upd H' d (.dK kvs))) tok hts (F1 := upd F d (.frz od (.dK kvs))) (f1 := fp) (e1 := e) sL EL (walks_items upd_same (g8.ren rn)) ?_
      cases zc : cloop t tt f (own'.map (·.2)) (pairsD (kvs.map (·.1)) es) [] (e.wipe (own'.map (·.2))) with
      | no => rw [zc] at p; exact p.elim
      | ex x2 e2 => rw [zc] at p; exact p.elim
      | ok os e2 =>
        rw [zc] at p
        intro F2 H2 f2 q2 v st E2 r2 dj
        obtain ⟨k1, k2, k3⟩ := lock_out s g6 E.has st
        have rn2 := ren_unlock k1 hu
        have ne : ∀ b, F2 b = none → b ≠ d := fun b hb z => by subst z; rw [k1] at hb; cases hb
        refine ⟨k2, p (upd F2 d (.dK kvs)) (upd H2 d (.dK kvs)) f2 q2 v k3 (E2.ren rn2 (fun b hb => by rw [upd_ne (ne b (E2.has b hb).1)]; exact (E2.has b hb).1) fun b hb => upd_ne (ne b (E2.has b hb).1)) ?_ dj⟩
        cases r2 with
        | tm ho => exact .tm (ho.ren rn2 (fun b hb => by rw [upd_ne (ne b (ho.has b hb).1)]; exact (ho.has b hb).1) fun b hb => upd_ne (ne b (ho.has b hb).1))
    · -- it is locked already
      refine .inr ⟨.ref a, g1, a, C, dx, fs, .ref d, rfl, s _ _ g2, by rw [hK]; exact g3, by rw [hK]; exact g4, g5, d, od, kvs, rfl, s _ _ g6, ?_⟩
      refine comp_body (c := c) (mv := mv) (W := W) (t := t) (tt := tt) (f := f) (Q := Q) tok hts s E (walks_items g6 g8) ?_
      cases zc : cloop t tt f (own'.map (·.2)) (pairsD (kvs.map (·.1)) es) [] (e.wipe (own'.map (·.2))) with
      | no => rw [zc] at p; exact p.elim
      | ex x2 e2 => rw [zc] at p; exact p.elim
      | ok os e2 => rw [zc] at p; exact p
end
/-! the tuple keys of a dict -/
def keyVD : Key → D
  | .inl i => .int i
  | .inr x => .str x
def keysT (ks : List (List Key)) : List D := ks.map fun k => .tup false (k.map keyVD)
theorem keys_fz {F : Hp} : ∀ k : List Key, FzAll c F (k.map kV) (k.map keyVD)
  | [] => .nil
  | .inl i :: k => .cons .int (keys_fz k)
  | .inr x :: k => .cons .str (keys_fz k)
theorem walks_keysT {F : Hp} {d : Addr} {od : Obj} {kvs : List (List Key × V)} (hd : F d = some (.frz od (.dT kvs))) : Walks c F (Itkt d od kvs) (keysT (kvs.map (·.1))) := by
  have len : (keysT (kvs.map (·.1))).length = kvs.length := by unfold keysT; rw [List.length_map, List.length_map]
  refine ⟨fun H s => ⟨s _ _ hd, by omega⟩, fun i H x s hx => ⟨s _ _ hd, ?_⟩, fun i F1 H x y H' s1 s hx hy => ?_⟩
  · have := (List.getElem?_eq_some_iff.mp hx).1
    omega
  · obtain ⟨rfl, k, v, q, e1, rfl, hq⟩ := hy
    have hx' : x = .tup false (k.map keyVD) := by
      unfold keysT at hx
      rw [List.getElem?_map, List.getElem?_map, e1] at hx
      exact (Option.some.inj hx).symm
    subst hx'
    have sub : Sub F1 (upd F1 q (.tup (k.map kV))) := fun b w h => by
      by_cases z : b = q
      · subst z
        have := s _ _ h
        rw [hq] at this
        cases this
        exact upd_same
      · rw [upd_ne z]; exact h
    refine ⟨upd F1 q (.tup (k.map kV)), ⟨fun b w h => ?_, sub, fun _ _ h _ => h, fun b h n z nt => ?_, fun _ hb => .inl hb⟩, .tup (SqT.of upd_same) (tupN upd_same) (keys_fz k)⟩
    · by_cases z : b = q
      · subst z; rw [upd_same] at h; cases h; exact hq
      · rw [upd_ne z] at h; exact s _ _ h
    · have ne : b ≠ q := fun y => by subst y; exact nt _ hq
      rw [upd_ne ne]; exact z
def En.dtAt (e : En) (i : Nat) : Option (List (List Key)) := match e.sl[i]? with
  | some (some (.ow (.fz (.dT ks _)))) => some ks
  | _ => none
def eCompKT (i : Nat) (t : TgS) (tt : En → Out Bool) (f : En → Out Rv) (vs : List Nat) : En → Out Rv := fun e => match e.dtAt i with
  | some ks => compOut (cloop t tt f vs (keysT ks) [] (e.wipe vs))
  | none => .no
section
variable {elt tg : Expr} {ifs : List Expr} {scope : Scope} {own' : List (Str × Nat)} {pos px : Pos} {x : Str} {i : Nat} {ts : List Nat} {g : TG} {t : TgS} {tt : En → Out Bool} {f : En → Out Rv}
theorem de_compKT (hc : X.calm = true) (hN : X.N.Nodup) (hi : X.N[i]? = some x) (hv : Vis X.env.scope x) (ok : BlkOk X.N X.env.scope scope own')
    (hg : ∀ (s : Shared) (H : Hp) (C : Addr) (cl : List (Str × Addr)) (fp : List Addr), DG (X.blk s H scope (compEnvC scope cl C X.env) fp) c mv tg ts g t)
    (ht : ∀ (s : Shared) (H : Hp) (C : Addr) (cl : List (Str × Addr)) (fp : List Addr), DTs (X.blk s H scope (compEnvC scope cl C X.env) fp) c mv W0 ifs tt)
    (he : ∀ (s : Shared) (H : Hp) (C : Addr) (cl : List (Str × Addr)) (fp : List Addr), DE (X.blk s H scope (compEnvC scope cl C X.env) fp) c mv W0 elt f)
    (tok : TgOk c mv ts g t) (hts : ∀ j ∈ ts, j ∈ own'.map (·.2)) (hd : (x == ("__debug__" : Str)) = false := by decide) (hcd : (x == ("__classdict__" : Str)) = false := by decide)
    (hs : ∀ x', foldedSetIterable (.Name x px) X.env x' = pure x' := by intro _; rfl) :
    DE X c mv W (.ListComp elt [⟨tg, .Name x px, ifs, 0⟩] scope pos) (eCompKT i t tt f (own'.map (·.2))) := by
  have base := pe_lc hc hN (pi_keys (tg := tg) (pe_var hi hv hd hcd)) ok (fun s H C cl fp => (hg s H C cl fp).pg) ht he hs (pos := pos)
  refine pe_imp (pe_or (pe_lock base) base) fun σ H Q ⟨F, fp, e, s, E, p⟩ => ?_
  unfold eCompKT at p
  cases z : e.dtAt i with
  | none => rw [z] at p; exact p.elim
  | some ks =>
    rw [z] at p
    simp only at p
    unfold En.dtAt at z
    split at z
    · rename_i ks' ds' q
      cases z
      obtain ⟨v, fo, fr, hσ, ho, _⟩ := E.take q
      cases ho with
      | fz hz =>
        cases hz with
        | @dT d kvs _ _ g6 g7 g8 =>
          subst g7
          rcases g6 with g6 | ⟨od, g6⟩
          · refine .inl ⟨d, .dT kvs, s _ _ g6, trivial, fun od => ?_⟩
            have hu : isDict (.dT kvs) := .inr ⟨kvs, rfl⟩
            obtain ⟨sL, EL⟩ := lock_in (od := od) s E g6 hu
            refine ⟨.ref d, hσ, d, od, rfl, .inr ⟨kvs, upd_same, ?_⟩⟩
            refine comp_body (c := c) (mv := mv) (W := W) (t := t) (tt := tt) (f := f) (Q := fun v H' => H' d = some (.frz od (.dT kvs)) ∧ Q v (upd H' d (.dT kvs))) tok hts (F1 := upd F d (.frz od (.dT kvs))) (f1 := fp) (e1 := e) sL EL (walks_keysT upd_same) ?_
            cases zc : cloop t tt f (own'.map (·.2)) (keysT (kvs.map (·.1))) [] (e.wipe (own'.map (·.2))) with
            | no => rw [zc] at p; exact p.elim
            | ex x2 e2 => rw [zc] at p; exact p.elim
            | ok os e2 =>
              rw [zc] at p
              intro F2 H2 f2 q2 v st E2 r2 dj
              obtain ⟨k1, k2, k3⟩ := lock_out s g6 E.has st
              have rn2 := ren_unlock k1 hu
              have ne : ∀ b, F2 b = none → b ≠ d := fun b hb z => by subst z; rw [k1] at hb; cases hb
              refine ⟨k2, p (upd F2 d (.dT kvs)) (upd H2 d (.dT kvs)) f2 q2 v k3 (E2.ren rn2 (fun b hb => by rw [upd_ne (ne b (E2.has b hb).1)]; exact (E2.has b hb).1) fun b hb => upd_ne (ne b (E2.has b hb).1)) ?_ dj⟩
              cases r2 with
              | tm ho => exact .tm (ho.ren rn2 (fun b hb => by rw [upd_ne (ne b (ho.has b hb).1)]; exact (ho.has b hb).1) fun b hb => upd_ne (ne b (ho.has b hb).1))
          · refine .inr ⟨.ref d, hσ, d, od, rfl, .inr ⟨kvs, s _ _ g6, ?_⟩⟩
            refine comp_body (c := c) (mv := mv) (W := W) (t := t) (tt := tt) (f := f) (Q := Q) tok hts s E (walks_keysT g6) ?_
            cases zc : cloop t tt f (own'.map (·.2)) (keysT (kvs.map (·.1))) [] (e.wipe (own'.map (·.2))) with
            | no => rw [zc] at p; exact p.elim
            | ex x2 e2 => rw [zc] at p; exact p.elim
            | ok os e2 => rw [zc] at p; exact p
    · cases z
end

/-! ### a call that only reads what it is handed, and tells tuples and scalars -/
mutual
def noL : D → Bool
  | .non => true
  | .bl _ => true
  | .int _ => true
  | .str _ => true
  | .tup false ds => noLs ds
  | .tup true _ => false
  | .lst _ => false
  | .dK _ _ => false
  | .dT _ _ => false
  | .obj _ _ _ => false
  | .exc _ _ _ => false
def noLs : List D → Bool
  | [] => true
  | d :: ds => noL d && noLs ds
end
mutual
theorem Fz.less {F G : Hp} (h : ∀ a xs, F a = some (.tup xs) → G a = some (.tup xs)) : ∀ {v : V} {d : D}, Fz c F v d → noL d = true → Fz c G v d
  | _, _, .non, _ => .non
  | _, _, .bl, _ => .bl
  | _, _, .int, _ => .int
  | _, _, .str, _ => .str
  | _, _, .tup (k := false) hs hk q, e => .tup (SqT.of (h _ _ (hk.2 rfl))) (tupN (h _ _ (hk.2 rfl))) (FzAll.less h q e)
  | _, _, .tup (k := true) _ _ _, e => noK e
  | _, _, .lst _ _, e => noK e
  | _, _, .dK _ _ _, e => noK e
  | _, _, .dT _ _ _, e => noK e
  | _, _, .obj _ _ _ _, e => noK e
  | _, _, .exc _ _ _ _ _, e => noK e
theorem FzAll.less {F G : Hp} (h : ∀ a xs, F a = some (.tup xs) → G a = some (.tup xs)) : ∀ {vs : List V} {ds : List D}, FzAll c F vs ds → noLs ds = true → FzAll c G vs ds
  | _, _, .nil, _ => .nil
  | _, _, .cons a q, e => .cons (Fz.less h a (Bool.and_eq_true_iff.mp e).1) (FzAll.less h q (Bool.and_eq_true_iff.mp e).2)
end
def isT : Option HO → Bool
  | some (.tup _) => true
  | _ => false
def eRead (φ : List D → Res) (f : En → Out (List Rv)) : En → Out Rv := fun e => (f e).bind fun rs e1 => match fixAll e1 rs with
  | none => .no
  | some (ds, _) => match φ ds with
    | .ok (.fz d) => if noL d then .ok (.tm (.fz d)) e1 else .no
    | _ => .no
theorem de_read {x : Str} {p pos : Pos} {a : Expr} {es : List Expr} {f : En → Out (List Rv)} {k n : Nat} {φ : List D → Res} (hK : X.K = c.K) (G : Kn X.prog X.w X.mg X.base c k x n φ) (g : Quiet X.A) (r : Room k X.A) (tk : Takes X W) (ha : DA X c mv W (a :: es) f) (hn : Many n f) (hg : Gl X x)
    (hdb : (x == ("__debug__" : Str)) = false := by decide) (he : starEach (a :: es) X.env = (false, eval a X.env) :: starEach es X.env := by rfl) (hpl : (backTo pos (starEach es X.env)).any (·.1) = false := by rfl) :
    DE X c mv W (.Call (.Name x p) (a :: es) [] pos) (eRead φ f) := by
  obtain ⟨fa, fd, ps, F, hm, hk, hb⟩ := G.ex
  rw [← hK] at F hk hb
  refine pe_imp (pe_callG F g r hg hm hk hb tk ha hdb he hpl) fun σ H Q h => ?_
  obtain ⟨F, fp, e, s, E, p⟩ := h
  refine ⟨F, fp, e, s, E, Po.seq (R1 := rvsR c mv) p fun rs e1 F1 H1 f1 q1 vs hq s1 E1 r1 d1 p1 => ?_⟩
  have hl : ∀ {fq : List Addr} {vs : List V} {rs : List Rv}, RvAll c mv F1 H1 σ fq vs rs → vs.length = rs.length := fun {fq vs rs} h => by
    induction h with
    | nil => rfl
    | cons _ _ _ ih => rw [List.length_cons, List.length_cons, ih]
  cases z : fixAll e1 rs with
  | none => rw [z] at p1; exact p1.elim
  | some y =>
    obtain ⟨ds, e2⟩ := y
    rw [z] at p1
    simp only at p1
    obtain ⟨F1', f1', s1', k1, E1', m1⟩ := fixAll_ok s1.fh E1 r1 d1 z
    refine ⟨(hl r1).trans (hn _ _ _ hq), F1', ds, s1'.fh, k1, ?_⟩
    cases z2 : φ ds with
    | no => rw [z2] at p1; exact p1.elim
    | ex x => rw [z2] at p1; exact p1.elim
    | ok o =>
      rw [z2] at p1
      cases o with
      | fz d =>
        simp only at p1
        cases zs : noL d with
        | false => rw [zs] at p1; exact p1.elim
        | true =>
          rw [zs] at p1
          intro F2 H2 q2 v s2 h2
          have keep : ∀ b o, H1 b = some o → H2 b = some o := fun b o e => s2.keep b o e fun z => nomatch z
          have ff2 : Sub F1 F2 := s1'.ff.trans s2.ff
          let G : Hp := fun b => if isT (F2 b) then F2 b else F1 b
          have Gt : ∀ a xs, F2 a = some (.tup xs) → G a = some (.tup xs) := fun a xs h => by
            show (if isT (F2 a) then F2 a else F1 a) = _
            rw [h]; rfl
          have Gf : ∀ b w, F1 b = some w → G b = some w := fun b w h => by
            show (if isT (F2 b) then F2 b else F1 b) = _
            split
            · exact ff2 b w h
            · exact h
          have st : ∀ fr, Stp F1 H1 fr G H2 fr := fun fr => ⟨fun b w h => by
              have h' : (if isT (F2 b) then F2 b else F1 b) = some w := h
              split at h'
              · exact s2.fh b w h'
              · exact keep b w (s1.fh b w h'), Gf, fun b w h _ => keep b w h, fun b hb n h nt => by
              show (if isT (F2 b) then F2 b else F1 b) = none
              split
              · rename_i ht
                exfalso
                cases q : F2 b with
                | none => rw [q] at ht; cases ht
                | some w =>
                  rw [q] at ht
                  cases w with
                  | tup xs =>
                    cases q1 : H1 b with
                    | none => exact hb q1
                    | some w1 =>
                      have e1 := keep b w1 q1
                      rw [s2.fh b _ q] at e1
                      cases e1
                      exact nt xs q1
                  | _ => cases ht
              · exact h, fun _ hb => .inl hb⟩
          exact Po.fz (st []).fh (E1.stp (st []) fun b hb z => nomatch z) (h2.out.less Gt zs) (fun b hb => List.mem_append_left _ hb) (Po.step p1 (st (f1 ++ q1)))
      | _ => exact p1.elim

/-! ### xs.clear() -/
def sClear (i : Nat) : SS := fun e => match e.sl[i]? with
  | some (some (.ow (.lst _))) => .nx (e.put i (.lst []))
  | _ => .no
theorem ds_clear {i : Nat} {x : Str} {px apos cpos pos : Pos} (hK : X.K = c.K) (hN : X.N[i]? = some x) (hv : Vis X.env.scope x) (hd : (x == ("__debug__" : Str)) = false := by decide) (hcd : (x == ("__classdict__" : Str)) = false := by decide)
    (hbase : attributeBase (.Name x px) "clear" X.env (eval (.Name x px) X.env) = eval (.Name x px) X.env := by rfl) (hline : (apos.endLine == cpos.line) = true := by rfl)
    (hsw : swapsWith (.Call (.Attribute (.Name x px) "clear" apos) [] [] cpos) none pos.line X.env = pure false := by rfl) :
    DS X c mv W (.Expr (.Call (.Attribute (.Name x px) "clear" apos) [] [] cpos) pos) (sClear i) := by
  refine ps_imp (ps_expr (pe_bm0 PySem.F.plainAttrs_list PySem.F.slot_list_clear (by first | exact PySem.F.type_list_clear | decide +kernel | rfl) mt_clear (pe_var hN hv hd hcd) hbase hline) hsw) fun D σ H ⟨F, fp, e, s, E, p⟩ => ?_
  unfold sClear at p
  split at p
  · rename_i os q
    obtain ⟨v, fo, fr, hv0, ho0, E3, d3, g3⟩ := E.take q
    cases ho0 with
    | @lst l fl xs _ hH hF hn hall =>
      refine ⟨_, hv0, .inl ⟨rfl, xs, by rw [hK]; exact SqL.of hH⟩, l, xs, rfl, rfl, hH, ?_⟩
      refine chg_ok (fp := fp) (fo := []) s hv0 E3 hF (by rw [hH]; intro q; cases q) (d3 l List.mem_cons_self) (fun b hb => nomatch hb) (.lst upd_same hF (fun z => nomatch z) .nil) (fun b hb => ?_) p
      rcases hb with h | h | h
      · exact (g3 b).mpr (.inr h)
      · subst h; exact (g3 _).mpr (.inl List.mem_cons_self)
      · cases h
  · exact p.elim
end
end DL

set_option Elab.async false
set_option linter.all false
set_option maxRecDepth 100000
set_option maxHeartbeats 2000000
/-! DL, part mC: C() of a class with __init__; a tree of such; a place within it told by a method, then changed. -/
namespace DL
open PySem L2 PySem.Spec PyProof.Rows
section
variable {X : Cx} {c : Cs} {mv : V} {W : WX}

/-! ### C() -/
def tMakeG (C : Addr) (sp : Sp) (W : WX) : TE := fun σ H Q => ∀ x dx, H x = none → H dx = none → dx ≠ x →
  sp [.ref x] (upd (upd H dx (.own x)) x (.ins C dx [])) (fun v H2 => v = .non ∧ Q (.ref x) H2) (WE W σ)
theorem quiet_make {A : Around} {C : Addr} {us : List Value} {kw : List (Str × Value)} (g : Quiet A) : Quiet (A.under (.builtin "type.__call__" ⟨.ref C :: us, kw⟩)) := by
  unfold Quiet at g ⊢
  first
    | exact g
    | simpa [Around.under, Code.isGuard, guardIds, Code.isCaller, Code.isCreation] using g
theorem pe_makeG0 {C f : Addr} {k : Nat} {fd : FuncData} {ps : List Str} {sp : Sp} {x : Str} {p pos : Pos} (M : Mk X.K C f) (F : FnG X.prog X.w X.K X.mg X.base k f fd ps sp) (g : Quiet X.A) (r : Room (k + 1) X.A) (hg : Gl X x) (hm : X.mg x = some (.ref C))
    (hb : Binds X.K fd ps []) (tk : Takes X W) (hdb : (x == ("__debug__" : Str)) = false := by decide) : PE X (.Call (.Name x p) [] [] pos) (tMakeG C sp W) := by
  constructor
  intro pins s σ H Q I h
  refine wpAny_Call_Name_kw (ld_glob I hg hm ?_ hdb)
  refine PySem.W.callWith_K0 I.kIn M.kp ?_
  have hq := h (s.heap.objs.size + 1) s.heap.objs.size (I.hok.fresh (Nat.le_succ _)) (I.hok.fresh (Nat.le_refl _)) (Nat.ne_of_lt (Nat.lt_succ_self _))
  have I2 := Inv.made (C := C) I
  have r2 : Vals [V.ref (s.heap.objs.size + 1)] [Value.ref (s.heap.objs.size + 1)] := .cons rfl .nil
  have hl : ([Value.ref (s.heap.objs.size + 1)] ++ []).length = ps.length := by
    rw [List.append_nil, ← r2.length]
    exact F.len _ _ _ _ hq
  have b := hb _ [Value.ref (s.heap.objs.size + 1)] I2.kIn hl
  rw [List.append_nil] at b
  refine wpAny_call (make_map (f := f) I.kIn M.makes M.init (beq_iff_eq.mp M.fn) (codeAny_mono (F.run _ X.stack _ _ ⟨[Value.ref (s.heap.objs.size + 1)], []⟩ [Value.ref (s.heap.objs.size + 1)] [V.ref (s.heap.objs.size + 1)] _ (WE W σ) (quiet_make g) (r.make C [] [])
    (I2.env0.make C [] []) b r2 hq) fun r s' hq' => ?_))
  cases r with
  | error e => exact passAt tk σ pins _ _ e s' I2 hq'
  | ok fl =>
    cases fl with
    | ret u =>
      obtain ⟨v, H', I3, rv, ev, q3⟩ := I2.after hq'
      subst ev
      exact ⟨rv, ⟨V.ref (s.heap.objs.size + 1), H', I3, rfl, q3⟩⟩
    | next => exact False.elim hq'
    | brk => exact False.elim hq'
    | cont => exact False.elim hq'

/-! ### the tree -/
def spotO (r : D) (ks : List Key) (os : List O) : O := .obj "Spot" ["row", "inner"] [.fz r, .dK ks os]
def spot0 : O := spotO .non [] []
def sFlds (r : V) (d : Addr) : List (Str × V) := [("row", r), ("inner", .ref d)]
theorem row_inner : ¬ (("row" : Str) = "inner") := by decide +kernel
theorem flds_row {r : V} {d : Addr} : (sFlds r d).lookup ("row" : Str) = some r := by simp [sFlds, List.lookup]
theorem flds_inner {r : V} {d : Addr} : (sFlds r d).lookup ("inner" : Str) = some (.ref d) := by
  have : (("inner" : Str) == "row") = false := by decide +kernel
  simp [sFlds, List.lookup, this]
theorem flds_put {r x : V} {d : Addr} : putF "row" x (sFlds r d) = sFlds x d := by
  unfold sFlds
  show (if ("row" : Str) = "row" then _ else _) = _
  rw [if_pos rfl]
theorem flds_no {r : V} {d : Addr} {m : Str} (h1 : ¬ m = "row") (h2 : ¬ m = "inner") : (sFlds r d).lookup m = none := by
  have e1 : (m == ("row" : Str)) = false := by simpa using h1
  have e2 : (m == ("inner" : Str)) = false := by simpa using h2
  simp [sFlds, List.lookup, e1, e2]
def spInit (C : Addr) : Sp := fun vs H Q _ => ∃ x dx, vs = [.ref x] ∧ H x = some (.ins C dx []) ∧ ∀ d, H d = none →
  Q .non (upd (upd (upd H x (.ins C dx [("row", .non)])) d (.dK [])) x (.ins C dx (sFlds .non d)))
structure SpotK (P : Program) (w : World) (mg : Str → Option Value) (base : Heap) (c : Cs) (k : Nat) : Prop where
  ex : ∃ (C f : Addr) (fd : FuncData), c.ca "Spot" = some C ∧ mg "Spot" = some (.ref C) ∧ Cls c.K C ∧ NoAttr c.K C "row" ∧ NoAttr c.K C "inner" ∧ Mk c.K C f ∧ FnG P w c.K mg base k f fd ["self"] (spInit C) ∧ Binds c.K fd ["self"] []
theorem spot_made {F H : Hp} {x dx d C : Addr} (s : Sub F H) (hx : H x = none) (hdx : H dx = none) (ne : dx ≠ x) (hd : upd (upd H dx (.own x)) x (.ins C dx []) d = none) (hc : c.ca "Spot" = some C) :
    ∃ H', H' = upd (upd (upd (upd (upd H dx (.own x)) x (.ins C dx [])) x (.ins C dx [("row", .non)])) d (.dK [])) x (.ins C dx (sFlds .non d)) ∧ Stp F H [] F H' [x, d] ∧ Ow c F H' [x, d] (.ref x) spot0 := by
  have nx : d ≠ x := fun z => by subst z; rw [upd_same] at hd; cases hd
  rw [upd_ne nx] at hd
  have ndx : d ≠ dx := fun z => by subst z; rw [upd_same] at hd; cases hd
  rw [upd_ne ndx] at hd
  have fx : F x = none := by
    cases q : F x with
    | none => rfl
    | some u => have := s _ _ q; rw [hx] at this; cases this
  have fd : F d = none := by
    cases q : F d with
    | none => rfl
    | some u => have := s _ _ q; rw [hd] at this; cases this
  have old : ∀ b o, H b = some o → upd (upd (upd (upd (upd H dx (.own x)) x (.ins C dx [])) x (.ins C dx [("row", .non)])) d (.dK [])) x (.ins C dx (sFlds .non d)) b = some o := fun b o h => by
    rw [upd_ne (ne_of_none h hx), upd_ne (ne_of_none h hd), upd_ne (ne_of_none h hx), upd_ne (ne_of_none h hx), upd_ne (ne_of_none h hdx)]
    exact h
  refine ⟨_, rfl, ⟨fun b o h => old b o (s b o h), Sub.refl F, fun b o h _ => old b o h, fun _ _ _ h _ => h, fun b hb => ?_⟩, ?_⟩
  · right
    rcases List.mem_cons.mp hb with h | h
    · subst h; exact hx
    · rw [List.mem_singleton] at h; subst h; exact hd
  · refine Ow.obj (fp := [d]) hc upd_same fx (by simp [nx.symm]) rfl ?_
    have h1 : Ow c F (upd (upd (upd (upd (upd H dx (.own x)) x (.ins C dx [])) x (.ins C dx [("row", .non)])) d (.dK [])) x (.ins C dx (sFlds .non d))) [d] (.ref d) (.dK [] []) :=
      Ow.dK (fp := []) (kvs := []) (by rw [upd_ne nx, upd_same]) fd (by simp) rfl .nil
    have h2 := OwAll.cons (fp := []) (fq := [d] ++ []) (Ow.fz (c := c) (F := F) (H := upd (upd (upd (upd (upd H dx (.own x)) x (.ins C dx [])) x (.ins C dx [("row", .non)])) d (.dK [])) x (.ins C dx (sFlds .non d))) Fz.non) (OwAll.cons h1 .nil (fun b hb z => nomatch z)) (fun b hb => nomatch hb)
    exact h2
theorem init_run {σ : L2.St} {F H : Hp} {C : Addr} {Q : VK} (s : Sub F H) (hc : c.ca "Spot" = some C) (h : ∀ x d H', Stp F H [] F H' [x, d] → Ow c F H' [x, d] (.ref x) spot0 → Q (.ref x) H') : tMakeG C (spInit C) W σ H Q := fun x dx hx hdx ne =>
  ⟨x, dx, rfl, upd_same, fun d hd => ⟨rfl, by
    obtain ⟨H', e, st, ow⟩ := spot_made (c := c) s hx hdx ne hd hc
    rw [← e]
    exact h x d H' st ow⟩⟩
def eSpot : En → Out Rv := fun e => .ok (.tm spot0) e
theorem eSpot_k {sl : List (Option Sl)} {me : O} : eSpot ⟨sl, me⟩ = .ok (.tm spot0) ⟨sl, me⟩ := id rfl
theorem de_spot {k : Nat} {p pos : Pos} (hK : X.K = c.K) (S : SpotK X.prog X.w X.mg X.base c k) (g : Quiet X.A) (r : Room (k + 1) X.A) (hg : Gl X "Spot") (tk : Takes X W) : DE X c mv W (.Call (.Name "Spot" p) [] [] pos) eSpot := by
  obtain ⟨C, f, fd, hca, hm, _, _, _, M, F, hb⟩ := S.ex
  rw [← hK] at F M hb
  refine pe_imp (pe_makeG0 M F g r hg hm hb tk (by decide)) fun σ H Q ⟨F0, fp, e, s, E, p⟩ => init_run s hca fun x d H' st ow => ?_
  obtain ⟨s6, d6⟩ := st.beside (fp := fp) E.has
  exact p F0 H' fp [x, d] (.ref x) s6 (E.stp st fun b hb z => nomatch z) (.tm ow) d6
end
end DL

set_option Elab.async false
set_option linter.all false
set_option maxRecDepth 100000
set_option maxHeartbeats 2000000
/-! DL, part mD: a place within a tree, and the tree round it. -/
namespace DL
open PySem L2 PySem.Spec PyProof.Rows
section
variable {X : Cx} {c : Cs} {mv : V} {W : WX} {F G F' H H' : Hp} {fp fp' fr fq : List Addr}

/-- one of a row, and the row round it -/
theorem OwAll.zip : ∀ {fp : List Addr} {vs : List V} {os : List O} {j : Nat} {o : O}, OwAll c F H fp vs os → os[j]? = some o →
    ∃ (v : V) (fo fr : List Addr), vs[j]? = some v ∧ Ow c F H fo v o ∧ (∀ b ∈ fo, b ∉ fr) ∧ (∀ b, b ∈ fp ↔ b ∈ fo ∨ b ∈ fr) ∧ ∀ (F' H' : Hp) (fo' : List Addr) (o' : O), Sub F F' → (∀ b ∈ fr, F' b = none) → (∀ b ∈ fr, H' b = H b) → Ow c F' H' fo' v o' → (∀ b ∈ fo', b ∉ fr) →
      ∃ fp' : List Addr, OwAll c F' H' fp' vs (os.set j o') ∧ ∀ b, b ∈ fp' ↔ b ∈ fo' ∨ b ∈ fr
  | _, _, _, _, _, .nil, e => by simp at e
  | _, _, _, 0, _, .cons (fp := fa) (fq := fb) (v := v) h r z, e => by
    simp at e; subst e
    exact ⟨v, fa, fb, rfl, h, z, fun b => List.mem_append, fun F' H' fo' o' s g q h' d => ⟨fo' ++ fb, .cons h' (r.keep s g q) d, fun b => List.mem_append⟩⟩
  | _, _, _, j + 1, _, .cons (fp := fa) (fq := fb) (v := v0) (o := o0) h r z, e => by
    obtain ⟨v, fo, fr, h1, h2, h3, h4, h5⟩ := OwAll.zip (j := j) r (by simpa using e)
    refine ⟨v, fo, fa ++ fr, by simpa using h1, h2, fun b hb q => ?_, fun b => ?_, fun F' H' fo' o' s g q h' d => ?_⟩
    · rcases List.mem_append.mp q with w | w
      · exact z b w ((h4 b).mpr (.inl hb))
      · exact h3 b hb w
    · rw [List.mem_append, List.mem_append, h4 b]
      constructor
      · rintro (w | w | w)
        · exact .inr (.inl w)
        · exact .inl w
        · exact .inr (.inr w)
      · rintro (w | w | w)
        · exact .inr (.inl w)
        · exact .inl w
        · exact .inr (.inr w)
    · obtain ⟨fp', k1, k2⟩ := h5 F' H' fo' o' s (fun b hb => g b (List.mem_append_right _ hb)) (fun b hb => q b (List.mem_append_right _ hb)) h' fun b hb w => d b hb (List.mem_append_right _ w)
      refine ⟨fa ++ fp', .cons (h.keep s (fun b hb => g b (List.mem_append_left _ hb)) fun b hb => q b (List.mem_append_left _ hb)) k1 fun b hb w => ?_, fun b => ?_⟩
      · rcases (k2 b).mp w with w | w
        · exact d b w (List.mem_append_left _ hb)
        · exact z b hb ((h4 b).mpr (.inr w))
      · rw [List.mem_append, List.mem_append, k2 b]
        constructor
        · rintro (w | w | w)
          · exact .inr (.inl w)
          · exact .inl w
          · exact .inr (.inr w)
        · rintro (w | w | w)
          · exact .inr (.inl w)
          · exact .inl w
          · exact .inr (.inr w)

/-- what is round v within the tree at va -/
structure Wand (c : Cs) (F H : Hp) (fr : List Addr) (v va : V) (K : O → O) : Prop where
  has : ∀ b ∈ fr, F b = none ∧ H b ≠ none
  nt : ∀ b ∈ fr, ∀ xs, H b ≠ some (.tup xs)
  go : ∀ F' H' fo N, Sub F F' → (∀ b ∈ fr, F' b = none) → (∀ b ∈ fr, H' b = H b) → Ow c F' H' fo v N → (∀ b ∈ fo, b ∉ fr) → ∃ fp, Ow c F' H' fp va (K N) ∧ ∀ b ∈ fp, b ∈ fo ∨ b ∈ fr
theorem Wand.id {v : V} : Wand c F H [] v v id := ⟨(fun _ h => nomatch h), (fun _ h => nomatch h), fun F' H' fo N _ _ _ h _ => ⟨fo, h, fun b hb => .inl hb⟩⟩
theorem Wand.stp {v va : V} {K : O → O} (w : Wand c F H fr v va K) (s : Stp F H fp F' H' fp') (d : ∀ b ∈ fr, b ∉ fp) : Wand c F' H' fr v va K := by
  have sm := s.same (fun b hb => (w.has b hb).2) d
  have nf : ∀ b ∈ fr, F' b = none := fun b hb => s.newF b (w.has b hb).2 (d b hb) (w.has b hb).1 (w.nt b hb)
  refine ⟨fun b hb => ⟨nf b hb, by rw [sm b hb]; exact (w.has b hb).2⟩, fun b hb => by rw [sm b hb]; exact w.nt b hb, fun F2 H2 fo N s2 g q h d2 => ?_⟩
  exact w.go F2 H2 fo N (s.ff.trans s2) g (fun b hb => (q b hb).trans (sm b hb)) h d2

/-! ### a spot taken apart, put together -/
theorem spot_out {a : Addr} {r : D} {ks : List Key} {os : List O} (h : Ow c F H fp (.ref a) (spotO r ks os)) : ∃ C dx d rv kvs fq, c.ca "Spot" = some C ∧ H a = some (.ins C dx (sFlds rv d)) ∧ F a = none ∧ Fz c F rv r ∧ H d = some (.dK kvs) ∧ F d = none ∧ a ≠ d ∧
    kvs.map (·.1) = ks ∧ OwAll c F H fq (kvs.map (·.2)) os ∧ a ∉ fq ∧ d ∉ fq ∧ fp = a :: d :: fq := by
  unfold spotO at h
  cases h with
  | @obj _ C dx fp fs _ _ _ hca hH hF na hns hall =>
    match fs, hns with
    | [(f1, v1), (f2, v2)], hns =>
      simp only [List.map_cons, List.map_nil, List.cons.injEq, and_true] at hns
      obtain ⟨rfl, rfl⟩ := hns
      simp only [List.map_cons, List.map_nil] at hall
      generalize hfp : fp = ff at hall
      cases hall with
      | @cons _ _ _ _ f1 f2 h1 r1 z1 =>
        cases h1 with
        | fz hz =>
          generalize hf2 : f2 = fg at r1
          cases r1 with
          | @cons _ _ _ _ f3 f4 h2 r2 z2 =>
            cases r2
            cases h2 with
            | @dK d fq kvs _ _ hd fd nd hk ha =>
              subst hf2
              subst hfp
              simp only [List.nil_append, List.append_nil, List.mem_cons, not_or] at na ⊢
              exact ⟨C, dx, d, v1, kvs, fq, hca, hH, hF, hz, hd, fd, na.1, hk, ha, na.2, nd, rfl⟩
theorem spot_in {a C dx d : Addr} {rv : V} {kvs : List (Key × V)} {r : D} {ks : List Key} {os : List O} (hc : c.ca "Spot" = some C) (ha : H a = some (.ins C dx (sFlds rv d))) (fa : F a = none) (hz : Fz c F rv r) (hd : H d = some (.dK kvs)) (fd : F d = none) (ne : a ≠ d)
    (hk : kvs.map (·.1) = ks) (hall : OwAll c F H fq (kvs.map (·.2)) os) (na : a ∉ fq) (nd : d ∉ fq) : Ow c F H (a :: d :: fq) (.ref a) (spotO r ks os) := by
  refine Ow.obj (fp := d :: fq) hc ha fa (by simp [ne, na]) rfl ?_
  have h1 : Ow c F H (d :: fq) (.ref d) (.dK ks os) := .dK hd fd nd hk hall
  have h2 := OwAll.cons (fp := []) (fq := (d :: fq) ++ []) (.fz hz) (OwAll.cons h1 .nil (fun b hb z => nomatch z)) (fun b hb => nomatch hb)
  rw [List.append_nil] at h2
  exact h2
theorem spot_ref {v : V} {r : D} {ks : List Key} {os : List O} (h : Ow c F H fp v (spotO r ks os)) : ∃ a, v = .ref a := by
  unfold spotO at h
  cases h with
  | obj => exact ⟨_, rfl⟩

/-! ### the way to a place -/
def idxK : List Key → Key → Option Nat
  | [], _ => none
  | a :: ks, k => if a = k then some 0 else (idxK ks k).map (· + 1)
theorem idxK_some : ∀ {kvs : List (Key × V)} {k : Key} {i : Nat}, idxK (kvs.map (·.1)) k = some i → ∃ v, kvs[i]? = some (k, v) ∧ valV kvs k = some v
  | [], _, _, h => by cases h
  | (a, v) :: kvs, k, i, h => by
    simp only [List.map_cons, idxK] at h
    by_cases e : a = k
    · rw [if_pos e] at h
      cases h
      subst e
      exact ⟨v, rfl, valV_pos rfl⟩
    · rw [if_neg e] at h
      cases q : idxK (kvs.map (·.1)) k with
      | none => rw [q] at h; cases h
      | some j =>
        rw [q] at h
        cases h
        obtain ⟨u, h1, h2⟩ := idxK_some q
        refine ⟨u, by simpa using h1, ?_⟩
        rw [← h2]
        unfold valV
        simp [List.find?_cons, e]
theorem idxK_none : ∀ {kvs : List (Key × V)} {k : Key}, idxK (kvs.map (·.1)) k = none → valV kvs k = none
  | [], _, _ => rfl
  | (a, v) :: kvs, k, h => by
    simp only [List.map_cons, idxK] at h
    by_cases e : a = k
    · rw [if_pos e] at h; cases h
    · rw [if_neg e] at h
      cases q : idxK (kvs.map (·.1)) k with
      | some j => rw [q] at h; cases h
      | none =>
        rw [← idxK_none q]
        unfold valV
        simp [List.find?_cons, e]
def grow (k : Key) (ks : List Key) (os : List O) : List Key × List O × Nat := match idxK ks k with
  | some i => (ks, os, i)
  | none => (ks ++ [k], os ++ [spot0], ks.length)
def descend : List D → O → Option (O × (O → O))
  | [], T => some (T, id)
  | .str n :: ns, .obj cls fs [.fz r, .dK ks os] => if cls = "Spot" ∧ fs = (["row", "inner"] : List Str) ∧ ks.length < 1000 then
      match (grow (.inr n) ks os).2.1[(grow (.inr n) ks os).2.2]? with
      | some T1 => (descend ns T1).map fun y => (y.1, fun N => spotO r (grow (.inr n) ks os).1 ((grow (.inr n) ks os).2.1.set (grow (.inr n) ks os).2.2 (y.2 N)))
      | none => none
    else none
  | _, _ => none
/-- a spot's child -/
theorem spot_child {a : Addr} {r : D} {ks : List Key} {os : List O} {i : Nat} {T1 : O} {va : V} {K : O → O} (h : Ow c F H fp (.ref a) (spotO r ks os)) (hi : os[i]? = some T1) (w : Wand c F H fr (.ref a) va K) (dj : ∀ b ∈ fp, b ∉ fr) :
    ∃ C dx d rv kvs v k f1 fr1, H a = some (.ins C dx (sFlds rv d)) ∧ H d = some (.dK kvs) ∧ kvs.map (·.1) = ks ∧ kvs[i]? = some (k, v) ∧ Ow c F H f1 v T1 ∧ Wand c F H fr1 v va (fun N => K (spotO r ks (os.set i N))) ∧ (∀ b ∈ f1, b ∉ fr1) ∧ ∀ b, b ∈ f1 ∨ b ∈ fr1 ↔ b ∈ fp ∨ b ∈ fr := by
  have hh := h.has
  have hn := h.nt
  obtain ⟨C, dx, d, rv, kvs, fq, hca, hH, hF, hz, hd, fd, ne, hk, ha, na, nd, rfl⟩ := spot_out h
  obtain ⟨v, f1, f2, g1, g2, g3, g4, g5⟩ := ha.zip hi
  rw [List.getElem?_map] at g1
  cases q : kvs[i]? with
  | none => rw [q] at g1; cases g1
  | some kv =>
    rw [q] at g1
    obtain ⟨k, v'⟩ := kv
    cases g1
    have mem : ∀ b, b ∈ f1 ∨ b ∈ a :: d :: (f2 ++ fr) ↔ b ∈ a :: d :: fq ∨ b ∈ fr := fun b => by
      simp only [List.mem_cons, List.mem_append, g4 b]
      constructor
      · rintro (h | h | h | h | h)
        · exact .inl (.inr (.inr (.inl h)))
        · exact .inl (.inl h)
        · exact .inl (.inr (.inl h))
        · exact .inl (.inr (.inr (.inr h)))
        · exact .inr h
      · rintro ((h | h | h | h) | h)
        · exact .inr (.inl h)
        · exact .inr (.inr (.inl h))
        · exact .inl h
        · exact .inr (.inr (.inr (.inl h)))
        · exact .inr (.inr (.inr (.inr h)))
    have inQ : ∀ b ∈ f2, b ∈ fq := fun b hb => (g4 b).mpr (.inr hb)
    have inQ1 : ∀ b ∈ f1, b ∈ fq := fun b hb => (g4 b).mpr (.inl hb)
    refine ⟨C, dx, d, rv, kvs, v', k, f1, a :: d :: (f2 ++ fr), hH, hd, hk, q, g2, ⟨fun b hb => ?_, fun b hb => ?_, fun F' H' fo N s g e hN dN => ?_⟩, fun b hb z => ?_, mem⟩
    · rcases (mem b).mp (.inr hb) with z | z
      · exact hh b z
      · exact w.has b z
    · rcases (mem b).mp (.inr hb) with z | z
      · exact hn b z
      · exact w.nt b z
    · have ga := g a List.mem_cons_self
      have gd := g d (List.mem_cons_of_mem _ List.mem_cons_self)
      have ea := (e a List.mem_cons_self).trans hH
      have ed := (e d (List.mem_cons_of_mem _ List.mem_cons_self)).trans hd
      have t2 : ∀ b ∈ f2, b ∈ a :: d :: (f2 ++ fr) := fun b hb => List.mem_cons_of_mem _ (List.mem_cons_of_mem _ (List.mem_append_left _ hb))
      have tr : ∀ b ∈ fr, b ∈ a :: d :: (f2 ++ fr) := fun b hb => List.mem_cons_of_mem _ (List.mem_cons_of_mem _ (List.mem_append_right _ hb))
      obtain ⟨fp', k1, k2⟩ := g5 F' H' fo N s (fun b hb => g b (t2 b hb)) (fun b hb => e b (t2 b hb)) hN fun b hb z => dN b hb (t2 b z)
      have na' : a ∉ fp' := fun z => ((k2 a).mp z).elim (fun y => dN a y List.mem_cons_self) fun y => na (inQ a y)
      have nd' : d ∉ fp' := fun z => ((k2 d).mp z).elim (fun y => dN d y (List.mem_cons_of_mem _ List.mem_cons_self)) fun y => nd (inQ d y)
      have sp : Ow c F' H' (a :: d :: fp') (.ref a) (spotO r ks (os.set i N)) := spot_in hca ea ga (hz.mono s) ed gd ne hk k1 na' nd'
      obtain ⟨f3, m1, m2⟩ := w.go F' H' (a :: d :: fp') _ s (fun b hb => g b (tr b hb)) (fun b hb => e b (tr b hb)) sp fun b hb z => by
        rcases List.mem_cons.mp hb with y | y
        · subst y; exact dj b List.mem_cons_self z
        · rcases List.mem_cons.mp y with y | y
          · subst y; exact dj b (List.mem_cons_of_mem _ List.mem_cons_self) z
          · rcases (k2 b).mp y with y | y
            · exact dN b y (tr b z)
            · exact dj b (List.mem_cons_of_mem _ (List.mem_cons_of_mem _ (inQ b y))) z
      refine ⟨f3, m1, fun b hb => ?_⟩
      rcases m2 b hb with y | y
      · rcases List.mem_cons.mp y with y | y
        · subst y; exact .inr List.mem_cons_self
        · rcases List.mem_cons.mp y with y | y
          · subst y; exact .inr (List.mem_cons_of_mem _ List.mem_cons_self)
          · rcases (k2 b).mp y with y | y
            · exact .inl y
            · exact .inr (t2 b y)
      · exact .inr (tr b y)
    · rcases List.mem_cons.mp z with y | y
      · subst y; exact na (inQ1 b hb)
      · rcases List.mem_cons.mp y with y | y
        · subst y; exact nd (inQ1 b hb)
        · rcases List.mem_append.mp y with y | y
          · exact g3 b hb y
          · exact dj b (List.mem_cons_of_mem _ (List.mem_cons_of_mem _ (inQ1 b hb))) y
/-- a child is laid -/
theorem grow_ok {F H H1 : Hp} {a x d' : Addr} {r : D} {ks : List Key} {os : List O} {k : Key} (h : Ow c F H fp (.ref a) (spotO r ks os)) (st : Stp F H [] F H1 [x, d']) (hx : Ow c F H1 [x, d'] (.ref x) spot0) :
    ∃ C dx d rv kvs, H1 a = some (.ins C dx (sFlds rv d)) ∧ H a = some (.ins C dx (sFlds rv d)) ∧ H1 d = some (.dK kvs) ∧ H d = some (.dK kvs) ∧ kvs.map (·.1) = ks ∧ c.ca "Spot" = some C ∧
      ∃ fp', Stp F H fp F (upd H1 d (.dK (kvs ++ [(k, .ref x)]))) fp' ∧ Ow c F (upd H1 d (.dK (kvs ++ [(k, .ref x)]))) fp' (.ref a) (spotO r (ks ++ [k]) (os ++ [spot0])) := by
  have hh := h.has
  obtain ⟨C, dx, d, rv, kvs, fq, hca, hH, hF, hz, hd, fd, ne, hk, ha, na, nd, rfl⟩ := spot_out h
  have eA := st.keep a _ hH fun z => nomatch z
  have eD := st.keep d _ hd fun z => nomatch z
  have new : ∀ b ∈ [x, d'], H b = none := fun b hb => (st.newP b hb).resolve_left fun z => nomatch z
  have dN : ∀ b ∈ [x, d'], b ≠ d := fun b hb z => by subst z; have := new b hb; rw [hd] at this; cases this
  have dA : ∀ b ∈ [x, d'], b ≠ a := fun b hb z => by subst z; have := new b hb; rw [hH] at this; cases this
  have ha1 : OwAll c F H1 fq (kvs.map (·.2)) os := st.owAll ha fun b hb z => nomatch z
  have ha2 : OwAll c F (upd H1 d (.dK (kvs ++ [(k, .ref x)]))) fq (kvs.map (·.2)) os := ha1.keep (Sub.refl F) (fun b hb => (ha.has b hb).1) fun b hb => upd_ne fun z => by subst z; exact nd hb
  have hx2 : Ow c F (upd H1 d (.dK (kvs ++ [(k, .ref x)]))) [x, d'] (.ref x) spot0 := hx.keep (Sub.refl F) (fun b hb => (hx.has b hb).1) fun b hb => upd_ne (dN b hb)
  have all := ha2.append (OwAll.cons hx2 .nil fun b hb z => nomatch z) fun b hb z => by
    rw [List.append_nil] at z
    exact (hh b (List.mem_cons_of_mem _ (List.mem_cons_of_mem _ hb))).2 (new b z)
  have e2 : kvs.map (·.2) ++ [V.ref x] = (kvs ++ [(k, V.ref x)]).map (·.2) := by simp
  rw [e2] at all
  refine ⟨C, dx, d, rv, kvs, eA, hH, eD, hd, hk, hca, a :: d :: (fq ++ ([x, d'] ++ [])), ?_, spot_in hca (by rw [upd_ne ne]; exact eA) hF hz upd_same fd ne (by rw [List.map_append, hk]; rfl) all (fun z => ?_) fun z => ?_⟩
  · have s1 : Stp F H (a :: d :: fq) F H1 (a :: d :: fq ++ [x, d']) := by
      obtain ⟨s6, _⟩ := st.beside (fp := a :: d :: fq) hh
      exact s6
    have s2 : Stp F H1 (a :: d :: fq ++ [x, d']) F (upd H1 d (.dK (kvs ++ [(k, .ref x)]))) (a :: d :: fq ++ [x, d']) := Stp.chg st.fh (by simp) fd
    have s3 := s1.trans s2
    rw [List.append_nil]
    exact s3
  · rw [List.append_nil] at z
    rcases List.mem_append.mp z with z | z
    · exact na z
    · exact dA a z rfl
  · rw [List.append_nil] at z
    rcases List.mem_append.mp z with z | z
    · exact nd z
    · exact dN d z rfl
/-- a place told -/
def spWithin (c : Cs) : Sp := fun vs H Q _ => ∃ va p F fp T ds b N K, vs = [va, p] ∧ Sub F H ∧ Ow c F H fp va T ∧ Fz c F p (.tup b ds) ∧ descend ds T = some (N, K) ∧
  ∀ F' H' fo fr v, Stp F H fp F' H' (fo ++ fr) → Ow c F' H' fo v N → Wand c F' H' fr v va K → (∀ b ∈ fo, b ∉ fr) → Q v H'
/-- what is to be done behind a part of the way -/
def Way (c : Cs) (va : V) (ds : List D) (T : O) (K : O → O) (F H : Hp) (fo fr : List Addr) (Q : VK) : Prop := ∃ N K', descend ds T = some (N, K') ∧
  ∀ F' H' fo' fr' v, Stp F H (fo ++ fr) F' H' (fo' ++ fr') → Ow c F' H' fo' v N → Wand c F' H' fr' v va (fun y => K (K' y)) → (∀ b ∈ fo', b ∉ fr') → Q v H'
theorem way_in {va v : V} {d : D} {ds : List D} {T : O} {K : O → O} {fo fr : List Addr} {Q : VK} (w : Way c va (d :: ds) T K F H fo fr Q) (hT : Ow c F H fo v T) : ∃ n r ks os T1, d = .str n ∧ T = spotO r ks os ∧ ks.length < 1000 ∧
    (grow (.inr n) ks os).2.1[(grow (.inr n) ks os).2.2]? = some T1 ∧ ∀ F' H' fo' fr', Stp F H (fo ++ fr) F' H' (fo' ++ fr') →
      Way c va ds T1 (fun N => K (spotO r (grow (.inr n) ks os).1 ((grow (.inr n) ks os).2.1.set (grow (.inr n) ks os).2.2 N))) F' H' fo' fr' Q := by
  obtain ⟨N, K', h, q⟩ := w
  unfold descend at h
  split at h
  · rename_i e; cases e
  · rename_i n ns cls fs r ks os e
    cases e
    split at h
    · rename_i hc
      obtain ⟨rfl, rfl, hl⟩ := hc
      split at h
      · rename_i T1 hT1
        cases z : descend ds T1 with
        | none => rw [z] at h; cases h
        | some y =>
          rw [z] at h
          cases h
          exact ⟨n, r, ks, os, T1, rfl, rfl, hl, hT1, fun F' H' fo' fr' st => ⟨y.1, y.2, z, fun F2 H2 fo2 fr2 v2 s2 => q F2 H2 fo2 fr2 v2 (st.trans s2)⟩⟩
      · cases h
    · cases h
  · cases h
end
end DL

set_option Elab.async false
set_option linter.all false
set_option maxRecDepth 100000
set_option maxHeartbeats 2000000
/-! DL, part mE: a row put at its place in the tree. -/
namespace DL
open PySem L2 PySem.Spec PyProof.Rows
structure WithinK (P : Program) (w : World) (mg : Str → Option Value) (base : Heap) (c : Cs) (k : Nat) : Prop where
  ex : ∃ (C f : Addr) (fd : FuncData), c.ca "Spot" = some C ∧ Cls c.K C ∧ NoAttr c.K C "row" ∧ Meth c.K C "within" f ∧ FnG P w c.K mg base k f fd ["self", "place"] (spWithin c) ∧ Binds c.K fd ["self", "place"] []
def insT (ds : List D) (d : D) (T : O) : Option O := match descend ds T with
  | some (.obj cls fs [.fz _, .dK ks os], K) => if cls = "Spot" ∧ fs = (["row", "inner"] : List Str) then some (K (spotO d ks os)) else none
  | _ => none
def sIns (i j k : Nat) (f : En → Out Rv) : SS := fun e => match e.sl[i]? with
  | some (some (.ow (.obj cls fs _))) => if cls = "Spot" ∧ fs = (["row", "inner"] : List Str) ∧ j < e.sl.length then (f e).so fun r e1 => match fix e1 r with
      | some (.tup _ ds, e2) => match e2.sl[i]?, e2.sl[k]? with
        | some (some (.ow T)), some (some (.ow (.fz d))) => match insT ds d T with
          | some T' => .nx ((e2.hole j).put i T')
          | none => .no
        | _, _ => .no
      | _ => .no
    else .no
  | _ => .no
section
variable {X : Cx} {c : Cs} {mv : V} {W : WX}
theorem hole_hole {e : En} {i j : Nat} : (e.hole i).hole j = (e.hole j).hole i := by
  unfold En.hole
  by_cases h : i = j
  · subst h; rfl
  · simp only [List.set_comm _ _ h]
theorem dss_ins {i j k k0 : Nat} {et es er a : Expr} {xs : Str} {p1 p3 p4 p5 p7 p9 : Pos} {f : En → Out Rv} {pl : Sem Bool} (hK : X.K = c.K) (G : WithinK X.prog X.w X.mg X.base c k0) (gq : Quiet X.A) (r : Room k0 X.A) (tk : Takes X W)
    (hN : X.N.Nodup) (hj : X.N[j]? = some xs) (hx : Loc X.env.scope xs) (ht : PE X et (tVar i)) (hs : PE X es (tVar j)) (hr : PE X er (tVar k)) (ha : DE X c mv W a f) (nij : i ≠ j) (nkj : k ≠ j)
    (h1 : swapsWith (.Call (.Attribute et "within" p3) [a] [] p4) (some (.Name xs p1)) p5.line X.env = pure false := by rfl) (hf : X.fn xs = true ∨ X.env.scope.names.lookup xs = some .local := by first | exact .inl rfl | exact .inr rfl)
    (h2 : swapsWith er (some (.Attribute es "row" p7)) p9.line X.env = pure false := by rfl)
    (hst : starEach [a] X.env = (false, eval a X.env) :: starEach [] X.env := by rfl) (hpl : (backTo p4 (starEach [] X.env)).any (·.1) = false := by rfl)
    (hev : eval (.Call (.Attribute et "within" p3) [a] [] p4) X.env = (do
      let ov ← eval et X.env
      standAt p3.atName
      let (f, first) ← holding [ov] (getMethod ov "within" pl)
      callWith p4 f first (backTo p4 (starEach [a] X.env)) (backToKw p4 (keywordEach [] X.env))) := by rfl) :
    DSs X c mv W [.Assign [.Name xs p1] (.Call (.Attribute et "within" p3) [a] [] p4) p5, .Assign [.Attribute es "row" p7] er p9] (sIns i j k f) := by
  obtain ⟨C, fa, fd, hca, hcl, nr, hme, FG, hb⟩ := G.ex
  rw [← hK] at FG hcl hme hb nr
  refine pss_imp (pss_cons (ps_set (i := j) hN hj hx (pe_methG ht hcl hme FG gq r hb tk (pa_cons ha pa_nil hst) hst hpl hev) h1 hf) (pss_one (ps_fld hs hr h2))) fun D σ H ⟨F, fp, e, s, E, p⟩ => ?_
  unfold sIns at p
  split at p
  · rename_i cls fs os hsl
    split at p
    · rename_i hc
      obtain ⟨rfl, rfl, hlen⟩ := hc
      obtain ⟨v0, fo0, fr0, hv0, hT0, _⟩ := E.take hsl
      cases hT0 with
      | @obj a0 C0 dx0 _ fs0 _ _ _ hca0 hH0 _ _ hns0 _ =>
      rw [hca] at hca0
      cases hca0
      have nw : fs0.lookup ("within" : Str) = none := no_fld (by rw [hns0]; decide +kernel)
      refine ⟨.ref a0, hv0, a0, dx0, fs0, rfl, hH0, nw, ?_⟩
      refine then_ok (R := rvR c mv) ⟨F, fp, e, s, E, p⟩ fun F1 H1 f1 q1 e1 v r1 s1 E1 hr1 d1 p1 => ?_
      cases z : fix e1 r1 with
      | none => rw [z] at p1; exact p1.elim
      | some y =>
        obtain ⟨d0, e2⟩ := y
        rw [z] at p1
        obtain ⟨F2, f2, s2, k2, E2, m2⟩ := fix_ok s1 E1 hr1 d1 z
        cases d0 with
        | tup b ds =>
          simp only at p1
          split at p1
          · rename_i T d hi hk
            unfold insT at p1
            split at p1
            · rename_i T' hT'
              split at hT'
              · rename_i cls fs r0 ks os K hde
                split at hT'
                · rename_i hc
                  obtain ⟨rfl, rfl⟩ := hc
                  cases hT'
                  obtain ⟨vr, _, _, hvr, hor, _⟩ := E2.take hk
                  cases hor with
                  | fz hzr =>
                  obtain ⟨va, fo, fr, hva, hT, E3, dj3, mem3⟩ := E2.take hi
                  rw [hv0] at hva
                  cases hva
                  refine ⟨.ref a0, v, F2, fo, T, ds, b, _, K, rfl, s2.fh, hT, k2, hde, fun F3 H3 fo3 fr3 v3 st hN3 wd dj => ?_⟩
                  have hN3' : Ow c F3 H3 fo3 v3 (spotO r0 ks os) := hN3
                  obtain ⟨a3, rfl⟩ := spot_ref hN3'
                  obtain ⟨C3, dx, d3, rv, kvs, fq, hca3, hH, hF, hz, hd, fd3, ne, hkk, hall, na, nd, hfo⟩ := spot_out hN3'
                  rw [hca] at hca3
                  cases hca3
                  have in3 : a3 ∈ fo3 := by rw [hfo]; exact List.mem_cons_self
                  have hlj : j < σ.length := by
                    obtain ⟨_, _, _, hsl0, _⟩ := E.ex
                    rw [hsl0.length]; exact hlen
                  refine ⟨vr, ?_, .ref a3, ?_, a3, C, dx, _, rfl, hH, hcl, nr, (by show 2 < 1000; decide), ?_⟩
                  · rw [List.getElem?_set_ne nkj.symm]; exact hvr
                  · rw [List.getElem?_set_self hlj]
                  rw [flds_put]
                  have s4 : Stp F3 H3 (fo3 ++ fr3) F3 (upd H3 a3 (.ins C dx (sFlds vr d3))) (fo3 ++ fr3) := Stp.chg st.fh (List.mem_append_left _ in3) hF
                  have hN4 : Ow c F3 (upd H3 a3 (.ins C dx (sFlds vr d3))) fo3 (.ref a3) (spotO d ks os) := by
                    rw [hfo]
                    exact spot_in hca upd_same hF (hzr.mono st.ff) (by rw [upd_ne ne.symm]; exact hd) fd3 ne hkk (hall.keep (Sub.refl _) (fun b hb => (hall.has b hb).1) fun b hb => upd_ne fun z => by subst z; exact na hb) na nd
                  obtain ⟨fp5, g5, m5⟩ := wd.go F3 (upd H3 a3 (.ins C dx (sFlds vr d3))) fo3 _ (Sub.refl _) (fun b hb => (wd.has b hb).1) (fun b hb => upd_ne fun z => by subst z; exact dj b in3 hb) hN4 dj
                  have st4 := st.trans s4
                  have E4 := E3.stp st4 fun b hb z => dj3 b z hb
                  obtain ⟨f5, E5, m6⟩ := E4.drop (i := j)
                  rw [hole_hole] at E5
                  have E6 : EnvR c mv F3 (upd H3 a3 (.ins C dx (sFlds vr d3))) f5 (σ.set j (some (.ref a3))) ((e2.hole j).hole i) := E5.any (by rw [List.length_set]) fun j' x hx' => by
                    by_cases q : j' = j
                    · subst q
                      unfold En.hole at hx'
                      simp only at hx'
                      rw [List.getElem?_set_ne nij] at hx'
                      rw [List.getElem?_set] at hx'
                      simp only [if_true] at hx'
                      split at hx' <;> cases hx'
                    · rw [List.getElem?_set_ne (Ne.symm q)]
                  have apart : ∀ b ∈ fp5, b ∉ f5 := fun b hb z => by
                    rcases st4.newP b (List.mem_append.mpr (m5 b hb)) with y | y
                    · exact dj3 b y (m6 b z)
                    · exact (E3.has b (m6 b z)).2 y
                  obtain ⟨f7, E7, m7⟩ := E6.back g5 apart (by rw [List.getElem?_set_ne nij.symm]; exact hv0)
                  have big := (st4.more (fq := f5) fun b hb => (E3.has b (m6 b hb)).2)
                  have all : Stp F2 H1 f2 F3 (upd H3 a3 (.ins C dx (sFlds vr d3))) f7 := big.part (fun b hb => by
                    rcases List.mem_append.mp hb with y | y
                    · exact (mem3 b).mpr (.inl y)
                    · exact (mem3 b).mpr (.inr (m6 b y))) fun b hb => by
                    rcases List.mem_append.mp (m7 b hb) with y | y
                    · exact List.mem_append_right _ y
                    · exact List.mem_append_left _ (List.mem_append.mpr (m5 b y))
                  exact (PoS.step p1 s2) F3 _ f7 _ all E7
                · cases hT'
              · cases hT'
            · exact p1.elim
          · exact p1.elim
        | _ => exact p1.elim
    · exact p.elim
  · exact p.elim
end
end DL

set_option Elab.async false
set_option linter.all false
set_option maxRecDepth 100000
set_option maxHeartbeats 2000000
/-! DL, part mF: methods by their bodies; what is never reached. -/
namespace DL
open PySem L2 PySem.Spec PyProof.Rows
structure SrcM (c : Cs) (cls m qual : Str) (st : Stmt) (ps : List Str) : Prop where
  ex : ∃ (C f : Addr) (fd : FuncData), c.ca cls = some C ∧ Cls c.K C ∧ Meth c.K C m f ∧ Fun c.K m qual st f fd ∧ Binds c.K fd ps []
theorem srcM_mk {K : PySem.W.Frag} {ca : Str → Option Addr} {C f : Addr} {cls m qual : Str} {st : Stmt} {ps : List Str} {oc : Value} {od an : Option Addr} {osl : Array (Option Value)} {kV doc pm cdv ct : Value} (hca : ca cls = some C) (cl : Cls K C)
    (a : PySem.W.findIn K (.ref C) m = some (some (.ref f))) (i : PySem.W.isFn K (.ref f) = true) (l : K.lookup f = some ⟨oc, od, .func (PySem.W.fnOf m qual (defArgs st) (defBody st) (defScope st) .none kV doc pm an cdv ct), osl⟩)
    (cd : PySem.W.codeIn K cdv qual = true) (kp : PySem.W.keepIn K (.ref f) = true)
    (b : ∀ (kV doc pm : Value) (an : Option Addr) (cdv ct : Value) (us : List Value), us.length = ps.length → bindArgs (PySem.W.fnOf m qual (defArgs st) (defBody st) (defScope st) .none kV doc pm an cdv ct) ⟨us, []⟩ = pure (ps.zip us)) : SrcM ⟨K, ca⟩ cls m qual st ps :=
  ⟨C, f, _, hca, cl, ⟨a, i, kp⟩, fun_mk l cd kp, (fun_mk l cd kp).binds b⟩
section
variable {P : Program} {w : World} {mg : Str → Option Value} {base : Heap} {c : Cs} {j k n : Nat} {cls x qual : Str} {st : Stmt} {N ps : List Str} {g : SS} {φ : List D → Res}
theorem SrcM.kn (S : SrcM c cls x qual st ps) (sc : FnScope N ps (defScope st))
    (body : ∀ (f : Addr) (cdv : Value) (A : Around) (outer : List Env) (s : Shared) (H : Hp) (E : XK), Quiet (A.deeper (envOfC qual (defScope st) s.heap.objs.size f cdv)) → Room k (A.deeper (envOfC qual (defScope st) s.heap.objs.size f cdv)) →
      DSs (cxOf (L2.CX P w) P w c.K mg base N qual (defScope st) f cdv A outer s H E) c .non (fun cls d _ H => E cls d H) (defBody st) g) :
    KnM P w mg base c (k + 1) cls x ps.length (defSem N.length ps.length g) := by
  obtain ⟨C, f, fd, h1, h2, h3, F, hb⟩ := S.ex
  exact ⟨C, f, fd, ps, h1, h2, h3, defP F sc fun cdv A outer s H E gq r => body f cdv A outer s H E gq r, hb⟩
theorem KnM.up (h : KnM P w mg base c j cls x n φ) (hjk : j ≤ k) : KnM P w mg base c k cls x n φ := by
  obtain ⟨C, f, fd, ps, h1, h2, h3, F, r⟩ := h.ex
  exact ⟨C, f, fd, ps, h1, h2, h3, F.up hjk, r⟩
theorem SrcM.never (S : SrcM c cls x qual st ps) : KnM P w mg base c k cls x n DL.never := by
  obtain ⟨C, f, fd, h1, h2, h3, F, hb⟩ := S.ex
  refine ⟨C, f, fd, ps, h1, h2, h3, .never fun vs H Q E h => ?_, hb⟩
  obtain ⟨_, _, _, _, _, z⟩ := h
  exact z
theorem SpotK.up (h : SpotK P w mg base c j) (hjk : j ≤ k) : SpotK P w mg base c k := by
  obtain ⟨C, f, fd, h1, h2, h3, h4, h5, h6, F, r⟩ := h.ex
  exact ⟨C, f, fd, h1, h2, h3, h4, h5, h6, F.up hjk, r⟩
theorem WithinK.up (h : WithinK P w mg base c j) (hjk : j ≤ k) : WithinK P w mg base c k := by
  obtain ⟨C, f, fd, h1, h2, h3, h4, F, r⟩ := h.ex
  exact ⟨C, f, fd, h1, h2, h3, h4, F.up hjk, r⟩
end
section
variable {X : Cx} {c : Cs} {mv : V} {W : WX}
theorem dt_inT2 {a b : Expr} {f g : En → Out Rv} {pos : Pos} {k : Nat} (r : Room k X.A) (ha : DE X c mv W a f) (hb : DE X c mv W b g) (hm : behindInMarks .In b = false := by rfl) :
    DT X c mv W (.Compare a [.In] [b] pos) (tOf (eInT false f g)) := pt_imp (pt_cmp (pc_din (hu_of r) ha hb) hm) fun σ H Q h => inT_ok (neg := false) (tOf_ok h)
def sNever : SS := fun _ => .no
theorem sNever_k {sl : List (Option Sl)} {me : O} : sNever ⟨sl, me⟩ = .no := id rfl
theorem ds_never {st : Stmt} : DS X c mv W st sNever := ps_imp ps_never fun D σ H ⟨F, fp, e, s, E, p⟩ => p.elim
end
end DL

set_option Elab.async false
set_option linter.all false
set_option maxRecDepth 100000
set_option maxHeartbeats 2000000
/-! DL, part mG: the newer functions step by step. -/
namespace DL
open PySem L2 PySem.Spec PyProof.Rows
section
variable {sl : List (Option Sl)} {me : O} {i j k : Nat} {f g h fv fk : En → Out Rv} {cls fld m : Str} {φ : List D → Res} {a : En → Out (List Rv)} {neg : Bool} {t : TgS} {tt : En → Out Bool} {vs : List Nat}
theorem eNewT_k : eNewT ⟨sl, me⟩ = .ok (.tm (.dT [] [])) ⟨sl, me⟩ := id rfl
theorem eInT_k : eInT neg f g ⟨sl, me⟩ = (two f g ⟨sl, me⟩).bind fun rs e1 => match rs with
  | [rk, rd] => match look e1 rk with
    | none => .no
    | some kd => match keyT kd with
      | none => .no
      | some k => match treeOf e1 rd with
        | none => .no
        | some o => match lookOT o k with
          | none => .no
          | some r => .ok (.tm (.fz (.bl (if neg then !r.isSome else r.isSome)))) e1
  | _ => .no := id rfl
theorem eGet2T_k : eGet2T f g h ⟨sl, me⟩ = (f ⟨sl, me⟩).bind fun r e1 => if isDt (treeOf e1 r) then (g e1).bind fun rk e2 => match fix e2 rk with
    | none => .no
    | some (kd, e2') => match keyT kd with
      | none => .no
      | some k => (h e2').bind fun rx e3 => match fix e3 rx with
        | none => .no
        | some (dx, e4) => match treeOf e4 r with
          | none => .no
          | some o => match lookOT o k with
            | none => .no
            | some none => .ok (.tm (.fz dx)) e4
            | some (some d) => .ok (.tm (.fz d)) e4
  else .no := id rfl
theorem isDtOwn_k : isDtOwn ⟨sl, me⟩ i = (match sl[i]? with
  | some (some (.ow (.dT _ _))) => true
  | _ => false) := id rfl
theorem isDt_dT {ks : List (List Key)} {os : List O} : isDt (some (.dT ks os)) = true := id rfl
theorem isDt_fz {ks : List (List Key)} {ds : List D} : isDt (some (.fz (.dT ks ds))) = true := id rfl
theorem lookOT_fz {ks : List (List Key)} {ds : List D} {k : List Key} : lookOT (.fz (.dT ks ds)) k = some (lookL ks ds k) := id rfl
theorem sPutT_k : sPutT i fv fk ⟨sl, me⟩ = (fv ⟨sl, me⟩).so fun r e1 => if isDtOwn e1 i then (fk e1).so fun rk e2 => match look e2 rk with
    | none => .no
    | some kd => match keyT kd with
      | none => .no
      | some k => match fix e2 r with
        | none => .no
        | some (d, e3) => match e3.sl[i]? with
          | some (some (.ow (.dT ks os))) => if ks.length < 1000000 then .nx (e3.put i (.dT (putKs ks k) (putOs ks os k (.fz d)))) else .no
          | _ => .no
  else .no := id rfl
theorem eFld_k : eFld cls fld f ⟨sl, me⟩ = (f ⟨sl, me⟩).bind fun r e1 => match fix e1 r with
  | some (.obj n ns ds, e2) => if n = cls then match lookL ns ds fld with
      | some d => .ok (.tm (.fz d)) e2
      | none => .no
    else .no
  | _ => .no := id rfl
theorem eMeth_k : eMeth cls m φ f a ⟨sl, me⟩ = (f ⟨sl, me⟩).bind fun r e1 => match fix e1 r with
  | some (.obj n ns ds, e2) => if n = cls ∧ m ∉ ns then (a e2).bind fun rs e3 => match fixAll e3 rs with
      | none => .no
      | some (as, e4) => match φ (.obj n ns ds :: as) with
        | .ok o => .ok (.tm o) e4
        | .ex x => .ex x e4
        | .no => .no
    else .no
  | _ => .no := id rfl
theorem fldK_k : En.fldK ⟨sl, me⟩ i cls fld = (match sl[i]? with
  | some (some (.ow (.fz (.obj n ns ds)))) => if n = cls then match lookL ns ds fld with
      | some (.dK ks es) => some (ks, es)
      | _ => none
    else none
  | _ => none) := id rfl
theorem eRead_k : eRead φ a ⟨sl, me⟩ = (a ⟨sl, me⟩).bind fun rs e1 => match fixAll e1 rs with
  | none => .no
  | some (ds, _) => match φ ds with
    | .ok (.fz d) => if noL d then .ok (.tm (.fz d)) e1 else .no
    | _ => .no := id rfl
theorem sClear_k : sClear i ⟨sl, me⟩ = (match sl[i]? with
  | some (some (.ow (.lst _))) => .nx (En.put ⟨sl, me⟩ i (.lst []))
  | _ => .no) := id rfl
theorem sIns_k : sIns i j k f ⟨sl, me⟩ = (match sl[i]? with
  | some (some (.ow (.obj cls fs _))) => if cls = "Spot" ∧ fs = (["row", "inner"] : List Str) ∧ j < sl.length then (f ⟨sl, me⟩).so fun r e1 => match fix e1 r with
      | some (.tup _ ds, e2) => match e2.sl[i]?, e2.sl[k]? with
        | some (some (.ow T)), some (some (.ow (.fz d))) => match insT ds d T with
          | some T' => .nx ((e2.hole j).put i T')
          | none => .no
        | _, _ => .no
      | _ => .no
    else .no
  | _ => .no) := id rfl
theorem val_dT_k {ks : List (List Key)} {os : List O} : (O.dT ks os).val = .dT ks (vals os) := id rfl
theorem val_obj_k {c : Str} {ns : List Str} {os : List O} : (O.obj c ns os).val = .obj c ns (vals os) := id rfl
end
end DL

set_option Elab.async false
set_option linter.all false
set_option maxRecDepth 100000
set_option maxHeartbeats 2000000
/-! DL, part mH: a test that only reads. -/
namespace DL
open PySem L2 PySem.Spec PyProof.Rows
def Sl.cold : Sl → Sl
  | .ow o => .ow (.fz o.val)
  | .me => .me
def En.cold (e : En) : En := ⟨e.sl.map (Option.map Sl.cold), .fz e.me.val⟩
theorem cold_k {sl : List (Option Sl)} {me : O} : En.cold ⟨sl, me⟩ = ⟨sl.map (Option.map Sl.cold), .fz me.val⟩ := id rfl
theorem coldO_k {o : O} : Sl.cold (.ow o) = .ow (.fz o.val) := id rfl
theorem cold_nil_k : ([] : List (Option Sl)).map (Option.map Sl.cold) = [] := id rfl
theorem cold_none_k {l : List (Option Sl)} : (none :: l).map (Option.map Sl.cold) = none :: l.map (Option.map Sl.cold) := id rfl
theorem cold_ow_k {o : O} {l : List (Option Sl)} : (some (.ow o) :: l).map (Option.map Sl.cold) = some (.ow (.fz o.val)) :: l.map (Option.map Sl.cold) := id rfl
section
variable {X : Cx} {c : Cs} {mv : V} {W : WX} {F G H H' : Hp} {fp : List Addr}
theorem SlR.coldR (s : Sub F G) : ∀ {fp : List Addr} {σ : L2.St} {l : List (Option Sl)}, SlR c mv F H fp σ l → (∀ b ∈ fp, G b = H b) → SlR c mv G H [] σ (l.map (Option.map Sl.cold))
  | _, _, _, .nil, _ => .nil
  | _, _, _, .hole r, e => .hole (SlR.coldR s r e)
  | _, _, _, .me r, e => .me (SlR.coldR s r e)
  | _, _, _, .ow (fp := fa) (fq := fb) h r z, e => SlR.ow (fp := []) (fq := []) (.fz (h.look s fun b hb => e b (List.mem_append_left _ hb))) (SlR.coldR s r fun b hb => e b (List.mem_append_right _ hb)) fun b hb => nomatch hb
theorem EnvR.coldR {σ : L2.St} {e : En} (s : Sub F H) (E : EnvR c mv F H fp σ e) : ∃ G, Sub G H ∧ Sub F G ∧ EnvR c mv G H [] σ e.cold := by
  have hs := E.has
  obtain ⟨fm, fs, h1, h2, h3, h4⟩ := E.ex
  have sG : Sub F (ice F H fp) := fun b u h => by rw [ice_out (fun q => by rw [(hs b q).1] at h; cases h)]; exact h
  refine ⟨ice F H fp, fun b u h => ?_, sG, ⟨[], [], .fz (h1.look sG fun b hb => ice_in ((h4 b).mpr (.inl hb))), h2.coldR sG fun b hb => ice_in ((h4 b).mpr (.inr hb)), (fun b hb => nomatch hb), fun b => by simp⟩⟩
  by_cases q : b ∈ fp
  · rw [ice_in q] at h; exact h
  · rw [ice_out q] at h; exact s b u h
def tCold (t : En → Out Bool) : En → Out Bool := fun e => match t e.cold with
  | .ok b _ => .ok b e
  | _ => .no
theorem tCold_k {t : En → Out Bool} {sl : List (Option Sl)} {me : O} : tCold t ⟨sl, me⟩ = (match t (En.cold ⟨sl, me⟩) with
  | .ok b _ => .ok b ⟨sl, me⟩
  | _ => .no) := id rfl
theorem dt_cold {a : Expr} {t : En → Out Bool} (h : DT X c mv W a t) : DT X c mv W a (tCold t) := pt_imp h fun σ H Q ⟨F, fp, e, s, E, p⟩ => by
  obtain ⟨G, g1, g2, g3⟩ := E.coldR s
  refine ⟨G, [], e.cold, g1, g3, ?_⟩
  unfold tCold at p
  cases z : t e.cold with
  | no => rw [z] at p; exact p
  | ex x e1 => rw [z] at p; exact p.elim
  | ok b e1 =>
    rw [z] at p
    intro F2 H2 f2 fq v st _ hb _
    have kp : ∀ b o, H b = some o → H2 b = some o := fun b o h => st.keep b o h fun q => nomatch q
    have st0 : ∀ fr, Stp F H fr F H2 fr := fun fr => ⟨fun b o h => kp b o (s b o h), Sub.refl F, fun b o h _ => kp b o h, fun _ _ _ h _ => h, fun b hb => .inl hb⟩
    obtain ⟨e1, e2⟩ := hb
    exact p F H2 fp [] v (by rw [List.append_nil]; exact st0 fp) (E.stp (st0 []) fun b hb q => nomatch q) ⟨rfl, e2⟩ fun b hb => nomatch hb
end
end DL

set_option Elab.async false
set_option linter.all false
set_option maxRecDepth 100000
set_option maxHeartbeats 2000000
/-! k10: the walk of Spot.__init__ and of Spot.within, by hand. -/
namespace K10
open PySem L2 PySem.Spec PyProof.Rows DL
def top (i : Nat) : Stmt := PySem.Challenge.pw_layerwise_k10_layers_of_rows.main.body.getD i (.Pass ⟨0, 0, 0, 0⟩)
section
variable {P : Program} {w : World} {mg : Str → Option Value} {base : Heap} {c : Cs} {k : Nat}
abbrev s_init : Stmt := inClass (top 5) 0
abbrev s_within : Stmt := inClass (top 5) 1
theorem sc_init : FnScope ["self"] ["self"] (defScope s_init) := ⟨rfl, rfl, rfl, by decide +kernel, rfl, by decide +kernel, by decide +kernel⟩
theorem sc_within : FnScope ["self", "place", "spot", "name"] ["self", "place"] (defScope s_within) := ⟨rfl, rfl, rfl, by decide +kernel, rfl, by decide +kernel, by decide +kernel⟩
theorem fn_init {f C : Addr} {fd : FuncData} (F : Fun c.K "__init__" "Spot.__init__" s_init f fd) (T : Cls c.K C) (n1 : NoAttr c.K C "row") (n2 : NoAttr c.K C "inner") : FnG P w c.K mg base (k + 1) f fd ["self"] (spInit C) := by
  refine defG F sc_init (fun vs H Q E h => by obtain ⟨x, dx, rfl, _⟩ := h; rfl) fun cdv A outer s H vs Q E gq r h => ?_
  obtain ⟨x, dx, rfl, hx, q⟩ := h
  refine ⟨_, pss_cons (ps_fld (pv 0) pe_non rfl) (pss_one (ps_fld (pv 0) pe_dnewK rfl)), ?_⟩
  refine ⟨_, rfl, x, C, dx, [], rfl, hx, T, n1, (by show 0 < 1000; decide), ?_⟩
  intro d hd
  have nx : d ≠ x := fun z => by subst z; rw [upd_same] at hd; cases hd
  refine ⟨_, rfl, x, C, dx, _, rfl, by rw [upd_ne nx.symm, upd_same], T, n2, (by show 1 < 1000; decide), ?_⟩
  rw [upd_ne nx] at hd
  exact q d hd
theorem fn_within {f : Addr} {fd : FuncData} (S : SpotK P w mg base c k) (Fu : Fun c.K "within" "Spot.within" s_within f fd) : FnG P w c.K mg base (k + 2) f fd ["self", "place"] (spWithin c) := by
  refine defG Fu sc_within (fun vs H Q E h => by obtain ⟨va, p, F, fp, T, ds, b, N, K, rfl, _⟩ := h; rfl) fun cdv A outer s H vs Q E gq r h => ?_
  obtain ⟨C, fi, fdi, hca, hm, cl, n1, n2, M, FI, hb⟩ := S.ex
  obtain ⟨va, p, F, fp, T, ds, b, N, K, rfl, sb, hT, hp, hds, q⟩ := h
  have hu := hu_of r
  refine ⟨_, pss_cons (ps_set (i := 2) sc_within.nd rfl (Or.inl rfl) (pv 0))
    (pss_cons (ps_for (passes_of rfl) rfl (pi_tup (pv 1)) (pg_name (i := 3) sc_within.nd rfl (Or.inl rfl))
      (pss_cons (ps_if (pt_cmp (pc_dnotin hu (pv 3) (pe_fld (pv 2) rfl))) (pss_one (ps_dput hu (pe_fld (pv 2) rfl) (pv 3) (pe_makeG0 (W := fun cls d _ H => E cls d H) M FI gq r rfl hm hb (takes_of rfl rfl rfl rfl)) rfl)) pss_nil)
      (pss_one (ps_set (i := 2) sc_within.nd rfl (Or.inl rfl) (pe_dget hu (pe_fld (pv 2) rfl) (pv 3) (fun _ _ => rfl))))))
    (pss_one (ps_ret (pv 2)))), ?_⟩
  cases hp with
  | @tup pa xs _ _ hs _ hxs =>
  let Iv : Nat → L2.St → Hp → Prop := fun i σ' H' => ∃ F' fo fr v T' K' x, σ' = [some va, some (.ref pa), some v, x] ∧ Sub F' H' ∧ Sub F F' ∧ Ow c F' H' fo v T' ∧ Wand c F' H' fr v va K' ∧ (∀ b ∈ fo, b ∉ fr) ∧ Way c va (ds.drop i) T' K' F' H' fo fr Q
  have hl := hxs.length
  refine ⟨va, rfl, .ref pa, rfl, pa, rfl, ⟨xs, sb.sqT hs⟩, fun i m σ' H' => m = ds.length - i ∧ i ≤ ds.length ∧ Iv i σ' H', ⟨ds.length, by simp, Nat.zero_le _, F, fp, [], va, T, id, none, rfl, sb, Sub.refl F, hT, Wand.id, (fun _ _ z => nomatch z), N, K, by rw [List.drop_zero]; exact hds, fun F' H' fo' fr' v st => q F' H' fo' fr' v (by rw [List.append_nil] at st; exact st)⟩, ?_⟩
  rintro i m σ' H' ⟨rfl, hi, F', fo, fr, v, T', K', x, rfl, s1, s2, hT', wd, dj, wy⟩
  by_cases hlt : i < ds.length
  · right
    have hsH : SqT c.K H' pa xs := s1.sqT (s2.sqT hs)
    obtain ⟨xi, hxi, hzi⟩ := hxs.get (i := i) (d := ds[i]) (by simp [hlt])
    refine ⟨⟨xs, xi, hsH, hxi⟩, fun σ2 H2 => Iv (i + 1) σ2 H2, fun σ2 H2 h2 => ⟨ds.length - (i + 1), by omega, rfl, hlt, h2⟩, ?_⟩
    rintro x' H2 ⟨rfl, hy⟩
    have ex := hy xs hsH
    rw [hxi] at ex
    cases ex
    rw [List.drop_eq_getElem_cons hlt] at wy
    obtain ⟨n, rd, ks, os, T1, ed, rfl, hk, hT1, wy2⟩ := way_in wy hT'
    rw [ed] at hzi
    cases hzi
    obtain ⟨a, rfl⟩ := spot_ref hT'
    have ho := spot_out hT'
    obtain ⟨C', dx, d, rv, kvs, fq, hca', hH, hF, hz, hd, fd, ne, hkk, hall, na, nd, hfo⟩ := ho
    rw [hca] at hca'
    cases hca'
    refine ⟨_, rfl, _, rfl, a, C, dx, _, _, rfl, hH, cl, n2, flds_inner, d, _, rfl, DGet.k (k := Sum.inr n) hd, _, rfl, ?_⟩
    cases ei : idxK ks (.inr n) with
    | some j =>
      have eg : grow (.inr n) ks os = (ks, os, j) := by unfold grow; rw [ei]
      rw [eg] at hT1 wy2
      rw [← hkk] at ei
      obtain ⟨u, hu1, hu2⟩ := idxK_some ei
      have hg : DGet H2 d (.str n) (some u) := by rw [← hu2]; exact DGet.k (k := Sum.inr n) hd
      rw [hu2]
      refine iteF ?_
      refine ⟨_, rfl, a, C, dx, _, _, rfl, hH, cl, n2, flds_inner, _, rfl, d, u, rfl, hg, ?_⟩
      obtain ⟨C2, dx2, d2, rv2, kvs2, v2, k2, f1, fr1, a1, a2, a3, a4, a5, a6, a7, a8⟩ := spot_child hT' hT1 wd dj
      rw [hH] at a1
      cases a1
      rw [hd] at a2
      cases a2
      rw [hu1] at a4
      cases a4
      refine ⟨F', f1, fr1, u, T1, _, _, rfl, s1, s2, a5, a6, a7, ?_⟩
      exact wy2 F' H2 f1 fr1 ((Stp.refl s1).part (fun _ h => h) fun b hb => List.mem_append.mpr ((a8 b).mp (List.mem_append.mp hb)))
    | none =>
      have eg : grow (.inr n) ks os = (ks ++ [.inr n], os ++ [spot0], ks.length) := by unfold grow; rw [ei]
      rw [eg] at hT1 wy2
      rw [← hkk] at ei
      have en := idxK_none ei
      rw [en]
      refine iteT ?_
      refine init_run s1 hca fun x1 d1 H3 st ow => ?_
      obtain ⟨C2, dx2, d2, rv2, kvs2, g1, g2, g3, g4, g5, g6, fo2, g7, g8⟩ := grow_ok (k := .inr n) hT' st ow
      rw [hH] at g2
      cases g2
      rw [hd] at g4
      cases g4
      have hkl : kvs.length < 1000 := by rw [← hkk, List.length_map] at hk; exact hk
      refine ⟨_, rfl, a, C, dx, _, _, rfl, g1, cl, n2, flds_inner, _, rfl, d, _, rfl, DPut.k (k := Sum.inr n) g3 (small1000 (by omega)), ?_⟩
      rw [putK_new _ en]
      have wd2 := wd.stp g7 fun b hb z => dj b z hb
      have dj2 : ∀ b ∈ fo2, b ∉ fr := fun b hb z => by
        rcases g7.newP b hb with y | y
        · exact dj b y z
        · exact (wd.has b z).2 y
      obtain ⟨C3, dx3, d3, rv3, kvs3, v3, k3, f1, fr1, a1, a2, a3, a4, a5, a6, a7, a8⟩ := spot_child g8 hT1 wd2 dj2
      have ne2 : a ≠ d := ne
      rw [upd_ne ne2, g1] at a1
      cases a1
      rw [upd_same] at a2
      cases a2
      have el : kvs.length = ks.length := by rw [← hkk, List.length_map]
      rw [← el, List.getElem?_append_right (Nat.le_refl _), Nat.sub_self] at a4
      cases a4
      have hg : DGet (upd H3 d (.dK (kvs ++ [(Sum.inr n, .ref x1)]))) d (.str n) (some (.ref x1)) := by
        have e3 : valV (kvs ++ [((Sum.inr n : Key), V.ref x1)]) (Sum.inr n) = some (.ref x1) := by
          rw [← putK_new _ en]
          rw [valV_put, if_pos rfl]
        rw [← e3]
        exact DGet.k (k := Sum.inr n) upd_same
      refine ⟨_, rfl, a, C, dx, _, _, rfl, by rw [upd_ne ne2]; exact g1, cl, n2, flds_inner, _, rfl, d, _, rfl, hg, ?_⟩
      refine ⟨F', f1, fr1, .ref x1, T1, _, _, rfl, g7.fh, s2, a5, a6, a7, ?_⟩
      exact wy2 F' _ f1 fr1 ((g7.more (fq := fr) fun b hb => (wd.has b hb).2).part (fun _ h => h) fun b hb => List.mem_append.mpr ((a8 b).mp (List.mem_append.mp hb)))
  · left
    have e1 : i = ds.length := by omega
    subst e1
    refine ⟨⟨xs, s1.sqT (s2.sqT hs), by omega⟩, ?_⟩
    rw [List.drop_length] at wy
    obtain ⟨N', K2, e2, wy⟩ := wy
    cases e2
    refine ⟨v, rfl, ?_⟩
    exact wy F' H' fo fr v (Stp.refl s1) hT' wd dj
end
end K10

set_option Elab.async false
set_option linter.all false
set_option maxRecDepth 100000
set_option maxHeartbeats 4000000
namespace K10
open PySem L2 PySem.Spec PyProof.Rows DL
section
variable {P : Program} {w : World} {mg : Str → Option Value} {base : Heap} {c : Cs} {k : Nat}
/-! #### need_alone -/
abbrev s_need_alone : Stmt := top 6
abbrev N_need_alone : List Str := ["row", "words", "place", "size", "other"]
theorem sc_need_alone : FnScope N_need_alone ["row", "words"] (defScope s_need_alone) := ⟨rfl, rfl, rfl, by decide +kernel, rfl, by decide +kernel, by decide +kernel⟩
def b_need_alone_1  : SS := (sIf (tOf (eV neD (two (eGet2T (eVar 1) (eSlice (eVar 2) pNone (pSome (eVar 3))) (eC (.str "make"))) (eC (.str "make"))))) sNever sNil)
def l_need_alone_2  : SS := sFor (itRange2 (aCons (eC (.int 1)) (aCons (eV lenD (aCons (eVar 2) aNil)) aNil))) (gN 3) b_need_alone_1
def c_need_alone_3  : En → Out Rv := eCompKT 1 (gN 4) tYesD (eV eqD (two (eSlice (eVar 4) pNone (pSome (eV lenD (aCons (eVar 2) aNil)))) (eVar 2))) [4]
def g_need_alone  : SS :=
  (sCons (sSet 2 (eItem (eVar 0) (eC (.int 0))))
  (sCons (sIf (tOf (eInT false (eVar 2) (eVar 1))) sNever sNil)
  (sCons l_need_alone_2
  (sIf (tAndD (tOf (eV neD (two (eItem (eVar 0) (eC (.int 1))) (eC (.str "make"))))) (tOf (eV anyD (aCons c_need_alone_3 aNil)))) sNever sNil))))
theorem kn_need_alone   (S : Src c.K mg "need_alone" "need_alone" s_need_alone ["row", "words"])   (z_any : mg "any" = none) (z_len : mg "len" = none) (z_range : mg "range" = none) :
    Kn P w mg base c (k + 1) "need_alone" 2 (defSem 5 2 (g_need_alone )) :=
  S.kn sc_need_alone fun f cdv A outer s H E gq r =>
  (dss_cons (ds_set (i := 2) sc_need_alone.nd rfl (Or.inr rfl) (de_item rfl (de_var 0) de_int))
  (dss_cons (ds_if (dt_inT2 r (de_var 2) (de_var 1)) (dss_one ds_never) dss_nil)
  (dss_cons (ds_for (passes_of rfl) rfl (di_range2 rfl z_range (da_cons de_int (da_cons (de_len rfl z_len rfl (da_cons (de_var 2) da_nil)) da_nil))) (dg_name (i := 3) sc_need_alone.nd rfl (Or.inl rfl)) (dss_one (ds_if (dt_ne rfl r (de_get2T r (de_var 1) (de_slice rfl (de_var 2) dp_none (dp_some (de_var 3))) de_str ⟨rfl, rfl, rfl, rfl⟩) de_str) (dss_one ds_never) dss_nil)))
  (dss_one (ds_if (dw_pt (dw_and (dt_ne rfl r (de_item rfl (de_var 0) de_int) de_str) (dw_and1 (dt_val (de_any rfl rfl z_any rfl (da_cons (de_compKT (own' := [("other", 4)]) (i := 1) rfl sc_need_alone.nd rfl (Or.inl rfl) (blkOk_by (own := [("other", 4)]) (N := N_need_alone) (sc := defScope s_need_alone) (by decide +kernel)) (fun _ _ _ _ _ => (dg_name (i := 4) sc_need_alone.nd rfl (Or.inl rfl))) (fun _ _ _ _ _ => dts_nil) (fun _ _ _ _ _ => (de_eq rfl r (de_slice rfl (de_var 4) dp_none (dp_some (de_len rfl z_len rfl (da_cons (de_var 2) da_nil)))) (de_var 2))) tok_name (by decide)) da_nil)))))) (dss_one ds_never) dss_nil)))))

/-! #### layer_of -/
abbrev s_layer_of : Stmt := top 7
abbrev N_layer_of : List Str := ["rows", "number", "words", "top", "row", "spot"]
theorem sc_layer_of : FnScope N_layer_of ["rows", "number"] (defScope s_layer_of) := ⟨rfl, rfl, rfl, by decide +kernel, rfl, by decide +kernel, by decide +kernel⟩
def b_layer_of_1 (φ_need_alone : List D → Res) : SS := (sCons (sDrop (eRead φ_need_alone (aCons (eVar 4) (aCons (eVar 2) aNil))))
  (sCons (sPutT 2 (eItem (eVar 4) (eC (.int 1))) (eItem (eVar 4) (eC (.int 0))))
  (sIns 3 5 4 (eItem (eVar 4) (eC (.int 0))))))
def l_layer_of_2 (φ_need_alone : List D → Res) : SS := sFor (itSeq (eVar 0)) (gN 4) (b_layer_of_1 φ_need_alone)
def g_layer_of (φ_need_alone : List D → Res) (φ_record : List D → Res) : SS :=
  (sCons (sSet 2 eNewT)
  (sCons (sSet 3 eSpot)
  (sCons (l_layer_of_2 φ_need_alone)
  (sRet (eMeth "Spot" "record" φ_record (eVar 3) (aCons (eVar 1) aNil))))))
theorem kn_layer_of {φ_need_alone : List D → Res} {φ_record : List D → Res}  (S : Src c.K mg "layer_of" "layer_of" s_layer_of ["rows", "number"]) (K_need_alone : Kn P w mg base c k "need_alone" 2 φ_need_alone) (K_record : KnM P w mg base c k "Spot" "record" 2 φ_record) (K_Spot : SpotK P w mg base c 1) (h_Spot : 2 ≤ k) (K_within : WithinK P w mg base c k)  :
    Kn P w mg base c (k + 1) "layer_of" 2 (defSem 6 2 (g_layer_of φ_need_alone φ_record)) :=
  S.kn sc_layer_of fun f cdv A outer s H E gq r =>
  (dss_cons (ds_set (i := 2) sc_layer_of.nd rfl (Or.inl rfl) de_newT)
  (dss_cons (ds_set (i := 3) sc_layer_of.nd rfl (Or.inl rfl) (de_spot rfl K_Spot gq (r.mono h_Spot) rfl (takes_of rfl rfl rfl rfl)))
  (dss_cons (ds_for (passes_of rfl) rfl (di_seq rfl (de_var 0)) (dg_name (i := 4) sc_layer_of.nd rfl (Or.inl rfl)) (dss_cons (ds_expr (de_read rfl K_need_alone gq r (takes_of rfl rfl rfl rfl) (da_cons (de_var 4) (da_cons (de_var 2) da_nil)) (many_cons (many_cons many_nil)) rfl))
  (dss_cons (ds_putT (i := 2) r rfl (Or.inl rfl) (de_item rfl (de_var 4) de_int) (de_item rfl (de_var 4) de_int))
  (dss_ins (i := 3) (j := 5) (k := 4) rfl K_within gq r (takes_of rfl rfl rfl rfl) sc_layer_of.nd rfl (Or.inl rfl) (pv 3) (pv 5) (pv 4) (de_item rfl (de_var 4) de_int) (by decide) (by decide)))))
  (dss_one (ds_ret (de_meth rfl K_record gq r (takes_of rfl rfl rfl rfl) (de_var 3) (da_cons (de_var 1) da_nil) (many_cons many_nil)))))))

/-! #### _law_cell_at -/
abbrev s__law_cell_at : Stmt := top 9
abbrev N__law_cell_at : List Str := ["_law_script", "_law_k"]
theorem sc__law_cell_at : FnScope N__law_cell_at ["_law_script", "_law_k"] (defScope s__law_cell_at) := ⟨rfl, rfl, rfl, by decide +kernel, rfl, by decide +kernel, by decide +kernel⟩
def g__law_cell_at  : SS :=
  (sCons (sIf (tOf (eV (cmpD fun i j => decide (i < j)) (two (eVar 1) (eV lenD (aCons (eVar 0) aNil))))) (sRet (eItem (eVar 0) (eVar 1))) sNil)
  (sRet (eC (.int 0))))
theorem kn__law_cell_at   (S : Src c.K mg "_law_cell_at" "_law_cell_at" s__law_cell_at ["_law_script", "_law_k"])   (z_len : mg "len" = none) :
    Kn P w mg base c (k + 1) "_law_cell_at" 2 (defSem 2 2 (g__law_cell_at )) :=
  S.kn sc__law_cell_at fun f cdv A outer s H E gq r =>
  (dss_cons (ds_if (dt_lt (de_var 1) (de_len rfl z_len rfl (da_cons (de_var 0) da_nil))) (dss_one (ds_ret (de_item rfl (de_var 0) (de_var 1)))) dss_nil)
  (dss_one (ds_ret de_int)))

/-! #### _law_mixed -/
abbrev s__law_mixed : Stmt := top 10
abbrev N__law_mixed : List Str := ["_law_cell", "_law_k", "_law_by"]
theorem sc__law_mixed : FnScope N__law_mixed ["_law_cell", "_law_k"] (defScope s__law_mixed) := ⟨rfl, rfl, rfl, by decide +kernel, rfl, by decide +kernel, by decide +kernel⟩
def g__law_mixed  : SS :=
  (sCons (sSet 2 (eF addD (two (eF addD (two (eC (.int 48271)) (eV mulD (two (eV mulD (two (eC (.int 7919)) (eVar 1))) (eVar 1))))) (eV mulD (two (eC (.int 104729)) (eVar 1))))))
  (sRet (eV modD (two (eF addD (two (eF addD (two (eV mulD (two (eV modD (two (eVar 0) (eC (.int 2147483629)))) (eVar 2))) (eV mulD (two (eC (.int 31)) (eVar 1))))) (eC (.int 12345)))) (eC (.int 2147483647))))))
theorem kn__law_mixed   (S : Src c.K mg "_law_mixed" "_law_mixed" s__law_mixed ["_law_cell", "_law_k"])    :
    Kn P w mg base c (k + 1) "_law_mixed" 2 (defSem 3 2 (g__law_mixed )) :=
  S.kn sc__law_mixed fun f cdv A outer s H E gq r =>
  (dss_cons (ds_set (i := 2) sc__law_mixed.nd rfl (Or.inl rfl) (de_add rfl (de_add rfl de_int (de_mul (de_mul de_int (de_var 1)) (de_var 1))) (de_mul de_int (de_var 1))))
  (dss_one (ds_ret (de_mod (de_add rfl (de_add rfl (de_mul (de_mod (de_var 0) de_int) (de_var 2)) (de_mul de_int (de_var 1))) de_int) de_int))))

/-! #### _law_names -/
abbrev s__law_names : Stmt := top 11
abbrev N__law_names : List Str := ["_law_cell", "_law_signs", "_law_size", "_law_at", "_law_rest", "_law_found", "_law_k"]
theorem sc__law_names : FnScope N__law_names ["_law_cell"] (defScope s__law_names) := ⟨rfl, rfl, rfl, by decide +kernel, rfl, by decide +kernel, by decide +kernel⟩
def c__law_names_1  : En → Out Rv := eComp (itRange1 (aCons (eC (.int 5)) aNil)) (gN 6) tYesD (eV mulD (two (eItem (eVar 1) (eV modD (two (eV divD (two (eVar 0) (eC (.int 4)))) (eC (.int 7))))) (eF addD (two (eC (.int 1)) (eVar 6))))) [6]
def c__law_names_2  : En → Out Rv := eComp (itRange1 (aCons (eVar 2) aNil)) (gN 6) tYesD (eItem (eVar 1) (eV modD (two (eV divD (two (eVar 0) (eF addD (two (eC (.int 256)) (eV mulD (two (eC (.int 31)) (eVar 6))))))) (eC (.int 7))))) [6]
def b__law_names_3  : SS := (sCons (sSetI 4 (eItem (eC (.str "qzjvx")) (eVar 6)) (eVar 3))
  (sAppend 5 (eM1 joinS (eC (.str "")) (eVar 4))))
def l__law_names_4  : SS := sFor (itRange1 (aCons (eC (.int 5)) aNil)) (gN 6) b__law_names_3
def g__law_names  : SS :=
  (sCons (sSet 1 (eC (.str "qzjvxkw")))
  (sCons (sIf (tOf (eV eqD (two (eV modD (two (eVar 0) (eC (.int 4)))) (eC (.int 3))))) (sRet c__law_names_1) sNil)
  (sCons (sSet 2 (eF addD (two (eC (.int 1)) (eV modD (two (eV divD (two (eVar 0) (eC (.int 4)))) (eC (.int 8)))))))
  (sCons (sSet 3 (eV modD (two (eV divD (two (eVar 0) (eC (.int 32)))) (eVar 2))))
  (sCons (sSet 4 c__law_names_2)
  (sCons (sSet 5 (eLst aNil))
  (sCons l__law_names_4
  (sRet (eVar 5)))))))))
theorem kn__law_names   (S : Src c.K mg "_law_names" "_law_names" s__law_names ["_law_cell"])   (z_range : mg "range" = none) :
    Kn P w mg base c (k + 1) "_law_names" 1 (defSem 7 1 (g__law_names )) :=
  S.kn sc__law_names fun f cdv A outer s H E gq r =>
  (dss_cons (ds_set (i := 1) sc__law_names.nd rfl (Or.inr rfl) de_str)
  (dss_cons (ds_if (dt_eq rfl r (de_mod (de_var 0) de_int) de_int) (dss_one (ds_ret (de_comp (own' := [("_law_k", 6)]) rfl sc__law_names.nd (di_range1 rfl z_range (da_cons de_int da_nil)) (blkOk_by (own := [("_law_k", 6)]) (N := N__law_names) (sc := defScope s__law_names) (by decide +kernel)) (fun _ _ _ _ _ => (dg_name (i := 6) sc__law_names.nd rfl (Or.inl rfl))) (fun _ _ _ _ _ => dts_nil) (fun _ _ _ _ _ => (de_mul (de_item rfl (de_var 1) (de_mod (de_div (de_var 0) de_int) de_int)) (de_add rfl de_int (de_var 6)))) tok_name (by decide)))) dss_nil)
  (dss_cons (ds_set (i := 2) sc__law_names.nd rfl (Or.inl rfl) (de_add rfl de_int (de_mod (de_div (de_var 0) de_int) de_int)))
  (dss_cons (ds_set (i := 3) sc__law_names.nd rfl (Or.inl rfl) (de_mod (de_div (de_var 0) de_int) (de_var 2)))
  (dss_cons (ds_setLc (i := 4) (own' := [("_law_k", 6)]) rfl sc__law_names.nd rfl rfl (di_range1 rfl z_range (da_cons (de_var 2) da_nil)) (blkOk_by (own := [("_law_k", 6)]) (N := N__law_names) (sc := defScope s__law_names) (by decide +kernel)) (fun _ _ _ _ _ => (dg_name (i := 6) sc__law_names.nd rfl (Or.inl rfl))) (fun _ _ _ _ _ => dts_nil) (fun _ _ _ _ _ => (de_item rfl (de_var 1) (de_mod (de_div (de_var 0) (de_add rfl de_int (de_mul de_int (de_var 6)))) de_int))) tok_name (by decide) (sw_true rfl rfl rfl (by decide +kernel)))
  (dss_cons (ds_set (i := 5) sc__law_names.nd rfl (Or.inl rfl) (de_lst da_nil))
  (dss_cons (ds_for (passes_of rfl) rfl (di_range1 rfl z_range (da_cons de_int da_nil)) (dg_name (i := 6) sc__law_names.nd rfl (Or.inl rfl)) (dss_cons (ds_setI (i := 4) rfl (Or.inl rfl) (de_item rfl de_str (de_var 6)) (de_var 3))
  (dss_one (ds_append (i := 5) rfl rfl (Or.inl rfl) (de_join rfl de_str (de_var 4))))))
  (dss_one (ds_ret (de_var 5))))))))))

/-! #### _law_term -/
abbrev s__law_term : Stmt := top 12
abbrev N__law_term : List Str := ["_law_cell", "_law_names_here", "_law_more", "_law_place", "_law_j"]
theorem sc__law_term : FnScope N__law_term ["_law_cell", "_law_names_here"] (defScope s__law_term) := ⟨rfl, rfl, rfl, by decide +kernel, rfl, by decide +kernel, by decide +kernel⟩
def c__law_term_1 (φ__law_mixed : List D → Res) : En → Out Rv := eComp (itRange1 (aCons (eF addD (two (eC (.int 1)) (eV modD (two (eVar 2) (eC (.int 3)))))) aNil)) (gN 4) tYesD (eItem (eVar 1) (eV modD (two (eV divD (two (eCall φ__law_mixed (aCons (eVar 2) (aCons (eVar 4) aNil))) (eC (.int 3)))) (eC (.int 5))))) [4]
def c__law_term_2  : En → Out Rv := eComp (itRange1 (aCons (eV modD (two (eV divD (two (eVar 2) (eC (.int 7)))) (eC (.int 3)))) aNil)) (gN 4) tYesD (eTup (aCons (eC (.str "number")) (aCons (eF addD (two (eVar 4) (eV modD (two (eVar 2) (eC (.int 7)))))) aNil))) [4]
def g__law_term (φ__law_mixed : List D → Res) : SS :=
  (sCons (sSet 2 (eV divD (two (eVar 0) (eC (.int 6)))))
  (sCons (sIf (tOf (eV eqD (two (eV modD (two (eVar 0) (eC (.int 6)))) (eC (.int 0))))) (sRet (eTup (aCons (eC (.str "number")) (aCons (eItem (eLst (aCons (eV modD (two (eV divD (two (eVar 2) (eC (.int 2)))) (eC (.int 10)))) (aCons (eV modD (two (eV mulD (two (eVar 2) (eVar 2))) (eF addD (two (eV powD (two (eC (.int 10)) (eC (.int 12)))) (eC (.int 1)))))) aNil))) (eV modD (two (eVar 2) (eC (.int 2))))) aNil)))) sNil)
  (sCons (sIf (tOf (eV eqD (two (eV modD (two (eVar 0) (eC (.int 6)))) (eC (.int 1))))) (sRet (eTup (aCons (eC (.str "text")) (aCons (eF addD (two (eSlice (eC (.str "a b")) pNone (pSome (eV modD (two (eVar 2) (eC (.int 4)))))) (eItem (eVar 1) (eV modD (two (eV divD (two (eVar 2) (eC (.int 4)))) (eC (.int 5))))))) aNil)))) sNil)
  (sCons (sIf (tOf (eV eqD (two (eV modD (two (eVar 0) (eC (.int 6)))) (eC (.int 2))))) (sRet (eTup (aCons (eC (.str "truth")) (aCons (eV eqD (two (eV modD (two (eVar 2) (eC (.int 2)))) (eC (.int 1)))) aNil)))) sNil)
  (sCons (sSet 3 (eF tupleD (aCons (c__law_term_1 φ__law_mixed) aNil)))
  (sCons (sIf (tOf (eV eqD (two (eV modD (two (eVar 0) (eC (.int 6)))) (eC (.int 3))))) (sRet (eTup (aCons (eC (.str "name")) (aCons (eVar 3) aNil)))) sNil)
  (sCons (sIf (tOf (eV eqD (two (eV modD (two (eVar 0) (eC (.int 6)))) (eC (.int 4))))) (sRet (eTup (aCons (eC (.str "list")) (aCons (eF tupleD (aCons c__law_term_2 aNil)) aNil)))) sNil)
  (sRet (eTup (aCons (eC (.str "two")) (aCons (eC (.str "+")) (aCons (eTup (aCons (eC (.str "name")) (aCons (eVar 3) aNil))) (aCons (eTup (aCons (eC (.str "number")) (aCons (eV modD (two (eVar 2) (eC (.int 1000)))) aNil))) aNil)))))))))))))
theorem kn__law_term {φ__law_mixed : List D → Res}  (S : Src c.K mg "_law_term" "_law_term" s__law_term ["_law_cell", "_law_names_here"]) (K__law_mixed : Kn P w mg base c k "_law_mixed" 2 φ__law_mixed)  (z_range : mg "range" = none) (z_tuple : mg "tuple" = none) :
    Kn P w mg base c (k + 1) "_law_term" 2 (defSem 5 2 (g__law_term φ__law_mixed)) :=
  S.kn sc__law_term fun f cdv A outer s H E gq r =>
  (dss_cons (ds_set (i := 2) sc__law_term.nd rfl (Or.inr rfl) (de_div (de_var 0) de_int))
  (dss_cons (ds_if (dt_eq rfl r (de_mod (de_var 0) de_int) de_int) (dss_one (ds_ret (de_tup (da_cons de_str (da_cons (de_item rfl (de_lst (da_cons (de_mod (de_div (de_var 2) de_int) de_int) (da_cons (de_mod (de_mul (de_var 2) (de_var 2)) (de_add rfl (de_pow de_int de_int) de_int)) da_nil))) (de_mod (de_var 2) de_int)) da_nil))))) dss_nil)
  (dss_cons (ds_if (dt_eq rfl r (de_mod (de_var 0) de_int) de_int) (dss_one (ds_ret (de_tup (da_cons de_str (da_cons (de_add rfl (de_slice rfl de_str dp_none (dp_some (de_mod (de_var 2) de_int))) (de_item rfl (de_var 1) (de_mod (de_div (de_var 2) de_int) de_int))) da_nil))))) dss_nil)
  (dss_cons (ds_if (dt_eq rfl r (de_mod (de_var 0) de_int) de_int) (dss_one (ds_ret (de_tup (da_cons de_str (da_cons (de_eq rfl r (de_mod (de_var 2) de_int) de_int) da_nil))))) dss_nil)
  (dss_cons (ds_set (i := 3) sc__law_term.nd rfl (Or.inl rfl) (de_tuple rfl z_tuple rfl (da_cons (de_comp (own' := [("_law_j", 4)]) rfl sc__law_term.nd (di_range1 rfl z_range (da_cons (de_add rfl de_int (de_mod (de_var 2) de_int)) da_nil)) (blkOk_by (own := [("_law_j", 4)]) (N := N__law_term) (sc := defScope s__law_term) (by decide +kernel)) (fun _ _ _ _ _ => (dg_name (i := 4) sc__law_term.nd rfl (Or.inl rfl))) (fun _ _ _ _ _ => dts_nil) (fun _ _ _ _ _ => (de_item rfl (de_var 1) (de_mod (de_div (de_call rfl K__law_mixed gq r takes0 (da_cons (de_var 2) (da_cons (de_var 4) da_nil)) (many_cons (many_cons many_nil)) rfl) de_int) de_int))) tok_name (by decide)) da_nil)))
  (dss_cons (ds_if (dt_eq rfl r (de_mod (de_var 0) de_int) de_int) (dss_one (ds_ret (de_tup (da_cons de_str (da_cons (de_var 3) da_nil))))) dss_nil)
  (dss_cons (ds_if (dt_eq rfl r (de_mod (de_var 0) de_int) de_int) (dss_one (ds_ret (de_tup (da_cons de_str (da_cons (de_tuple rfl z_tuple rfl (da_cons (de_comp (own' := [("_law_j", 4)]) rfl sc__law_term.nd (di_range1 rfl z_range (da_cons (de_mod (de_div (de_var 2) de_int) de_int) da_nil)) (blkOk_by (own := [("_law_j", 4)]) (N := N__law_term) (sc := defScope s__law_term) (by decide +kernel)) (fun _ _ _ _ _ => (dg_name (i := 4) sc__law_term.nd rfl (Or.inl rfl))) (fun _ _ _ _ _ => dts_nil) (fun _ _ _ _ _ => (de_tup (da_cons de_str (da_cons (de_add rfl (de_var 4) (de_mod (de_var 2) de_int)) da_nil)))) tok_name (by decide)) da_nil)) da_nil))))) dss_nil)
  (dss_one (ds_ret (de_tup (da_cons de_str (da_cons de_str (da_cons (de_tup (da_cons de_str (da_cons (de_var 3) da_nil))) (da_cons (de_tup (da_cons de_str (da_cons (de_mod (de_var 2) de_int) da_nil))) da_nil))))))))))))))

/-! #### _law_row -/
abbrev s__law_row : Stmt := top 13
abbrev N__law_row : List Str := ["_law_cell", "_law_names_here", "_law_more", "_law_many", "_law_place", "_law_form", "_law_word", "_law_j"]
theorem sc__law_row : FnScope N__law_row ["_law_cell", "_law_names_here"] (defScope s__law_row) := ⟨rfl, rfl, rfl, by decide +kernel, rfl, by decide +kernel, by decide +kernel⟩
def c__law_row_1 (φ__law_mixed : List D → Res) : En → Out Rv := eComp (itRange1 (aCons (eVar 3) aNil)) (gN 7) tYesD (eItem (eVar 1) (eV modD (two (eV divD (two (eCall φ__law_mixed (aCons (eV divD (two (eVar 2) (eC (.int 6)))) (aCons (eVar 7) aNil))) (eC (.int 5)))) (eC (.int 5))))) [7]
def c__law_row_2 (φ__law_mixed : List D → Res) : En → Out Rv := eComp (itRange1 (aCons (eF addD (two (eC (.int 1)) (eV modD (two (eV divD (two (eVar 2) (eC (.int 7)))) (eC (.int 2)))))) aNil)) (gN 7) tYesD (eItem (eVar 1) (eV modD (two (eV divD (two (eCall φ__law_mixed (aCons (eVar 2) (aCons (eF addD (two (eC (.int 9)) (eVar 7))) aNil))) (eC (.int 5)))) (eC (.int 5))))) [7]
def g__law_row (φ__law_mixed : List D → Res) (φ__law_term : List D → Res) : SS :=
  (sCons (sSet 2 (eV divD (two (eVar 0) (eC (.int 8)))))
  (sCons (sSet 3 (eItem (eLst (aCons (eC (.int 1)) (aCons (eC (.int 1)) (aCons (eC (.int 2)) (aCons (eC (.int 2)) (aCons (eC (.int 3)) (aCons (eC (.int 4)) aNil))))))) (eV modD (two (eVar 2) (eC (.int 6))))))
  (sCons (sSet 4 (eF tupleD (aCons (c__law_row_1 φ__law_mixed) aNil)))
  (sCons (sIf (tOf (eV eqD (two (eV modD (two (eVar 0) (eC (.int 8)))) (eC (.int 3))))) (sRet (eTup (aCons (eVar 4) (aCons (eC (.str "gone")) aNil)))) sNil)
  (sCons (sIf (tOf (eV (cmpD fun i j => decide (i > j)) (two (eV modD (two (eVar 0) (eC (.int 8)))) (eC (.int 5))))) (sCons (sSet 5 (c__law_row_2 φ__law_mixed))
  (sRet (eTup (aCons (eVar 4) (aCons (eC (.str "make")) (aCons (eF tupleD (aCons (eVar 5) aNil)) aNil)))))) sNil)
  (sCons (sSet 6 (eItem (eLst (aCons (eC (.str "is")) (aCons (eC (.str "is")) (aCons (eC (.str "is")) (aCons (eC (.str "gone")) (aCons (eC (.str "behind")) (aCons (eC (.str "ahead")) aNil))))))) (eV modD (two (eVar 0) (eC (.int 8))))))
  (sRet (eTup (aCons (eVar 4) (aCons (eVar 6) (aCons (eCall φ__law_term (aCons (eCall φ__law_mixed (aCons (eVar 2) (aCons (eC (.int 3)) aNil))) (aCons (eVar 1) aNil))) aNil)))))))))))
theorem kn__law_row {φ__law_mixed : List D → Res} {φ__law_term : List D → Res}  (S : Src c.K mg "_law_row" "_law_row" s__law_row ["_law_cell", "_law_names_here"]) (K__law_mixed : Kn P w mg base c k "_law_mixed" 2 φ__law_mixed) (K__law_term : Kn P w mg base c k "_law_term" 2 φ__law_term)  (z_range : mg "range" = none) (z_tuple : mg "tuple" = none) :
    Kn P w mg base c (k + 1) "_law_row" 2 (defSem 8 2 (g__law_row φ__law_mixed φ__law_term)) :=
  S.kn sc__law_row fun f cdv A outer s H E gq r =>
  (dss_cons (ds_set (i := 2) sc__law_row.nd rfl (Or.inr rfl) (de_div (de_var 0) de_int))
  (dss_cons (ds_set (i := 3) sc__law_row.nd rfl (Or.inl rfl) (de_item rfl (de_lst (da_cons de_int (da_cons de_int (da_cons de_int (da_cons de_int (da_cons de_int (da_cons de_int da_nil))))))) (de_mod (de_var 2) de_int)))
  (dss_cons (ds_set (i := 4) sc__law_row.nd rfl (Or.inl rfl) (de_tuple rfl z_tuple rfl (da_cons (de_comp (own' := [("_law_j", 7)]) rfl sc__law_row.nd (di_range1 rfl z_range (da_cons (de_var 3) da_nil)) (blkOk_by (own := [("_law_j", 7)]) (N := N__law_row) (sc := defScope s__law_row) (by decide +kernel)) (fun _ _ _ _ _ => (dg_name (i := 7) sc__law_row.nd rfl (Or.inl rfl))) (fun _ _ _ _ _ => dts_nil) (fun _ _ _ _ _ => (de_item rfl (de_var 1) (de_mod (de_div (de_call rfl K__law_mixed gq r takes0 (da_cons (de_div (de_var 2) de_int) (da_cons (de_var 7) da_nil)) (many_cons (many_cons many_nil)) rfl) de_int) de_int))) tok_name (by decide)) da_nil)))
  (dss_cons (ds_if (dt_eq rfl r (de_mod (de_var 0) de_int) de_int) (dss_one (ds_ret (de_tup (da_cons (de_var 4) (da_cons de_str da_nil))))) dss_nil)
  (dss_cons (ds_if (dt_gt (de_mod (de_var 0) de_int) de_int) (dss_cons (ds_setLc (i := 5) (own' := [("_law_j", 7)]) rfl sc__law_row.nd rfl rfl (di_range1 rfl z_range (da_cons (de_add rfl de_int (de_mod (de_div (de_var 2) de_int) de_int)) da_nil)) (blkOk_by (own := [("_law_j", 7)]) (N := N__law_row) (sc := defScope s__law_row) (by decide +kernel)) (fun _ _ _ _ _ => (dg_name (i := 7) sc__law_row.nd rfl (Or.inl rfl))) (fun _ _ _ _ _ => dts_nil) (fun _ _ _ _ _ => (de_item rfl (de_var 1) (de_mod (de_div (de_call rfl K__law_mixed gq r takes0 (da_cons (de_var 2) (da_cons (de_add rfl de_int (de_var 7)) da_nil)) (many_cons (many_cons many_nil)) rfl) de_int) de_int))) tok_name (by decide) (sw_true rfl rfl rfl (by decide +kernel)))
  (dss_one (ds_ret (de_tup (da_cons (de_var 4) (da_cons de_str (da_cons (de_tuple rfl z_tuple rfl (da_cons (de_var 5) da_nil)) da_nil))))))) dss_nil)
  (dss_cons (ds_set (i := 6) sc__law_row.nd rfl (Or.inl rfl) (de_item rfl (de_lst (da_cons de_str (da_cons de_str (da_cons de_str (da_cons de_str (da_cons de_str (da_cons de_str da_nil))))))) (de_mod (de_var 0) de_int)))
  (dss_one (ds_ret (de_tup (da_cons (de_var 4) (da_cons (de_var 6) (da_cons (de_call rfl K__law_term gq r (takes_of rfl rfl rfl rfl) (da_cons (de_call rfl K__law_mixed gq r (takes_of rfl rfl rfl rfl) (da_cons (de_var 2) (da_cons de_int da_nil)) (many_cons (many_cons many_nil)) rfl) (da_cons (de_var 1) da_nil)) (many_cons (many_cons many_nil)) rfl) da_nil))))))))))))

/-! #### _law_clash -/
abbrev s__law_clash : Stmt := top 14
abbrev N__law_clash : List Str := ["_law_one", "_law_other"]
theorem sc__law_clash : FnScope N__law_clash ["_law_one", "_law_other"] (defScope s__law_clash) := ⟨rfl, rfl, rfl, by decide +kernel, rfl, by decide +kernel, by decide +kernel⟩
def g__law_clash  : SS :=
  (sCons (sIf (tOf (eV (cmpD fun i j => decide (i > j)) (two (eV lenD (aCons (eItem (eVar 0) (eC (.int 0))) aNil)) (eV lenD (aCons (eItem (eVar 1) (eC (.int 0))) aNil))))) (sPar 0 1 (aCons (eVar 1) (aCons (eVar 0) aNil))) sNil)
  (sRet (eOrD (eV eqD (two (eItem (eVar 0) (eC (.int 0))) (eItem (eVar 1) (eC (.int 0))))) (eAndD (eV neD (two (eItem (eVar 0) (eC (.int 1))) (eC (.str "make")))) (eV eqD (two (eSlice (eItem (eVar 1) (eC (.int 0))) pNone (pSome (eV lenD (aCons (eItem (eVar 0) (eC (.int 0))) aNil)))) (eItem (eVar 0) (eC (.int 0)))))))))
theorem kn__law_clash   (S : Src c.K mg "_law_clash" "_law_clash" s__law_clash ["_law_one", "_law_other"])   (z_len : mg "len" = none) :
    Kn P w mg base c (k + 1) "_law_clash" 2 (defSem 2 2 (g__law_clash )) :=
  S.kn sc__law_clash fun f cdv A outer s H E gq r =>
  (dss_cons (ds_if (dt_gt (de_len rfl z_len rfl (da_cons (de_item rfl (de_var 0) de_int) da_nil)) (de_len rfl z_len rfl (da_cons (de_item rfl (de_var 1) de_int) da_nil))) (dss_one (ds_par (i := 0) (j := 1) rfl sc__law_clash.nd rfl rfl (by decide) rfl rfl (da_cons (de_var 1) (da_cons (de_var 0) da_nil)) (by rfl))) dss_nil)
  (dss_one (ds_ret (de_or (de_eq rfl r (de_item rfl (de_var 0) de_int) (de_item rfl (de_var 1) de_int)) (de_one (de_and (de_ne rfl r (de_item rfl (de_var 0) de_int) de_str) (de_one (de_eq rfl r (de_slice rfl (de_item rfl (de_var 1) de_int) dp_none (dp_some (de_len rfl z_len rfl (da_cons (de_item rfl (de_var 0) de_int) da_nil)))) (de_item rfl (de_var 0) de_int)))))))))

/-! #### _law_good_rows -/
abbrev s__law_good_rows : Stmt := top 15
abbrev N__law_good_rows : List Str := ["_law_cells", "_law_names_here", "_law_first", "_law_found", "_law_k", "_law_cell", "_law_row_here", "_law_other"]
theorem sc__law_good_rows : FnScope N__law_good_rows ["_law_cells", "_law_names_here", "_law_first"] (defScope s__law_good_rows) := ⟨rfl, rfl, rfl, by decide +kernel, rfl, by decide +kernel, by decide +kernel⟩
def c__law_good_rows_1 (φ__law_clash : List D → Res) : En → Out Rv := eComp (itSeq (eVar 3)) (gN 7) tYesD (eCall φ__law_clash (aCons (eVar 6) (aCons (eVar 7) aNil))) [7]
def b__law_good_rows_2 (φ__law_clash : List D → Res) (φ__law_mixed : List D → Res) (φ__law_row : List D → Res) : SS := (sCons (sSet 6 (eCall φ__law_row (aCons (eCall φ__law_mixed (aCons (eVar 5) (aCons (eF addD (two (eVar 2) (eVar 4))) aNil))) (aCons (eVar 1) aNil))))
  (sIf (tCold (tOf (eV notInD (two (eC (.bl true)) (c__law_good_rows_1 φ__law_clash))))) (sAppend 3 (eVar 6)) sNil))
def l__law_good_rows_3 (φ__law_clash : List D → Res) (φ__law_mixed : List D → Res) (φ__law_row : List D → Res) : SS := sFor (itEnum (eVar 0)) (gT (gCons' (gN 4) (gCons' (gN 5) gNil'))) (b__law_good_rows_2 φ__law_clash φ__law_mixed φ__law_row)
def g__law_good_rows (φ__law_clash : List D → Res) (φ__law_mixed : List D → Res) (φ__law_row : List D → Res) : SS :=
  (sCons (sSet 3 (eLst aNil))
  (sCons (l__law_good_rows_3 φ__law_clash φ__law_mixed φ__law_row)
  (sRet (eVar 3))))
theorem kn__law_good_rows {φ__law_clash : List D → Res} {φ__law_mixed : List D → Res} {φ__law_row : List D → Res}  (S : Src c.K mg "_law_good_rows" "_law_good_rows" s__law_good_rows ["_law_cells", "_law_names_here", "_law_first"]) (K__law_clash : Kn P w mg base c k "_law_clash" 2 φ__law_clash) (K__law_mixed : Kn P w mg base c k "_law_mixed" 2 φ__law_mixed) (K__law_row : Kn P w mg base c k "_law_row" 2 φ__law_row)  (z_enumerate : mg "enumerate" = none) :
    Kn P w mg base c (k + 1) "_law_good_rows" 3 (defSem 8 3 (g__law_good_rows φ__law_clash φ__law_mixed φ__law_row)) :=
  S.kn sc__law_good_rows fun f cdv A outer s H E gq r =>
  (dss_cons (ds_set (i := 3) sc__law_good_rows.nd rfl (Or.inl rfl) (de_lst da_nil))
  (dss_cons (ds_for (passes_of rfl) rfl (di_enum rfl rfl z_enumerate (de_var 0)) (dg_tup rfl rfl (dgs_cons (dg_name (i := 4) sc__law_good_rows.nd rfl (Or.inl rfl)) (dgs_cons (dg_name (i := 5) sc__law_good_rows.nd rfl (Or.inl rfl)) dgs_nil)) (glen_cons (glen_cons glen_nil))) (dss_cons (ds_set (i := 6) sc__law_good_rows.nd rfl (Or.inr rfl) (de_call rfl K__law_row gq r (takes_of rfl rfl rfl rfl) (da_cons (de_call rfl K__law_mixed gq r (takes_of rfl rfl rfl rfl) (da_cons (de_var 5) (da_cons (de_add rfl (de_var 2) (de_var 4)) da_nil)) (many_cons (many_cons many_nil)) rfl) (da_cons (de_var 1) da_nil)) (many_cons (many_cons many_nil)) rfl))
  (dss_one (ds_if (dt_cold (dt_notIn rfl de_bl (de_comp (own' := [("_law_other", 7)]) rfl sc__law_good_rows.nd (di_seq rfl (de_var 3)) (blkOk_by (own := [("_law_other", 7)]) (N := N__law_good_rows) (sc := defScope s__law_good_rows) (by decide +kernel)) (fun _ _ _ _ _ => (dg_name (i := 7) sc__law_good_rows.nd rfl (Or.inl rfl))) (fun _ _ _ _ _ => dts_nil) (fun _ _ _ _ _ => (de_call rfl K__law_clash gq r takes0 (da_cons (de_var 6) (da_cons (de_var 7) da_nil)) (many_cons (many_cons many_nil)) rfl)) tok_name (by decide)))) (dss_one (ds_append (i := 3) rfl rfl (Or.inl rfl) (de_var 6))) dss_nil))))
  (dss_one (ds_ret (de_var 3)))))

/-! #### _law_entry -/
abbrev s__law_entry : Stmt := top 16
abbrev N__law_entry : List Str := ["_law_rows", "_law_place", "_law_number", "_law_inner", "_law_heads", "_law_row_here", "_law_record", "_law_own", "_law_mark", "_law_word", "_law_pairs", "_law_name"]
theorem sc__law_entry : FnScope N__law_entry ["_law_rows", "_law_place", "_law_number"] (defScope s__law_entry) := ⟨rfl, rfl, rfl, by decide +kernel, rfl, by decide +kernel, by decide +kernel⟩
def r__law_entry_1  : SS := (sCons (sSet 9 (eItem (eItem (eVar 7) (eC (.int 0))) (eC (.int 1))))
  (sCons (sIf (tOf (eV eqD (two (eVar 9) (eC (.str "gone"))))) (sRet (eTup (aCons (eC (.str "gone")) (aCons (eVar 8) aNil)))) sNil)
  (sCons (sIf (tOf (eV eqD (two (eVar 9) (eC (.str "make"))))) (sRet (eTup (aCons (eC (.str "make")) (aCons (eItem (eItem (eVar 7) (eC (.int 0))) (eC (.int 2))) (aCons (eVar 6) (aCons (eVar 8) aNil)))))) sNil)
  (sCons (sIf (tOf (eV eqD (two (eVar 9) (eC (.str "is"))))) (sRet (eTup (aCons (eC (.str "is")) (aCons (eItem (eItem (eVar 7) (eC (.int 0))) (eC (.int 2))) (aCons (eVar 8) aNil))))) sNil)
  (sCons (sSet 10 (eTup (aCons (eTup (aCons (eItem (eItem (eVar 7) (eC (.int 0))) (eC (.int 2))) (aCons (eVar 8) aNil))) aNil)))
  (sRet (eTup (aCons (eC (.str "pile")) (aCons (eC .non) (aCons (eItem (eLst (aCons (eTup aNil) (aCons (eVar 10) aNil))) (eV intD (aCons (eV eqD (two (eVar 9) (eC (.str "ahead")))) aNil))) (aCons (eItem (eLst (aCons (eTup aNil) (aCons (eVar 10) aNil))) (eV intD (aCons (eV eqD (two (eVar 9) (eC (.str "behind")))) aNil))) aNil)))))))))))
theorem r__law_entry_1_k  {sl : List (Option Sl)} {me : O} : r__law_entry_1  ⟨sl, me⟩ = ((sCons (sSet 9 (eItem (eItem (eVar 7) (eC (.int 0))) (eC (.int 1))))
  (sCons (sIf (tOf (eV eqD (two (eVar 9) (eC (.str "gone"))))) (sRet (eTup (aCons (eC (.str "gone")) (aCons (eVar 8) aNil)))) sNil)
  (sCons (sIf (tOf (eV eqD (two (eVar 9) (eC (.str "make"))))) (sRet (eTup (aCons (eC (.str "make")) (aCons (eItem (eItem (eVar 7) (eC (.int 0))) (eC (.int 2))) (aCons (eVar 6) (aCons (eVar 8) aNil)))))) sNil)
  (sCons (sIf (tOf (eV eqD (two (eVar 9) (eC (.str "is"))))) (sRet (eTup (aCons (eC (.str "is")) (aCons (eItem (eItem (eVar 7) (eC (.int 0))) (eC (.int 2))) (aCons (eVar 8) aNil))))) sNil)
  (sCons (sSet 10 (eTup (aCons (eTup (aCons (eItem (eItem (eVar 7) (eC (.int 0))) (eC (.int 2))) (aCons (eVar 8) aNil))) aNil)))
  (sRet (eTup (aCons (eC (.str "pile")) (aCons (eC .non) (aCons (eItem (eLst (aCons (eTup aNil) (aCons (eVar 10) aNil))) (eV intD (aCons (eV eqD (two (eVar 9) (eC (.str "ahead")))) aNil))) (aCons (eItem (eLst (aCons (eTup aNil) (aCons (eVar 10) aNil))) (eV intD (aCons (eV eqD (two (eVar 9) (eC (.str "behind")))) aNil))) aNil)))))))))))) ⟨sl, me⟩ := id rfl
def c__law_entry_2  : En → Out Rv := eComp (itSeq (eVar 0)) (gN 5) (tOf (eV eqD (two (eItem (eVar 5) (eC (.int 0))) (eVar 1)))) (eVar 5) [5]
def c__law_entry_3 (φ__law_entry : List D → Res) : En → Out Rv := eComp (itSeq (eVar 4)) (gN 11) tYesD (eTup (aCons (eVar 11) (aCons (eCall φ__law_entry (aCons (eVar 3) (aCons (eF addD (two (eVar 1) (eTup (aCons (eVar 11) aNil)))) (aCons (eVar 2) aNil)))) aNil))) [11]
def b__law_entry_4  : SS := (sIf (tOf (eV notInD (two (eItem (eItem (eVar 5) (eC (.int 0))) (eV lenD (aCons (eVar 1) aNil))) (eVar 4)))) (sAppend 4 (eItem (eItem (eVar 5) (eC (.int 0))) (eV lenD (aCons (eVar 1) aNil)))) sNil)
def l__law_entry_5  : SS := sFor (itSeq (eVar 3)) (gN 5) b__law_entry_4
def c__law_entry_6  : En → Out Rv := eComp (itSeq (eVar 0)) (gN 5) (tAndD (tOf (eV eqD (two (eSlice (eItem (eVar 5) (eC (.int 0))) pNone (pSome (eV lenD (aCons (eVar 1) aNil)))) (eVar 1)))) (tOf (eV neD (two (eItem (eVar 5) (eC (.int 0))) (eVar 1))))) (eVar 5) [5]
def g__law_entry (φ__law_entry : List D → Res) : SS :=
  (sCons (sSet 3 c__law_entry_6)
  (sCons (sSet 4 (eLst aNil))
  (sCons l__law_entry_5
  (sCons (sSet 6 (eTup (aCons (eC (.str "record")) (aCons (eF tupleD (aCons (c__law_entry_3 φ__law_entry) aNil)) (aCons (eC (.bl false)) aNil)))))
  (sCons (sSet 7 c__law_entry_2)
  (sCons (sIf (tOf (eV eqD (two (eVar 7) (eLst aNil)))) (sRet (eVar 6)) sNil)
  (sCons (sSet 8 (eTup (aCons (eVar 2) (aCons (eVar 1) aNil))))
  r__law_entry_1)))))))
theorem kn__law_entry {φ__law_entry : List D → Res}  (S : Src c.K mg "_law_entry" "_law_entry" s__law_entry ["_law_rows", "_law_place", "_law_number"]) (K__law_entry : Kn P w mg base c k "_law_entry" 3 φ__law_entry)  (z_int : mg "int" = none) (z_len : mg "len" = none) (z_tuple : mg "tuple" = none) :
    Kn P w mg base c (k + 1) "_law_entry" 3 (defSem 12 3 (g__law_entry φ__law_entry)) :=
  S.kn sc__law_entry fun f cdv A outer s H E gq r =>
  (dss_cons (ds_set (i := 3) sc__law_entry.nd rfl (Or.inr rfl) (de_comp (own' := [("_law_row_here", 5)]) rfl sc__law_entry.nd (di_seq rfl (de_var 0)) (blkOk_by (own := [("_law_row_here", 5)]) (N := N__law_entry) (sc := defScope s__law_entry) (by decide +kernel)) (fun _ _ _ _ _ => (dg_name (i := 5) sc__law_entry.nd rfl (Or.inl rfl))) (fun _ _ _ _ _ => (dts_one (dw_pt (dw_and (dt_eq rfl r (de_slice rfl (de_item rfl (de_var 5) de_int) dp_none (dp_some (de_len rfl z_len rfl (da_cons (de_var 1) da_nil)))) (de_var 1)) (dw_and1 (dt_ne rfl r (de_item rfl (de_var 5) de_int) (de_var 1))))))) (fun _ _ _ _ _ => (de_var 5)) tok_name (by decide)))
  (dss_cons (ds_set (i := 4) sc__law_entry.nd rfl (Or.inl rfl) (de_lst da_nil))
  (dss_cons (ds_for (passes_of rfl) rfl (di_seq rfl (de_var 3)) (dg_name (i := 5) sc__law_entry.nd rfl (Or.inl rfl)) (dss_one (ds_if (dt_notIn rfl (de_item rfl (de_item rfl (de_var 5) de_int) (de_len rfl z_len rfl (da_cons (de_var 1) da_nil))) (de_var 4)) (dss_one (ds_append (i := 4) rfl rfl (Or.inl rfl) (de_item rfl (de_item rfl (de_var 5) de_int) (de_len rfl z_len rfl (da_cons (de_var 1) da_nil))))) dss_nil)))
  (dss_cons (ds_set (i := 6) sc__law_entry.nd rfl (Or.inl rfl) (de_tup (da_cons de_str (da_cons (de_tuple rfl z_tuple rfl (da_cons (de_comp (own' := [("_law_name", 11)]) rfl sc__law_entry.nd (di_seq rfl (de_var 4)) (blkOk_by (own := [("_law_name", 11)]) (N := N__law_entry) (sc := defScope s__law_entry) (by decide +kernel)) (fun _ _ _ _ _ => (dg_name (i := 11) sc__law_entry.nd rfl (Or.inl rfl))) (fun _ _ _ _ _ => dts_nil) (fun _ _ _ _ _ => (de_tup (da_cons (de_var 11) (da_cons (de_call rfl K__law_entry gq r takes0 (da_cons (de_var 3) (da_cons (de_add rfl (de_var 1) (de_tup (da_cons (de_var 11) da_nil))) (da_cons (de_var 2) da_nil))) (many_cons (many_cons (many_cons many_nil))) rfl) da_nil)))) tok_name (by decide)) da_nil)) (da_cons de_bl da_nil)))))
  (dss_cons (ds_setLc (i := 7) (own' := [("_law_row_here", 5)]) rfl sc__law_entry.nd rfl rfl (di_seq rfl (de_var 0)) (blkOk_by (own := [("_law_row_here", 5)]) (N := N__law_entry) (sc := defScope s__law_entry) (by decide +kernel)) (fun _ _ _ _ _ => (dg_name (i := 5) sc__law_entry.nd rfl (Or.inl rfl))) (fun _ _ _ _ _ => (dts_one (dt_eq rfl r (de_item rfl (de_var 5) de_int) (de_var 1)))) (fun _ _ _ _ _ => (de_var 5)) tok_name (by decide) (sw_true rfl rfl rfl (by decide +kernel)))
  (dss_cons (ds_if (dt_eq rfl r (de_var 7) (de_lst da_nil)) (dss_one (ds_ret (de_var 6))) dss_nil)
  (dss_cons (ds_set (i := 8) sc__law_entry.nd rfl (Or.inl rfl) (de_tup (da_cons (de_var 2) (da_cons (de_var 1) da_nil))))
  (dss_cons (ds_set (i := 9) sc__law_entry.nd rfl (Or.inl rfl) (de_item rfl (de_item rfl (de_var 7) de_int) de_int))
  (dss_cons (ds_if (dt_eq rfl r (de_var 9) de_str) (dss_one (ds_ret (de_tup (da_cons de_str (da_cons (de_var 8) da_nil))))) dss_nil)
  (dss_cons (ds_if (dt_eq rfl r (de_var 9) de_str) (dss_one (ds_ret (de_tup (da_cons de_str (da_cons (de_item rfl (de_item rfl (de_var 7) de_int) de_int) (da_cons (de_var 6) (da_cons (de_var 8) da_nil))))))) dss_nil)
  (dss_cons (ds_if (dt_eq rfl r (de_var 9) de_str) (dss_one (ds_ret (de_tup (da_cons de_str (da_cons (de_item rfl (de_item rfl (de_var 7) de_int) de_int) (da_cons (de_var 8) da_nil)))))) dss_nil)
  (dss_cons (ds_set (i := 10) sc__law_entry.nd rfl (Or.inl rfl) (de_tup (da_cons (de_tup (da_cons (de_item rfl (de_item rfl (de_var 7) de_int) de_int) (da_cons (de_var 8) da_nil))) da_nil)))
  (dss_one (ds_ret (de_tup (da_cons de_str (da_cons de_non (da_cons (de_item rfl (de_lst (da_cons (de_tup da_nil) (da_cons (de_var 10) da_nil))) (de_intB z_int rfl (da_cons (de_eq rfl r (de_var 9) de_str) da_nil))) (da_cons (de_item rfl (de_lst (da_cons (de_tup da_nil) (da_cons (de_var 10) da_nil))) (de_intB z_int rfl (da_cons (de_eq rfl r (de_var 9) de_str) da_nil))) da_nil)))))))))))))))))))

/-! #### law -/
abbrev s_law : Stmt := top 17
abbrev N_law : List Str := ["_law_script", "_law_names_here", "_law_number", "_law_rows", "_law_due", "_law_handed", "_law_found", "_law_again"]
theorem sc_law : FnScope N_law ["_law_script"] (defScope s_law) := ⟨rfl, rfl, rfl, by decide +kernel, rfl, by decide +kernel, by decide +kernel⟩
def r_law_1 (φ__law_entry : List D → Res) (φ_layer_of : List D → Res) : SS := (sCons (sClear 5)
  (sCons (sIf (tOrD (tOf (eV neD (two (eV reprD (aCons (eVar 6) aNil)) (eV reprD (aCons (eVar 4) aNil))))) (tOf (eV neD (two (eV reprD (aCons (eVar 7) aNil)) (eV reprD (aCons (eCall φ__law_entry (aCons (eVar 3) (aCons (eTup aNil) (aCons (eF addD (two (eVar 2) (eC (.int 1)))) aNil)))) aNil)))))) (sRet (eC (.bl false))) sNil)
  (sRet (eAndD (eV eqD (two (eRead φ_layer_of (aCons (eF listD (aCons (eVar 3) aNil)) (aCons (eVar 2) aNil))) (eVar 4))) (eV eqD (two (eRead φ_layer_of (aCons (eLst aNil) (aCons (eVar 2) aNil))) (eTup (aCons (eC (.str "record")) (aCons (eTup aNil) (aCons (eC (.bl false)) aNil))))))))))
theorem r_law_1_k {φ__law_entry : List D → Res} {φ_layer_of : List D → Res} {sl : List (Option Sl)} {me : O} : r_law_1 φ__law_entry φ_layer_of ⟨sl, me⟩ = ((sCons (sClear 5)
  (sCons (sIf (tOrD (tOf (eV neD (two (eV reprD (aCons (eVar 6) aNil)) (eV reprD (aCons (eVar 4) aNil))))) (tOf (eV neD (two (eV reprD (aCons (eVar 7) aNil)) (eV reprD (aCons (eCall φ__law_entry (aCons (eVar 3) (aCons (eTup aNil) (aCons (eF addD (two (eVar 2) (eC (.int 1)))) aNil)))) aNil)))))) (sRet (eC (.bl false))) sNil)
  (sRet (eAndD (eV eqD (two (eRead φ_layer_of (aCons (eF listD (aCons (eVar 3) aNil)) (aCons (eVar 2) aNil))) (eVar 4))) (eV eqD (two (eRead φ_layer_of (aCons (eLst aNil) (aCons (eVar 2) aNil))) (eTup (aCons (eC (.str "record")) (aCons (eTup aNil) (aCons (eC (.bl false)) aNil))))))))))) ⟨sl, me⟩ := id rfl
def g_law (φ__law_cell_at : List D → Res) (φ__law_entry : List D → Res) (φ__law_good_rows : List D → Res) (φ__law_mixed : List D → Res) (φ__law_names : List D → Res) (φ_layer_of : List D → Res) : SS :=
  (sCons (sSet 1 (eCall φ__law_names (aCons (eCall φ__law_mixed (aCons (eCall φ__law_cell_at (aCons (eVar 0) (aCons (eC (.int 0)) aNil))) (aCons (eC (.int 1)) aNil))) aNil)))
  (sCons (sSet 2 (eItem (eLst (aCons (eV modD (two (eCall φ__law_cell_at (aCons (eVar 0) (aCons (eC (.int 0)) aNil))) (eC (.int 8)))) (aCons (eV modD (two (eCall φ__law_cell_at (aCons (eVar 0) (aCons (eC (.int 0)) aNil))) (eV powD (two (eC (.int 10)) (eC (.int 30)))))) aNil))) (eV modD (two (eCall φ__law_cell_at (aCons (eVar 0) (aCons (eC (.int 1)) aNil))) (eC (.int 2))))))
  (sCons (sSet 3 (eCall φ__law_good_rows (aCons (eSlice (eVar 0) (pSome (eC (.int 1))) (pSome (eC (.int 91)))) (aCons (eVar 1) (aCons (eC (.int 2)) aNil)))))
  (sCons (sSet 4 (eCall φ__law_entry (aCons (eVar 3) (aCons (eTup aNil) (aCons (eVar 2) aNil)))))
  (sCons (sSet 5 (eF listD (aCons (eVar 3) aNil)))
  (sCons (sSet 6 (eRead φ_layer_of (aCons (eVar 5) (aCons (eVar 2) aNil))))
  (sCons (sSet 7 (eRead φ_layer_of (aCons (eVar 5) (aCons (eF addD (two (eVar 2) (eC (.int 1)))) aNil))))
  (r_law_1 φ__law_entry φ_layer_of))))))))
theorem fn_law {φ__law_cell_at : List D → Res} {φ__law_entry : List D → Res} {φ__law_good_rows : List D → Res} {φ__law_mixed : List D → Res} {φ__law_names : List D → Res} {φ_layer_of : List D → Res}  {f : Addr} {fd : FuncData} (F : Fun c.K "law" "law" s_law f fd) (K__law_cell_at : Kn P w mg base c k "_law_cell_at" 2 φ__law_cell_at) (K__law_entry : Kn P w mg base c k "_law_entry" 3 φ__law_entry) (K__law_good_rows : Kn P w mg base c k "_law_good_rows" 3 φ__law_good_rows) (K__law_mixed : Kn P w mg base c k "_law_mixed" 2 φ__law_mixed) (K__law_names : Kn P w mg base c k "_law_names" 1 φ__law_names) (K_layer_of : Kn P w mg base c k "layer_of" 2 φ_layer_of)  (z_list : mg "list" = none) (z_repr : mg "repr" = none) :
    FnG P w c.K mg base (k + 1) f fd ["_law_script"] (spP c 1 (defSem 8 1 (g_law φ__law_cell_at φ__law_entry φ__law_good_rows φ__law_mixed φ__law_names φ_layer_of))) :=
  defP F sc_law fun cdv A outer s H E gq r =>
  (dss_cons (ds_set (i := 1) sc_law.nd rfl (Or.inl rfl) (de_call rfl K__law_names gq r (takes_of rfl rfl rfl rfl) (da_cons (de_call rfl K__law_mixed gq r (takes_of rfl rfl rfl rfl) (da_cons (de_call rfl K__law_cell_at gq r (takes_of rfl rfl rfl rfl) (da_cons (de_var 0) (da_cons de_int da_nil)) (many_cons (many_cons many_nil)) rfl) (da_cons de_int da_nil)) (many_cons (many_cons many_nil)) rfl) da_nil) (many_cons many_nil) rfl))
  (dss_cons (ds_set (i := 2) sc_law.nd rfl (Or.inl rfl) (de_item rfl (de_lst (da_cons (de_mod (de_call rfl K__law_cell_at gq r (takes_of rfl rfl rfl rfl) (da_cons (de_var 0) (da_cons de_int da_nil)) (many_cons (many_cons many_nil)) rfl) de_int) (da_cons (de_mod (de_call rfl K__law_cell_at gq r (takes_of rfl rfl rfl rfl) (da_cons (de_var 0) (da_cons de_int da_nil)) (many_cons (many_cons many_nil)) rfl) (de_pow de_int de_int)) da_nil))) (de_mod (de_call rfl K__law_cell_at gq r (takes_of rfl rfl rfl rfl) (da_cons (de_var 0) (da_cons de_int da_nil)) (many_cons (many_cons many_nil)) rfl) de_int)))
  (dss_cons (ds_set (i := 3) sc_law.nd rfl (Or.inl rfl) (de_call rfl K__law_good_rows gq r (takes_of rfl rfl rfl rfl) (da_cons (de_slice rfl (de_var 0) (dp_some de_int) (dp_some de_int)) (da_cons (de_var 1) (da_cons de_int da_nil))) (many_cons (many_cons (many_cons many_nil))) rfl))
  (dss_cons (ds_set (i := 4) sc_law.nd rfl (Or.inl rfl) (de_call rfl K__law_entry gq r (takes_of rfl rfl rfl rfl) (da_cons (de_var 3) (da_cons (de_tup da_nil) (da_cons (de_var 2) da_nil))) (many_cons (many_cons (many_cons many_nil))) rfl))
  (dss_cons (ds_set (i := 5) sc_law.nd rfl (Or.inl rfl) (de_list rfl z_list rfl (da_cons (de_var 3) da_nil)))
  (dss_cons (ds_set (i := 6) sc_law.nd rfl (Or.inl rfl) (de_read rfl K_layer_of gq r (takes_of rfl rfl rfl rfl) (da_cons (de_var 5) (da_cons (de_var 2) da_nil)) (many_cons (many_cons many_nil)) rfl))
  (dss_cons (ds_set (i := 7) sc_law.nd rfl (Or.inl rfl) (de_read rfl K_layer_of gq r (takes_of rfl rfl rfl rfl) (da_cons (de_var 5) (da_cons (de_add rfl (de_var 2) de_int) da_nil)) (many_cons (many_cons many_nil)) rfl))
  (dss_cons (ds_clear (i := 5) rfl rfl (Or.inl rfl))
  (dss_cons (ds_if (dw_pt (dw_or (dt_ne rfl r (de_repr rfl gq r z_repr rfl (da_cons (de_var 6) da_nil)) (de_repr rfl gq r z_repr rfl (da_cons (de_var 4) da_nil))) (dw_or1 (dt_ne rfl r (de_repr rfl gq r z_repr rfl (da_cons (de_var 7) da_nil)) (de_repr rfl gq r z_repr rfl (da_cons (de_call rfl K__law_entry gq r (takes_of rfl rfl rfl rfl) (da_cons (de_var 3) (da_cons (de_tup da_nil) (da_cons (de_add rfl (de_var 2) de_int) da_nil))) (many_cons (many_cons (many_cons many_nil))) rfl) da_nil)))))) (dss_one (ds_ret de_bl)) dss_nil)
  (dss_one (ds_ret (de_and (de_eq rfl r (de_read rfl K_layer_of gq r (takes_of rfl rfl rfl rfl) (da_cons (de_list rfl z_list rfl (da_cons (de_var 3) da_nil)) (da_cons (de_var 2) da_nil)) (many_cons (many_cons many_nil)) rfl) (de_var 4)) (de_one (de_eq rfl r (de_read rfl K_layer_of gq r (takes_of rfl rfl rfl rfl) (da_cons (de_lst da_nil) (da_cons (de_var 2) da_nil)) (many_cons (many_cons many_nil)) rfl) (de_tup (da_cons de_str (da_cons (de_tup da_nil) (da_cons de_bl da_nil))))))))))))))))))
/-! #### record -/
abbrev s_record : Stmt := inClass (top 5) 2
abbrev N_record : List Str := ["self", "number", "name", "spot"]
theorem sc_record : FnScope N_record ["self", "number"] (defScope s_record) := ⟨rfl, rfl, rfl, by decide +kernel, rfl, by decide +kernel, by decide +kernel⟩
def c_record_1 (φ_entry : List D → Res) : En → Out Rv := eCompI 0 "Spot" "inner" (gT (gCons' (gN 2) (gCons' (gN 3) gNil'))) tYesD (eTup (aCons (eVar 2) (aCons (eMeth "Spot" "entry" φ_entry (eVar 3) (aCons (eVar 1) aNil)) aNil))) [2, 3]
def g_record (φ_entry : List D → Res) : SS :=
  (sRet (eTup (aCons (eC (.str "record")) (aCons (eF tupleD (aCons (c_record_1 φ_entry) aNil)) (aCons (eC (.bl false)) aNil)))))
theorem kn_record {φ_entry : List D → Res}  (S : SrcM c "Spot" "record" "Spot.record" s_record ["self", "number"]) (K_entry : KnM P w mg base c k "Spot" "entry" 2 φ_entry) (T_Spot_inner : ClsF c "Spot" "inner") (z_tuple : mg "tuple" = none) :
    KnM P w mg base c (k + 1) "Spot" "record" 2 (defSem 4 2 (g_record φ_entry)) :=
  S.kn sc_record fun f cdv A outer s H E gq r =>
  (dss_one (ds_ret (de_tup (da_cons de_str (da_cons (de_tuple rfl z_tuple rfl (da_cons (de_compI (own' := [("name", 2), ("spot", 3)]) (i := 0) rfl rfl sc_record.nd T_Spot_inner rfl (Or.inl rfl) (blkOk_by (own := [("name", 2), ("spot", 3)]) (N := N_record) (sc := defScope s_record) (by decide +kernel)) (fun _ _ _ _ _ => (dg_tup rfl rfl (dgs_cons (dg_name (i := 2) sc_record.nd rfl (Or.inl rfl)) (dgs_cons (dg_name (i := 3) sc_record.nd rfl (Or.inl rfl)) dgs_nil)) (glen_cons (glen_cons glen_nil)))) (fun _ _ _ _ _ => dts_nil) (fun _ _ _ _ _ => (de_tup (da_cons (de_var 2) (da_cons (de_meth rfl K_entry gq r takes0 (de_var 3) (da_cons (de_var 1) da_nil) (many_cons many_nil)) da_nil)))) (tok_tup (toks_cons tok_name (toks_cons tok_name toks_nil)) (glen_cons (glen_cons glen_nil))) (by decide)) da_nil)) (da_cons de_bl da_nil))))))

/-! #### entry -/
abbrev s_entry : Stmt := inClass (top 5) 3
abbrev N_entry : List Str := ["self", "number", "mark", "word", "pair"]
theorem sc_entry : FnScope N_entry ["self", "number"] (defScope s_entry) := ⟨rfl, rfl, rfl, by decide +kernel, rfl, by decide +kernel, by decide +kernel⟩
def g_entry (φ_record : List D → Res) : SS :=
  (sCons (sIf (tOf (eV isD (two (eFld "Spot" "row" (eVar 0)) (eC .non)))) (sRet (eMeth "Spot" "record" φ_record (eVar 0) (aCons (eVar 1) aNil))) sNil)
  (sCons (sSet 2 (eTup (aCons (eVar 1) (aCons (eItem (eFld "Spot" "row" (eVar 0)) (eC (.int 0))) aNil))))
  (sCons (sSet 3 (eItem (eFld "Spot" "row" (eVar 0)) (eC (.int 1))))
  (sCons (sIf (tOf (eV eqD (two (eVar 3) (eC (.str "gone"))))) (sRet (eTup (aCons (eC (.str "gone")) (aCons (eVar 2) aNil)))) sNil)
  (sCons (sIf (tOf (eV eqD (two (eVar 3) (eC (.str "make"))))) (sRet (eTup (aCons (eC (.str "make")) (aCons (eItem (eFld "Spot" "row" (eVar 0)) (eC (.int 2))) (aCons (eMeth "Spot" "record" φ_record (eVar 0) (aCons (eVar 1) aNil)) (aCons (eVar 2) aNil)))))) sNil)
  (sCons (sIf (tOf (eV eqD (two (eVar 3) (eC (.str "is"))))) (sRet (eTup (aCons (eC (.str "is")) (aCons (eItem (eFld "Spot" "row" (eVar 0)) (eC (.int 2))) (aCons (eVar 2) aNil))))) sNil)
  (sCons (sSet 4 (eTup (aCons (eItem (eFld "Spot" "row" (eVar 0)) (eC (.int 2))) (aCons (eVar 2) aNil))))
  (sRet (eIf (tOf (eV eqD (two (eVar 3) (eC (.str "ahead"))))) (eTup (aCons (eC (.str "pile")) (aCons (eC .non) (aCons (eTup (aCons (eVar 4) aNil)) (aCons (eTup aNil) aNil))))) (eTup (aCons (eC (.str "pile")) (aCons (eC .non) (aCons (eTup aNil) (aCons (eTup (aCons (eVar 4) aNil)) aNil))))))))))))))
theorem kn_entry {φ_record : List D → Res}  (S : SrcM c "Spot" "entry" "Spot.entry" s_entry ["self", "number"]) (K_record : KnM P w mg base c k "Spot" "record" 2 φ_record) (T_Spot_row : ClsF c "Spot" "row")  :
    KnM P w mg base c (k + 1) "Spot" "entry" 2 (defSem 5 2 (g_entry φ_record)) :=
  S.kn sc_entry fun f cdv A outer s H E gq r =>
  (dss_cons (ds_if (dt_is (de_fld rfl T_Spot_row (de_var 0)) de_non) (dss_one (ds_ret (de_meth rfl K_record gq r (takes_of rfl rfl rfl rfl) (de_var 0) (da_cons (de_var 1) da_nil) (many_cons many_nil)))) dss_nil)
  (dss_cons (ds_set (i := 2) sc_entry.nd rfl (Or.inl rfl) (de_tup (da_cons (de_var 1) (da_cons (de_item rfl (de_fld rfl T_Spot_row (de_var 0)) de_int) da_nil))))
  (dss_cons (ds_set (i := 3) sc_entry.nd rfl (Or.inl rfl) (de_item rfl (de_fld rfl T_Spot_row (de_var 0)) de_int))
  (dss_cons (ds_if (dt_eq rfl r (de_var 3) de_str) (dss_one (ds_ret (de_tup (da_cons de_str (da_cons (de_var 2) da_nil))))) dss_nil)
  (dss_cons (ds_if (dt_eq rfl r (de_var 3) de_str) (dss_one (ds_ret (de_tup (da_cons de_str (da_cons (de_item rfl (de_fld rfl T_Spot_row (de_var 0)) de_int) (da_cons (de_meth rfl K_record gq r (takes_of rfl rfl rfl rfl) (de_var 0) (da_cons (de_var 1) da_nil) (many_cons many_nil)) (da_cons (de_var 2) da_nil))))))) dss_nil)
  (dss_cons (ds_if (dt_eq rfl r (de_var 3) de_str) (dss_one (ds_ret (de_tup (da_cons de_str (da_cons (de_item rfl (de_fld rfl T_Spot_row (de_var 0)) de_int) (da_cons (de_var 2) da_nil)))))) dss_nil)
  (dss_cons (ds_set (i := 4) sc_entry.nd rfl (Or.inl rfl) (de_tup (da_cons (de_item rfl (de_fld rfl T_Spot_row (de_var 0)) de_int) (da_cons (de_var 2) da_nil))))
  (dss_one (ds_ret (de_if (dt_eq rfl r (de_var 3) de_str) (de_tup (da_cons de_str (da_cons de_non (da_cons (de_tup (da_cons (de_var 4) da_nil)) (da_cons (de_tup da_nil) da_nil))))) (de_tup (da_cons de_str (da_cons de_non (da_cons (de_tup da_nil) (da_cons (de_tup (da_cons (de_var 4) da_nil)) da_nil)))))))))))))))

end
end K10

set_option Elab.async false
set_option linter.all false
set_option maxRecDepth 100000
set_option maxHeartbeats 4000000
namespace K10
open PySem L2 PySem.Spec PyProof.Rows DL
def mix (a k : Int) : Int := (a % 2147483629 * (48271 + 7919 * k * k + 104729 * k) + 31 * k + 12345) % 2147483647
theorem mix_ge (a k : Int) : 0 ≤ mix a k := Int.emod_nonneg _ (by decide)
theorem mix_lt (a k : Int) : mix a k < 2147483647 := Int.emod_lt_of_pos _ (by decide)
theorem sem_mixed {a k : Int} (hk : k.natAbs < 18446744073709551616) : defSem 3 2 g__law_mixed [.int a, .int k] = .ok (.fz (.int (mix a k))) := by
  have h0 : (a % 2147483629).natAbs < 18446744073709551616 := by omega
  simp [defSem, frame, sCons, sNil, sIf, sSet, sRet, sDrop, eF, eV, two, aCons, aNil, eC, eVar, eTup, eLst, eItem, eIf, tOf, tAndD, tOrD, tNotD, eAndD, eOrD, eNotD, fixAll, lookAll, ownAll, fix, look, own, give, O.val, vals, treeOf, itemD, bind_ok, so_ok, then_nx, then_rt, En.put, En.hole, En.at, En.frz, addD_int, subD, mulD_l, mulD_r, modD_of, divD_of, eqD_int, neD_int, eqD_str, neD_str, cmpD, g__law_mixed, h0, hk, mix]
theorem sem_cell_at {ns : List Int} {k : Int} (hk : 0 ≤ k) : ∃ v : Int, defSem 2 2 g__law_cell_at [.lst (ns.map .int), .int k] = .ok (.fz (.int v)) := by
  by_cases h : k < ns.length
  · obtain ⟨x, hx, e⟩ := atI_mem (xs := ns.map D.int) hk (by rw [List.length_map]; exact h)
    obtain ⟨v, _, rfl⟩ := List.mem_map.mp hx
    refine ⟨v, ?_⟩
    simp [defSem, frame, sCons, sNil, sIf, sSet, sRet, sDrop, eF, eV, two, aCons, aNil, eC, eVar, eTup, eLst, eItem, eIf, tOf, tAndD, tOrD, tNotD, eAndD, eOrD, eNotD, fixAll, lookAll, ownAll, fix, look, own, give, O.val, vals, treeOf, itemD, bind_ok, so_ok, then_nx, then_rt, En.put, En.hole, En.at, En.frz, addD_int, subD, mulD_l, mulD_r, modD_of, divD_of, eqD_int, neD_int, eqD_str, neD_str, cmpD, g__law_cell_at, lenD, e, h]
  · refine ⟨0, ?_⟩
    simp [defSem, frame, sCons, sNil, sIf, sSet, sRet, sDrop, eF, eV, two, aCons, aNil, eC, eVar, eTup, eLst, eItem, eIf, tOf, tAndD, tOrD, tNotD, eAndD, eOrD, eNotD, fixAll, lookAll, ownAll, fix, look, own, give, O.val, vals, treeOf, itemD, bind_ok, so_ok, then_nx, then_rt, En.put, En.hole, En.at, En.frz, addD_int, subD, mulD_l, mulD_r, modD_of, divD_of, eqD_int, neD_int, eqD_str, neD_str, cmpD, g__law_cell_at, lenD, h]

/-! ### names -/
def one (c : Nat) : Str := ⟨#[c]⟩
def chars (cs : List Nat) : List O := cs.map fun c => .fz (.str (one c))
theorem strsOf_one : ∀ cs : List Nat, strsOf (cs.map fun c => D.str (one c)) = some (cs.map one)
  | [] => rfl
  | c :: cs => by
    rw [List.map_cons]
    unfold strsOf
    rw [strsOf_one cs]
    rfl
theorem str_app (x y : List Nat) : (⟨x.toArray⟩ : Str) ++ (⟨y.toArray⟩ : Str) = ⟨(x ++ y).toArray⟩ := by
  show (⟨x.toArray ++ y.toArray⟩ : Str) = _
  simp
theorem join_one : ∀ cs : List Nat, Str.join "" (cs.map one) = ⟨cs.toArray⟩
  | [] => rfl
  | [c] => rfl
  | c :: d :: r => by
    have ih := join_one (d :: r)
    show one c ++ ("" : Str) ++ Str.join "" ((d :: r).map one) = _
    rw [ih]
    show (⟨[c].toArray⟩ : Str) ++ (⟨([] : List Nat).toArray⟩ : Str) ++ _ = _
    rw [str_app, str_app]
    rfl
theorem joinS_one {cs : List Nat} (h : cs.length ≤ 1000) : joinS "" (.lst (cs.map fun c => D.str (one c))) = some (.str ⟨cs.toArray⟩) := by
  unfold joinS
  simp only [strsOf_one]
  rw [if_pos]
  · show some (D.str (Builtin.Str.glued "" (cs.map one))) = _
    rw [StrLaws.glued_eq_join, join_one]
  · have : ((cs.map one).map (·.length)).sum = cs.length := by
      induction cs with
      | nil => rfl
      | cons c cs ih =>
        rw [List.length_cons] at h
        simp only [List.map_cons, List.sum_cons, List.length_cons]
        rw [ih (by omega)]
        show 1 + _ = _
        omega
    rw [this]
    have e : (("" : String) : Str).length = 0 := rfl
    rw [e]
    unfold most
    omega
def signs : Str := "qzjvxkw"
def sg (i : Int) : Nat := ((atI signs.cps.toList i).getD 0)
theorem sg_ok {i : Int} (h : 0 ≤ i) (h2 : i < 7) : itemD (.str signs) i = some (.str (one (sg i))) ∧ sg i < 128 := by
  have : i = 0 ∨ i = 1 ∨ i = 2 ∨ i = 3 ∨ i = 4 ∨ i = 5 ∨ i = 6 := by omega
  rcases this with rfl | rfl | rfl | rfl | rfl | rfl | rfl <;> exact ⟨rfl, by decide⟩
end K10

set_option Elab.async false
set_option linter.all false
set_option maxRecDepth 100000
set_option maxHeartbeats 4000000
namespace K10
open PySem L2 PySem.Spec PyProof.Rows DL
/-- what a list of names is -/
structure NamesOk (xs : List Str) : Prop where
  len : xs.length = 5
  nd : xs.Nodup
  ok : ∀ x ∈ xs, PyData.strOk x = true ∧ x.length ≤ 8
def rep (c n : Nat) : Str := ⟨(List.replicate n c).toArray⟩
theorem mul_one_str {c : Nat} {k : Int} (h1 : 0 ≤ k) (h : k ≤ 10) : mulD [.str (one c), .int k] = some (.str (rep c k.toNat)) := by
  have : k = 0 ∨ k = 1 ∨ k = 2 ∨ k = 3 ∨ k = 4 ∨ k = 5 ∨ k = 6 ∨ k = 7 ∨ k = 8 ∨ k = 9 ∨ k = 10 := by omega
  rcases this with rfl | rfl | rfl | rfl | rfl | rfl | rfl | rfl | rfl | rfl | rfl <;> rfl
theorem names_rep {c : Nat} (h : c < 128) : NamesOk ((nums 0 5).map fun d => match d with | .int k => rep c (1 + k).toNat | _ => rep c 0) := by
  refine ⟨rfl, ?_, ?_⟩
  · show [rep c 1, rep c 2, rep c 3, rep c 4, rep c 5].Nodup
    simp [rep]
  · intro x hx
    have hx : x ∈ [rep c 1, rep c 2, rep c 3, rep c 4, rep c 5] := hx
    simp only [List.mem_cons, List.not_mem_nil, or_false] at hx
    have h2 : c < 1114112 := by omega
    rcases hx with rfl | rfl | rfl | rfl | rfl <;> refine ⟨?_, ?_⟩ <;> simp [rep, PyData.strOk, h2, Str.length]
/-- the names of the second sort -/
def rest (cs : List Nat) (at_ : Nat) (q : Nat) : Str := ⟨(cs.set at_ q).toArray⟩
theorem rest_inj {cs : List Nat} {a q r : Nat} (h : a < cs.length) (e : rest cs a q = rest cs a r) : q = r := by
  unfold rest at e
  injection e with e
  have e := congrArg Array.toList e
  simp only at e
  have := congrArg (fun l => l[a]?) e
  simpa [h] using this
theorem names_rest {cs : List Nat} {a : Nat} (h : a < cs.length) (h8 : cs.length ≤ 8) (hc : ∀ c ∈ cs, c < 128) : NamesOk ([113, 122, 106, 118, 120].map (rest cs a)) := by
  refine ⟨rfl, ?_, ?_⟩
  · exact nodup_map (fun x _ y _ e => rest_inj h e) (by decide)
  · intro x hx
    obtain ⟨q, hq, rfl⟩ := List.mem_map.mp hx
    have hq : q < 128 := by
      simp only [List.mem_cons, List.not_mem_nil, or_false] at hq
      omega
    refine ⟨?_, ?_⟩
    · unfold PyData.strOk rest
      simp only [List.all_toArray, List.all_eq_true, decide_eq_true_eq]
      intro c hm
      rcases List.mem_or_eq_of_mem_set hm with hm | rfl
      · have := hc c hm; omega
      · omega
    · show (cs.set a q).toArray.size ≤ 8
      simpa using h8
theorem ev_c1 {a : Int} {me : O} {s2 s3 s4 s5 : Option Sl} : c__law_names_1 ⟨[some (.ow (.fz (.int a))), some (.ow (.fz (.str signs))), s2, s3, s4, s5, none], me⟩ = .ok (.tm (.lst ((nums 0 5).map fun d => match d with | .int k => .fz (.str (rep (sg (a / 4 % 7)) (1 + k).toNat)) | _ => .fz .non))) ⟨[some (.ow (.fz (.int a))), some (.ow (.fz (.str signs))), s2, s3, s4, s5, none], me⟩ := by
  refine eComp_all _ rfl rfl (fun d hd => ?_) (by rw [nums_length]; decide)
  obtain ⟨j, hj, rfl⟩ := nums0_mem hd
  obtain ⟨h1, h2⟩ := sg_ok (i := a / 4 % 7) (by omega) (by omega)
  have h3 := mul_one_str (c := sg (a / 4 % 7)) (k := 1 + (j : Int)) (by omega) (by omega)
  simp [turn1, gN, tYesD, En.wipe, defSem, frame, sCons, sNil, sIf, sSet, sRet, sDrop, eF, eV, two, aCons, aNil, eC, eVar, eTup, eLst, eItem, eIf, tOf, tAndD, tOrD, tNotD, eAndD, eOrD, eNotD, fixAll, lookAll, ownAll, fix, look, own, give, O.val, vals, treeOf, itemD_lst, itemD_tup, bind_ok, so_ok, then_nx, then_rt, En.put, En.hole, En.at, En.frz, addD_int, subD, mulD_l, mulD_r, modD_of, divD_of, eqD_int, neD_int, eqD_str, neD_str, cmpD, h1, h3]
theorem ev_c2 {a n : Int} {me : O} {s3 s4 s5 : Option Sl} (ha : 0 ≤ a) (hn : 0 ≤ n ∧ n ≤ 8) : c__law_names_2 ⟨[some (.ow (.fz (.int a))), some (.ow (.fz (.str signs))), some (.ow (.fz (.int n))), s3, s4, s5, none], me⟩ = .ok (.tm (.lst ((nums 0 n.toNat).map fun d => match d with | .int k => .fz (.str (one (sg (a / (256 + 31 * k) % 7)))) | _ => .fz .non))) ⟨[some (.ow (.fz (.int a))), some (.ow (.fz (.str signs))), some (.ow (.fz (.int n))), s3, s4, s5, none], me⟩ := by
  refine eComp_all _ (by simp [itRange1, defSem, frame, sCons, sNil, sIf, sSet, sRet, sDrop, eF, eV, two, aCons, aNil, eC, eVar, eTup, eLst, eItem, eIf, tOf, tAndD, tOrD, tNotD, eAndD, eOrD, eNotD, fixAll, lookAll, ownAll, fix, look, own, give, O.val, vals, treeOf, itemD_lst, itemD_tup, bind_ok, so_ok, then_nx, then_rt, En.put, En.hole, En.at, En.frz, addD_int, subD, mulD_l, mulD_r, modD_of, divD_of, eqD_int, neD_int, eqD_str, neD_str, cmpD, rangeOk_of (i := n) (by omega) (by omega)]) rfl (fun d hd => ?_) (by rw [nums_length]; omega)
  obtain ⟨j, hj, rfl⟩ := nums0_mem hd
  obtain ⟨h1, h2⟩ := sg_ok (i := a / (256 + 31 * (j : Int)) % 7) (by omega) (by omega)
  have h3 : (0 : Int) < 256 + 31 * (j : Int) ∧ 256 + 31 * (j : Int) < 1073741824 := by omega
  simp [turn1, gN, tYesD, En.wipe, defSem, frame, sCons, sNil, sIf, sSet, sRet, sDrop, eF, eV, two, aCons, aNil, eC, eVar, eTup, eLst, eItem, eIf, tOf, tAndD, tOrD, tNotD, eAndD, eOrD, eNotD, fixAll, lookAll, ownAll, fix, look, own, give, O.val, vals, treeOf, itemD_lst, itemD_tup, bind_ok, so_ok, then_nx, then_rt, En.put, En.hole, En.at, En.frz, addD_int, subD, mulD_l, mulD_r, modD_of, divD_of, eqD_int, neD_int, eqD_str, neD_str, cmpD, h1, h3]
theorem step_names {s0 s1 s2 : Option Sl} {at_ : Nat} {me : O} {cs : List Nat} {found : List O} {k q : Nat} (h : at_ < cs.length) (h8 : cs.length ≤ 8) (hf : found.length < 1000) (hq : itemD (.str "qzjvx") (k : Int) = some (.str (one q))) :
    b__law_names_3 ⟨[s0, s1, s2, some (.ow (.fz (.int (at_ : Int)))), some (.ow (.lst (chars cs))), some (.ow (.lst found)), some (.ow (.fz (.int (k : Int))))], me⟩ = .nx ⟨[s0, s1, s2, some (.ow (.fz (.int (at_ : Int)))), some (.ow (.lst (chars (cs.set at_ q)))), some (.ow (.lst (found ++ [.fz (.str (rest cs at_ q))]))), some (.ow (.fz (.int (k : Int))))], me⟩ := by
  have hi : ixN (chars cs).length (at_ : Int) = some at_ := by
    unfold ixN chars
    rw [List.length_map, if_pos (by omega), if_pos (by omega)]
    rfl
  have hs : (chars cs).set at_ (.fz (.str (one q))) = chars (cs.set at_ q) := by
    unfold chars
    rw [List.map_set]
  have hv : vals (chars (cs.set at_ q)) = (cs.set at_ q).map fun c => D.str (one c) := by
    rw [vals_eq]
    unfold chars
    rw [List.map_map]
    rfl
  have hj := joinS_one (cs := cs.set at_ q) (by rw [List.length_set]; omega)
  rw [List.map_set] at hj
  have hf2 : found.length < 1000000 := by omega
  simp [b__law_names_3, defSem, frame, sCons, sNil, sIf, sSet, sRet, sDrop, eF, eV, two, aCons, aNil, eC, eVar, eTup, eLst, eItem, eIf, tOf, tAndD, tOrD, tNotD, eAndD, eOrD, eNotD, fixAll, lookAll, ownAll, fix, look, own, give, O.val, vals, treeOf, itemD_lst, itemD_tup, bind_ok, so_ok, then_nx, then_rt, En.put, En.hole, En.at, En.frz, addD_int, subD, mulD_l, mulD_r, modD_of, divD_of, eqD_int, neD_int, eqD_str, neD_str, cmpD, sSetI, sAppend, isLst, eM1, hq, hi, hs, hv, hj, hf2, rest]
theorem ev_l {s0 s1 s2 s6 : Option Sl} {at_ : Nat} {me : O} {cs : List Nat} (h : at_ < cs.length) (h8 : cs.length ≤ 8) : ∃ s6' cs',
    l__law_names_4 ⟨[s0, s1, s2, some (.ow (.fz (.int (at_ : Int)))), some (.ow (.lst (chars cs))), some (.ow (.lst [])), s6], me⟩ = .nx ⟨[s0, s1, s2, some (.ow (.fz (.int (at_ : Int)))), some (.ow (.lst (chars cs'))), some (.ow (.lst ([113, 122, 106, 118, 120].map fun q => .fz (.str (rest cs at_ q))))), s6'], me⟩ := by
  refine ⟨some (.ow (.fz (.int ((4 : Nat) : Int)))), cs.set at_ 120, ?_⟩
  show loop (gN 6) b__law_names_3 (nums 0 5) _ = _
  rw [show nums 0 5 = [.int ((0 : Nat) : Int), .int ((1 : Nat) : Int), .int ((2 : Nat) : Int), .int ((3 : Nat) : Int), .int ((4 : Nat) : Int)] from rfl]
  simp only [loop, gN, En.put, List.set_cons_succ, List.set_cons_zero]
  rw [step_names (q := 113) h h8 (by simp) rfl]
  simp only [loop, gN, En.put, List.set_cons_succ, List.set_cons_zero]
  rw [step_names (q := 122) (by rw [List.length_set]; exact h) (by rw [List.length_set]; exact h8) (by simp) rfl]
  simp only [loop, gN, En.put, List.set_cons_succ, List.set_cons_zero]
  rw [step_names (q := 106) (by simpa using h) (by simpa using h8) (by simp) rfl]
  simp only [loop, gN, En.put, List.set_cons_succ, List.set_cons_zero]
  rw [step_names (q := 118) (by simpa using h) (by simpa using h8) (by simp) rfl]
  simp only [loop, gN, En.put, List.set_cons_succ, List.set_cons_zero]
  rw [step_names (q := 120) (by simpa using h) (by simpa using h8) (by simp) rfl]
  simp only [rest, List.set_set, List.map_cons, List.map_nil, List.nil_append, List.cons_append]
theorem sem_names {a : Int} (ha : 0 ≤ a) : ∃ xs : List Str, defSem 7 1 g__law_names [.int a] = .ok (.lst (xs.map fun x => .fz (.str x))) ∧ NamesOk xs := by
  by_cases h : a % 4 = 3
  · refine ⟨_, ?_, names_rep (sg_ok (i := a / 4 % 7) (by omega) (by omega)).2⟩
    have := fun me s2 s3 s4 s5 => ev_c1 (a := a) (me := me) (s2 := s2) (s3 := s3) (s4 := s4) (s5 := s5)
    unfold signs at this
    simp [g__law_names, defSem, frame, sCons, sNil, sIf, sSet, sRet, sDrop, eF, eV, two, aCons, aNil, eC, eVar, eTup, eLst, eItem, eIf, tOf, tAndD, tOrD, tNotD, eAndD, eOrD, eNotD, fixAll, lookAll, ownAll, fix, look, own, give, O.val, vals, treeOf, itemD_lst, itemD_tup, bind_ok, so_ok, then_nx, then_rt, En.put, En.hole, En.at, En.frz, addD_int, subD, mulD_l, mulD_r, modD_of, divD_of, eqD_int, neD_int, eqD_str, neD_str, cmpD, h, this]
    intro d hd
    obtain ⟨j, _, rfl⟩ := nums0_mem hd
    rfl
  · have e2 : ((1 : Int) + a / 4 % 8).toNat = (1 + a / 4 % 8).toNat := rfl
    have hm : (nums 0 (1 + a / 4 % 8).toNat).map (fun d => match d with | .int k => O.fz (.str (one (sg (a / (256 + 31 * k) % 7)))) | _ => .fz .non) = chars ((List.range (1 + a / 4 % 8).toNat).map fun (k : Nat) => sg (a / (256 + 31 * (k : Int)) % 7)) := by
      unfold nums chars
      rw [List.map_map, List.map_map]
      apply List.map_congr_left
      intro k _
      simp
    have h0 : 0 < 1 + a / 4 % 8 := by omega
    have hat : a / 32 % (1 + a / 4 % 8) = ((a / 32 % (1 + a / 4 % 8)).toNat : Int) := by
      rw [Int.toNat_of_nonneg (Int.emod_nonneg _ (by omega))]
    have hlt := Int.emod_lt_of_pos (a / 32) h0
    have hge := Int.emod_nonneg (a / 32) (show (1 + a / 4 % 8 : Int) ≠ 0 by omega)
    obtain ⟨s6, cs', hl⟩ := ev_l (s0 := some (.ow (.fz (.int a)))) (s1 := some (.ow (.fz (.str signs)))) (s2 := some (.ow (.fz (.int (1 + a / 4 % 8))))) (s6 := none) (me := .fz .non) (at_ := (a / 32 % (1 + a / 4 % 8)).toNat) (cs := (List.range (1 + a / 4 % 8).toNat).map fun (k : Nat) => sg (a / (256 + 31 * (k : Int)) % 7)) (by rw [List.length_map, List.length_range]; omega) (by rw [List.length_map, List.length_range]; omega)
    rw [← hat] at hl
    refine ⟨_, ?_, names_rest (cs := (List.range (1 + a / 4 % 8).toNat).map fun (k : Nat) => sg (a / (256 + 31 * (k : Int)) % 7)) (a := (a / 32 % (1 + a / 4 % 8)).toNat) (by rw [List.length_map, List.length_range]; omega) (by rw [List.length_map, List.length_range]; omega) ?_⟩
    · have hc := ev_c2 (a := a) (n := 1 + a / 4 % 8) (me := .fz .non) (s3 := some (.ow (.fz (.int (a / 32 % (1 + a / 4 % 8)))))) (s4 := none) (s5 := none) ha (by omega)
      rw [hm] at hc
      unfold signs at hc hl
      clear hm
      generalize (List.range (1 + a / 4 % 8).toNat).map (fun (k : Nat) => sg (a / (256 + 31 * (k : Int)) % 7)) = cs at hc hl ⊢
      generalize (a / 32 % (1 + a / 4 % 8)).toNat = at_ at hc hl ⊢
      simp [g__law_names, defSem, frame, sCons, sNil, sIf, sSet, sRet, sDrop, eF, eV, two, aCons, aNil, eC, eVar, eTup, eLst, eItem, eIf, tOf, tAndD, tOrD, tNotD, eAndD, eOrD, eNotD, fixAll, lookAll, ownAll, fix, look, own, give, O.val, vals, treeOf, itemD_lst, itemD_tup, bind_ok, so_ok, then_nx, then_rt, En.put, En.hole, En.at, En.frz, addD_int, subD, mulD_l, mulD_r, modD_of, divD_of, eqD_int, neD_int, eqD_str, neD_str, cmpD, h, h0, hc, hl]

    · intro c hc
      obtain ⟨k, _, rfl⟩ := List.mem_map.mp hc
      exact (sg_ok (by omega) (by omega)).2
end K10

set_option Elab.async false
set_option linter.all false
set_option maxRecDepth 100000
set_option maxHeartbeats 4000000
namespace K10
open PySem L2 PySem.Spec PyProof.Rows DL
def phM : List D → Res := defSem 3 2 g__law_mixed
theorem phM_ok {a k : Int} (hk : k.natAbs < 18446744073709551616) : phM [.int a, .int k] = .ok (.fz (.int (mix a k))) := sem_mixed hk
def nm (xs : List Str) : D := .lst (xs.map D.str)
structure Sm (n h : Nat) (d : D) : Prop where
  fit : d.fit = true
  wt : d.wt ≤ n
  dep : d.dep ≤ h
  nol : noL d = true
theorem Sm.up {n h n' h' : Nat} {d : D} (s : Sm n h d) (hn : n ≤ n') (hh : h ≤ h') : Sm n' h' d := ⟨s.fit, Nat.le_trans s.wt hn, Nat.le_trans s.dep hh, s.nol⟩
theorem Sm.int {i : Int} (h : i.natAbs < 10 ^ 31) : Sm 32 0 (.int i) := ⟨decide_eq_true h, Nat.le_refl _, Nat.le_refl _, rfl⟩
theorem Sm.str {x : Str} {n : Nat} (h : PyData.strOk x = true) (hl : 10 * x.length + 2 ≤ n) : Sm n 0 (.str x) := ⟨h, hl, Nat.le_refl _, rfl⟩
theorem Sm.non : Sm 4 0 .non := ⟨rfl, Nat.le_refl _, Nat.le_refl _, rfl⟩
theorem Sm.bl {b : Bool} : Sm 5 0 (.bl b) := ⟨rfl, Nat.le_refl _, Nat.le_refl _, rfl⟩
theorem lit {x : Str} (h : PyData.strOk x = true ∧ x.length ≤ 6) : Sm 62 0 (.str x) := .str h.1 (by omega)
theorem strOk_app {x y : Str} (hx : PyData.strOk x = true) (hy : PyData.strOk y = true) : PyData.strOk (x ++ y) = true := by
  unfold PyData.strOk at hx hy ⊢
  show (x.cps ++ y.cps).all _ = true
  rw [Array.all_append, hx, hy]
  rfl
theorem addD_str {x y : Str} (h : x.length + y.length ≤ most) : addD [.str x, .str y] = some (.fz (.str (x ++ y))) := if_pos h
/-- a tuple's parts one by one -/
inductive Sms (h : Nat) : Nat → List D → Prop
  | nil : Sms h 0 []
  | cons {n m : Nat} {d : D} {ds : List D} : Sm n h d → Sms h m ds → Sms h (n + 2 + m) (d :: ds)
theorem Sms.all {h n : Nat} {ds : List D} (s : Sms h n ds) : fits ds = true ∧ wts ds ≤ n ∧ deps ds ≤ h ∧ noLs ds = true := by
  induction s with
  | nil => exact ⟨rfl, by simp [wts], by simp [deps], rfl⟩
  | cons s1 _ ih =>
    obtain ⟨i1, i2, i3, i4⟩ := ih
    refine ⟨by simp [fits, s1.fit, i1], ?_, ?_, by simp [noLs, s1.nol, i4]⟩
    · have := s1.wt
      simp only [wts]
      omega
    · simp only [deps]
      exact Nat.max_le.mpr ⟨s1.dep, i3⟩
theorem Sms.tup {h n : Nat} {ds : List D} (s : Sms h n ds) : Sm (2 + n) (h + 1) (.tup false ds) := by
  obtain ⟨i1, i2, i3, i4⟩ := s.all
  exact ⟨by simpa [D.fit] using i1, by simp only [D.wt]; omega, by simp only [D.dep]; omega, by simpa [noL] using i4⟩
theorem noLs_of : ∀ {ds : List D}, (∀ d ∈ ds, noL d = true) → noLs ds = true
  | [], _ => rfl
  | d :: ds, h => by simp [noLs, h d List.mem_cons_self, noLs_of fun x hx => h x (List.mem_cons_of_mem _ hx)]
theorem Sm.many {n h : Nat} {ds : List D} (s : ∀ d ∈ ds, Sm n h d) {m : Nat} (hm : ds.length ≤ m) : Sm (2 + m * (n + 2)) (h + 1) (.tup false ds) := by
  have h1 : wts ds ≤ ds.length * (n + 2) := wts_le fun d hd => (s d hd).wt
  have h2 : ds.length * (n + 2) ≤ m * (n + 2) := Nat.mul_le_mul_right _ hm
  refine ⟨by simp only [D.fit]; exact fits_iff.mpr fun d hd => (s d hd).fit, by simp only [D.wt]; omega, ?_, by simp only [noL]; exact noLs_of fun d hd => (s d hd).nol⟩
  simp only [D.dep]
  have := deps_le fun d hd => (s d hd).dep
  omega
section
variable {xs : List Str} (N : NamesOk xs)
include N
theorem name_at {i : Int} (h : 0 ≤ i ∧ i < 5) : ∃ x ∈ xs, atI (xs.map D.str) i = some (.str x) := by
  obtain ⟨d, hd, e⟩ := atI_mem (xs := xs.map D.str) h.1 (by rw [List.length_map, N.len]; exact h.2)
  obtain ⟨x, hx, rfl⟩ := List.mem_map.mp hd
  exact ⟨x, hx, e⟩
theorem name_neg {i : Int} (h : i < 0 ∧ -5 ≤ i) : ∃ x ∈ xs, atI (xs.map D.str) i = some (.str x) := by
  obtain ⟨d, hd, e⟩ := atI_negmem (xs := xs.map D.str) h.1 (by rw [List.length_map, N.len]; exact h.2)
  obtain ⟨x, hx, rfl⟩ := List.mem_map.mp hd
  exact ⟨x, hx, e⟩
theorem name_sm {x : Str} (h : x ∈ xs) : Sm 82 0 (.str x) := .str (N.ok x h).1 (by have := (N.ok x h).2; omega)
end
def nameAt (xs : List Str) (i : Int) : Str := match atI (xs.map D.str) i with
  | some (.str x) => x
  | _ => ⟨#[]⟩
theorem nameAt_ok {xs : List Str} (N : NamesOk xs) {i : Int} (h : 0 ≤ i ∧ i < 5) : atI (xs.map D.str) i = some (.str (nameAt xs i)) ∧ nameAt xs i ∈ xs := by
  obtain ⟨x, hx, e⟩ := name_at N h
  unfold nameAt
  rw [e]
  exact ⟨rfl, hx⟩
theorem ev_t1 {xs : List Str} (N : NamesOk xs) {a : Int} {m : Int} {me : O} {s3 : Option Sl} (hm : 0 ≤ m) : c__law_term_1 phM ⟨[some (.ow (.fz (.int a))), some (.ow (.fz (nm xs))), some (.ow (.fz (.int m))), s3, none], me⟩ = .ok (.tm (.lst (((nums 0 (1 + m % 3).toNat).map fun d => match d with | .int k => D.str (nameAt xs (mix m k / 3 % 5)) | _ => D.non).map O.fz))) ⟨[some (.ow (.fz (.int a))), some (.ow (.fz (nm xs))), some (.ow (.fz (.int m))), s3, none], me⟩ := by
  rw [List.map_map]
  refine eComp_all _ (by simp [itRange1, defSem, frame, sCons, sNil, sIf, sSet, sRet, sDrop, eF, eV, two, aCons, aNil, eC, eVar, eTup, eLst, eItem, eIf, tOf, tAndD, tOrD, tNotD, eAndD, eOrD, eNotD, fixAll, lookAll, ownAll, fix, look, own, give, O.val, vals, treeOf, itemD_lst, itemD_tup, bind_ok, so_ok, then_nx, then_rt, En.put, En.hole, En.at, En.frz, addD_int, subD, mulD_l, mulD_r, modD_of, divD_of, eqD_int, neD_int, eqD_str, neD_str, cmpD, rangeOk_of (i := 1 + m % 3) (by omega) (by omega)]) rfl (fun d hd => ?_) (by rw [nums_length]; omega)
  obtain ⟨j, hj, rfl⟩ := nums0_mem hd
  have h1 : ((j : Int)).natAbs < 18446744073709551616 := by omega
  have h2 := (nameAt_ok N (i := mix m j / 3 % 5) (by omega)).1
  simp [turn1, gN, tYesD, En.wipe, defSem, frame, sCons, sNil, sIf, sSet, sRet, sDrop, eF, eV, two, aCons, aNil, eC, eVar, eTup, eLst, eItem, eIf, tOf, tAndD, tOrD, tNotD, eAndD, eOrD, eNotD, fixAll, lookAll, ownAll, fix, look, own, give, O.val, vals, treeOf, itemD_lst, itemD_tup, bind_ok, so_ok, then_nx, then_rt, En.put, En.hole, En.at, En.frz, addD_int, subD, mulD_l, mulD_r, modD_of, divD_of, eqD_int, neD_int, eqD_str, neD_str, cmpD, nm, eCall, phM_ok h1, h2]
theorem place_sm {xs : List Str} (N : NamesOk xs) {m : Int} : Sm 254 1 (.tup false ((nums 0 (1 + m % 3).toNat).map fun d => match d with | .int k => D.str (nameAt xs (mix m k / 3 % 5)) | _ => D.non)) := by
  refine (Sm.many (n := 82) (h := 0) (fun d hd => ?_) (m := 3) (by rw [List.length_map, nums_length]; omega)).up (by decide) (by decide)
  obtain ⟨y, hy, rfl⟩ := List.mem_map.mp hd
  obtain ⟨j, hj, rfl⟩ := nums0_mem hy
  exact name_sm N (nameAt_ok N (by omega)).2
theorem ev_t2 {s0 s1 s3 : Option Sl} {m : Int} {me : O} : c__law_term_2 ⟨[s0, s1, some (.ow (.fz (.int m))), s3, none], me⟩ = .ok (.tm (.lst (((nums 0 (m / 7 % 3).toNat).map fun d => match d with | .int k => D.tup false [.str "number", .int (k + m % 7)] | _ => D.non).map O.fz))) ⟨[s0, s1, some (.ow (.fz (.int m))), s3, none], me⟩ := by
  rw [List.map_map]
  refine eComp_all _ (by simp [itRange1, defSem, frame, sCons, sNil, sIf, sSet, sRet, sDrop, eF, eV, two, aCons, aNil, eC, eVar, eTup, eLst, eItem, eIf, tOf, tAndD, tOrD, tNotD, eAndD, eOrD, eNotD, fixAll, lookAll, ownAll, fix, look, own, give, O.val, vals, treeOf, itemD_lst, itemD_tup, bind_ok, so_ok, then_nx, then_rt, En.put, En.hole, En.at, En.frz, addD_int, subD, mulD_l, mulD_r, modD_of, divD_of, eqD_int, neD_int, eqD_str, neD_str, cmpD, rangeOk_of (i := m / 7 % 3) (by omega) (by omega)]) rfl (fun d hd => ?_) (by rw [nums_length]; omega)
  obtain ⟨j, hj, rfl⟩ := nums0_mem hd
  simp [turn1, gN, tYesD, En.wipe, defSem, frame, sCons, sNil, sIf, sSet, sRet, sDrop, eF, eV, two, aCons, aNil, eC, eVar, eTup, eLst, eItem, eIf, tOf, tAndD, tOrD, tNotD, eAndD, eOrD, eNotD, fixAll, lookAll, ownAll, fix, look, own, give, O.val, vals, treeOf, itemD_lst, itemD_tup, bind_ok, so_ok, then_nx, then_rt, En.put, En.hole, En.at, En.frz, addD_int, subD, mulD_l, mulD_r, modD_of, divD_of, eqD_int, neD_int, eqD_str, neD_str, cmpD]
theorem lst_sm {m : Int} : Sm 210 2 (.tup false ((nums 0 (m / 7 % 3).toNat).map fun d => match d with | .int k => D.tup false [.str "number", .int (k + m % 7)] | _ => D.non)) := by
  refine (Sm.many (n := 101) (h := 1) (fun d hd => ?_) (m := 2) (by rw [List.length_map, nums_length]; omega)).up (by decide) (by decide)
  obtain ⟨y, hy, rfl⟩ := List.mem_map.mp hd
  obtain ⟨j, hj, rfl⟩ := nums0_mem hy
  exact (Sms.tup (.cons (lit (by decide +kernel)) (.cons (.int (by omega)) .nil))).up (by decide) (by decide)
theorem vals_map (ds : List D) : vals (ds.map .fz) = ds := vals_fz ds
theorem sem_term {xs : List Str} (N : NamesOk xs) {a : Int} (ha : 0 ≤ a) (ha2 : a < 2147483648) : ∃ d, defSem 5 2 (g__law_term phM) [.int a, nm xs] = .ok (.fz d) ∧ Sm 600 4 d := by
  have hc : a % 6 = 0 ∨ a % 6 = 1 ∨ a % 6 = 2 ∨ a % 6 = 3 ∨ a % 6 = 4 ∨ a % 6 = 5 := by omega
  have hm : 0 ≤ a / 6 := by omega
  have hmb : (a / 6).natAbs < 18446744073709551616 := by omega
  have t1 := fun me s3 => ev_t1 N (a := a) (m := a / 6) (me := me) (s3 := s3) hm
  have t2 := fun me s0 s1 s3 => ev_t2 (s0 := s0) (s1 := s1) (s3 := s3) (m := a / 6) (me := me)
  have p1 := place_sm N (m := a / 6)
  have p2 := lst_sm (m := a / 6)
  generalize hA : ((nums 0 (1 + a / 6 % 3).toNat).map fun d => match d with | .int k => D.str (nameAt xs (mix (a / 6) k / 3 % 5)) | _ => D.non) = A at t1 p1
  generalize hB : ((nums 0 (a / 6 / 7 % 3).toNat).map fun d => match d with | .int k => D.tup false [.str "number", .int (k + a / 6 % 7)] | _ => D.non) = B at t2 p2
  clear hA hB
  rcases hc with h | h | h | h | h | h
  · have h2 : a / 6 % 2 = 0 ∨ a / 6 % 2 = 1 := by omega
    rcases h2 with h2 | h2
    · refine ⟨.tup false [.str "number", .int (a / 6 / 2 % 10)], ?_, ?_⟩
      · simp [g__law_term, defSem, frame, sCons, sNil, sIf, sSet, sRet, sDrop, eF, eV, two, aCons, aNil, eC, eVar, eTup, eLst, eItem, eIf, tOf, tAndD, tOrD, tNotD, eAndD, eOrD, eNotD, fixAll, lookAll, ownAll, fix, look, own, give, O.val, vals, treeOf, itemD_lst, itemD_tup, bind_ok, so_ok, then_nx, then_rt, En.put, En.hole, En.at, En.frz, addD_int, subD, mulD_l, mulD_r, modD_of, divD_of, eqD_int, neD_int, eqD_str, neD_str, cmpD, h, h2, hmb, powD, atI_0, nm]
      · exact (Sms.tup (.cons (lit (by decide +kernel)) (.cons (.int (by omega)) .nil))).up (by decide) (by decide)
    · refine ⟨.tup false [.str "number", .int (a / 6 * (a / 6) % 1000000000001)], ?_, ?_⟩
      · simp [g__law_term, defSem, frame, sCons, sNil, sIf, sSet, sRet, sDrop, eF, eV, two, aCons, aNil, eC, eVar, eTup, eLst, eItem, eIf, tOf, tAndD, tOrD, tNotD, eAndD, eOrD, eNotD, fixAll, lookAll, ownAll, fix, look, own, give, O.val, vals, treeOf, itemD_lst, itemD_tup, bind_ok, so_ok, then_nx, then_rt, En.put, En.hole, En.at, En.frz, addD_int, subD, mulD_l, mulD_r, modD_of, divD_of, eqD_int, neD_int, eqD_str, neD_str, cmpD, h, h2, hmb, powD, atI_1, nm]
      · exact (Sms.tup (.cons (lit (by decide +kernel)) (.cons (.int (by omega)) .nil))).up (by decide) (by decide)
  · have hs : ∃ y, sliceD (.str "a b") none (some (a / 6 % 4)) = some (.fz (.str y)) ∧ PyData.strOk y = true ∧ y.length ≤ 3 := by
      have : a / 6 % 4 = 0 ∨ a / 6 % 4 = 1 ∨ a / 6 % 4 = 2 ∨ a / 6 % 4 = 3 := by omega
      rcases this with e | e | e | e <;> rw [e] <;> exact ⟨_, rfl, by decide +kernel, by decide +kernel⟩
    obtain ⟨y, hy, hy1, hy2⟩ := hs
    obtain ⟨x, hx, e⟩ := name_at N (i := a / 6 / 4 % 5) (by omega)
    obtain ⟨hx1, hx2⟩ := N.ok x hx
    have hl : y.length + x.length ≤ most := by unfold most; omega
    refine ⟨.tup false [.str "text", .str (y ++ x)], ?_, ?_⟩
    · simp [g__law_term, defSem, frame, sCons, sNil, sIf, sSet, sRet, sDrop, eF, eV, two, aCons, aNil, eC, eVar, eTup, eLst, eItem, eIf, tOf, tAndD, tOrD, tNotD, eAndD, eOrD, eNotD, fixAll, lookAll, ownAll, fix, look, own, give, O.val, vals, treeOf, itemD_lst, itemD_tup, bind_ok, so_ok, then_nx, then_rt, En.put, En.hole, En.at, En.frz, addD_int, subD, mulD_l, mulD_r, modD_of, divD_of, eqD_int, neD_int, eqD_str, neD_str, cmpD, h, nm, eSlice, pNone, pSome, hy, e, addD_str hl]
    · exact (Sms.tup (.cons (lit (by decide +kernel)) (.cons (.str (n := 112) (strOk_app hy1 hx1) (by rw [strLen_append]; omega)) .nil))).up (by decide) (by decide)
  · refine ⟨.tup false [.str "truth", .bl (decide (a / 6 % 2 = 1))], ?_, ?_⟩
    · simp [g__law_term, defSem, frame, sCons, sNil, sIf, sSet, sRet, sDrop, eF, eV, two, aCons, aNil, eC, eVar, eTup, eLst, eItem, eIf, tOf, tAndD, tOrD, tNotD, eAndD, eOrD, eNotD, fixAll, lookAll, ownAll, fix, look, own, give, O.val, vals, treeOf, itemD_lst, itemD_tup, bind_ok, so_ok, then_nx, then_rt, En.put, En.hole, En.at, En.frz, addD_int, subD, mulD_l, mulD_r, modD_of, divD_of, eqD_int, neD_int, eqD_str, neD_str, cmpD, h, nm]
    · exact (Sms.tup (.cons (lit (by decide +kernel)) (.cons .bl .nil))).up (by decide) (by decide)
  · refine ⟨.tup false [.str "name", .tup false A], ?_, ?_⟩
    · simp [g__law_term, defSem, frame, sCons, sNil, sIf, sSet, sRet, sDrop, eF, eV, two, aCons, aNil, eC, eVar, eTup, eLst, eItem, eIf, tOf, tAndD, tOrD, tNotD, eAndD, eOrD, eNotD, fixAll, lookAll, ownAll, fix, look, own, give, O.val, vals, treeOf, itemD_lst, itemD_tup, bind_ok, so_ok, then_nx, then_rt, En.put, En.hole, En.at, En.frz, addD_int, subD, mulD_l, mulD_r, modD_of, divD_of, eqD_int, neD_int, eqD_str, neD_str, cmpD, h, t1, tupleD, vals_map]
    · exact (Sms.tup (.cons ((lit (by decide +kernel)).up (Nat.le_refl _) (Nat.zero_le _)) (.cons p1 .nil))).up (by decide) (by decide)
  · refine ⟨.tup false [.str "list", .tup false B], ?_, ?_⟩
    · simp [g__law_term, defSem, frame, sCons, sNil, sIf, sSet, sRet, sDrop, eF, eV, two, aCons, aNil, eC, eVar, eTup, eLst, eItem, eIf, tOf, tAndD, tOrD, tNotD, eAndD, eOrD, eNotD, fixAll, lookAll, ownAll, fix, look, own, give, O.val, vals, treeOf, itemD_lst, itemD_tup, bind_ok, so_ok, then_nx, then_rt, En.put, En.hole, En.at, En.frz, addD_int, subD, mulD_l, mulD_r, modD_of, divD_of, eqD_int, neD_int, eqD_str, neD_str, cmpD, h, t1, t2, tupleD, vals_map]
    · exact (Sms.tup (.cons ((lit (by decide +kernel)).up (Nat.le_refl _) (Nat.zero_le _)) (.cons p2 .nil))).up (by decide) (by decide)
  · refine ⟨.tup false [.str "two", .str "+", .tup false [.str "name", .tup false A], .tup false [.str "number", .int (a / 6 % 1000)]], ?_, ?_⟩
    · simp [g__law_term, defSem, frame, sCons, sNil, sIf, sSet, sRet, sDrop, eF, eV, two, aCons, aNil, eC, eVar, eTup, eLst, eItem, eIf, tOf, tAndD, tOrD, tNotD, eAndD, eOrD, eNotD, fixAll, lookAll, ownAll, fix, look, own, give, O.val, vals, treeOf, itemD_lst, itemD_tup, bind_ok, so_ok, then_nx, then_rt, En.put, En.hole, En.at, En.frz, addD_int, subD, mulD_l, mulD_r, modD_of, divD_of, eqD_int, neD_int, eqD_str, neD_str, cmpD, h, t1, t2, tupleD, vals_map]
    · exact (Sms.tup (h := 2) (.cons ((lit (by decide +kernel)).up (Nat.le_refl _) (Nat.zero_le _)) (.cons ((lit (by decide +kernel)).up (Nat.le_refl _) (Nat.zero_le _))
        (.cons (Sms.tup (.cons ((lit (by decide +kernel)).up (Nat.le_refl _) (Nat.zero_le _)) (.cons p1 .nil))) (.cons ((Sms.tup (.cons (lit (by decide +kernel)) (.cons (.int (by omega)) .nil))).up (Nat.le_refl _) (by decide)) .nil))))).up (by decide) (by decide)
end K10

set_option Elab.async false
set_option linter.all false
set_option maxRecDepth 100000
set_option maxHeartbeats 4000000
namespace K10
open PySem L2 PySem.Spec PyProof.Rows DL
def phT : List D → Res := defSem 5 2 (g__law_term phM)
theorem phT_ok {xs : List Str} (N : NamesOk xs) {a : Int} (ha : 0 ≤ a) (ha2 : a < 2147483648) : ∃ d, phT [.int a, nm xs] = .ok (.fz d) ∧ Sm 600 4 d := sem_term N ha ha2
/-! ### rows -/
structure Row where
  p : List Str
  w : Str
  t : List D
def plc (p : List Str) : D := .tup false (p.map .str)
def Row.d (r : Row) : D := .tup false (plc r.p :: .str r.w :: r.t)
structure Row.Ok (xs : List Str) (r : Row) : Prop where
  pos : 1 ≤ r.p.length
  len : r.p.length ≤ 4
  mem : ∀ x ∈ r.p, x ∈ xs
  kind : (r.w = "gone" ∧ r.t = []) ∨ ((r.w = "make" ∨ r.w = "is" ∨ r.w = "behind" ∨ r.w = "ahead") ∧ ∃ d, r.t = [d] ∧ Sm 600 4 d)
def phR : List D → Res := defSem 8 2 (g__law_row phM phT)
def placeOf (xs : List Str) (m q : Int) : List Str := (List.range q.toNat).map fun (k : Nat) => nameAt xs (mix (m / 6) k / 5 % 5)
def formOf (xs : List Str) (m : Int) : List Str := (List.range (1 + m / 7 % 2).toNat).map fun (k : Nat) => nameAt xs (mix m (9 + (k : Int)) / 5 % 5)
theorem ev_r1 {xs : List Str} (N : NamesOk xs) {a m q : Int} {me : O} {s4 s5 s6 : Option Sl} (hm : 0 ≤ m) (hq : 0 ≤ q ∧ q ≤ 4) : c__law_row_1 phM ⟨[some (.ow (.fz (.int a))), some (.ow (.fz (nm xs))), some (.ow (.fz (.int m))), some (.ow (.fz (.int q))), s4, s5, s6, none], me⟩ =
    .ok (.tm (.lst ((placeOf xs m q).map fun x => .fz (.str x)))) ⟨[some (.ow (.fz (.int a))), some (.ow (.fz (nm xs))), some (.ow (.fz (.int m))), some (.ow (.fz (.int q))), s4, s5, s6, none], me⟩ := by
  have e0 : (placeOf xs m q).map (fun x => O.fz (.str x)) = (nums 0 q.toNat).map fun d => match d with | .int k => O.fz (.str (nameAt xs (mix (m / 6) k / 5 % 5))) | _ => .fz .non := by
    unfold placeOf nums
    rw [List.map_map, List.map_map]
    apply List.map_congr_left
    intro k _
    simp
  rw [e0]
  refine eComp_all _ (by simp [itRange1, defSem, frame, sCons, sNil, sIf, sSet, sRet, sDrop, eF, eV, two, aCons, aNil, eC, eVar, eTup, eLst, eItem, eIf, tOf, tAndD, tOrD, tNotD, eAndD, eOrD, eNotD, fixAll, lookAll, ownAll, fix, look, own, give, O.val, vals, treeOf, itemD_lst, itemD_tup, bind_ok, so_ok, then_nx, then_rt, En.put, En.hole, En.at, En.frz, addD_int, subD, mulD_l, mulD_r, modD_of, divD_of, eqD_int, neD_int, eqD_str, neD_str, cmpD, rangeOk_of (i := q) (by omega) (by omega)]) rfl (fun d hd => ?_) (by rw [nums_length]; omega)
  obtain ⟨j, hj, rfl⟩ := nums0_mem hd
  have h1 : ((j : Int)).natAbs < 18446744073709551616 := by omega
  have h2 := (nameAt_ok N (i := mix (m / 6) j / 5 % 5) (by omega)).1
  simp [turn1, gN, tYesD, En.wipe, defSem, frame, sCons, sNil, sIf, sSet, sRet, sDrop, eF, eV, two, aCons, aNil, eC, eVar, eTup, eLst, eItem, eIf, tOf, tAndD, tOrD, tNotD, eAndD, eOrD, eNotD, fixAll, lookAll, ownAll, fix, look, own, give, O.val, vals, treeOf, itemD_lst, itemD_tup, bind_ok, so_ok, then_nx, then_rt, En.put, En.hole, En.at, En.frz, addD_int, subD, mulD_l, mulD_r, modD_of, divD_of, eqD_int, neD_int, eqD_str, neD_str, cmpD, nm, eCall, phM_ok h1, h2]
theorem ev_r2 {xs : List Str} (N : NamesOk xs) {a m : Int} {me : O} {s3 s4 s5 s6 : Option Sl} (hm : 0 ≤ m) : c__law_row_2 phM ⟨[some (.ow (.fz (.int a))), some (.ow (.fz (nm xs))), some (.ow (.fz (.int m))), s3, s4, s5, s6, none], me⟩ =
    .ok (.tm (.lst ((formOf xs m).map fun x => .fz (.str x)))) ⟨[some (.ow (.fz (.int a))), some (.ow (.fz (nm xs))), some (.ow (.fz (.int m))), s3, s4, s5, s6, none], me⟩ := by
  have e0 : (formOf xs m).map (fun x => O.fz (.str x)) = (nums 0 (1 + m / 7 % 2).toNat).map fun d => match d with | .int k => O.fz (.str (nameAt xs (mix m (9 + k) / 5 % 5))) | _ => .fz .non := by
    unfold formOf nums
    rw [List.map_map, List.map_map]
    apply List.map_congr_left
    intro k _
    simp
  rw [e0]
  refine eComp_all _ (by simp [itRange1, defSem, frame, sCons, sNil, sIf, sSet, sRet, sDrop, eF, eV, two, aCons, aNil, eC, eVar, eTup, eLst, eItem, eIf, tOf, tAndD, tOrD, tNotD, eAndD, eOrD, eNotD, fixAll, lookAll, ownAll, fix, look, own, give, O.val, vals, treeOf, itemD_lst, itemD_tup, bind_ok, so_ok, then_nx, then_rt, En.put, En.hole, En.at, En.frz, addD_int, subD, mulD_l, mulD_r, modD_of, divD_of, eqD_int, neD_int, eqD_str, neD_str, cmpD, rangeOk_of (i := 1 + m / 7 % 2) (by omega) (by omega)]) rfl (fun d hd => ?_) (by rw [nums_length]; omega)
  obtain ⟨j, hj, rfl⟩ := nums0_mem hd
  have h1 : (9 + (j : Int)).natAbs < 18446744073709551616 := by omega
  have h2 := (nameAt_ok N (i := mix m (9 + (j : Int)) / 5 % 5) (by omega)).1
  simp [turn1, gN, tYesD, En.wipe, defSem, frame, sCons, sNil, sIf, sSet, sRet, sDrop, eF, eV, two, aCons, aNil, eC, eVar, eTup, eLst, eItem, eIf, tOf, tAndD, tOrD, tNotD, eAndD, eOrD, eNotD, fixAll, lookAll, ownAll, fix, look, own, give, O.val, vals, treeOf, itemD_lst, itemD_tup, bind_ok, so_ok, then_nx, then_rt, En.put, En.hole, En.at, En.frz, addD_int, subD, mulD_l, mulD_r, modD_of, divD_of, eqD_int, neD_int, eqD_str, neD_str, cmpD, nm, eCall, phM_ok h1, h2]
theorem place_mem {xs : List Str} (N : NamesOk xs) {m q : Int} : ∀ x ∈ placeOf xs m q, x ∈ xs := fun x hx => by
  obtain ⟨k, _, rfl⟩ := List.mem_map.mp hx
  exact (nameAt_ok N (by omega)).2
theorem place_len {xs : List Str} {m q : Int} : (placeOf xs m q).length = q.toNat := by unfold placeOf; rw [List.length_map, List.length_range]
theorem form_sm {xs : List Str} (N : NamesOk xs) {m : Int} : Sm 600 4 (.tup false ((formOf xs m).map .str)) := by
  refine (Sm.many (n := 82) (h := 0) (fun d hd => ?_) (m := 2) (by unfold formOf; rw [List.length_map, List.length_map, List.length_range]; omega)).up (by decide) (by decide)
  obtain ⟨y, hy, rfl⟩ := List.mem_map.mp hd
  obtain ⟨k, _, rfl⟩ := List.mem_map.mp hy
  exact name_sm N (nameAt_ok N (by omega)).2
theorem map_fz (ss : List Str) : vals (ss.map fun x => O.fz (.str x)) = ss.map .str := by
  rw [← vals_fz (ss.map .str), List.map_map]
  rfl
theorem sem_row {xs : List Str} (N : NamesOk xs) {a : Int} (ha : 0 ≤ a) (ha2 : a < 2147483648) : ∃ r : Row, phR [.int a, nm xs] = .ok (.fz r.d) ∧ r.Ok xs := by
  have hm : 0 ≤ a / 8 := by omega
  have hq : ∃ q : Int, atI [O.fz (.int 1), .fz (.int 1), .fz (.int 2), .fz (.int 2), .fz (.int 3), .fz (.int 4)] (a / 8 % 6) = some (.fz (.int q)) ∧ 1 ≤ q ∧ q ≤ 4 := by
    have : a / 8 % 6 = 0 ∨ a / 8 % 6 = 1 ∨ a / 8 % 6 = 2 ∨ a / 8 % 6 = 3 ∨ a / 8 % 6 = 4 ∨ a / 8 % 6 = 5 := by omega
    rcases this with e | e | e | e | e | e <;> rw [e] <;> exact ⟨_, rfl, by decide, by decide⟩
  obtain ⟨q, hq0, hq1, hq2⟩ := hq
  have r1 := fun me s4 s5 s6 => ev_r1 N (a := a) (m := a / 8) (q := q) (me := me) (s4 := s4) (s5 := s5) (s6 := s6) hm (by omega)
  have r2 := fun me s3 s4 s5 s6 => ev_r2 N (a := a) (m := a / 8) (me := me) (s3 := s3) (s4 := s4) (s5 := s5) (s6 := s6) hm
  have p1 : 1 ≤ (placeOf xs (a / 8) q).length := by rw [place_len]; omega
  have p2 : (placeOf xs (a / 8) q).length ≤ 4 := by rw [place_len]; omega
  have p3 := place_mem N (m := a / 8) (q := q)
  have f1 := form_sm N (m := a / 8)
  obtain ⟨d, hd, hs⟩ := phT_ok N (a := mix (a / 8) 3) (mix_ge _ _) (by have := mix_lt (a / 8) 3; omega)
  have hmix : phM [.int (a / 8), .int 3] = .ok (.fz (.int (mix (a / 8) 3))) := phM_ok (by decide)
  generalize placeOf xs (a / 8) q = A at r1 p1 p2 p3
  generalize formOf xs (a / 8) = B at r2 f1
  have hc : a % 8 = 0 ∨ a % 8 = 1 ∨ a % 8 = 2 ∨ a % 8 = 3 ∨ a % 8 = 4 ∨ a % 8 = 5 ∨ a % 8 = 6 ∨ a % 8 = 7 := by omega
  rcases hc with h | h | h | h | h | h | h | h
  · exact ⟨⟨A, "is", [d]⟩, by simp [phR, g__law_row, defSem, frame, sCons, sNil, sIf, sSet, sRet, sDrop, eF, eV, two, aCons, aNil, eC, eVar, eTup, eLst, eItem, eIf, tOf, tAndD, tOrD, tNotD, eAndD, eOrD, eNotD, fixAll, lookAll, ownAll, fix, look, own, give, O.val, vals, treeOf, itemD_lst, itemD_tup, bind_ok, so_ok, then_nx, then_rt, En.put, En.hole, En.at, En.frz, addD_int, subD, mulD_l, mulD_r, modD_of, divD_of, eqD_int, neD_int, eqD_str, neD_str, cmpD, h, hq0, r1, r2, map_fz, tupleD, hmix, hd, eCall, Row.d, plc, atI_0], p1, p2, p3, .inr ⟨.inr (.inl rfl), d, rfl, hs⟩⟩
  · exact ⟨⟨A, "is", [d]⟩, by simp [phR, g__law_row, defSem, frame, sCons, sNil, sIf, sSet, sRet, sDrop, eF, eV, two, aCons, aNil, eC, eVar, eTup, eLst, eItem, eIf, tOf, tAndD, tOrD, tNotD, eAndD, eOrD, eNotD, fixAll, lookAll, ownAll, fix, look, own, give, O.val, vals, treeOf, itemD_lst, itemD_tup, bind_ok, so_ok, then_nx, then_rt, En.put, En.hole, En.at, En.frz, addD_int, subD, mulD_l, mulD_r, modD_of, divD_of, eqD_int, neD_int, eqD_str, neD_str, cmpD, h, hq0, r1, r2, map_fz, tupleD, hmix, hd, eCall, Row.d, plc, atI_1], p1, p2, p3, .inr ⟨.inr (.inl rfl), d, rfl, hs⟩⟩
  · exact ⟨⟨A, "is", [d]⟩, by simp [phR, g__law_row, defSem, frame, sCons, sNil, sIf, sSet, sRet, sDrop, eF, eV, two, aCons, aNil, eC, eVar, eTup, eLst, eItem, eIf, tOf, tAndD, tOrD, tNotD, eAndD, eOrD, eNotD, fixAll, lookAll, ownAll, fix, look, own, give, O.val, vals, treeOf, itemD_lst, itemD_tup, bind_ok, so_ok, then_nx, then_rt, En.put, En.hole, En.at, En.frz, addD_int, subD, mulD_l, mulD_r, modD_of, divD_of, eqD_int, neD_int, eqD_str, neD_str, cmpD, h, hq0, r1, r2, map_fz, tupleD, hmix, hd, eCall, Row.d, plc, atI_2], p1, p2, p3, .inr ⟨.inr (.inl rfl), d, rfl, hs⟩⟩
  · exact ⟨⟨A, "gone", []⟩, by simp [phR, g__law_row, defSem, frame, sCons, sNil, sIf, sSet, sRet, sDrop, eF, eV, two, aCons, aNil, eC, eVar, eTup, eLst, eItem, eIf, tOf, tAndD, tOrD, tNotD, eAndD, eOrD, eNotD, fixAll, lookAll, ownAll, fix, look, own, give, O.val, vals, treeOf, itemD_lst, itemD_tup, bind_ok, so_ok, then_nx, then_rt, En.put, En.hole, En.at, En.frz, addD_int, subD, mulD_l, mulD_r, modD_of, divD_of, eqD_int, neD_int, eqD_str, neD_str, cmpD, h, hq0, r1, r2, map_fz, tupleD, Row.d, plc], p1, p2, p3, .inl ⟨rfl, rfl⟩⟩
  · exact ⟨⟨A, "behind", [d]⟩, by simp [phR, g__law_row, defSem, frame, sCons, sNil, sIf, sSet, sRet, sDrop, eF, eV, two, aCons, aNil, eC, eVar, eTup, eLst, eItem, eIf, tOf, tAndD, tOrD, tNotD, eAndD, eOrD, eNotD, fixAll, lookAll, ownAll, fix, look, own, give, O.val, vals, treeOf, itemD_lst, itemD_tup, bind_ok, so_ok, then_nx, then_rt, En.put, En.hole, En.at, En.frz, addD_int, subD, mulD_l, mulD_r, modD_of, divD_of, eqD_int, neD_int, eqD_str, neD_str, cmpD, h, hq0, r1, r2, map_fz, tupleD, hmix, hd, eCall, Row.d, plc, atI_4], p1, p2, p3, .inr ⟨.inr (.inr (.inl rfl)), d, rfl, hs⟩⟩
  · exact ⟨⟨A, "ahead", [d]⟩, by simp [phR, g__law_row, defSem, frame, sCons, sNil, sIf, sSet, sRet, sDrop, eF, eV, two, aCons, aNil, eC, eVar, eTup, eLst, eItem, eIf, tOf, tAndD, tOrD, tNotD, eAndD, eOrD, eNotD, fixAll, lookAll, ownAll, fix, look, own, give, O.val, vals, treeOf, itemD_lst, itemD_tup, bind_ok, so_ok, then_nx, then_rt, En.put, En.hole, En.at, En.frz, addD_int, subD, mulD_l, mulD_r, modD_of, divD_of, eqD_int, neD_int, eqD_str, neD_str, cmpD, h, hq0, r1, r2, map_fz, tupleD, hmix, hd, eCall, Row.d, plc, atI_5], p1, p2, p3, .inr ⟨.inr (.inr (.inr rfl)), d, rfl, hs⟩⟩
  · exact ⟨⟨A, "make", [_]⟩, by simp [phR, g__law_row, defSem, frame, sCons, sNil, sIf, sSet, sRet, sDrop, eF, eV, two, aCons, aNil, eC, eVar, eTup, eLst, eItem, eIf, tOf, tAndD, tOrD, tNotD, eAndD, eOrD, eNotD, fixAll, lookAll, ownAll, fix, look, own, give, O.val, vals, treeOf, itemD_lst, itemD_tup, bind_ok, so_ok, then_nx, then_rt, En.put, En.hole, En.at, En.frz, addD_int, subD, mulD_l, mulD_r, modD_of, divD_of, eqD_int, neD_int, eqD_str, neD_str, cmpD, h, hq0, r1, r2, map_fz, tupleD, Row.d, plc], p1, p2, p3, .inr ⟨.inl rfl, _, rfl, f1⟩⟩
  · exact ⟨⟨A, "make", [_]⟩, by simp [phR, g__law_row, defSem, frame, sCons, sNil, sIf, sSet, sRet, sDrop, eF, eV, two, aCons, aNil, eC, eVar, eTup, eLst, eItem, eIf, tOf, tAndD, tOrD, tNotD, eAndD, eOrD, eNotD, fixAll, lookAll, ownAll, fix, look, own, give, O.val, vals, treeOf, itemD_lst, itemD_tup, bind_ok, so_ok, then_nx, then_rt, En.put, En.hole, En.at, En.frz, addD_int, subD, mulD_l, mulD_r, modD_of, divD_of, eqD_int, neD_int, eqD_str, neD_str, cmpD, h, hq0, r1, r2, map_fz, tupleD, Row.d, plc], p1, p2, p3, .inr ⟨.inl rfl, _, rfl, f1⟩⟩
end K10

set_option Elab.async false
set_option linter.all false
set_option maxRecDepth 100000
set_option maxHeartbeats 4000000
namespace K10
open PySem L2 PySem.Spec PyProof.Rows DL
/-! ### places, clashes -/
theorem eqvs_plc : ∀ p q : List Str, PyData.eqvAll (pds (p.map D.str)) (pds (q.map D.str)) = decide (p = q)
  | [], [] => rfl
  | [], _ :: _ => by simp [pds, PyData.eqvAll]
  | _ :: _, [] => by simp [pds, PyData.eqvAll]
  | x :: p, y :: q => by
    simp only [List.map_cons, pds, PyData.eqvAll, D.pd, PyData.eqv, eqvs_plc p q]
    by_cases h : x = y <;> by_cases h2 : p = q <;> simp [h, h2]
theorem plc_fit {p : List Str} (h : ∀ x ∈ p, PyData.strOk x = true) : (plc p).fit = true ∧ (plc p).dep ≤ 1 := by
  constructor
  · unfold plc D.fit
    refine fits_iff.mpr fun d hd => ?_
    obtain ⟨x, hx, rfl⟩ := List.mem_map.mp hd
    exact h x hx
  · unfold plc D.dep
    have := deps_le (n := 0) (ds := p.map D.str) fun d hd => by
      obtain ⟨x, hx, rfl⟩ := List.mem_map.mp hd
      exact Nat.le_refl _
    omega
theorem eqD_plc {p q : List Str} (hp : ∀ x ∈ p, PyData.strOk x = true) (hq : ∀ x ∈ q, PyData.strOk x = true) : eqD [plc p, plc q] = some (.bl (decide (p = q))) := by
  have h1 := eqOk_of (plc_fit hp).1 (Nat.le_trans (plc_fit hp).2 (by decide))
  have h2 := eqOk_of (plc_fit hq).1 (Nat.le_trans (plc_fit hq).2 (by decide))
  have e : eqD [plc p, plc q] = some (.bl (PyData.eqv (plc p).pd (plc q).pd)) := by
    show (if eqOk (plc p) && eqOk (plc q) then _ else _) = _
    rw [h1, h2]
    rfl
  rw [e]
  have : PyData.eqv (plc p).pd (plc q).pd = PyData.eqvAll (pds (p.map D.str)) (pds (q.map D.str)) := by
    simp [plc, D.pd, PyData.eqv]
  rw [this, eqvs_plc]
theorem neD_plc {p q : List Str} (hp : ∀ x ∈ p, PyData.strOk x = true) (hq : ∀ x ∈ q, PyData.strOk x = true) : neD [plc p, plc q] = some (.bl (!decide (p = q))) := by
  have h1 := eqOk_of (plc_fit hp).1 (Nat.le_trans (plc_fit hp).2 (by decide))
  have h2 := eqOk_of (plc_fit hq).1 (Nat.le_trans (plc_fit hq).2 (by decide))
  have e : neD [plc p, plc q] = some (.bl (!PyData.eqv (plc p).pd (plc q).pd)) := by
    show (if eqOk (plc p) && eqOk (plc q) then _ else _) = _
    rw [h1, h2]
    rfl
  rw [e]
  have : PyData.eqv (plc p).pd (plc q).pd = PyData.eqvAll (pds (p.map D.str)) (pds (q.map D.str)) := by
    simp [plc, D.pd, PyData.eqv]
  rw [this, eqvs_plc]
theorem slice_plc {p : List Str} {n : Nat} : sliceD (plc p) none (some (n : Int)) = some (.fz (plc (p.take n))) := by
  show some (O.fz (.tup false (cutL (p.map D.str) none (some (n : Int))))) = _
  rw [cutL_to (by omega), Int.toNat_natCast, ← List.map_take]
  rfl
theorem len_plc {p : List Str} : lenD [plc p] = some (.int (p.length : Int)) := by
  unfold plc lenD
  simp
def below (a b : Row) : Bool := a.w != "make" && decide (b.p.take a.p.length = a.p)
def clash (r s : Row) : Bool := if s.p.length < r.p.length then decide (s.p = r.p) || below s r else decide (r.p = s.p) || below r s
def phC : List D → Res := defSem 2 2 g__law_clash
structure Row.Fit (r : Row) : Prop where
  ok : ∀ x ∈ r.p, PyData.strOk x = true
theorem take_ok {p : List Str} {n : Nat} (h : ∀ x ∈ p, PyData.strOk x = true) : ∀ x ∈ p.take n, PyData.strOk x = true := fun x hx => h x (List.mem_of_mem_take hx)
theorem row_at0 {r : Row} : itemD r.d 0 = some (plc r.p) := atI_0
theorem row_at1 {r : Row} : itemD r.d 1 = some (.str r.w) := atI_1
theorem sem_clash {r s : Row} (hr : r.Fit) (hs : s.Fit) : phC [r.d, s.d] = .ok (.fz (.bl (clash r s))) := by
  have a1 : atI (plc r.p :: D.str r.w :: r.t) 0 = some (plc r.p) := atI_0
  have a2 : atI (plc r.p :: D.str r.w :: r.t) 1 = some (.str r.w) := atI_1
  have b1 : atI (plc s.p :: D.str s.w :: s.t) 0 = some (plc s.p) := atI_0
  have b2 : atI (plc s.p :: D.str s.w :: s.t) 1 = some (.str s.w) := atI_1
  have l1 := len_plc (p := r.p)
  have l2 := len_plc (p := s.p)
  have e1 := eqD_plc hr.ok hs.ok
  have e2 := eqD_plc hs.ok hr.ok
  have s1 := slice_plc (p := s.p) (n := r.p.length)
  have s2 := slice_plc (p := r.p) (n := s.p.length)
  have e3 := eqD_plc (take_ok (n := r.p.length) hs.ok) hr.ok
  have e4 := eqD_plc (take_ok (n := s.p.length) hr.ok) hs.ok
  by_cases h : s.p.length < r.p.length
  · cases z1 : decide (s.p = r.p) <;> cases z2 : (s.w != "make") <;> rw [z1] at e2 <;>
      simp [phC, g__law_clash, Row.d, at_k, put_k, hole_k, frz_k, own_tm_k, own_sl_k, own_me_k, look_tm_k, look_sl_k, look_me_k, fix_k, give_tm_k, give_sl_k, give_me_k, fixAll_nil_k, fixAll_cons_k, lookAll_nil_k, lookAll_cons_k, ownAll_nil_k, ownAll_cons_k, tree_tm_k, tree_sl_k, tree_me_k, gN_k, gNil_k, gCons_k, gT_k, isLst_k, isDkOwn_k, val_fz_k, val_lst_k, val_dK_k, defSem_k, eVar_k, eC_k, aNil_k, aCons_k, eV_k, eF_k, two_k, tOf_k, tAndD_k, tOrD_k, tNotD_k, eIf_k, eAndD_k, eOrD_k, eNotD_k, eCall_k, eLst_k, eTup_k, eTupK_k, sNil_k, sCons_k, sBreak_k, sCont_k, sIf_k, sSet_k, sRet_k, sRetN_k, sDrop_k, sAsg_k, itSeq_k, itRange1_k, itRange2_k, sFor_k, tYesD_k, eItem_k, pNone_k, pSome_k, eSlice_k, eM1_k, eGet1_k, eGet2_k, sPutK_k, sAppend_k, sSetI_k, eTupItems_k, bind_ok_k, bind_ex_k, so_ok_k, so_ex_k, then_nx_k, then_rt_k, then_ex_k, then_bk_k, then_ct_k, addD_int_k, subD_k, negD_k, eqD_str_k, neD_str_k, cmpD_k, item_lst_k, item_tup_k, isnt_tup_k, isnt_non_k, is_tup_k, is_non_k, vals_nil_k, vals_cons_k, mulD_l, mulD_r, modD_of, divD_of, eqD_int, neD_int, List.map_cons, List.map_nil, List.cons_append, List.nil_append, eCallO_k, sTry_k, sRaise_k, eChain_k, itEnum_k, eLM_k, isL_lst_k, isL_fz_k, eDisp_k, eWix_k, sRetT_k, giveAll_nil_k, giveAll_cons_k, tupAt_k, eIsiIt_k, sAppIt_k, sPar_k, defSemO_k, gone_nx_k, gone_rt_k, val_tup_k, bind_no_k, so_no_k, then_no_k, sSetF_k, eNewT_k, eInT_k, eGet2T_k, isDtOwn_k, isDt_dT, isDt_fz, lookOT_fz, sPutT_k, eFld_k, eMeth_k, fldK_k, eRead_k, sClear_k, sIns_k, eSpot_k, sNever_k, val_dT_k, val_obj_k, tCold_k, cold_k, cold_nil_k, cold_none_k, cold_ow_k, l1, l2, e2, e4, s2, atI_0, atI_1, h, clash, below, z1, z2, -decide_eq_false_iff_not, -decide_eq_true_eq, -bne_iff_ne, -bne_eq_false_iff_eq]
  · cases z1 : decide (r.p = s.p) <;> cases z2 : (r.w != "make") <;> rw [z1] at e1 <;>
      simp [phC, g__law_clash, Row.d, at_k, put_k, hole_k, frz_k, own_tm_k, own_sl_k, own_me_k, look_tm_k, look_sl_k, look_me_k, fix_k, give_tm_k, give_sl_k, give_me_k, fixAll_nil_k, fixAll_cons_k, lookAll_nil_k, lookAll_cons_k, ownAll_nil_k, ownAll_cons_k, tree_tm_k, tree_sl_k, tree_me_k, gN_k, gNil_k, gCons_k, gT_k, isLst_k, isDkOwn_k, val_fz_k, val_lst_k, val_dK_k, defSem_k, eVar_k, eC_k, aNil_k, aCons_k, eV_k, eF_k, two_k, tOf_k, tAndD_k, tOrD_k, tNotD_k, eIf_k, eAndD_k, eOrD_k, eNotD_k, eCall_k, eLst_k, eTup_k, eTupK_k, sNil_k, sCons_k, sBreak_k, sCont_k, sIf_k, sSet_k, sRet_k, sRetN_k, sDrop_k, sAsg_k, itSeq_k, itRange1_k, itRange2_k, sFor_k, tYesD_k, eItem_k, pNone_k, pSome_k, eSlice_k, eM1_k, eGet1_k, eGet2_k, sPutK_k, sAppend_k, sSetI_k, eTupItems_k, bind_ok_k, bind_ex_k, so_ok_k, so_ex_k, then_nx_k, then_rt_k, then_ex_k, then_bk_k, then_ct_k, addD_int_k, subD_k, negD_k, eqD_str_k, neD_str_k, cmpD_k, item_lst_k, item_tup_k, isnt_tup_k, isnt_non_k, is_tup_k, is_non_k, vals_nil_k, vals_cons_k, mulD_l, mulD_r, modD_of, divD_of, eqD_int, neD_int, List.map_cons, List.map_nil, List.cons_append, List.nil_append, eCallO_k, sTry_k, sRaise_k, eChain_k, itEnum_k, eLM_k, isL_lst_k, isL_fz_k, eDisp_k, eWix_k, sRetT_k, giveAll_nil_k, giveAll_cons_k, tupAt_k, eIsiIt_k, sAppIt_k, sPar_k, defSemO_k, gone_nx_k, gone_rt_k, val_tup_k, bind_no_k, so_no_k, then_no_k, sSetF_k, eNewT_k, eInT_k, eGet2T_k, isDtOwn_k, isDt_dT, isDt_fz, lookOT_fz, sPutT_k, eFld_k, eMeth_k, fldK_k, eRead_k, sClear_k, sIns_k, eSpot_k, sNever_k, val_dT_k, val_obj_k, tCold_k, cold_k, cold_nil_k, cold_none_k, cold_ow_k, l1, l2, e1, e3, s1, atI_0, atI_1, h, clash, below, z1, z2, -decide_eq_false_iff_not, -decide_eq_true_eq, -bne_iff_ne, -bne_eq_false_iff_eq]
end K10

set_option Elab.async false
set_option linter.all false
set_option maxRecDepth 100000
set_option maxHeartbeats 4000000
namespace K10
open PySem L2 PySem.Spec PyProof.Rows DL
structure Good (xs : List Str) (rs : List Row) : Prop where
  ok : ∀ r ∈ rs, r.Ok xs
  pw : rs.Pairwise fun a b => clash b a = false
theorem Row.Ok.fit {xs : List Str} (N : NamesOk xs) {r : Row} (h : r.Ok xs) : r.Fit := ⟨fun x hx => (N.ok x (h.mem x hx)).1⟩
theorem Good.nil {xs : List Str} : Good xs [] := ⟨fun r h => (nomatch h), .nil⟩
theorem Good.snoc {xs : List Str} {rs : List Row} {r : Row} (g : Good xs rs) (h : r.Ok xs) (k : rs.any (clash r) = false) : Good xs (rs ++ [r]) := by
  refine ⟨fun s hs => ?_, List.pairwise_append.mpr ⟨g.pw, List.pairwise_singleton _ _, fun a ha b hb => ?_⟩⟩
  · rcases List.mem_append.mp hs with q | q
    · exact g.ok s q
    · rw [List.mem_singleton.mp q]; exact h
  · rw [List.mem_singleton.mp hb]
    rw [List.any_eq_false] at k
    have := k a ha
    cases z : clash r a with
    | false => rfl
    | true => exact absurd z this
def oneD (r : Row) (d : D) : O := match phC [r.d, d] with
  | .ok o => o
  | _ => .fz .non
theorem bl_notIn (bs : List Bool) : notInD [.bl true, .lst (bs.map .bl)] = some (.bl (!(bs.any id))) := by
  have h1 : (bs.map D.bl).all flatD = true := by
    rw [List.all_eq_true]
    intro d hd
    obtain ⟨b, _, rfl⟩ := List.mem_map.mp hd
    rfl
  have h2 : inSeq (.bl true) (bs.map D.bl) = bs.any id := by
    unfold inSeq
    rw [List.any_map]
    congr 1
    funext b
    cases b <;> rfl
  show (if (flatD (.bl true) && (bs.map D.bl).all flatD) = true then some (inSeq (.bl true) (bs.map D.bl)) else none).map _ = _
  rw [show flatD (.bl true) = true from rfl, h1, h2]
  rfl
theorem ev_g1 {xs : List Str} (N : NamesOk xs) {r : Row} {rs : List Row} {me : O} {s0 s1 s2 s4 s5 : Option Sl} (hr : r.Ok xs) (hs : ∀ s ∈ rs, s.Ok xs) (hl : rs.length ≤ 1000) :
    c__law_good_rows_1 phC ⟨[s0, s1, s2, some (.ow (.fz (.lst (rs.map Row.d)))), s4, s5, some (.ow (.fz r.d)), none], me⟩ =
      .ok (.tm (.lst ((rs.map fun s => D.bl (clash r s)).map .fz))) ⟨[s0, s1, s2, some (.ow (.fz (.lst (rs.map Row.d)))), s4, s5, some (.ow (.fz r.d)), none], me⟩ := by
  have e0 : (rs.map fun s => D.bl (clash r s)).map O.fz = (rs.map Row.d).map (oneD r) := by
    rw [List.map_map, List.map_map]
    apply List.map_congr_left
    intro s q
    simp only [Function.comp_apply, oneD, sem_clash (hr.fit N) ((hs s q).fit N)]
  rw [e0]
  refine eComp_all _ (by simp [at_k, put_k, hole_k, frz_k, own_tm_k, own_sl_k, own_me_k, look_tm_k, look_sl_k, look_me_k, fix_k, give_tm_k, give_sl_k, give_me_k, fixAll_nil_k, fixAll_cons_k, lookAll_nil_k, lookAll_cons_k, ownAll_nil_k, ownAll_cons_k, tree_tm_k, tree_sl_k, tree_me_k, gN_k, gNil_k, gCons_k, gT_k, isLst_k, isDkOwn_k, val_fz_k, val_lst_k, val_dK_k, defSem_k, eVar_k, eC_k, aNil_k, aCons_k, eV_k, eF_k, two_k, tOf_k, tAndD_k, tOrD_k, tNotD_k, eIf_k, eAndD_k, eOrD_k, eNotD_k, eCall_k, eLst_k, eTup_k, eTupK_k, sNil_k, sCons_k, sBreak_k, sCont_k, sIf_k, sSet_k, sRet_k, sRetN_k, sDrop_k, sAsg_k, itSeq_k, itRange1_k, itRange2_k, sFor_k, tYesD_k, eItem_k, pNone_k, pSome_k, eSlice_k, eM1_k, eGet1_k, eGet2_k, sPutK_k, sAppend_k, sSetI_k, eTupItems_k, bind_ok_k, bind_ex_k, so_ok_k, so_ex_k, then_nx_k, then_rt_k, then_ex_k, then_bk_k, then_ct_k, addD_int_k, subD_k, negD_k, eqD_str_k, neD_str_k, cmpD_k, item_lst_k, item_tup_k, isnt_tup_k, isnt_non_k, is_tup_k, is_non_k, vals_nil_k, vals_cons_k, mulD_l, mulD_r, modD_of, divD_of, eqD_int, neD_int, List.map_cons, List.map_nil, List.cons_append, List.nil_append, eCallO_k, sTry_k, sRaise_k, eChain_k, itEnum_k, eLM_k, isL_lst_k, isL_fz_k, eDisp_k, eWix_k, sRetT_k, giveAll_nil_k, giveAll_cons_k, tupAt_k, eIsiIt_k, sAppIt_k, sPar_k, defSemO_k, gone_nx_k, gone_rt_k, val_tup_k, bind_no_k, so_no_k, then_no_k, sSetF_k, eNewT_k, eInT_k, eGet2T_k, isDtOwn_k, isDt_dT, isDt_fz, lookOT_fz, sPutT_k, eFld_k, eMeth_k, fldK_k, eRead_k, sClear_k, sIns_k, eSpot_k, sNever_k, val_dT_k, val_obj_k, tCold_k, cold_k, cold_nil_k, cold_none_k, cold_ow_k, coldO_k]) rfl (fun d hd => ?_) (by rw [List.length_map]; omega)
  obtain ⟨s, q, rfl⟩ := List.mem_map.mp hd
  have e1 := sem_clash (hr.fit N) ((hs s q).fit N)
  simp [turn1, En.wipe, at_k, put_k, hole_k, frz_k, own_tm_k, own_sl_k, own_me_k, look_tm_k, look_sl_k, look_me_k, fix_k, give_tm_k, give_sl_k, give_me_k, fixAll_nil_k, fixAll_cons_k, lookAll_nil_k, lookAll_cons_k, ownAll_nil_k, ownAll_cons_k, tree_tm_k, tree_sl_k, tree_me_k, gN_k, gNil_k, gCons_k, gT_k, isLst_k, isDkOwn_k, val_fz_k, val_lst_k, val_dK_k, defSem_k, eVar_k, eC_k, aNil_k, aCons_k, eV_k, eF_k, two_k, tOf_k, tAndD_k, tOrD_k, tNotD_k, eIf_k, eAndD_k, eOrD_k, eNotD_k, eCall_k, eLst_k, eTup_k, eTupK_k, sNil_k, sCons_k, sBreak_k, sCont_k, sIf_k, sSet_k, sRet_k, sRetN_k, sDrop_k, sAsg_k, itSeq_k, itRange1_k, itRange2_k, sFor_k, tYesD_k, eItem_k, pNone_k, pSome_k, eSlice_k, eM1_k, eGet1_k, eGet2_k, sPutK_k, sAppend_k, sSetI_k, eTupItems_k, bind_ok_k, bind_ex_k, so_ok_k, so_ex_k, then_nx_k, then_rt_k, then_ex_k, then_bk_k, then_ct_k, addD_int_k, subD_k, negD_k, eqD_str_k, neD_str_k, cmpD_k, item_lst_k, item_tup_k, isnt_tup_k, isnt_non_k, is_tup_k, is_non_k, vals_nil_k, vals_cons_k, mulD_l, mulD_r, modD_of, divD_of, eqD_int, neD_int, List.map_cons, List.map_nil, List.cons_append, List.nil_append, eCallO_k, sTry_k, sRaise_k, eChain_k, itEnum_k, eLM_k, isL_lst_k, isL_fz_k, eDisp_k, eWix_k, sRetT_k, giveAll_nil_k, giveAll_cons_k, tupAt_k, eIsiIt_k, sAppIt_k, sPar_k, defSemO_k, gone_nx_k, gone_rt_k, val_tup_k, bind_no_k, so_no_k, then_no_k, sSetF_k, eNewT_k, eInT_k, eGet2T_k, isDtOwn_k, isDt_dT, isDt_fz, lookOT_fz, sPutT_k, eFld_k, eMeth_k, fldK_k, eRead_k, sClear_k, sIns_k, eSpot_k, sNever_k, val_dT_k, val_obj_k, tCold_k, cold_k, cold_nil_k, cold_none_k, cold_ow_k, coldO_k, e1, oneD]
theorem step_g {xs : List Str} (N : NamesOk xs) {cs : D} {rs : List Row} {s4 s5 s6 : Option Sl} {i : Nat} {a : Int} (g : Good xs rs) (hl : rs.length ≤ 1000) (hi : i ≤ 1000) :
    ∃ rs' s6' e1, gT (gCons' (gN 4) (gCons' (gN 5) gNil')) (.tup false [.int (i : Int), .int a]) ⟨[some (.ow (.fz cs)), some (.ow (.fz (nm xs))), some (.ow (.fz (.int 2))), some (.ow (.lst (rs.map fun r => .fz r.d))), s4, s5, s6, none], .fz .non⟩ = some e1 ∧
      b__law_good_rows_2 phC phM phR e1 = .nx ⟨[some (.ow (.fz cs)), some (.ow (.fz (nm xs))), some (.ow (.fz (.int 2))), some (.ow (.lst (rs'.map fun r => .fz r.d))), some (.ow (.fz (.int (i : Int)))), some (.ow (.fz (.int a))), s6', none], .fz .non⟩ ∧
      Good xs rs' ∧ rs'.length ≤ rs.length + 1 := by
  have hmix : phM [.int a, .int (2 + (i : Int))] = .ok (.fz (.int (mix a (2 + i)))) := phM_ok (by omega)
  obtain ⟨r, hr, hok⟩ := sem_row N (a := mix a (2 + i)) (mix_ge _ _) (by have := mix_lt a (2 + i); omega)
  have hv : vals (rs.map fun r => O.fz r.d) = rs.map Row.d := by rw [← vals_fz (rs.map Row.d), List.map_map]; rfl
  have e1 := ev_g1 N (r := r) (rs := rs) (me := .fz .non) (s0 := some (.ow (.fz cs))) (s1 := some (.ow (.fz (nm xs)))) (s2 := some (.ow (.fz (.int 2)))) (s4 := some (.ow (.fz (.int (i : Int))))) (s5 := some (.ow (.fz (.int a)))) hok g.ok hl
  have e2 := bl_notIn (rs.map (clash r))
  rw [List.map_map, List.any_map] at e2
  have e3 : rs.map (D.bl ∘ clash r) = rs.map fun s => D.bl (clash r s) := rfl
  rw [e3] at e2
  have hv2 := vals_fz (rs.map fun s => D.bl (clash r s))
  cases z : rs.any (id ∘ clash r) with
  | true =>
    refine ⟨rs, some (.ow (.fz r.d)), _, rfl, ?_, g, Nat.le_succ _⟩
    rw [z] at e2
    simp [b__law_good_rows_2, at_k, put_k, hole_k, frz_k, own_tm_k, own_sl_k, own_me_k, look_tm_k, look_sl_k, look_me_k, fix_k, give_tm_k, give_sl_k, give_me_k, fixAll_nil_k, fixAll_cons_k, lookAll_nil_k, lookAll_cons_k, ownAll_nil_k, ownAll_cons_k, tree_tm_k, tree_sl_k, tree_me_k, gN_k, gNil_k, gCons_k, gT_k, isLst_k, isDkOwn_k, val_fz_k, val_lst_k, val_dK_k, defSem_k, eVar_k, eC_k, aNil_k, aCons_k, eV_k, eF_k, two_k, tOf_k, tAndD_k, tOrD_k, tNotD_k, eIf_k, eAndD_k, eOrD_k, eNotD_k, eCall_k, eLst_k, eTup_k, eTupK_k, sNil_k, sCons_k, sBreak_k, sCont_k, sIf_k, sSet_k, sRet_k, sRetN_k, sDrop_k, sAsg_k, itSeq_k, itRange1_k, itRange2_k, sFor_k, tYesD_k, eItem_k, pNone_k, pSome_k, eSlice_k, eM1_k, eGet1_k, eGet2_k, sPutK_k, sAppend_k, sSetI_k, eTupItems_k, bind_ok_k, bind_ex_k, so_ok_k, so_ex_k, then_nx_k, then_rt_k, then_ex_k, then_bk_k, then_ct_k, addD_int_k, subD_k, negD_k, eqD_str_k, neD_str_k, cmpD_k, item_lst_k, item_tup_k, isnt_tup_k, isnt_non_k, is_tup_k, is_non_k, vals_nil_k, vals_cons_k, mulD_l, mulD_r, modD_of, divD_of, eqD_int, neD_int, List.map_cons, List.map_nil, List.cons_append, List.nil_append, eCallO_k, sTry_k, sRaise_k, eChain_k, itEnum_k, eLM_k, isL_lst_k, isL_fz_k, eDisp_k, eWix_k, sRetT_k, giveAll_nil_k, giveAll_cons_k, tupAt_k, eIsiIt_k, sAppIt_k, sPar_k, defSemO_k, gone_nx_k, gone_rt_k, val_tup_k, bind_no_k, so_no_k, then_no_k, sSetF_k, eNewT_k, eInT_k, eGet2T_k, isDtOwn_k, isDt_dT, isDt_fz, lookOT_fz, sPutT_k, eFld_k, eMeth_k, fldK_k, eRead_k, sClear_k, sIns_k, eSpot_k, sNever_k, val_dT_k, val_obj_k, tCold_k, cold_k, cold_nil_k, cold_none_k, cold_ow_k, coldO_k, hmix, hr, hv, e1, e2, hv2, -List.map_map]
  | false =>
    have hl2 : rs.length < 1000000 := by omega
    refine ⟨rs ++ [r], some (.ow (.fz r.d)), _, rfl, ?_, g.snoc hok z, by rw [List.length_append]; exact Nat.le_refl _⟩
    rw [z] at e2
    simp [b__law_good_rows_2, at_k, put_k, hole_k, frz_k, own_tm_k, own_sl_k, own_me_k, look_tm_k, look_sl_k, look_me_k, fix_k, give_tm_k, give_sl_k, give_me_k, fixAll_nil_k, fixAll_cons_k, lookAll_nil_k, lookAll_cons_k, ownAll_nil_k, ownAll_cons_k, tree_tm_k, tree_sl_k, tree_me_k, gN_k, gNil_k, gCons_k, gT_k, isLst_k, isDkOwn_k, val_fz_k, val_lst_k, val_dK_k, defSem_k, eVar_k, eC_k, aNil_k, aCons_k, eV_k, eF_k, two_k, tOf_k, tAndD_k, tOrD_k, tNotD_k, eIf_k, eAndD_k, eOrD_k, eNotD_k, eCall_k, eLst_k, eTup_k, eTupK_k, sNil_k, sCons_k, sBreak_k, sCont_k, sIf_k, sSet_k, sRet_k, sRetN_k, sDrop_k, sAsg_k, itSeq_k, itRange1_k, itRange2_k, sFor_k, tYesD_k, eItem_k, pNone_k, pSome_k, eSlice_k, eM1_k, eGet1_k, eGet2_k, sPutK_k, sAppend_k, sSetI_k, eTupItems_k, bind_ok_k, bind_ex_k, so_ok_k, so_ex_k, then_nx_k, then_rt_k, then_ex_k, then_bk_k, then_ct_k, addD_int_k, subD_k, negD_k, eqD_str_k, neD_str_k, cmpD_k, item_lst_k, item_tup_k, isnt_tup_k, isnt_non_k, is_tup_k, is_non_k, vals_nil_k, vals_cons_k, mulD_l, mulD_r, modD_of, divD_of, eqD_int, neD_int, List.map_cons, List.map_nil, List.cons_append, List.nil_append, eCallO_k, sTry_k, sRaise_k, eChain_k, itEnum_k, eLM_k, isL_lst_k, isL_fz_k, eDisp_k, eWix_k, sRetT_k, giveAll_nil_k, giveAll_cons_k, tupAt_k, eIsiIt_k, sAppIt_k, sPar_k, defSemO_k, gone_nx_k, gone_rt_k, val_tup_k, bind_no_k, so_no_k, then_no_k, sSetF_k, eNewT_k, eInT_k, eGet2T_k, isDtOwn_k, isDt_dT, isDt_fz, lookOT_fz, sPutT_k, eFld_k, eMeth_k, fldK_k, eRead_k, sClear_k, sIns_k, eSpot_k, sNever_k, val_dT_k, val_obj_k, tCold_k, cold_k, cold_nil_k, cold_none_k, cold_ow_k, coldO_k, hmix, hr, hv, e1, e2, hv2, hl2, -List.map_map]
def phG : List D → Res := defSem 8 3 (g__law_good_rows phC phM phR)
theorem sem_good {xs : List Str} (N : NamesOk xs) {ns : List Int} (hl : ns.length ≤ 500) : ∃ rs : List Row, phG [.lst (ns.map .int), nm xs, .int 2] = .ok (.lst (rs.map fun r => .fz r.d)) ∧ Good xs rs ∧ rs.length ≤ ns.length := by
  obtain ⟨e', h1, h2⟩ := loop_inv (t := gT (gCons' (gN 4) (gCons' (gN 5) gNil'))) (g := b__law_good_rows_2 phC phM phR)
    (fun n e => ∃ rs s4 s5 s6, e = ⟨[some (.ow (.fz (.lst (ns.map .int)))), some (.ow (.fz (nm xs))), some (.ow (.fz (.int 2))), some (.ow (.lst (rs.map fun r => .fz r.d))), s4, s5, s6, none], .fz .non⟩ ∧ Good xs rs ∧ rs.length ≤ n)
    (ds := enumD (ns.map .int)) (n := 0) (e := ⟨[some (.ow (.fz (.lst (ns.map .int)))), some (.ow (.fz (nm xs))), some (.ow (.fz (.int 2))), some (.ow (.lst [])), none, none, none, none], .fz .non⟩)
    ⟨[], none, none, none, rfl, Good.nil, Nat.le_refl _⟩ fun j d e hd ⟨rs, s4, s5, s6, he, g, hk⟩ => by
      obtain ⟨x, hx, rfl⟩ := enumD_at hd
      rw [List.getElem?_map] at hx
      cases q : ns[j]? with
      | none => rw [q] at hx; cases hx
      | some a =>
        rw [q] at hx
        cases hx
        have hj := (List.getElem?_eq_some_iff.mp q).1
        subst he
        obtain ⟨rs', s6', e1, k1, k2, k3, k4⟩ := step_g N (cs := .lst (ns.map .int)) (s4 := s4) (s5 := s5) (s6 := s6) (i := j) (a := a) g (by omega) (by omega)
        exact ⟨e1, _, k1, .inl k2, rs', _, _, _, rfl, k3, by omega⟩
  obtain ⟨rs, s4, s5, s6, rfl, g, hk⟩ := h2
  have hle : (enumD (ns.map D.int)).length = ns.length := by unfold enumD; simp
  refine ⟨rs, ?_, g, by omega⟩
  simp [phG, g__law_good_rows, l__law_good_rows_3, at_k, put_k, hole_k, frz_k, own_tm_k, own_sl_k, own_me_k, look_tm_k, look_sl_k, look_me_k, fix_k, give_tm_k, give_sl_k, give_me_k, fixAll_nil_k, fixAll_cons_k, lookAll_nil_k, lookAll_cons_k, ownAll_nil_k, ownAll_cons_k, tree_tm_k, tree_sl_k, tree_me_k, gN_k, gNil_k, gCons_k, gT_k, isLst_k, isDkOwn_k, val_fz_k, val_lst_k, val_dK_k, defSem_k, eVar_k, eC_k, aNil_k, aCons_k, eV_k, eF_k, two_k, tOf_k, tAndD_k, tOrD_k, tNotD_k, eIf_k, eAndD_k, eOrD_k, eNotD_k, eCall_k, eLst_k, eTup_k, eTupK_k, sNil_k, sCons_k, sBreak_k, sCont_k, sIf_k, sSet_k, sRet_k, sRetN_k, sDrop_k, sAsg_k, itSeq_k, itRange1_k, itRange2_k, sFor_k, tYesD_k, eItem_k, pNone_k, pSome_k, eSlice_k, eM1_k, eGet1_k, eGet2_k, sPutK_k, sAppend_k, sSetI_k, eTupItems_k, bind_ok_k, bind_ex_k, so_ok_k, so_ex_k, then_nx_k, then_rt_k, then_ex_k, then_bk_k, then_ct_k, addD_int_k, subD_k, negD_k, eqD_str_k, neD_str_k, cmpD_k, item_lst_k, item_tup_k, isnt_tup_k, isnt_non_k, is_tup_k, is_non_k, vals_nil_k, vals_cons_k, mulD_l, mulD_r, modD_of, divD_of, eqD_int, neD_int, List.map_cons, List.map_nil, List.cons_append, List.nil_append, eCallO_k, sTry_k, sRaise_k, eChain_k, itEnum_k, eLM_k, isL_lst_k, isL_fz_k, eDisp_k, eWix_k, sRetT_k, giveAll_nil_k, giveAll_cons_k, tupAt_k, eIsiIt_k, sAppIt_k, sPar_k, defSemO_k, gone_nx_k, gone_rt_k, val_tup_k, bind_no_k, so_no_k, then_no_k, sSetF_k, eNewT_k, eInT_k, eGet2T_k, isDtOwn_k, isDt_dT, isDt_fz, lookOT_fz, sPutT_k, eFld_k, eMeth_k, fldK_k, eRead_k, sClear_k, sIns_k, eSpot_k, sNever_k, val_dT_k, val_obj_k, tCold_k, cold_k, cold_nil_k, cold_none_k, cold_ow_k, coldO_k, h1]
end K10

set_option Elab.async false
set_option linter.all false
set_option maxRecDepth 100000
set_option maxHeartbeats 4000000
namespace K10
open PySem L2 PySem.Spec PyProof.Rows DL
theorem cloop_rows {α : Type} {t : TgS} {tt : En → Out Bool} {f : En → Out Rv} {vs : List Nat} {e : En} (g : α → D) (h : α → Option O) : ∀ {as : List α} {acc : List O}, (∀ a ∈ as, turn1 t tt f vs (g a) e = some (h a, e)) → acc.length + as.length ≤ 1000000 →
    cloop t tt f vs (as.map g) acc e = .ok (acc ++ as.filterMap h) e
  | [], acc, _, _ => by rw [List.filterMap_nil, List.append_nil]; rfl
  | d :: ds, acc, hs, hl => by
    rw [List.length_cons] at hl
    rw [List.map_cons, cloop_cons (hs d List.mem_cons_self) (by omega), cloop_rows g h (fun x hx => hs x (List.mem_cons_of_mem _ hx)) ?_]
    · cases q : h d with
      | none => simp [q]
      | some o => simp [q]
    · cases h d with
      | none => simp; omega
      | some o => simp; omega
theorem eComp_rows {α : Type} {si : En → Out (List D)} {t : TgS} {tt : En → Out Bool} {f : En → Out Rv} {vs : List Nat} {e e1 : En} {as : List α} (g : α → D) (h : α → Option O) (hsi : si e = .ok (as.map g) e1) (ht : ∀ a ∈ as, turn1 t tt f vs (g a) (e1.wipe vs) = some (h a, e1.wipe vs)) (hl : as.length ≤ 1000000) :
    eComp si t tt f vs e = .ok (.tm (.lst (as.filterMap h))) (e1.wipe vs) := by
  unfold eComp
  rw [hsi]
  show Out.bind (cloop t tt f vs (as.map g) [] (e1.wipe vs)) _ = _
  rw [cloop_rows g h ht (by simpa using hl), List.nil_append]
  rfl
/-! ### the law's own entry -/
def under (P : List Str) (r : Row) : Bool := decide (r.p.take P.length = P) && !decide (r.p = P)
def at_ (P : List Str) (r : Row) : Bool := decide (r.p = P)
def nameAfter (P : List Str) (r : Row) : Str := (r.p[P.length]?).getD ⟨#[]⟩
def uniq : List Str → List Str → List Str
  | acc, [] => acc
  | acc, n :: ns => uniq (if n ∈ acc then acc else acc ++ [n]) ns
def markD (n : Int) (P : List Str) : D := .tup false [.int n, plc P]
def t0 (r : Row) : D := r.t.headD .non
def leafD (n : Int) (P : List Str) (r : Row) (rec : D) : D :=
  if r.w = "gone" then .tup false [.str "gone", markD n P]
  else if r.w = "make" then .tup false [.str "make", t0 r, rec, markD n P]
  else if r.w = "is" then .tup false [.str "is", t0 r, markD n P]
  else if r.w = "ahead" then .tup false [.str "pile", .non, .tup false [.tup false [t0 r, markD n P]], .tup false []]
  else .tup false [.str "pile", .non, .tup false [], .tup false [.tup false [t0 r, markD n P]]]
def recD (fs : List (Str × D)) : D := .tup false [.str "record", .tup false (fs.map fun y => .tup false [.str y.1, y.2]), .bl false]
def entryD : Nat → List Row → List Str → Int → D
  | 0, _, _, _ => .non
  | f + 1, rs, P, n => match rs.filter (at_ P) with
    | [] => recD ((uniq [] ((rs.filter (under P)).map (nameAfter P))).map fun x => (x, entryD f (rs.filter (under P)) (P ++ [x]) n))
    | r :: _ => leafD n P r (recD ((uniq [] ((rs.filter (under P)).map (nameAfter P))).map fun x => (x, entryD f (rs.filter (under P)) (P ++ [x]) n)))
def PFit (P : List Str) : Prop := ∀ x ∈ P, PyData.strOk x = true
theorem fm_filter (q : Row → Bool) : ∀ rs : List Row, rs.filterMap (fun r => if q r = true then some (O.fz r.d) else none) = (rs.filter q).map fun r => .fz r.d
  | [] => rfl
  | r :: rs => by
    have ih := fm_filter q rs
    by_cases h : q r = true
    · rw [List.filterMap_cons, List.filter_cons, if_pos h, if_pos h, List.map_cons, ← ih]
    · rw [List.filterMap_cons, List.filter_cons, if_neg h, if_neg h, ← ih]
theorem ev_h6 {rs : List Row} {P : List Str} {me : O} {s2 s3 s4 s5 s6 s7 s8 s9 s10 : Option Sl} (hr : ∀ r ∈ rs, r.Fit) (hP : PFit P) (hl : rs.length ≤ 1000) :
    c__law_entry_6 ⟨[some (.ow (.fz (.lst (rs.map Row.d)))), some (.ow (.fz (plc P))), s2, s3, s4, s5, s6, s7, s8, s9, s10, none], me⟩ =
      .ok (.tm (.lst ((rs.filter (under P)).map fun r => .fz r.d))) ⟨[some (.ow (.fz (.lst (rs.map Row.d)))), some (.ow (.fz (plc P))), s2, s3, s4, none, s6, s7, s8, s9, s10, none], me⟩ := by
  rw [← fm_filter]
  refine eComp_rows (e1 := ⟨[some (.ow (.fz (.lst (rs.map Row.d)))), some (.ow (.fz (plc P))), s2, s3, s4, s5, s6, s7, s8, s9, s10, none], me⟩) Row.d _ (by simp [at_k, put_k, hole_k, frz_k, own_tm_k, own_sl_k, own_me_k, look_tm_k, look_sl_k, look_me_k, fix_k, give_tm_k, give_sl_k, give_me_k, fixAll_nil_k, fixAll_cons_k, lookAll_nil_k, lookAll_cons_k, ownAll_nil_k, ownAll_cons_k, tree_tm_k, tree_sl_k, tree_me_k, gN_k, gNil_k, gCons_k, gT_k, isLst_k, isDkOwn_k, val_fz_k, val_lst_k, val_dK_k, defSem_k, eVar_k, eC_k, aNil_k, aCons_k, eV_k, eF_k, two_k, tOf_k, tAndD_k, tOrD_k, tNotD_k, eIf_k, eAndD_k, eOrD_k, eNotD_k, eCall_k, eLst_k, eTup_k, eTupK_k, sNil_k, sCons_k, sBreak_k, sCont_k, sIf_k, sSet_k, sRet_k, sRetN_k, sDrop_k, sAsg_k, itSeq_k, itRange1_k, itRange2_k, sFor_k, tYesD_k, eItem_k, pNone_k, pSome_k, eSlice_k, eM1_k, eGet1_k, eGet2_k, sPutK_k, sAppend_k, sSetI_k, eTupItems_k, bind_ok_k, bind_ex_k, so_ok_k, so_ex_k, then_nx_k, then_rt_k, then_ex_k, then_bk_k, then_ct_k, addD_int_k, subD_k, negD_k, eqD_str_k, neD_str_k, cmpD_k, item_lst_k, item_tup_k, isnt_tup_k, isnt_non_k, is_tup_k, is_non_k, vals_nil_k, vals_cons_k, mulD_l, mulD_r, modD_of, divD_of, eqD_int, neD_int, List.map_cons, List.map_nil, List.cons_append, List.nil_append, eCallO_k, sTry_k, sRaise_k, eChain_k, itEnum_k, eLM_k, isL_lst_k, isL_fz_k, eDisp_k, eWix_k, sRetT_k, giveAll_nil_k, giveAll_cons_k, tupAt_k, eIsiIt_k, sAppIt_k, sPar_k, defSemO_k, gone_nx_k, gone_rt_k, val_tup_k, bind_no_k, so_no_k, then_no_k, sSetF_k, eNewT_k, eInT_k, eGet2T_k, isDtOwn_k, isDt_dT, isDt_fz, lookOT_fz, sPutT_k, eFld_k, eMeth_k, fldK_k, eRead_k, sClear_k, sIns_k, eSpot_k, sNever_k, val_dT_k, val_obj_k, tCold_k, cold_k, cold_nil_k, cold_none_k, cold_ow_k, coldO_k]) (fun r hq => ?_) (by omega)
  have h1 := len_plc (p := P)
  have h2 := slice_plc (p := r.p) (n := P.length)
  have h3 := eqD_plc (take_ok (n := P.length) (hr r hq).ok) hP
  have h4 := neD_plc (hr r hq).ok hP
  unfold under
  cases z1 : decide (r.p.take P.length = P) <;> cases z2 : decide (r.p = P) <;> rw [z1] at h3 <;> rw [z2] at h4 <;>
    simp [turn1, En.wipe, at_k, put_k, hole_k, frz_k, own_tm_k, own_sl_k, own_me_k, look_tm_k, look_sl_k, look_me_k, fix_k, give_tm_k, give_sl_k, give_me_k, fixAll_nil_k, fixAll_cons_k, lookAll_nil_k, lookAll_cons_k, ownAll_nil_k, ownAll_cons_k, tree_tm_k, tree_sl_k, tree_me_k, gN_k, gNil_k, gCons_k, gT_k, isLst_k, isDkOwn_k, val_fz_k, val_lst_k, val_dK_k, defSem_k, eVar_k, eC_k, aNil_k, aCons_k, eV_k, eF_k, two_k, tOf_k, tAndD_k, tOrD_k, tNotD_k, eIf_k, eAndD_k, eOrD_k, eNotD_k, eCall_k, eLst_k, eTup_k, eTupK_k, sNil_k, sCons_k, sBreak_k, sCont_k, sIf_k, sSet_k, sRet_k, sRetN_k, sDrop_k, sAsg_k, itSeq_k, itRange1_k, itRange2_k, sFor_k, tYesD_k, eItem_k, pNone_k, pSome_k, eSlice_k, eM1_k, eGet1_k, eGet2_k, sPutK_k, sAppend_k, sSetI_k, eTupItems_k, bind_ok_k, bind_ex_k, so_ok_k, so_ex_k, then_nx_k, then_rt_k, then_ex_k, then_bk_k, then_ct_k, addD_int_k, subD_k, negD_k, eqD_str_k, neD_str_k, cmpD_k, item_lst_k, item_tup_k, isnt_tup_k, isnt_non_k, is_tup_k, is_non_k, vals_nil_k, vals_cons_k, mulD_l, mulD_r, modD_of, divD_of, eqD_int, neD_int, List.map_cons, List.map_nil, List.cons_append, List.nil_append, eCallO_k, sTry_k, sRaise_k, eChain_k, itEnum_k, eLM_k, isL_lst_k, isL_fz_k, eDisp_k, eWix_k, sRetT_k, giveAll_nil_k, giveAll_cons_k, tupAt_k, eIsiIt_k, sAppIt_k, sPar_k, defSemO_k, gone_nx_k, gone_rt_k, val_tup_k, bind_no_k, so_no_k, then_no_k, sSetF_k, eNewT_k, eInT_k, eGet2T_k, isDtOwn_k, isDt_dT, isDt_fz, lookOT_fz, sPutT_k, eFld_k, eMeth_k, fldK_k, eRead_k, sClear_k, sIns_k, eSpot_k, sNever_k, val_dT_k, val_obj_k, tCold_k, cold_k, cold_nil_k, cold_none_k, cold_ow_k, coldO_k, Row.d, atI_0, h1, h2, h3, h4, z1, z2, -decide_eq_false_iff_not, -decide_eq_true_eq]
theorem ev_h2 {rs : List Row} {P : List Str} {me : O} {s2 s3 s4 s5 s6 s7 s8 s9 s10 : Option Sl} (hr : ∀ r ∈ rs, r.Fit) (hP : PFit P) (hl : rs.length ≤ 1000) :
    c__law_entry_2 ⟨[some (.ow (.fz (.lst (rs.map Row.d)))), some (.ow (.fz (plc P))), s2, s3, s4, s5, s6, s7, s8, s9, s10, none], me⟩ =
      .ok (.tm (.lst ((rs.filter (at_ P)).map fun r => .fz r.d))) ⟨[some (.ow (.fz (.lst (rs.map Row.d)))), some (.ow (.fz (plc P))), s2, s3, s4, none, s6, s7, s8, s9, s10, none], me⟩ := by
  rw [← fm_filter]
  refine eComp_rows (e1 := ⟨[some (.ow (.fz (.lst (rs.map Row.d)))), some (.ow (.fz (plc P))), s2, s3, s4, s5, s6, s7, s8, s9, s10, none], me⟩) Row.d _ (by simp [at_k, put_k, hole_k, frz_k, own_tm_k, own_sl_k, own_me_k, look_tm_k, look_sl_k, look_me_k, fix_k, give_tm_k, give_sl_k, give_me_k, fixAll_nil_k, fixAll_cons_k, lookAll_nil_k, lookAll_cons_k, ownAll_nil_k, ownAll_cons_k, tree_tm_k, tree_sl_k, tree_me_k, gN_k, gNil_k, gCons_k, gT_k, isLst_k, isDkOwn_k, val_fz_k, val_lst_k, val_dK_k, defSem_k, eVar_k, eC_k, aNil_k, aCons_k, eV_k, eF_k, two_k, tOf_k, tAndD_k, tOrD_k, tNotD_k, eIf_k, eAndD_k, eOrD_k, eNotD_k, eCall_k, eLst_k, eTup_k, eTupK_k, sNil_k, sCons_k, sBreak_k, sCont_k, sIf_k, sSet_k, sRet_k, sRetN_k, sDrop_k, sAsg_k, itSeq_k, itRange1_k, itRange2_k, sFor_k, tYesD_k, eItem_k, pNone_k, pSome_k, eSlice_k, eM1_k, eGet1_k, eGet2_k, sPutK_k, sAppend_k, sSetI_k, eTupItems_k, bind_ok_k, bind_ex_k, so_ok_k, so_ex_k, then_nx_k, then_rt_k, then_ex_k, then_bk_k, then_ct_k, addD_int_k, subD_k, negD_k, eqD_str_k, neD_str_k, cmpD_k, item_lst_k, item_tup_k, isnt_tup_k, isnt_non_k, is_tup_k, is_non_k, vals_nil_k, vals_cons_k, mulD_l, mulD_r, modD_of, divD_of, eqD_int, neD_int, List.map_cons, List.map_nil, List.cons_append, List.nil_append, eCallO_k, sTry_k, sRaise_k, eChain_k, itEnum_k, eLM_k, isL_lst_k, isL_fz_k, eDisp_k, eWix_k, sRetT_k, giveAll_nil_k, giveAll_cons_k, tupAt_k, eIsiIt_k, sAppIt_k, sPar_k, defSemO_k, gone_nx_k, gone_rt_k, val_tup_k, bind_no_k, so_no_k, then_no_k, sSetF_k, eNewT_k, eInT_k, eGet2T_k, isDtOwn_k, isDt_dT, isDt_fz, lookOT_fz, sPutT_k, eFld_k, eMeth_k, fldK_k, eRead_k, sClear_k, sIns_k, eSpot_k, sNever_k, val_dT_k, val_obj_k, tCold_k, cold_k, cold_nil_k, cold_none_k, cold_ow_k, coldO_k]) (fun r hq => ?_) (by omega)
  have h4 := eqD_plc (hr r hq).ok hP
  unfold at_
  cases z2 : decide (r.p = P) <;> rw [z2] at h4 <;>
    simp [turn1, En.wipe, at_k, put_k, hole_k, frz_k, own_tm_k, own_sl_k, own_me_k, look_tm_k, look_sl_k, look_me_k, fix_k, give_tm_k, give_sl_k, give_me_k, fixAll_nil_k, fixAll_cons_k, lookAll_nil_k, lookAll_cons_k, ownAll_nil_k, ownAll_cons_k, tree_tm_k, tree_sl_k, tree_me_k, gN_k, gNil_k, gCons_k, gT_k, isLst_k, isDkOwn_k, val_fz_k, val_lst_k, val_dK_k, defSem_k, eVar_k, eC_k, aNil_k, aCons_k, eV_k, eF_k, two_k, tOf_k, tAndD_k, tOrD_k, tNotD_k, eIf_k, eAndD_k, eOrD_k, eNotD_k, eCall_k, eLst_k, eTup_k, eTupK_k, sNil_k, sCons_k, sBreak_k, sCont_k, sIf_k, sSet_k, sRet_k, sRetN_k, sDrop_k, sAsg_k, itSeq_k, itRange1_k, itRange2_k, sFor_k, tYesD_k, eItem_k, pNone_k, pSome_k, eSlice_k, eM1_k, eGet1_k, eGet2_k, sPutK_k, sAppend_k, sSetI_k, eTupItems_k, bind_ok_k, bind_ex_k, so_ok_k, so_ex_k, then_nx_k, then_rt_k, then_ex_k, then_bk_k, then_ct_k, addD_int_k, subD_k, negD_k, eqD_str_k, neD_str_k, cmpD_k, item_lst_k, item_tup_k, isnt_tup_k, isnt_non_k, is_tup_k, is_non_k, vals_nil_k, vals_cons_k, mulD_l, mulD_r, modD_of, divD_of, eqD_int, neD_int, List.map_cons, List.map_nil, List.cons_append, List.nil_append, eCallO_k, sTry_k, sRaise_k, eChain_k, itEnum_k, eLM_k, isL_lst_k, isL_fz_k, eDisp_k, eWix_k, sRetT_k, giveAll_nil_k, giveAll_cons_k, tupAt_k, eIsiIt_k, sAppIt_k, sPar_k, defSemO_k, gone_nx_k, gone_rt_k, val_tup_k, bind_no_k, so_no_k, then_no_k, sSetF_k, eNewT_k, eInT_k, eGet2T_k, isDtOwn_k, isDt_dT, isDt_fz, lookOT_fz, sPutT_k, eFld_k, eMeth_k, fldK_k, eRead_k, sClear_k, sIns_k, eSpot_k, sNever_k, val_dT_k, val_obj_k, tCold_k, cold_k, cold_nil_k, cold_none_k, cold_ow_k, coldO_k, Row.d, atI_0, h4, z2, -decide_eq_false_iff_not, -decide_eq_true_eq]
theorem under_at {P : List Str} {r : Row} (h : under P r = true) : ∃ x, r.p[P.length]? = some x ∧ r.p = P ++ x :: r.p.drop (P.length + 1) := by
  unfold under at h
  simp only [Bool.and_eq_true, decide_eq_true_eq, Bool.not_eq_true', decide_eq_false_iff_not] at h
  have hl : P.length < r.p.length := by
    have h1 := congrArg List.length h.1
    rw [List.length_take] at h1
    by_cases q : P.length < r.p.length
    · exact q
    · exfalso
      have : r.p.take P.length = r.p := List.take_of_length_le (by omega)
      rw [this] at h
      exact h.2 h.1
  refine ⟨r.p[P.length], by simp [hl], ?_⟩
  have e1 := (List.take_append_drop P.length r.p).symm
  rw [h.1, List.drop_eq_getElem_cons hl] at e1
  exact e1
theorem in_strs {x : Str} (xs : List Str) : notInD [.str x, .lst (xs.map .str)] = some (.bl (!decide (x ∈ xs))) := by
  have h1 : (xs.map D.str).all flatD = true := by
    rw [List.all_eq_true]
    intro d hd
    obtain ⟨b, _, rfl⟩ := List.mem_map.mp hd
    rfl
  have h2 : inSeq (.str x) (xs.map D.str) = decide (x ∈ xs) := by
    unfold inSeq
    rw [List.any_map, Bool.eq_iff_iff, List.any_eq_true, decide_eq_true_eq]
    constructor
    · rintro ⟨y, hy, e⟩
      have : y = x := by simpa [flatEq] using e
      rw [← this]; exact hy
    · intro h
      exact ⟨x, h, by simp [flatEq]⟩
  show (if (flatD (.str x) && (xs.map D.str).all flatD) = true then some (inSeq (.str x) (xs.map D.str)) else none).map _ = _
  rw [show flatD (.str x) = true from rfl, h1, h2]
  rfl
theorem step_h {P : List Str} {r : Row} {acc : List Str} {s0 s2 s3 s5 s6 s7 s8 s9 s10 : Option Sl} {me : O} (hu : under P r = true) (hl : acc.length ≤ 1000) :
    b__law_entry_4 ⟨[s0, some (.ow (.fz (plc P))), s2, s3, some (.ow (.lst (acc.map fun x => .fz (.str x)))), some (.ow (.fz r.d)), s6, s7, s8, s9, s10, none], me⟩ =
      .nx ⟨[s0, some (.ow (.fz (plc P))), s2, s3, some (.ow (.lst ((if nameAfter P r ∈ acc then acc else acc ++ [nameAfter P r]).map fun x => .fz (.str x)))), some (.ow (.fz r.d)), s6, s7, s8, s9, s10, none], me⟩ := by
  obtain ⟨x, hx, _⟩ := under_at hu
  have h1 := len_plc (p := P)
  have hn : nameAfter P r = x := by unfold nameAfter; rw [hx]; rfl
  have h2 : itemD (plc r.p) (P.length : Int) = some (.str x) := by
    show atI (r.p.map D.str) (P.length : Int) = _
    rw [atI_nat (j := P.length) (by rw [List.getElem?_map, hx]; rfl)]
  have hv : vals (acc.map fun x => O.fz (.str x)) = acc.map .str := map_fz acc
  have h3 := in_strs (x := x) acc
  have hl2 : acc.length < 1000000 := by omega
  rw [hn]
  by_cases z : x ∈ acc
  · rw [show decide (x ∈ acc) = true from decide_eq_true z] at h3
    rw [if_pos z]
    simp [b__law_entry_4, at_k, put_k, hole_k, frz_k, own_tm_k, own_sl_k, own_me_k, look_tm_k, look_sl_k, look_me_k, fix_k, give_tm_k, give_sl_k, give_me_k, fixAll_nil_k, fixAll_cons_k, lookAll_nil_k, lookAll_cons_k, ownAll_nil_k, ownAll_cons_k, tree_tm_k, tree_sl_k, tree_me_k, gN_k, gNil_k, gCons_k, gT_k, isLst_k, isDkOwn_k, val_fz_k, val_lst_k, val_dK_k, defSem_k, eVar_k, eC_k, aNil_k, aCons_k, eV_k, eF_k, two_k, tOf_k, tAndD_k, tOrD_k, tNotD_k, eIf_k, eAndD_k, eOrD_k, eNotD_k, eCall_k, eLst_k, eTup_k, eTupK_k, sNil_k, sCons_k, sBreak_k, sCont_k, sIf_k, sSet_k, sRet_k, sRetN_k, sDrop_k, sAsg_k, itSeq_k, itRange1_k, itRange2_k, sFor_k, tYesD_k, eItem_k, pNone_k, pSome_k, eSlice_k, eM1_k, eGet1_k, eGet2_k, sPutK_k, sAppend_k, sSetI_k, eTupItems_k, bind_ok_k, bind_ex_k, so_ok_k, so_ex_k, then_nx_k, then_rt_k, then_ex_k, then_bk_k, then_ct_k, addD_int_k, subD_k, negD_k, eqD_str_k, neD_str_k, cmpD_k, item_lst_k, item_tup_k, isnt_tup_k, isnt_non_k, is_tup_k, is_non_k, vals_nil_k, vals_cons_k, mulD_l, mulD_r, modD_of, divD_of, eqD_int, neD_int, List.map_cons, List.map_nil, List.cons_append, List.nil_append, eCallO_k, sTry_k, sRaise_k, eChain_k, itEnum_k, eLM_k, isL_lst_k, isL_fz_k, eDisp_k, eWix_k, sRetT_k, giveAll_nil_k, giveAll_cons_k, tupAt_k, eIsiIt_k, sAppIt_k, sPar_k, defSemO_k, gone_nx_k, gone_rt_k, val_tup_k, bind_no_k, so_no_k, then_no_k, sSetF_k, eNewT_k, eInT_k, eGet2T_k, isDtOwn_k, isDt_dT, isDt_fz, lookOT_fz, sPutT_k, eFld_k, eMeth_k, fldK_k, eRead_k, sClear_k, sIns_k, eSpot_k, sNever_k, val_dT_k, val_obj_k, tCold_k, cold_k, cold_nil_k, cold_none_k, cold_ow_k, coldO_k, Row.d, atI_0, h1, h2, h3, hv]
  · rw [show decide (x ∈ acc) = false from decide_eq_false z] at h3
    rw [if_neg z]
    simp [b__law_entry_4, at_k, put_k, hole_k, frz_k, own_tm_k, own_sl_k, own_me_k, look_tm_k, look_sl_k, look_me_k, fix_k, give_tm_k, give_sl_k, give_me_k, fixAll_nil_k, fixAll_cons_k, lookAll_nil_k, lookAll_cons_k, ownAll_nil_k, ownAll_cons_k, tree_tm_k, tree_sl_k, tree_me_k, gN_k, gNil_k, gCons_k, gT_k, isLst_k, isDkOwn_k, val_fz_k, val_lst_k, val_dK_k, defSem_k, eVar_k, eC_k, aNil_k, aCons_k, eV_k, eF_k, two_k, tOf_k, tAndD_k, tOrD_k, tNotD_k, eIf_k, eAndD_k, eOrD_k, eNotD_k, eCall_k, eLst_k, eTup_k, eTupK_k, sNil_k, sCons_k, sBreak_k, sCont_k, sIf_k, sSet_k, sRet_k, sRetN_k, sDrop_k, sAsg_k, itSeq_k, itRange1_k, itRange2_k, sFor_k, tYesD_k, eItem_k, pNone_k, pSome_k, eSlice_k, eM1_k, eGet1_k, eGet2_k, sPutK_k, sAppend_k, sSetI_k, eTupItems_k, bind_ok_k, bind_ex_k, so_ok_k, so_ex_k, then_nx_k, then_rt_k, then_ex_k, then_bk_k, then_ct_k, addD_int_k, subD_k, negD_k, eqD_str_k, neD_str_k, cmpD_k, item_lst_k, item_tup_k, isnt_tup_k, isnt_non_k, is_tup_k, is_non_k, vals_nil_k, vals_cons_k, mulD_l, mulD_r, modD_of, divD_of, eqD_int, neD_int, List.map_cons, List.map_nil, List.cons_append, List.nil_append, eCallO_k, sTry_k, sRaise_k, eChain_k, itEnum_k, eLM_k, isL_lst_k, isL_fz_k, eDisp_k, eWix_k, sRetT_k, giveAll_nil_k, giveAll_cons_k, tupAt_k, eIsiIt_k, sAppIt_k, sPar_k, defSemO_k, gone_nx_k, gone_rt_k, val_tup_k, bind_no_k, so_no_k, then_no_k, sSetF_k, eNewT_k, eInT_k, eGet2T_k, isDtOwn_k, isDt_dT, isDt_fz, lookOT_fz, sPutT_k, eFld_k, eMeth_k, fldK_k, eRead_k, sClear_k, sIns_k, eSpot_k, sNever_k, val_dT_k, val_obj_k, tCold_k, cold_k, cold_nil_k, cold_none_k, cold_ow_k, coldO_k, Row.d, atI_0, h1, h2, h3, hv, hl2]
theorem loop_h {P : List Str} {s0 s2 s3 s6 s7 s8 s9 s10 : Option Sl} {me : O} : ∀ {rs : List Row} {acc : List Str} {s5 : Option Sl}, (∀ r ∈ rs, under P r = true) → acc.length + rs.length ≤ 1000 →
    ∃ s5', loop (gN 5) b__law_entry_4 (rs.map Row.d) ⟨[s0, some (.ow (.fz (plc P))), s2, s3, some (.ow (.lst (acc.map fun x => .fz (.str x)))), s5, s6, s7, s8, s9, s10, none], me⟩ =
      .nx ⟨[s0, some (.ow (.fz (plc P))), s2, s3, some (.ow (.lst ((uniq acc (rs.map (nameAfter P))).map fun x => .fz (.str x)))), s5', s6, s7, s8, s9, s10, none], me⟩
  | [], acc, s5, _, _ => ⟨s5, rfl⟩
  | r :: rs, acc, s5, h, hl => by
    rw [List.length_cons] at hl
    have h1 := step_h (s0 := s0) (s2 := s2) (s3 := s3) (s5 := s5) (s6 := s6) (s7 := s7) (s8 := s8) (s9 := s9) (s10 := s10) (me := me) (acc := acc) (h r List.mem_cons_self) (by omega)
    obtain ⟨s5', h2⟩ := loop_h (rs := rs) (acc := if nameAfter P r ∈ acc then acc else acc ++ [nameAfter P r]) (s5 := some (.ow (.fz r.d))) (s0 := s0) (s2 := s2) (s3 := s3) (s6 := s6) (s7 := s7) (s8 := s8) (s9 := s9) (s10 := s10) (me := me) (fun x hx => h x (List.mem_cons_of_mem _ hx)) (by
      split
      · omega
      · rw [List.length_append, List.length_singleton]; omega)
    refine ⟨s5', ?_⟩
    rw [List.map_cons, List.map_cons]
    show loop (gN 5) b__law_entry_4 (r.d :: rs.map Row.d) _ = _
    simp only [loop, gN_k, List.set_cons_succ, List.set_cons_zero]
    rw [h1]
    exact h2
end K10

set_option Elab.async false
set_option linter.all false
set_option maxRecDepth 100000
set_option maxHeartbeats 4000000
namespace K10
open PySem L2 PySem.Spec PyProof.Rows DL
theorem w1 : (("make" : Str) == "gone") = false := by decide +kernel
theorem w2 : (("is" : Str) == "gone") = false := by decide +kernel
theorem w3 : (("behind" : Str) == "gone") = false := by decide +kernel
theorem w4 : (("ahead" : Str) == "gone") = false := by decide +kernel
theorem w5 : (("is" : Str) == "make") = false := by decide +kernel
theorem w6 : (("behind" : Str) == "make") = false := by decide +kernel
theorem w7 : (("ahead" : Str) == "make") = false := by decide +kernel
theorem w8 : (("behind" : Str) == "is") = false := by decide +kernel
theorem w9 : (("ahead" : Str) == "is") = false := by decide +kernel
theorem wa : (("behind" : Str) == "ahead") = false := by decide +kernel
theorem wb : (("ahead" : Str) == "behind") = false := by decide +kernel
theorem v1 : ¬ (("make" : Str) = "gone") := by decide +kernel
theorem v2 : ¬ (("is" : Str) = "gone") := by decide +kernel
theorem v3 : ¬ (("behind" : Str) = "gone") := by decide +kernel
theorem v4 : ¬ (("ahead" : Str) = "gone") := by decide +kernel
theorem v5 : ¬ (("is" : Str) = "make") := by decide +kernel
theorem v6 : ¬ (("behind" : Str) = "make") := by decide +kernel
theorem v7 : ¬ (("ahead" : Str) = "make") := by decide +kernel
theorem v8 : ¬ (("behind" : Str) = "is") := by decide +kernel
theorem v9 : ¬ (("ahead" : Str) = "is") := by decide +kernel
theorem va : ¬ (("behind" : Str) = "ahead") := by decide +kernel
def rtO : SO → Option O
  | .rt o _ => some o
  | _ => none
theorem rtO_rt {o : O} {e : En} : rtO (.rt o e) = some o := id rfl
theorem rtO_of {s : SO} {o : O} (h : rtO s = some o) : ∃ e', s = .rt o e' := by
  cases s with
  | rt o' e => cases h; exact ⟨e, rfl⟩
  | _ => cases h
theorem ev_r {xs : List Str} {r : Row} {rest : List O} {P : List Str} {n : Int} {rec : D} {s0 s1 s2 s3 s4 s5 s9 s10 s11 : Option Sl} {me : O} (h : r.Ok xs) :
    rtO (r__law_entry_1 ⟨[s0, s1, s2, s3, s4, s5, some (.ow (.fz rec)), some (.ow (.lst (.fz r.d :: rest))), some (.ow (.fz (markD n P))), s9, s10, s11], me⟩) = some (.fz (leafD n P r rec)) := by
  have i0 : intD [.bl false] = some (.int 0) := rfl
  have i1 : intD [.bl true] = some (.int 1) := rfl
  obtain ⟨p, w, t⟩ := r
  rcases h.kind with ⟨e1, e2⟩ | ⟨hw, d, e2, hd⟩
  · simp only at e1 e2
    subst e1 e2
    simp [r__law_entry_1_k, at_k, put_k, hole_k, frz_k, own_tm_k, own_sl_k, own_me_k, look_tm_k, look_sl_k, look_me_k, fix_k, give_tm_k, give_sl_k, give_me_k, fixAll_nil_k, fixAll_cons_k, lookAll_nil_k, lookAll_cons_k, ownAll_nil_k, ownAll_cons_k, tree_tm_k, tree_sl_k, tree_me_k, gN_k, gNil_k, gCons_k, gT_k, isLst_k, isDkOwn_k, val_fz_k, val_lst_k, val_dK_k, defSem_k, eVar_k, eC_k, aNil_k, aCons_k, eV_k, eF_k, two_k, tOf_k, tAndD_k, tOrD_k, tNotD_k, eIf_k, eAndD_k, eOrD_k, eNotD_k, eCall_k, eLst_k, eTup_k, eTupK_k, sNil_k, sCons_k, sBreak_k, sCont_k, sIf_k, sSet_k, sRet_k, sRetN_k, sDrop_k, sAsg_k, itSeq_k, itRange1_k, itRange2_k, sFor_k, tYesD_k, eItem_k, pNone_k, pSome_k, eSlice_k, eM1_k, eGet1_k, eGet2_k, sPutK_k, sAppend_k, sSetI_k, eTupItems_k, bind_ok_k, bind_ex_k, so_ok_k, so_ex_k, then_nx_k, then_rt_k, then_ex_k, then_bk_k, then_ct_k, addD_int_k, subD_k, negD_k, eqD_str_k, neD_str_k, cmpD_k, item_lst_k, item_tup_k, isnt_tup_k, isnt_non_k, is_tup_k, is_non_k, vals_nil_k, vals_cons_k, mulD_l, mulD_r, modD_of, divD_of, eqD_int, neD_int, List.map_cons, List.map_nil, List.cons_append, List.nil_append, eCallO_k, sTry_k, sRaise_k, eChain_k, itEnum_k, eLM_k, isL_lst_k, isL_fz_k, eDisp_k, eWix_k, sRetT_k, giveAll_nil_k, giveAll_cons_k, tupAt_k, eIsiIt_k, sAppIt_k, sPar_k, defSemO_k, gone_nx_k, gone_rt_k, val_tup_k, bind_no_k, so_no_k, then_no_k, sSetF_k, eNewT_k, eInT_k, eGet2T_k, isDtOwn_k, isDt_dT, isDt_fz, lookOT_fz, sPutT_k, eFld_k, eMeth_k, fldK_k, eRead_k, sClear_k, sIns_k, eSpot_k, sNever_k, val_dT_k, val_obj_k, tCold_k, cold_k, cold_nil_k, cold_none_k, cold_ow_k, coldO_k, Row.d, atI_0, atI_1, leafD, t0, rtO_rt]
  · simp only at hw e2
    subst e2
    rcases hw with rfl | rfl | rfl | rfl
    · simp [r__law_entry_1_k, at_k, put_k, hole_k, frz_k, own_tm_k, own_sl_k, own_me_k, look_tm_k, look_sl_k, look_me_k, fix_k, give_tm_k, give_sl_k, give_me_k, fixAll_nil_k, fixAll_cons_k, lookAll_nil_k, lookAll_cons_k, ownAll_nil_k, ownAll_cons_k, tree_tm_k, tree_sl_k, tree_me_k, gN_k, gNil_k, gCons_k, gT_k, isLst_k, isDkOwn_k, val_fz_k, val_lst_k, val_dK_k, defSem_k, eVar_k, eC_k, aNil_k, aCons_k, eV_k, eF_k, two_k, tOf_k, tAndD_k, tOrD_k, tNotD_k, eIf_k, eAndD_k, eOrD_k, eNotD_k, eCall_k, eLst_k, eTup_k, eTupK_k, sNil_k, sCons_k, sBreak_k, sCont_k, sIf_k, sSet_k, sRet_k, sRetN_k, sDrop_k, sAsg_k, itSeq_k, itRange1_k, itRange2_k, sFor_k, tYesD_k, eItem_k, pNone_k, pSome_k, eSlice_k, eM1_k, eGet1_k, eGet2_k, sPutK_k, sAppend_k, sSetI_k, eTupItems_k, bind_ok_k, bind_ex_k, so_ok_k, so_ex_k, then_nx_k, then_rt_k, then_ex_k, then_bk_k, then_ct_k, addD_int_k, subD_k, negD_k, eqD_str_k, neD_str_k, cmpD_k, item_lst_k, item_tup_k, isnt_tup_k, isnt_non_k, is_tup_k, is_non_k, vals_nil_k, vals_cons_k, mulD_l, mulD_r, modD_of, divD_of, eqD_int, neD_int, List.map_cons, List.map_nil, List.cons_append, List.nil_append, eCallO_k, sTry_k, sRaise_k, eChain_k, itEnum_k, eLM_k, isL_lst_k, isL_fz_k, eDisp_k, eWix_k, sRetT_k, giveAll_nil_k, giveAll_cons_k, tupAt_k, eIsiIt_k, sAppIt_k, sPar_k, defSemO_k, gone_nx_k, gone_rt_k, val_tup_k, bind_no_k, so_no_k, then_no_k, sSetF_k, eNewT_k, eInT_k, eGet2T_k, isDtOwn_k, isDt_dT, isDt_fz, lookOT_fz, sPutT_k, eFld_k, eMeth_k, fldK_k, eRead_k, sClear_k, sIns_k, eSpot_k, sNever_k, val_dT_k, val_obj_k, tCold_k, cold_k, cold_nil_k, cold_none_k, cold_ow_k, coldO_k, Row.d, atI_0, atI_1, atI_2, leafD, t0, w1, v1, rtO_rt]
    · simp [r__law_entry_1_k, at_k, put_k, hole_k, frz_k, own_tm_k, own_sl_k, own_me_k, look_tm_k, look_sl_k, look_me_k, fix_k, give_tm_k, give_sl_k, give_me_k, fixAll_nil_k, fixAll_cons_k, lookAll_nil_k, lookAll_cons_k, ownAll_nil_k, ownAll_cons_k, tree_tm_k, tree_sl_k, tree_me_k, gN_k, gNil_k, gCons_k, gT_k, isLst_k, isDkOwn_k, val_fz_k, val_lst_k, val_dK_k, defSem_k, eVar_k, eC_k, aNil_k, aCons_k, eV_k, eF_k, two_k, tOf_k, tAndD_k, tOrD_k, tNotD_k, eIf_k, eAndD_k, eOrD_k, eNotD_k, eCall_k, eLst_k, eTup_k, eTupK_k, sNil_k, sCons_k, sBreak_k, sCont_k, sIf_k, sSet_k, sRet_k, sRetN_k, sDrop_k, sAsg_k, itSeq_k, itRange1_k, itRange2_k, sFor_k, tYesD_k, eItem_k, pNone_k, pSome_k, eSlice_k, eM1_k, eGet1_k, eGet2_k, sPutK_k, sAppend_k, sSetI_k, eTupItems_k, bind_ok_k, bind_ex_k, so_ok_k, so_ex_k, then_nx_k, then_rt_k, then_ex_k, then_bk_k, then_ct_k, addD_int_k, subD_k, negD_k, eqD_str_k, neD_str_k, cmpD_k, item_lst_k, item_tup_k, isnt_tup_k, isnt_non_k, is_tup_k, is_non_k, vals_nil_k, vals_cons_k, mulD_l, mulD_r, modD_of, divD_of, eqD_int, neD_int, List.map_cons, List.map_nil, List.cons_append, List.nil_append, eCallO_k, sTry_k, sRaise_k, eChain_k, itEnum_k, eLM_k, isL_lst_k, isL_fz_k, eDisp_k, eWix_k, sRetT_k, giveAll_nil_k, giveAll_cons_k, tupAt_k, eIsiIt_k, sAppIt_k, sPar_k, defSemO_k, gone_nx_k, gone_rt_k, val_tup_k, bind_no_k, so_no_k, then_no_k, sSetF_k, eNewT_k, eInT_k, eGet2T_k, isDtOwn_k, isDt_dT, isDt_fz, lookOT_fz, sPutT_k, eFld_k, eMeth_k, fldK_k, eRead_k, sClear_k, sIns_k, eSpot_k, sNever_k, val_dT_k, val_obj_k, tCold_k, cold_k, cold_nil_k, cold_none_k, cold_ow_k, coldO_k, Row.d, atI_0, atI_1, atI_2, leafD, t0, w2, w5, v2, v5, rtO_rt]
    · simp [r__law_entry_1_k, at_k, put_k, hole_k, frz_k, own_tm_k, own_sl_k, own_me_k, look_tm_k, look_sl_k, look_me_k, fix_k, give_tm_k, give_sl_k, give_me_k, fixAll_nil_k, fixAll_cons_k, lookAll_nil_k, lookAll_cons_k, ownAll_nil_k, ownAll_cons_k, tree_tm_k, tree_sl_k, tree_me_k, gN_k, gNil_k, gCons_k, gT_k, isLst_k, isDkOwn_k, val_fz_k, val_lst_k, val_dK_k, defSem_k, eVar_k, eC_k, aNil_k, aCons_k, eV_k, eF_k, two_k, tOf_k, tAndD_k, tOrD_k, tNotD_k, eIf_k, eAndD_k, eOrD_k, eNotD_k, eCall_k, eLst_k, eTup_k, eTupK_k, sNil_k, sCons_k, sBreak_k, sCont_k, sIf_k, sSet_k, sRet_k, sRetN_k, sDrop_k, sAsg_k, itSeq_k, itRange1_k, itRange2_k, sFor_k, tYesD_k, eItem_k, pNone_k, pSome_k, eSlice_k, eM1_k, eGet1_k, eGet2_k, sPutK_k, sAppend_k, sSetI_k, eTupItems_k, bind_ok_k, bind_ex_k, so_ok_k, so_ex_k, then_nx_k, then_rt_k, then_ex_k, then_bk_k, then_ct_k, addD_int_k, subD_k, negD_k, eqD_str_k, neD_str_k, cmpD_k, item_lst_k, item_tup_k, isnt_tup_k, isnt_non_k, is_tup_k, is_non_k, vals_nil_k, vals_cons_k, mulD_l, mulD_r, modD_of, divD_of, eqD_int, neD_int, List.map_cons, List.map_nil, List.cons_append, List.nil_append, eCallO_k, sTry_k, sRaise_k, eChain_k, itEnum_k, eLM_k, isL_lst_k, isL_fz_k, eDisp_k, eWix_k, sRetT_k, giveAll_nil_k, giveAll_cons_k, tupAt_k, eIsiIt_k, sAppIt_k, sPar_k, defSemO_k, gone_nx_k, gone_rt_k, val_tup_k, bind_no_k, so_no_k, then_no_k, sSetF_k, eNewT_k, eInT_k, eGet2T_k, isDtOwn_k, isDt_dT, isDt_fz, lookOT_fz, sPutT_k, eFld_k, eMeth_k, fldK_k, eRead_k, sClear_k, sIns_k, eSpot_k, sNever_k, val_dT_k, val_obj_k, tCold_k, cold_k, cold_nil_k, cold_none_k, cold_ow_k, coldO_k, Row.d, atI_0, atI_1, atI_2, leafD, t0, w3, w6, w8, wa, v3, v6, v8, va, i0, i1, rtO_rt]
    · simp [r__law_entry_1_k, at_k, put_k, hole_k, frz_k, own_tm_k, own_sl_k, own_me_k, look_tm_k, look_sl_k, look_me_k, fix_k, give_tm_k, give_sl_k, give_me_k, fixAll_nil_k, fixAll_cons_k, lookAll_nil_k, lookAll_cons_k, ownAll_nil_k, ownAll_cons_k, tree_tm_k, tree_sl_k, tree_me_k, gN_k, gNil_k, gCons_k, gT_k, isLst_k, isDkOwn_k, val_fz_k, val_lst_k, val_dK_k, defSem_k, eVar_k, eC_k, aNil_k, aCons_k, eV_k, eF_k, two_k, tOf_k, tAndD_k, tOrD_k, tNotD_k, eIf_k, eAndD_k, eOrD_k, eNotD_k, eCall_k, eLst_k, eTup_k, eTupK_k, sNil_k, sCons_k, sBreak_k, sCont_k, sIf_k, sSet_k, sRet_k, sRetN_k, sDrop_k, sAsg_k, itSeq_k, itRange1_k, itRange2_k, sFor_k, tYesD_k, eItem_k, pNone_k, pSome_k, eSlice_k, eM1_k, eGet1_k, eGet2_k, sPutK_k, sAppend_k, sSetI_k, eTupItems_k, bind_ok_k, bind_ex_k, so_ok_k, so_ex_k, then_nx_k, then_rt_k, then_ex_k, then_bk_k, then_ct_k, addD_int_k, subD_k, negD_k, eqD_str_k, neD_str_k, cmpD_k, item_lst_k, item_tup_k, isnt_tup_k, isnt_non_k, is_tup_k, is_non_k, vals_nil_k, vals_cons_k, mulD_l, mulD_r, modD_of, divD_of, eqD_int, neD_int, List.map_cons, List.map_nil, List.cons_append, List.nil_append, eCallO_k, sTry_k, sRaise_k, eChain_k, itEnum_k, eLM_k, isL_lst_k, isL_fz_k, eDisp_k, eWix_k, sRetT_k, giveAll_nil_k, giveAll_cons_k, tupAt_k, eIsiIt_k, sAppIt_k, sPar_k, defSemO_k, gone_nx_k, gone_rt_k, val_tup_k, bind_no_k, so_no_k, then_no_k, sSetF_k, eNewT_k, eInT_k, eGet2T_k, isDtOwn_k, isDt_dT, isDt_fz, lookOT_fz, sPutT_k, eFld_k, eMeth_k, fldK_k, eRead_k, sClear_k, sIns_k, eSpot_k, sNever_k, val_dT_k, val_obj_k, tCold_k, cold_k, cold_nil_k, cold_none_k, cold_ow_k, coldO_k, Row.d, atI_0, atI_1, atI_2, leafD, t0, w4, w7, w9, wb, v4, v7, v9, i0, i1, rtO_rt]
theorem plc_app {P : List Str} {x : Str} (h : P.length ≤ 100) : addD [plc P, .tup false [.str x]] = some (.fz (plc (P ++ [x]))) := by
  show (if (P.map D.str).length + [D.str x].length ≤ most then _ else _) = _
  rw [if_pos (by rw [List.length_map, List.length_singleton]; unfold most; omega)]
  unfold plc
  rw [List.map_append]
  rfl
theorem ev_h3 {φ : List D → Res} {inn : List Row} {P : List Str} {n : Int} {hs : List Str} {ent : Str → D} {s0 s5 s6 s7 s8 s9 s10 : Option Sl} {me : O} (hP : P.length ≤ 100) (hl : hs.length ≤ 1000) (H : ∀ x ∈ hs, φ [.lst (inn.map Row.d), plc (P ++ [x]), .int n] = .ok (.fz (ent x))) :
    c__law_entry_3 φ ⟨[s0, some (.ow (.fz (plc P))), some (.ow (.fz (.int n))), some (.ow (.fz (.lst (inn.map Row.d)))), some (.ow (.lst (hs.map fun x => .fz (.str x)))), s5, s6, s7, s8, s9, s10, none], me⟩ =
      .ok (.tm (.lst (hs.map fun x => .fz (.tup false [.str x, ent x])))) ⟨[s0, some (.ow (.fz (plc P))), some (.ow (.fz (.int n))), some (.ow (.fz (.lst (inn.map Row.d)))), some (.ow (.fz (.lst (hs.map .str)))), s5, s6, s7, s8, s9, s10, none], me⟩ := by
  have e0 : hs.map (fun x => O.fz (.tup false [.str x, ent x])) = hs.filterMap fun x => some (O.fz (.tup false [.str x, ent x])) := by
    induction hs with
    | nil => rfl
    | cons x hs ih => rw [List.map_cons, List.filterMap_cons, ih (by rw [List.length_cons] at hl; omega) fun y hy => H y (List.mem_cons_of_mem _ hy)]
  rw [e0]
  have hv := map_fz hs
  refine eComp_rows (e1 := ⟨[s0, some (.ow (.fz (plc P))), some (.ow (.fz (.int n))), some (.ow (.fz (.lst (inn.map Row.d)))), some (.ow (.fz (.lst (hs.map .str)))), s5, s6, s7, s8, s9, s10, none], me⟩) D.str _ (by simp [at_k, put_k, hole_k, frz_k, own_tm_k, own_sl_k, own_me_k, look_tm_k, look_sl_k, look_me_k, fix_k, give_tm_k, give_sl_k, give_me_k, fixAll_nil_k, fixAll_cons_k, lookAll_nil_k, lookAll_cons_k, ownAll_nil_k, ownAll_cons_k, tree_tm_k, tree_sl_k, tree_me_k, gN_k, gNil_k, gCons_k, gT_k, isLst_k, isDkOwn_k, val_fz_k, val_lst_k, val_dK_k, defSem_k, eVar_k, eC_k, aNil_k, aCons_k, eV_k, eF_k, two_k, tOf_k, tAndD_k, tOrD_k, tNotD_k, eIf_k, eAndD_k, eOrD_k, eNotD_k, eCall_k, eLst_k, eTup_k, eTupK_k, sNil_k, sCons_k, sBreak_k, sCont_k, sIf_k, sSet_k, sRet_k, sRetN_k, sDrop_k, sAsg_k, itSeq_k, itRange1_k, itRange2_k, sFor_k, tYesD_k, eItem_k, pNone_k, pSome_k, eSlice_k, eM1_k, eGet1_k, eGet2_k, sPutK_k, sAppend_k, sSetI_k, eTupItems_k, bind_ok_k, bind_ex_k, so_ok_k, so_ex_k, then_nx_k, then_rt_k, then_ex_k, then_bk_k, then_ct_k, addD_int_k, subD_k, negD_k, eqD_str_k, neD_str_k, cmpD_k, item_lst_k, item_tup_k, isnt_tup_k, isnt_non_k, is_tup_k, is_non_k, vals_nil_k, vals_cons_k, mulD_l, mulD_r, modD_of, divD_of, eqD_int, neD_int, List.map_cons, List.map_nil, List.cons_append, List.nil_append, eCallO_k, sTry_k, sRaise_k, eChain_k, itEnum_k, eLM_k, isL_lst_k, isL_fz_k, eDisp_k, eWix_k, sRetT_k, giveAll_nil_k, giveAll_cons_k, tupAt_k, eIsiIt_k, sAppIt_k, sPar_k, defSemO_k, gone_nx_k, gone_rt_k, val_tup_k, bind_no_k, so_no_k, then_no_k, sSetF_k, eNewT_k, eInT_k, eGet2T_k, isDtOwn_k, isDt_dT, isDt_fz, lookOT_fz, sPutT_k, eFld_k, eMeth_k, fldK_k, eRead_k, sClear_k, sIns_k, eSpot_k, sNever_k, val_dT_k, val_obj_k, tCold_k, cold_k, cold_nil_k, cold_none_k, cold_ow_k, coldO_k, hv]) (fun x hx => ?_) (by omega)
  have h1 := H x hx
  have h2 := plc_app (x := x) hP
  simp [turn1, En.wipe, at_k, put_k, hole_k, frz_k, own_tm_k, own_sl_k, own_me_k, look_tm_k, look_sl_k, look_me_k, fix_k, give_tm_k, give_sl_k, give_me_k, fixAll_nil_k, fixAll_cons_k, lookAll_nil_k, lookAll_cons_k, ownAll_nil_k, ownAll_cons_k, tree_tm_k, tree_sl_k, tree_me_k, gN_k, gNil_k, gCons_k, gT_k, isLst_k, isDkOwn_k, val_fz_k, val_lst_k, val_dK_k, defSem_k, eVar_k, eC_k, aNil_k, aCons_k, eV_k, eF_k, two_k, tOf_k, tAndD_k, tOrD_k, tNotD_k, eIf_k, eAndD_k, eOrD_k, eNotD_k, eCall_k, eLst_k, eTup_k, eTupK_k, sNil_k, sCons_k, sBreak_k, sCont_k, sIf_k, sSet_k, sRet_k, sRetN_k, sDrop_k, sAsg_k, itSeq_k, itRange1_k, itRange2_k, sFor_k, tYesD_k, eItem_k, pNone_k, pSome_k, eSlice_k, eM1_k, eGet1_k, eGet2_k, sPutK_k, sAppend_k, sSetI_k, eTupItems_k, bind_ok_k, bind_ex_k, so_ok_k, so_ex_k, then_nx_k, then_rt_k, then_ex_k, then_bk_k, then_ct_k, addD_int_k, subD_k, negD_k, eqD_str_k, neD_str_k, cmpD_k, item_lst_k, item_tup_k, isnt_tup_k, isnt_non_k, is_tup_k, is_non_k, vals_nil_k, vals_cons_k, mulD_l, mulD_r, modD_of, divD_of, eqD_int, neD_int, List.map_cons, List.map_nil, List.cons_append, List.nil_append, eCallO_k, sTry_k, sRaise_k, eChain_k, itEnum_k, eLM_k, isL_lst_k, isL_fz_k, eDisp_k, eWix_k, sRetT_k, giveAll_nil_k, giveAll_cons_k, tupAt_k, eIsiIt_k, sAppIt_k, sPar_k, defSemO_k, gone_nx_k, gone_rt_k, val_tup_k, bind_no_k, so_no_k, then_no_k, sSetF_k, eNewT_k, eInT_k, eGet2T_k, isDtOwn_k, isDt_dT, isDt_fz, lookOT_fz, sPutT_k, eFld_k, eMeth_k, fldK_k, eRead_k, sClear_k, sIns_k, eSpot_k, sNever_k, val_dT_k, val_obj_k, tCold_k, cold_k, cold_nil_k, cold_none_k, cold_ow_k, coldO_k, h1, h2]
end K10

set_option Elab.async false
set_option linter.all false
set_option maxRecDepth 100000
set_option maxHeartbeats 4000000
namespace K10
open PySem L2 PySem.Spec PyProof.Rows DL
theorem uniq_mem {x : Str} : ∀ {ns acc : List Str}, x ∈ uniq acc ns → x ∈ acc ∨ x ∈ ns
  | [], acc, h => .inl h
  | n :: ns, acc, h => by
    unfold uniq at h
    rcases uniq_mem h with q | q
    · split at q
      · exact .inl q
      · rcases List.mem_append.mp q with q | q
        · exact .inl q
        · rw [List.mem_singleton.mp q]; exact .inr List.mem_cons_self
    · exact .inr (List.mem_cons_of_mem _ q)
theorem uniq_len : ∀ {ns acc : List Str}, (uniq acc ns).length ≤ acc.length + ns.length
  | [], acc => Nat.le_refl _
  | n :: ns, acc => by
    unfold uniq
    have := uniq_len (ns := ns) (acc := if n ∈ acc then acc else acc ++ [n])
    rw [List.length_cons]
    split at this
    · rename_i h
      rw [if_pos h]; omega
    · rename_i h
      rw [if_neg h]
      rw [List.length_append, List.length_singleton] at this
      omega
theorem plc_sm {xs : List Str} (N : NamesOk xs) {p : List Str} (h : ∀ x ∈ p, x ∈ xs) (hl : p.length ≤ 4) : Sm 338 1 (plc p) := by
  refine (Sm.many (n := 82) (h := 0) (fun d hd => ?_) (m := 4) (by rw [List.length_map]; exact hl)).up (by decide) (by decide)
  obtain ⟨x, hx, rfl⟩ := List.mem_map.mp hd
  exact name_sm N (h x hx)
theorem row_fit {xs : List Str} (N : NamesOk xs) {r : Row} (h : r.Ok xs) : r.d.fit = true ∧ r.d.dep ≤ 6 := by
  have hp := plc_sm N h.mem h.len
  have hw : PyData.strOk r.w = true := by
    rcases h.kind with ⟨e, _⟩ | ⟨e, _⟩
    · rw [e]; decide +kernel
    · rcases e with e | e | e | e <;> rw [e] <;> decide +kernel
  have ht : (∀ d ∈ r.t, d.fit = true) ∧ (∀ d ∈ r.t, d.dep ≤ 4) := by
    rcases h.kind with ⟨_, e⟩ | ⟨_, d, e, s⟩
    · rw [e]; exact ⟨fun d hd => (nomatch hd), fun d hd => nomatch hd⟩
    · rw [e]
      exact ⟨fun d' hd => by rw [List.mem_singleton.mp hd]; exact s.fit, fun d' hd => by rw [List.mem_singleton.mp hd]; exact s.dep⟩
  constructor
  · unfold Row.d D.fit
    refine fits_iff.mpr fun d hd => ?_
    rcases List.mem_cons.mp hd with q | hd
    · rw [q]; exact hp.fit
    · rcases List.mem_cons.mp hd with q | hd
      · rw [q]; exact hw
      · exact ht.1 d hd
  · unfold Row.d D.dep
    have := deps_le (n := 4) (ds := plc r.p :: .str r.w :: r.t) fun d hd => by
      rcases List.mem_cons.mp hd with q | hd
      · rw [q]; have := hp.dep; omega
      · rcases List.mem_cons.mp hd with q | hd
        · rw [q]; exact Nat.zero_le _
        · exact ht.2 d hd
    omega
theorem own_eq {xs : List Str} (N : NamesOk xs) {rs : List Row} (h : ∀ r ∈ rs, r.Ok xs) : eqD [.lst (rs.map Row.d), .lst []] = some (.bl rs.isEmpty) := by
  have h1 : eqOk (.lst (rs.map Row.d)) = true := by
    refine eqOk_of ?_ ?_
    · unfold D.fit
      refine fits_iff.mpr fun d hd => ?_
      obtain ⟨r, hr, rfl⟩ := List.mem_map.mp hd
      exact (row_fit N (h r hr)).1
    · unfold D.dep
      have := deps_le (n := 6) (ds := rs.map Row.d) fun d hd => by
        obtain ⟨r, hr, rfl⟩ := List.mem_map.mp hd
        exact (row_fit N (h r hr)).2
      omega
  have h2 : eqOk (.lst []) = true := eqOk_of rfl (by decide)
  have e : eqD [.lst (rs.map Row.d), .lst []] = some (.bl (PyData.eqv (D.lst (rs.map Row.d)).pd (D.lst []).pd)) := by
    show (if eqOk (.lst (rs.map Row.d)) && eqOk (.lst []) then _ else _) = _
    rw [h1, h2]
    rfl
  rw [e]
  cases rs with
  | nil => rfl
  | cons r rs => simp [D.pd, pds, PyData.eqv, PyData.eqvAll]
def phE : Nat → List D → Res
  | 0 => never
  | f + 1 => defSem 12 3 (g__law_entry (phE f))
theorem rows_vals (rs : List Row) : vals (rs.map fun r => O.fz r.d) = rs.map Row.d := by rw [← vals_fz (rs.map Row.d), List.map_map]; rfl
theorem sem_entry {xs : List Str} (N : NamesOk xs) {n : Int} : ∀ (f : Nat) (rs : List Row) (P : List Str), (∀ r ∈ rs, r.Ok xs) → PFit P → rs.length ≤ 500 → 1 ≤ f → (∀ r ∈ rs, r.p.length < P.length + f) → P.length ≤ 50 →
    phE f [.lst (rs.map Row.d), plc P, .int n] = .ok (.fz (entryD f rs P n))
  | 0, rs, P, _, _, _, h, _, _ => absurd h (by decide)
  | f + 1, rs, P, hr, hP, hl, _, hf, hPl => by
    have hin : ∀ r ∈ rs.filter (under P), r ∈ rs ∧ under P r = true := fun r h => List.mem_filter.mp h
    have hil : (rs.filter (under P)).length ≤ 500 := Nat.le_trans (List.length_filter_le _ _) hl
    have hul := uniq_len (ns := (rs.filter (under P)).map (nameAfter P)) (acc := [])
    rw [List.length_map, List.length_nil] at hul
    have H : ∀ x ∈ uniq [] ((rs.filter (under P)).map (nameAfter P)), phE f [.lst ((rs.filter (under P)).map Row.d), plc (P ++ [x]), .int n] = .ok (.fz (entryD f (rs.filter (under P)) (P ++ [x]) n)) := fun x hx => by
      rcases uniq_mem hx with q | q
      · cases q
      · obtain ⟨r, hrm, rfl⟩ := List.mem_map.mp q
        obtain ⟨h1, h2⟩ := hin r hrm
        obtain ⟨y, hy, hd⟩ := under_at h2
        have hy2 : nameAfter P r = y := by unfold nameAfter; rw [hy]; rfl
        have hlen := (List.getElem?_eq_some_iff.mp hy).1
        have := hf r h1
        have hym : y ∈ r.p := List.mem_of_getElem? hy
        rw [hy2]
        refine sem_entry N f (rs.filter (under P)) (P ++ [y]) (fun r h => hr r (hin r h).1) (fun z hz => ?_) hil (by omega) (fun r h => ?_) ?_
        · rcases List.mem_append.mp hz with q | q
          · exact hP z q
          · rw [List.mem_singleton.mp q]; exact ((hr r h1).fit N).ok y hym
        · have := hf r (hin r h).1
          rw [List.length_append, List.length_singleton]; omega
        · have := (hr r h1).len
          rw [List.length_append, List.length_singleton]; omega
    have e6 := ev_h6 (rs := rs) (P := P) (me := .fz .non) (s2 := some (.ow (.fz (.int n)))) (s3 := none) (s4 := none) (s5 := none) (s6 := none) (s7 := none) (s8 := none) (s9 := none) (s10 := none) (fun r h => (hr r h).fit N) hP (by omega)
    obtain ⟨s5', el⟩ := loop_h (P := P) (rs := rs.filter (under P)) (acc := []) (s0 := some (.ow (.fz (.lst (rs.map Row.d))))) (s2 := some (.ow (.fz (.int n)))) (s3 := some (.ow (.fz (.lst ((rs.filter (under P)).map Row.d))))) (s5 := none) (s6 := none) (s7 := none) (s8 := none) (s9 := none) (s10 := none) (me := .fz .non)
      (fun r h => (hin r h).2) (by rw [List.length_nil]; omega)
    have e3 := ev_h3 (φ := phE f) (inn := rs.filter (under P)) (P := P) (n := n) (hs := uniq [] ((rs.filter (under P)).map (nameAfter P))) (ent := fun x => entryD f (rs.filter (under P)) (P ++ [x]) n) (s0 := some (.ow (.fz (.lst (rs.map Row.d))))) (s5 := s5') (s6 := none) (s7 := none) (s8 := none) (s9 := none) (s10 := none) (me := .fz .non)
      (by omega) (by omega) H
    rw [List.map_nil] at el
    have hv := rows_vals (rs.filter (under P))
    have hv2 := rows_vals (rs.filter (at_ P))
    have hv3 : vals ((uniq [] ((rs.filter (under P)).map (nameAfter P))).map fun x => O.fz (.tup false [.str x, entryD f (rs.filter (under P)) (P ++ [x]) n])) = (uniq [] ((rs.filter (under P)).map (nameAfter P))).map fun x => .tup false [.str x, entryD f (rs.filter (under P)) (P ++ [x]) n] := by
      rw [← vals_fz ((uniq [] ((rs.filter (under P)).map (nameAfter P))).map fun x => D.tup false [.str x, entryD f (rs.filter (under P)) (P ++ [x]) n]), List.map_map]; rfl
    have hrec : recD ((uniq [] ((rs.filter (under P)).map (nameAfter P))).map fun x => (x, entryD f (rs.filter (under P)) (P ++ [x]) n)) = .tup false [.str "record", .tup false ((uniq [] ((rs.filter (under P)).map (nameAfter P))).map fun x => .tup false [.str x, entryD f (rs.filter (under P)) (P ++ [x]) n]), .bl false] := by
      unfold recD; rw [List.map_map]; rfl
    have e2 := fun s3 s4 s6 => ev_h2 (rs := rs) (P := P) (me := .fz .non) (s2 := some (.ow (.fz (.int n)))) (s3 := s3) (s4 := s4) (s5 := s5') (s6 := s6) (s7 := none) (s8 := none) (s9 := none) (s10 := none) (fun r h => (hr r h).fit N) hP (by omega)
    have eo := own_eq N (rs := rs.filter (at_ P)) fun r h => hr r (List.mem_filter.mp h).1
    have hok : ∀ r ∈ rs.filter (at_ P), r.Ok xs := fun r h => hr r (List.mem_filter.mp h).1
    show defSem 12 3 (g__law_entry (phE f)) _ = _
    unfold entryD
    rw [hrec]
    generalize (uniq [] ((rs.filter (under P)).map (nameAfter P))).map (fun x => D.tup false [.str x, entryD f (rs.filter (under P)) (P ++ [x]) n]) = A at hv3 ⊢
    cases hq : rs.filter (at_ P) with
    | nil =>
      rw [hq] at e2 eo
      simp only [List.map_nil, List.isEmpty_nil] at e2 eo
      simp [g__law_entry, l__law_entry_5, at_k, put_k, hole_k, frz_k, own_tm_k, own_sl_k, own_me_k, look_tm_k, look_sl_k, look_me_k, fix_k, give_tm_k, give_sl_k, give_me_k, fixAll_nil_k, fixAll_cons_k, lookAll_nil_k, lookAll_cons_k, ownAll_nil_k, ownAll_cons_k, tree_tm_k, tree_sl_k, tree_me_k, gN_k, gNil_k, gCons_k, gT_k, isLst_k, isDkOwn_k, val_fz_k, val_lst_k, val_dK_k, defSem_k, eVar_k, eC_k, aNil_k, aCons_k, eV_k, eF_k, two_k, tOf_k, tAndD_k, tOrD_k, tNotD_k, eIf_k, eAndD_k, eOrD_k, eNotD_k, eCall_k, eLst_k, eTup_k, eTupK_k, sNil_k, sCons_k, sBreak_k, sCont_k, sIf_k, sSet_k, sRet_k, sRetN_k, sDrop_k, sAsg_k, itSeq_k, itRange1_k, itRange2_k, sFor_k, tYesD_k, eItem_k, pNone_k, pSome_k, eSlice_k, eM1_k, eGet1_k, eGet2_k, sPutK_k, sAppend_k, sSetI_k, eTupItems_k, bind_ok_k, bind_ex_k, so_ok_k, so_ex_k, then_nx_k, then_rt_k, then_ex_k, then_bk_k, then_ct_k, addD_int_k, subD_k, negD_k, eqD_str_k, neD_str_k, cmpD_k, item_lst_k, item_tup_k, isnt_tup_k, isnt_non_k, is_tup_k, is_non_k, vals_nil_k, vals_cons_k, mulD_l, mulD_r, modD_of, divD_of, eqD_int, neD_int, List.map_cons, List.map_nil, List.cons_append, List.nil_append, eCallO_k, sTry_k, sRaise_k, eChain_k, itEnum_k, eLM_k, isL_lst_k, isL_fz_k, eDisp_k, eWix_k, sRetT_k, giveAll_nil_k, giveAll_cons_k, tupAt_k, eIsiIt_k, sAppIt_k, sPar_k, defSemO_k, gone_nx_k, gone_rt_k, val_tup_k, bind_no_k, so_no_k, then_no_k, sSetF_k, eNewT_k, eInT_k, eGet2T_k, isDtOwn_k, isDt_dT, isDt_fz, lookOT_fz, sPutT_k, eFld_k, eMeth_k, fldK_k, eRead_k, sClear_k, sIns_k, eSpot_k, sNever_k, val_dT_k, val_obj_k, tCold_k, cold_k, cold_nil_k, cold_none_k, cold_ow_k, coldO_k, e6, hv, el, e3, tupleD, hv3, e2, eo, -List.map_map]
    | cons r rest =>
      rw [hq] at e2 eo
      rw [hq] at hv2
      have hr0 := hok r (by rw [hq]; exact List.mem_cons_self)
      have er := fun rec s9 s10 s11 s0 s1 s2 s3 s4 s5 => rtO_of (ev_r (rest := rest.map fun r => .fz r.d) (P := P) (n := n) (rec := rec) (s0 := s0) (s1 := s1) (s2 := s2) (s3 := s3) (s4 := s4) (s5 := s5) (s9 := s9) (s10 := s10) (s11 := s11) (me := .fz .non) hr0)
      obtain ⟨e', he'⟩ := er (.tup false [.str "record", .tup false A, .bl false]) none none none (some (.ow (.fz (.lst (rs.map Row.d))))) (some (.ow (.fz (plc P)))) (some (.ow (.fz (.int n)))) (some (.ow (.fz (.lst ((rs.filter (under P)).map Row.d))))) (some (.ow (.fz (.lst ((uniq [] ((rs.filter (under P)).map (nameAfter P))).map .str))))) none
      simp only [List.map_cons, List.isEmpty_cons] at e2 eo hv2
      unfold markD at he'
      simp [g__law_entry, l__law_entry_5, at_k, put_k, hole_k, frz_k, own_tm_k, own_sl_k, own_me_k, look_tm_k, look_sl_k, look_me_k, fix_k, give_tm_k, give_sl_k, give_me_k, fixAll_nil_k, fixAll_cons_k, lookAll_nil_k, lookAll_cons_k, ownAll_nil_k, ownAll_cons_k, tree_tm_k, tree_sl_k, tree_me_k, gN_k, gNil_k, gCons_k, gT_k, isLst_k, isDkOwn_k, val_fz_k, val_lst_k, val_dK_k, defSem_k, eVar_k, eC_k, aNil_k, aCons_k, eV_k, eF_k, two_k, tOf_k, tAndD_k, tOrD_k, tNotD_k, eIf_k, eAndD_k, eOrD_k, eNotD_k, eCall_k, eLst_k, eTup_k, eTupK_k, sNil_k, sCons_k, sBreak_k, sCont_k, sIf_k, sSet_k, sRet_k, sRetN_k, sDrop_k, sAsg_k, itSeq_k, itRange1_k, itRange2_k, sFor_k, tYesD_k, eItem_k, pNone_k, pSome_k, eSlice_k, eM1_k, eGet1_k, eGet2_k, sPutK_k, sAppend_k, sSetI_k, eTupItems_k, bind_ok_k, bind_ex_k, so_ok_k, so_ex_k, then_nx_k, then_rt_k, then_ex_k, then_bk_k, then_ct_k, addD_int_k, subD_k, negD_k, eqD_str_k, neD_str_k, cmpD_k, item_lst_k, item_tup_k, isnt_tup_k, isnt_non_k, is_tup_k, is_non_k, vals_nil_k, vals_cons_k, mulD_l, mulD_r, modD_of, divD_of, eqD_int, neD_int, List.map_cons, List.map_nil, List.cons_append, List.nil_append, eCallO_k, sTry_k, sRaise_k, eChain_k, itEnum_k, eLM_k, isL_lst_k, isL_fz_k, eDisp_k, eWix_k, sRetT_k, giveAll_nil_k, giveAll_cons_k, tupAt_k, eIsiIt_k, sAppIt_k, sPar_k, defSemO_k, gone_nx_k, gone_rt_k, val_tup_k, bind_no_k, so_no_k, then_no_k, sSetF_k, eNewT_k, eInT_k, eGet2T_k, isDtOwn_k, isDt_dT, isDt_fz, lookOT_fz, sPutT_k, eFld_k, eMeth_k, fldK_k, eRead_k, sClear_k, sIns_k, eSpot_k, sNever_k, val_dT_k, val_obj_k, tCold_k, cold_k, cold_nil_k, cold_none_k, cold_ow_k, coldO_k, e6, hv, el, e3, tupleD, hv3, e2, eo, hv2, he', -List.map_map]
end K10

set_option Elab.async false
set_option linter.all false
set_option maxRecDepth 100000
set_option maxHeartbeats 4000000
namespace K10
open PySem L2 PySem.Spec PyProof.Rows DL
theorem x1 : ¬ (("record" : Str) = "row") := by decide +kernel
theorem x2 : ¬ (("record" : Str) = "inner") := by decide +kernel
theorem x3 : ¬ (("entry" : Str) = "row") := by decide +kernel
theorem x4 : ¬ (("entry" : Str) = "inner") := by decide +kernel
def spotD (r : D) (ks : List Key) (ds : List D) : D := .obj "Spot" ["row", "inner"] [r, .dK ks ds]
theorem spot_val {r : D} {ks : List Key} {os : List O} : (spotO r ks os).val = spotD r ks (vals os) := rfl
theorem look_row {r : D} {x : D} : lookL (["row", "inner"] : List Str) [r, x] "row" = some r := by simp [lookL]
theorem look_inner {r : D} {x : D} : lookL (["row", "inner"] : List Str) [r, x] "inner" = some x := by
  simp only [lookL]
  rw [if_neg row_inner]
  simp
theorem sem_entryN {φ : List D → Res} {ks : List Key} {ds : List D} {n : Int} {rec : D} (h : φ [spotD .non ks ds, .int n] = .ok (.fz rec)) : defSem 5 2 (g_entry φ) [spotD .non ks ds, .int n] = .ok (.fz rec) := by
  unfold spotD at h ⊢
  simp [g_entry, at_k, put_k, hole_k, frz_k, own_tm_k, own_sl_k, own_me_k, look_tm_k, look_sl_k, look_me_k, fix_k, give_tm_k, give_sl_k, give_me_k, fixAll_nil_k, fixAll_cons_k, lookAll_nil_k, lookAll_cons_k, ownAll_nil_k, ownAll_cons_k, tree_tm_k, tree_sl_k, tree_me_k, gN_k, gNil_k, gCons_k, gT_k, isLst_k, isDkOwn_k, val_fz_k, val_lst_k, val_dK_k, defSem_k, eVar_k, eC_k, aNil_k, aCons_k, eV_k, eF_k, two_k, tOf_k, tAndD_k, tOrD_k, tNotD_k, eIf_k, eAndD_k, eOrD_k, eNotD_k, eCall_k, eLst_k, eTup_k, eTupK_k, sNil_k, sCons_k, sBreak_k, sCont_k, sIf_k, sSet_k, sRet_k, sRetN_k, sDrop_k, sAsg_k, itSeq_k, itRange1_k, itRange2_k, sFor_k, tYesD_k, eItem_k, pNone_k, pSome_k, eSlice_k, eM1_k, eGet1_k, eGet2_k, sPutK_k, sAppend_k, sSetI_k, eTupItems_k, bind_ok_k, bind_ex_k, so_ok_k, so_ex_k, then_nx_k, then_rt_k, then_ex_k, then_bk_k, then_ct_k, addD_int_k, subD_k, negD_k, eqD_str_k, neD_str_k, cmpD_k, item_lst_k, item_tup_k, isnt_tup_k, isnt_non_k, is_tup_k, is_non_k, vals_nil_k, vals_cons_k, mulD_l, mulD_r, modD_of, divD_of, eqD_int, neD_int, List.map_cons, List.map_nil, List.cons_append, List.nil_append, eCallO_k, sTry_k, sRaise_k, eChain_k, itEnum_k, eLM_k, isL_lst_k, isL_fz_k, eDisp_k, eWix_k, sRetT_k, giveAll_nil_k, giveAll_cons_k, tupAt_k, eIsiIt_k, sAppIt_k, sPar_k, defSemO_k, gone_nx_k, gone_rt_k, val_tup_k, bind_no_k, so_no_k, then_no_k, sSetF_k, eNewT_k, eInT_k, eGet2T_k, isDtOwn_k, isDt_dT, isDt_fz, lookOT_fz, sPutT_k, eFld_k, eMeth_k, fldK_k, eRead_k, sClear_k, sIns_k, eSpot_k, sNever_k, val_dT_k, val_obj_k, tCold_k, cold_k, cold_nil_k, cold_none_k, cold_ow_k, coldO_k, look_row, x1, x2, h]
theorem sem_entryR {xs : List Str} {φ : List D → Res} {ks : List Key} {ds : List D} {n : Int} {rec : D} {r : Row} (hr : r.Ok xs) (h : φ [spotD r.d ks ds, .int n] = .ok (.fz rec)) : defSem 5 2 (g_entry φ) [spotD r.d ks ds, .int n] = .ok (.fz (leafD n r.p r rec)) := by
  obtain ⟨p, w, t⟩ := r
  rcases hr.kind with ⟨e1, e2⟩ | ⟨hw, d, e2, hd⟩
  · simp only at e1 e2
    subst e1 e2
    unfold spotD Row.d at h ⊢
    simp [g_entry, at_k, put_k, hole_k, frz_k, own_tm_k, own_sl_k, own_me_k, look_tm_k, look_sl_k, look_me_k, fix_k, give_tm_k, give_sl_k, give_me_k, fixAll_nil_k, fixAll_cons_k, lookAll_nil_k, lookAll_cons_k, ownAll_nil_k, ownAll_cons_k, tree_tm_k, tree_sl_k, tree_me_k, gN_k, gNil_k, gCons_k, gT_k, isLst_k, isDkOwn_k, val_fz_k, val_lst_k, val_dK_k, defSem_k, eVar_k, eC_k, aNil_k, aCons_k, eV_k, eF_k, two_k, tOf_k, tAndD_k, tOrD_k, tNotD_k, eIf_k, eAndD_k, eOrD_k, eNotD_k, eCall_k, eLst_k, eTup_k, eTupK_k, sNil_k, sCons_k, sBreak_k, sCont_k, sIf_k, sSet_k, sRet_k, sRetN_k, sDrop_k, sAsg_k, itSeq_k, itRange1_k, itRange2_k, sFor_k, tYesD_k, eItem_k, pNone_k, pSome_k, eSlice_k, eM1_k, eGet1_k, eGet2_k, sPutK_k, sAppend_k, sSetI_k, eTupItems_k, bind_ok_k, bind_ex_k, so_ok_k, so_ex_k, then_nx_k, then_rt_k, then_ex_k, then_bk_k, then_ct_k, addD_int_k, subD_k, negD_k, eqD_str_k, neD_str_k, cmpD_k, item_lst_k, item_tup_k, isnt_tup_k, isnt_non_k, is_tup_k, is_non_k, vals_nil_k, vals_cons_k, mulD_l, mulD_r, modD_of, divD_of, eqD_int, neD_int, List.map_cons, List.map_nil, List.cons_append, List.nil_append, eCallO_k, sTry_k, sRaise_k, eChain_k, itEnum_k, eLM_k, isL_lst_k, isL_fz_k, eDisp_k, eWix_k, sRetT_k, giveAll_nil_k, giveAll_cons_k, tupAt_k, eIsiIt_k, sAppIt_k, sPar_k, defSemO_k, gone_nx_k, gone_rt_k, val_tup_k, bind_no_k, so_no_k, then_no_k, sSetF_k, eNewT_k, eInT_k, eGet2T_k, isDtOwn_k, isDt_dT, isDt_fz, lookOT_fz, sPutT_k, eFld_k, eMeth_k, fldK_k, eRead_k, sClear_k, sIns_k, eSpot_k, sNever_k, val_dT_k, val_obj_k, tCold_k, cold_k, cold_nil_k, cold_none_k, cold_ow_k, coldO_k, look_row, x1, x2, h, atI_0, atI_1, leafD, t0, markD]
  · simp only at hw e2
    subst e2
    unfold spotD Row.d at h ⊢
    rcases hw with rfl | rfl | rfl | rfl
    · simp [g_entry, at_k, put_k, hole_k, frz_k, own_tm_k, own_sl_k, own_me_k, look_tm_k, look_sl_k, look_me_k, fix_k, give_tm_k, give_sl_k, give_me_k, fixAll_nil_k, fixAll_cons_k, lookAll_nil_k, lookAll_cons_k, ownAll_nil_k, ownAll_cons_k, tree_tm_k, tree_sl_k, tree_me_k, gN_k, gNil_k, gCons_k, gT_k, isLst_k, isDkOwn_k, val_fz_k, val_lst_k, val_dK_k, defSem_k, eVar_k, eC_k, aNil_k, aCons_k, eV_k, eF_k, two_k, tOf_k, tAndD_k, tOrD_k, tNotD_k, eIf_k, eAndD_k, eOrD_k, eNotD_k, eCall_k, eLst_k, eTup_k, eTupK_k, sNil_k, sCons_k, sBreak_k, sCont_k, sIf_k, sSet_k, sRet_k, sRetN_k, sDrop_k, sAsg_k, itSeq_k, itRange1_k, itRange2_k, sFor_k, tYesD_k, eItem_k, pNone_k, pSome_k, eSlice_k, eM1_k, eGet1_k, eGet2_k, sPutK_k, sAppend_k, sSetI_k, eTupItems_k, bind_ok_k, bind_ex_k, so_ok_k, so_ex_k, then_nx_k, then_rt_k, then_ex_k, then_bk_k, then_ct_k, addD_int_k, subD_k, negD_k, eqD_str_k, neD_str_k, cmpD_k, item_lst_k, item_tup_k, isnt_tup_k, isnt_non_k, is_tup_k, is_non_k, vals_nil_k, vals_cons_k, mulD_l, mulD_r, modD_of, divD_of, eqD_int, neD_int, List.map_cons, List.map_nil, List.cons_append, List.nil_append, eCallO_k, sTry_k, sRaise_k, eChain_k, itEnum_k, eLM_k, isL_lst_k, isL_fz_k, eDisp_k, eWix_k, sRetT_k, giveAll_nil_k, giveAll_cons_k, tupAt_k, eIsiIt_k, sAppIt_k, sPar_k, defSemO_k, gone_nx_k, gone_rt_k, val_tup_k, bind_no_k, so_no_k, then_no_k, sSetF_k, eNewT_k, eInT_k, eGet2T_k, isDtOwn_k, isDt_dT, isDt_fz, lookOT_fz, sPutT_k, eFld_k, eMeth_k, fldK_k, eRead_k, sClear_k, sIns_k, eSpot_k, sNever_k, val_dT_k, val_obj_k, tCold_k, cold_k, cold_nil_k, cold_none_k, cold_ow_k, coldO_k, look_row, x1, x2, h, atI_0, atI_1, atI_2, leafD, t0, markD, w1, v1]
    · simp [g_entry, at_k, put_k, hole_k, frz_k, own_tm_k, own_sl_k, own_me_k, look_tm_k, look_sl_k, look_me_k, fix_k, give_tm_k, give_sl_k, give_me_k, fixAll_nil_k, fixAll_cons_k, lookAll_nil_k, lookAll_cons_k, ownAll_nil_k, ownAll_cons_k, tree_tm_k, tree_sl_k, tree_me_k, gN_k, gNil_k, gCons_k, gT_k, isLst_k, isDkOwn_k, val_fz_k, val_lst_k, val_dK_k, defSem_k, eVar_k, eC_k, aNil_k, aCons_k, eV_k, eF_k, two_k, tOf_k, tAndD_k, tOrD_k, tNotD_k, eIf_k, eAndD_k, eOrD_k, eNotD_k, eCall_k, eLst_k, eTup_k, eTupK_k, sNil_k, sCons_k, sBreak_k, sCont_k, sIf_k, sSet_k, sRet_k, sRetN_k, sDrop_k, sAsg_k, itSeq_k, itRange1_k, itRange2_k, sFor_k, tYesD_k, eItem_k, pNone_k, pSome_k, eSlice_k, eM1_k, eGet1_k, eGet2_k, sPutK_k, sAppend_k, sSetI_k, eTupItems_k, bind_ok_k, bind_ex_k, so_ok_k, so_ex_k, then_nx_k, then_rt_k, then_ex_k, then_bk_k, then_ct_k, addD_int_k, subD_k, negD_k, eqD_str_k, neD_str_k, cmpD_k, item_lst_k, item_tup_k, isnt_tup_k, isnt_non_k, is_tup_k, is_non_k, vals_nil_k, vals_cons_k, mulD_l, mulD_r, modD_of, divD_of, eqD_int, neD_int, List.map_cons, List.map_nil, List.cons_append, List.nil_append, eCallO_k, sTry_k, sRaise_k, eChain_k, itEnum_k, eLM_k, isL_lst_k, isL_fz_k, eDisp_k, eWix_k, sRetT_k, giveAll_nil_k, giveAll_cons_k, tupAt_k, eIsiIt_k, sAppIt_k, sPar_k, defSemO_k, gone_nx_k, gone_rt_k, val_tup_k, bind_no_k, so_no_k, then_no_k, sSetF_k, eNewT_k, eInT_k, eGet2T_k, isDtOwn_k, isDt_dT, isDt_fz, lookOT_fz, sPutT_k, eFld_k, eMeth_k, fldK_k, eRead_k, sClear_k, sIns_k, eSpot_k, sNever_k, val_dT_k, val_obj_k, tCold_k, cold_k, cold_nil_k, cold_none_k, cold_ow_k, coldO_k, look_row, x1, x2, h, atI_0, atI_1, atI_2, leafD, t0, markD, w2, w5, v2, v5]
    · simp [g_entry, at_k, put_k, hole_k, frz_k, own_tm_k, own_sl_k, own_me_k, look_tm_k, look_sl_k, look_me_k, fix_k, give_tm_k, give_sl_k, give_me_k, fixAll_nil_k, fixAll_cons_k, lookAll_nil_k, lookAll_cons_k, ownAll_nil_k, ownAll_cons_k, tree_tm_k, tree_sl_k, tree_me_k, gN_k, gNil_k, gCons_k, gT_k, isLst_k, isDkOwn_k, val_fz_k, val_lst_k, val_dK_k, defSem_k, eVar_k, eC_k, aNil_k, aCons_k, eV_k, eF_k, two_k, tOf_k, tAndD_k, tOrD_k, tNotD_k, eIf_k, eAndD_k, eOrD_k, eNotD_k, eCall_k, eLst_k, eTup_k, eTupK_k, sNil_k, sCons_k, sBreak_k, sCont_k, sIf_k, sSet_k, sRet_k, sRetN_k, sDrop_k, sAsg_k, itSeq_k, itRange1_k, itRange2_k, sFor_k, tYesD_k, eItem_k, pNone_k, pSome_k, eSlice_k, eM1_k, eGet1_k, eGet2_k, sPutK_k, sAppend_k, sSetI_k, eTupItems_k, bind_ok_k, bind_ex_k, so_ok_k, so_ex_k, then_nx_k, then_rt_k, then_ex_k, then_bk_k, then_ct_k, addD_int_k, subD_k, negD_k, eqD_str_k, neD_str_k, cmpD_k, item_lst_k, item_tup_k, isnt_tup_k, isnt_non_k, is_tup_k, is_non_k, vals_nil_k, vals_cons_k, mulD_l, mulD_r, modD_of, divD_of, eqD_int, neD_int, List.map_cons, List.map_nil, List.cons_append, List.nil_append, eCallO_k, sTry_k, sRaise_k, eChain_k, itEnum_k, eLM_k, isL_lst_k, isL_fz_k, eDisp_k, eWix_k, sRetT_k, giveAll_nil_k, giveAll_cons_k, tupAt_k, eIsiIt_k, sAppIt_k, sPar_k, defSemO_k, gone_nx_k, gone_rt_k, val_tup_k, bind_no_k, so_no_k, then_no_k, sSetF_k, eNewT_k, eInT_k, eGet2T_k, isDtOwn_k, isDt_dT, isDt_fz, lookOT_fz, sPutT_k, eFld_k, eMeth_k, fldK_k, eRead_k, sClear_k, sIns_k, eSpot_k, sNever_k, val_dT_k, val_obj_k, tCold_k, cold_k, cold_nil_k, cold_none_k, cold_ow_k, coldO_k, look_row, x1, x2, h, atI_0, atI_1, atI_2, leafD, t0, markD, w3, w6, w8, wa, v3, v6, v8, va]
    · simp [g_entry, at_k, put_k, hole_k, frz_k, own_tm_k, own_sl_k, own_me_k, look_tm_k, look_sl_k, look_me_k, fix_k, give_tm_k, give_sl_k, give_me_k, fixAll_nil_k, fixAll_cons_k, lookAll_nil_k, lookAll_cons_k, ownAll_nil_k, ownAll_cons_k, tree_tm_k, tree_sl_k, tree_me_k, gN_k, gNil_k, gCons_k, gT_k, isLst_k, isDkOwn_k, val_fz_k, val_lst_k, val_dK_k, defSem_k, eVar_k, eC_k, aNil_k, aCons_k, eV_k, eF_k, two_k, tOf_k, tAndD_k, tOrD_k, tNotD_k, eIf_k, eAndD_k, eOrD_k, eNotD_k, eCall_k, eLst_k, eTup_k, eTupK_k, sNil_k, sCons_k, sBreak_k, sCont_k, sIf_k, sSet_k, sRet_k, sRetN_k, sDrop_k, sAsg_k, itSeq_k, itRange1_k, itRange2_k, sFor_k, tYesD_k, eItem_k, pNone_k, pSome_k, eSlice_k, eM1_k, eGet1_k, eGet2_k, sPutK_k, sAppend_k, sSetI_k, eTupItems_k, bind_ok_k, bind_ex_k, so_ok_k, so_ex_k, then_nx_k, then_rt_k, then_ex_k, then_bk_k, then_ct_k, addD_int_k, subD_k, negD_k, eqD_str_k, neD_str_k, cmpD_k, item_lst_k, item_tup_k, isnt_tup_k, isnt_non_k, is_tup_k, is_non_k, vals_nil_k, vals_cons_k, mulD_l, mulD_r, modD_of, divD_of, eqD_int, neD_int, List.map_cons, List.map_nil, List.cons_append, List.nil_append, eCallO_k, sTry_k, sRaise_k, eChain_k, itEnum_k, eLM_k, isL_lst_k, isL_fz_k, eDisp_k, eWix_k, sRetT_k, giveAll_nil_k, giveAll_cons_k, tupAt_k, eIsiIt_k, sAppIt_k, sPar_k, defSemO_k, gone_nx_k, gone_rt_k, val_tup_k, bind_no_k, so_no_k, then_no_k, sSetF_k, eNewT_k, eInT_k, eGet2T_k, isDtOwn_k, isDt_dT, isDt_fz, lookOT_fz, sPutT_k, eFld_k, eMeth_k, fldK_k, eRead_k, sClear_k, sIns_k, eSpot_k, sNever_k, val_dT_k, val_obj_k, tCold_k, cold_k, cold_nil_k, cold_none_k, cold_ow_k, coldO_k, look_row, x1, x2, h, atI_0, atI_1, atI_2, leafD, t0, markD, w4, w7, w9, wb, v4, v7, v9]
theorem pairs_map {g : Str → D} : ∀ hs : List Str, pairsD (hs.map Sum.inr) (hs.map g) = hs.map fun x => DL.pairD (.inr x) (g x)
  | [] => rfl
  | x :: hs => by
    show DL.pairD (.inr x) (g x) :: pairsD (hs.map Sum.inr) (hs.map g) = _
    rw [pairs_map hs]
    rfl
theorem sem_recordN {φ : List D → Res} {r : D} {hs : List Str} {g ent : Str → D} {n : Int} (hl : hs.length ≤ 1000) (hg : ∀ x ∈ hs, ∃ r' ks ds, g x = spotD r' ks ds) (h : ∀ x ∈ hs, φ [g x, .int n] = .ok (.fz (ent x))) :
    defSem 4 2 (g_record φ) [spotD r (hs.map .inr) (hs.map g), .int n] = .ok (.fz (recD (hs.map fun x => (x, ent x)))) := by
  have e0 : c_record_1 φ ⟨[some (.ow (.fz (spotD r (hs.map .inr) (hs.map g)))), some (.ow (.fz (.int n))), none, none], .fz .non⟩ =
      .ok (.tm (.lst (hs.filterMap fun x => some (O.fz (.tup false [.str x, ent x]))))) ⟨[some (.ow (.fz (spotD r (hs.map .inr) (hs.map g)))), some (.ow (.fz (.int n))), none, none], .fz .non⟩ := by
    unfold c_record_1 eCompI
    have ek : En.fldK ⟨[some (.ow (.fz (spotD r (hs.map .inr) (hs.map g)))), some (.ow (.fz (.int n))), none, none], .fz .non⟩ 0 "Spot" "inner" = some (hs.map .inr, hs.map g) := by
      simp [fldK_k, spotD, look_inner]
    rw [ek]
    simp only
    rw [pairs_map]
    show compOut (cloop _ _ _ _ _ [] ⟨[some (.ow (.fz (spotD r (hs.map .inr) (hs.map g)))), some (.ow (.fz (.int n))), none, none], .fz .non⟩) = _
    rw [cloop_rows (fun x => DL.pairD (.inr x) (g x)) (fun x => some (O.fz (.tup false [.str x, ent x]))) (fun x hx => ?_) (by simpa using by omega), List.nil_append]
    · rfl
    · have h1 := h x hx
      obtain ⟨r', ks', ds', hgx⟩ := hg x hx
      rw [hgx] at h1
      unfold spotD at h1
      rw [hgx]
      unfold DL.pairD
      generalize spotD r (hs.map .inr) (hs.map g) = S
      simp [turn1, En.wipe, at_k, put_k, hole_k, frz_k, own_tm_k, own_sl_k, own_me_k, look_tm_k, look_sl_k, look_me_k, fix_k, give_tm_k, give_sl_k, give_me_k, fixAll_nil_k, fixAll_cons_k, lookAll_nil_k, lookAll_cons_k, ownAll_nil_k, ownAll_cons_k, tree_tm_k, tree_sl_k, tree_me_k, gN_k, gNil_k, gCons_k, gT_k, isLst_k, isDkOwn_k, val_fz_k, val_lst_k, val_dK_k, defSem_k, eVar_k, eC_k, aNil_k, aCons_k, eV_k, eF_k, two_k, tOf_k, tAndD_k, tOrD_k, tNotD_k, eIf_k, eAndD_k, eOrD_k, eNotD_k, eCall_k, eLst_k, eTup_k, eTupK_k, sNil_k, sCons_k, sBreak_k, sCont_k, sIf_k, sSet_k, sRet_k, sRetN_k, sDrop_k, sAsg_k, itSeq_k, itRange1_k, itRange2_k, sFor_k, tYesD_k, eItem_k, pNone_k, pSome_k, eSlice_k, eM1_k, eGet1_k, eGet2_k, sPutK_k, sAppend_k, sSetI_k, eTupItems_k, bind_ok_k, bind_ex_k, so_ok_k, so_ex_k, then_nx_k, then_rt_k, then_ex_k, then_bk_k, then_ct_k, addD_int_k, subD_k, negD_k, eqD_str_k, neD_str_k, cmpD_k, item_lst_k, item_tup_k, isnt_tup_k, isnt_non_k, is_tup_k, is_non_k, vals_nil_k, vals_cons_k, mulD_l, mulD_r, modD_of, divD_of, eqD_int, neD_int, List.map_cons, List.map_nil, List.cons_append, List.nil_append, eCallO_k, sTry_k, sRaise_k, eChain_k, itEnum_k, eLM_k, isL_lst_k, isL_fz_k, eDisp_k, eWix_k, sRetT_k, giveAll_nil_k, giveAll_cons_k, tupAt_k, eIsiIt_k, sAppIt_k, sPar_k, defSemO_k, gone_nx_k, gone_rt_k, val_tup_k, bind_no_k, so_no_k, then_no_k, sSetF_k, eNewT_k, eInT_k, eGet2T_k, isDtOwn_k, isDt_dT, isDt_fz, lookOT_fz, sPutT_k, eFld_k, eMeth_k, fldK_k, eRead_k, sClear_k, sIns_k, eSpot_k, sNever_k, val_dT_k, val_obj_k, tCold_k, cold_k, cold_nil_k, cold_none_k, cold_ow_k, coldO_k, spotD, x3, x4, h1]
  have e1 : hs.filterMap (fun x => some (O.fz (.tup false [.str x, ent x]))) = (hs.map fun x => D.tup false [.str x, ent x]).map .fz := by
    rw [List.map_map]
    clear e0 h hg hl
    induction hs with
    | nil => rfl
    | cons x hs ih => rw [List.map_cons, List.filterMap_cons, ih]; rfl
  rw [e1] at e0
  have hv := vals_fz (hs.map fun x => D.tup false [.str x, ent x])
  have er : recD (hs.map fun x => (x, ent x)) = .tup false [.str "record", .tup false (hs.map fun x => D.tup false [.str x, ent x]), .bl false] := by
    unfold recD; rw [List.map_map]; rfl
  rw [er]
  simp [g_record, at_k, put_k, hole_k, frz_k, own_tm_k, own_sl_k, own_me_k, look_tm_k, look_sl_k, look_me_k, fix_k, give_tm_k, give_sl_k, give_me_k, fixAll_nil_k, fixAll_cons_k, lookAll_nil_k, lookAll_cons_k, ownAll_nil_k, ownAll_cons_k, tree_tm_k, tree_sl_k, tree_me_k, gN_k, gNil_k, gCons_k, gT_k, isLst_k, isDkOwn_k, val_fz_k, val_lst_k, val_dK_k, defSem_k, eVar_k, eC_k, aNil_k, aCons_k, eV_k, eF_k, two_k, tOf_k, tAndD_k, tOrD_k, tNotD_k, eIf_k, eAndD_k, eOrD_k, eNotD_k, eCall_k, eLst_k, eTup_k, eTupK_k, sNil_k, sCons_k, sBreak_k, sCont_k, sIf_k, sSet_k, sRet_k, sRetN_k, sDrop_k, sAsg_k, itSeq_k, itRange1_k, itRange2_k, sFor_k, tYesD_k, eItem_k, pNone_k, pSome_k, eSlice_k, eM1_k, eGet1_k, eGet2_k, sPutK_k, sAppend_k, sSetI_k, eTupItems_k, bind_ok_k, bind_ex_k, so_ok_k, so_ex_k, then_nx_k, then_rt_k, then_ex_k, then_bk_k, then_ct_k, addD_int_k, subD_k, negD_k, eqD_str_k, neD_str_k, cmpD_k, item_lst_k, item_tup_k, isnt_tup_k, isnt_non_k, is_tup_k, is_non_k, vals_nil_k, vals_cons_k, mulD_l, mulD_r, modD_of, divD_of, eqD_int, neD_int, List.map_cons, List.map_nil, List.cons_append, List.nil_append, eCallO_k, sTry_k, sRaise_k, eChain_k, itEnum_k, eLM_k, isL_lst_k, isL_fz_k, eDisp_k, eWix_k, sRetT_k, giveAll_nil_k, giveAll_cons_k, tupAt_k, eIsiIt_k, sAppIt_k, sPar_k, defSemO_k, gone_nx_k, gone_rt_k, val_tup_k, bind_no_k, so_no_k, then_no_k, sSetF_k, eNewT_k, eInT_k, eGet2T_k, isDtOwn_k, isDt_dT, isDt_fz, lookOT_fz, sPutT_k, eFld_k, eMeth_k, fldK_k, eRead_k, sClear_k, sIns_k, eSpot_k, sNever_k, val_dT_k, val_obj_k, tCold_k, cold_k, cold_nil_k, cold_none_k, cold_ow_k, coldO_k, e0, hv, tupleD, -List.map_map]
end K10

set_option Elab.async false
set_option linter.all false
set_option maxRecDepth 100000
set_option maxHeartbeats 4000000
namespace K10
open PySem L2 PySem.Spec PyProof.Rows DL
theorem uniq_acc {x : Str} : ∀ {ns acc : List Str}, x ∈ acc → x ∈ uniq acc ns
  | [], acc, h => h
  | n :: ns, acc, h => by
    unfold uniq
    refine uniq_acc ?_
    split
    · exact h
    · exact List.mem_append_left _ h
theorem mem_uniq {x : Str} : ∀ {ns acc : List Str}, x ∈ ns → x ∈ uniq acc ns
  | n :: ns, acc, h => by
    unfold uniq
    rcases List.mem_cons.mp h with q | q
    · subst q
      refine uniq_acc ?_
      split
      · assumption
      · exact List.mem_append_right _ (List.mem_singleton.mpr rfl)
    · exact mem_uniq q
theorem uniq_snoc {x : Str} : ∀ {ns acc : List Str}, uniq acc (ns ++ [x]) = if x ∈ uniq acc ns then uniq acc ns else uniq acc ns ++ [x]
  | [], acc => rfl
  | n :: ns, acc => by
    rw [List.cons_append]
    unfold uniq
    rw [uniq_snoc]
theorem uniq_nd : ∀ {ns acc : List Str}, acc.Nodup → (uniq acc ns).Nodup
  | [], acc, h => h
  | n :: ns, acc, h => by
    unfold uniq
    refine uniq_nd ?_
    split
    · exact h
    · rename_i q
      exact List.nodup_append.mpr ⟨h, by simp, fun a ha b hb => by rw [List.mem_singleton.mp hb]; exact fun z => q (by rw [← z]; exact ha)⟩
def headsR (rs : List Row) (P : List Str) : List Str := uniq [] ((rs.filter (under P)).map (nameAfter P))
def rowAt (rs : List Row) (P : List Str) : D := match rs.filter (at_ P) with
  | [] => .non
  | r :: _ => r.d
def treeO : Nat → List Row → List Str → O
  | 0, _, _ => spot0
  | f + 1, rs, P => spotO (rowAt rs P) ((headsR rs P).map .inr) ((headsR rs P).map fun x => treeO f rs (P ++ [x]))
theorem pre_cut {p P : List Str} {y : Str} (h : p.take (P ++ [y]).length = P ++ [y]) : p.take P.length = P := by
  have := congrArg (List.take P.length) h
  rw [List.take_take, List.length_append, List.length_singleton, Nat.min_eq_left (by omega), List.take_left'] at this
  · exact this
  · rfl
theorem under_pre {P : List Str} {r : Row} (h : under P r = true) : r.p.take P.length = P := by
  unfold under at h
  simp only [Bool.and_eq_true, decide_eq_true_eq] at h
  exact h.1
theorem at_pre {P : List Str} {r : Row} (h : at_ P r = true) : r.p.take P.length = P := by
  unfold at_ at h
  rw [decide_eq_true_eq] at h
  rw [h, List.take_length]
theorem filt_snoc_no {q : Row → Bool} {rs : List Row} {r : Row} (h : q r = false) : (rs ++ [r]).filter q = rs.filter q := by
  rw [List.filter_append, List.filter_cons, h]; simp
theorem filt_snoc_yes {q : Row → Bool} {rs : List Row} {r : Row} (h : q r = true) : (rs ++ [r]).filter q = rs.filter q ++ [r] := by
  rw [List.filter_append, List.filter_cons, h]; simp
theorem no_under {P : List Str} {r : Row} (h : r.p.take P.length ≠ P) : under P r = false := by
  cases z : under P r with
  | false => rfl
  | true => exact absurd (under_pre z) h
theorem no_at {P : List Str} {r : Row} (h : r.p.take P.length ≠ P) : at_ P r = false := by
  cases z : at_ P r with
  | false => rfl
  | true => exact absurd (at_pre z) h
theorem tree_skip {rs : List Row} {r : Row} : ∀ (f : Nat) (P : List Str), r.p.take P.length ≠ P → treeO f (rs ++ [r]) P = treeO f rs P
  | 0, _, _ => rfl
  | f + 1, P, h => by
    have h1 : headsR (rs ++ [r]) P = headsR rs P := by unfold headsR; rw [filt_snoc_no (no_under h)]
    have h2 : rowAt (rs ++ [r]) P = rowAt rs P := by unfold rowAt; rw [filt_snoc_no (no_at h)]
    unfold treeO
    rw [h1, h2]
    congr 1
    apply List.map_congr_left
    intro y _
    exact tree_skip f (P ++ [y]) fun z => h (pre_cut z)
theorem pre_under {P : List Str} {r : Row} {x : Str} (h : r.p.take (P ++ [x]).length = P ++ [x]) : under P r = true ∧ nameAfter P r = x := by
  have h1 := pre_cut h
  have hl : P.length < r.p.length := by
    have := congrArg List.length h
    rw [List.length_take, List.length_append, List.length_singleton] at this
    omega
  have hx : r.p[P.length]? = some x := by
    have := congrArg (fun l => l[P.length]?) h
    rw [List.getElem?_take, if_pos (by rw [List.length_append, List.length_singleton]; omega)] at this
    rw [this]
    simp
  constructor
  · unfold under
    simp only [Bool.and_eq_true, decide_eq_true_eq, Bool.not_eq_true', decide_eq_false_iff_not]
    refine ⟨h1, fun z => ?_⟩
    rw [z] at hl
    exact absurd hl (Nat.lt_irrefl _)
  · unfold nameAfter
    rw [hx]; rfl
theorem not_head {rs : List Row} {P : List Str} {x : Str} (h : x ∉ headsR rs P) : ∀ r ∈ rs, r.p.take (P ++ [x]).length ≠ P ++ [x] := fun r hr z => by
  obtain ⟨h1, h2⟩ := pre_under z
  exact h (mem_uniq (List.mem_map.mpr ⟨r, List.mem_filter.mpr ⟨hr, h1⟩, h2⟩))
theorem tree_none {rs : List Row} {f : Nat} {P : List Str} (h : ∀ r ∈ rs, r.p.take P.length ≠ P) : treeO (f + 1) rs P = spot0 := by
  have h1 : rs.filter (under P) = [] := List.filter_eq_nil_iff.mpr fun r hr => by rw [no_under (h r hr)]; decide
  have h2 : rs.filter (at_ P) = [] := List.filter_eq_nil_iff.mpr fun r hr => by rw [no_at (h r hr)]; decide
  have h3 : headsR rs P = [] := by unfold headsR; rw [h1]; rfl
  unfold treeO rowAt
  rw [h2, h3]
  rfl
/-! ### a row put -/
theorem idx_some {x : Str} {g : Str → O} {N : O} : ∀ {us : List Str}, us.Nodup → x ∈ us → ∃ i, idxK (us.map .inr) (.inr x) = some i ∧ (us.map g)[i]? = some (g x) ∧ (us.map g).set i N = us.map fun y => if y = x then N else g y
  | a :: us, nd, h => by
    rw [List.nodup_cons] at nd
    by_cases e : a = x
    · subst e
      refine ⟨0, by simp [idxK], rfl, ?_⟩
      rw [List.map_cons, List.map_cons, List.set_cons_zero, if_pos rfl]
      congr 1
      apply List.map_congr_left
      intro y hy
      rw [if_neg fun z => nd.1 (by rw [← z]; exact hy)]
    · rcases List.mem_cons.mp h with q | q
      · exact absurd q.symm e
      · obtain ⟨i, h1, h2, h3⟩ := idx_some (g := g) (N := N) nd.2 q
        refine ⟨i + 1, ?_, by simpa using h2, ?_⟩
        · have ne : ¬ ((Sum.inr a : Key) = Sum.inr x) := fun z => e (Sum.inr.inj z)
          simp only [List.map_cons, idxK, if_neg ne, h1]
          rfl
        · rw [List.map_cons, List.map_cons, List.set_cons_succ, h3, if_neg e]
theorem idx_none {x : Str} : ∀ {us : List Str}, x ∉ us → idxK (us.map .inr) (.inr x) = none
  | [], _ => rfl
  | a :: us, h => by
    have ne : ¬ ((Sum.inr a : Key) = Sum.inr x) := fun z => h (by rw [Sum.inr.inj z]; exact List.mem_cons_self)
    simp only [List.map_cons, idxK, if_neg ne, idx_none fun z => h (List.mem_cons_of_mem _ z)]
    rfl
theorem ins_nil {d r0 : D} {ks : List Key} {os : List O} : insT [] d (spotO r0 ks os) = some (spotO d ks os) := by
  unfold insT descend spotO
  simp
theorem ins_cons {d r0 : D} {x : Str} {ds : List D} {ks : List Key} {os : List O} {T1 : O} {N : O} (hk : ks.length < 1000) (h : (grow (.inr x) ks os).2.1[(grow (.inr x) ks os).2.2]? = some T1) (hi : insT ds d T1 = some N) :
    insT (.str x :: ds) d (spotO r0 ks os) = some (spotO r0 (grow (.inr x) ks os).1 ((grow (.inr x) ks os).2.1.set (grow (.inr x) ks os).2.2 N)) := by
  unfold insT at hi ⊢
  split at hi
  · rename_i cls fs r1 ks1 os1 K hde
    split at hi
    · rename_i hc
      cases hi
      have e1 : descend (.str x :: ds) (spotO r0 ks os) = some (.obj cls fs [.fz r1, .dK ks1 os1], fun N => spotO r0 (grow (.inr x) ks os).1 ((grow (.inr x) ks os).2.1.set (grow (.inr x) ks os).2.2 (K N))) := by
        unfold spotO
        simp only [descend]
        rw [if_pos ⟨trivial, trivial, hk⟩, h]
        simp only [hde]
        rfl
      rw [e1]
      simp only
      rw [if_pos hc]
    · cases hi
  · cases hi
theorem ins_tree {rs : List Row} {r : Row} (hn : ∀ s ∈ rs, s.p ≠ r.p) (hl : rs.length < 1000) : ∀ (f : Nat) (q P : List Str), r.p = P ++ q → q.length ≤ f → insT (q.map .str) r.d (treeO (f + 1) rs P) = some (treeO (f + 1) (rs ++ [r]) P)
  | f, [], P, e, _ => by
    rw [List.append_nil] at e
    have h1 : under P r = false := by unfold under; rw [e]; simp
    have h2 : at_ P r = true := by unfold at_; rw [e]; simp
    have h3 : rs.filter (at_ P) = [] := List.filter_eq_nil_iff.mpr fun s hs => by
      unfold at_
      rw [decide_eq_true_eq, ← e]
      exact hn s hs
    have e1 : headsR (rs ++ [r]) P = headsR rs P := by unfold headsR; rw [filt_snoc_no h1]
    have e2 : rowAt (rs ++ [r]) P = r.d := by unfold rowAt; rw [filt_snoc_yes h2, h3]; rfl
    rw [List.map_nil]
    unfold treeO
    rw [ins_nil, e1, e2]
    congr 2
    apply List.map_congr_left
    intro y _
    refine (tree_skip f (P ++ [y]) fun z => ?_).symm
    have := congrArg List.length z
    rw [List.length_take, List.length_append, List.length_singleton, e] at this
    omega
  | 0, x :: q, P, _, hq => absurd hq (by rw [List.length_cons]; omega)
  | f + 1, x :: q, P, e, hq => by
    rw [List.length_cons] at hq
    have hp : r.p.take (P ++ [x]).length = P ++ [x] := by
      have e' : r.p = (P ++ [x]) ++ q := by rw [e, List.append_assoc]; rfl
      rw [e', List.take_left']
      rfl
    obtain ⟨hu, hx⟩ := pre_under hp
    have ha : at_ P r = false := by
      unfold at_
      rw [decide_eq_false_iff_not, e]
      intro z
      have := congrArg List.length z
      rw [List.length_append, List.length_cons] at this
      omega
    have ih := ins_tree hn hl f q (P ++ [x]) (by rw [e, List.append_assoc]; rfl) (by omega)
    have e1 : headsR (rs ++ [r]) P = if x ∈ headsR rs P then headsR rs P else headsR rs P ++ [x] := by
      unfold headsR
      rw [filt_snoc_yes hu, List.map_append, List.map_singleton, hx, uniq_snoc]
    have e2 : rowAt (rs ++ [r]) P = rowAt rs P := by unfold rowAt; rw [filt_snoc_no ha]
    have nd : (headsR rs P).Nodup := uniq_nd List.nodup_nil
    have hlen : (headsR rs P).length < 1000 := by
      have := uniq_len (ns := (rs.filter (under P)).map (nameAfter P)) (acc := [])
      rw [List.length_map, List.length_nil] at this
      have h2 := List.length_filter_le (under P) rs
      unfold headsR
      omega
    have others : ∀ y, y ≠ x → treeO (f + 1) (rs ++ [r]) (P ++ [y]) = treeO (f + 1) rs (P ++ [y]) := fun y hy => tree_skip (f + 1) (P ++ [y]) fun z => by
      obtain ⟨_, k⟩ := pre_under z
      exact hy (k.symm.trans hx)
    rw [List.map_cons]
    show insT (.str x :: q.map .str) r.d (treeO (f + 1 + 1) rs P) = some (treeO (f + 1 + 1) (rs ++ [r]) P)
    rw [show treeO (f + 1 + 1) rs P = spotO (rowAt rs P) ((headsR rs P).map .inr) ((headsR rs P).map fun x => treeO (f + 1) rs (P ++ [x])) from rfl,
      show treeO (f + 1 + 1) (rs ++ [r]) P = spotO (rowAt (rs ++ [r]) P) ((headsR (rs ++ [r]) P).map .inr) ((headsR (rs ++ [r]) P).map fun x => treeO (f + 1) (rs ++ [r]) (P ++ [x])) from rfl, e1, e2]
    by_cases hm : x ∈ headsR rs P
    · rw [if_pos hm]
      obtain ⟨i, i1, i2, i3⟩ := idx_some (g := fun x => treeO (f + 1) rs (P ++ [x])) (N := treeO (f + 1) (rs ++ [r]) (P ++ [x])) nd hm
      have eg : grow (.inr x) ((headsR rs P).map .inr) ((headsR rs P).map fun x => treeO (f + 1) rs (P ++ [x])) = ((headsR rs P).map .inr, (headsR rs P).map fun x => treeO (f + 1) rs (P ++ [x]), i) := by unfold grow; rw [i1]
      rw [ins_cons (T1 := treeO (f + 1) rs (P ++ [x])) (N := treeO (f + 1) (rs ++ [r]) (P ++ [x])) (by rw [List.length_map]; exact hlen) (by rw [eg]; exact i2) ih, eg]
      simp only
      rw [i3]
      congr 2
      apply List.map_congr_left
      intro y _
      by_cases z : y = x
      · rw [if_pos z, z]
      · rw [if_neg z, others y z]
    · rw [if_neg hm]
      have h0 : treeO (f + 1) rs (P ++ [x]) = spot0 := tree_none (not_head hm)
      have eg : grow (.inr x) ((headsR rs P).map .inr) ((headsR rs P).map fun x => treeO (f + 1) rs (P ++ [x])) = ((headsR rs P).map .inr ++ [.inr x], ((headsR rs P).map fun x => treeO (f + 1) rs (P ++ [x])) ++ [spot0], ((headsR rs P).map fun x => (Sum.inr x : Key)).length) := by unfold grow; rw [idx_none hm]
      rw [ins_cons (T1 := spot0) (N := treeO (f + 1) (rs ++ [r]) (P ++ [x])) (by rw [List.length_map]; exact hlen) (by
        rw [eg]
        simp only
        rw [List.length_map, List.getElem?_append_right (by rw [List.length_map]; exact Nat.le_refl _), List.length_map, Nat.sub_self]
        rfl) (by rw [← h0]; exact ih), eg]
      simp only
      rw [List.map_append, List.map_append]
      congr 2
      rw [List.length_map, List.set_append_right _ _ (by rw [List.length_map]; exact Nat.le_refl _), List.length_map, Nat.sub_self]
      congr 1
      apply List.map_congr_left
      intro y hy
      exact (others y fun z => hm (by rw [← z]; exact hy)).symm
end K10

set_option Elab.async false
set_option linter.all false
set_option maxRecDepth 100000
set_option maxHeartbeats 4000000
namespace K10
open PySem L2 PySem.Spec PyProof.Rows DL
theorem entry_sub {n : Int} {rs : List Row} {Q : List Str} {x : Str} : ∀ f : Nat, entryD f (rs.filter (under Q)) (Q ++ [x]) n = entryD f rs (Q ++ [x]) n
  | 0 => rfl
  | f + 1 => by
    have e1 : (rs.filter (under Q)).filter (under (Q ++ [x])) = rs.filter (under (Q ++ [x])) := by
      rw [List.filter_filter]
      apply List.filter_congr
      intro r _
      cases z : under (Q ++ [x]) r with
      | false => rfl
      | true => rw [(pre_under (under_pre z)).1]; rfl
    have e2 : (rs.filter (under Q)).filter (at_ (Q ++ [x])) = rs.filter (at_ (Q ++ [x])) := by
      rw [List.filter_filter]
      apply List.filter_congr
      intro r _
      cases z : at_ (Q ++ [x]) r with
      | false => rfl
      | true => rw [(pre_under (at_pre z)).1]; rfl
    unfold entryD
    rw [e1, e2]
def recT (f : Nat) (rs : List Row) (P : List Str) (n : Int) : D := recD ((headsR rs P).map fun x => (x, entryD f rs (P ++ [x]) n))
theorem entry_eq {f : Nat} {n : Int} {rs : List Row} {P : List Str} : entryD (f + 1) rs P n = match rs.filter (at_ P) with
    | [] => recT f rs P n
    | r :: _ => leafD n P r (recT f rs P n) := by
  have e : recD ((uniq [] ((rs.filter (under P)).map (nameAfter P))).map fun x => (x, entryD f (rs.filter (under P)) (P ++ [x]) n)) = recT f rs P n := by
    unfold recT headsR
    congr 1
    apply List.map_congr_left
    intro x _
    rw [entry_sub]
  unfold entryD
  rw [e]
  all_goals (cases rs.filter (at_ P) <;> rfl)
def phQ (φ : List D → Res) : List D → Res := defSem 5 2 (g_entry φ)
def phV : Nat → List D → Res
  | 0 => never
  | f + 1 => defSem 4 2 (g_record (phQ (phV f)))
theorem tree_val {f : Nat} {rs : List Row} {P : List Str} : (treeO (f + 1) rs P).val = spotD (rowAt rs P) ((headsR rs P).map .inr) ((headsR rs P).map fun x => (treeO f rs (P ++ [x])).val) := by
  show spotD _ _ (vals ((headsR rs P).map fun x => treeO f rs (P ++ [x]))) = _
  rw [vals_eq, List.map_map]
  rfl
theorem heads_under {rs : List Row} {P : List Str} {x : Str} (h : x ∈ headsR rs P) : ∃ r ∈ rs, under P r = true ∧ P.length < r.p.length := by
  rcases uniq_mem h with q | q
  · cases q
  · obtain ⟨r, hr, rfl⟩ := List.mem_map.mp q
    obtain ⟨h1, h2⟩ := List.mem_filter.mp hr
    obtain ⟨y, hy, _⟩ := under_at h2
    exact ⟨r, h1, h2, (List.getElem?_eq_some_iff.mp hy).1⟩
theorem sem_tree {xs : List Str} {rs : List Row} {n : Int} (hr : ∀ r ∈ rs, r.Ok xs) (hl : rs.length ≤ 500) : ∀ (f : Nat) (P : List Str), (∀ r ∈ rs, r.p.length < P.length + (f + 1)) → phV (f + 1) [(treeO (f + 1) rs P).val, .int n] = .ok (.fz (recT f rs P n))
  | f, P, hf => by
    have hlen : (headsR rs P).length ≤ 1000 := by
      have := uniq_len (ns := (rs.filter (under P)).map (nameAfter P)) (acc := [])
      rw [List.length_map, List.length_nil] at this
      have h2 := List.length_filter_le (under P) rs
      unfold headsR
      omega
    have sub : ∀ x ∈ headsR rs P, ∃ f', f = f' + 1 := fun x hx => by
      obtain ⟨r, h1, _, h3⟩ := heads_under hx
      have := hf r h1
      cases f with
      | zero => omega
      | succ f' => exact ⟨f', rfl⟩
    rw [tree_val]
    refine sem_recordN hlen (fun x hx => ?_) (ent := fun x => entryD f rs (P ++ [x]) n) fun x hx => ?_
    · obtain ⟨f', rfl⟩ := sub x hx
      exact ⟨_, _, _, tree_val⟩
    · obtain ⟨f', rfl⟩ := sub x hx
      have ih := sem_tree (n := n) hr hl f' (P ++ [x]) fun r h => by
        have := hf r h
        rw [List.length_append, List.length_singleton]; omega
      rw [tree_val] at ih ⊢
      rw [entry_eq]
      unfold phQ
      cases hq : rs.filter (at_ (P ++ [x])) with
      | nil =>
        have e : rowAt rs (P ++ [x]) = .non := by unfold rowAt; rw [hq]
        rw [e] at ih ⊢
        exact sem_entryN ih
      | cons r rest =>
        have e : rowAt rs (P ++ [x]) = r.d := by unfold rowAt; rw [hq]
        have hm : r ∈ rs.filter (at_ (P ++ [x])) := by rw [hq]; exact List.mem_cons_self
        obtain ⟨h1, h2⟩ := List.mem_filter.mp hm
        have ep : r.p = P ++ [x] := by unfold at_ at h2; exact of_decide_eq_true h2
        rw [e] at ih ⊢
        rw [sem_entryR (hr r h1) ih, ep]
theorem law_entry_rec {xs : List Str} {rs : List Row} {n : Int} {f : Nat} (hr : ∀ r ∈ rs, r.Ok xs) : entryD (f + 1) rs [] n = recT f rs [] n := by
  rw [entry_eq]
  have : rs.filter (at_ []) = [] := List.filter_eq_nil_iff.mpr fun r h => by
    unfold at_
    rw [decide_eq_true_eq]
    intro z
    have := (hr r h).pos
    rw [z] at this
    exact absurd this (by decide)
  rw [this]
/-! ### need_alone -/
def keyP (r : Row) : List Key := r.p.map .inr
def wordsK (rs : List Row) : List (List Key) := rs.map keyP
def wordsD (rs : List Row) : List D := rs.map fun r => .str r.w
theorem keyT_plc (p : List Str) : keyT (plc p) = some (p.map .inr) := by
  show keysD (p.map D.str) = _
  induction p with
  | nil => rfl
  | cons x p ih =>
    simp only [List.map_cons, keysD, keyD, ih]
    rfl
theorem inr_inj : ∀ {p q : List Str}, (p.map Sum.inr : List Key) = q.map Sum.inr → p = q
  | [], [], _ => rfl
  | [], _ :: _, h => by cases h
  | _ :: _, [], h => by cases h
  | a :: p, b :: q, h => by
    simp only [List.map_cons, List.cons.injEq] at h
    rw [Sum.inr.inj h.1, inr_inj h.2]
theorem look_words {p : List Str} : ∀ rs : List Row, lookL (wordsK rs) (wordsD rs) (p.map .inr) = none ∧ (∀ s ∈ rs, s.p ≠ p) ∨ ∃ s ∈ rs, s.p = p ∧ lookL (wordsK rs) (wordsD rs) (p.map .inr) = some (.str s.w)
  | [] => .inl ⟨rfl, fun s h => nomatch h⟩
  | s :: rs => by
    unfold wordsK wordsD
    simp only [List.map_cons, lookL]
    by_cases e : s.p = p
    · right
      have : keyP s = p.map .inr := by unfold keyP; rw [e]
      rw [if_pos this]
      exact ⟨s, List.mem_cons_self, e, rfl⟩
    · have : ¬ keyP s = p.map .inr := fun z => e (inr_inj z)
      rw [if_neg this]
      rcases look_words (p := p) rs with ⟨h1, h2⟩ | ⟨u, h1, h2, h3⟩
      · refine .inl ⟨h1, fun u hu => ?_⟩
        rcases List.mem_cons.mp hu with q | q
        · rw [q]; exact e
        · exact h2 u q
      · exact .inr ⟨u, List.mem_cons_of_mem _ h1, h2, h3⟩
theorem clash_no {r s : Row} (h : clash r s = false) : s.p ≠ r.p ∧ (s.p.length < r.p.length → r.p.take s.p.length = s.p → s.w = "make") ∧ (r.w ≠ "make" → s.p.take r.p.length ≠ r.p) := by
  unfold clash below at h
  by_cases hl : s.p.length < r.p.length
  · rw [if_pos hl] at h
    simp only [Bool.or_eq_false_iff, decide_eq_false_iff_not, Bool.and_eq_false_iff, bne_eq_false_iff_eq] at h
    refine ⟨h.1, fun _ e => ?_, fun _ e => ?_⟩
    · rcases h.2 with q | q
      · exact q
      · exact absurd e q
    · have := congrArg List.length e
      rw [List.length_take] at this
      omega
  · rw [if_neg hl] at h
    simp only [Bool.or_eq_false_iff, decide_eq_false_iff_not, Bool.and_eq_false_iff, bne_eq_false_iff_eq] at h
    refine ⟨fun z => h.1 z.symm, fun q => absurd q hl, fun w e => ?_⟩
    rcases h.2 with q | q
    · exact w q
    · exact q e
def phN : List D → Res := defSem 5 2 g_need_alone
theorem ev_n3 {r : Row} {rs : List Row} {s3 : Option Sl} {ws : List D} (hr : r.Fit) (hs : ∀ s ∈ rs, s.Fit) (hl : rs.length ≤ 1000) :
    c_need_alone_3 ⟨[some (.ow (.fz r.d)), some (.ow (.fz (.dT (wordsK rs) ws))), some (.ow (.fz (plc r.p))), s3, none], .fz .non⟩ =
      .ok (.tm (.lst ((rs.map fun s => D.bl (decide (s.p.take r.p.length = r.p))).map .fz))) ⟨[some (.ow (.fz r.d)), some (.ow (.fz (.dT (wordsK rs) ws))), some (.ow (.fz (plc r.p))), s3, none], .fz .non⟩ := by
  have ek : keysT (wordsK rs) = rs.map fun s => plc s.p := by
    unfold keysT wordsK
    rw [List.map_map]
    apply List.map_congr_left
    intro s _
    show D.tup false ((keyP s).map keyVD) = _
    unfold keyP plc
    rw [List.map_map]
    rfl
  unfold c_need_alone_3 eCompKT
  have ed : En.dtAt ⟨[some (.ow (.fz r.d)), some (.ow (.fz (.dT (wordsK rs) ws))), some (.ow (.fz (plc r.p))), s3, none], .fz .non⟩ 1 = some (wordsK rs) := rfl
  rw [ed]
  simp only
  rw [ek]
  show compOut (cloop _ _ _ _ _ [] ⟨[some (.ow (.fz r.d)), some (.ow (.fz (.dT (wordsK rs) ws))), some (.ow (.fz (plc r.p))), s3, none], .fz .non⟩) = _
  rw [cloop_rows (fun s : Row => plc s.p) (fun s => some (O.fz (.bl (decide (s.p.take r.p.length = r.p))))) (fun s h => ?_) (by simpa using by omega), List.nil_append]
  · have : rs.filterMap (fun s => some (O.fz (.bl (decide (s.p.take r.p.length = r.p))))) = (rs.map fun s => D.bl (decide (s.p.take r.p.length = r.p))).map .fz := by
      clear hs hl ek ed
      rw [List.map_map]
      induction rs with
      | nil => rfl
      | cons s rs ih => rw [List.map_cons, List.filterMap_cons, ih]; rfl
    rw [this]
    rfl
  · have h1 := len_plc (p := r.p)
    have h2 := slice_plc (p := s.p) (n := r.p.length)
    have h3 := eqD_plc (take_ok (n := r.p.length) (hs s h).ok) hr.ok
    simp [turn1, En.wipe, at_k, put_k, hole_k, frz_k, own_tm_k, own_sl_k, own_me_k, look_tm_k, look_sl_k, look_me_k, fix_k, give_tm_k, give_sl_k, give_me_k, fixAll_nil_k, fixAll_cons_k, lookAll_nil_k, lookAll_cons_k, ownAll_nil_k, ownAll_cons_k, tree_tm_k, tree_sl_k, tree_me_k, gN_k, gNil_k, gCons_k, gT_k, isLst_k, isDkOwn_k, val_fz_k, val_lst_k, val_dK_k, defSem_k, eVar_k, eC_k, aNil_k, aCons_k, eV_k, eF_k, two_k, tOf_k, tAndD_k, tOrD_k, tNotD_k, eIf_k, eAndD_k, eOrD_k, eNotD_k, eCall_k, eLst_k, eTup_k, eTupK_k, sNil_k, sCons_k, sBreak_k, sCont_k, sIf_k, sSet_k, sRet_k, sRetN_k, sDrop_k, sAsg_k, itSeq_k, itRange1_k, itRange2_k, sFor_k, tYesD_k, eItem_k, pNone_k, pSome_k, eSlice_k, eM1_k, eGet1_k, eGet2_k, sPutK_k, sAppend_k, sSetI_k, eTupItems_k, bind_ok_k, bind_ex_k, so_ok_k, so_ex_k, then_nx_k, then_rt_k, then_ex_k, then_bk_k, then_ct_k, addD_int_k, subD_k, negD_k, eqD_str_k, neD_str_k, cmpD_k, item_lst_k, item_tup_k, isnt_tup_k, isnt_non_k, is_tup_k, is_non_k, vals_nil_k, vals_cons_k, mulD_l, mulD_r, modD_of, divD_of, eqD_int, neD_int, List.map_cons, List.map_nil, List.cons_append, List.nil_append, eCallO_k, sTry_k, sRaise_k, eChain_k, itEnum_k, eLM_k, isL_lst_k, isL_fz_k, eDisp_k, eWix_k, sRetT_k, giveAll_nil_k, giveAll_cons_k, tupAt_k, eIsiIt_k, sAppIt_k, sPar_k, defSemO_k, gone_nx_k, gone_rt_k, val_tup_k, bind_no_k, so_no_k, then_no_k, sSetF_k, eNewT_k, eInT_k, eGet2T_k, isDtOwn_k, isDt_dT, isDt_fz, lookOT_fz, sPutT_k, eFld_k, eMeth_k, fldK_k, eRead_k, sClear_k, sIns_k, eSpot_k, sNever_k, val_dT_k, val_obj_k, tCold_k, cold_k, cold_nil_k, cold_none_k, cold_ow_k, coldO_k, h1, h2, h3]
theorem any_no : ∀ bs : List Bool, (∀ b ∈ bs, b = false) → anyD [.lst (bs.map .bl)] = some (.bl false) := fun bs h => by
  have e : ∀ bs : List Bool, blsOf (bs.map .bl) = some bs := fun bs => by
    induction bs with
    | nil => rfl
    | cons b bs ih => simp [blsOf, ih]
  show (blsOf (bs.map D.bl)).map _ = _
  rw [e]
  have : bs.any id = false := by
    rw [List.any_eq_false]
    intro b hb
    rw [h b hb]; decide
  show some (D.bl (bs.any id)) = _
  rw [this]
end K10

set_option Elab.async false
set_option linter.all false
set_option maxRecDepth 100000
set_option maxHeartbeats 4000000
namespace K10
open PySem L2 PySem.Spec PyProof.Rows DL
theorem step_n {r : Row} {rs : List Row} {j : Nat} {s4 : Option Sl} (hc : ∀ s ∈ rs, clash r s = false) (hj : 1 + j < r.p.length) :
    b_need_alone_1 ⟨[some (.ow (.fz r.d)), some (.ow (.fz (.dT (wordsK rs) (wordsD rs)))), some (.ow (.fz (plc r.p))), some (.ow (.fz (.int (1 + (j : Int))))), s4], .fz .non⟩ =
      .nx ⟨[some (.ow (.fz r.d)), some (.ow (.fz (.dT (wordsK rs) (wordsD rs)))), some (.ow (.fz (plc r.p))), some (.ow (.fz (.int (1 + (j : Int))))), s4], .fz .non⟩ := by
  have h1 : sliceD (plc r.p) none (some (1 + (j : Int))) = some (.fz (plc (r.p.take (1 + j)))) := by
    have := slice_plc (p := r.p) (n := 1 + j)
    rwa [Int.natCast_add] at this
  have h2 := keyT_plc (r.p.take (1 + j))
  rcases look_words (p := r.p.take (1 + j)) rs with ⟨h3, _⟩ | ⟨s, hs, e, h3⟩
  · simp [b_need_alone_1, at_k, put_k, hole_k, frz_k, own_tm_k, own_sl_k, own_me_k, look_tm_k, look_sl_k, look_me_k, fix_k, give_tm_k, give_sl_k, give_me_k, fixAll_nil_k, fixAll_cons_k, lookAll_nil_k, lookAll_cons_k, ownAll_nil_k, ownAll_cons_k, tree_tm_k, tree_sl_k, tree_me_k, gN_k, gNil_k, gCons_k, gT_k, isLst_k, isDkOwn_k, val_fz_k, val_lst_k, val_dK_k, defSem_k, eVar_k, eC_k, aNil_k, aCons_k, eV_k, eF_k, two_k, tOf_k, tAndD_k, tOrD_k, tNotD_k, eIf_k, eAndD_k, eOrD_k, eNotD_k, eCall_k, eLst_k, eTup_k, eTupK_k, sNil_k, sCons_k, sBreak_k, sCont_k, sIf_k, sSet_k, sRet_k, sRetN_k, sDrop_k, sAsg_k, itSeq_k, itRange1_k, itRange2_k, sFor_k, tYesD_k, eItem_k, pNone_k, pSome_k, eSlice_k, eM1_k, eGet1_k, eGet2_k, sPutK_k, sAppend_k, sSetI_k, eTupItems_k, bind_ok_k, bind_ex_k, so_ok_k, so_ex_k, then_nx_k, then_rt_k, then_ex_k, then_bk_k, then_ct_k, addD_int_k, subD_k, negD_k, eqD_str_k, neD_str_k, cmpD_k, item_lst_k, item_tup_k, isnt_tup_k, isnt_non_k, is_tup_k, is_non_k, vals_nil_k, vals_cons_k, mulD_l, mulD_r, modD_of, divD_of, eqD_int, neD_int, List.map_cons, List.map_nil, List.cons_append, List.nil_append, eCallO_k, sTry_k, sRaise_k, eChain_k, itEnum_k, eLM_k, isL_lst_k, isL_fz_k, eDisp_k, eWix_k, sRetT_k, giveAll_nil_k, giveAll_cons_k, tupAt_k, eIsiIt_k, sAppIt_k, sPar_k, defSemO_k, gone_nx_k, gone_rt_k, val_tup_k, bind_no_k, so_no_k, then_no_k, sSetF_k, eNewT_k, eInT_k, eGet2T_k, isDtOwn_k, isDt_dT, isDt_fz, lookOT_fz, sPutT_k, eFld_k, eMeth_k, fldK_k, eRead_k, sClear_k, sIns_k, eSpot_k, sNever_k, val_dT_k, val_obj_k, tCold_k, cold_k, cold_nil_k, cold_none_k, cold_ow_k, coldO_k, h1, h2, h3, -List.map_take]
  · obtain ⟨_, k, _⟩ := clash_no (hc s hs)
    have hl : s.p.length = 1 + j := by rw [e, List.length_take]; omega
    have hw : s.w = "make" := k (by omega) (by rw [hl, e])
    rw [hw] at h3
    simp [b_need_alone_1, at_k, put_k, hole_k, frz_k, own_tm_k, own_sl_k, own_me_k, look_tm_k, look_sl_k, look_me_k, fix_k, give_tm_k, give_sl_k, give_me_k, fixAll_nil_k, fixAll_cons_k, lookAll_nil_k, lookAll_cons_k, ownAll_nil_k, ownAll_cons_k, tree_tm_k, tree_sl_k, tree_me_k, gN_k, gNil_k, gCons_k, gT_k, isLst_k, isDkOwn_k, val_fz_k, val_lst_k, val_dK_k, defSem_k, eVar_k, eC_k, aNil_k, aCons_k, eV_k, eF_k, two_k, tOf_k, tAndD_k, tOrD_k, tNotD_k, eIf_k, eAndD_k, eOrD_k, eNotD_k, eCall_k, eLst_k, eTup_k, eTupK_k, sNil_k, sCons_k, sBreak_k, sCont_k, sIf_k, sSet_k, sRet_k, sRetN_k, sDrop_k, sAsg_k, itSeq_k, itRange1_k, itRange2_k, sFor_k, tYesD_k, eItem_k, pNone_k, pSome_k, eSlice_k, eM1_k, eGet1_k, eGet2_k, sPutK_k, sAppend_k, sSetI_k, eTupItems_k, bind_ok_k, bind_ex_k, so_ok_k, so_ex_k, then_nx_k, then_rt_k, then_ex_k, then_bk_k, then_ct_k, addD_int_k, subD_k, negD_k, eqD_str_k, neD_str_k, cmpD_k, item_lst_k, item_tup_k, isnt_tup_k, isnt_non_k, is_tup_k, is_non_k, vals_nil_k, vals_cons_k, mulD_l, mulD_r, modD_of, divD_of, eqD_int, neD_int, List.map_cons, List.map_nil, List.cons_append, List.nil_append, eCallO_k, sTry_k, sRaise_k, eChain_k, itEnum_k, eLM_k, isL_lst_k, isL_fz_k, eDisp_k, eWix_k, sRetT_k, giveAll_nil_k, giveAll_cons_k, tupAt_k, eIsiIt_k, sAppIt_k, sPar_k, defSemO_k, gone_nx_k, gone_rt_k, val_tup_k, bind_no_k, so_no_k, then_no_k, sSetF_k, eNewT_k, eInT_k, eGet2T_k, isDtOwn_k, isDt_dT, isDt_fz, lookOT_fz, sPutT_k, eFld_k, eMeth_k, fldK_k, eRead_k, sClear_k, sIns_k, eSpot_k, sNever_k, val_dT_k, val_obj_k, tCold_k, cold_k, cold_nil_k, cold_none_k, cold_ow_k, coldO_k, h1, h2, h3, -List.map_take]
theorem sem_need {xs : List Str} (N : NamesOk xs) {r : Row} {rs : List Row} (hr : r.Ok xs) (hs : ∀ s ∈ rs, s.Ok xs) (hc : ∀ s ∈ rs, clash r s = false) (hl : rs.length ≤ 1000) : phN [r.d, .dT (wordsK rs) (wordsD rs)] = .ok (.fz .non) := by
  have h1 := keyT_plc r.p
  have h2 : lookL (wordsK rs) (wordsD rs) (r.p.map .inr) = none := by
    rcases look_words (p := r.p) rs with ⟨h, _⟩ | ⟨s, hm, e, _⟩
    · exact h
    · exact absurd e (clash_no (hc s hm)).1
  have h3 := len_plc (p := r.p)
  obtain ⟨e', h4, s3, rfl⟩ := loop_inv (t := gN 3) (g := b_need_alone_1) (fun n e => ∃ s3, e = ⟨[some (.ow (.fz r.d)), some (.ow (.fz (.dT (wordsK rs) (wordsD rs)))), some (.ow (.fz (plc r.p))), s3, none], .fz .non⟩)
    (ds := nums 1 (r.p.length - 1)) (n := 0) (e := ⟨[some (.ow (.fz r.d)), some (.ow (.fz (.dT (wordsK rs) (wordsD rs)))), some (.ow (.fz (plc r.p))), none, none], .fz .non⟩) ⟨none, rfl⟩ fun j d e hd ⟨s3, he⟩ => by
      obtain ⟨hj, rfl⟩ := nums_get hd
      subst he
      exact ⟨_, _, rfl, .inl (step_n hc (by omega)), _, rfl⟩
  have h5 := fun s3 => ev_n3 (r := r) (rs := rs) (s3 := s3) (ws := wordsD rs) (hr.fit N) (fun s h => (hs s h).fit N) hl
  have h6 := vals_fz (rs.map fun s => D.bl (decide (s.p.take r.p.length = r.p)))
  have h7 : rangeOk (r.p.length : Int) = true := rangeOk_nat (by have := hr.len; omega)
  have h8 : rangeOk 1 = true := by decide
  by_cases hw : r.w = "make"
  · have hw' : (r.w != "make") = false := by rw [hw]; decide +kernel
    unfold Row.d at *
    simp [phN, g_need_alone, l_need_alone_2, at_k, put_k, hole_k, frz_k, own_tm_k, own_sl_k, own_me_k, look_tm_k, look_sl_k, look_me_k, fix_k, give_tm_k, give_sl_k, give_me_k, fixAll_nil_k, fixAll_cons_k, lookAll_nil_k, lookAll_cons_k, ownAll_nil_k, ownAll_cons_k, tree_tm_k, tree_sl_k, tree_me_k, gN_k, gNil_k, gCons_k, gT_k, isLst_k, isDkOwn_k, val_fz_k, val_lst_k, val_dK_k, defSem_k, eVar_k, eC_k, aNil_k, aCons_k, eV_k, eF_k, two_k, tOf_k, tAndD_k, tOrD_k, tNotD_k, eIf_k, eAndD_k, eOrD_k, eNotD_k, eCall_k, eLst_k, eTup_k, eTupK_k, sNil_k, sCons_k, sBreak_k, sCont_k, sIf_k, sSet_k, sRet_k, sRetN_k, sDrop_k, sAsg_k, itSeq_k, itRange1_k, itRange2_k, sFor_k, tYesD_k, eItem_k, pNone_k, pSome_k, eSlice_k, eM1_k, eGet1_k, eGet2_k, sPutK_k, sAppend_k, sSetI_k, eTupItems_k, bind_ok_k, bind_ex_k, so_ok_k, so_ex_k, then_nx_k, then_rt_k, then_ex_k, then_bk_k, then_ct_k, addD_int_k, subD_k, negD_k, eqD_str_k, neD_str_k, cmpD_k, item_lst_k, item_tup_k, isnt_tup_k, isnt_non_k, is_tup_k, is_non_k, vals_nil_k, vals_cons_k, mulD_l, mulD_r, modD_of, divD_of, eqD_int, neD_int, List.map_cons, List.map_nil, List.cons_append, List.nil_append, eCallO_k, sTry_k, sRaise_k, eChain_k, itEnum_k, eLM_k, isL_lst_k, isL_fz_k, eDisp_k, eWix_k, sRetT_k, giveAll_nil_k, giveAll_cons_k, tupAt_k, eIsiIt_k, sAppIt_k, sPar_k, defSemO_k, gone_nx_k, gone_rt_k, val_tup_k, bind_no_k, so_no_k, then_no_k, sSetF_k, eNewT_k, eInT_k, eGet2T_k, isDtOwn_k, isDt_dT, isDt_fz, lookOT_fz, sPutT_k, eFld_k, eMeth_k, fldK_k, eRead_k, sClear_k, sIns_k, eSpot_k, sNever_k, val_dT_k, val_obj_k, tCold_k, cold_k, cold_nil_k, cold_none_k, cold_ow_k, coldO_k, atI_0, atI_1, h1, h2, h3, h7, h8, h4, hw', -bne_iff_ne, -bne_eq_false_iff_eq]
  · have hw' : (r.w != "make") = true := by simpa using hw
    have h9 : anyD [.lst (rs.map fun s => D.bl (decide (s.p.take r.p.length = r.p)))] = some (.bl false) := by
      have := any_no (rs.map fun s => decide (s.p.take r.p.length = r.p)) fun b hb => by
        obtain ⟨s, hm, rfl⟩ := List.mem_map.mp hb
        exact decide_eq_false ((clash_no (hc s hm)).2.2 hw)
      rwa [List.map_map] at this
    unfold Row.d at *
    simp [phN, g_need_alone, l_need_alone_2, at_k, put_k, hole_k, frz_k, own_tm_k, own_sl_k, own_me_k, look_tm_k, look_sl_k, look_me_k, fix_k, give_tm_k, give_sl_k, give_me_k, fixAll_nil_k, fixAll_cons_k, lookAll_nil_k, lookAll_cons_k, ownAll_nil_k, ownAll_cons_k, tree_tm_k, tree_sl_k, tree_me_k, gN_k, gNil_k, gCons_k, gT_k, isLst_k, isDkOwn_k, val_fz_k, val_lst_k, val_dK_k, defSem_k, eVar_k, eC_k, aNil_k, aCons_k, eV_k, eF_k, two_k, tOf_k, tAndD_k, tOrD_k, tNotD_k, eIf_k, eAndD_k, eOrD_k, eNotD_k, eCall_k, eLst_k, eTup_k, eTupK_k, sNil_k, sCons_k, sBreak_k, sCont_k, sIf_k, sSet_k, sRet_k, sRetN_k, sDrop_k, sAsg_k, itSeq_k, itRange1_k, itRange2_k, sFor_k, tYesD_k, eItem_k, pNone_k, pSome_k, eSlice_k, eM1_k, eGet1_k, eGet2_k, sPutK_k, sAppend_k, sSetI_k, eTupItems_k, bind_ok_k, bind_ex_k, so_ok_k, so_ex_k, then_nx_k, then_rt_k, then_ex_k, then_bk_k, then_ct_k, addD_int_k, subD_k, negD_k, eqD_str_k, neD_str_k, cmpD_k, item_lst_k, item_tup_k, isnt_tup_k, isnt_non_k, is_tup_k, is_non_k, vals_nil_k, vals_cons_k, mulD_l, mulD_r, modD_of, divD_of, eqD_int, neD_int, List.map_cons, List.map_nil, List.cons_append, List.nil_append, eCallO_k, sTry_k, sRaise_k, eChain_k, itEnum_k, eLM_k, isL_lst_k, isL_fz_k, eDisp_k, eWix_k, sRetT_k, giveAll_nil_k, giveAll_cons_k, tupAt_k, eIsiIt_k, sAppIt_k, sPar_k, defSemO_k, gone_nx_k, gone_rt_k, val_tup_k, bind_no_k, so_no_k, then_no_k, sSetF_k, eNewT_k, eInT_k, eGet2T_k, isDtOwn_k, isDt_dT, isDt_fz, lookOT_fz, sPutT_k, eFld_k, eMeth_k, fldK_k, eRead_k, sClear_k, sIns_k, eSpot_k, sNever_k, val_dT_k, val_obj_k, tCold_k, cold_k, cold_nil_k, cold_none_k, cold_ow_k, coldO_k, atI_0, atI_1, h1, h2, h3, h7, h8, h4, hw', h5, h6, h9, -bne_iff_ne, -bne_eq_false_iff_eq, -List.map_map]
/-! ### layer_of -/
def phL : List D → Res := defSem 6 2 (g_layer_of phN (phV 5))
def wordsO (rs : List Row) : List O := rs.map fun r => .fz (.str r.w)
theorem wordsO_val (rs : List Row) : vals (wordsO rs) = wordsD rs := by
  unfold wordsO wordsD
  rw [← vals_fz (rs.map fun r => D.str r.w), List.map_map]
  rfl
theorem key_new {r : Row} {rs : List Row} (h : ∀ s ∈ rs, s.p ≠ r.p) : keyP r ∉ wordsK rs := fun z => by
  obtain ⟨s, hs, e⟩ := List.mem_map.mp z
  exact h s hs (inr_inj e)
theorem step_l {xs : List Str} (N : NamesOk xs) {all : List D} {n : D} {r : Row} {rs : List Row} (hr : r.Ok xs) (hs : ∀ s ∈ rs, s.Ok xs) (hc : ∀ s ∈ rs, clash r s = false) (hl : rs.length ≤ 500) :
    b_layer_of_1 phN ⟨[some (.ow (.fz (.lst all))), some (.ow (.fz n)), some (.ow (.dT (wordsK rs) (wordsO rs))), some (.ow (treeO 5 rs [])), some (.ow (.fz r.d)), none], .fz .non⟩ =
      .nx ⟨[some (.ow (.fz (.lst all))), some (.ow (.fz n)), some (.ow (.dT (wordsK (rs ++ [r])) (wordsO (rs ++ [r])))), some (.ow (treeO 5 (rs ++ [r]) [])), some (.ow (.fz r.d)), none], .fz .non⟩ := by
  have hne : ∀ s ∈ rs, s.p ≠ r.p := fun s h => (clash_no (hc s h)).1
  have h1 := sem_need N hr hs hc (by omega)
  have h2 := keyT_plc r.p
  have h3 := wordsO_val rs
  have h4 : putKs (wordsK rs) (r.p.map Sum.inr) = wordsK (rs ++ [r]) := by
    unfold putKs
    rw [if_neg (show ¬ (r.p.map Sum.inr : List Key) ∈ wordsK rs from key_new hne)]
    unfold wordsK
    rw [List.map_append]
    rfl
  have h5 : putOs (wordsK rs) (wordsO rs) (r.p.map Sum.inr) (.fz (.str r.w)) = wordsO (rs ++ [r]) := by
    unfold putOs
    rw [if_neg (show ¬ (r.p.map Sum.inr : List Key) ∈ wordsK rs from key_new hne)]
    unfold wordsO
    rw [List.map_append]
    rfl
  have h6 := ins_tree (rs := rs) (r := r) hne (by omega) 4 r.p [] rfl hr.len
  have h7 : (wordsK rs).length < 1000000 := by unfold wordsK; rw [List.length_map]; omega
  have ht : ∃ ks os, treeO 5 rs [] = .obj "Spot" ["row", "inner"] [.fz (rowAt rs []), .dK ks os] := ⟨_, _, rfl⟩
  obtain ⟨ks, os, ht⟩ := ht
  rw [ht] at h6 ⊢
  unfold Row.d plc at *
  simp [b_layer_of_1, at_k, put_k, hole_k, frz_k, own_tm_k, own_sl_k, own_me_k, look_tm_k, look_sl_k, look_me_k, fix_k, give_tm_k, give_sl_k, give_me_k, fixAll_nil_k, fixAll_cons_k, lookAll_nil_k, lookAll_cons_k, ownAll_nil_k, ownAll_cons_k, tree_tm_k, tree_sl_k, tree_me_k, gN_k, gNil_k, gCons_k, gT_k, isLst_k, isDkOwn_k, val_fz_k, val_lst_k, val_dK_k, defSem_k, eVar_k, eC_k, aNil_k, aCons_k, eV_k, eF_k, two_k, tOf_k, tAndD_k, tOrD_k, tNotD_k, eIf_k, eAndD_k, eOrD_k, eNotD_k, eCall_k, eLst_k, eTup_k, eTupK_k, sNil_k, sCons_k, sBreak_k, sCont_k, sIf_k, sSet_k, sRet_k, sRetN_k, sDrop_k, sAsg_k, itSeq_k, itRange1_k, itRange2_k, sFor_k, tYesD_k, eItem_k, pNone_k, pSome_k, eSlice_k, eM1_k, eGet1_k, eGet2_k, sPutK_k, sAppend_k, sSetI_k, eTupItems_k, bind_ok_k, bind_ex_k, so_ok_k, so_ex_k, then_nx_k, then_rt_k, then_ex_k, then_bk_k, then_ct_k, addD_int_k, subD_k, negD_k, eqD_str_k, neD_str_k, cmpD_k, item_lst_k, item_tup_k, isnt_tup_k, isnt_non_k, is_tup_k, is_non_k, vals_nil_k, vals_cons_k, mulD_l, mulD_r, modD_of, divD_of, eqD_int, neD_int, List.map_cons, List.map_nil, List.cons_append, List.nil_append, eCallO_k, sTry_k, sRaise_k, eChain_k, itEnum_k, eLM_k, isL_lst_k, isL_fz_k, eDisp_k, eWix_k, sRetT_k, giveAll_nil_k, giveAll_cons_k, tupAt_k, eIsiIt_k, sAppIt_k, sPar_k, defSemO_k, gone_nx_k, gone_rt_k, val_tup_k, bind_no_k, so_no_k, then_no_k, sSetF_k, eNewT_k, eInT_k, eGet2T_k, isDtOwn_k, isDt_dT, isDt_fz, lookOT_fz, sPutT_k, eFld_k, eMeth_k, fldK_k, eRead_k, sClear_k, sIns_k, eSpot_k, sNever_k, val_dT_k, val_obj_k, tCold_k, cold_k, cold_nil_k, cold_none_k, cold_ow_k, coldO_k, h1, h2, h3, h4, h5, h6, h7, noL, atI_0, atI_1]
end K10

set_option Elab.async false
set_option linter.all false
set_option maxRecDepth 100000
set_option maxHeartbeats 4000000
namespace K10
open PySem L2 PySem.Spec PyProof.Rows DL
theorem loop_l {xs : List Str} (N : NamesOk xs) {all : List D} {n : D} : ∀ {todo done : List Row} {s4 : Option Sl}, (∀ r ∈ done ++ todo, r.Ok xs) → (done ++ todo).Pairwise (fun a b => clash b a = false) → (done ++ todo).length ≤ 500 →
    ∃ s4', loop (gN 4) (b_layer_of_1 phN) (todo.map Row.d) ⟨[some (.ow (.fz (.lst all))), some (.ow (.fz n)), some (.ow (.dT (wordsK done) (wordsO done))), some (.ow (treeO 5 done [])), s4, none], .fz .non⟩ =
      .nx ⟨[some (.ow (.fz (.lst all))), some (.ow (.fz n)), some (.ow (.dT (wordsK (done ++ todo)) (wordsO (done ++ todo)))), some (.ow (treeO 5 (done ++ todo) [])), s4', none], .fz .non⟩
  | [], done, s4, _, _, _ => ⟨s4, by rw [List.append_nil]; rfl⟩
  | r :: todo, done, s4, h, pw, hl => by
    have e : done ++ r :: todo = (done ++ [r]) ++ todo := by rw [List.append_assoc]; rfl
    have hc : ∀ s ∈ done, clash r s = false := fun s hs => (List.pairwise_append.mp pw).2.2 s hs r List.mem_cons_self
    have h1 := step_l N (all := all) (n := n) (r := r) (rs := done) (h r (List.mem_append_right _ List.mem_cons_self)) (fun s hs => h s (List.mem_append_left _ hs)) hc (by rw [List.length_append] at hl; omega)
    rw [e] at h pw hl
    obtain ⟨s4', h2⟩ := loop_l N (all := all) (n := n) (todo := todo) (done := done ++ [r]) (s4 := some (.ow (.fz r.d))) h pw hl
    refine ⟨s4', ?_⟩
    rw [List.map_cons, e]
    simp only [loop, gN_k, List.set_cons_succ, List.set_cons_zero]
    rw [h1]
    exact h2
theorem sem_layer {xs : List Str} (N : NamesOk xs) {rs : List Row} (g : Good xs rs) (hl : rs.length ≤ 500) {n : Int} : phL [.lst (rs.map Row.d), .int n] = .ok (.fz (recT 4 rs [] n)) := by
  obtain ⟨s4', h1⟩ := loop_l N (all := rs.map Row.d) (n := .int n) (todo := rs) (done := []) (s4 := none) g.ok g.pw hl
  have h2 := sem_tree (rs := rs) (n := n) g.ok hl 4 [] fun r h => by have := (g.ok r h).len; rw [List.length_nil]; omega
  rw [List.nil_append] at h1
  have h0 : treeO 5 [] [] = spot0 := tree_none fun r h => nomatch h
  rw [h0] at h1
  have ht : ∃ ks os, treeO 5 rs [] = .obj "Spot" ["row", "inner"] [.fz (rowAt rs []), .dK ks os] := ⟨_, _, rfl⟩
  obtain ⟨ks, os, ht⟩ := ht
  rw [ht] at h1 h2
  have e1 : wordsK [] = [] := rfl
  have e2 : wordsO [] = [] := rfl
  rw [e1, e2] at h1
  simp only [val_obj_k, vals_cons_k, vals_nil_k, val_fz_k, val_dK_k] at h2
  simp [phL, g_layer_of, l_layer_of_2, at_k, put_k, hole_k, frz_k, own_tm_k, own_sl_k, own_me_k, look_tm_k, look_sl_k, look_me_k, fix_k, give_tm_k, give_sl_k, give_me_k, fixAll_nil_k, fixAll_cons_k, lookAll_nil_k, lookAll_cons_k, ownAll_nil_k, ownAll_cons_k, tree_tm_k, tree_sl_k, tree_me_k, gN_k, gNil_k, gCons_k, gT_k, isLst_k, isDkOwn_k, val_fz_k, val_lst_k, val_dK_k, defSem_k, eVar_k, eC_k, aNil_k, aCons_k, eV_k, eF_k, two_k, tOf_k, tAndD_k, tOrD_k, tNotD_k, eIf_k, eAndD_k, eOrD_k, eNotD_k, eCall_k, eLst_k, eTup_k, eTupK_k, sNil_k, sCons_k, sBreak_k, sCont_k, sIf_k, sSet_k, sRet_k, sRetN_k, sDrop_k, sAsg_k, itSeq_k, itRange1_k, itRange2_k, sFor_k, tYesD_k, eItem_k, pNone_k, pSome_k, eSlice_k, eM1_k, eGet1_k, eGet2_k, sPutK_k, sAppend_k, sSetI_k, eTupItems_k, bind_ok_k, bind_ex_k, so_ok_k, so_ex_k, then_nx_k, then_rt_k, then_ex_k, then_bk_k, then_ct_k, addD_int_k, subD_k, negD_k, eqD_str_k, neD_str_k, cmpD_k, item_lst_k, item_tup_k, isnt_tup_k, isnt_non_k, is_tup_k, is_non_k, vals_nil_k, vals_cons_k, mulD_l, mulD_r, modD_of, divD_of, eqD_int, neD_int, List.map_cons, List.map_nil, List.cons_append, List.nil_append, eCallO_k, sTry_k, sRaise_k, eChain_k, itEnum_k, eLM_k, isL_lst_k, isL_fz_k, eDisp_k, eWix_k, sRetT_k, giveAll_nil_k, giveAll_cons_k, tupAt_k, eIsiIt_k, sAppIt_k, sPar_k, defSemO_k, gone_nx_k, gone_rt_k, val_tup_k, bind_no_k, so_no_k, then_no_k, sSetF_k, eNewT_k, eInT_k, eGet2T_k, isDtOwn_k, isDt_dT, isDt_fz, lookOT_fz, sPutT_k, eFld_k, eMeth_k, fldK_k, eRead_k, sClear_k, sIns_k, eSpot_k, sNever_k, val_dT_k, val_obj_k, tCold_k, cold_k, cold_nil_k, cold_none_k, cold_ow_k, coldO_k, h1, h2, x1, x2]
/-! ### sizes -/
theorem heads_le {xs : List Str} (N : NamesOk xs) {rs : List Row} (h : ∀ r ∈ rs, r.Ok xs) {P : List Str} : (headsR rs P).length ≤ 5 ∧ ∀ x ∈ headsR rs P, x ∈ xs := by
  have hm : ∀ x ∈ headsR rs P, x ∈ xs := fun x hx => by
    rcases uniq_mem hx with q | q
    · cases q
    · obtain ⟨r, hr, rfl⟩ := List.mem_map.mp q
      obtain ⟨h1, h2⟩ := List.mem_filter.mp hr
      obtain ⟨y, hy, _⟩ := under_at h2
      have : nameAfter P r = y := by unfold nameAfter; rw [hy]; rfl
      rw [this]
      exact (h r h1).mem y (List.mem_of_getElem? hy)
  refine ⟨?_, hm⟩
  have := List.Nodup.length_le_of_subset (uniq_nd (ns := (rs.filter (under P)).map (nameAfter P)) (acc := []) List.nodup_nil) fun x hx => hm x hx
  rw [N.len] at this
  exact this
theorem rec_sm {b h : Nat} {fs : List (Str × D)} (hl : fs.length ≤ 5) (hf : ∀ y ∈ fs, Sm 82 0 (.str y.1) ∧ Sm b h y.2) : Sm (5 * b + 600) (h + 3) (recD fs) := by
  have h1 : Sm (2 + 5 * (b + 88 + 2)) (h + 2) (.tup false (fs.map fun y => .tup false [.str y.1, y.2])) := Sm.many (n := b + 88) (h := h + 1) (fun d hd => by
    obtain ⟨y, hy, rfl⟩ := List.mem_map.mp hd
    obtain ⟨a1, a2⟩ := hf y hy
    exact (Sms.tup (.cons (a1.up (Nat.le_refl _) (Nat.zero_le _)) (.cons a2 .nil))).up (by omega) (Nat.le_refl _)) (by rw [List.length_map]; exact hl)
  exact (Sms.tup (h := h + 2) (.cons ((lit (by decide +kernel)).up (Nat.le_refl _) (Nat.zero_le _)) (.cons h1 (.cons (Sm.bl.up (Nat.le_refl _) (Nat.zero_le _)) .nil)))).up (by omega) (Nat.le_refl _)
theorem mark_sm {xs : List Str} (N : NamesOk xs) {n : Int} (hn : n.natAbs < 10 ^ 31) {r : Row} (h : r.Ok xs) : Sm 376 2 (markD n r.p) :=
  (Sms.tup (h := 1) (.cons ((Sm.int hn).up (Nat.le_refl _) (Nat.zero_le _)) (.cons (plc_sm N h.mem h.len) .nil))).up (by decide) (Nat.le_refl _)
theorem leaf_sm {xs : List Str} (N : NamesOk xs) {n : Int} (hn : n.natAbs < 10 ^ 31) {r : Row} (h : r.Ok xs) {rec : D} {R H : Nat} (hR : Sm R H rec) (h6 : 6 ≤ H) : Sm (R + 1700) (H + 1) (leafD n r.p r rec) := by
  have hm := mark_sm N hn h
  rcases h.kind with ⟨e1, e2⟩ | ⟨hw, d, e2, hd⟩
  · unfold leafD
    rw [if_pos e1]
    exact (Sms.tup (h := 2) (.cons ((lit (by decide +kernel)).up (Nat.le_refl _) (Nat.zero_le _)) (.cons hm .nil))).up (by omega) (by omega)
  · have et : t0 r = d := by unfold t0; rw [e2]; rfl
    have hp : Sm 982 5 (.tup false [d, markD n r.p]) := (Sms.tup (h := 4) (.cons hd (.cons (hm.up (Nat.le_refl _) (by omega)) .nil))).up (by omega) (Nat.le_refl _)
    have hq : Sm 986 6 (.tup false [.tup false [d, markD n r.p]]) := (Sms.tup (.cons hp .nil)).up (by omega) (Nat.le_refl _)
    have hz : Sm 2 6 (.tup false []) := (Sms.tup (h := 0) .nil).up (by omega) (by omega)
    have l4 : ∀ {x : Str}, PyData.strOk x = true ∧ x.length ≤ 6 → Sm 62 H (.str x) := fun h => (lit h).up (Nat.le_refl _) (Nat.zero_le _)
    unfold leafD
    rw [et]
    rcases hw with e | e | e | e
    · rw [e, if_neg v1, if_pos rfl]
      exact (Sms.tup (h := H) (.cons (l4 (by decide +kernel)) (.cons (hd.up (Nat.le_refl _) (by omega)) (.cons hR (.cons (hm.up (Nat.le_refl _) (by omega)) .nil))))).up (by omega) (Nat.le_refl _)
    · rw [e, if_neg v2, if_neg v5, if_pos rfl]
      exact (Sms.tup (h := H) (.cons (l4 (by decide +kernel)) (.cons (hd.up (Nat.le_refl _) (by omega)) (.cons (hm.up (Nat.le_refl _) (by omega)) .nil)))).up (by omega) (Nat.le_refl _)
    · rw [e, if_neg v3, if_neg v6, if_neg v8, if_neg va]
      exact (Sms.tup (h := H) (.cons (l4 (by decide +kernel)) (.cons (Sm.non.up (Nat.le_refl _) (Nat.zero_le _)) (.cons (hz.up (Nat.le_refl _) h6) (.cons (hq.up (Nat.le_refl _) h6) .nil))))).up (by omega) (Nat.le_refl _)
    · rw [e, if_neg v4, if_neg v7, if_neg v9, if_pos rfl]
      exact (Sms.tup (h := H) (.cons (l4 (by decide +kernel)) (.cons (Sm.non.up (Nat.le_refl _) (Nat.zero_le _)) (.cons (hq.up (Nat.le_refl _) h6) (.cons (hz.up (Nat.le_refl _) h6) .nil))))).up (by omega) (Nat.le_refl _)
def wb0 : Nat → Nat
  | 0 => 4
  | f + 1 => 5 * wb0 f + 2300
theorem entry_sm {xs : List Str} (N : NamesOk xs) {n : Int} (hn : n.natAbs < 10 ^ 31) {rs : List Row} (h : ∀ r ∈ rs, r.Ok xs) : ∀ (f : Nat) (P : List Str), Sm (wb0 f) (4 * f + 6) (entryD f rs P n) ∧ Sm (5 * wb0 f + 600) (4 * f + 9) (recT f rs P n)
  | 0, P => by
    have e : Sm (wb0 0) 6 (entryD 0 rs P n) := Sm.non.up (Nat.le_refl _) (Nat.zero_le _)
    refine ⟨e, ?_⟩
    obtain ⟨a1, a2⟩ := heads_le N h (P := P)
    exact (rec_sm (b := wb0 0) (h := 6) (by rw [List.length_map]; exact a1) fun y hy => by
      obtain ⟨x, hx, rfl⟩ := List.mem_map.mp hy
      exact ⟨name_sm N (a2 x hx), Sm.non.up (Nat.le_refl _) (Nat.zero_le _)⟩).up (Nat.le_refl _) (by omega)
  | f + 1, P => by
    have ih := entry_sm N hn h f
    have e : ∀ P, Sm (wb0 (f + 1)) (4 * (f + 1) + 6) (entryD (f + 1) rs P n) := fun P => by
      rw [entry_eq]
      have hrec := (ih P).2
      cases hq : rs.filter (at_ P) with
      | nil => exact hrec.up (by show _ ≤ 5 * wb0 f + 2300; omega) (by omega)
      | cons r rest =>
        obtain ⟨h1, h2⟩ := List.mem_filter.mp (show r ∈ rs.filter (at_ P) by rw [hq]; exact List.mem_cons_self)
        have ep : r.p = P := by unfold at_ at h2; exact of_decide_eq_true h2
        have := leaf_sm N hn (h r h1) hrec (by omega)
        rw [ep] at this
        exact this.up (by show _ ≤ 5 * wb0 f + 2300; omega) (by omega)
    refine ⟨e P, ?_⟩
    obtain ⟨a1, a2⟩ := heads_le N h (P := P)
    exact (rec_sm (b := wb0 (f + 1)) (h := 4 * (f + 1) + 6) (by rw [List.length_map]; exact a1) fun y hy => by
      obtain ⟨x, hx, rfl⟩ := List.mem_map.mp hy
      exact ⟨name_sm N (a2 x hx), e _⟩).up (Nat.le_refl _) (by omega)
end K10

set_option Elab.async false
set_option linter.all false
set_option maxRecDepth 100000
set_option maxHeartbeats 4000000
namespace K10
open PySem L2 PySem.Spec PyProof.Rows DL
def phA : List D → Res := defSem 2 2 g__law_cell_at
def phNm : List D → Res := defSem 7 1 g__law_names
theorem slice_ints (ns : List Int) : sliceD (.lst (ns.map .int)) (some 1) (some 91) = some (.lst (((ns.map D.int |> fun xs => cutL xs (some 1) (some 91))).map .fz)) := rfl
theorem cut_ints (ns : List Int) (lo hi : Option Int) : ∃ ms : List Int, cutL (ns.map D.int) lo hi = ms.map .int ∧ ms.length ≤ ns.length := by
  refine ⟨cutL ns lo hi, ?_, ?_⟩
  · unfold cutL
    rw [List.length_map, List.map_take, List.map_drop]
  · unfold cutL
    rw [List.length_take, List.length_drop]
    omega
def phLaw : List D → Res := defSem 8 1 (g_law phA (phE 5) phG phM phNm phL)
theorem num_ok {a b : Int} : ∃ n : Int, atI [O.fz (.int (a % 8)), .fz (.int (a % 1000000000000000000000000000000))] (b % 2) = some (.fz (.int n)) ∧ n.natAbs < 10 ^ 31 ∧ (n + 1).natAbs < 10 ^ 31 := by
  have : b % 2 = 0 ∨ b % 2 = 1 := by omega
  rcases this with e | e <;> rw [e]
  · exact ⟨_, rfl, by omega, by omega⟩
  · exact ⟨_, rfl, by omega, by omega⟩
theorem sem_law (ns : List Int) (hn : ns.length ≤ 63) : phLaw [.lst (ns.map .int)] = .ok (.fz (.bl true)) := by
  obtain ⟨a, ha⟩ := sem_cell_at (ns := ns) (k := 0) (by decide)
  obtain ⟨b, hb⟩ := sem_cell_at (ns := ns) (k := 1) (by decide)
  have ha' : phA [.lst (ns.map .int), .int 0] = .ok (.fz (.int a)) := ha
  have hb' : phA [.lst (ns.map .int), .int 1] = .ok (.fz (.int b)) := hb
  have hm : phM [.int a, .int 1] = .ok (.fz (.int (mix a 1))) := phM_ok (by decide)
  obtain ⟨xs, hx, N⟩ := sem_names (mix_ge a 1)
  have hx' : phNm [.int (mix a 1)] = .ok (.lst (xs.map fun x => .fz (.str x))) := hx
  obtain ⟨n, hn0, hn1, hn2⟩ := num_ok (a := a) (b := b)
  obtain ⟨ms, hms, hml⟩ := cut_ints ns (some 1) (some 91)
  have hsl : sliceD (.lst (ns.map .int)) (some 1) (some 91) = some (.lst ((ms.map D.int).map .fz)) := by rw [← hms]; rfl
  have hv := vals_fz (ms.map D.int)
  obtain ⟨rs, hg, g, hrl⟩ := sem_good N (ns := ms) (by omega)
  have hnm : vals (xs.map fun x => O.fz (.str x)) = xs.map .str := map_fz xs
  have hrv := rows_vals rs
  unfold nm at hg
  have he : ∀ m : Int, phE 5 [.lst (rs.map Row.d), .tup false [], .int m] = .ok (.fz (recT 4 rs [] m)) := fun m => by
    have := sem_entry N (n := m) 5 rs [] g.ok (fun x h => nomatch h) (by omega) (by decide) (fun r h => by have := (g.ok r h).len; rw [List.length_nil]; omega) (by decide)
    rw [law_entry_rec g.ok] at this
    exact this
  have hL : ∀ m : Int, phL [.lst (rs.map Row.d), .int m] = .ok (.fz (recT 4 rs [] m)) := fun m => sem_layer N g (by omega)
  have hL0 : ∀ m : Int, phL [.lst [], .int m] = .ok (.fz (.tup false [.str "record", .tup false [], .bl false])) := fun m => sem_layer N (rs := []) Good.nil (by decide)
  have s1 := (entry_sm N hn1 g.ok 4 []).2
  have s2 := (entry_sm N hn2 g.ok 4 []).2
  have hw : ∀ {d : D}, Sm (5 * wb0 4 + 600) (4 * 4 + 9) d → d.wt ≤ most ∧ d.dep ≤ 64 := fun s => ⟨Nat.le_trans s.wt (by decide), Nat.le_trans s.dep (by decide)⟩
  have r1 := reprD_of s1.fit (hw s1).2 (hw s1).1
  have r2 := reprD_of s2.fit (hw s2).2 (hw s2).1
  have q1 := eqD_same s1.fit (hw s1).2
  have q0 : eqD [.tup false [.str "record", .tup false [], .bl false], .tup false [.str "record", .tup false [], .bl false]] = some (.bl true) := eqD_same (by decide +kernel) (by decide)
  have o1 := s1.nol
  have o2 := s2.nol
  have o0 : noL (.tup false [.str "record", .tup false [], .bl false]) = true := rfl
  have hls : ∀ ds : List D, listD [.lst ds] = some (.lst (ds.map .fz)) := fun ds => rfl
  have hv2 := vals_fz (rs.map Row.d)
  have hp : powD [.int 10, .int 30] = some (.int 1000000000000000000000000000000) := by simp [powD]
  have hpos : (0 : Int) < 1000000000000000000000000000000 := by decide
  have z1 := he n
  have z2 := he (n + 1)
  have y1 := hL n
  have y2 := hL (n + 1)
  have y0 := hL0 n
  generalize recT 4 rs [] n = A at *
  generalize recT 4 rs [] (n + 1) = B at *
  simp [phLaw, g_law, r_law_1_k, at_k, put_k, hole_k, frz_k, own_tm_k, own_sl_k, own_me_k, look_tm_k, look_sl_k, look_me_k, fix_k, give_tm_k, give_sl_k, give_me_k, fixAll_nil_k, fixAll_cons_k, lookAll_nil_k, lookAll_cons_k, ownAll_nil_k, ownAll_cons_k, tree_tm_k, tree_sl_k, tree_me_k, gN_k, gNil_k, gCons_k, gT_k, isLst_k, isDkOwn_k, val_fz_k, val_lst_k, val_dK_k, defSem_k, eVar_k, eC_k, aNil_k, aCons_k, eV_k, eF_k, two_k, tOf_k, tAndD_k, tOrD_k, tNotD_k, eIf_k, eAndD_k, eOrD_k, eNotD_k, eCall_k, eLst_k, eTup_k, eTupK_k, sNil_k, sCons_k, sBreak_k, sCont_k, sIf_k, sSet_k, sRet_k, sRetN_k, sDrop_k, sAsg_k, itSeq_k, itRange1_k, itRange2_k, sFor_k, tYesD_k, eItem_k, pNone_k, pSome_k, eSlice_k, eM1_k, eGet1_k, eGet2_k, sPutK_k, sAppend_k, sSetI_k, eTupItems_k, bind_ok_k, bind_ex_k, so_ok_k, so_ex_k, then_nx_k, then_rt_k, then_ex_k, then_bk_k, then_ct_k, addD_int_k, subD_k, negD_k, eqD_str_k, neD_str_k, cmpD_k, item_lst_k, item_tup_k, isnt_tup_k, isnt_non_k, is_tup_k, is_non_k, vals_nil_k, vals_cons_k, mulD_l, mulD_r, modD_of, divD_of, eqD_int, neD_int, List.map_cons, List.map_nil, List.cons_append, List.nil_append, eCallO_k, sTry_k, sRaise_k, eChain_k, itEnum_k, eLM_k, isL_lst_k, isL_fz_k, eDisp_k, eWix_k, sRetT_k, giveAll_nil_k, giveAll_cons_k, tupAt_k, eIsiIt_k, sAppIt_k, sPar_k, defSemO_k, gone_nx_k, gone_rt_k, val_tup_k, bind_no_k, so_no_k, then_no_k, sSetF_k, eNewT_k, eInT_k, eGet2T_k, isDtOwn_k, isDt_dT, isDt_fz, lookOT_fz, sPutT_k, eFld_k, eMeth_k, fldK_k, eRead_k, sClear_k, sIns_k, eSpot_k, sNever_k, val_dT_k, val_obj_k, tCold_k, cold_k, cold_nil_k, cold_none_k, cold_ow_k, coldO_k, ha', hb', hm, hx', hn0, hsl, hv, hg, hnm, hrv, z1, z2, y1, y2, y0, r1, r2, q1, q0, o1, o2, o0, hls, hv2, hp, hpos, -List.map_map]
end K10

set_option Elab.async false
set_option linter.all false
set_option maxRecDepth 100000
set_option maxHeartbeats 4000000
namespace K10
open PySem L2 PySem.Spec PyProof.Rows DL
section
variable {P : Program} {w : World} {mg : Str → Option Value} {base : Heap} {c : Cs}
theorem chain {f : Addr} {fd : FuncData}  (S__law_cell_at : Src c.K mg "_law_cell_at" "_law_cell_at" s__law_cell_at ["_law_script", "_law_k"]) (S__law_entry : Src c.K mg "_law_entry" "_law_entry" s__law_entry ["_law_rows", "_law_place", "_law_number"]) (S__law_clash : Src c.K mg "_law_clash" "_law_clash" s__law_clash ["_law_one", "_law_other"]) (S__law_mixed : Src c.K mg "_law_mixed" "_law_mixed" s__law_mixed ["_law_cell", "_law_k"]) (S__law_term : Src c.K mg "_law_term" "_law_term" s__law_term ["_law_cell", "_law_names_here"]) (S__law_row : Src c.K mg "_law_row" "_law_row" s__law_row ["_law_cell", "_law_names_here"]) (S__law_good_rows : Src c.K mg "_law_good_rows" "_law_good_rows" s__law_good_rows ["_law_cells", "_law_names_here", "_law_first"]) (S__law_names : Src c.K mg "_law_names" "_law_names" s__law_names ["_law_cell"]) (S_need_alone : Src c.K mg "need_alone" "need_alone" s_need_alone ["row", "words"]) (S_layer_of : Src c.K mg "layer_of" "layer_of" s_layer_of ["rows", "number"]) (S_record : SrcM c "Spot" "record" "Spot.record" s_record ["self", "number"]) (S_entry : SrcM c "Spot" "entry" "Spot.entry" s_entry ["self", "number"]) (T_Spot_row : ClsF c "Spot" "row") (T_Spot_inner : ClsF c "Spot" "inner") {C_Spot f_init f_within : Addr} {fd_init fd_within : FuncData} (hcaS : c.ca "Spot" = some C_Spot) (hmS : mg "Spot" = some (.ref C_Spot)) (clS : Cls c.K C_Spot) (nrS : NoAttr c.K C_Spot "row") (niS : NoAttr c.K C_Spot "inner") (mkS : Mk c.K C_Spot f_init) (FI : Fun c.K "__init__" "Spot.__init__" s_init f_init fd_init) (bI : L2.Binds c.K fd_init ["self"] []) (mW : Meth c.K C_Spot "within" f_within) (FW : Fun c.K "within" "Spot.within" s_within f_within fd_within) (bW : L2.Binds c.K fd_within ["self", "place"] []) (F : Fun c.K "law" "law" s_law f fd) (z_any : mg "any" = none) (z_enumerate : mg "enumerate" = none) (z_int : mg "int" = none) (z_len : mg "len" = none) (z_list : mg "list" = none) (z_range : mg "range" = none) (z_repr : mg "repr" = none) (z_tuple : mg "tuple" = none) :
    FnG P w c.K mg base 12 f fd ["_law_script"] (spP c 1 (defSem 8 1 (g_law phA (phE 5) phG phM phNm phL))) := by
  have K_Spot : SpotK P w mg base c 1 := ⟨C_Spot, f_init, fd_init, hcaS, hmS, clS, nrS, niS, mkS, fn_init (k := 0) FI clS nrS niS, bI⟩
  have k_within : WithinK P w mg base c 3 := ⟨C_Spot, f_within, fd_within, hcaS, clS, nrS, mW, fn_within K_Spot FW, bW⟩
  have r0 : KnM P w mg base c 0 "Spot" "record" 2 (phV 0) := S_record.never
  have e0 : KnM P w mg base c 1 "Spot" "entry" 2 (phQ (phV 0)) := kn_entry S_entry r0 T_Spot_row
  have r1 : KnM P w mg base c 2 "Spot" "record" 2 (phV 1) := kn_record S_record e0 T_Spot_inner z_tuple
  have e1 : KnM P w mg base c 3 "Spot" "entry" 2 (phQ (phV 1)) := kn_entry S_entry r1 T_Spot_row
  have r2 : KnM P w mg base c 4 "Spot" "record" 2 (phV 2) := kn_record S_record e1 T_Spot_inner z_tuple
  have e2 : KnM P w mg base c 5 "Spot" "entry" 2 (phQ (phV 2)) := kn_entry S_entry r2 T_Spot_row
  have r3 : KnM P w mg base c 6 "Spot" "record" 2 (phV 3) := kn_record S_record e2 T_Spot_inner z_tuple
  have e3 : KnM P w mg base c 7 "Spot" "entry" 2 (phQ (phV 3)) := kn_entry S_entry r3 T_Spot_row
  have r4 : KnM P w mg base c 8 "Spot" "record" 2 (phV 4) := kn_record S_record e3 T_Spot_inner z_tuple
  have e4 : KnM P w mg base c 9 "Spot" "entry" 2 (phQ (phV 4)) := kn_entry S_entry r4 T_Spot_row
  have r5 : KnM P w mg base c 10 "Spot" "record" 2 (phV 5) := kn_record S_record e4 T_Spot_inner z_tuple
  have k_record := r5
  have k__law_cell_at : Kn P w mg base c 1 "_law_cell_at" 2 phA := kn__law_cell_at (k := 0) S__law_cell_at z_len
  have k__law_entry_0 : Kn P w mg base c 0 "_law_entry" 3 never := S__law_entry.never
  have k__law_entry_1 : Kn P w mg base c 1 "_law_entry" 3 (phE 1) := kn__law_entry (k := 0) S__law_entry k__law_entry_0 z_int z_len z_tuple
  have k__law_entry_2 : Kn P w mg base c 2 "_law_entry" 3 (phE 2) := kn__law_entry (k := 1) S__law_entry k__law_entry_1 z_int z_len z_tuple
  have k__law_entry_3 : Kn P w mg base c 3 "_law_entry" 3 (phE 3) := kn__law_entry (k := 2) S__law_entry k__law_entry_2 z_int z_len z_tuple
  have k__law_entry_4 : Kn P w mg base c 4 "_law_entry" 3 (phE 4) := kn__law_entry (k := 3) S__law_entry k__law_entry_3 z_int z_len z_tuple
  have k__law_entry : Kn P w mg base c 5 "_law_entry" 3 (phE 5) := kn__law_entry (k := 4) S__law_entry k__law_entry_4 z_int z_len z_tuple
  have k__law_clash : Kn P w mg base c 1 "_law_clash" 2 phC := kn__law_clash (k := 0) S__law_clash z_len
  have k__law_mixed : Kn P w mg base c 1 "_law_mixed" 2 phM := kn__law_mixed (k := 0) S__law_mixed 
  have k__law_term : Kn P w mg base c 2 "_law_term" 2 phT := kn__law_term (k := 1) S__law_term (k__law_mixed.up (by decide)) z_range z_tuple
  have k__law_row : Kn P w mg base c 3 "_law_row" 2 phR := kn__law_row (k := 2) S__law_row (k__law_mixed.up (by decide)) (k__law_term.up (by decide)) z_range z_tuple
  have k__law_good_rows : Kn P w mg base c 4 "_law_good_rows" 3 phG := kn__law_good_rows (k := 3) S__law_good_rows (k__law_clash.up (by decide)) (k__law_mixed.up (by decide)) (k__law_row.up (by decide)) z_enumerate
  have k__law_names : Kn P w mg base c 1 "_law_names" 1 phNm := kn__law_names (k := 0) S__law_names z_range
  have k_need_alone : Kn P w mg base c 1 "need_alone" 2 phN := kn_need_alone (k := 0) S_need_alone z_any z_len z_range
  have k_layer_of : Kn P w mg base c 11 "layer_of" 2 phL := kn_layer_of (k := 10) S_layer_of (k_need_alone.up (by decide)) (k_record.up (by decide)) K_Spot (by decide) (k_within.up (by decide))
  exact fn_law F (k__law_cell_at.up (by decide)) (k__law_entry.up (by decide)) (k__law_good_rows.up (by decide)) (k__law_mixed.up (by decide)) (k__law_names.up (by decide)) (k_layer_of.up (by decide)) z_list z_repr
end
theorem all_mk {l : PySem.W.OpenLaw} {w : World} {K : PySem.W.Frag} {h : Heap} {mg : Str → Option Value} {fa : Addr} (X : K.In h) (G : h.Ns mainGlobals mg) (hfa : mg "law" = some (.ref fa))
    {f_need_alone : Addr} {od_need_alone an_need_alone : Option Addr} {sl_need_alone : Array (Option Value)} {oc_need_alone kV_need_alone dc_need_alone pm_need_alone cd_need_alone ct_need_alone : Value} {f_layer_of : Addr} {od_layer_of an_layer_of : Option Addr} {sl_layer_of : Array (Option Value)} {oc_layer_of kV_layer_of dc_layer_of pm_layer_of cd_layer_of ct_layer_of : Value} {f__law_cell_at : Addr} {od__law_cell_at an__law_cell_at : Option Addr} {sl__law_cell_at : Array (Option Value)} {oc__law_cell_at kV__law_cell_at dc__law_cell_at pm__law_cell_at cd__law_cell_at ct__law_cell_at : Value} {f__law_mixed : Addr} {od__law_mixed an__law_mixed : Option Addr} {sl__law_mixed : Array (Option Value)} {oc__law_mixed kV__law_mixed dc__law_mixed pm__law_mixed cd__law_mixed ct__law_mixed : Value} {f__law_names : Addr} {od__law_names an__law_names : Option Addr} {sl__law_names : Array (Option Value)} {oc__law_names kV__law_names dc__law_names pm__law_names cd__law_names ct__law_names : Value} {f__law_term : Addr} {od__law_term an__law_term : Option Addr} {sl__law_term : Array (Option Value)} {oc__law_term kV__law_term dc__law_term pm__law_term cd__law_term ct__law_term : Value} {f__law_row : Addr} {od__law_row an__law_row : Option Addr} {sl__law_row : Array (Option Value)} {oc__law_row kV__law_row dc__law_row pm__law_row cd__law_row ct__law_row : Value} {f__law_clash : Addr} {od__law_clash an__law_clash : Option Addr} {sl__law_clash : Array (Option Value)} {oc__law_clash kV__law_clash dc__law_clash pm__law_clash cd__law_clash ct__law_clash : Value} {f__law_good_rows : Addr} {od__law_good_rows an__law_good_rows : Option Addr} {sl__law_good_rows : Array (Option Value)} {oc__law_good_rows kV__law_good_rows dc__law_good_rows pm__law_good_rows cd__law_good_rows ct__law_good_rows : Value} {f__law_entry : Addr} {od__law_entry an__law_entry : Option Addr} {sl__law_entry : Array (Option Value)} {oc__law_entry kV__law_entry dc__law_entry pm__law_entry cd__law_entry ct__law_entry : Value} {f_law : Addr} {od_law an_law : Option Addr} {sl_law : Array (Option Value)} {oc_law kV_law dc_law pm_law cd_law ct_law : Value} {C_Spot : Addr} {f_init : Addr} {od_init an_init : Option Addr} {sl_init : Array (Option Value)} {oc_init kV_init dc_init pm_init cd_init ct_init : Value} {f_within : Addr} {od_within an_within : Option Addr} {sl_within : Array (Option Value)} {oc_within kV_within dc_within pm_within cd_within ct_within : Value} {f_record : Addr} {od_record an_record : Option Addr} {sl_record : Array (Option Value)} {oc_record kV_record dc_record pm_record cd_record ct_record : Value} {f_entry : Addr} {od_entry an_entry : Option Addr} {sl_entry : Array (Option Value)} {oc_entry kV_entry dc_entry pm_entry cd_entry ct_entry : Value} 
    (a_need_alone : PySem.W.nsIn K mainGlobals "need_alone" = some (some (.ref f_need_alone))) (l_need_alone : K.lookup f_need_alone = some ⟨oc_need_alone, od_need_alone, .func (PySem.W.fnOf "need_alone" "need_alone" (defArgs s_need_alone) (defBody s_need_alone) (defScope s_need_alone) .none kV_need_alone dc_need_alone pm_need_alone an_need_alone cd_need_alone ct_need_alone), sl_need_alone⟩) (c_need_alone : PySem.W.codeIn K cd_need_alone "need_alone" = true) (k_need_alone : PySem.W.keepIn K (.ref f_need_alone) = true)
    (a_layer_of : PySem.W.nsIn K mainGlobals "layer_of" = some (some (.ref f_layer_of))) (l_layer_of : K.lookup f_layer_of = some ⟨oc_layer_of, od_layer_of, .func (PySem.W.fnOf "layer_of" "layer_of" (defArgs s_layer_of) (defBody s_layer_of) (defScope s_layer_of) .none kV_layer_of dc_layer_of pm_layer_of an_layer_of cd_layer_of ct_layer_of), sl_layer_of⟩) (c_layer_of : PySem.W.codeIn K cd_layer_of "layer_of" = true) (k_layer_of : PySem.W.keepIn K (.ref f_layer_of) = true)
    (a__law_cell_at : PySem.W.nsIn K mainGlobals "_law_cell_at" = some (some (.ref f__law_cell_at))) (l__law_cell_at : K.lookup f__law_cell_at = some ⟨oc__law_cell_at, od__law_cell_at, .func (PySem.W.fnOf "_law_cell_at" "_law_cell_at" (defArgs s__law_cell_at) (defBody s__law_cell_at) (defScope s__law_cell_at) .none kV__law_cell_at dc__law_cell_at pm__law_cell_at an__law_cell_at cd__law_cell_at ct__law_cell_at), sl__law_cell_at⟩) (c__law_cell_at : PySem.W.codeIn K cd__law_cell_at "_law_cell_at" = true) (k__law_cell_at : PySem.W.keepIn K (.ref f__law_cell_at) = true)
    (a__law_mixed : PySem.W.nsIn K mainGlobals "_law_mixed" = some (some (.ref f__law_mixed))) (l__law_mixed : K.lookup f__law_mixed = some ⟨oc__law_mixed, od__law_mixed, .func (PySem.W.fnOf "_law_mixed" "_law_mixed" (defArgs s__law_mixed) (defBody s__law_mixed) (defScope s__law_mixed) .none kV__law_mixed dc__law_mixed pm__law_mixed an__law_mixed cd__law_mixed ct__law_mixed), sl__law_mixed⟩) (c__law_mixed : PySem.W.codeIn K cd__law_mixed "_law_mixed" = true) (k__law_mixed : PySem.W.keepIn K (.ref f__law_mixed) = true)
    (a__law_names : PySem.W.nsIn K mainGlobals "_law_names" = some (some (.ref f__law_names))) (l__law_names : K.lookup f__law_names = some ⟨oc__law_names, od__law_names, .func (PySem.W.fnOf "_law_names" "_law_names" (defArgs s__law_names) (defBody s__law_names) (defScope s__law_names) .none kV__law_names dc__law_names pm__law_names an__law_names cd__law_names ct__law_names), sl__law_names⟩) (c__law_names : PySem.W.codeIn K cd__law_names "_law_names" = true) (k__law_names : PySem.W.keepIn K (.ref f__law_names) = true)
    (a__law_term : PySem.W.nsIn K mainGlobals "_law_term" = some (some (.ref f__law_term))) (l__law_term : K.lookup f__law_term = some ⟨oc__law_term, od__law_term, .func (PySem.W.fnOf "_law_term" "_law_term" (defArgs s__law_term) (defBody s__law_term) (defScope s__law_term) .none kV__law_term dc__law_term pm__law_term an__law_term cd__law_term ct__law_term), sl__law_term⟩) (c__law_term : PySem.W.codeIn K cd__law_term "_law_term" = true) (k__law_term : PySem.W.keepIn K (.ref f__law_term) = true)
    (a__law_row : PySem.W.nsIn K mainGlobals "_law_row" = some (some (.ref f__law_row))) (l__law_row : K.lookup f__law_row = some ⟨oc__law_row, od__law_row, .func (PySem.W.fnOf "_law_row" "_law_row" (defArgs s__law_row) (defBody s__law_row) (defScope s__law_row) .none kV__law_row dc__law_row pm__law_row an__law_row cd__law_row ct__law_row), sl__law_row⟩) (c__law_row : PySem.W.codeIn K cd__law_row "_law_row" = true) (k__law_row : PySem.W.keepIn K (.ref f__law_row) = true)
    (a__law_clash : PySem.W.nsIn K mainGlobals "_law_clash" = some (some (.ref f__law_clash))) (l__law_clash : K.lookup f__law_clash = some ⟨oc__law_clash, od__law_clash, .func (PySem.W.fnOf "_law_clash" "_law_clash" (defArgs s__law_clash) (defBody s__law_clash) (defScope s__law_clash) .none kV__law_clash dc__law_clash pm__law_clash an__law_clash cd__law_clash ct__law_clash), sl__law_clash⟩) (c__law_clash : PySem.W.codeIn K cd__law_clash "_law_clash" = true) (k__law_clash : PySem.W.keepIn K (.ref f__law_clash) = true)
    (a__law_good_rows : PySem.W.nsIn K mainGlobals "_law_good_rows" = some (some (.ref f__law_good_rows))) (l__law_good_rows : K.lookup f__law_good_rows = some ⟨oc__law_good_rows, od__law_good_rows, .func (PySem.W.fnOf "_law_good_rows" "_law_good_rows" (defArgs s__law_good_rows) (defBody s__law_good_rows) (defScope s__law_good_rows) .none kV__law_good_rows dc__law_good_rows pm__law_good_rows an__law_good_rows cd__law_good_rows ct__law_good_rows), sl__law_good_rows⟩) (c__law_good_rows : PySem.W.codeIn K cd__law_good_rows "_law_good_rows" = true) (k__law_good_rows : PySem.W.keepIn K (.ref f__law_good_rows) = true)
    (a__law_entry : PySem.W.nsIn K mainGlobals "_law_entry" = some (some (.ref f__law_entry))) (l__law_entry : K.lookup f__law_entry = some ⟨oc__law_entry, od__law_entry, .func (PySem.W.fnOf "_law_entry" "_law_entry" (defArgs s__law_entry) (defBody s__law_entry) (defScope s__law_entry) .none kV__law_entry dc__law_entry pm__law_entry an__law_entry cd__law_entry ct__law_entry), sl__law_entry⟩) (c__law_entry : PySem.W.codeIn K cd__law_entry "_law_entry" = true) (k__law_entry : PySem.W.keepIn K (.ref f__law_entry) = true)
    (a_law : PySem.W.nsIn K mainGlobals "law" = some (some (.ref f_law))) (l_law : K.lookup f_law = some ⟨oc_law, od_law, .func (PySem.W.fnOf "law" "law" (defArgs s_law) (defBody s_law) (defScope s_law) .none kV_law dc_law pm_law an_law cd_law ct_law), sl_law⟩) (c_law : PySem.W.codeIn K cd_law "law" = true) (k_law : PySem.W.keepIn K (.ref f_law) = true)
    (z_any : PySem.W.nsIn K mainGlobals "any" = some none)
    (z_enumerate : PySem.W.nsIn K mainGlobals "enumerate" = some none)
    (z_int : PySem.W.nsIn K mainGlobals "int" = some none)
    (z_len : PySem.W.nsIn K mainGlobals "len" = some none)
    (z_list : PySem.W.nsIn K mainGlobals "list" = some none)
    (z_range : PySem.W.nsIn K mainGlobals "range" = some none)
    (z_repr : PySem.W.nsIn K mainGlobals "repr" = some none)
    (z_tuple : PySem.W.nsIn K mainGlobals "tuple" = some none)
    (ga_Spot : PySem.W.nsIn K mainGlobals "Spot" = some (some (.ref C_Spot))) (gk_Spot : PySem.W.keepIn K (.ref C_Spot) = true) (pgS : PySem.W.plainGet K C_Spot Str.empty = true) (hdS : PySem.W.hasDictIn K C_Spot = true) (poS : PySem.W.plainOver K C_Spot = true) (saS : PySem.W.findIn K (.ref C_Spot) "__setattr__" = some (some (.builtin "object.__setattr__"))) (miS : PySem.W.makesIn K C_Spot = true) (nrS : PySem.W.findIn K (.ref C_Spot) "row" = some none) (niS : PySem.W.findIn K (.ref C_Spot) "inner" = some none)
    (a_init : PySem.W.findIn K (.ref C_Spot) "__init__" = some (some (.ref f_init))) (i_init : PySem.W.isFn K (.ref f_init) = true) (l_init : K.lookup f_init = some ⟨oc_init, od_init, .func (PySem.W.fnOf "__init__" "Spot.__init__" (defArgs s_init) (defBody s_init) (defScope s_init) .none kV_init dc_init pm_init an_init cd_init ct_init), sl_init⟩) (c_init : PySem.W.codeIn K cd_init "Spot.__init__" = true) (k_init : PySem.W.keepIn K (.ref f_init) = true)
    (a_within : PySem.W.findIn K (.ref C_Spot) "within" = some (some (.ref f_within))) (i_within : PySem.W.isFn K (.ref f_within) = true) (l_within : K.lookup f_within = some ⟨oc_within, od_within, .func (PySem.W.fnOf "within" "Spot.within" (defArgs s_within) (defBody s_within) (defScope s_within) .none kV_within dc_within pm_within an_within cd_within ct_within), sl_within⟩) (c_within : PySem.W.codeIn K cd_within "Spot.within" = true) (k_within : PySem.W.keepIn K (.ref f_within) = true)
    (a_record : PySem.W.findIn K (.ref C_Spot) "record" = some (some (.ref f_record))) (i_record : PySem.W.isFn K (.ref f_record) = true) (l_record : K.lookup f_record = some ⟨oc_record, od_record, .func (PySem.W.fnOf "record" "Spot.record" (defArgs s_record) (defBody s_record) (defScope s_record) .none kV_record dc_record pm_record an_record cd_record ct_record), sl_record⟩) (c_record : PySem.W.codeIn K cd_record "Spot.record" = true) (k_record : PySem.W.keepIn K (.ref f_record) = true)
    (a_entry : PySem.W.findIn K (.ref C_Spot) "entry" = some (some (.ref f_entry))) (i_entry : PySem.W.isFn K (.ref f_entry) = true) (l_entry : K.lookup f_entry = some ⟨oc_entry, od_entry, .func (PySem.W.fnOf "entry" "Spot.entry" (defArgs s_entry) (defBody s_entry) (defScope s_entry) .none kV_entry dc_entry pm_entry an_entry cd_entry ct_entry), sl_entry⟩) (c_entry : PySem.W.codeIn K cd_entry "Spot.entry" = true) (k_entry : PySem.W.keepIn K (.ref f_entry) = true) :
    ∃ fd : FuncData, (∀ (s : Shared) (v : Value), BindsTo s fd ⟨[v], []⟩ [("_law_script", v)]) ∧ ∀ base : Heap, K.In base → base.Ns mainGlobals mg → ∃ ca, FnG l.prog w K mg base 12 fa fd ["_law_script"] (spP ⟨K, ca⟩ 1 (defSem 8 1 (g_law phA (phE 5) phG phM phNm phL))) := by
  have e := hfa.symm.trans (PySem.W.mg_of X G a_law)
  cases e
  have S_need_alone : Src K mg "need_alone" "need_alone" s_need_alone ["row", "words"] := src_mk X G a_need_alone l_need_alone c_need_alone k_need_alone fun _ _ _ _ _ _ us hl => match us, hl with | [_, _], _ => rfl
  have S_layer_of : Src K mg "layer_of" "layer_of" s_layer_of ["rows", "number"] := src_mk X G a_layer_of l_layer_of c_layer_of k_layer_of fun _ _ _ _ _ _ us hl => match us, hl with | [_, _], _ => rfl
  have S__law_cell_at : Src K mg "_law_cell_at" "_law_cell_at" s__law_cell_at ["_law_script", "_law_k"] := src_mk X G a__law_cell_at l__law_cell_at c__law_cell_at k__law_cell_at fun _ _ _ _ _ _ us hl => match us, hl with | [_, _], _ => rfl
  have S__law_mixed : Src K mg "_law_mixed" "_law_mixed" s__law_mixed ["_law_cell", "_law_k"] := src_mk X G a__law_mixed l__law_mixed c__law_mixed k__law_mixed fun _ _ _ _ _ _ us hl => match us, hl with | [_, _], _ => rfl
  have S__law_names : Src K mg "_law_names" "_law_names" s__law_names ["_law_cell"] := src_mk X G a__law_names l__law_names c__law_names k__law_names fun _ _ _ _ _ _ us hl => match us, hl with | [_], _ => rfl
  have S__law_term : Src K mg "_law_term" "_law_term" s__law_term ["_law_cell", "_law_names_here"] := src_mk X G a__law_term l__law_term c__law_term k__law_term fun _ _ _ _ _ _ us hl => match us, hl with | [_, _], _ => rfl
  have S__law_row : Src K mg "_law_row" "_law_row" s__law_row ["_law_cell", "_law_names_here"] := src_mk X G a__law_row l__law_row c__law_row k__law_row fun _ _ _ _ _ _ us hl => match us, hl with | [_, _], _ => rfl
  have S__law_clash : Src K mg "_law_clash" "_law_clash" s__law_clash ["_law_one", "_law_other"] := src_mk X G a__law_clash l__law_clash c__law_clash k__law_clash fun _ _ _ _ _ _ us hl => match us, hl with | [_, _], _ => rfl
  have S__law_good_rows : Src K mg "_law_good_rows" "_law_good_rows" s__law_good_rows ["_law_cells", "_law_names_here", "_law_first"] := src_mk X G a__law_good_rows l__law_good_rows c__law_good_rows k__law_good_rows fun _ _ _ _ _ _ us hl => match us, hl with | [_, _, _], _ => rfl
  have S__law_entry : Src K mg "_law_entry" "_law_entry" s__law_entry ["_law_rows", "_law_place", "_law_number"] := src_mk X G a__law_entry l__law_entry c__law_entry k__law_entry fun _ _ _ _ _ _ us hl => match us, hl with | [_, _, _], _ => rfl
  have S_law : Src K mg "law" "law" s_law ["_law_script"] := src_mk X G a_law l_law c_law k_law fun _ _ _ _ _ _ us hl => match us, hl with | [_], _ => rfl
  have y_any := PySem.W.mg_none_of X G z_any
  have y_enumerate := PySem.W.mg_none_of X G z_enumerate
  have y_int := PySem.W.mg_none_of X G z_int
  have y_len := PySem.W.mg_none_of X G z_len
  have y_list := PySem.W.mg_none_of X G z_list
  have y_range := PySem.W.mg_none_of X G z_range
  have y_repr := PySem.W.mg_none_of X G z_repr
  have y_tuple := PySem.W.mg_none_of X G z_tuple
  have F := fun_mk (st := s_law) l_law c_law k_law
  have clS : Cls K C_Spot := ⟨pgS, hdS, poS, saS⟩
  have FI := fun_mk (st := s_init) l_init c_init k_init
  have FW := fun_mk (st := s_within) l_within c_within k_within
  have bI := FI.binds (ps := ["self"]) fun _ _ _ _ _ _ us hl => match us, hl with | [_], _ => rfl
  have bW := FW.binds (ps := ["self", "place"]) fun _ _ _ _ _ _ us hl => match us, hl with | [_, _], _ => rfl
  have S_record : SrcM ⟨K, assoc [("Spot", C_Spot)]⟩ "Spot" "record" "Spot.record" s_record ["self", "number"] := srcM_mk rfl clS a_record i_record l_record c_record k_record fun _ _ _ _ _ _ us hl => match us, hl with | [_, _], _ => rfl
  have S_entry : SrcM ⟨K, assoc [("Spot", C_Spot)]⟩ "Spot" "entry" "Spot.entry" s_entry ["self", "number"] := srcM_mk rfl clS a_entry i_entry l_entry c_entry k_entry fun _ _ _ _ _ _ us hl => match us, hl with | [_, _], _ => rfl
  have T_row : ClsF ⟨K, assoc [("Spot", C_Spot)]⟩ "Spot" "row" := fun C e => by cases (show some C_Spot = some C from e); exact ⟨clS, nrS⟩
  have T_inner : ClsF ⟨K, assoc [("Spot", C_Spot)]⟩ "Spot" "inner" := fun C e => by cases (show some C_Spot = some C from e); exact ⟨clS, niS⟩
  have hcaS : (⟨K, assoc [("Spot", C_Spot)]⟩ : Cs).ca "Spot" = some C_Spot := rfl
  exact ⟨PySem.W.fnOf "law" "law" (defArgs s_law) (defBody s_law) (defScope s_law) .none kV_law dc_law pm_law an_law cd_law ct_law, fun s v => .of_eq rfl, fun base _ _ => ⟨assoc [("Spot", C_Spot)], chain (c := ⟨K, assoc [("Spot", C_Spot)]⟩) S__law_cell_at S__law_entry S__law_clash S__law_mixed S__law_term S__law_row S__law_good_rows S__law_names S_need_alone S_layer_of S_record S_entry T_row T_inner hcaS (PySem.W.mg_of X G ga_Spot) clS nrS niS ⟨miS, a_init, i_init, gk_Spot⟩ FI bI ⟨a_within, i_within, k_within⟩ FW bW F y_any y_enumerate y_int y_len y_list y_range y_repr y_tuple⟩⟩
theorem law_true (ns : List Int) (h : ns.length ≤ 63) : defSem 8 1 (g_law phA (phE 5) phG phM phNm phL) [.lst (ns.map .int)] = .ok (.fz (.bl true)) :=
  sem_law ns h
end K10
open PySem PySem.W PyProof.Rows
set_option maxRecDepth 100000 in
set_option maxHeartbeats 0 in
theorem PySem.Challenge.cw_layerwise_k10_layers_of_rows_holds : PySem.Challenge.rw_layerwise_k10_layers_of_rows.Holds := by
  w_on; o_law; k_head; (case hw => w_witness2)
  k_fill
  refine DL.walkL (l := PySem.Challenge.rw_layerwise_k10_layers_of_rows) (k := 12) (x := "_law_script") rfl rfl ⟨rfl, by decide, by decide⟩ (fun w h Y => PySem.W.kIn_of Y) ?F K10.law_true
  case F =>
    intro w mg fa h KX G hmg
    refine' K10.all_mk KX G hmg ?a_need_alone ?l_need_alone ?c_need_alone ?k_need_alone ?a_layer_of ?l_layer_of ?c_layer_of ?k_layer_of ?a__law_cell_at ?l__law_cell_at ?c__law_cell_at ?k__law_cell_at ?a__law_mixed ?l__law_mixed ?c__law_mixed ?k__law_mixed ?a__law_names ?l__law_names ?c__law_names ?k__law_names ?a__law_term ?l__law_term ?c__law_term ?k__law_term ?a__law_row ?l__law_row ?c__law_row ?k__law_row ?a__law_clash ?l__law_clash ?c__law_clash ?k__law_clash ?a__law_good_rows ?l__law_good_rows ?c__law_good_rows ?k__law_good_rows ?a__law_entry ?l__law_entry ?c__law_entry ?k__law_entry ?a_law ?l_law ?c_law ?k_law ?z_any ?z_enumerate ?z_int ?z_len ?z_list ?z_range ?z_repr ?z_tuple ?ga_Spot ?gk_Spot ?pgS ?hdS ?poS ?saS ?miS ?nrS ?niS ?a_init ?i_init ?l_init ?c_init ?k_init ?a_within ?i_within ?l_within ?c_within ?k_within ?a_record ?i_record ?l_record ?c_record ?k_record ?a_entry ?i_entry ?l_entry ?c_entry ?k_entry
    (case a_need_alone => k_is)
    (case l_need_alone => k_is)
    (case c_need_alone => k_is)
    (case k_need_alone => k_is)
    (case a_layer_of => k_is)
    (case l_layer_of => k_is)
    (case c_layer_of => k_is)
    (case k_layer_of => k_is)
    (case a__law_cell_at => k_is)
    (case l__law_cell_at => k_is)
    (case c__law_cell_at => k_is)
    (case k__law_cell_at => k_is)
    (case a__law_mixed => k_is)
    (case l__law_mixed => k_is)
    (case c__law_mixed => k_is)
    (case k__law_mixed => k_is)
    (case a__law_names => k_is)
    (case l__law_names => k_is)
    (case c__law_names => k_is)
    (case k__law_names => k_is)
    (case a__law_term => k_is)
    (case l__law_term => k_is)
    (case c__law_term => k_is)
    (case k__law_term => k_is)
    (case a__law_row => k_is)
    (case l__law_row => k_is)
    (case c__law_row => k_is)
    (case k__law_row => k_is)
    (case a__law_clash => k_is)
    (case l__law_clash => k_is)
    (case c__law_clash => k_is)
    (case k__law_clash => k_is)
    (case a__law_good_rows => k_is)
    (case l__law_good_rows => k_is)
    (case c__law_good_rows => k_is)
    (case k__law_good_rows => k_is)
    (case a__law_entry => k_is)
    (case l__law_entry => k_is)
    (case c__law_entry => k_is)
    (case k__law_entry => k_is)
    (case a_law => k_is)
    (case l_law => k_is)
    (case c_law => k_is)
    (case k_law => k_is)
    (case z_any => k_is)
    (case z_enumerate => k_is)
    (case z_int => k_is)
    (case z_len => k_is)
    (case z_list => k_is)
    (case z_range => k_is)
    (case z_repr => k_is)
    (case z_tuple => k_is)
    (case ga_Spot => k_is)
    (case gk_Spot => k_is)
    (case pgS => k_is)
    (case hdS => k_is)
    (case poS => k_is)
    (case saS => k_is)
    (case miS => k_is)
    (case nrS => k_is)
    (case niS => k_is)
    (case a_init => k_is)
    (case i_init => k_is)
    (case l_init => k_is)
    (case c_init => k_is)
    (case k_init => k_is)
    (case a_within => k_is)
    (case i_within => k_is)
    (case l_within => k_is)
    (case c_within => k_is)
    (case k_within => k_is)
    (case a_record => k_is)
    (case i_record => k_is)
    (case l_record => k_is)
    (case c_record => k_is)
    (case k_record => k_is)
    (case a_entry => k_is)
    (case i_entry => k_is)
    (case l_entry => k_is)
    (case c_entry => k_is)
    (case k_entry => k_is)
