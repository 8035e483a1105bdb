import PyProof.Rows.All
import Wide.All
import OpenK.AllK
import Wide.FinOn
import HandS.ForMost
import HandS.ForExc
import PyProof.ReprRoads
import HandS.TupAny
import HandS.Style
import HandS.IsInst
import HandS.Wide
import HandS.ListItems
import PySem.Challenge.RW_layerwise_k12_joined_two_by_two
set_option Elab.async false
set_option linter.all false
set_option maxRecDepth 100000
set_option maxHeartbeats 2000000
/-! DL, part A: data as trees, frozen and owned; frames of trees; steps of heaps. -/
namespace DL
open PySem L2

/-- data that stands still; a tuple's k: its very object is known -/
inductive D where
  | non | bl (b : Bool) | int (i : Int) | str (x : Str)
  | tup (k : Bool) (ds : List D) | lst (ds : List D)
  | dK (ks : List Key) (ds : List D) | dT (ks : List (List Key)) (ds : List D)
  | obj (c : Str) (ns : List Str) (ds : List D)
  deriving Inhabited
/-- data of which the outer parts may be changed by whoever holds it -/
inductive O where
  | fz (d : D)
  | lst (os : List O)
  | dK (ks : List Key) (os : List O) | dT (ks : List (List Key)) (os : List O)
  | obj (c : Str) (ns : List Str) (os : List O)
  deriving Inhabited
mutual
def O.val : O → D
  | .fz d => d
  | .lst os => .lst (vals os)
  | .dK ks os => .dK ks (vals os)
  | .dT ks os => .dT ks (vals os)
  | .obj c ns os => .obj c ns (vals os)
def vals : List O → List D
  | [] => []
  | o :: os => o.val :: vals os
end
theorem vals_eq : ∀ os : List O, vals os = os.map O.val
  | [] => rfl
  | o :: os => by unfold vals; rw [vals_eq os]; rfl
theorem vals_fz (ds : List D) : vals (ds.map O.fz) = ds := by
  induction ds with
  | nil => rfl
  | cons d ds ih => unfold vals; rw [List.map_cons]; show O.val (.fz d) :: vals (ds.map O.fz) = _; rw [ih]; rfl

theorem noK {P : Prop} (e : false = true) : P := Bool.noConfusion e
/-- what does not change with the heap -/
structure Cs where
  K : PySem.W.Frag
  ca : Str → Option Addr

def Sub (F H : Hp) : Prop := ∀ b o, F b = some o → H b = some o
theorem Sub.refl (F : Hp) : Sub F F := fun _ _ h => h
theorem Sub.trans {F G H : Hp} (a : Sub F G) (b : Sub G H) : Sub F H := fun x o h => b x o (a x o h)
theorem Sub.sqL {c : Cs} {F G : Hp} {a : Addr} {xs : List V} (s : Sub F G) (h : SqL c.K F a xs) : SqL c.K G a xs := Same.seq (K := c.K) s h
theorem Sub.sqT {c : Cs} {F G : Hp} {a : Addr} {xs : List V} (s : Sub F G) (h : SqT c.K F a xs) : SqT c.K G a xs := by
  rcases h with (h | ⟨o, h⟩) | h
  · exact .inl (.inl (s _ _ h))
  · exact .inl (.inr ⟨o, s _ _ h⟩)
  · exact .inr h

mutual
inductive Fz (c : Cs) (F : Hp) : V → D → Prop
  | non : Fz c F .non .non
  | bl {b : Bool} : Fz c F (.bl b) (.bl b)
  | int {i : Int} : Fz c F (.int i) (.int i)
  | str {x : Str} : Fz c F (.str x) (.str x)
  | tup {a : Addr} {xs : List V} {k : Bool} {ds : List D} : SqT c.K F a xs → (k = true → ∃ o, F a = some (.frz o (.tup xs)) ∧ o.dict = none) → FzAll c F xs ds → Fz c F (.ref a) (.tup k ds)
  | lst {a : Addr} {xs : List V} {ds : List D} : SqL c.K F a xs → FzAll c F xs ds → Fz c F (.ref a) (.lst ds)
  | dK {a : Addr} {kvs : List (Key × V)} {ks : List Key} {ds : List D} : F a = some (.dK kvs) → kvs.map (·.1) = ks → FzAll c F (kvs.map (·.2)) ds → Fz c F (.ref a) (.dK ks ds)
  | dT {a : Addr} {kvs : List (List Key × V)} {ks : List (List Key)} {ds : List D} : F a = some (.dT kvs) → kvs.map (·.1) = ks → FzAll c F (kvs.map (·.2)) ds → Fz c F (.ref a) (.dT ks ds)
  | obj {a C dx : Addr} {fs : List (Str × V)} {n : Str} {ns : List Str} {ds : List D} : c.ca n = some C → F a = some (.ins C dx fs) → fs.map (·.1) = ns → FzAll c F (fs.map (·.2)) ds → Fz c F (.ref a) (.obj n ns ds)
inductive FzAll (c : Cs) (F : Hp) : List V → List D → Prop
  | nil : FzAll c F [] []
  | cons {v : V} {vs : List V} {d : D} {ds : List D} : Fz c F v d → FzAll c F vs ds → FzAll c F (v :: vs) (d :: ds)
end
mutual
inductive Ow (c : Cs) (F H : Hp) : List Addr → V → O → Prop
  | fz {v : V} {d : D} : Fz c F v d → Ow c F H [] v (.fz d)
  | lst {a : Addr} {fp : List Addr} {xs : List V} {os : List O} : H a = some (.lst xs) → F a = none → a ∉ fp → OwAll c F H fp xs os → Ow c F H (a :: fp) (.ref a) (.lst os)
  | dK {a : Addr} {fp : List Addr} {kvs : List (Key × V)} {ks : List Key} {os : List O} : H a = some (.dK kvs) → F a = none → a ∉ fp → kvs.map (·.1) = ks → OwAll c F H fp (kvs.map (·.2)) os → Ow c F H (a :: fp) (.ref a) (.dK ks os)
  | dT {a : Addr} {fp : List Addr} {kvs : List (List Key × V)} {ks : List (List Key)} {os : List O} : H a = some (.dT kvs) → F a = none → a ∉ fp → kvs.map (·.1) = ks → OwAll c F H fp (kvs.map (·.2)) os → Ow c F H (a :: fp) (.ref a) (.dT ks os)
  | obj {a C dx : Addr} {fp : List Addr} {fs : List (Str × V)} {n : Str} {ns : List Str} {os : List O} : c.ca n = some C → H a = some (.ins C dx fs) → F a = none → a ∉ fp → fs.map (·.1) = ns → OwAll c F H fp (fs.map (·.2)) os → Ow c F H (a :: fp) (.ref a) (.obj n ns os)
inductive OwAll (c : Cs) (F H : Hp) : List Addr → List V → List O → Prop
  | nil : OwAll c F H [] [] []
  | cons {v : V} {vs : List V} {o : O} {os : List O} {fp fq : List Addr} : Ow c F H fp v o → OwAll c F H fq vs os → (∀ b ∈ fp, b ∉ fq) → OwAll c F H (fp ++ fq) (v :: vs) (o :: os)
end

section
variable {c : Cs} {F G H H' : Hp}
mutual
theorem Fz.mono (s : Sub F G) : ∀ {v : V} {d : D}, Fz c F v d → Fz c G v d
  | _, _, .non => .non
  | _, _, .bl => .bl
  | _, _, .int => .int
  | _, _, .str => .str
  | _, _, .tup h k r => .tup (s.sqT h) (fun e => let ⟨o, p, q⟩ := k e; ⟨o, s _ _ p, q⟩) (FzAll.mono s r)
  | _, _, .lst h r => .lst (s.sqL h) (FzAll.mono s r)
  | _, _, .dK h e r => .dK (s _ _ h) e (FzAll.mono s r)
  | _, _, .dT h e r => .dT (s _ _ h) e (FzAll.mono s r)
  | _, _, .obj k h e r => .obj k (s _ _ h) e (FzAll.mono s r)
theorem FzAll.mono (s : Sub F G) : ∀ {vs : List V} {ds : List D}, FzAll c F vs ds → FzAll c G vs ds
  | _, _, .nil => .nil
  | _, _, .cons h r => .cons (Fz.mono s h) (FzAll.mono s r)
end
theorem FzAll.length : ∀ {vs : List V} {ds : List D}, FzAll c F vs ds → vs.length = ds.length
  | _, _, .nil => rfl
  | _, _, .cons _ r => by rw [List.length_cons, List.length_cons, FzAll.length r]
theorem FzAll.get : ∀ {vs : List V} {ds : List D} {i : Nat} {d : D}, FzAll c F vs ds → ds[i]? = some d → ∃ v, vs[i]? = some v ∧ Fz c F v d
  | _, _, _, _, .nil, e => by simp at e
  | _, _, 0, _, .cons h _, e => by simp at e; subst e; exact ⟨_, rfl, h⟩
  | _, _, i + 1, _, .cons _ r, e => by
    obtain ⟨v, h1, h2⟩ := FzAll.get (i := i) r (by simpa using e)
    exact ⟨v, by simpa using h1, h2⟩
theorem FzAll.getV : ∀ {vs : List V} {ds : List D} {i : Nat} {v : V}, FzAll c F vs ds → vs[i]? = some v → ∃ d, ds[i]? = some d ∧ Fz c F v d
  | _, _, _, _, .nil, e => by simp at e
  | _, _, 0, _, .cons h _, e => by simp at e; subst e; exact ⟨_, rfl, h⟩
  | _, _, i + 1, _, .cons _ r, e => by
    obtain ⟨v, h1, h2⟩ := FzAll.getV (i := i) r (by simpa using e)
    exact ⟨v, by simpa using h1, h2⟩
theorem FzAll.append : ∀ {vs ws : List V} {ds es : List D}, FzAll c F vs ds → FzAll c F ws es → FzAll c F (vs ++ ws) (ds ++ es)
  | _, _, _, _, .nil, s => s
  | _, _, _, _, .cons h r, s => .cons h (FzAll.append r s)
theorem FzAll.take : ∀ {vs : List V} {ds : List D} (n : Nat), FzAll c F vs ds → FzAll c F (vs.take n) (ds.take n)
  | _, _, 0, _ => by simp; exact .nil
  | _, _, n + 1, .nil => .nil
  | _, _, n + 1, .cons h r => .cons h (FzAll.take n r)
theorem FzAll.drop : ∀ {vs : List V} {ds : List D} (n : Nat), FzAll c F vs ds → FzAll c F (vs.drop n) (ds.drop n)
  | _, _, 0, r => r
  | _, _, n + 1, .nil => .nil
  | _, _, n + 1, .cons h r => FzAll.drop n r
mutual
/-- the whole is looked at by any heap that agrees at its own places -/
theorem Ow.look (s : Sub F G) : ∀ {fp : List Addr} {v : V} {o : O}, Ow c F H fp v o → (∀ b ∈ fp, G b = H b) → Fz c G v o.val
  | _, _, _, .fz h, _ => h.mono s
  | _, _, _, .lst (a := a) h n z r, e => .lst (SqL.of ((e a List.mem_cons_self).trans h)) (OwAll.look s r fun b hb => e b (List.mem_cons_of_mem _ hb))
  | _, _, _, .dK (a := a) h n z k r, e => .dK ((e a List.mem_cons_self).trans h) k (OwAll.look s r fun b hb => e b (List.mem_cons_of_mem _ hb))
  | _, _, _, .dT (a := a) h n z k r, e => .dT ((e a List.mem_cons_self).trans h) k (OwAll.look s r fun b hb => e b (List.mem_cons_of_mem _ hb))
  | _, _, _, .obj (a := a) ca h n z k r, e => .obj ca ((e a List.mem_cons_self).trans h) k (OwAll.look s r fun b hb => e b (List.mem_cons_of_mem _ hb))
theorem OwAll.look (s : Sub F G) : ∀ {fp : List Addr} {vs : List V} {os : List O}, OwAll c F H fp vs os → (∀ b ∈ fp, G b = H b) → FzAll c G vs (vals os)
  | _, _, _, .nil, _ => .nil
  | _, _, _, .cons h r z, e => .cons (Ow.look s h fun b hb => e b (List.mem_append_left _ hb)) (OwAll.look s r fun b hb => e b (List.mem_append_right _ hb))
end
mutual
/-- .. and stands as it is while nobody else touches it -/
theorem Ow.keep (s : Sub F G) : ∀ {fp : List Addr} {v : V} {o : O}, Ow c F H fp v o → (∀ b ∈ fp, G b = none) → (∀ b ∈ fp, H' b = H b) → Ow c G H' fp v o
  | _, _, _, .fz h, _, _ => .fz (h.mono s)
  | _, _, _, .lst (a := a) h n z r, g, e => .lst ((e a List.mem_cons_self).trans h) (g a List.mem_cons_self) z (OwAll.keep s r (fun b hb => g b (List.mem_cons_of_mem _ hb)) fun b hb => e b (List.mem_cons_of_mem _ hb))
  | _, _, _, .dK (a := a) h n z k r, g, e => .dK ((e a List.mem_cons_self).trans h) (g a List.mem_cons_self) z k (OwAll.keep s r (fun b hb => g b (List.mem_cons_of_mem _ hb)) fun b hb => e b (List.mem_cons_of_mem _ hb))
  | _, _, _, .dT (a := a) h n z k r, g, e => .dT ((e a List.mem_cons_self).trans h) (g a List.mem_cons_self) z k (OwAll.keep s r (fun b hb => g b (List.mem_cons_of_mem _ hb)) fun b hb => e b (List.mem_cons_of_mem _ hb))
  | _, _, _, .obj (a := a) ca h n z k r, g, e => .obj ca ((e a List.mem_cons_self).trans h) (g a List.mem_cons_self) z k (OwAll.keep s r (fun b hb => g b (List.mem_cons_of_mem _ hb)) fun b hb => e b (List.mem_cons_of_mem _ hb))
theorem OwAll.keep (s : Sub F G) : ∀ {fp : List Addr} {vs : List V} {os : List O}, OwAll c F H fp vs os → (∀ b ∈ fp, G b = none) → (∀ b ∈ fp, H' b = H b) → OwAll c G H' fp vs os
  | _, _, _, .nil, _, _ => .nil
  | _, _, _, .cons h r z, g, e => .cons (Ow.keep s h (fun b hb => g b (List.mem_append_left _ hb)) fun b hb => e b (List.mem_append_left _ hb)) (OwAll.keep s r (fun b hb => g b (List.mem_append_right _ hb)) fun b hb => e b (List.mem_append_right _ hb)) z
end
mutual
theorem Ow.has : ∀ {fp : List Addr} {v : V} {o : O}, Ow c F H fp v o → ∀ b ∈ fp, F b = none ∧ H b ≠ none
  | _, _, _, .fz h, _, hb => nomatch hb
  | _, _, _, .lst h n z r, b, hb => by
    rcases List.mem_cons.mp hb with rfl | hb
    · exact ⟨n, by rw [h]; intro q; cases q⟩
    · exact OwAll.has r b hb
  | _, _, _, .dK h n z k r, b, hb => by
    rcases List.mem_cons.mp hb with rfl | hb
    · exact ⟨n, by rw [h]; intro q; cases q⟩
    · exact OwAll.has r b hb
  | _, _, _, .dT h n z k r, b, hb => by
    rcases List.mem_cons.mp hb with rfl | hb
    · exact ⟨n, by rw [h]; intro q; cases q⟩
    · exact OwAll.has r b hb
  | _, _, _, .obj ca h n z k r, b, hb => by
    rcases List.mem_cons.mp hb with rfl | hb
    · exact ⟨n, by rw [h]; intro q; cases q⟩
    · exact OwAll.has r b hb
theorem OwAll.has : ∀ {fp : List Addr} {vs : List V} {os : List O}, OwAll c F H fp vs os → ∀ b ∈ fp, F b = none ∧ H b ≠ none
  | _, _, _, .nil, _, hb => nomatch hb
  | _, _, _, .cons h r z, b, hb => by
    rcases List.mem_append.mp hb with hb | hb
    · exact Ow.has h b hb
    · exact OwAll.has r b hb
end
theorem OwAll.length : ∀ {fp : List Addr} {vs : List V} {os : List O}, OwAll c F H fp vs os → vs.length = os.length
  | _, _, _, .nil => rfl
  | _, _, _, .cons _ r _ => by rw [List.length_cons, List.length_cons, OwAll.length r]
theorem FzAll.ow : ∀ {vs : List V} {ds : List D}, FzAll c F vs ds → OwAll c F H [] vs (ds.map O.fz)
  | _, _, .nil => .nil
  | _, _, .cons h r => OwAll.cons (fp := []) (fq := []) (.fz h) (FzAll.ow r) fun _ hb => nomatch hb
theorem OwAll.append : ∀ {fp fq : List Addr} {vs ws : List V} {os ps : List O}, OwAll c F H fp vs os → OwAll c F H fq ws ps → (∀ b ∈ fp, b ∉ fq) → OwAll c F H (fp ++ fq) (vs ++ ws) (os ++ ps)
  | _, _, _, _, _, _, .nil, s, _ => s
  | _, _, _, _, _, _, .cons (fp := fp) (fq := fq') h r z, s, e => by
    rw [List.append_assoc]
    refine .cons h (OwAll.append r s fun b hb => e b (List.mem_append_right _ hb)) fun b hb => ?_
    intro q
    rcases List.mem_append.mp q with q | q
    · exact z b hb q
    · exact e b (List.mem_append_left _ hb) q
end

/-! ### steps of the heap: fp: what may be touched ahead, fp': what is held behind -/
structure Stp (F H : Hp) (fp : List Addr) (F' H' : Hp) (fp' : List Addr) : Prop where
  fh : Sub F' H'
  ff : Sub F F'
  keep : ∀ b o, H b = some o → b ∉ fp → H' b = some o
  newF : ∀ b, H b ≠ none → b ∉ fp → F b = none → F' b = none
  newP : ∀ b ∈ fp', b ∈ fp ∨ H b = none
section
variable {c : Cs} {F F' F2 H H' H2 : Hp} {fp fp' fp2 fq : List Addr}
theorem Stp.refl (s : Sub F H) : Stp F H fp F H fp := ⟨s, Sub.refl _, fun _ _ h _ => h, fun _ _ _ h => h, fun _ hb => .inl hb⟩
theorem Stp.trans (a : Stp F H fp F' H' fp') (b : Stp F' H' fp' F2 H2 fp2) : Stp F H fp F2 H2 fp2 where
  fh := b.fh
  ff := a.ff.trans b.ff
  keep := fun x o h n => b.keep x o (a.keep x o h n) fun z => by
    rcases a.newP x z with q | q
    · exact n q
    · rw [h] at q; cases q
  newF := fun x h n q => by
    have h' : H' x ≠ none := by
      cases e : H x with
      | none => exact absurd e h
      | some o => rw [a.keep x o e n]; intro z; cases z
    refine b.newF x h' (fun z => ?_) (a.newF x h n q)
    rcases a.newP x z with q | q
    · exact n q
    · exact h q
  newP := fun x hx => by
    rcases b.newP x hx with q | q
    · exact a.newP x q
    · by_cases hh : x ∈ fp
      · exact .inl hh
      · refine .inr ?_
        cases e : H x with
        | none => rfl
        | some o => rw [a.keep x o e hh] at q; cases q
/-- behind a step that touches other things -/
theorem Stp.part (a : Stp F H fp F' H' fp') (sub : ∀ b ∈ fp, b ∈ fq) (sub' : ∀ b ∈ fp2, b ∈ fp') : Stp F H fq F' H' fp2 :=
  ⟨a.fh, a.ff, fun b o h n => a.keep b o h fun z => n (sub b z), fun b h n q => a.newF b h (fun z => n (sub b z)) q, fun b hb => (a.newP b (sub' b hb)).imp (sub b) id⟩
/-- what else is held is held on -/
theorem Stp.more (a : Stp F H fp F' H' fp') (hn : ∀ b ∈ fq, H b ≠ none) : Stp F H (fp ++ fq) F' H' (fp' ++ fq) :=
  ⟨a.fh, a.ff, fun b o h n => a.keep b o h fun z => n (List.mem_append_left _ z), fun b h n q => a.newF b h (fun z => n (List.mem_append_left _ z)) q, fun b hb => by
    rcases List.mem_append.mp hb with hb | hb
    · rcases a.newP b hb with q | q
      · exact .inl (List.mem_append_left _ q)
      · exact .inr q
    · exact .inl (List.mem_append_right _ hb)⟩
theorem Stp.same (a : Stp F H fp F' H' fp') (hn : ∀ b ∈ fq, H b ≠ none) (d : ∀ b ∈ fq, b ∉ fp) : ∀ b ∈ fq, H' b = H b := fun b hb => by
  cases e : H b with
  | none => exact absurd e (hn b hb)
  | some o => exact a.keep b o e (d b hb)
theorem Stp.ow {v : V} {o : O} (a : Stp F H fp F' H' fp') (r : Ow c F H fq v o) (d : ∀ b ∈ fq, b ∉ fp) : Ow c F' H' fq v o :=
  r.keep a.ff (fun b hb => a.newF b (r.has b hb).2 (d b hb) (r.has b hb).1) (a.same (fun b hb => (r.has b hb).2) d)
theorem Stp.owAll {vs : List V} {os : List O} (a : Stp F H fp F' H' fp') (r : OwAll c F H fq vs os) (d : ∀ b ∈ fq, b ∉ fp) : OwAll c F' H' fq vs os :=
  r.keep a.ff (fun b hb => a.newF b (r.has b hb).2 (d b hb) (r.has b hb).1) (a.same (fun b hb => (r.has b hb).2) d)
theorem Stp.apart (a : Stp F H fp F' H' fp') (hn : ∀ b ∈ fq, H b ≠ none) (d : ∀ b ∈ fq, b ∉ fp) : ∀ b ∈ fq, b ∉ fp' := fun b hb z => by
  rcases a.newP b z with q | q
  · exact d b hb q
  · exact hn b hb q
/-- something is laid anew -/
theorem Stp.new {p : Addr} {o : HO} (s : Sub F H) (hp : H p = none) : Stp F H fp F (upd H p o) (fp ++ [p]) :=
  ⟨fun b u h => by rw [upd_ne (ne_of_none (s b u h) hp)]; exact s b u h, Sub.refl _, fun b u h _ => by rw [upd_ne (ne_of_none h hp)]; exact h, fun _ _ _ h => h, fun b hb => by
    rcases List.mem_append.mp hb with hb | hb
    · exact .inl hb
    · rw [List.mem_singleton] at hb; subst hb; exact .inr hp⟩
/-- something held is changed -/
theorem Stp.chg {p : Addr} {o : HO} (s : Sub F H) (hp : p ∈ fp) (hF : F p = none) : Stp F H fp F (upd H p o) fp :=
  ⟨fun b u h => by rw [upd_ne (ne_of_none h hF)]; exact s b u h, Sub.refl _, fun b u h n => by rw [upd_ne (fun e => n (by rw [e]; exact hp))]; exact h, fun _ _ _ h => h, fun _ hb => .inl hb⟩
/-- F with what stands at some places now -/
def ice (F H : Hp) (fq : List Addr) : Hp := fun b => if b ∈ fq then H b else F b
theorem ice_in {b : Addr} (h : b ∈ fq) : ice F H fq b = H b := if_pos h
theorem ice_out {b : Addr} (h : b ∉ fq) : ice F H fq b = F b := if_neg h
/-- what is held is frozen -/
theorem Stp.ice (s : Sub F H) (hF : ∀ b ∈ fq, F b = none) (hq : ∀ b ∈ fq, b ∈ fp) (hp : ∀ b ∈ fp', b ∈ fp) : Stp F H fp (ice F H fq) H fp' where
  fh := fun b o h => by
    by_cases q : b ∈ fq
    · rw [ice_in q] at h; exact h
    · rw [ice_out q] at h; exact s b o h
  ff := fun b o h => by
    rw [ice_out (fun q => by rw [hF b q] at h; cases h)]; exact h
  keep := fun _ _ h _ => h
  newF := fun b _ n h => by rw [ice_out (fun q => n (hq b q))]; exact h
  newP := fun b hb => .inl (hp b hb)
theorem Ow.ice {v : V} {o : O} (s : Sub F H) (r : Ow c F H fq v o) : Fz c (ice F H fq) v o.val :=
  r.look (fun b u h => by rw [ice_out (fun q => by rw [(r.has b q).1] at h; cases h)]; exact h) fun b hb => ice_in hb
theorem OwAll.ice {vs : List V} {os : List O} (s : Sub F H) (r : OwAll c F H fq vs os) : FzAll c (ice F H fq) vs (vals os) :=
  r.look (fun b u h => by rw [ice_out (fun q => by rw [(r.has b q).1] at h; cases h)]; exact h) fun b hb => ice_in hb
end
end DL

set_option Elab.async false
set_option linter.all false
set_option maxRecDepth 100000
set_option maxHeartbeats 2000000
/-! DL, part B: a frame of trees, outcomes, the readings. -/
namespace DL
open PySem L2

/-- a slot: a thing of its own, or the one that the caller lent -/
inductive Sl where
  | ow (o : O) | me
structure En where
  sl : List (Option Sl)
  me : O
/-- an error: its class, its fields -/
structure XD where
  c : Str
  fs : List (Str × D)
inductive Out (α : Type) where
  | ok (a : α) (e : En) | ex (x : XD) (e : En) | no
def Out.bind {α β : Type} (r : Out α) (k : α → En → Out β) : Out β :=
  match r with
  | .ok a e => k a e
  | .ex x e => .ex x e
  | .no => .no
/-- a value that an expression tells: what stands in a slot, or a new one -/
inductive Rv where
  | sl (i : Nat) | me | tm (o : O)

section
variable (c : Cs) (mv : V) (F H : Hp)
inductive SlR : List Addr → St → List (Option Sl) → Prop
  | nil : SlR [] [] []
  | hole {s : Option V} {fp : List Addr} {σ : St} {e : List (Option Sl)} : SlR fp σ e → SlR fp (s :: σ) (none :: e)
  | me {fp : List Addr} {σ : St} {e : List (Option Sl)} : SlR fp σ e → SlR fp (some mv :: σ) (some .me :: e)
  | ow {fp fq : List Addr} {v : V} {o : O} {σ : St} {e : List (Option Sl)} : Ow c F H fp v o → SlR fq σ e → (∀ b ∈ fp, b ∉ fq) → SlR (fp ++ fq) (some v :: σ) (some (.ow o) :: e)
structure EnvR (fp : List Addr) (σ : St) (e : En) : Prop where
  ex : ∃ fm fs, Ow c F H fm mv e.me ∧ SlR c mv F H fs σ e.sl ∧ (∀ b ∈ fm, b ∉ fs) ∧ ∀ b, b ∈ fp ↔ b ∈ fm ∨ b ∈ fs
inductive RvR (σ : St) : List Addr → V → Rv → Prop
  | sl {i : Nat} {v : V} : σ[i]? = some (some v) → RvR σ [] v (.sl i)
  | me : RvR σ [] mv .me
  | tm {fq : List Addr} {v : V} {o : O} : Ow c F H fq v o → RvR σ fq v (.tm o)
inductive RvAll (σ : St) : List Addr → List V → List Rv → Prop
  | nil : RvAll σ [] [] []
  | cons {fp fq : List Addr} {v : V} {r : Rv} {vs : List V} {rs : List Rv} : RvR c mv F H σ fp v r → RvAll σ fq vs rs → (∀ b ∈ fp, b ∉ fq) → RvAll σ (fp ++ fq) (v :: vs) (r :: rs)
end
/-- an error as it lies -/
def XR (c : Cs) (F : Hp) (cls : Value) (d : Option Addr) (x : XD) : Prop :=
  ∃ C, c.ca x.c = some C ∧ cls = .ref C ∧ ((x.fs = [] ∧ d = none) ∨ ∃ dd vs, d = some dd ∧ F dd = some (.xd vs) ∧ vs.map (·.1) = x.fs.map (·.1) ∧ FzAll c F (vs.map (·.2)) (x.fs.map (·.2)))
theorem XR.mono {c : Cs} {F G : Hp} {cls : Value} {d : Option Addr} {x : XD} (s : Sub F G) (h : XR c F cls d x) : XR c G cls d x := by
  obtain ⟨C, h1, h2, h3⟩ := h
  refine ⟨C, h1, h2, ?_⟩
  rcases h3 with h3 | ⟨dd, vs, a, b, k, r⟩
  · exact .inl h3
  · exact .inr ⟨dd, vs, a, s _ _ b, k, r.mono s⟩

section
variable {c : Cs} {mv : V} {F F' H H' : Hp} {fp fp' fq fq' : List Addr} {σ : St} {e : En}
theorem SlR.has : ∀ {fp : List Addr} {σ : St} {l : List (Option Sl)}, SlR c mv F H fp σ l → ∀ b ∈ fp, F b = none ∧ H b ≠ none
  | _, _, _, .nil, _, hb => nomatch hb
  | _, _, _, .hole r, b, hb => SlR.has r b hb
  | _, _, _, .me r, b, hb => SlR.has r b hb
  | _, _, _, .ow h r z, b, hb => by
    rcases List.mem_append.mp hb with hb | hb
    · exact h.has b hb
    · exact SlR.has r b hb
theorem SlR.stp (s : Stp F H fp F' H' fp') : ∀ {fq : List Addr} {σ : St} {l : List (Option Sl)}, SlR c mv F H fq σ l → (∀ b ∈ fq, b ∉ fp) → SlR c mv F' H' fq σ l
  | _, _, _, .nil, _ => .nil
  | _, _, _, .hole r, d => .hole (SlR.stp s r d)
  | _, _, _, .me r, d => .me (SlR.stp s r d)
  | _, _, _, .ow h r z, d => .ow (s.ow h fun b hb => d b (List.mem_append_left _ hb)) (SlR.stp s r fun b hb => d b (List.mem_append_right _ hb)) z
theorem EnvR.has (r : EnvR c mv F H fp σ e) : ∀ b ∈ fp, F b = none ∧ H b ≠ none := fun b hb => by
  obtain ⟨fm, fs, h1, h2, _, h4⟩ := r.ex
  rcases (h4 b).mp hb with q | q
  · exact h1.has b q
  · exact h2.has b q
theorem EnvR.stp (s : Stp F H fp F' H' fp') (r : EnvR c mv F H fq σ e) (d : ∀ b ∈ fq, b ∉ fp) : EnvR c mv F' H' fq σ e := by
  obtain ⟨fm, fs, h1, h2, h3, h4⟩ := r.ex
  exact ⟨fm, fs, s.ow h1 fun b hb => d b ((h4 b).mpr (.inl hb)), h2.stp s fun b hb => d b ((h4 b).mpr (.inr hb)), h3, h4⟩
theorem EnvR.perm (r : EnvR c mv F H fp σ e) (h : ∀ b, b ∈ fq ↔ b ∈ fp) : EnvR c mv F H fq σ e := by
  obtain ⟨fm, fs, h1, h2, h3, h4⟩ := r.ex
  exact ⟨fm, fs, h1, h2, h3, fun b => (h b).trans (h4 b)⟩
theorem RvR.has {v : V} {r : Rv} (h : RvR c mv F H σ fq v r) : ∀ b ∈ fq, F b = none ∧ H b ≠ none := by
  cases h with
  | sl h => intro b hb; cases hb
  | me => intro b hb; cases hb
  | tm h => exact h.has
theorem RvR.stp {v : V} {r : Rv} (s : Stp F H fp F' H' fp') (h : RvR c mv F H σ fq v r) (d : ∀ b ∈ fq, b ∉ fp) : RvR c mv F' H' σ fq v r := by
  cases h with
  | sl h => exact .sl h
  | me => exact .me
  | tm h => exact .tm (s.ow h d)
theorem RvAll.has : ∀ {fq : List Addr} {vs : List V} {rs : List Rv}, RvAll c mv F H σ fq vs rs → ∀ b ∈ fq, F b = none ∧ H b ≠ none
  | _, _, _, .nil, _, hb => nomatch hb
  | _, _, _, .cons h r z, b, hb => by
    rcases List.mem_append.mp hb with hb | hb
    · exact h.has b hb
    · exact RvAll.has r b hb
theorem RvAll.stp (s : Stp F H fp F' H' fp') : ∀ {fq : List Addr} {vs : List V} {rs : List Rv}, RvAll c mv F H σ fq vs rs → (∀ b ∈ fq, b ∉ fp) → RvAll c mv F' H' σ fq vs rs
  | _, _, _, .nil, _ => .nil
  | _, _, _, .cons h r z, d => .cons (h.stp s fun b hb => d b (List.mem_append_left _ hb)) (RvAll.stp s r fun b hb => d b (List.mem_append_right _ hb)) z

/-! ### slots taken out and put in -/
theorem SlR.take : ∀ {fp : List Addr} {σ : St} {l : List (Option Sl)} {i : Nat} {o : O}, SlR c mv F H fp σ l → l[i]? = some (some (.ow o)) →
    ∃ v fo fr, σ[i]? = some (some v) ∧ Ow c F H fo v o ∧ SlR c mv F H fr σ (l.set i none) ∧ (∀ b ∈ fo, b ∉ fr) ∧ ∀ b, b ∈ fp ↔ b ∈ fo ∨ b ∈ fr
  | _, _, _, _, _, .nil, e => by simp at e
  | _, _, _, 0, _, .hole r, e => by simp at e
  | _, _, _, 0, _, .me r, e => by simp at e
  | _, _, _, 0, o, .ow (v := v) (fp := fo) (fq := fr) h r z, e => by
    simp at e; subst e
    exact ⟨v, fo, fr, rfl, h, .hole r, z, fun b => List.mem_append⟩
  | _, _, _, i + 1, o, .hole r, e => by
    obtain ⟨v, fo, fr, h1, h2, h3, h4, h5⟩ := SlR.take (i := i) r (by simpa using e)
    exact ⟨v, fo, fr, by simpa using h1, h2, .hole h3, h4, h5⟩
  | _, _, _, i + 1, o, .me r, e => by
    obtain ⟨v, fo, fr, h1, h2, h3, h4, h5⟩ := SlR.take (i := i) r (by simpa using e)
    exact ⟨v, fo, fr, by simpa using h1, h2, .me h3, h4, h5⟩
  | _, _, _, i + 1, o, .ow (fp := fa) (fq := fb) h r z, e => by
    obtain ⟨v, fo, fr, h1, h2, h3, h4, h5⟩ := SlR.take (i := i) r (by simpa using e)
    refine ⟨v, fo, fa ++ fr, by simpa using h1, h2, .ow h h3 fun b hb q => z b hb ((h5 b).mpr (.inr q)), fun b hb q => ?_, fun b => ?_⟩
    · rcases List.mem_append.mp q with q | q
      · exact z b q ((h5 b).mpr (.inl hb))
      · exact h4 b hb q
    · rw [List.mem_append, List.mem_append, h5 b]
      constructor
      · rintro (q | q | q)
        · exact .inr (.inl q)
        · exact .inl q
        · exact .inr (.inr q)
      · rintro (q | q | q)
        · exact .inr (.inl q)
        · exact .inl q
        · exact .inr (.inr q)
/-- a store: what stood there is forgotten -/
theorem SlR.put : ∀ {fr : List Addr} {σ : St} {l : List (Option Sl)} {i : Nat} {v : V} {o : O} {fo : List Addr}, SlR c mv F H fr σ l → Ow c F H fo v o → (∀ b ∈ fo, b ∉ fr) →
    ∃ fp, SlR c mv F H fp (σ.set i (some v)) (l.set i (some (.ow o))) ∧ ∀ b ∈ fp, b ∈ fo ∨ b ∈ fr
  | _, _, _, _, _, _, _, .nil, h, d => ⟨[], .nil, fun b hb => nomatch hb⟩
  | _, _, _, 0, v, o, fo, .hole (fp := fr) r, h, d => ⟨fo ++ fr, .ow h r d, fun b => List.mem_append.mp⟩
  | _, _, _, 0, v, o, fo, .me (fp := fr) r, h, d => ⟨fo ++ fr, .ow h r d, fun b => List.mem_append.mp⟩
  | _, _, _, 0, v, o, fo, .ow (fp := fa) (fq := fr) _ r z, h, d => ⟨fo ++ fr, .ow h r fun b hb q => d b hb (List.mem_append_right _ q), fun b hb => (List.mem_append.mp hb).imp id (List.mem_append_right _)⟩
  | _, _, _, i + 1, v, o, fo, .hole r, h, d => by
    obtain ⟨fp, h1, h2⟩ := SlR.put (i := i) r h d
    exact ⟨fp, .hole h1, h2⟩
  | _, _, _, i + 1, v, o, fo, .me r, h, d => by
    obtain ⟨fp, h1, h2⟩ := SlR.put (i := i) r h d
    exact ⟨fp, .me h1, h2⟩
  | _, _, _, i + 1, v, o, fo, .ow (fp := fa) (fq := fb) h' r z, h, d => by
    obtain ⟨fp, h1, h2⟩ := SlR.put (i := i) r h fun b hb q => d b hb (List.mem_append_right _ q)
    refine ⟨fa ++ fp, .ow h' h1 fun b hb q => ?_, fun b hb => ?_⟩
    · rcases h2 b q with q | q
      · exact d b q (List.mem_append_left _ hb)
      · exact z b hb q
    · rcases List.mem_append.mp hb with q | q
      · exact .inr (List.mem_append_left _ q)
      · exact (h2 b q).imp id (List.mem_append_right _)
/-- a slot is forgotten -/
theorem SlR.drop : ∀ {fr : List Addr} {σ : St} {l : List (Option Sl)} {i : Nat}, SlR c mv F H fr σ l → ∃ fp, SlR c mv F H fp σ (l.set i none) ∧ ∀ b ∈ fp, b ∈ fr
  | _, _, _, _, .nil => ⟨[], .nil, fun b hb => nomatch hb⟩
  | _, _, _, 0, .hole (fp := fr) r => ⟨fr, .hole r, fun b h => h⟩
  | _, _, _, 0, .me (fp := fr) r => ⟨fr, .hole r, fun b h => h⟩
  | _, _, _, 0, .ow (fq := fr) _ r z => ⟨fr, .hole r, fun b h => List.mem_append_right _ h⟩
  | _, _, _, i + 1, .hole r => by
    obtain ⟨fp, h1, h2⟩ := SlR.drop (i := i) r
    exact ⟨fp, .hole h1, h2⟩
  | _, _, _, i + 1, .me r => by
    obtain ⟨fp, h1, h2⟩ := SlR.drop (i := i) r
    exact ⟨fp, .me h1, h2⟩
  | _, _, _, i + 1, .ow (fp := fa) h r z => by
    obtain ⟨fp, h1, h2⟩ := SlR.drop (i := i) r
    exact ⟨fa ++ fp, .ow h h1 fun b hb q => z b hb (h2 b q), fun b hb => (List.mem_append.mp hb).elim (List.mem_append_left _) fun q => List.mem_append_right _ (h2 b q)⟩
theorem SlR.atMe : ∀ {fr : List Addr} {σ : St} {l : List (Option Sl)} {i : Nat}, SlR c mv F H fr σ l → l[i]? = some (some .me) → σ[i]? = some (some mv)
  | _, _, _, _, .nil, e => by simp at e
  | _, _, _, 0, .hole r, e => by simp at e
  | _, _, _, 0, .me r, e => rfl
  | _, _, _, 0, .ow _ r z, e => by simp at e
  | _, _, _, i + 1, .hole r, e => by simpa using SlR.atMe (i := i) r (by simpa using e)
  | _, _, _, i + 1, .me r, e => by simpa using SlR.atMe (i := i) r (by simpa using e)
  | _, _, _, i + 1, .ow _ r z, e => by simpa using SlR.atMe (i := i) r (by simpa using e)
theorem SlR.length : ∀ {fr : List Addr} {σ : St} {l : List (Option Sl)}, SlR c mv F H fr σ l → σ.length = l.length
  | _, _, _, .nil => rfl
  | _, _, _, .hole r => by rw [List.length_cons, List.length_cons, SlR.length r]
  | _, _, _, .me r => by rw [List.length_cons, List.length_cons, SlR.length r]
  | _, _, _, .ow _ r _ => by rw [List.length_cons, List.length_cons, SlR.length r]
def En.put (e : En) (i : Nat) (o : O) : En := { e with sl := e.sl.set i (some (.ow o)) }
def En.hole (e : En) (i : Nat) : En := { e with sl := e.sl.set i none }
theorem EnvR.put {i : Nat} {v : V} {o : O} (r : EnvR c mv F H fp σ e) (h : Ow c F H fq v o) (d : ∀ b ∈ fq, b ∉ fp) : ∃ fp', EnvR c mv F H fp' (σ.set i (some v)) (e.put i o) ∧ ∀ b ∈ fp', b ∈ fp ++ fq := by
  obtain ⟨fm, fs, h1, h2, h3, h4⟩ := r.ex
  obtain ⟨f1, g1, g2⟩ := h2.put (i := i) h fun b hb q => d b hb ((h4 b).mpr (.inr q))
  refine ⟨fm ++ f1, ⟨fm, f1, h1, g1, fun b hb q => ?_, fun b => List.mem_append⟩, fun b hb => ?_⟩
  · rcases g2 b q with q | q
    · exact d b q ((h4 b).mpr (.inl hb))
    · exact h3 b hb q
  · rcases List.mem_append.mp hb with q | q
    · exact List.mem_append_left _ ((h4 b).mpr (.inl q))
    · rcases g2 b q with q | q
      · exact List.mem_append_right _ q
      · exact List.mem_append_left _ ((h4 b).mpr (.inr q))
theorem EnvR.drop {i : Nat} (r : EnvR c mv F H fp σ e) : ∃ fp', EnvR c mv F H fp' σ (e.hole i) ∧ ∀ b ∈ fp', b ∈ fp := by
  obtain ⟨fm, fs, h1, h2, h3, h4⟩ := r.ex
  obtain ⟨f1, g1, g2⟩ := h2.drop (i := i)
  refine ⟨fm ++ f1, ⟨fm, f1, h1, g1, fun b hb q => h3 b hb (g2 b q), fun b => List.mem_append⟩, fun b hb => ?_⟩
  rcases List.mem_append.mp hb with q | q
  · exact (h4 b).mpr (.inl q)
  · exact (h4 b).mpr (.inr (g2 b q))
theorem EnvR.take {i : Nat} {o : O} (r : EnvR c mv F H fp σ e) (hi : e.sl[i]? = some (some (.ow o))) :
    ∃ v fo fr, σ[i]? = some (some v) ∧ Ow c F H fo v o ∧ EnvR c mv F H fr σ (e.hole i) ∧ (∀ b ∈ fo, b ∉ fr) ∧ ∀ b, b ∈ fp ↔ b ∈ fo ∨ b ∈ fr := by
  obtain ⟨fm, fs, h1, h2, h3, h4⟩ := r.ex
  obtain ⟨v, fo, fr, g1, g2, g3, g4, g5⟩ := h2.take hi
  refine ⟨v, fo, fm ++ fr, g1, g2, ⟨fm, fr, h1, g3, fun b hb q => h3 b hb ((g5 b).mpr (.inr q)), fun b => List.mem_append⟩, fun b hb q => ?_, fun b => ?_⟩
  · rcases List.mem_append.mp q with q | q
    · exact h3 b q ((g5 b).mpr (.inl hb))
    · exact g4 b hb q
  · rw [h4 b, g5 b, List.mem_append]
    constructor
    · rintro (q | q | q)
      · exact .inr (.inl q)
      · exact .inl q
      · exact .inr (.inr q)
    · rintro (q | q | q)
      · exact .inr (.inl q)
      · exact .inl q
      · exact .inr (.inr q)
theorem set_same {α : Type} : ∀ {l : List α} {i : Nat} {a : α}, l[i]? = some a → l.set i a = l
  | [], _, _, h => by simp at h
  | x :: l, 0, a, h => by simp at h; rw [h]; rfl
  | x :: l, i + 1, a, h => by
    show x :: l.set i a = _
    rw [set_same (i := i) (by simpa using h)]
theorem hole_put {i : Nat} {o : O} : (e.hole i).put i o = e.put i o := by
  unfold En.hole En.put
  simp [List.set_set]
/-- put back where it was -/
theorem EnvR.back {i : Nat} {v : V} {o : O} (r : EnvR c mv F H fp σ (e.hole i)) (h : Ow c F H fq v o) (d : ∀ b ∈ fq, b ∉ fp) (hi : σ[i]? = some (some v)) : ∃ fp', EnvR c mv F H fp' σ (e.put i o) ∧ ∀ b ∈ fp', b ∈ fp ++ fq := by
  obtain ⟨f1, g1, g2⟩ := r.put (i := i) h d
  rw [set_same hi, hole_put] at g1
  exact ⟨f1, g1, g2⟩
end

/-! ### what is wanted of an outcome -/
section
variable {α β γ : Type}
abbrev Rel (α β : Type) := Hp → Hp → St → List Addr → β → α → Prop
def Po (c : Cs) (mv : V) (R : Rel α β) (W : WX) (F H : Hp) (fp : List Addr) (σ : St) (r : Out α) (Q : β → Hp → Prop) : Prop :=
  match r with
  | .ok a e => ∀ F' H' fp' fq v, Stp F H fp F' H' (fp' ++ fq) → EnvR c mv F' H' fp' σ e → R F' H' σ fq v a → (∀ b ∈ fq, b ∉ fp') → Q v H'
  | .ex x e => ∀ F' H' fp' cls d, Stp F H fp F' H' fp' → EnvR c mv F' H' fp' σ e → XR c F' cls d x → W cls d σ H'
  | .no => False
variable {c : Cs} {mv : V} {R : Rel α β} {W : WX} {F F' H H' : Hp} {fp fp' : List Addr} {σ : St} {Q : β → Hp → Prop}
theorem Po.step {r : Out α} (h : Po c mv R W F H fp σ r Q) (s : Stp F H fp F' H' fp') : Po c mv R W F' H' fp' σ r Q := by
  cases r with
  | ok a e => exact fun F2 H2 f2 fq v t => h F2 H2 f2 fq v (s.trans t)
  | ex x e => exact fun F2 H2 f2 cls d t => h F2 H2 f2 cls d (s.trans t)
  | no => exact h
/-- the first of two in a row -/
theorem Po.seq {δ : Type} {R1 : Rel γ δ} {r : Out γ} {k : γ → En → Out α} (h : Po c mv R W F H fp σ (r.bind k) Q) {Q1 : δ → Hp → Prop}
    (hk : ∀ a e F1 H1 f1 q1 v, r = .ok a e → Stp F H fp F1 H1 (f1 ++ q1) → EnvR c mv F1 H1 f1 σ e → R1 F1 H1 σ q1 v a → (∀ b ∈ q1, b ∉ f1) → Po c mv R W F1 H1 (f1 ++ q1) σ (k a e) Q → Q1 v H1) : Po c mv R1 W F H fp σ r Q1 := by
  cases r with
  | ok a e => exact fun F1 H1 f1 q1 v s er rr d => hk a e F1 H1 f1 q1 v rfl s er rr d (Po.step h s)
  | ex x e => exact h
  | no => exact h
/-- the second of two in a row: q is held besides -/
theorem Po.seqS {δ : Type} {R1 : Rel γ δ} {r : Out γ} {k : γ → En → Out α} {q : List Addr} (h : Po c mv R W F H (fp ++ q) σ (r.bind k) Q) (hq : ∀ b ∈ q, F b = none ∧ H b ≠ none) {Q1 : δ → Hp → Prop}
    (hk : ∀ a e F1 H1 f1 q1 v, r = .ok a e → Stp F H fp F1 H1 (f1 ++ q1) → EnvR c mv F1 H1 f1 σ e → R1 F1 H1 σ q1 v a → (∀ b ∈ q1, b ∉ f1) → Po c mv R W F1 H1 ((f1 ++ q1) ++ q) σ (k a e) Q → Q1 v H1) : Po c mv R1 W F H fp σ r Q1 := by
  cases r with
  | ok a e => exact fun F1 H1 f1 q1 v s er rr d => hk a e F1 H1 f1 q1 v rfl s er rr d (Po.step h (s.more fun b hb => (hq b hb).2))
  | ex x e => exact fun F1 H1 f1 cls d s er xr => h F1 H1 f1 cls d (s.part (fun b => List.mem_append_left _) fun b h => h) er xr
  | no => exact h
end
/-- an expression's reading by trees -/
def rd {α β : Type} (c : Cs) (mv : V) (R : Rel α β) (W : WX) (f : En → Out α) : St → Hp → (β → Hp → Prop) → Prop := fun σ H Q =>
  ∃ F fp e, Sub F H ∧ EnvR c mv F H fp σ e ∧ Po c mv R W F H fp σ (f e) Q
def rvR (c : Cs) (mv : V) : Rel Rv V := fun F H σ fq v r => RvR c mv F H σ fq v r
def rvsR (c : Cs) (mv : V) : Rel (List Rv) (List V) := fun F H σ fq vs rs => RvAll c mv F H σ fq vs rs
def blR : Rel Bool Bool := fun _ _ _ fq b a => fq = [] ∧ b = a
def DE (X : Cx) (c : Cs) (mv : V) (W : WX) (e : Expr) (f : En → Out Rv) : Prop := PE X e (rd c mv (rvR c mv) W f)
def DA (X : Cx) (c : Cs) (mv : V) (W : WX) (es : List Expr) (f : En → Out (List Rv)) : Prop := PA X es (rd c mv (rvsR c mv) W f)
def DT (X : Cx) (c : Cs) (mv : V) (W : WX) (e : Expr) (f : En → Out Bool) : Prop := PT X e (rd c mv blR W f)
def DW (X : Cx) (c : Cs) (mv : V) (W : WX) (e : Expr) (f : En → Out Bool) : Prop := PW X e (rd c mv blR W f)

/-! ### readings made weaker -/
theorem pe_imp {X : Cx} {e : Expr} {t u : TE} (h : PE X e t) (i : ∀ σ H Q, u σ H Q → t σ H Q) : PE X e u := ⟨fun pins s σ H Q I q => h.run pins s σ H Q I (i σ H Q q)⟩
theorem pt_imp {X : Cx} {e : Expr} {t u : TT} (h : PT X e t) (i : ∀ σ H Q, u σ H Q → t σ H Q) : PT X e u := ⟨fun pins s σ H Q I q => h.run pins s σ H Q I (i σ H Q q)⟩
theorem pw_imp {X : Cx} {e : Expr} {t u : TT} (h : PW X e t) (i : ∀ σ H Q, u σ H Q → t σ H Q) : PW X e u := ⟨fun wh pins s σ H Q I q => h.run wh pins s σ H Q I (i σ H Q q)⟩
theorem pa_imp {X : Cx} {es : List Expr} {t u : TA} (h : PA X es t) (i : ∀ σ H Q, u σ H Q → t σ H Q) : PA X es u := ⟨fun pos pins s σ H Q I q => h.run pos pins s σ H Q I (i σ H Q q)⟩
theorem ps_imp {X : Cx} {st : Stmt} {t u : TS} (h : PS X st t) (i : ∀ D σ H, u D σ H → t D σ H) : PS X st u := ⟨fun pins s σ H D I q => h.run pins s σ H D I (i D σ H q)⟩
theorem pss_imp {X : Cx} {st : List Stmt} {t u : TS} (h : PSs X st t) (i : ∀ D σ H, u D σ H → t D σ H) : PSs X st u := ⟨fun pins s σ H D I q => h.run pins s σ H D I (i D σ H q)⟩

/-! ### a value looked at, a value taken over -/
def En.at (e : En) (i : Nat) : Option O := match e.sl[i]? with
  | some (some (.ow o)) => some o
  | some (some .me) => some e.me
  | _ => none
def look (e : En) : Rv → Option D
  | .sl i => (e.at i).map O.val
  | .me => some e.me.val
  | .tm o => some o.val
/-- what it is, for good: what stood in a slot is frozen there -/
def En.frz (e : En) (i : Nat) : Option (O × En) := match e.sl[i]? with
  | some (some (.ow o)) => some (.fz o.val, e.put i (.fz o.val))
  | some (some .me) => some (.fz e.me.val, { e with me := .fz e.me.val })
  | _ => none
def own (e : En) : Rv → Option (O × En)
  | .sl i => e.frz i
  | .me => some (.fz e.me.val, { e with me := .fz e.me.val })
  | .tm o => some (o, e)
section
variable {c : Cs} {mv : V} {F F' H H' : Hp} {fp fp' fq fq' : List Addr} {σ : St} {e e' : En} {v : V} {r : Rv} {d : D} {o : O}
theorem Ow.view (s : Sub F H) (h : Ow c F H fq v o) : Fz c H v o.val := h.look s fun _ _ => rfl
theorem look_ok (s : Sub F H) (E : EnvR c mv F H fp σ e) (h : RvR c mv F H σ fq v r) (l : look e r = some d) : Fz c H v d := by
  obtain ⟨fm, fs, h1, h2, _, _⟩ := E.ex
  cases h with
  | tm h => unfold look at l; cases l; exact h.view s
  | me => unfold look at l; cases l; exact h1.view s
  | @sl i v hi =>
    have l' : (e.at i).map O.val = some d := l
    unfold En.at at l'
    cases q : e.sl[i]? with
    | none => rw [q] at l'; cases l'
    | some w =>
      rw [q] at l'
      cases w with
      | none => cases l'
      | some x =>
        cases x with
        | ow o' =>
          cases l'
          obtain ⟨v', fo, fr, g1, g2, _⟩ := h2.take q
          rw [hi] at g1; cases g1
          exact g2.view s
        | me =>
          cases l'
          have z := h2.atMe q
          rw [hi] at z; cases z
          exact h1.view s
theorem EnvR.frzMe (s : Sub F H) (E : EnvR c mv F H fp σ e) : ∃ F' fp', Stp F H fp F' H fp' ∧ Fz c F' mv e.me.val ∧ EnvR c mv F' H fp' σ { e with me := .fz e.me.val } ∧ ∀ b ∈ fp', b ∈ fp := by
  obtain ⟨fm, fs, h1, h2, h3, h4⟩ := E.ex
  have st : Stp F H fm (ice F H fm) H [] := Stp.ice s (fun b hb => (h1.has b hb).1) (fun b hb => hb) fun b hb => nomatch hb
  refine ⟨ice F H fm, fs, ?_, h1.ice s, ⟨[], fs, .fz (h1.ice s), h2.stp st (fun b hb q => h3 b q hb), (fun b hb => nomatch hb), fun b => by simp⟩, fun b hb => (h4 b).mpr (.inr hb)⟩
  exact Stp.ice s (fun b hb => (h1.has b hb).1) (fun b hb => (h4 b).mpr (.inl hb)) fun b hb => (h4 b).mpr (.inr hb)
theorem EnvR.frz {i : Nat} (s : Sub F H) (E : EnvR c mv F H fp σ e) (hi : e.sl[i]? = some (some (.ow o))) (hv : σ[i]? = some (some v)) :
    ∃ F' fp', Stp F H fp F' H fp' ∧ Fz c F' v o.val ∧ EnvR c mv F' H fp' σ (e.put i (.fz o.val)) ∧ ∀ b ∈ fp', b ∈ fp := by
  obtain ⟨v', fo, fr, g1, g2, g3, g4, g5⟩ := E.take hi
  rw [hv] at g1; cases g1
  have st : Stp F H fo (ice F H fo) H [] := Stp.ice s (fun b hb => (g2.has b hb).1) (fun b hb => hb) fun b hb => nomatch hb
  have g3' := EnvR.stp st g3 fun b hb q => g4 b q hb
  obtain ⟨f1, k1, k2⟩ := g3'.back (.fz (g2.ice s)) (fun b hb => nomatch hb) hv
  refine ⟨ice F H fo, f1, Stp.ice s (fun b hb => (g2.has b hb).1) (fun b hb => (g5 b).mpr (.inl hb)) fun b hb => ?_, g2.ice s, k1, fun b hb => ?_⟩
  all_goals
    have := k2 b hb
    rw [List.append_nil] at this
    exact (g5 b).mpr (.inr this)
theorem own_ok (s : Sub F H) (E : EnvR c mv F H fp σ e) (h : RvR c mv F H σ fq v r) (dj : ∀ b ∈ fq, b ∉ fp) (l : own e r = some (o, e')) :
    ∃ F' fp' fq', Stp F H (fp ++ fq) F' H (fp' ++ fq') ∧ Ow c F' H fq' v o ∧ EnvR c mv F' H fp' σ e' ∧ (∀ b ∈ fq', b ∉ fp') ∧ (∀ b ∈ fp', b ∈ fp) ∧ ∀ b ∈ fq', b ∈ fq := by
  cases h with
  | tm h => unfold own at l; cases l; exact ⟨F, fp, fq, Stp.refl s, h, E, dj, fun _ h => h, fun _ h => h⟩
  | me =>
    unfold own at l; cases l
    obtain ⟨F', fp', a, b, k, m⟩ := E.frzMe s
    exact ⟨F', fp', [], by rw [List.append_nil, List.append_nil]; exact a, .fz b, k, (fun _ h => nomatch h), m, fun _ h => h⟩
  | @sl i v hi =>
    have l' : e.frz i = some (o, e') := l
    unfold En.frz at l'
    cases q : e.sl[i]? with
    | none => rw [q] at l'; cases l'
    | some w =>
      rw [q] at l'
      cases w with
      | none => cases l'
      | some x =>
        cases x with
        | ow o' =>
          cases l'
          obtain ⟨F', fp', a, b, k, m⟩ := E.frz s q hi
          exact ⟨F', fp', [], by rw [List.append_nil, List.append_nil]; exact a, .fz b, k, (fun _ h => nomatch h), m, fun _ h => h⟩
        | me =>
          cases l'
          obtain ⟨fm, fs, h1, h2, _, _⟩ := E.ex
          have z := h2.atMe q
          rw [hi] at z; cases z
          obtain ⟨F', fp', a, b, k, m⟩ := E.frzMe s
          exact ⟨F', fp', [], by rw [List.append_nil, List.append_nil]; exact a, .fz b, k, (fun _ h => nomatch h), m, fun _ h => h⟩
end
end DL

set_option Elab.async false
set_option linter.all false
set_option maxRecDepth 100000
set_option maxHeartbeats 2000000
/-! DL, part C: rules of expressions. -/
namespace DL
open PySem L2

section
variable {X : Cx} {c : Cs} {mv : V} {W : WX}
/-- a value that is ready -/
theorem Po.ret {R : Rel Rv V} {F H : Hp} {fp fq fr : List Addr} {σ : St} {e : En} {r : Rv} {v : V} {Q : VK} (s : Sub F H) (E : EnvR c mv F H fp σ e) (h : RvR c mv F H σ fq v r) (d : ∀ b ∈ fq, b ∉ fp)
    (hs : ∀ b, b ∈ fp ++ fq → b ∈ fr) (p : Po c mv (rvR c mv) W F H fr σ (.ok r e) Q) : Q v H :=
  p F H fp fq v ((Stp.refl s).part (fun b h => h) hs) E h d
theorem Po.fz {F H : Hp} {fp fr : List Addr} {σ : St} {e : En} {v : V} {d : D} {Q : VK} (s : Sub F H) (E : EnvR c mv F H fp σ e) (h : Fz c F v d)
    (hs : ∀ b ∈ fp, b ∈ fr) (p : Po c mv (rvR c mv) W F H fr σ (.ok (.tm (.fz d)) e) Q) : Q v H :=
  Po.ret (R := rvR c mv) (fq := []) s E (.tm (.fz h)) (fun b hb => nomatch hb) (by simpa using hs) p

/-! ### names, constants -/
def eVar (i : Nat) : En → Out Rv := fun e => match e.sl[i]? with
  | some (some (.ow (.fz d))) => .ok (.tm (.fz d)) e
  | some (some (.ow _)) => .ok (.sl i) e
  | some (some .me) => .ok .me e
  | _ => .no
theorem eVar_ok {e : En} {F H : Hp} {fp : List Addr} {σ : St} {i : Nat} {Q : VK} (s : Sub F H) (E : EnvR c mv F H fp σ e) (p : Po c mv (rvR c mv) W F H fp σ (eVar i e) Q) : ∃ v, σ[i]? = some (some v) ∧ Q v H := by
  obtain ⟨fm, fs, h1, h2, h3, h4⟩ := E.ex
  have key : ∀ o, e.sl[i]? = some (some (.ow o)) → ∃ v, σ[i]? = some (some v) ∧ (∀ d, o = .fz d → Fz c F v d) := fun o q => by
    obtain ⟨v, fo, fr, g1, g2, g3, g4, g5⟩ := h2.take q
    refine ⟨v, g1, fun d hd => ?_⟩
    subst hd
    cases g2 with
    | fz z => exact z
  unfold eVar at p
  split at p
  · rename_i d q
    obtain ⟨v, h, z⟩ := key _ q
    exact ⟨v, h, Po.fz s E (z d rfl) (fun _ h => h) p⟩
  · rename_i o _ q
    obtain ⟨v, h, z⟩ := key _ q
    exact ⟨v, h, Po.ret (R := rvR c mv) (fq := []) s E (.sl h) (fun b hb => nomatch hb) (by simp) p⟩
  · rename_i q
    exact ⟨mv, h2.atMe q, Po.ret (R := rvR c mv) (fq := []) s E .me (fun b hb => nomatch hb) (by simp) p⟩
  · exact p.elim
theorem de_var (i : Nat) {x : Str} {pos : Pos} (hN : X.N[i]? = some x := by rfl) (hv : Vis X.env.scope x := by first | exact Or.inl rfl | exact Or.inr (Or.inl rfl) | exact Or.inr (Or.inr rfl)) (hd : (x == ("__debug__" : Str)) = false := by decide)
    (hcd : (x == ("__classdict__" : Str)) = false := by decide) : DE X c mv W (.Name x pos) (eVar i) :=
  pe_imp (pe_var (i := i) hN hv hd hcd) fun σ H Q ⟨F, fp, e, s, E, p⟩ => eVar_ok s E p
def eC (d : D) : En → Out Rv := fun e => .ok (.tm (.fz d)) e
theorem de_C {e : Expr} {v : V} {d : D} (h : PE X e (tC v)) (hz : ∀ F, Fz c F v d) : DE X c mv W e (eC d) :=
  pe_imp h fun σ H Q ⟨F, fp, en, s, E, p⟩ => Po.fz s E (hz F) (fun _ h => h) p
theorem de_int {i j pos} : DE X c mv W (.Constant (.int i) j pos) (eC (.int i)) := de_C pe_int fun _ => .int
theorem de_bl {b j pos} : DE X c mv W (.Constant (.bool b) j pos) (eC (.bl b)) := de_C pe_bl fun _ => .bl
theorem de_non {j pos} : DE X c mv W (.Constant .none j pos) (eC .non) := de_C pe_non fun _ => .non
theorem de_str {x j pos} : DE X c mv W (.Constant (.str x) j pos) (eC (.str x)) := de_C pe_str fun _ => .str
theorem de_glob {x : Str} {v : V} {u : Value} {d : D} {pos : Pos} (hg : Gl X x) (hm : X.mg x = some u) (r : RelV v u) (hz : ∀ F, Fz c F v d) (hd : (x == ("__debug__" : Str)) = false := by decide) : DE X c mv W (.Name x pos) (eC d) :=
  de_C (pe_glob hg hm r hd) hz

/-! ### argument lists -/
def aNil : En → Out (List Rv) := fun e => .ok [] e
def aCons (f : En → Out Rv) (g : En → Out (List Rv)) : En → Out (List Rv) := fun e => (f e).bind fun r e1 => (g e1).bind fun rs e2 => .ok (r :: rs) e2
theorem da_nil : DA X c mv W [] aNil := pa_imp pa_nil fun σ H Q ⟨F, fp, e, s, E, p⟩ => p F H fp [] [] (by rw [List.append_nil]; exact Stp.refl s) E .nil fun b hb => nomatch hb
theorem disj_app {p q r : List Addr} (h1 : ∀ b ∈ p, b ∉ q) (h2 : ∀ b ∈ p, b ∉ r) : ∀ b ∈ p, b ∉ q ++ r := fun b hb z => (List.mem_append.mp z).elim (h1 b hb) (h2 b hb)
theorem da_cons {e : Expr} {es : List Expr} {f : En → Out Rv} {g : En → Out (List Rv)} (ha : DE X c mv W e f) (hr : DA X c mv W es g) (hs : starEach (e :: es) X.env = (false, eval e X.env) :: starEach es X.env := by rfl) : DA X c mv W (e :: es) (aCons f g) :=
  pa_imp (pa_cons ha hr hs) fun σ H Q ⟨F, fp, en, s, E, p⟩ => by
    refine ⟨F, fp, en, s, E, Po.seq (R1 := rvR c mv) p fun r e1 F1 H1 f1 q1 v _ s1 E1 r1 d1 p1 => ?_⟩
    refine ⟨F1, f1, e1, s1.fh, E1, ?_⟩
    refine Po.seqS (R1 := rvsR c mv) p1 r1.has fun rs e2 F2 H2 f2 q2 vs _ s2 E2 r2 d2 p2 => ?_
    have ap := s2.apart (fun b hb => (r1.has b hb).2) d1
    refine p2 F2 H2 f2 (q1 ++ q2) (v :: vs) ((Stp.refl s2.fh).part (fun b h => h) fun b h => ?_) E2 (.cons (r1.stp s2 d1) r2 fun b hb z => ap b hb (List.mem_append_right _ z)) fun b hb => ?_
    · rcases List.mem_append.mp h with h | h
      · exact List.mem_append_left _ (List.mem_append_left _ h)
      · rcases List.mem_append.mp h with h | h
        · exact List.mem_append_right _ h
        · exact List.mem_append_left _ (List.mem_append_right _ h)
    · rcases List.mem_append.mp hb with h | h
      · exact fun z => ap b h (List.mem_append_left _ z)
      · exact d2 b h

/-! ### values frozen, looked at, in a row -/
def fix (e : En) (r : Rv) : Option (D × En) := match own e r with
  | some (o, e') => some (o.val, e')
  | none => none
def fixAll : En → List Rv → Option (List D × En)
  | e, [] => some ([], e)
  | e, r :: rs => match fix e r with
    | none => none
    | some (d, e1) => match fixAll e1 rs with
      | none => none
      | some (ds, e2) => some (d :: ds, e2)
def lookAll (e : En) : List Rv → Option (List D)
  | [] => some []
  | r :: rs => match look e r with
    | none => none
    | some d => match lookAll e rs with
      | none => none
      | some ds => some (d :: ds)
theorem fix_ok {F H : Hp} {fp fq : List Addr} {σ : St} {e e' : En} {v : V} {r : Rv} {d : D} (s : Sub F H) (E : EnvR c mv F H fp σ e) (h : RvR c mv F H σ fq v r) (dj : ∀ b ∈ fq, b ∉ fp) (l : fix e r = some (d, e')) :
    ∃ F' fp', Stp F H (fp ++ fq) F' H fp' ∧ Fz c F' v d ∧ EnvR c mv F' H fp' σ e' ∧ ∀ b ∈ fp', b ∈ fp := by
  unfold fix at l
  cases q : own e r with
  | none => rw [q] at l; cases l
  | some p =>
    obtain ⟨o, e1⟩ := p
    rw [q] at l
    cases l
    obtain ⟨F1, f1, q1, s1, h1, E1, d1, m1, n1⟩ := own_ok s E h dj q
    have st : Stp F1 H q1 (ice F1 H q1) H [] := Stp.ice s1.fh (fun b hb => (h1.has b hb).1) (fun b hb => hb) fun b hb => nomatch hb
    refine ⟨ice F1 H q1, f1, s1.trans (Stp.ice s1.fh (fun b hb => (h1.has b hb).1) (fun b hb => List.mem_append_right _ hb) fun b hb => List.mem_append_left _ hb), h1.ice s1.fh, E1.stp st fun b hb z => d1 b z hb, m1⟩
theorem fixAll_ok {σ : St} {H : Hp} : ∀ {rs : List Rv} {F : Hp} {fp fq : List Addr} {e e' : En} {vs : List V} {ds : List D}, Sub F H → EnvR c mv F H fp σ e → RvAll c mv F H σ fq vs rs → (∀ b ∈ fq, b ∉ fp) → fixAll e rs = some (ds, e') →
    ∃ F' fp', Stp F H (fp ++ fq) F' H fp' ∧ FzAll c F' vs ds ∧ EnvR c mv F' H fp' σ e' ∧ ∀ b ∈ fp', b ∈ fp
  | [], F, fp, fq, e, e', vs, ds, s, E, h, dj, l => by
    cases h
    cases l
    exact ⟨F, fp, by rw [List.append_nil]; exact Stp.refl s, .nil, E, fun _ h => h⟩
  | r :: rs, F, fp, fq, e, e', vs, ds, s, E, h, dj, l => by
    cases h with
    | @cons p q v r vs rs h1 h2 hd =>
      unfold fixAll at l
      cases z : fix e r with
      | none => rw [z] at l; cases l
      | some y =>
        obtain ⟨d, e1⟩ := y
        rw [z] at l
        simp only at l
        obtain ⟨F1, f1, s1, k1, E1, m1⟩ := fix_ok s E h1 (fun b hb => dj b (List.mem_append_left _ hb)) z
        cases z2 : fixAll e1 rs with
        | none => rw [z2] at l; cases l
        | some y2 =>
          obtain ⟨ds2, e2⟩ := y2
          rw [z2] at l
          cases l
          have h2' : RvAll c mv F1 H σ q vs rs := h2.stp s1 fun b hb z => (List.mem_append.mp z).elim (fun y => dj b (List.mem_append_right _ hb) y) fun y => hd b y hb
          obtain ⟨F2, f2, s2, k2, E2, m2⟩ := fixAll_ok s1.fh E1 h2' (fun b hb z => dj b (List.mem_append_right _ hb) (m1 b z)) z2
          refine ⟨F2, f2, ?_, .cons (k1.mono s2.ff) k2, E2, fun b hb => m1 b (m2 b hb)⟩
          have s1' := s1.more (fq := q) fun b hb => (h2.has b hb).2
          rw [← List.append_assoc]
          exact s1'.trans s2
theorem lookAll_ok {F H : Hp} {fp : List Addr} {σ : St} {e : En} (s : Sub F H) (E : EnvR c mv F H fp σ e) : ∀ {fq : List Addr} {vs : List V} {rs : List Rv} {ds : List D}, RvAll c mv F H σ fq vs rs → lookAll e rs = some ds → FzAll c H vs ds
  | _, _, _, _, .nil, l => by cases l; exact .nil
  | _, _, _, ds, .cons (r := r) (rs := rs) h1 h2 _, l => by
    unfold lookAll at l
    cases z : look e r with
    | none => rw [z] at l; cases l
    | some d =>
      rw [z] at l
      simp only at l
      cases z2 : lookAll e rs with
      | none => rw [z2] at l; cases l
      | some ds2 =>
        rw [z2] at l
        cases l
        exact .cons (look_ok s E h1 z) (lookAll_ok s E h2 z2)

/-! ### operations on values: V: they look, and tell something small; F: they take over -/
inductive Res where
  | ok (o : O) | ex (x : XD) | no
def VOp (c : Cs) (r : List V → Hp → VK → Prop) (φ : List D → Option D) : Prop :=
  ∀ (F H : Hp) (vs : List V) (ds : List D) (d : D) (Q : VK), Sub F H → FzAll c H vs ds → φ ds = some d → (∀ v, (∀ G, Fz c G v d) → Q v H) → r vs H Q
def FOp (c : Cs) (r : List V → Hp → VK → Prop) (φ : List D → Option O) : Prop :=
  ∀ (F H : Hp) (vs : List V) (ds : List D) (o : O) (Q : VK), Sub F H → FzAll c F vs ds → φ ds = some o → (∀ F' H' fq v, Stp F H [] F' H' fq → Ow c F' H' fq v o → Q v H') → r vs H Q
def eV (φ : List D → Option D) (f : En → Out (List Rv)) : En → Out Rv := fun e => (f e).bind fun rs e1 => match lookAll e1 rs with
  | none => .no
  | some ds => match φ ds with
    | none => .no
    | some d => .ok (.tm (.fz d)) e1
def eF (φ : List D → Option O) (f : En → Out (List Rv)) : En → Out Rv := fun e => (f e).bind fun rs e1 => match fixAll e1 rs with
  | none => .no
  | some (ds, e2) => match φ ds with
    | none => .no
    | some o => .ok (.tm o) e2
/-- a step beside what is held -/
theorem Stp.beside {F H F' H' : Hp} {fp fq : List Addr} (s : Stp F H [] F' H' fq) (hp : ∀ b ∈ fp, F b = none ∧ H b ≠ none) : Stp F H fp F' H' (fp ++ fq) ∧ ∀ b ∈ fq, b ∉ fp := by
  have m := s.more (fq := fp) fun b hb => (hp b hb).2
  refine ⟨m.part (fun b hb => by simpa using hb) fun b hb => ?_, fun b hb z => ?_⟩
  · rcases List.mem_append.mp hb with h | h
    · exact List.mem_append_right _ h
    · exact List.mem_append_left _ h
  · rcases s.newP b hb with q | q
    · cases q
    · exact (hp b z).2 q
theorem eV_ok {r : List V → Hp → VK → Prop} {φ : List D → Option D} (vo : VOp c r φ) {F H : Hp} {fp fq : List Addr} {σ : St} {e : En} {vs : List V} {rs : List Rv} {Q : VK} (s : Sub F H) (E : EnvR c mv F H fp σ e) (h : RvAll c mv F H σ fq vs rs)
    (p : Po c mv (rvR c mv) W F H (fp ++ fq) σ (match lookAll e rs with | none => Out.no | some ds => match φ ds with | none => .no | some d => .ok (.tm (.fz d)) e) Q) : r vs H Q := by
  cases z : lookAll e rs with
  | none => rw [z] at p; exact p.elim
  | some ds =>
    rw [z] at p
    simp only at p
    cases z2 : φ ds with
    | none => rw [z2] at p; exact p.elim
    | some d =>
      rw [z2] at p
      exact vo F H vs ds d Q s (lookAll_ok s E h z) z2 fun v hv => Po.fz s E (hv F) (fun b hb => List.mem_append_left _ hb) p
theorem eF_ok {r : List V → Hp → VK → Prop} {φ : List D → Option O} (fo : FOp c r φ) {F H : Hp} {fp fq : List Addr} {σ : St} {e : En} {vs : List V} {rs : List Rv} {Q : VK} (s : Sub F H) (E : EnvR c mv F H fp σ e) (h : RvAll c mv F H σ fq vs rs) (dj : ∀ b ∈ fq, b ∉ fp)
    (p : Po c mv (rvR c mv) W F H (fp ++ fq) σ (match fixAll e rs with | none => Out.no | some (ds, e2) => match φ ds with | none => .no | some o => .ok (.tm o) e2) Q) : r vs H Q := by
  cases z : fixAll e rs with
  | none => rw [z] at p; exact p.elim
  | some y =>
    obtain ⟨ds, e2⟩ := y
    rw [z] at p
    simp only at p
    cases z2 : φ ds with
    | none => rw [z2] at p; exact p.elim
    | some o =>
      rw [z2] at p
      obtain ⟨F1, f1, s1, k1, E1, m1⟩ := fixAll_ok s E h dj z
      refine fo F1 H vs ds o Q s1.fh k1 z2 fun F2 H2 q2 v s2 h2 => ?_
      obtain ⟨s3, d3⟩ := s2.beside (fp := f1) E1.has
      exact p F2 H2 f1 q2 v (s1.trans s3) (E1.stp s2 fun b hb z => nomatch z) (.tm h2) d3
/-- two in a row as a list -/
def two (f g : En → Out Rv) : En → Out (List Rv) := aCons f (aCons g aNil)
/-- the operands ready -/
theorem two_ok {f g : En → Out Rv} {k : List Rv → En → Out Rv} {R : V → V → Hp → VK → Prop} {Q : VK} {σ : St} {H : Hp}
    (h : ∃ F fp e, Sub F H ∧ EnvR c mv F H fp σ e ∧ Po c mv (rvR c mv) W F H fp σ ((two f g e).bind k) Q)
    (hk : ∀ F H fp fq e v w rs, Sub F H → EnvR c mv F H fp σ e → RvAll c mv F H σ fq [v, w] rs → (∀ b ∈ fq, b ∉ fp) → Po c mv (rvR c mv) W F H (fp ++ fq) σ (k rs e) Q → R v w H Q) :
    rd c mv (rvR c mv) W f σ H fun x H1 => rd c mv (rvR c mv) W g σ H1 fun y H2 => R x y H2 Q := by
  obtain ⟨F, fp, e, s, E, p⟩ := h
  have re : (two f g e).bind k = (f e).bind fun a e1 => (g e1).bind fun b e2 => k [a, b] e2 := by
    unfold two aCons aNil
    cases f e with
    | no => rfl
    | ex x e1 => rfl
    | ok a e1 =>
      simp only [Out.bind]
      cases g e1 <;> rfl
  rw [re] at p
  refine ⟨F, fp, e, s, E, Po.seq (R1 := rvR c mv) p fun a e1 F1 H1 f1 q1 v _ s1 E1 r1 d1 p1 => ⟨F1, f1, e1, s1.fh, E1, ?_⟩⟩
  refine Po.seqS (R1 := rvR c mv) p1 r1.has fun b e2 F2 H2 f2 q2 w _ s2 E2 r2 d2 p2 => ?_
  have ap := s2.apart (fun b hb => (r1.has b hb).2) d1
  refine hk F2 H2 f2 (q1 ++ (q2 ++ [])) e2 v w [a, b] s2.fh E2 (.cons (r1.stp s2 d1) (.cons r2 .nil fun b hb z => nomatch z) fun b hb z => ap b hb (List.mem_append_right _ (by simpa using z))) ?_ ?_
  · intro b hb
    rcases List.mem_append.mp hb with h | h
    · exact fun z => ap b h (List.mem_append_left _ z)
    · exact d2 b (by simpa using h)
  · refine Po.step p2 ((Stp.refl s2.fh).part (fun _ h => h) fun b hb => ?_)
    simp only [List.mem_append, List.append_nil] at hb ⊢
    rcases hb with h | h | h
    · exact .inl (.inl h)
    · exact .inr h
    · exact .inl (.inr h)
def R2of (r : R2) : List V → Hp → VK → Prop := fun vs H Q => ∃ x y, vs = [x, y] ∧ r x y H Q
theorem R2of.out {r : R2} {x y : V} {H : Hp} {Q : VK} (h : R2of r [x, y] H Q) : r x y H Q := by
  obtain ⟨a, b, e, h⟩ := h
  cases e
  exact h
section
variable {op : Operator} {cp : CmpOp} {r : R2} {a b : Expr} {f g : En → Out Rv} {pos : Pos}
theorem de_opF {φ : List D → Option O} (ho : OpR X (binaryOp op) r) (fo : FOp c (R2of r) φ) (ha : DE X c mv W a f) (hb : DE X c mv W b g) : DE X c mv W (.BinOp a op b pos) (eF φ (two f g)) :=
  pe_imp (pe_op ho ha hb) fun σ H Q h => two_ok (R := r) h fun F H fp fq e v w rs s E rr d p => (eF_ok fo s E rr d p).out
theorem de_opV {φ : List D → Option D} (ho : OpR X (binaryOp op) r) (vo : VOp c (R2of r) φ) (ha : DE X c mv W a f) (hb : DE X c mv W b g) : DE X c mv W (.BinOp a op b pos) (eV φ (two f g)) :=
  pe_imp (pe_op ho ha hb) fun σ H Q h => two_ok (R := r) h fun F H fp fq e v w rs s E rr d p => (eV_ok vo s E rr p).out
theorem de_cmp {φ : List D → Option D} (ho : OpR X (compareOp cp) r) (vo : VOp c (R2of r) φ) (ha : DE X c mv W a f) (hb : DE X c mv W b g) (hm : behindInMarks cp b = false) : DE X c mv W (.Compare a [cp] [b] pos) (eV φ (two f g)) :=
  pe_imp (pe_cmpR ho ha hb hm) fun σ H Q h => two_ok (R := r) h fun F H fp fq e v w rs s E rr d p => (eV_ok vo s E rr p).out
/-- a value as a test -/
def tOf (f : En → Out Rv) : En → Out Bool := fun e => (f e).bind fun r e1 => match r with
  | .tm (.fz (.bl b)) => .ok b e1
  | _ => .no
theorem tOf_ok {f : En → Out Rv} {σ : St} {H : Hp} {Q : Bool → Hp → Prop} (h : rd c mv blR W (tOf f) σ H Q) : rd c mv (rvR c mv) W f σ H fun x H' => ∃ k, x = .bl k ∧ Q k H' := by
  obtain ⟨F, fp, e, s, E, p⟩ := h
  refine ⟨F, fp, e, s, E, Po.seq (R1 := rvR c mv) p fun r e1 F1 H1 f1 q1 v _ s1 E1 r1 d1 p1 => ?_⟩
  cases r with
  | sl i => exact p1.elim
  | me => exact p1.elim
  | tm o =>
    cases o with
    | fz d =>
      cases d with
      | bl k =>
        cases r1 with
        | tm r1 =>
          cases r1 with
          | fz r1 =>
            cases r1
            exact ⟨k, rfl, p1 F1 H1 f1 [] k (by simpa using Stp.refl s1.fh) E1 ⟨rfl, rfl⟩ fun b hb => nomatch hb⟩
      | _ => exact p1.elim
    | _ => exact p1.elim
theorem dt_cmp {φ : List D → Option D} (ho : OpR X (compareOp cp) r) (vo : VOp c (R2of r) φ) (ha : DE X c mv W a f) (hb : DE X c mv W b g) (hm : behindInMarks cp b = false) : DT X c mv W (.Compare a [cp] [b] pos) (tOf (eV φ (two f g))) :=
  pt_imp (pt_cmpR ho ha hb hm) fun σ H Q h => two_ok (R := r) (tOf_ok h) fun F H fp fq e v w rs s E rr d p => (eV_ok vo s E rr p).out
end
end
end DL

set_option Elab.async false
set_option linter.all false
set_option maxRecDepth 100000
set_option maxHeartbeats 2000000
/-! DL, part G: defs that are called where nothing is being shown. -/
namespace DL
open PySem L2 PySem.Spec PyProof.Rows

def Quiet (A : Around) : Prop := A.guards = some []
structure FnG (P : Program) (w : World) (K : PySem.W.Frag) (mg : Str → Option Value) (base : Heap) (k : Nat) (f : Addr) (fd : FuncData) (ps : List Str) (sp : Sp) : Prop where
  len : ∀ vs H Q E, sp vs H Q E → vs.length = ps.length
  run : ∀ (A : Around) (outer : List Env) (s : Shared) (H : Hp) (args : Args) (us : List Value) (vs : List V) (Q : VK) (E : XK),
    Quiet A → Room k A → Env0 P w K mg base A outer s H → BindsTo s fd args (ps.zip us) → Vals vs us → sp vs H Q E →
    codeAny (model P w) A (.call (.ref f) args) (CR (L2.CX P w) outer P w H s Q E) s
section
variable {P : Program} {w : World} {K : PySem.W.Frag} {mg : Str → Option Value} {base : Heap} {j k : Nat} {f : Addr} {fd : FuncData} {ps N : List Str} {sp sp' : Sp}
theorem FnG.up (F : FnG P w K mg base j f fd ps sp) (h : j ≤ k) : FnG P w K mg base k f fd ps sp :=
  { len := F.len
    run := fun A outer s H args us vs Q E g r => F.run A outer s H args us vs Q E g (r.mono h) }
theorem FnG.weak (F : FnG P w K mg base k f fd ps sp) (h : ∀ vs H Q E, sp' vs H Q E → sp vs H Q E) : FnG P w K mg base k f fd ps sp' :=
  { len := fun vs H Q E q => F.len vs H Q E (h vs H Q E q)
    run := fun A outer s H args us vs Q E g r e b v q => F.run A outer s H args us vs Q E g r e b v (h vs H Q E q) }
/-- nothing is promised -/
theorem FnG.never (h : ∀ vs H Q E, ¬ sp vs H Q E) : FnG P w K mg base k f fd ps sp :=
  { len := fun vs H Q E q => (h vs H Q E q).elim
    run := fun A outer s H args us vs Q E _ _ _ _ _ q => (h vs H Q E q).elim }
theorem quiet_deeper {A : Around} {env : Env} (g : Quiet A) : Quiet (A.deeper env) := by
  unfold Quiet at g ⊢
  first
    | exact g
    | simpa [Around.deeper] using g
/-- a def of the text by its body -/
theorem defG {x qual : Str} {st : Stmt} (F : Fun K x qual st f fd) (S : FnScope N ps (defScope st)) (len : ∀ vs H Q E, sp vs H Q E → vs.length = ps.length)
    (body : ∀ (cdv : Value) (A : Around) (outer : List Env) (s : Shared) (H : Hp) (vs : List V) (Q : VK) (E : XK),
      Quiet (A.deeper (envOfC qual (defScope st) s.heap.objs.size f cdv)) → Room k (A.deeper (envOfC qual (defScope st) s.heap.objs.size f cdv)) → sp vs H Q E →
      ∃ t, PSs (cxOf (L2.CX P w) P w K mg base N qual (defScope st) f cdv A outer s H E) (defBody st) t ∧
        t { nx := fun _ H' => Q .non H', rt := Q } (start N vs) H) : FnG P w K mg base (k + 1) f fd ps sp := by
  obtain ⟨oc, od, kV, doc, pm, an, cdv, ct, osl, rfl, lk, hcd⟩ := F.ex
  refine { len := len, run := fun A outer s H args us vs Q E g r e0 hb rv hsp => ?_ }
  have hl := len _ _ _ _ hsp
  have there : K.In s.heap := e0.mod.kin.keeps fun b o e => (e0.bs b o e).1
  have roomy : s.heap.NoLimit := e0.mod.nolimit.keeps fun b o e => (e0.bs b o e).1
  have kinds : ∀ y ∈ ps.zip us, (defScope st).names.lookup y.1 = some .local ∨ ((defScope st).names.lookup y.1 = some .cell ∧
      ((cellsFrom (s.heap.objs.size + 1) (defScope st).names []).lookup y.1).isSome = true) := by
    rintro ⟨n, v⟩ hy
    rcases S.par n (List.of_mem_zip hy).1 with q | q
    · exact Or.inl q
    · exact Or.inr ⟨q, PySem.W.cellsFrom_some _ _ _ (Or.inl q)⟩
  refine codeAny_call_function r.depth (there _ _ lk) rfl S.co S.gen rfl (PySem.W.codeRec_of there hcd) (hb _ _ _ _ ?_)
  refine wpAny_newFunctionEnv_cells S.kind kinds fun env he s1 ic => ?_
  subst he
  refine ⟨roomy.keeps ic.toInCall.keep, codeAny_func ?_⟩
  obtain ⟨t, ht, hq⟩ := body cdv A outer s H vs Q E (quiet_deeper g) (r.deeper _) hsp
  have I := inv_start (CX := L2.CX P w) (E := E) (qual := qual) (f := f) (cd := cdv) S r.hd e0 hl rv ic
  refine wpAny_mono (ht.run [] s1 (start N vs) H _ I hq) ?_ (fun e s' hs => hs)
  intro fl s' hs
  cases fl with
  | brk =>
    obtain ⟨_, _, _, q⟩ := hs
    exact q.elim
  | cont =>
    obtain ⟨_, _, _, q⟩ := hs
    exact q.elim
  | next =>
    obtain ⟨_, H', J, q⟩ := hs
    exact ⟨V.non, H', J.os, J.bare, J.base, J.hok, rfl, q⟩
  | ret u =>
    obtain ⟨v, _, H', J, rr, q⟩ := hs
    exact ⟨v, H', J.os, J.bare, J.base, J.hok, rr, q⟩
end

/-! ### calls -/
section
variable {X : Cx} {W : WX} {k : Nat} {f C : Addr} {fd : FuncData} {ps : List Str} {sp : Sp} {x m : Str} {p pos apos : Pos} {e o : Expr} {es : List Expr} {ta : TE} {t : TA} {σ : L2.St}
theorem goG {pins : List (Addr × Obj)} {H : Hp} {s : Shared} {Q : VK} {us : List Value} {vs : List V} (F : FnG X.prog X.w X.K X.mg X.base k f fd ps sp) (g : Quiet X.A) (r : Room k X.A) (hb : Binds X.K fd ps []) (tk : Takes X W)
    (I : Inv X pins σ H s) (rv : Vals vs us) (h : sp vs H Q (WE W σ)) : wpAny (model X.prog X.w) X.A (call (.ref f) us) (EP X pins σ Q) X.xe s := by
  have hl : (us ++ []).length = ps.length := by
    rw [List.append_nil, ← rv.length]
    exact F.len _ _ _ _ h
  have b := hb s us I.kIn hl
  rw [List.append_nil] at b
  refine wpAny_call (codeAny_mono (F.run X.A X.stack s H ⟨us, []⟩ us vs Q (WE W σ) g r I.env0 b rv h) ?_)
  intro res s' hq
  cases res with
  | error u => exact passAt tk σ pins H s u s' I hq
  | ok fl =>
    cases fl with
    | ret u => exact I.after hq
    | next => exact hq.elim
    | brk => exact hq.elim
    | cont => exact hq.elim
theorem pe_callG (F : FnG X.prog X.w X.K X.mg X.base k f fd ps sp) (g : Quiet X.A) (r : Room k X.A) (hg : Gl X x) (hm : X.mg x = some (.ref f)) (hk : PySem.W.keepIn X.K (.ref f) = true) (hb : Binds X.K fd ps []) (tk : Takes X W)
    (ha : PA X (e :: es) t) (hdb : (x == ("__debug__" : Str)) = false := by decide) (he : starEach (e :: es) X.env = (false, eval e X.env) :: starEach es X.env := by rfl) (hpl : (backTo pos (starEach es X.env)).any (·.1) = false := by rfl) :
    PE X (.Call (.Name x p) (e :: es) [] pos) (tCallS sp (WE W) t) := by
  constructor
  intro pins s σ H Q I h
  refine wpAny_Call_Name_kw (ld_glob I hg hm (PySem.W.callWith_K (h₀ := X.base) I.ok.mod.kin hk (thn (ha.run pos pins s σ H _ I h) ?_) he hpl) hdb)
  rintro us s1 ⟨vs, H1, I1, rv, q⟩
  exact ⟨I1.kIn, goG F g r hb tk I1 rv q⟩
theorem pe_callG0 (F : FnG X.prog X.w X.K X.mg X.base k f fd ps sp) (g : Quiet X.A) (r : Room k X.A) (hg : Gl X x) (hm : X.mg x = some (.ref f)) (hk : PySem.W.keepIn X.K (.ref f) = true) (hb : Binds X.K fd ps []) (tk : Takes X W)
    (hdb : (x == ("__debug__" : Str)) = false := by decide) : PE X (.Call (.Name x p) [] [] pos) (tCallS sp (WE W) tNil) := by
  constructor
  intro pins s σ H Q I h
  exact wpAny_Call_Name_kw (ld_glob I hg hm (PySem.W.callWith_K0 I.kIn hk (goG (us := []) F g r hb tk I .nil h)) hdb)
end

/-! ### the law -/
theorem lawG {P : Program} {w : World} {K : PySem.W.Frag} {mg mb : Str → Option Value} {k : Nat} {fa a : Addr} {fd : FuncData} {x : Str} {sp : Sp} {s1 : Shared} {vs : List Value} {ns : List Int}
    (KX : K.In s1.heap) (hns : s1.heap.Ns mainGlobals mg) (hb : s1.heap.Ns builtinsNs mb) (hbb : ∀ x : Str, x ≠ "__name__" → mb x = bootBuiltins x) (hlim : s1.heap.NoLimit) (hg : s1.gens = #[])
    (ha : s1.heap.get? a = some { cls := .type "list", data := .seq vs.toArray }) (hi : IntsAre vs ns) (hl : ns.length ≤ sizeLine) (hr : Room k callerA)
    (F : ∀ base : Heap, K.In base → base.Ns mainGlobals mg → FnG P w K mg base k fa fd [x] sp) (hbind : ∀ (s : Shared) (u : Value), BindsTo s fd ⟨[u], []⟩ [(x, u)])
    (hsp : ∀ H : Hp, Only H → SqL K H a (ns.map V.int) → sp [.ref a] H (fun v _ => v = .bl true) fun _ _ _ => False) :
    codeAny (model P w) callerA (.call (.ref fa) ⟨[.ref a], []⟩) (fun r s' => r = .ok (.ret (.bool true)) ∧ OldK s1.heap s'.heap ∧ s'.os = s1.os ∧ AllBare s'.gens) s1 := by
  have rv := vals_ints hi
  have lenV := hi.length
  -- whatever is tracked at the entry is the script alone
  have main : ∀ H : Hp, Only H → SqL K H a (ns.map V.int) → HOk P w H s1.heap → (∀ b, H b ≠ none → b = a) → (H a ≠ none → K.lookup a = none) →
      codeAny (model P w) callerA (.call (.ref fa) ⟨[.ref a], []⟩)
        (fun r s' => r = .ok (.ret (.bool true)) ∧ OldK s1.heap s'.heap ∧ s'.os = s1.os ∧ AllBare s'.gens) s1 := by
    intro H hO hS hok hA hK
    have under : ∀ {b : Addr} {o : Obj}, s1.heap.get? b = some o → H b = none → (hidT s1.heap H).get? b = some o := by
      intro b o e n
      exact hidT_get e n
    have notScript : ∀ {b : Addr}, H b ≠ none → b = a := fun {b} h => hA b h
    have dictFree : ∀ {b : Addr} {o : Obj} {es : Array DictEntry} {ep : Nat}, s1.heap.get? b = some o → o.data = .dict es ep → H b = none := by
      intro b o es ep e d
      refine Classical.byContradiction fun q => ?_
      rw [notScript q, ha] at e
      cases e
      cases (show Data.seq vs.toArray _ = Data.dict es ep from d)
    have names : ∀ {b : Addr} {m : Str → Option Value}, s1.heap.Ns b m → (hidT s1.heap H).Ns b m := by
      rintro b m ⟨o, es, ep, e, d, r⟩
      exact ⟨o, es, ep, under e (dictFree e d), d, r⟩
    have inBase : K.In (hidT s1.heap H) := by
      intro b o e
      refine under (KX b o e) (Classical.byContradiction fun q => ?_)
      have z := hK (by rw [← notScript q]; exact q)
      rw [← notScript q, e] at z
      cases z
    have M : Mod K mg (hidT s1.heap H) := by
      obtain ⟨mc, h1, h2⟩ := hlim
      exact { kin := inBase, glob := names hns, blt := ⟨mb, names hb, hbb⟩, nolimit := ⟨mc, names h1, h2⟩ }
    have e0 : Env0 P w K mg (hidT s1.heap H) callerA [] s1 H :=
      { frames := rfl, mod := M, bs := fun b o e => of_hidT e, bsz := Nat.le_of_eq (hidT_size _ _), funs := trivial, frf := (fun b hb => nomatch hb), hok := hok, bare := AllBare.of_eq hg }
    have called := (F _ inBase (names hns)).run callerA [] s1 H ⟨[.ref a], []⟩ [.ref a] [.ref a] _ _ rfl hr e0 (hbind s1 (.ref a)) (.cons rfl .nil) (hsp H hO hS)
    refine codeAny_mono called fun r s' h => ?_
    cases r with
    | error e =>
      obtain ⟨_, _, _, _, _, _, _, _, _, _, _, _, z⟩ := h
      exact z.elim
    | ok fl =>
      cases fl with
      | ret u =>
        obtain ⟨v, H', os, bare, un, hok', r', q⟩ := h
        obtain rfl : v = .bl true := q
        obtain rfl : u = Value.bool true := r'
        refine ⟨rfl, OldK.of_keep fun b o e => ?_, os, bare⟩
        rcases hO b with z | ⟨ob, xs, z⟩
        · exact un.keep b o e z (fun z => nomatch z) (fun z => nomatch z)
        · have z1 := (hok b _ z).1
          have z2 := (hok' b _ (un.frzs b ob _ z)).1
          rw [e] at z1
          cases z1
          exact z2
      | next => exact h.elim
      | brk => exact h.elim
      | cont => exact h.elim
  cases hk : K.lookup a with
  | some o =>
    have e := KX a o hk
    rw [ha] at e
    cases e
    refine main (fun _ => none) (fun _ => Or.inl rfl) (Or.inr ⟨_, vs.toArray, _, hk, rfl, rfl, rfl, ?_, by simpa using rv⟩) ?_ (fun b z => absurd rfl z) (fun z => absurd rfl z)
    · rw [List.size_toArray, lenV]
      exact hl
    · intro b u z
      cases (show (none : Option HO) = some u from z)
  | none =>
    have at_a : ∀ b, b = a → (if b = a then some (HO.frz { cls := .type "list", data := .seq vs.toArray } (.lst (ns.map V.int))) else none) = some (HO.frz { cls := .type "list", data := .seq vs.toArray } (.lst (ns.map V.int))) := fun b h => if_pos h
    have off_a : ∀ b, ¬ b = a → (if b = a then some (HO.frz { cls := .type "list", data := .seq vs.toArray } (.lst (ns.map V.int))) else none) = none := fun b h => if_neg h
    refine main (fun b => if b = a then some (.frz { cls := .type "list", data := .seq vs.toArray } (.lst (ns.map V.int))) else none) ?_ (Or.inl (Or.inr ⟨_, at_a a rfl⟩)) ?_ ?_ (fun _ => hk)
    · intro b
      rcases Classical.em (b = a) with h | h
      · exact Or.inr ⟨_, _, at_a b h⟩
      · exact Or.inl (off_a b h)
    · intro b u z
      rcases Classical.em (b = a) with h | h
      · cases (at_a b h).symm.trans z
        subst h
        exact ⟨ha, by rw [List.length_map]; exact hl, vs, _, rv, ha⟩
      · cases (off_a b h).symm.trans z
    · intro b z
      exact Classical.byContradiction fun h => z (off_a b h)
theorem walkG {l : PySem.W.OpenLaw} {n k : Nat} {q : Program} {loose : List Str} {XP : (Str → Option Value) → Heap → Prop} {YP : World → Heap → Prop} {d : DefRec} {K : Params → PySem.W.Frag} {sp : World → Sp} {x : Str}
    (hn : l.most = some n) (hn2 : n ≤ sizeLine) (hdf : d.params.defaults = []) (hr : Room k callerA) (hY : ∀ (w : World) (h : Heap), YP w h → (K w.params).In h)
    (F : ∀ (w : World) (mg : Str → Option Value) (fa : Addr) (h : Heap), (K w.params).In h → h.Ns mainGlobals mg → mg d.name = some (.ref fa) →
      ∃ fd : FuncData, (∀ (s : Shared) (u : Value), BindsTo s fd ⟨[u], []⟩ [(x, u)]) ∧ ∀ base : Heap, (K w.params).In base → base.Ns mainGlobals mg → FnG l.prog w (K w.params) mg base k fa fd [x] (sp w))
    (hsp : ∀ (w : World) (H : Hp) (a : Addr) (ns : List Int), ns.length ≤ n → Only H → SqL (K w.params) H a (ns.map V.int) → sp w [.ref a] H (fun v _ => v = .bl true) fun _ _ _ => False) :
    PySem.W.WalkO q loose XP YP l.row.toRowW d [] (fun f vs => PySem.call f vs) := by
  refine Att.attach_call hn hdf ?_
  intro w s0 s1 mg mb fa o pm cd doc a vs ns G Y ho hd hcd hmg hobj hints hlen hg
  obtain ⟨fd, hb, hF⟩ := F w mg fa _ (hY w _ Y) G.T.g hmg
  exact lawG (hY w _ Y) G.T.g G.T.b G.T.builtins G.T.nolimit hg hobj hints (Nat.le_trans hlen hn2) hr hF hb fun H hO hS => hsp w H a ns hlen hO hS
end DL

set_option Elab.async false
set_option linter.all false
set_option maxRecDepth 100000
set_option maxHeartbeats 2000000
/-! DL, part D: tests, calls, displays, statements, defs. -/
namespace DL
open PySem L2

section
variable {X : Cx} {c : Cs} {mv : V} {W : WX}

/-! ### tests -/
theorem Po.bl {F H : Hp} {fp fr : List Addr} {σ : L2.St} {e : En} {k : Bool} {Q : Bool → Hp → Prop} (s : Sub F H) (E : EnvR c mv F H fp σ e) (hs : ∀ b ∈ fp, b ∈ fr) (p : Po c mv blR W F H fr σ (.ok k e) Q) : Q k H :=
  p F H fp [] k (by rw [List.append_nil]; exact (Stp.refl s).part (fun _ h => h) hs) E ⟨rfl, rfl⟩ fun b hb => nomatch hb
theorem dt_val {e : Expr} {f : En → Out Rv} (h : DE X c mv W e f) (he : ∀ whole, isTrue e X.env whole = (do let v ← whole; standAt e.pos; holding [v] (truthy v)) := by intro _; rfl) : DT X c mv W e (tOf f) :=
  pt_imp (pt_val h he) fun σ H Q h => tOf_ok h
theorem dw_pt {e : Expr} {f : En → Out Bool} (h : DW X c mv W e f) : DT X c mv W e f := PW.pt h
def tAndD (f g : En → Out Bool) : En → Out Bool := fun e => (f e).bind fun k e1 => match k with | true => g e1 | false => .ok false e1
def tOrD (f g : En → Out Bool) : En → Out Bool := fun e => (f e).bind fun k e1 => match k with | true => .ok true e1 | false => g e1
def tNotD (f : En → Out Bool) : En → Out Bool := fun e => (f e).bind fun k e1 => .ok (!k) e1
/-- a test, then by its answer -/
theorem test_ok {α β : Type} {R : Rel α β} {f : En → Out Bool} {k : Bool → En → Out α} {σ : L2.St} {H : Hp} {Q : β → Hp → Prop} {T : Bool → Hp → Prop}
    (h : ∃ F fp e, Sub F H ∧ EnvR c mv F H fp σ e ∧ Po c mv R W F H fp σ ((f e).bind k) Q)
    (hk : ∀ b F H fp e, Sub F H → EnvR c mv F H fp σ e → Po c mv R W F H fp σ (k b e) Q → T b H) : rd c mv blR W f σ H T := by
  obtain ⟨F, fp, e, s, E, p⟩ := h
  refine ⟨F, fp, e, s, E, Po.seq (R1 := blR) p fun b e1 F1 H1 f1 q1 v _ s1 E1 r1 d1 p1 => ?_⟩
  obtain ⟨rfl, rfl⟩ := r1
  rw [List.append_nil] at p1
  exact hk _ F1 H1 f1 e1 s1.fh E1 p1
section
variable {a b : Expr} {rest : List Expr} {f g : En → Out Bool} {pos : Pos}
theorem dw_and1 (ha : DT X c mv W a f) : DW X c mv W (.BoolOp .And [a] pos) f := pw_and1 ha
theorem dw_or1 (ha : DT X c mv W a f) : DW X c mv W (.BoolOp .Or [a] pos) f := pw_or1 ha
theorem dw_and (ha : DT X c mv W a f) (hb : DW X c mv W (.BoolOp .And (b :: rest) pos) g) : DW X c mv W (.BoolOp .And (a :: b :: rest) pos) (tAndD f g) :=
  pw_imp (pw_and ha hb) fun σ H Q h => test_ok (R := blR) h fun k F H fp e s E p => by
    cases k with
    | true => exact iteT ⟨F, fp, e, s, E, p⟩
    | false => exact iteF (Po.bl s E (fun _ h => h) p)
theorem dw_or (ha : DT X c mv W a f) (hb : DW X c mv W (.BoolOp .Or (b :: rest) pos) g) : DW X c mv W (.BoolOp .Or (a :: b :: rest) pos) (tOrD f g) :=
  pw_imp (pw_or ha hb) fun σ H Q h => test_ok (R := blR) h fun k F H fp e s E p => by
    cases k with
    | true => exact iteT (Po.bl s E (fun _ h => h) p)
    | false => exact iteF ⟨F, fp, e, s, E, p⟩
theorem dt_not (ha : DT X c mv W a f) : DT X c mv W (.UnaryOp .Not a pos) (tNotD f) :=
  pt_imp (pt_not ha) fun σ H Q h => test_ok (R := blR) h fun k F H fp e s E p => Po.bl s E (fun _ h => h) p
def eIf (t : En → Out Bool) (f g : En → Out Rv) : En → Out Rv := fun e => (t e).bind fun k e1 => match k with | true => f e1 | false => g e1
theorem de_if {t : Expr} {ft : En → Out Bool} {fa fb : En → Out Rv} (ht : DT X c mv W t ft) (ha : DE X c mv W a fa) (hb : DE X c mv W b fb) : DE X c mv W (.IfExp t a b pos) (eIf ft fa fb) :=
  pe_imp (pe_ifExp ht ha hb) fun σ H Q h => test_ok (R := rvR c mv) h fun k F H fp e s E p => by
    cases k with
    | true => exact iteT ⟨F, fp, e, s, E, p⟩
    | false => exact iteF ⟨F, fp, e, s, E, p⟩
/-- and, or, not as values -/
def eAndD (f g : En → Out Rv) : En → Out Rv := fun e => (tOf f e).bind fun k e1 => match k with | true => g e1 | false => .ok (.tm (.fz (.bl false))) e1
def eOrD (f g : En → Out Rv) : En → Out Rv := fun e => (tOf f e).bind fun k e1 => match k with | true => .ok (.tm (.fz (.bl true))) e1 | false => g e1
def eNotD (f : En → Out Rv) : En → Out Rv := fun e => (tOf f e).bind fun k e1 => .ok (.tm (.fz (.bl (!k)))) e1
section
variable {f g : En → Out Rv}
theorem de_one {op : BoolOp} (ha : DE X c mv W a f) : DE X c mv W (.BoolOp op [a] pos) f := pe_one ha
theorem de_and (ha : DE X c mv W a f) (hb : DE X c mv W (.BoolOp .And (b :: rest) pos) g) : DE X c mv W (.BoolOp .And (a :: b :: rest) pos) (eAndD f g) :=
  pe_imp (pe_and ha hb) fun σ H Q h => tOf_ok (test_ok (R := rvR c mv) h fun k F H fp e s E p => by
    cases k with
    | true => exact iteT ⟨F, fp, e, s, E, p⟩
    | false => exact iteF (Po.fz s E .bl (fun _ h => h) p))
theorem de_or (ha : DE X c mv W a f) (hb : DE X c mv W (.BoolOp .Or (b :: rest) pos) g) : DE X c mv W (.BoolOp .Or (a :: b :: rest) pos) (eOrD f g) :=
  pe_imp (pe_or ha hb) fun σ H Q h => tOf_ok (test_ok (R := rvR c mv) h fun k F H fp e s E p => by
    cases k with
    | true => exact iteT (Po.fz s E .bl (fun _ h => h) p)
    | false => exact iteF ⟨F, fp, e, s, E, p⟩)
theorem de_not (ha : DE X c mv W a f) : DE X c mv W (.UnaryOp .Not a pos) (eNotD f) :=
  pe_imp (pe_not ha) fun σ H Q h => tOf_ok (test_ok (R := rvR c mv) h fun k F H fp e s E p => Po.fz s E .bl (fun _ h => h) p)
end
end

/-! ### arguments ready, then an operation -/
theorem args_ok {f : En → Out (List Rv)} {k : List Rv → En → Out Rv} {R : List V → Hp → Prop} {Q : VK} {σ : L2.St} {H : Hp}
    (h : ∃ F fp e, Sub F H ∧ EnvR c mv F H fp σ e ∧ Po c mv (rvR c mv) W F H fp σ ((f e).bind k) Q)
    (hk : ∀ F H fp fq e vs rs, Sub F H → EnvR c mv F H fp σ e → RvAll c mv F H σ fq vs rs → (∀ b ∈ fq, b ∉ fp) → Po c mv (rvR c mv) W F H (fp ++ fq) σ (k rs e) Q → R vs H) :
    rd c mv (rvsR c mv) W f σ H R := by
  obtain ⟨F, fp, e, s, E, p⟩ := h
  exact ⟨F, fp, e, s, E, Po.seq (R1 := rvsR c mv) p fun rs e1 F1 H1 f1 q1 vs _ s1 E1 r1 d1 p1 => hk F1 H1 f1 q1 e1 vs rs s1.fh E1 r1 d1 p1⟩
section
variable {x : Str} {p pos : Pos} {a : Expr} {es : List Expr} {f : En → Out (List Rv)} {id T : String} {r : List V → Hp → VK → Prop}
theorem de_callV {φ : List D → Option D} (hc : CallR X (.builtin id) r) (vo : VOp c r φ) (hg : Gl X x) (hm : X.mg x = none) (hv : bootBuiltins x = some (.builtin id)) (ha : DA X c mv W (a :: es) f) (hn : x ≠ "__name__" := by decide) (hdb : (x == ("__debug__" : Str)) = false := by decide)
    (he : starEach (a :: es) X.env = (false, eval a X.env) :: starEach es X.env := by rfl) (hpl : (backTo pos (starEach es X.env)).any (·.1) = false := by rfl) : DE X c mv W (.Call (.Name x p) (a :: es) [] pos) (eV φ f) :=
  pe_imp (pe_callB hc hg hm hv ha hn hdb he hpl) fun σ H Q h => args_ok h fun F H fp fq e vs rs s E rr d p => eV_ok vo s E rr p
theorem de_callF {φ : List D → Option O} (hc : CallR X (.builtin id) r) (vo : FOp c r φ) (hg : Gl X x) (hm : X.mg x = none) (hv : bootBuiltins x = some (.builtin id)) (ha : DA X c mv W (a :: es) f) (hn : x ≠ "__name__" := by decide) (hdb : (x == ("__debug__" : Str)) = false := by decide)
    (he : starEach (a :: es) X.env = (false, eval a X.env) :: starEach es X.env := by rfl) (hpl : (backTo pos (starEach es X.env)).any (·.1) = false := by rfl) : DE X c mv W (.Call (.Name x p) (a :: es) [] pos) (eF φ f) :=
  pe_imp (pe_callB hc hg hm hv ha hn hdb he hpl) fun σ H Q h => args_ok h fun F H fp fq e vs rs s E rr d p => eF_ok vo s E rr d p
theorem de_typeV {φ : List D → Option D} (hc : CallR X (.type T) r) (vo : VOp c r φ) (hg : Gl X x) (hm : X.mg x = none) (hv : bootBuiltins x = some (.type T)) (ha : DA X c mv W (a :: es) f) (hn : x ≠ "__name__" := by decide) (hdb : (x == ("__debug__" : Str)) = false := by decide)
    (he : starEach (a :: es) X.env = (false, eval a X.env) :: starEach es X.env := by rfl) (hpl : (backTo pos (starEach es X.env)).any (·.1) = false := by rfl) : DE X c mv W (.Call (.Name x p) (a :: es) [] pos) (eV φ f) :=
  pe_imp (pe_callTy hc hg hm hv ha hn hdb he hpl) fun σ H Q h => args_ok h fun F H fp fq e vs rs s E rr d p => eV_ok vo s E rr p
theorem de_typeF {φ : List D → Option O} (hc : CallR X (.type T) r) (vo : FOp c r φ) (hg : Gl X x) (hm : X.mg x = none) (hv : bootBuiltins x = some (.type T)) (ha : DA X c mv W (a :: es) f) (hn : x ≠ "__name__" := by decide) (hdb : (x == ("__debug__" : Str)) = false := by decide)
    (he : starEach (a :: es) X.env = (false, eval a X.env) :: starEach es X.env := by rfl) (hpl : (backTo pos (starEach es X.env)).any (·.1) = false := by rfl) : DE X c mv W (.Call (.Name x p) (a :: es) [] pos) (eF φ f) :=
  pe_imp (pe_callTy hc hg hm hv ha hn hdb he hpl) fun σ H Q h => args_ok h fun F H fp fq e vs rs s E rr d p => eF_ok vo s E rr d p
end

/-! ### the text's own defs -/
def spP (c : Cs) (n : Nat) (φ : List D → Res) : Sp := fun vs H Q E => vs.length = n ∧ ∃ F ds, Sub F H ∧ FzAll c F vs ds ∧ match φ ds with
  | .ok o => ∀ F' H' fq v, Stp F H [] F' H' fq → Ow c F' H' fq v o → Q v H'
  | .ex x => ∀ F' H' cls d, Stp F H [] F' H' [] → XR c F' cls d x → E cls d H'
  | .no => False
structure Kn (P : Program) (w : World) (mg : Str → Option Value) (base : Heap) (c : Cs) (k : Nat) (x : Str) (n : Nat) (φ : List D → Res) : Prop where
  ex : ∃ (f : Addr) (fd : FuncData) (ps : List Str), FnG P w c.K mg base k f fd ps (spP c n φ) ∧ mg x = some (.ref f) ∧ PySem.W.keepIn c.K (.ref f) = true ∧ Binds c.K fd ps []
def eCall (φ : List D → Res) (f : En → Out (List Rv)) : En → Out Rv := fun e => (f e).bind fun rs e1 => match fixAll e1 rs with
  | none => .no
  | some (ds, e2) => match φ ds with
    | .ok o => .ok (.tm o) e2
    | .ex x => .ex x e2
    | .no => .no
section
variable {x : Str} {p pos : Pos} {a : Expr} {es : List Expr} {f : En → Out (List Rv)} {k n : Nat} {φ : List D → Res}
theorem eCall_ok {F H : Hp} {fp fq : List Addr} {σ : L2.St} {e : En} {vs : List V} {rs : List Rv} {Q : VK} (hn : rs.length = n) (s : Sub F H) (E : EnvR c mv F H fp σ e) (h : RvAll c mv F H σ fq vs rs) (dj : ∀ b ∈ fq, b ∉ fp)
    (p : Po c mv (rvR c mv) W F H (fp ++ fq) σ (match fixAll e rs with | none => Out.no | some (ds, e2) => match φ ds with | .ok o => .ok (.tm o) e2 | .ex x => .ex x e2 | .no => .no) Q) : spP c n φ vs H Q (WE W σ) := by
  have hl : ∀ {fq : List Addr} {vs : List V} {rs : List Rv}, RvAll c mv F H σ fq vs rs → vs.length = rs.length := fun {fq vs rs} h => by
    induction h with
    | nil => rfl
    | cons _ _ _ ih => rw [List.length_cons, List.length_cons, ih]
  cases z : fixAll e rs with
  | none => rw [z] at p; exact p.elim
  | some y =>
    obtain ⟨ds, e2⟩ := y
    rw [z] at p
    simp only at p
    obtain ⟨F1, f1, s1, k1, E1, m1⟩ := fixAll_ok s E h dj z
    refine ⟨(hl h).trans hn, F1, ds, s1.fh, k1, ?_⟩
    cases z2 : φ ds with
    | no => rw [z2] at p; exact p
    | ok o =>
      rw [z2] at p
      intro F2 H2 q2 v s2 h2
      obtain ⟨s3, d3⟩ := s2.beside (fp := f1) E1.has
      exact p F2 H2 f1 q2 v (s1.trans s3) (E1.stp s2 fun b hb z => nomatch z) (.tm h2) d3
    | ex x =>
      rw [z2] at p
      intro F2 H2 cls d s2 h2
      obtain ⟨s3, d3⟩ := s2.beside (fp := f1) E1.has
      rw [List.append_nil] at s3
      exact p F2 H2 f1 cls d (s1.trans s3) (E1.stp s2 fun b hb z => nomatch z) h2
/-- how many values an argument list tells -/
def Many (n : Nat) (f : En → Out (List Rv)) : Prop := ∀ e rs e1, f e = .ok rs e1 → rs.length = n
theorem many_nil : Many 0 aNil := fun e rs e1 h => by cases h; rfl
theorem many_cons {g : En → Out Rv} (h : Many n f) : Many (n + 1) (aCons g f) := fun e rs e1 q => by
  unfold aCons at q
  cases z : g e with
  | no => rw [z] at q; cases q
  | ex y e2 => rw [z] at q; cases q
  | ok r e2 =>
    rw [z] at q
    simp only [Out.bind] at q
    cases z2 : f e2 with
    | no => rw [z2] at q; cases q
    | ex y e3 => rw [z2] at q; cases q
    | ok rs2 e3 =>
      rw [z2] at q
      cases q
      rw [List.length_cons, h _ _ _ z2]
theorem de_call (hK : X.K = c.K) (G : Kn X.prog X.w X.mg X.base c k x n φ) (g : Quiet X.A) (r : Room k X.A) (tk : Takes X W) (ha : DA X c mv W (a :: es) f) (hn : Many n f) (hg : Gl X x) (hdb : (x == ("__debug__" : Str)) = false := by decide)
    (he : starEach (a :: es) X.env = (false, eval a X.env) :: starEach es X.env := by rfl) (hpl : (backTo pos (starEach es X.env)).any (·.1) = false := by rfl) : DE X c mv W (.Call (.Name x p) (a :: es) [] pos) (eCall φ f) := by
  obtain ⟨fa, fd, ps, F, hm, hk, hb⟩ := G.ex
  rw [← hK] at F hk hb
  refine pe_imp (pe_callG F g r hg hm hk hb tk ha hdb he hpl) fun σ H Q h => ?_
  obtain ⟨F, fp, e, s, E, p⟩ := h
  refine ⟨F, fp, e, s, E, Po.seq (R1 := rvsR c mv) p fun rs e1 F1 H1 f1 q1 vs hq s1 E1 r1 d1 p1 => ?_⟩
  exact eCall_ok (hn _ _ _ hq) s1.fh E1 r1 d1 p1
end

/-! ### displays -/
def ownAll : En → List Rv → Option (List O × En)
  | e, [] => some ([], e)
  | e, r :: rs => match own e r with
    | none => none
    | some (o, e1) => match ownAll e1 rs with
      | none => none
      | some (os, e2) => some (o :: os, e2)
theorem ownAll_ok {σ : L2.St} {H : Hp} : ∀ {rs : List Rv} {F : Hp} {fp fq : List Addr} {e e' : En} {vs : List V} {os : List O}, Sub F H → EnvR c mv F H fp σ e → RvAll c mv F H σ fq vs rs → (∀ b ∈ fq, b ∉ fp) → ownAll e rs = some (os, e') →
    ∃ F' fp' fq', Stp F H (fp ++ fq) F' H (fp' ++ fq') ∧ OwAll c F' H fq' vs os ∧ EnvR c mv F' H fp' σ e' ∧ (∀ b ∈ fq', b ∉ fp') ∧ (∀ b ∈ fp', b ∈ fp) ∧ ∀ b ∈ fq', b ∈ fq
  | [], F, fp, fq, e, e', vs, os, s, E, h, dj, l => by
    cases h
    cases l
    exact ⟨F, fp, [], Stp.refl s, .nil, E, (fun b hb => nomatch hb), (fun _ h => h), fun _ h => h⟩
  | r :: rs, F, fp, fq, e, e', vs, os, s, E, h, dj, l => by
    cases h with
    | @cons p q v r vs rs h1 h2 hd =>
      unfold ownAll at l
      cases z : own e r with
      | none => rw [z] at l; cases l
      | some y =>
        obtain ⟨o, e1⟩ := y
        rw [z] at l
        simp only at l
        obtain ⟨F1, f1, q1, s1, k1, E1, d1, m1, n1⟩ := own_ok s E h1 (fun b hb => dj b (List.mem_append_left _ hb)) z
        cases z2 : ownAll e1 rs with
        | none => rw [z2] at l; cases l
        | some y2 =>
          obtain ⟨os2, e2⟩ := y2
          rw [z2] at l
          cases l
          have h2' : RvAll c mv F1 H σ q vs rs := h2.stp s1 fun b hb z => (List.mem_append.mp z).elim (fun y => dj b (List.mem_append_right _ hb) y) fun y => hd b y hb
          obtain ⟨F2, f2, q2, s2, k2, E2, d2, m2, n2⟩ := ownAll_ok s1.fh E1 h2' (fun b hb z => dj b (List.mem_append_right _ hb) (m1 b z)) z2
          have k1' : Ow c F2 H q1 v o := s2.ow k1 fun b hb z => by
            rcases List.mem_append.mp z with y | y
            · exact d1 b hb y
            · exact hd b (n1 b hb) y
          refine ⟨F2, f2, q1 ++ q2, ?_, .cons k1' k2 fun b hb y => hd b (n1 b hb) (n2 b y), E2, fun b hb y => ?_, fun b hb => m1 b (m2 b hb), fun b hb => ?_⟩
          · have s1' := s1.more (fq := q) fun b hb => (h2.has b hb).2
            have s2' := s2.more (fq := q1) fun b hb => (k1.has b hb).2
            refine (s1'.part (fun b hb => ?_) (fp2 := (f1 ++ q) ++ q1) fun b hb => ?_).trans (s2'.part (fun _ h => h) fun b hb => ?_)
            all_goals
              simp only [List.mem_append] at hb ⊢
              first | (rcases hb with h | h | h <;> simp [h]; done) | (rcases hb with (h | h) | h <;> simp [h]; done)
            
          · rcases List.mem_append.mp hb with h | h
            · exact d1 b h (m2 b y)
            · exact d2 b h y
          · rcases List.mem_append.mp hb with h | h
            · exact List.mem_append_left _ (n1 b h)
            · exact List.mem_append_right _ (n2 b h)
def eLst (f : En → Out (List Rv)) : En → Out Rv := fun e => (f e).bind fun rs e1 => match ownAll e1 rs with
  | none => .no
  | some (os, e2) => if os.length ≤ 1000 then .ok (.tm (.lst os)) e2 else .no
def eTup (f : En → Out (List Rv)) : En → Out Rv := fun e => (f e).bind fun rs e1 => match fixAll e1 rs with
  | none => .no
  | some (ds, e2) => if ds.length ≤ 1000 then .ok (.tm (.fz (.tup false ds))) e2 else .no
theorem small_line {n : Nat} (h : n ≤ 1000) : n ≤ sizeLine := Nat.le_of_lt (small1000 h)
theorem Stp.lay {F H : Hp} {fp fq : List Addr} {p : Addr} {o : HO} (s : Sub F H) (hp : H p = none) (hq : ∀ b ∈ fq, b ∈ fp) : Stp F H fp F (upd H p o) (p :: fq) :=
  (Stp.new s hp).part (fun _ h => h) fun b hb => by
    rcases List.mem_cons.mp hb with h | h
    · subst h; exact List.mem_append_right _ (List.mem_singleton.mpr rfl)
    · exact List.mem_append_left _ (hq b h)
theorem upd_at {H : Hp} {p b : Addr} {o : HO} (hp : H p = none) (hb : H b ≠ none) : upd H p o b = H b := upd_ne (fun e => hb (by rw [e]; exact hp))
theorem de_lst {es : List Expr} {f : En → Out (List Rv)} {pos : Pos} (h : DA X c mv W es f) : DE X c mv W (.List es pos) (eLst f) :=
  pe_imp (pe_lst h) fun σ H Q h => args_ok h fun F H fp fq e vs rs s E rr dj p => by
    cases z : ownAll e rs with
    | none => rw [z] at p; exact p.elim
    | some y =>
      obtain ⟨os, e2⟩ := y
      rw [z] at p
      simp only at p
      by_cases hs : os.length ≤ 1000
      · rw [if_pos hs] at p
        obtain ⟨F1, f1, q1, s1, k1, E1, d1, m1, n1⟩ := ownAll_ok s E rr dj z
        refine ⟨by rw [k1.length]; exact small_line hs, fun a ha => ?_⟩
        have st : Stp F1 H (f1 ++ q1) F1 (upd H a (.lst vs)) (a :: (f1 ++ q1)) := Stp.lay s1.fh ha fun _ h => h
        have st0 : Stp F1 H [] F1 (upd H a (.lst vs)) [a] := Stp.lay s1.fh ha fun _ h => h
        have na : ∀ b ∈ f1 ++ q1, b ≠ a := fun b hb z => by
          subst z
          rcases List.mem_append.mp hb with h | h
          · exact (E1.has _ h).2 ha
          · exact (k1.has _ h).2 ha
        have Fa : F1 a = none := by
          cases q : F1 a with
          | none => rfl
          | some u => have := s1.fh a u q; rw [ha] at this; cases this
        refine p F1 _ f1 (a :: q1) _ (s1.trans (st.part (fun _ h => h) fun b hb => ?_)) (E1.stp st0 fun b hb z => nomatch z) (.tm (.lst upd_same Fa (fun h => na a (List.mem_append_right _ h) rfl) (st0.owAll k1 fun b hb z => nomatch z))) fun b hb y => ?_
        · rcases List.mem_append.mp hb with h | h
          · exact List.mem_cons_of_mem _ (List.mem_append_left _ h)
          · rcases List.mem_cons.mp h with h | h
            · subst h; exact List.mem_cons_self
            · exact List.mem_cons_of_mem _ (List.mem_append_right _ h)
        · rcases List.mem_cons.mp hb with h | h
          · exact na b (List.mem_append_left _ y) h
          · exact d1 b h y
      · rw [if_neg hs] at p; exact p.elim
theorem de_tup {es : List Expr} {f : En → Out (List Rv)} {x1} {pos : Pos} (h : DA X c mv W es f) : DE X c mv W (.Tuple es x1 pos) (eTup f) :=
  pe_imp (pe_tup h) fun σ H Q h => args_ok h fun F H fp fq e vs rs s E rr dj p => by
    cases z : fixAll e rs with
    | none => rw [z] at p; exact p.elim
    | some y =>
      obtain ⟨ds, e2⟩ := y
      rw [z] at p
      simp only at p
      by_cases hs : ds.length ≤ 1000
      · rw [if_pos hs] at p
        obtain ⟨F1, f1, s1, k1, E1, m1⟩ := fixAll_ok s E rr dj z
        refine ⟨by rw [k1.length]; exact small_line hs, fun a ha => ?_⟩
        have st : Stp F1 H f1 F1 (upd H a (.tup vs)) (a :: f1) := Stp.lay s1.fh ha fun _ h => h
        have Fa : F1 a = none := by
          cases q : F1 a with
          | none => rfl
          | some u => have := s1.fh a u q; rw [ha] at this; cases this
        have ic : Stp F1 (upd H a (.tup vs)) (a :: f1) (ice F1 (upd H a (.tup vs)) [a]) (upd H a (.tup vs)) f1 :=
          Stp.ice st.fh (fun b hb => by rw [List.mem_singleton] at hb; subst hb; exact Fa) (fun b hb => by rw [List.mem_singleton] at hb; subst hb; exact List.mem_cons_self) fun b hb => List.mem_cons_of_mem _ hb
        have st2 := st.trans ic
        have st0 : Stp F1 H [] (ice F1 (upd H a (.tup vs)) [a]) (upd H a (.tup vs)) [] :=
          (Stp.lay (fq := []) s1.fh ha fun _ h => h).trans (Stp.ice st.fh (fun b hb => by rw [List.mem_singleton] at hb; subst hb; exact Fa) (fun b hb => hb) fun b hb => nomatch hb)
        refine Po.fz (F := ice F1 (upd H a (.tup vs)) [a]) st2.fh (E1.stp st0 fun b hb z => nomatch z) (.tup (SqT.of ((ice_in (List.mem_singleton.mpr rfl)).trans upd_same)) noK (k1.mono st0.ff)) (fun _ h => h) (Po.step p (s1.trans st2))
      · rw [if_neg hs] at p; exact p.elim
end
end DL

set_option Elab.async false
set_option linter.all false
set_option maxRecDepth 100000
set_option maxHeartbeats 2000000
/-! DL, part E: statements, loops, comprehensions, defs by their bodies. -/
namespace DL
open PySem L2 PySem.Spec PyProof.Rows

/-- how a statement ends -/
inductive SO where
  | nx (e : En) | bk (e : En) | ct (e : En) | rt (o : O) (e : En) | ex (x : XD) (e : En) | no
abbrev SS := En → SO
def PoS (c : Cs) (mv : V) (W : WX) (F H : Hp) (fp : List Addr) (r : SO) (D : Ends) : Prop := match r with
  | .nx e => ∀ F' H' fp' σ', Stp F H fp F' H' fp' → EnvR c mv F' H' fp' σ' e → D.nx σ' H'
  | .bk e => ∀ F' H' fp' σ', Stp F H fp F' H' fp' → EnvR c mv F' H' fp' σ' e → D.bk σ' H'
  | .ct e => ∀ F' H' fp' σ', Stp F H fp F' H' fp' → EnvR c mv F' H' fp' σ' e → D.ct σ' H'
  | .rt o e => ∀ F' H' fp' fq σ' v, Stp F H fp F' H' (fp' ++ fq) → EnvR c mv F' H' fp' σ' e → Ow c F' H' fq v o → (∀ b ∈ fq, b ∉ fp') → D.rt v H'
  | .ex x e => ∀ F' H' fp' σ' cls d, Stp F H fp F' H' fp' → EnvR c mv F' H' fp' σ' e → XR c F' cls d x → W cls d σ' H'
  | .no => False
section
variable {c : Cs} {mv : V} {W : WX} {F F' H H' : Hp} {fp fp' : List Addr} {D : Ends}
theorem PoS.step {r : SO} (h : PoS c mv W F H fp r D) (s : Stp F H fp F' H' fp') : PoS c mv W F' H' fp' r D := by
  cases r with
  | nx e => exact fun F2 H2 f2 σ t => h F2 H2 f2 σ (s.trans t)
  | bk e => exact fun F2 H2 f2 σ t => h F2 H2 f2 σ (s.trans t)
  | ct e => exact fun F2 H2 f2 σ t => h F2 H2 f2 σ (s.trans t)
  | rt o e => exact fun F2 H2 f2 fq σ v t => h F2 H2 f2 fq σ v (s.trans t)
  | ex x e => exact fun F2 H2 f2 σ cls d t => h F2 H2 f2 σ cls d (s.trans t)
  | no => exact h
end
def rdS (c : Cs) (mv : V) (W : WX) (g : SS) : TS := fun D σ H => ∃ F fp e, Sub F H ∧ EnvR c mv F H fp σ e ∧ PoS c mv W F H fp (g e) D
def DS (X : Cx) (c : Cs) (mv : V) (W : WX) (st : Stmt) (g : SS) : Prop := PS X st (rdS c mv W g)
def DSs (X : Cx) (c : Cs) (mv : V) (W : WX) (st : List Stmt) (g : SS) : Prop := PSs X st (rdS c mv W g)
def Out.so {α : Type} (r : Out α) (k : α → En → SO) : SO := match r with
  | .ok a e => k a e
  | .ex x e => .ex x e
  | .no => .no
def SO.then (r : SO) (k : En → SO) : SO := match r with
  | .nx e => k e
  | .bk e => .bk e
  | .ct e => .ct e
  | .rt o e => .rt o e
  | .ex x e => .ex x e
  | .no => .no

section
variable {X : Cx} {c : Cs} {mv : V} {W : WX}
/-- an expression, then what is done with it -/
theorem then_ok {α β : Type} {R : Rel α β} {f : En → Out α} {k : α → En → SO} {σ : L2.St} {H : Hp} {D : Ends} {T : β → Hp → Prop}
    (h : rdS c mv W (fun e => (f e).so k) D σ H)
    (hk : ∀ F H fp fq e v a, Sub F H → EnvR c mv F H fp σ e → R F H σ fq v a → (∀ b ∈ fq, b ∉ fp) → PoS c mv W F H (fp ++ fq) (k a e) D → T v H) : rd c mv R W f σ H T := by
  obtain ⟨F, fp, e, s, E, p⟩ := h
  refine ⟨F, fp, e, s, E, ?_⟩
  cases z : f e with
  | no => simp only [z, Out.so] at p; exact p
  | ex x e1 =>
    simp only [z, Out.so] at p
    exact fun F1 H1 f1 cls d st E1 xr => p F1 H1 f1 σ cls d st E1 xr
  | ok a e1 =>
    simp only [z, Out.so] at p
    exact fun F1 H1 f1 q1 v st E1 r1 d1 => hk F1 H1 f1 q1 e1 v a st.fh E1 r1 d1 (p.step st)
theorem PoS.nx {F H : Hp} {fp fr : List Addr} {σ : L2.St} {e : En} {D : Ends} (s : Sub F H) (E : EnvR c mv F H fp σ e) (hs : ∀ b ∈ fp, b ∈ fr) (p : PoS c mv W F H fr (.nx e) D) : D.nx σ H :=
  p F H fp σ ((Stp.refl s).part (fun _ h => h) hs) E

/-! ### blocks -/
def sNil : SS := fun e => .nx e
def sCons (g k : SS) : SS := fun e => (g e).then k
theorem dss_nil : DSs X c mv W [] sNil := pss_imp pss_nil fun D σ H ⟨F, fp, e, s, E, p⟩ => PoS.nx s E (fun _ h => h) p
theorem dss_cons {st : Stmt} {sts : List Stmt} {g k : SS} (h : DS X c mv W st g) (hr : DSs X c mv W sts k) : DSs X c mv W (st :: sts) (sCons g k) :=
  pss_imp (pss_cons h hr) fun D σ H ⟨F, fp, e, s, E, p⟩ => by
    refine ⟨F, fp, e, s, E, ?_⟩
    unfold sCons at p
    cases z : g e with
    | nx e1 =>
      simp only [z, SO.then] at p
      exact fun F1 H1 f1 σ1 st E1 => ⟨F1, f1, e1, st.fh, E1, p.step st⟩
    | bk e1 => simp only [z, SO.then] at p; exact p
    | ct e1 => simp only [z, SO.then] at p; exact p
    | rt o e1 => simp only [z, SO.then] at p; exact p
    | ex x e1 => simp only [z, SO.then] at p; exact p
    | no => simp only [z, SO.then] at p; exact p
theorem dss_one {st : Stmt} {g : SS} (h : DS X c mv W st g) : DSs X c mv W [st] g := pss_one h
theorem ds_pass {pos : Pos} : DS X c mv W (.Pass pos) sNil := ps_imp ps_pass fun D σ H ⟨F, fp, e, s, E, p⟩ => PoS.nx s E (fun _ h => h) p
theorem ds_doc {x j pos pos'} : DS X c mv W (.Expr (.Constant (.str x) j pos) pos') sNil := ps_imp ps_doc fun D σ H ⟨F, fp, e, s, E, p⟩ => PoS.nx s E (fun _ h => h) p
def sBreak : SS := fun e => .bk e
def sCont : SS := fun e => .ct e
theorem ds_break {pos : Pos} : DS X c mv W (.Break pos) sBreak := ps_imp ps_break fun D σ H ⟨F, fp, e, s, E, p⟩ => p F H fp σ (Stp.refl s) E
theorem ds_cont {pos : Pos} : DS X c mv W (.Continue pos) sCont := ps_imp ps_continue fun D σ H ⟨F, fp, e, s, E, p⟩ => p F H fp σ (Stp.refl s) E
def sIf (t : En → Out Bool) (g k : SS) : SS := fun e => (t e).so fun b e1 => match b with | true => g e1 | false => k e1
theorem ds_if {t : Expr} {a b : List Stmt} {ft : En → Out Bool} {g k : SS} {pos : Pos} (ht : DT X c mv W t ft) (ha : DSs X c mv W a g) (hb : DSs X c mv W b k) : DS X c mv W (.If t a b pos) (sIf ft g k) :=
  ps_imp (ps_if ht ha hb) fun D σ H h => then_ok (R := blR) (T := fun k' H1 => if k' = true then rdS c mv W g D σ H1 else rdS c mv W k D σ H1) h fun F H fp fq e v a s E r d p => by
    obtain ⟨rfl, rfl⟩ := r
    rw [List.append_nil] at p
    cases v with
    | true => exact iteT ⟨F, fp, e, s, E, p⟩
    | false => exact iteF ⟨F, fp, e, s, E, p⟩

/-! ### stores, returns -/
def sSet (i : Nat) (f : En → Out Rv) : SS := fun e => (f e).so fun r e1 => match own e1 r with
  | none => .no
  | some (o, e2) => .nx (e2.put i o)
theorem ds_set {i : Nat} {x : Str} {a : Expr} {f : En → Out Rv} {pos pos' : Pos} (hN : X.N.Nodup) (hi : X.N[i]? = some x) (hx : Loc X.env.scope x) (ha : DE X c mv W a f) (hs : swapsWith a (some (.Name x pos')) pos.line X.env = pure false := by rfl)
    (hf : X.fn x = true ∨ X.env.scope.names.lookup x = some .local := by first | exact .inl rfl | exact .inr rfl | assumption) : DS X c mv W (.Assign [.Name x pos'] a pos) (sSet i f) :=
  ps_imp (ps_set hN hi hx ha hs hf) fun D σ H h => then_ok (R := rvR c mv) (T := fun v H1 => D.nx (σ.set i (some v)) H1) h fun F H fp fq e v r s E rr d p => by
    cases z : own e r with
    | none => rw [z] at p; exact p.elim
    | some y =>
      obtain ⟨o, e2⟩ := y
      rw [z] at p
      obtain ⟨F1, f1, q1, s1, k1, E1, d1, m1, n1⟩ := own_ok s E rr d z
      obtain ⟨f2, E2, m2⟩ := E1.put (i := i) k1 d1
      exact p F1 H f2 _ (s1.part (fun _ h => h) m2) E2
/-- what a def hands back: a thing of its own goes out whole -/
def give (e : En) : Rv → Option (O × En)
  | .sl i => match e.sl[i]? with
    | some (some (.ow o)) => some (o, e.hole i)
    | _ => own e (.sl i)
  | r => own e r
theorem give_ok {F H : Hp} {fp fq : List Addr} {σ : L2.St} {e e' : En} {v : V} {r : Rv} {o : O} (s : Sub F H) (E : EnvR c mv F H fp σ e) (h : RvR c mv F H σ fq v r) (dj : ∀ b ∈ fq, b ∉ fp) (l : give e r = some (o, e')) :
    ∃ F' fp' fq', Stp F H (fp ++ fq) F' H (fp' ++ fq') ∧ Ow c F' H fq' v o ∧ EnvR c mv F' H fp' σ e' ∧ ∀ b ∈ fq', b ∉ fp' := by
  have base : own e r = some (o, e') → ∃ F' fp' fq', Stp F H (fp ++ fq) F' H (fp' ++ fq') ∧ Ow c F' H fq' v o ∧ EnvR c mv F' H fp' σ e' ∧ ∀ b ∈ fq', b ∉ fp' := fun l => by
    obtain ⟨F1, f1, q1, s1, k1, E1, d1, _⟩ := own_ok s E h dj l
    exact ⟨F1, f1, q1, s1, k1, E1, d1⟩
  cases r with
  | tm o => exact base l
  | me => exact base l
  | sl i =>
    cases h with
    | sl hi =>
      have l : (match e.sl[i]? with
        | some (some (.ow o)) => some (o, e.hole i)
        | _ => own e (.sl i)) = some (o, e') := l
      cases q : e.sl[i]? with
      | none => rw [q] at l; exact base l
      | some w =>
        cases w with
        | none => rw [q] at l; exact base l
        | some x =>
          cases x with
          | me => rw [q] at l; exact base l
          | ow o' =>
            rw [q] at l
            cases l
            obtain ⟨v', fo, fr, g1, g2, g3, g4, g5⟩ := E.take q
            rw [hi] at g1; cases g1
            refine ⟨F, fr, fo, (Stp.refl s).part (fun _ h => h) fun b hb => List.mem_append_left _ ((g5 b).mpr ?_), g2, g3, g4⟩
            exact (List.mem_append.mp hb).elim .inr .inl
def sRet (f : En → Out Rv) : SS := fun e => (f e).so fun r e1 => match give e1 r with
  | none => .no
  | some (o, e2) => .rt o e2
theorem ds_ret {a : Expr} {f : En → Out Rv} {pos : Pos} (ha : DE X c mv W a f) : DS X c mv W (.Return (some a) pos) (sRet f) :=
  ps_imp (ps_ret ha) fun D σ H h => then_ok (R := rvR c mv) (T := fun v H1 => D.rt v H1) h fun F H fp fq e v r s E rr d p => by
    cases z : give e r with
    | none => rw [z] at p; exact p.elim
    | some y =>
      obtain ⟨o, e2⟩ := y
      rw [z] at p
      obtain ⟨F1, f1, q1, s1, k1, E1, d1⟩ := give_ok s E rr d z
      exact p F1 H f1 q1 σ v s1 E1 k1 d1
def sRetN : SS := fun e => .rt (.fz .non) e
theorem ds_retN {pos : Pos} : DS X c mv W (.Return none pos) sRetN :=
  ps_imp ps_retN fun D σ H ⟨F, fp, e, s, E, p⟩ => p F H fp [] σ .non (by rw [List.append_nil]; exact Stp.refl s) E (.fz .non) fun b hb => nomatch hb
/-- a value dropped -/
def sDrop (f : En → Out Rv) : SS := fun e => (f e).so fun r e1 => .nx e1
theorem ds_expr {a : Expr} {f : En → Out Rv} {pos : Pos} (ha : DE X c mv W a f) (hs : swapsWith a none pos.line X.env = pure false := by rfl) : DS X c mv W (.Expr a pos) (sDrop f) :=
  ps_imp (ps_expr ha hs) fun D σ H h => then_ok (R := rvR c mv) (T := fun v H1 => D.nx σ H1) h fun F H fp fq e v r s E rr d p => PoS.nx s E (fun b hb => List.mem_append_left _ hb) p

/-! ### targets of frozen data -/
abbrev TgS := D → En → Option En
def TgOk (c : Cs) (mv : V) (ts : List Nat) (g : TG) (t : TgS) : Prop :=
  ∀ (F H : Hp) (fp : List Addr) (σ : L2.St) (e e' : En) (v : V) (d : D) (Q : L2.St → Hp → Prop), Sub F H → EnvR c mv F H fp σ e → Fz c F v d → t d e = some e' →
    (∀ fp' σ', EnvR c mv F H fp' σ' e' → (∀ b ∈ fp', b ∈ fp) → σ'.length = σ.length → (∀ j, j ∉ ts → σ'[j]? = σ[j]?) → Q σ' H) → g v σ H Q
def TgsOk (c : Cs) (mv : V) (ts : List Nat) (g : TGs) (t : List D → En → Option En) : Prop :=
  ∀ (F H : Hp) (fp : List Addr) (σ : L2.St) (e e' : En) (vs : List V) (ds : List D) (Q : L2.St → Hp → Prop), Sub F H → EnvR c mv F H fp σ e → FzAll c F vs ds → t ds e = some e' →
    (∀ fp' σ', EnvR c mv F H fp' σ' e' → (∀ b ∈ fp', b ∈ fp) → σ'.length = σ.length → (∀ j, j ∉ ts → σ'[j]? = σ[j]?) → Q σ' H) → g vs σ H Q
/-- a target: how it reads, what it does to a frame, which slots it fills -/
structure DG (X : Cx) (c : Cs) (mv : V) (tg : Expr) (ts : List Nat) (g : TG) (t : TgS) : Prop where
  pg : PG X tg g
  ok : TgOk c mv ts g t
structure DGs (X : Cx) (c : Cs) (mv : V) (tgs : List Expr) (ts : List Nat) (g : TGs) (t : List D → En → Option En) : Prop where
  pg : PGs X tgs g
  ok : TgsOk c mv ts g t
def gN (i : Nat) : TgS := fun d e => some (e.put i (.fz d))
theorem tok_name {i : Nat} : TgOk c mv [i] (gName i) (gN i) := fun F H fp σ e e' v d Q s E h l k => by
  cases l
  obtain ⟨f2, E2, m2⟩ := E.put (i := i) (.fz h) fun b hb => nomatch hb
  exact k f2 _ E2 (fun b hb => by simpa using m2 b hb) (List.length_set ..) fun j hj => List.getElem?_set_ne fun q => hj (by rw [q]; exact List.mem_singleton.mpr rfl)
theorem dg_name {i : Nat} {x : Str} {pos : Pos} (hN : X.N.Nodup) (hi : X.N[i]? = some x) (hx : Loc X.env.scope x) (hf : X.fn x = true ∨ X.env.scope.names.lookup x = some .local := by first | exact .inl rfl | exact .inr rfl | assumption) : DG X c mv (.Name x pos) [i] (gName i) (gN i) :=
  ⟨pg_name hN hi hx hf, tok_name⟩
def gNil' : List D → En → Option En := fun ds e => match ds with | [] => some e | _ => none
def gCons' (t : TgS) (u : List D → En → Option En) : List D → En → Option En := fun ds e => match ds with
  | [] => none
  | d :: ds => match t d e with
    | none => none
    | some e1 => u ds e1
theorem toks_nil : TgsOk c mv [] gNil gNil' := fun F H fp σ e e' vs ds Q s E h l k => by
  cases ds with
  | nil => cases h; cases l; exact ⟨rfl, k fp σ E (fun _ h => h) rfl fun _ _ => rfl⟩
  | cons d ds => cases l
theorem toks_cons {ts us : List Nat} {g1 : TG} {g2 : TGs} {t : TgS} {u : List D → En → Option En} (h1 : TgOk c mv ts g1 t) (h2 : TgsOk c mv us g2 u) : TgsOk c mv (ts ++ us) (gCons g1 g2) (gCons' t u) := fun F H fp σ e e' vs ds Q s E h l k => by
  cases h with
  | nil => cases l
  | cons h hr =>
    rename_i v vs d ds
    unfold gCons' at l
    simp only at l
    cases z : t d e with
    | none => rw [z] at l; cases l
    | some e1 =>
      rw [z] at l
      refine ⟨v, vs, rfl, h1 F H fp σ e e1 v d _ s E h z fun f1 σ1 E1 m1 l1 j1 => ?_⟩
      exact h2 F H f1 σ1 e1 e' vs ds _ s E1 hr l fun f2 σ2 E2 m2 l2 j2 => k f2 σ2 E2 (fun b hb => m1 b (m2 b hb)) (l2.trans l1) fun j hj =>
        (j2 j fun q => hj (List.mem_append_right _ q)).trans (j1 j fun q => hj (List.mem_append_left _ q))
theorem dgs_nil : DGs X c mv [] [] gNil gNil' := ⟨pgs_nil, toks_nil⟩
theorem dgs_cons {a : Expr} {es : List Expr} {ts us : List Nat} {g1 : TG} {g2 : TGs} {t : TgS} {u : List D → En → Option En} (h1 : DG X c mv a ts g1 t) (h2 : DGs X c mv es us g2 u) (hs : (assignEach (a :: es) X.env).map (·.2) = assign a X.env :: (assignEach es X.env).map (·.2) := by rfl) : DGs X c mv (a :: es) (ts ++ us) (gCons g1 g2) (gCons' t u) :=
  ⟨pgs_cons h1.pg h2.pg hs, toks_cons h1.ok h2.ok⟩
def gT (u : List D → En → Option En) : TgS := fun d e => match d with
  | .tup _ ds => u ds e
  | _ => none
theorem tok_tup {us : List Nat} {g : TGs} {u : List D → En → Option En} {n : Nat} (h : TgsOk c mv us g u) (hl : ∀ ds e e', u ds e = some e' → ds.length = n) : TgOk c mv us (gTup c.K n g) (gT u) := fun F H fp σ e e' v d Q s E hz l kk => by
  cases hz with
  | tup hs _ ha => exact ⟨_, _, rfl, s.sqT hs, ha.length.trans (hl _ _ _ l), h F H fp σ e e' _ _ Q s E ha l kk⟩
  | _ => cases l
/-- how many a row of targets takes -/
theorem dg_tup {es : List Expr} {k : Nat} {us : List Nat} {g : TGs} {u : List D → En → Option En} {n : Nat} {pos : Pos} (hK : X.K = c.K) (hc : X.calm = true) (h : DGs X c mv es us g u) (hl : ∀ ds e e', u ds e = some e' → ds.length = n) (hn : (assignEach es X.env).length = n := by rfl) (hst : (assignEach es X.env).findIdx? (·.1) = none := by rfl) :
    DG X c mv (.Tuple es k pos) us (gTup c.K n g) (gT u) := by
  refine ⟨?_, tok_tup h.ok hl⟩
  rw [← hK]
  exact pg_tup hc h.pg hn hst
theorem glen_nil : ∀ ds e e', gNil' ds e = some e' → ds.length = 0 := fun ds e e' h => by
  cases ds with
  | nil => rfl
  | cons d ds => cases h
theorem glen_cons {t : TgS} {u : List D → En → Option En} {n : Nat} (h : ∀ ds e e', u ds e = some e' → ds.length = n) : ∀ ds e e', gCons' t u ds e = some e' → ds.length = n + 1 := fun ds e e' q => by
  cases ds with
  | nil => cases q
  | cons d ds =>
    unfold gCons' at q
    simp only at q
    cases z : t d e with
    | none => rw [z] at q; cases q
    | some e1 => rw [z] at q; rw [List.length_cons, h _ _ _ q]
def sAsg (t : TgS) (f : En → Out Rv) : SS := fun e => (f e).so fun r e1 => match fix e1 r with
  | none => .no
  | some (d, e2) => match t d e2 with
    | none => .no
    | some e3 => .nx e3
theorem ds_asg {tg a : Expr} {ts : List Nat} {g : TG} {t : TgS} {f : En → Out Rv} {pos : Pos} (ha : DE X c mv W a f) (hg : DG X c mv tg ts g t) (hs : swapsWithSole [tg] a pos.line X.env = pure false := by rfl) (hw : swappedStores [tg] a X.env = pure none := by rfl)
    (h1 : (assignEach [tg] X.env).map (·.2) = [assign tg X.env] := by rfl) : DS X c mv W (.Assign [tg] a pos) (sAsg t f) := by
  refine ps_imp (ps_asg ha hg.pg hs hw h1) fun D σ H h => then_ok (R := rvR c mv) (T := fun v H1 => g v σ H1 D.nx) h fun F H fp fq e v r s E rr d p => ?_
  cases z : fix e r with
  | none => rw [z] at p; exact p.elim
  | some y =>
    obtain ⟨d', e2⟩ := y
    rw [z] at p
    simp only at p
    obtain ⟨F1, f1, s1, k1, E1, m1⟩ := fix_ok s E rr d z
    cases z2 : t d' e2 with
    | none => rw [z2] at p; exact p.elim
    | some e3 =>
      rw [z2] at p
      exact hg.ok F1 H f1 σ e2 e3 v d' D.nx s1.fh E1 k1 z2 fun f2 σ2 E2 m2 _ _ => p F1 H f2 σ2 (s1.trans ((Stp.refl s1.fh).part (fun _ h => h) m2)) E2

/-! ### what is walked -/
structure Walks (c : Cs) (F : Hp) (J : It) (ds : List D) : Prop where
  stop : ∀ H, Sub F H → J.stop ds.length H
  go : ∀ i H d, Sub F H → ds[i]? = some d → J.go i H
  yld : ∀ i F1 H d x H', Sub F F1 → Sub F1 H → ds[i]? = some d → J.yld i H x H' → ∃ F', Stp F1 H [] F' H' [] ∧ Fz c F' x d
def wkR (c : Cs) : Rel (List D) It := fun F _ _ fq J ds => fq = [] ∧ Walks c F J ds
def DI (X : Cx) (c : Cs) (mv : V) (W : WX) (tg iter : Expr) (f : En → Out (List D)) : Prop := PI X tg iter (rd c mv (wkR c) W f)
theorem pi_imp {tg iter : Expr} {t u : TI} (h : PI X tg iter t) (i : ∀ σ H R, u σ H R → t σ H R) : PI X tg iter u := ⟨fun pins s σ H R I q => h.run pins s σ H R I (i σ H R q)⟩
def itSeq (f : En → Out Rv) : En → Out (List D) := fun e => (f e).bind fun r e1 => match fix e1 r with
  | some (.lst ds, e2) => .ok ds e2
  | some (.tup _ ds, e2) => .ok ds e2
  | _ => .no
def itLst (f : En → Out Rv) : En → Out (List D) := fun e => (f e).bind fun r e1 => match fix e1 r with
  | some (.lst ds, e2) => .ok ds e2
  | _ => .no
def itTup (f : En → Out Rv) : En → Out (List D) := fun e => (f e).bind fun r e1 => match fix e1 r with
  | some (.tup _ ds, e2) => .ok ds e2
  | _ => .no
theorem seq_val {F H : Hp} {v : V} {d : D} (z : Stp F H [] F H []) (h : Fz c F v d) : ∃ F', Stp F H [] F' H [] ∧ Fz c F' v d := ⟨F, z, h⟩
theorem di_list {tg l : Expr} {f : En → Out Rv} (hK : X.K = c.K) (h : DE X c mv W l f) : DI X c mv W tg l (itLst f) :=
  pi_imp (pi_list h) fun σ H R h => by
    obtain ⟨F, fp, e, s, E, p⟩ := h
    refine ⟨F, fp, e, s, E, Po.seq (R1 := rvR c mv) p fun r e1 F1 H1 f1 q1 v _ s1 E1 r1 d1 p1 => ?_⟩
    cases z : fix e1 r with
    | none => rw [z] at p1; exact p1.elim
    | some y =>
      obtain ⟨d, e2⟩ := y
      rw [z] at p1
      obtain ⟨F2, f2, s2, k2, E2, m2⟩ := fix_ok s1.fh E1 r1 d1 z
      cases d with
      | lst ds =>
        cases k2 with
        | @lst a xs ds hs ha =>
          rw [hK]
          refine ⟨a, rfl, ⟨xs, s2.fh.sqL hs⟩, p1 F2 H1 f2 [] _ (by rw [List.append_nil]; exact s2) E2 ⟨rfl, ?_⟩ fun b hb => nomatch hb⟩
          refine ⟨fun H sH => ⟨xs, sH.sqL hs, by rw [ha.length]; exact Nat.le_refl _⟩, fun i H d sH hd => ?_, fun i F3 H d x H' s3 sH hd hy => ?_⟩
          · obtain ⟨x, hx, _⟩ := ha.get hd
            exact ⟨xs, x, sH.sqL hs, hx⟩
          · obtain ⟨rfl, hy⟩ := hy
            obtain ⟨x', hx', hz⟩ := ha.get hd
            have := hy xs ((s3.trans sH).sqL hs)
            rw [hx'] at this; cases this
            exact ⟨F3, Stp.refl sH, hz.mono s3⟩
      | _ => exact p1.elim
theorem di_tup {tg l : Expr} {f : En → Out Rv} (hK : X.K = c.K) (h : DE X c mv W l f) : DI X c mv W tg l (itTup f) :=
  pi_imp (pi_tup h) fun σ H R h => by
    obtain ⟨F, fp, e, s, E, p⟩ := h
    refine ⟨F, fp, e, s, E, Po.seq (R1 := rvR c mv) p fun r e1 F1 H1 f1 q1 v _ s1 E1 r1 d1 p1 => ?_⟩
    cases z : fix e1 r with
    | none => rw [z] at p1; exact p1.elim
    | some y =>
      obtain ⟨d, e2⟩ := y
      rw [z] at p1
      obtain ⟨F2, f2, s2, k2, E2, m2⟩ := fix_ok s1.fh E1 r1 d1 z
      cases d with
      | tup kk ds =>
        cases k2 with
        | @tup a xs _ ds hs _ ha =>
          rw [hK]
          refine ⟨a, rfl, ⟨xs, s2.fh.sqT hs⟩, p1 F2 H1 f2 [] _ (by rw [List.append_nil]; exact s2) E2 ⟨rfl, ?_⟩ fun b hb => nomatch hb⟩
          refine ⟨fun H sH => ⟨xs, sH.sqT hs, by rw [ha.length]; exact Nat.le_refl _⟩, fun i H d sH hd => ?_, fun i F3 H d x H' s3 sH hd hy => ?_⟩
          · obtain ⟨x, hx, _⟩ := ha.get hd
            exact ⟨xs, x, sH.sqT hs, hx⟩
          · obtain ⟨rfl, hy⟩ := hy
            obtain ⟨x', hx', hz⟩ := ha.get hd
            have := hy xs ((s3.trans sH).sqT hs)
            rw [hx'] at this; cases this
            exact ⟨F3, Stp.refl sH, hz.mono s3⟩
      | _ => exact p1.elim
/-- lo, lo + 1, .. -/
def nums (lo : Int) (n : Nat) : List D := (List.range n).map fun (k : Nat) => D.int (lo + k)
theorem walks_range {F : Hp} (lo : Int) (n : Nat) : Walks c F (Itr lo n) (nums lo n) := by
  refine ⟨fun H sH => ?_, fun i H d sH hd => ?_, fun i F1 H d x H' _ sH hd hy => ?_⟩
  · show n ≤ (nums lo n).length
    simp [nums]
  · have h1 : i < (nums lo n).length := (List.getElem?_eq_some_iff.mp hd).1
    show i < n
    simpa [nums] using h1
  · obtain ⟨rfl, rfl⟩ := hy
    have h1 : i < n := by
      have := (List.getElem?_eq_some_iff.mp hd).1
      simpa [nums] using this
    have : (nums lo n)[i]? = some (D.int (lo + i)) := by simp [nums, h1]
    rw [this] at hd; cases hd
    exact ⟨F1, Stp.refl sH, .int⟩
def rangeOk (i : Int) : Bool := decide (-(2 ^ 62) ≤ i) && decide (i < 2 ^ 62)
def itRange1 (f : En → Out (List Rv)) : En → Out (List D) := fun e => (f e).bind fun rs e1 => match rs with
  | [.tm (.fz (.int j))] => if rangeOk j then .ok (nums 0 j.toNat) e1 else .no
  | _ => .no
def itRange2 (f : En → Out (List Rv)) : En → Out (List D) := fun e => (f e).bind fun rs e1 => match rs with
  | [.tm (.fz (.int i)), .tm (.fz (.int j))] => if rangeOk i && rangeOk j then .ok (nums i (j - i).toNat) e1 else .no
  | _ => .no
theorem rv_int {F H : Hp} {σ : L2.St} {fq : List Addr} {v : V} {i : Int} (h : RvR c mv F H σ fq v (.tm (.fz (.int i)))) : v = .int i ∧ fq = [] := by
  cases h with
  | tm h => cases h with
    | fz h => cases h; exact ⟨rfl, rfl⟩
theorem di_range1 {tg a : Expr} {f : En → Out (List Rv)} {p pos : Pos} (hg : Gl X "range") (hm : X.mg "range" = none) (ha : DA X c mv W [a] f) (hs : starEach [a] X.env = [(false, eval a X.env)] := by rfl) : DI X c mv W tg (.Call (.Name "range" p) [a] [] pos) (itRange1 f) :=
  pi_imp (pi_range1 hg hm ha hs) fun σ H R h => by
    obtain ⟨F, fp, e, s, E, p⟩ := h
    refine ⟨F, fp, e, s, E, Po.seq (R1 := rvsR c mv) p fun rs e1 F1 H1 f1 q1 vs _ s1 E1 r1 d1 p1 => ?_⟩
    split at p1
    · rename_i j _
      split at p1
      · rename_i hj
        cases r1 with
        | cons h1 h2 hd =>
          cases h2
          obtain ⟨rfl, rfl⟩ := rv_int h1
          simp only [rangeOk, Bool.and_eq_true, decide_eq_true_eq] at hj
          exact ⟨j, rfl, hj.1, hj.2, p1 F1 H1 f1 [] _ (by simpa using Stp.refl s1.fh) E1 ⟨rfl, walks_range 0 _⟩ fun b hb => nomatch hb⟩
      · exact p1.elim
    · exact p1.elim
theorem di_range2 {tg a b : Expr} {f : En → Out (List Rv)} {p pos : Pos} (hg : Gl X "range") (hm : X.mg "range" = none) (ha : DA X c mv W [a, b] f) (hs : starEach [a, b] X.env = [(false, eval a X.env), (false, eval b X.env)] := by rfl) (hs2 : starEach [b] X.env = [(false, eval b X.env)] := by rfl) :
    DI X c mv W tg (.Call (.Name "range" p) [a, b] [] pos) (itRange2 f) :=
  pi_imp (pi_range2 hg hm ha hs hs2) fun σ H R h => by
    obtain ⟨F, fp, e, s, E, p⟩ := h
    refine ⟨F, fp, e, s, E, Po.seq (R1 := rvsR c mv) p fun rs e1 F1 H1 f1 q1 vs _ s1 E1 r1 d1 p1 => ?_⟩
    split at p1
    · rename_i i j _
      split at p1
      · rename_i hj
        cases r1 with
        | cons h1 h2 hd =>
          cases h2 with
          | cons h2 h3 hd2 =>
            cases h3
            obtain ⟨rfl, rfl⟩ := rv_int h1
            obtain ⟨rfl, rfl⟩ := rv_int h2
            simp only [rangeOk, Bool.and_eq_true, decide_eq_true_eq] at hj
            exact ⟨i, j, rfl, ⟨hj.1.1, hj.1.2, hj.2.1, hj.2.2⟩, p1 F1 H1 f1 [] _ (by simpa using Stp.refl s1.fh) E1 ⟨rfl, walks_range i _⟩ fun b hb => nomatch hb⟩
      · exact p1.elim
    · exact p1.elim

/-! ### for, while -/
def loop (t : TgS) (g : SS) : List D → En → SO
  | [], e => .nx e
  | d :: ds, e => match t d e with
    | none => .no
    | some e1 => match g e1 with
      | .nx e2 => loop t g ds e2
      | .ct e2 => loop t g ds e2
      | .bk e2 => .nx e2
      | .rt o e2 => .rt o e2
      | .ex x e2 => .ex x e2
      | .no => .no
def sFor (s : En → Out (List D)) (t : TgS) (g : SS) : SS := fun e => (s e).so fun ds e1 => loop t g ds e1
theorem ds_for {tg iter : Expr} {body : List Stmt} {si : En → Out (List D)} {ts : List Nat} {gg : TG} {t : TgS} {g : SS} {pos : Pos} (hp : PassesOwn (model X.prog X.w) X.A X.env X.xe) (hc : X.calm = true) (hi : DI X c mv W tg iter si) (hg : DG X c mv tg ts gg t) (hb : DSs X c mv W body g)
    (hs : ∀ x, foldedSetIterable iter X.env x = pure x := by intro _; rfl) : DS X c mv W (.For tg iter body [] pos) (sFor si t g) := by
  refine ps_imp (ps_for hp hc hi hg.pg hb hs) fun D σ H h => then_ok (R := wkR c) (T := fun J H1 => ∃ W' : Nat → Nat → L2.St → Hp → Prop, (∃ m, W' 0 m σ H1) ∧ ∀ i m σ H, W' i m σ H →
    (J.stop i H ∧ D.nx σ H) ∨ (J.go i H ∧ ∃ N : L2.St → Hp → Prop, (∀ σ' H', N σ' H' → ∃ m', m' < m ∧ W' (i + 1) m' σ' H') ∧ ∀ x H', J.yld i H x H' → gg x σ H' fun σ2 H2 => rdS c mv W g { D with nx := N, ct := N, bk := D.nx } σ2 H2)) h fun F H fp fq e J ds s E rr d p => ?_
  obtain ⟨rfl, wk⟩ := rr
  rw [List.append_nil] at p
  refine ⟨fun i m σ' H' => m = ds.length - i ∧ i ≤ ds.length ∧ ∃ F' fp' e', Stp F H fp F' H' fp' ∧ EnvR c mv F' H' fp' σ' e' ∧ PoS c mv W F' H' fp' (loop t g (ds.drop i) e') D, ⟨ds.length, by simp, Nat.zero_le _, F, fp, e, Stp.refl s, E, by simpa using p⟩, ?_⟩
  rintro i m σ' H' ⟨rfl, hi, F', fp', e', st, E', p'⟩
  by_cases hlt : i < ds.length
  · refine .inr ⟨wk.go i H' ds[i] (st.ff.trans st.fh) (by simp [hlt]), fun σ2 H2 => ∃ F2 fp2 e2, Stp F H fp F2 H2 fp2 ∧ EnvR c mv F2 H2 fp2 σ2 e2 ∧ PoS c mv W F2 H2 fp2 (loop t g (ds.drop (i + 1)) e2) D,
      fun σ2 H2 ⟨F2, fp2, e2, a, b, k⟩ => ⟨ds.length - (i + 1), by omega, rfl, hlt, F2, fp2, e2, a, b, k⟩, fun x H2 hy => ?_⟩
    obtain ⟨F2, s2, hz⟩ := wk.yld i F' H' ds[i] x H2 st.ff st.fh (by simp [hlt]) hy
    obtain ⟨s3, _⟩ := s2.beside (fp := fp') E'.has
    rw [List.append_nil] at s3
    have E2 : EnvR c mv F2 H2 fp' σ' e' := E'.stp s2 fun b hb z => nomatch z
    rw [List.drop_eq_getElem_cons hlt] at p'
    simp only [loop] at p'
    cases z : t ds[i] e' with
    | none => rw [z] at p'; exact p'.elim
    | some e1 =>
      rw [z] at p'
      simp only at p'
      refine hg.ok F2 H2 fp' σ' e' e1 x ds[i] _ s2.fh E2 hz z fun f3 σ3 E3 m3 _ _ => ?_
      have s4 : Stp F H fp F2 H2 f3 := (st.trans s3).part (fun _ h => h) m3
      refine ⟨F2, f3, e1, s2.fh, E3, ?_⟩
      have p2 := PoS.step p' (s3.part (fun _ h => h) m3)
      cases z2 : g e1 with
      | nx e2 =>
        rw [z2] at p2
        exact fun F4 H4 f4 σ4 s5 E4 => ⟨F4, f4, e2, s4.trans s5, E4, PoS.step p2 s5⟩
      | ct e2 =>
        rw [z2] at p2
        exact fun F4 H4 f4 σ4 s5 E4 => ⟨F4, f4, e2, s4.trans s5, E4, PoS.step p2 s5⟩
      | bk e2 => rw [z2] at p2; exact p2
      | rt o e2 => rw [z2] at p2; exact p2
      | ex x e2 => rw [z2] at p2; exact p2
      | no => rw [z2] at p2; exact p2
  · have e1 : i = ds.length := by omega
    subst e1
    rw [List.drop_length] at p'
    exact .inl ⟨wk.stop H' (st.ff.trans st.fh), p' F' H' fp' σ' (Stp.refl st.fh) E'⟩
def turns (t : En → Out Bool) (g : SS) : Nat → SS
  | 0, _ => .no
  | n + 1, e => (t e).so fun b e1 => match b with
    | false => .nx e1
    | true => match g e1 with
      | .nx e2 => turns t g n e2
      | .ct e2 => turns t g n e2
      | .bk e2 => .nx e2
      | .rt o e2 => .rt o e2
      | .ex x e2 => .ex x e2
      | .no => .no
theorem ds_while {a : Expr} {body : List Stmt} {t : En → Out Bool} {g : SS} {pos : Pos} (n : Nat) (hp : PassesOwn (model X.prog X.w) X.A X.env X.xe) (ht : DT X c mv W a t) (hb : DSs X c mv W body g) : DS X c mv W (.While a body [] pos) (turns t g n) :=
  ps_imp (ps_while hp ht hb) fun D σ H ⟨F, fp, e, s, E, p⟩ => by
    refine ⟨fun m σ' H' => ∃ F' fp' e', Sub F' H' ∧ EnvR c mv F' H' fp' σ' e' ∧ PoS c mv W F' H' fp' (turns t g m e') D, ⟨n, F, fp, e, s, E, p⟩, ?_⟩
    rintro m σ' H' ⟨F', fp', e', s', E', p'⟩
    cases m with
    | zero => exact p'.elim
    | succ m =>
      refine then_ok (R := blR) (c := c) (mv := mv) (W := W) (D := D) ⟨F', fp', e', s', E', p'⟩ fun F2 H2 f2 q2 e2 b k s2 E2 r2 d2 p2 => ?_
      obtain ⟨rfl, rfl⟩ := r2
      rw [List.append_nil] at p2
      cases b with
      | false => exact iteF (p2 F2 H2 f2 σ' (Stp.refl s2) E2)
      | true =>
        refine iteT ⟨fun σ3 H3 => ∃ F3 fp3 e3, Sub F3 H3 ∧ EnvR c mv F3 H3 fp3 σ3 e3 ∧ PoS c mv W F3 H3 fp3 (turns t g m e3) D, fun σ3 H3 h3 => ⟨m, Nat.lt_succ_self _, h3⟩, F2, f2, e2, s2, E2, ?_⟩
        simp only at p2
        cases z2 : g e2 with
        | nx e3 =>
          rw [z2] at p2
          exact fun F4 H4 f4 σ4 s5 E4 => ⟨F4, f4, e3, s5.fh, E4, PoS.step p2 s5⟩
        | ct e3 =>
          rw [z2] at p2
          exact fun F4 H4 f4 σ4 s5 E4 => ⟨F4, f4, e3, s5.fh, E4, PoS.step p2 s5⟩
        | bk e3 => rw [z2] at p2; exact p2
        | rt o e3 => rw [z2] at p2; exact p2
        | ex x e3 => rw [z2] at p2; exact p2
        | no => rw [z2] at p2; exact p2

end

/-! ### a def by its body -/
def frame (m n : Nat) (ds : List D) : En := ⟨ds.map (fun d => some (.ow (.fz d))) ++ List.replicate (m - n) none, .fz .non⟩
def defSem (m n : Nat) (g : SS) (ds : List D) : Res := match g (frame m n ds) with
  | .rt o _ => .ok o
  | .nx _ => .ok (.fz .non)
  | .ex x _ => .ex x
  | _ => .no
theorem slots_start {c : Cs} {mv : V} {F H : Hp} (k : Nat) : ∀ {vs : List V} {ds : List D}, FzAll c F vs ds → SlR c mv F H [] (vs.map some ++ List.replicate k none) (ds.map (fun d => some (Sl.ow (.fz d))) ++ List.replicate k none)
  | _, _, .nil => by
    show SlR c mv F H [] (List.replicate k none) (List.replicate k none)
    induction k with
    | zero => exact .nil
    | succ k ih => exact .hole ih
  | _, _, .cons h r => SlR.ow (fp := []) (.fz h) (slots_start k r) fun b hb => nomatch hb
section
variable {P : Program} {w : World} {mg : Str → Option Value} {base : Heap} {c : Cs} {k : Nat} {f : Addr} {fd : FuncData} {x qual : Str} {st : Stmt} {N ps : List Str} {g : SS}
theorem defP (F : Fun c.K x qual st f fd) (S : FnScope N ps (defScope st))
    (body : ∀ (cdv : Value) (A : Around) (outer : List Env) (s : Shared) (H : Hp) (E : XK), Quiet (A.deeper (envOfC qual (defScope st) s.heap.objs.size f cdv)) → Room k (A.deeper (envOfC qual (defScope st) s.heap.objs.size f cdv)) →
      DSs (cxOf (L2.CX P w) P w c.K mg base N qual (defScope st) f cdv A outer s H E) c .non (fun cls d _ H => E cls d H) (defBody st) g) :
    FnG P w c.K mg base (k + 1) f fd ps (spP c ps.length (defSem N.length ps.length g)) := by
  refine defG F S (fun vs H Q E h => h.1) fun cdv A outer s H vs Q E gq r h => ⟨_, body cdv A outer s H E gq r, ?_⟩
  obtain ⟨hl, F0, ds, s0, z0, p⟩ := h
  refine ⟨F0, [], frame N.length ps.length ds, s0, ?_, ?_⟩
  · refine ⟨[], [], .fz .non, ?_, (fun b hb => nomatch hb), fun b => by simp⟩
    have q := slots_start (mv := .non) (H := H) (N.length - ps.length) z0
    unfold L2.start
    rw [hl]
    exact q
  · unfold defSem at p
    cases z : g (frame N.length ps.length ds) with
    | no => rw [z] at p; exact p
    | bk e => rw [z] at p; exact False.elim p
    | ct e => rw [z] at p; exact False.elim p
    | nx e =>
      rw [z] at p
      exact fun F1 H1 f1 σ1 s1 E1 => p F1 H1 [] .non (s1.part (fun _ h => h) fun b hb => nomatch hb) (.fz .non)
    | rt o e =>
      rw [z] at p
      exact fun F1 H1 f1 q1 σ1 v s1 E1 h1 d1 => p F1 H1 q1 v (s1.part (fun _ h => h) fun b hb => List.mem_append_right _ hb) h1
    | ex x e =>
      rw [z] at p
      exact fun F1 H1 f1 σ1 cls d s1 E1 xr => p F1 H1 cls d (s1.part (fun _ h => h) fun b hb => nomatch hb) xr
end
end DL

set_option Elab.async false
set_option linter.all false
set_option maxRecDepth 100000
set_option maxHeartbeats 2000000
/-! DL, part H: list comprehensions. -/
namespace DL
open PySem L2 PySem.Spec PyProof.Rows

def En.wipe (e : En) : List Nat → En
  | [] => e
  | v :: vs => (e.wipe vs).hole v
def W0 : WX := fun _ _ _ _ => False
section
variable {c : Cs} {mv : V} {F H : Hp} {fp : List Addr} {σ : L2.St} {e : En}
theorem SlR.dropS : ∀ {fr : List Addr} {σ : L2.St} {l : List (Option Sl)} {i : Nat}, SlR c mv F H fr σ l → ∃ fp, SlR c mv F H fp (σ.set i none) (l.set i none) ∧ ∀ b ∈ fp, b ∈ fr
  | _, _, _, _, .nil => ⟨[], .nil, fun b hb => nomatch hb⟩
  | _, _, _, 0, .hole (fp := fr) r => ⟨fr, .hole r, fun b h => h⟩
  | _, _, _, 0, .me (fp := fr) r => ⟨fr, .hole r, fun b h => h⟩
  | _, _, _, 0, .ow (fq := fr) _ r z => ⟨fr, .hole r, fun b h => List.mem_append_right _ h⟩
  | _, _, _, i + 1, .hole r => by
    obtain ⟨fp, h1, h2⟩ := SlR.dropS (i := i) r
    exact ⟨fp, .hole h1, h2⟩
  | _, _, _, i + 1, .me r => by
    obtain ⟨fp, h1, h2⟩ := SlR.dropS (i := i) r
    exact ⟨fp, .me h1, h2⟩
  | _, _, _, i + 1, .ow (fp := fa) h r z => by
    obtain ⟨fp, h1, h2⟩ := SlR.dropS (i := i) r
    exact ⟨fa ++ fp, .ow h h1 fun b hb q => z b hb (h2 b q), fun b hb => (List.mem_append.mp hb).elim (List.mem_append_left _) fun q => List.mem_append_right _ (h2 b q)⟩
theorem EnvR.dropS {i : Nat} (r : EnvR c mv F H fp σ e) : ∃ fp', EnvR c mv F H fp' (σ.set i none) (e.hole i) ∧ ∀ b ∈ fp', b ∈ fp := by
  obtain ⟨fm, fs, h1, h2, h3, h4⟩ := r.ex
  obtain ⟨f1, g1, g2⟩ := h2.dropS (i := i)
  refine ⟨fm ++ f1, ⟨fm, f1, h1, g1, fun b hb q => h3 b hb (g2 b q), fun b => List.mem_append⟩, fun b hb => ?_⟩
  rcases List.mem_append.mp hb with q | q
  · exact (h4 b).mpr (.inl q)
  · exact (h4 b).mpr (.inr (g2 b q))
theorem EnvR.wipeS (r : EnvR c mv F H fp σ e) : ∀ vs : List Nat, ∃ fp', EnvR c mv F H fp' (wipe σ vs) (e.wipe vs) ∧ ∀ b ∈ fp', b ∈ fp
  | [] => ⟨fp, r, fun _ h => h⟩
  | v :: vs => by
    obtain ⟨f1, E1, m1⟩ := EnvR.wipeS r vs
    obtain ⟨f2, E2, m2⟩ := E1.dropS (i := v)
    exact ⟨f2, E2, fun b hb => m1 b (m2 b hb)⟩
/-- the slots that are holes may hold anything -/
theorem SlR.any : ∀ {fr : List Addr} {σ σ' : L2.St} {l : List (Option Sl)}, SlR c mv F H fr σ l → σ'.length = σ.length → (∀ (i : Nat) (x : Sl), l[i]? = some (some x) → σ'[i]? = σ[i]?) → SlR c mv F H fr σ' l
  | _, _, [], _, .nil, _, _ => .nil
  | _, _, _ :: _, _, .nil, h, _ => by simp at h
  | _, _, [], _, .hole _, h, _ => by simp at h
  | _, _, [], _, .me _, h, _ => by simp at h
  | _, _, [], _, .ow _ _ _, h, _ => by simp at h
  | _, _, x :: xs, _, .hole r, h, k => .hole (SlR.any r (by simpa using h) fun i y q => by simpa using k (i + 1) y (by simpa using q))
  | _, _, x :: xs, _, .me r, h, k => by
    have := k 0 _ rfl
    simp at this
    subst this
    exact .me (SlR.any r (by simpa using h) fun i y q => by simpa using k (i + 1) y (by simpa using q))
  | _, _, x :: xs, _, .ow hh r z, h, k => by
    have := k 0 _ rfl
    simp at this
    subst this
    exact .ow hh (SlR.any r (by simpa using h) fun i y q => by simpa using k (i + 1) y (by simpa using q)) z
theorem EnvR.any {σ' : L2.St} (r : EnvR c mv F H fp σ e) (h : σ'.length = σ.length) (k : ∀ (i : Nat) (x : Sl), e.sl[i]? = some (some x) → σ'[i]? = σ[i]?) : EnvR c mv F H fp σ' e := by
  obtain ⟨fm, fs, h1, h2, h3, h4⟩ := r.ex
  exact ⟨fm, fs, h1, h2.any h k, h3, h4⟩
theorem wipe_holes {e : En} : ∀ {vs : List Nat} {i : Nat} {x : Sl}, (e.wipe vs).sl[i]? = some (some x) → i ∉ vs
  | [], i, x, _ => by simp
  | v :: vs, i, x, h => by
    have h' : ((e.wipe vs).sl.set v none)[i]? = some (some x) := h
    by_cases hv : v = i
    · subst hv
      by_cases hl : v < (e.wipe vs).sl.length
      · rw [List.getElem?_set_self hl] at h'; cases h'
      · rw [List.getElem?_eq_none (by simpa using hl)] at h'; cases h'
    · rw [List.getElem?_set_ne hv] at h'
      have := wipe_holes (vs := vs) h'
      simp only [List.mem_cons, not_or]
      exact ⟨fun q => hv q.symm, this⟩
theorem wipe_out {σ : L2.St} : ∀ {vs : List Nat} {i : Nat}, i ∉ vs → (wipe σ vs)[i]? = σ[i]?
  | [], i, _ => rfl
  | v :: vs, i, h => by
    unfold wipe
    rw [List.getElem?_set_ne (fun q => h (by rw [q]; exact List.mem_cons_self)), wipe_out fun q => h (List.mem_cons_of_mem _ q)]
theorem wipe_in {σ : L2.St} : ∀ {vs : List Nat} {i : Nat}, i ∈ vs → i < σ.length → (wipe σ vs)[i]? = some none
  | v :: vs, i, h, hl => by
    unfold wipe
    by_cases q : v = i
    · subst q
      rw [List.getElem?_set_self (by rw [wipe_length]; exact hl)]
    · rw [List.getElem?_set_ne q]
      exact wipe_in ((List.mem_cons.mp h).resolve_left fun z => q z.symm) hl
theorem wipe_eq {σ σ' : L2.St} {vs : List Nat} (hl : σ'.length = σ.length) (h : ∀ j, j ∉ vs → σ'[j]? = σ[j]?) : wipe σ' vs = wipe σ vs := by
  apply List.ext_getElem?
  intro i
  by_cases hi : i ∈ vs
  · by_cases hb : i < σ.length
    · rw [wipe_in hi hb, wipe_in hi (by rw [hl]; exact hb)]
    · rw [List.getElem?_eq_none (by rw [wipe_length]; omega), List.getElem?_eq_none (by rw [wipe_length]; omega)]
  · rw [wipe_out hi, wipe_out hi, h i hi]
end

/-- the turns of a comprehension -/
def cloop (t : TgS) (tt : En → Out Bool) (f : En → Out Rv) (vs : List Nat) : List D → List O → En → Out (List O)
  | [], acc, e => .ok acc e
  | d :: ds, acc, e => match t d e with
    | none => .no
    | some e1 => match tt e1 with
      | .ok true e2 => match f e2 with
        | .ok r e3 => match own e3 r with
          | none => .no
          | some (o, e4) => if acc.length < 1000000 then cloop t tt f vs ds (acc ++ [o]) (e4.wipe vs) else .no
        | _ => .no
      | .ok false e2 => cloop t tt f vs ds acc (e2.wipe vs)
      | _ => .no
def eComp (si : En → Out (List D)) (t : TgS) (tt : En → Out Bool) (f : En → Out Rv) (vs : List Nat) : En → Out Rv := fun e => (si e).bind fun ds e1 => (cloop t tt f vs ds [] (e1.wipe vs)).bind fun os e2 => .ok (.tm (.lst os)) e2
def tYesD : En → Out Bool := fun e => .ok true e
def DTs (X : Cx) (c : Cs) (mv : V) (W : WX) (ifs : List Expr) (f : En → Out Bool) : Prop := PTs X ifs (rd c mv blR W f)
section
variable {X : Cx} {c : Cs} {mv : V} {W : WX}
theorem dts_nil : DTs X c mv W [] tYesD := ⟨fun pins s σ H Q I ⟨F, fp, e, sb, E, p⟩ => (pts_nil (X := X)).run pins s σ H Q I (Po.bl sb E (fun _ h => h) p)⟩
theorem dts_one {a : Expr} {f : En → Out Bool} (h : DT X c mv W a f) : DTs X c mv W [a] f := pts_one h

theorem comp_ok {si : En → Out (List D)} {ts : List Nat} {g : TG} {t : TgS} {tt : En → Out Bool} {f : En → Out Rv} {vs : List Nat} {σ : L2.St} {H : Hp} {Q : VK} (tok : TgOk c mv ts g t) (hts : ∀ j ∈ ts, j ∈ vs)
    (h : rd c mv (rvR c mv) W (eComp si t tt f vs) σ H Q) : tLc (rd c mv (wkR c) W si) g (rd c mv blR W0 tt) (rd c mv (rvR c mv) W0 f) vs σ H Q := by
  obtain ⟨F, fp, e, s, E, p⟩ := h
  refine ⟨F, fp, e, s, E, Po.seq (R1 := wkR c) p fun ds e1 F1 H1 f1 q1 J _ s1 E1 r1 d1 p1 => ?_⟩
  obtain ⟨rfl, wk⟩ := r1
  rw [List.append_nil] at p1 s1
  intro Dn hDn
  have F1D : F1 Dn = none := by
    cases q : F1 Dn with
    | none => rfl
    | some u => have := s1.fh Dn u q; rw [hDn] at this; cases this
  -- what holds between two turns
  let Iv : Nat → Hp → Prop := fun i H' => ∃ (F' : Hp) (fp' fq' : List Addr) (e' : En) (ws : List V) (acc : List O), Stp F1 H1 f1 F' H' (fp' ++ (Dn :: fq')) ∧ EnvR c mv F' H' fp' (wipe σ vs) (e'.wipe vs) ∧ H' Dn = some (.lst ws) ∧ OwAll c F' H' fq' ws acc ∧
    F' Dn = none ∧ Dn ∉ fp' ∧ Dn ∉ fq' ∧ (∀ b ∈ fq', b ∉ fp') ∧ Po c mv (rvR c mv) W F' H' (fp' ++ (Dn :: fq')) σ ((cloop t tt f vs (ds.drop i) acc (e'.wipe vs)).bind fun os e2 => .ok (.tm (.lst os)) e2) Q
  refine ⟨fun i m H' => m = ds.length - i ∧ i ≤ ds.length ∧ Iv i H', ⟨ds.length, by simp, Nat.zero_le _, ?_⟩, ?_⟩
  · obtain ⟨f2, E2, m2⟩ := E1.wipeS vs
    have st : Stp F1 H1 f1 F1 (upd H1 Dn (.lst [])) (f2 ++ [Dn]) := (Stp.lay s1.fh hDn m2).part (fun _ h => h) fun b hb => by
      rcases List.mem_append.mp hb with h | h
      · exact List.mem_cons_of_mem _ h
      · rw [List.mem_singleton] at h; subst h; exact List.mem_cons_self
    have st0 : Stp F1 H1 [] F1 (upd H1 Dn (.lst [])) [Dn] := Stp.lay s1.fh hDn fun _ h => h
    refine ⟨F1, f2, [], e1, [], [], st, E2.stp st0 (fun b hb z => nomatch z), upd_same, .nil, F1D, fun q => (E2.has _ q).2 hDn, (fun q => nomatch q), (fun b hb => nomatch hb), ?_⟩
    rw [List.drop_zero]
    exact Po.step p1 st
  · rintro i m H' ⟨rfl, hi', F', fp', fq', e', ws, acc, st, E', hD, ha, FD, n1, n2, dj, p'⟩
    have outE : ∀ {F2 H2 : Hp} {fp2 : List Addr} {e2 : En}, EnvR c mv F2 H2 fp2 (wipe σ vs) (e2.wipe vs) → EnvR c mv F2 H2 fp2 σ (e2.wipe vs) := fun {F2 H2 fp2 e2} r =>
      r.any (wipe_length σ vs).symm fun j x hx => (wipe_out (wipe_holes hx)).symm
    by_cases hlt : i < ds.length
    · refine .inr ⟨wk.go i H' ds[i] (st.ff.trans st.fh) (by simp [hlt]), Iv (i + 1), fun H2 h2 => ⟨ds.length - (i + 1), by omega, rfl, hlt, h2⟩, fun x H2 hy => ?_⟩
      obtain ⟨F2, s2, hz⟩ := wk.yld i F' H' ds[i] x H2 st.ff st.fh (by simp [hlt]) hy
      have held : ∀ b ∈ fp' ++ (Dn :: fq'), F' b = none ∧ H' b ≠ none := fun b hb => by
        rcases List.mem_append.mp hb with h | h
        · exact E'.has b h
        · rcases List.mem_cons.mp h with h | h
          · subst h; exact ⟨FD, by rw [hD]; intro q; cases q⟩
          · exact ha.has b h
      obtain ⟨s3, _⟩ := s2.beside (fp := fp' ++ (Dn :: fq')) held
      rw [List.append_nil] at s3
      have E2 : EnvR c mv F2 H2 fp' (wipe σ vs) (e'.wipe vs) := E'.stp s2 fun b hb z => nomatch z
      have ha2 : OwAll c F2 H2 fq' ws acc := s2.owAll ha fun b hb z => nomatch z
      have hD2 : H2 Dn = some (.lst ws) := s2.keep Dn _ hD fun z => nomatch z
      have FD2 : F2 Dn = none := s2.newF Dn (by rw [hD]; intro q; cases q) (fun z => nomatch z) FD
      rw [List.drop_eq_getElem_cons hlt] at p'
      simp only [cloop] at p'
      cases z : t ds[i] (e'.wipe vs) with
      | none => rw [z] at p'; exact p'.elim
      | some e2 =>
        rw [z] at p'
        simp only at p'
        refine tok F2 H2 fp' _ _ e2 x ds[i] _ s2.fh E2 hz z fun f3 σ3 E3 m3 l3 j3 => ?_
        have wq : wipe σ3 vs = wipe σ vs := by
          have a1 : wipe σ3 vs = wipe (wipe σ vs) vs := wipe_eq l3 fun j hj => j3 j fun q => hj (hts j q)
          have a2 : wipe (wipe σ vs) vs = wipe σ vs := wipe_eq (wipe_length σ vs) fun j hj => wipe_out hj
          exact a1.trans a2
        refine ⟨wq, F2, f3, e2, s2.fh, E3, ?_⟩
        -- the list beside
        have sub3 : ∀ b ∈ f3 ++ (Dn :: fq'), b ∈ fp' ++ (Dn :: fq') := fun b hb => (List.mem_append.mp hb).elim (fun q => List.mem_append_left _ (m3 b q)) (List.mem_append_right _)
        have p2 := Po.step p' (s3.part (fun _ h => h) sub3)
        have st2 : Stp F1 H1 f1 F2 H2 (f3 ++ (Dn :: fq')) := (st.trans s3).part (fun _ h => h) sub3
        have heldQ : ∀ b ∈ Dn :: fq', F2 b = none ∧ H2 b ≠ none := fun b hb => by
          rcases List.mem_cons.mp hb with h | h
          · subst h; exact ⟨FD2, by rw [hD2]; intro q; cases q⟩
          · exact ha2.has b h
        have djQ : ∀ b ∈ Dn :: fq', b ∉ f3 := fun b hb q => by
          rcases List.mem_cons.mp hb with h | h
          · subst h; exact n1 (m3 _ q)
          · exact dj b h (m3 _ q)
        cases z2 : tt e2 with
        | no => rw [z2] at p2; exact p2.elim
        | ex y e3 => rw [z2] at p2; exact p2.elim
        | ok b e3 =>
          rw [z2] at p2
          intro F4 H4 f4 q4 b' s4 E4 r4 d4
          obtain ⟨rfl, rfl⟩ := r4
          rw [List.append_nil] at s4
          have s4' := s4.more (fq := Dn :: fq') fun b hb => (heldQ b hb).2
          have st4 := st2.trans s4'
          have p4 := Po.step p2 s4'
          have ha4 : OwAll c F4 H4 fq' ws acc := s4.owAll ha2 fun b hb q => djQ b (List.mem_cons_of_mem _ hb) q
          have hD4 : H4 Dn = some (.lst ws) := s4.keep Dn _ hD2 (djQ Dn List.mem_cons_self)
          have FD4 : F4 Dn = none := s4.newF Dn (heldQ Dn List.mem_cons_self).2 (djQ Dn List.mem_cons_self) FD2
          have ap4 := s4.apart (fun b hb => (heldQ b hb).2) djQ
          cases b' with
          | false =>
            refine iteF ?_
            simp only at p4
            obtain ⟨f5, E5, m5⟩ := E4.wipeS vs
            rw [wq] at E5
            have sub5 : ∀ b ∈ f5 ++ (Dn :: fq'), b ∈ f4 ++ (Dn :: fq') := fun b hb => (List.mem_append.mp hb).elim (fun q => List.mem_append_left _ (m5 b q)) (List.mem_append_right _)
            exact ⟨F4, f5, fq', e3, ws, acc, st4.part (fun _ h => h) sub5, E5, hD4, ha4, FD4, fun q => ap4 Dn List.mem_cons_self (m5 _ q), n2, fun b hb q => ap4 b (List.mem_cons_of_mem _ hb) (m5 _ q),
              Po.step p4 ((Stp.refl s4.fh).part (fun _ h => h) sub5)⟩
          | true =>
            refine iteT ⟨F4, f4, e3, s4.fh, E4, ?_⟩
            simp only at p4
            cases z3 : f e3 with
            | no => rw [z3] at p4; exact p4.elim
            | ex y e5 => rw [z3] at p4; exact p4.elim
            | ok r e5 =>
              rw [z3] at p4
              simp only at p4
              intro F6 H6 f6 q6 y s6 E6 r6 d6
              have heldR : ∀ b ∈ Dn :: fq', F4 b = none ∧ H4 b ≠ none := fun b hb => by
                rcases List.mem_cons.mp hb with h | h
                · subst h; exact ⟨FD4, by rw [hD4]; intro q; cases q⟩
                · exact ha4.has b h
              have s6' := s6.more (fq := Dn :: fq') fun b hb => (heldR b hb).2
              have p6 := Po.step p4 s6'
              have st6 := st4.trans s6'
              have ha6 : OwAll c F6 H6 fq' ws acc := s6.owAll ha4 fun b hb q => ap4 b (List.mem_cons_of_mem _ hb) q
              have hD6 : H6 Dn = some (.lst ws) := s6.keep Dn _ hD4 (ap4 Dn List.mem_cons_self)
              have FD6 : F6 Dn = none := s6.newF Dn (heldR Dn List.mem_cons_self).2 (ap4 Dn List.mem_cons_self) FD4
              have ap6 := s6.apart (fun b hb => (heldR b hb).2) ap4
              cases z4 : own e5 r with
              | none => rw [z4] at p6; exact p6.elim
              | some yy =>
                obtain ⟨o, e6⟩ := yy
                rw [z4] at p6
                simp only at p6
                by_cases hsz : acc.length < 1000000
                · rw [if_pos hsz] at p6
                  obtain ⟨F7, f7, q7, s7, k7, E7, d7, m7, w7⟩ := own_ok s6.fh E6 r6 d6 z4
                  have s7' := s7.more (fq := Dn :: fq') fun b hb => by
                    rcases List.mem_cons.mp hb with h | h
                    · subst h; rw [hD6]; intro q; cases q
                    · exact (ha6.has b h).2
                  have st7 := st6.trans s7'
                  have p7 := Po.step p6 s7'
                  have ha7 : OwAll c F7 H6 fq' ws acc := s7.owAll ha6 fun b hb q => ap6 b (List.mem_cons_of_mem _ hb) q
                  have FD7 : F7 Dn = none := s7.newF Dn (by rw [hD6]; intro q; cases q) (ap6 Dn List.mem_cons_self) FD6
                  have ap7 := s7.apart (fq := Dn :: fq') (fun b hb => by
                    rcases List.mem_cons.mp hb with h | h
                    · subst h; rw [hD6]; intro q; cases q
                    · exact (ha6.has b h).2) ap6
                  obtain ⟨f8, E8, m8⟩ := E7.wipeS vs
                  rw [wq] at E8
                  have hl : ws.length < sizeLine := by rw [ha7.length]; exact Nat.lt_of_lt_of_le hsz (by decide)
                  -- the new item comes behind
                  have s8 : Stp F7 H6 ((f7 ++ q7) ++ (Dn :: fq')) F7 (upd H6 Dn (.lst (ws ++ [y]))) (f8 ++ (Dn :: (fq' ++ q7))) :=
                    (Stp.chg s7.fh (List.mem_append_right _ List.mem_cons_self) FD7).part (fun _ h => h) fun b hb => by
                      simp only [List.mem_append, List.mem_cons] at hb ⊢
                      rcases hb with h | h | h | h
                      · exact .inl (.inl (m8 b h))
                      · exact .inr (.inl h)
                      · exact .inr (.inr h)
                      · exact .inl (.inr h)
                  have s9 : Stp F7 H6 [Dn] F7 (upd H6 Dn (.lst (ws ++ [y]))) [Dn] := Stp.chg s7.fh (List.mem_singleton.mpr rfl) FD7
                  have out1 : ∀ b ∈ f7 ++ q7, b ∉ [Dn] := fun b hb z => by
                    rw [List.mem_singleton] at z; subst z
                    exact ap7 _ List.mem_cons_self hb
                  have kq : OwAll c F7 H6 (fq' ++ (q7 ++ [])) (ws ++ [y]) (acc ++ [o]) := ha7.append (.cons k7 .nil fun b hb z => nomatch z) fun b hb z => ap7 b (List.mem_cons_of_mem _ hb) (List.mem_append_right _ (by simpa using z))
                  rw [List.append_nil] at kq
                  have inQ : ∀ b ∈ fq' ++ q7, b ∉ [Dn] := fun b hb z => by
                    rcases List.mem_append.mp hb with h | h
                    · rw [List.mem_singleton] at z; subst z; exact n2 h
                    · exact out1 b (List.mem_append_right _ h) z
                  refine ⟨ws, hD6, hl, F7, f8, fq' ++ q7, e6, ws ++ [y], acc ++ [o], st7.trans s8, E8.stp s9 fun b hb => out1 b (List.mem_append_left _ (m8 b hb)), upd_same, s9.owAll kq inQ, FD7,
                    fun q => ap7 Dn List.mem_cons_self (List.mem_append_left _ (m8 _ q)), fun q => inQ Dn q (List.mem_singleton.mpr rfl), fun b hb q => ?_, Po.step p7 s8⟩
                  rcases List.mem_append.mp hb with h | h
                  · exact ap7 b (List.mem_cons_of_mem _ h) (List.mem_append_left _ (m8 _ q))
                  · exact d7 b h (m8 _ q)
                · rw [if_neg hsz] at p6; exact p6.elim
    · have e1 : i = ds.length := by omega
      subst e1
      rw [List.drop_length] at p'
      refine .inl ⟨wk.stop H' (st.ff.trans st.fh), ?_⟩
      simp only [cloop, Out.bind] at p'
      refine p' F' H' fp' (Dn :: fq') (.ref Dn) (Stp.refl st.fh) (outE E') (.tm (.lst hD FD n2 ha)) fun b hb => ?_
      rcases List.mem_cons.mp hb with h | h
      · subst h; exact n1
      · exact dj b h
section
variable {elt tg iter : Expr} {ifs : List Expr} {scope : Scope} {own' : List (Str × Nat)} {pos : Pos} {si : En → Out (List D)} {ts : List Nat} {g : TG} {t : TgS} {tt : En → Out Bool} {f : En → Out Rv}
theorem de_comp (hc : X.calm = true) (hN : X.N.Nodup) (hi : DI X c mv W tg iter si) (ok : BlkOk X.N X.env.scope scope own')
    (hg : ∀ (s : Shared) (H : Hp) (C : Addr) (cl : List (Str × Addr)) (fp : List Addr), DG (X.blk s H scope (compEnvC scope cl C X.env) fp) c mv tg ts g t)
    (ht : ∀ (s : Shared) (H : Hp) (C : Addr) (cl : List (Str × Addr)) (fp : List Addr), DTs (X.blk s H scope (compEnvC scope cl C X.env) fp) c mv W0 ifs tt)
    (he : ∀ (s : Shared) (H : Hp) (C : Addr) (cl : List (Str × Addr)) (fp : List Addr), DE (X.blk s H scope (compEnvC scope cl C X.env) fp) c mv W0 elt f)
    (tok : TgOk c mv ts g t) (hts : ∀ j ∈ ts, j ∈ own'.map (·.2)) (hs : ∀ x, foldedSetIterable iter X.env x = pure x := by intro _; rfl) :
    DE X c mv W (.ListComp elt [⟨tg, iter, ifs, 0⟩] scope pos) (eComp si t tt f (own'.map (·.2))) :=
  pe_imp (pe_lc hc hN hi ok (fun s H C cl fp => (hg s H C cl fp).pg) ht he hs) fun σ H Q h => comp_ok tok hts h
/-- name = [..], the name a local -/
theorem ds_setLc {i : Nat} {y : Str} {py spos : Pos} (hc : X.calm = true) (hN : X.N.Nodup) (hy : X.N[i]? = some y) (hyl : X.env.scope.names.lookup y = some .local) (hi : DI X c mv W tg iter si) (ok : BlkOk X.N X.env.scope scope own')
    (hg : ∀ (s : Shared) (H : Hp) (C : Addr) (cl : List (Str × Addr)) (fp : List Addr), DG (X.blk s H scope (compEnvC scope cl C X.env) fp) c mv tg ts g t)
    (ht : ∀ (s : Shared) (H : Hp) (C : Addr) (cl : List (Str × Addr)) (fp : List Addr), DTs (X.blk s H scope (compEnvC scope cl C X.env) fp) c mv W0 ifs tt)
    (he : ∀ (s : Shared) (H : Hp) (C : Addr) (cl : List (Str × Addr)) (fp : List Addr), DE (X.blk s H scope (compEnvC scope cl C X.env) fp) c mv W0 elt f)
    (tok : TgOk c mv ts g t) (hts : ∀ j ∈ ts, j ∈ own'.map (·.2)) (hsw : swapsWith (.ListComp elt [⟨tg, iter, ifs, 0⟩] scope pos) (some (.Name y py)) spos.line X.env = pure true) (hs : ∀ x, foldedSetIterable iter X.env x = pure x := by intro _; rfl) :
    DS X c mv W (.Assign [.Name y py] (.ListComp elt [⟨tg, iter, ifs, 0⟩] scope pos) spos) (sSet i (eComp si t tt f (own'.map (·.2)))) :=
  ps_imp (ps_setLc hc hN hy hyl hsw hi ok (fun s H C cl fp => (hg s H C cl fp).pg) ht he hs) fun D σ H h => comp_ok (W := W) tok hts (then_ok (R := rvR c mv) (T := fun v H1 => D.nx (σ.set i (some v)) H1) h fun F H fp fq e v r s E rr d p => by
    cases z : own e r with
    | none => rw [z] at p; exact p.elim
    | some y =>
      obtain ⟨o, e2⟩ := y
      rw [z] at p
      obtain ⟨F1, f1, q1, s1, k1, E1, d1, m1, n1⟩ := own_ok s E rr d z
      obtain ⟨f2, E2, m2⟩ := E1.put (i := i) k1 d1
      exact p F1 H f2 _ (s1.part (fun _ h => h) m2) E2)
end
end
end DL

set_option Elab.async false
set_option linter.all false
set_option maxRecDepth 100000
set_option maxHeartbeats 2000000
/-! DL, part F: operators and built-ins by trees. -/
namespace DL
open PySem L2 PySem.Spec PyProof.Rows

/-! ### arithmetic -/
def most : Nat := 10000000
def addD : List D → Option O
  | [.int i, .int j] => some (.fz (.int (i + j)))
  | [.str x, .str y] => if x.length + y.length ≤ most then some (.fz (.str (x ++ y))) else none
  | [.tup false xs, .tup false ys] => if xs.length + ys.length ≤ most then some (.fz (.tup false (xs ++ ys))) else none
  | [.lst xs, .lst ys] => if xs.length + ys.length ≤ most then some (.lst ((xs ++ ys).map .fz)) else none
  | _ => none
def subD : List D → Option D
  | [.int i, .int j] => some (.int (i - j))
  | _ => none
def mulD : List D → Option D
  | [.int i, .int j] => if i.natAbs < 2 ^ 64 ∨ j.natAbs < 2 ^ 64 then some (.int (i * j)) else none
  | [.str x, .int k] => if k.natAbs ≤ 100000 ∧ x.length * k.toNat ≤ most then some (.str ⟨(List.replicate k.toNat x.cps).foldl (· ++ ·) #[]⟩) else none
  | _ => none
def divD : List D → Option D
  | [.int i, .int j] => if 0 < j ∧ j < 1073741824 then some (.int (i / j)) else none
  | _ => none
def modD : List D → Option D
  | [.int i, .int j] => if 0 < j then some (.int (i % j)) else none
  | _ => none
def powD : List D → Option D
  | [.int i, .int j] => if 0 ≤ j ∧ j ≤ 1000000 ∧ i.natAbs < 2 ^ 64 then some (.int (i ^ j.toNat)) else none
  | _ => none
def negD : List D → Option D
  | [.int i] => some (.int (-i))
  | _ => none
theorem most_line {n : Nat} (h : n ≤ most) : n ≤ sizeLine := Nat.le_trans h (by decide)
section
variable {X : Cx}
def rCatL (K : PySem.W.Frag) : R2 := fun x y H Q => ∃ a b xs ys, x = .ref a ∧ y = .ref b ∧ SqL K H a xs ∧ SqL K H b ys ∧ xs.length + ys.length ≤ sizeLine ∧ ∀ p, H p = none → Q (.ref p) (upd H p (.lst (xs ++ ys)))
theorem op_catL : OpR X (binaryOp .Add) (rCatL X.K) := by
  intro pins s σ H x y v u Q I rx ry h
  obtain ⟨a, b, xs, ys, rfl, rfl, ha, hb, hz, q⟩ := h
  cases rx
  cases ry
  obtain ⟨its, r1, ⟨⟨c1, dd1, t1, sl1⟩, n1, ho, hc, hd, ht⟩, _⟩ := I.list ha
  obtain ⟨its2, r2, ⟨⟨c2, dd2, t2, sl2⟩, n2, ho2, hc2, hd2, ht2⟩, _⟩ := I.list hb
  simp only at hc hd ht hc2 hd2 ht2
  subst hc hd ht hc2 hd2 ht2
  have e : its.toArray ++ its2.toArray = (its ++ its2).toArray := by simp
  refine concat_meets ⟨_, ho, rfl⟩ ⟨_, ho2, rfl⟩ noFill_list_add seq_list_add PySem.F.slot_list_add PySem.F.entry_list_add (PySem.F.args_list_add_2 _ _)
    (list_addW a b its.toArray its2.toArray n1 n2 none none sl1 sl2 (by rw [List.size_toArray, List.size_toArray, ← r1.length, ← r2.length]; exact hz)) ⟨ho, ho2, ?_⟩
  rw [e]
  exact ⟨.ref _, _, I.lnew (t' := s.toks) (r1.append r2) (by rw [List.length_append]; exact hz), rfl, q _ I.fresh⟩
theorem op_mulS : OpR X (binaryOp .Mult) (fun x y H Q => ∃ z k, x = .str z ∧ y = .int k ∧ k.natAbs ≤ 100000 ∧ z.length * k.toNat ≤ most ∧ Q (.str ⟨(List.replicate k.toNat z.cps).foldl (· ++ ·) #[]⟩) H) := by
  intro pins s σ H x y v u Q I rx ry h
  obtain ⟨z, k, rfl, rfl, hk, hz, q⟩ := h
  obtain ⟨t, rfl⟩ := rx
  obtain ⟨t', rfl⟩ := ry
  have hln : z.length * k.toNat ≤ sizeLine := most_line hz
  refine PySem.P.mul_str ?_ (fun h1 h2 => ?_) (fun h1 h2 => ?_) ?_
  · rw [decide_eq_false (by omega), decide_eq_false (by omega)]; rfl
  · have h2 : (k == 1) = false ∧ (z.length == 0) = false := by simpa using h2
    intro h3
    have h4 : (0 : Int) < k := by omega
    have h5 := (Int.lt_iff_add_one_le.mp h3)
    have h6 : ((2 ^ 63 - 1 : Int) / k) < (z.length : Int) := h3
    have h7 := (Int.ediv_lt_iff_lt_mul h4).mp h6
    have h8 : ((z.length : Int) * k) = ((z.length * k.toNat : Nat) : Int) := by rw [Int.natCast_mul, Int.toNat_of_nonneg (by omega)]
    rw [h8] at h7
    have h9 : z.length * k.toNat ≤ 10000000 := hz
    omega
  · refine decide_eq_false ?_
    omega
  · split
    · rename_i h1
      have e : k.toNat = 0 := by omega
      rw [e] at q
      exact ⟨by decide, ⟨.str ⟨#[]⟩, H, I.tok _, ⟨_, rfl⟩, q⟩⟩
    · rename_i h1
      split
      · rename_i h2
        refine ⟨.str z, H, I, ⟨_, rfl⟩, ?_⟩
        have e : (⟨(List.replicate k.toNat z.cps).foldl (· ++ ·) #[]⟩ : Str) = z := by
          have h2' : k = 1 ∨ z.length = 0 := by simpa using h2
          rcases h2' with e | e
          · subst e; cases z; simp
          · obtain ⟨cs⟩ := z
            have : cs = #[] := Array.eq_empty_of_size_eq_zero e
            subst this
            have : ∀ n : Nat, List.foldl (fun x1 x2 : Array Nat => x1 ++ x2) #[] (List.replicate n #[]) = #[] := fun n => by
              induction n with
              | zero => rfl
              | succ n ih => rw [List.replicate_succ, List.foldl_cons]; simpa using ih
            rw [this]
        rw [e] at q
        exact q
      · refine ⟨?_, ⟨.str _, H, I.tok _, ⟨_, rfl⟩, q⟩⟩
        have key : ∀ (n : Nat) (acc : Array Nat), (List.foldl (fun x1 x2 : Array Nat => x1 ++ x2) acc (List.replicate n z.cps)).size = acc.size + z.cps.size * n := fun n => by
          induction n with
          | zero => intro acc; simp
          | succ n ih => intro acc; rw [List.replicate_succ, List.foldl_cons, ih, Array.size_append, Nat.mul_succ]; omega
        show (List.foldl (fun x1 x2 : Array Nat => x1 ++ x2) #[] (List.replicate k.toNat z.cps)).size ≤ sizeLine
        rw [key]
        simpa [Str.length] using hln
end
section
variable {X : Cx} {c : Cs}
theorem two_int {F : Hp} {vs : List V} {i j : Int} (h : FzAll c F vs [.int i, .int j]) : vs = [.int i, .int j] := by
  cases h with
  | cons h1 h2 =>
    cases h1
    cases h2 with
    | cons h2 h3 => cases h2; cases h3; rfl
theorem vop_sub : VOp c (R2of (rI0 fun i j => .int (i - j))) subD := fun F H vs ds d Q s h e k => by
  unfold subD at e
  split at e
  · cases e
    cases two_int h
    exact ⟨_, _, rfl, _, _, rfl, rfl, k _ fun _ => .int⟩
  · cases e
theorem natAbs_64 {i : Int} (h : i.natAbs < 2 ^ 64) : -(2 ^ 64) < i ∧ i < 2 ^ 64 := by omega
theorem vop_mul : VOp c (R2of (fun x y H Q => rI CMul (fun i j => .int (i * j)) x y H Q ∨ ∃ z k, x = .str z ∧ y = .int k ∧ k.natAbs ≤ 100000 ∧ z.length * k.toNat ≤ most ∧ Q (.str ⟨(List.replicate k.toNat z.cps).foldl (· ++ ·) #[]⟩) H)) mulD := fun F H vs ds d Q s h e k => by
  unfold mulD at e
  split at e
  · split at e
    · rename_i hb
      cases e
      cases two_int h
      exact ⟨_, _, rfl, .inl ⟨_, _, rfl, rfl, hb.imp natAbs_64 natAbs_64, k _ fun _ => .int⟩⟩
    · cases e
  · split at e
    · rename_i hb
      cases e
      cases h with
      | cons h1 h2 =>
        cases h1
        cases h2 with
        | cons h2 h3 => cases h2; cases h3; exact ⟨_, _, rfl, .inr ⟨_, _, rfl, rfl, hb.1, hb.2, k _ fun _ => .str⟩⟩
    · cases e
  · cases e
theorem vop_div : VOp c (R2of (rI CDiv fun i j => .int (i / j))) divD := fun F H vs ds d Q s h e k => by
  unfold divD at e
  split at e
  · split at e
    · rename_i hb
      cases e
      cases two_int h
      exact ⟨_, _, rfl, _, _, rfl, rfl, hb, k _ fun _ => .int⟩
    · cases e
  · cases e
theorem vop_mod : VOp c (R2of (rI (fun _ j => 0 < j) fun i j => .int (i % j))) modD := fun F H vs ds d Q s h e k => by
  unfold modD at e
  split at e
  · split at e
    · rename_i hb
      cases e
      cases two_int h
      exact ⟨_, _, rfl, _, _, rfl, rfl, hb, k _ fun _ => .int⟩
    · cases e
  · cases e
theorem vop_pow : VOp c (R2of (rI CPow fun i j => .int (i ^ j.toNat))) powD := fun F H vs ds d Q s h e k => by
  unfold powD at e
  split at e
  · split at e
    · rename_i hb
      cases e
      cases two_int h
      exact ⟨_, _, rfl, _, _, rfl, rfl, hb, k _ fun _ => .int⟩
    · cases e
  · cases e
def rAddD (K : PySem.W.Frag) : R2 := fun x y H Q => rI0 (fun i j => .int (i + j)) x y H Q ∨ (∃ i j, x = .str i ∧ y = .str j ∧ i.length + j.length ≤ sizeLine ∧ Q (.str (i ++ j)) H) ∨ rCatA K x y H Q ∨ rCatL K x y H Q
theorem op_addD : OpR X (binaryOp .Add) (rAddD X.K) := op_add.or (op_add_str.or (op_catA.or op_catL))
/-- a new list of frozen things -/
theorem new_lst {F H : Hp} {vs : List V} {ds : List D} {Q : VK} (s : Sub F H) (h : FzAll c F vs ds) (k : ∀ F' H' fq v, Stp F H [] F' H' fq → Ow c F' H' fq v (.lst (ds.map .fz)) → Q v H') : ∀ p, H p = none → Q (.ref p) (upd H p (.lst vs)) := fun p hp => by
  have st : Stp F H [] F (upd H p (.lst vs)) [p] := Stp.lay s hp fun _ h => h
  have Fp : F p = none := by
    cases q : F p with
    | none => rfl
    | some u => have := s p u q; rw [hp] at this; cases this
  exact k F _ [p] _ st (.lst upd_same Fp (fun z => nomatch z) (FzAll.ow (h.mono st.ff)))
theorem new_tup {F H : Hp} {vs : List V} {ds : List D} {Q : VK} (s : Sub F H) (h : FzAll c F vs ds) (k : ∀ F' H' fq v, Stp F H [] F' H' fq → Ow c F' H' fq v (.fz (.tup false ds)) → Q v H') : ∀ p, H p = none → Q (.ref p) (upd H p (.tup vs)) := fun p hp => by
  have st : Stp F H [] F (upd H p (.tup vs)) [p] := Stp.lay s hp fun _ h => h
  have Fp : F p = none := by
    cases q : F p with
    | none => rfl
    | some u => have := s p u q; rw [hp] at this; cases this
  have ic : Stp F (upd H p (.tup vs)) [p] (ice F (upd H p (.tup vs)) [p]) (upd H p (.tup vs)) [] :=
    Stp.ice st.fh (fun b hb => by rw [List.mem_singleton] at hb; subst hb; exact Fp) (fun b hb => hb) fun b hb => nomatch hb
  have st2 := st.trans ic
  exact k _ _ [] _ st2 (.fz (.tup (SqT.of ((ice_in (List.mem_singleton.mpr rfl)).trans upd_same)) noK (h.mono st2.ff)))
theorem fop_add (hK : X.K = c.K) : FOp c (R2of (rAddD X.K)) addD := fun F H vs ds o Q s h e k => by
  rw [hK]
  unfold addD at e
  split at e
  · cases e
    cases two_int h
    exact ⟨_, _, rfl, .inl ⟨_, _, rfl, rfl, k F H [] _ (Stp.refl s) (.fz .int)⟩⟩
  · split at e
    · rename_i hb
      cases e
      cases h with
      | cons h1 h2 =>
        cases h1
        cases h2 with
        | cons h2 h3 => cases h2; cases h3; exact ⟨_, _, rfl, .inr (.inl ⟨_, _, rfl, rfl, most_line hb, k F H [] _ (Stp.refl s) (.fz .str)⟩)⟩
    · cases e
  · rename_i xs ys
    split at e
    · rename_i hb
      cases e
      cases h with
      | cons h1 h2 =>
        cases h1 with
        | @tup a ws _ ds hs _ ha =>
          cases h2 with
          | cons h2 h3 =>
            cases h2 with
            | @tup b us _ es hs2 _ hb2 =>
              cases h3
              refine ⟨_, _, rfl, .inr (.inr (.inl ⟨a, b, ws, us, rfl, rfl, s.sqT hs, s.sqT hs2, by rw [ha.length, hb2.length]; exact most_line hb, fun e => ?_, fun _ e => ?_, fun _ _ => new_tup s (ha.append hb2) k⟩))⟩
              · subst e; cases ha; exact k F H [] _ (Stp.refl s) (.fz (.tup hs2 noK hb2))
              · subst e; cases hb2; rw [List.append_nil] at k; exact k F H [] _ (Stp.refl s) (.fz (.tup hs noK ha))
    · cases e
  · rename_i xs ys
    split at e
    · rename_i hb
      cases e
      cases h with
      | cons h1 h2 =>
        cases h1 with
        | @lst a ws ds hs ha =>
          cases h2 with
          | cons h2 h3 =>
            cases h2 with
            | @lst b us es hs2 hb2 =>
              cases h3
              exact ⟨_, _, rfl, .inr (.inr (.inr ⟨a, b, ws, us, rfl, rfl, s.sqL hs, s.sqL hs2, by rw [ha.length, hb2.length]; exact most_line hb, new_lst s (ha.append hb2) k⟩))⟩
    · cases e
  · cases e
section
variable {mv : V} {W : WX} {a b : Expr} {f g : En → Out Rv} {pos : Pos}
theorem de_add (hK : X.K = c.K) (ha : DE X c mv W a f) (hb : DE X c mv W b g) : DE X c mv W (.BinOp a .Add b pos) (eF addD (two f g)) := de_opF op_addD (fop_add hK) ha hb
theorem de_sub (ha : DE X c mv W a f) (hb : DE X c mv W b g) : DE X c mv W (.BinOp a .Sub b pos) (eV subD (two f g)) := de_opV op_sub vop_sub ha hb
theorem de_mul (ha : DE X c mv W a f) (hb : DE X c mv W b g) : DE X c mv W (.BinOp a .Mult b pos) (eV mulD (two f g)) := de_opV (op_mul.or op_mulS) vop_mul ha hb
theorem de_div (ha : DE X c mv W a f) (hb : DE X c mv W b g) : DE X c mv W (.BinOp a .FloorDiv b pos) (eV divD (two f g)) := de_opV op_fdiv vop_div ha hb
theorem de_mod (ha : DE X c mv W a f) (hb : DE X c mv W b g) : DE X c mv W (.BinOp a .Mod b pos) (eV modD (two f g)) := de_opV op_mod vop_mod ha hb
theorem de_pow (ha : DE X c mv W a f) (hb : DE X c mv W b g) : DE X c mv W (.BinOp a .Pow b pos) (eV powD (two f g)) := de_opV op_pow vop_pow ha hb
end
end

/-! ### data as the library names it -/
mutual
def D.pd : D → PyData
  | .non => .none
  | .bl b => .bool b
  | .int i => .int i
  | .str x => .str x
  | .tup _ ds => .tuple (pds ds)
  | .lst ds => .list (pds ds)
  | .dK _ _ => .none
  | .dT _ _ => .none
  | .obj _ _ _ => .none
def pds : List D → List PyData
  | [] => []
  | d :: ds => d.pd :: pds ds
end
mutual
/-- made of nothing but scalars, lists and tuples -/
def D.plain : D → Bool
  | .non => true
  | .bl _ => true
  | .int _ => true
  | .str _ => true
  | .tup _ ds => plains ds
  | .lst ds => plains ds
  | .dK _ _ => false
  | .dT _ _ => false
  | .obj _ _ _ => false
def plains : List D → Bool
  | [] => true
  | d :: ds => d.plain && plains ds
end
mutual
theorem Fz.dp {c : Cs} {F : Hp} : ∀ {v : V} {d : D}, Fz c F v d → d.plain = true → Dp c.K F v d.pd
  | _, _, .non, _ => .non
  | _, _, .bl, _ => .bl _
  | _, _, .int, _ => .int _
  | _, _, .str, _ => .str _
  | _, _, .tup hs _ ha, h => .tup hs (FzAll.dp ha h)
  | _, _, .lst hs ha, h => .lst hs (FzAll.dp ha h)
theorem FzAll.dp {c : Cs} {F : Hp} : ∀ {vs : List V} {ds : List D}, FzAll c F vs ds → plains ds = true → DpAll c.K F vs (pds ds)
  | _, _, .nil, _ => .nil
  | _, _, .cons h r, e => by
    unfold plains at e
    rw [Bool.and_eq_true] at e
    exact .cons (Fz.dp h e.1) (FzAll.dp r e.2)
end
/-- == is asked of such things -/
def eqOk (d : D) : Bool := d.plain && SeqAt.shaped d.pd
def eqD : List D → Option D
  | [.str x, .str y] => some (.bl (x == y))
  | [a, b] => if eqOk a && eqOk b then some (.bl (PyData.eqv a.pd b.pd)) else none
  | _ => none
def neD : List D → Option D
  | [.str x, .str y] => some (.bl (x != y))
  | [a, b] => if eqOk a && eqOk b then some (.bl (!PyData.eqv a.pd b.pd)) else none
  | _ => none
section
variable {X : Cx} {c : Cs}
def rTxt (p : Str → Str → Bool) : R2 := fun x y H Q => ∃ i j, x = .str i ∧ y = .str j ∧ Q (.bl (p i j)) H
theorem op_eqTxt : OpR X (compareOp .Eq) (rTxt fun i j => i == j) := by
  intro pins s σ H x y v u Q I rx ry ⟨i, j, e1, e2, q⟩
  subst e1; subst e2
  obtain ⟨t, rfl⟩ := rx
  obtain ⟨t2, rfl⟩ := ry
  exact PyProof.Rows.eq_str ⟨.bl _, H, I, rfl, q⟩
theorem op_neTxt : OpR X (compareOp .NotEq) (rTxt fun i j => i != j) := by
  intro pins s σ H x y v u Q I rx ry ⟨i, j, e1, e2, q⟩
  subst e1; subst e2
  obtain ⟨t, rfl⟩ := rx
  obtain ⟨t2, rfl⟩ := ry
  exact PyProof.Rows.ne_str ⟨.bl _, H, I, rfl, q⟩
def rEqE (K : PySem.W.Frag) : R2 := fun x y H Q => rTxt (fun i j => i == j) x y H Q ∨ rEqD K x y H Q
def rNeE (K : PySem.W.Frag) : R2 := fun x y H Q => rTxt (fun i j => i != j) x y H Q ∨ rNeD K x y H Q
theorem vop_eq (hK : X.K = c.K) : VOp c (R2of (rEqE X.K)) eqD := fun F H vs ds d Q s h e k => by
  rw [hK]
  unfold eqD at e
  split at e
  · cases e
    cases h with
    | cons h1 h2 => cases h2 with
      | cons h2 h3 => cases h3; cases h2; cases h1; exact ⟨_, _, rfl, .inl ⟨_, _, rfl, rfl, k _ fun _ => .bl⟩⟩
  · split at e
    · rename_i hb
      cases e
      simp only [eqOk, Bool.and_eq_true] at hb
      cases h with
      | cons h1 h2 => cases h2 with
        | cons h2 h3 => cases h3; exact ⟨_, _, rfl, .inr ⟨_, _, h1.dp hb.1.1, h2.dp hb.2.1, hb.1.2, hb.2.2, k _ fun _ => .bl⟩⟩
    · cases e
  · cases e
theorem vop_ne (hK : X.K = c.K) : VOp c (R2of (rNeE X.K)) neD := fun F H vs ds d Q s h e k => by
  rw [hK]
  unfold neD at e
  split at e
  · cases e
    cases h with
    | cons h1 h2 => cases h2 with
      | cons h2 h3 => cases h3; cases h2; cases h1; exact ⟨_, _, rfl, .inl ⟨_, _, rfl, rfl, k _ fun _ => .bl⟩⟩
  · split at e
    · rename_i hb
      cases e
      simp only [eqOk, Bool.and_eq_true] at hb
      cases h with
      | cons h1 h2 => cases h2 with
        | cons h2 h3 => cases h3; exact ⟨_, _, rfl, .inr ⟨_, _, h1.dp hb.1.1, h2.dp hb.2.1, hb.1.2, hb.2.2, k _ fun _ => .bl⟩⟩
    · cases e
  · cases e
def cmpD (p : Int → Int → Bool) : List D → Option D
  | [.int i, .int j] => some (.bl (p i j))
  | _ => none
theorem vop_cmp {p : Int → Int → Bool} : VOp c (R2of (rI0 fun i j => .bl (p i j))) (cmpD p) := fun F H vs ds d Q s h e k => by
  unfold cmpD at e
  split at e
  · cases e
    cases two_int h
    exact ⟨_, _, rfl, _, _, rfl, rfl, k _ fun _ => .bl⟩
  · cases e
def isNone : D → Bool
  | .non => true
  | _ => false
def isD : List D → Option D
  | [a, .non] => some (.bl (isNone a))
  | [.bl a, .bl b] => some (.bl (decide (a = b)))
  | _ => none
def isntD : List D → Option D
  | [a, .non] => some (.bl (!isNone a))
  | [.bl a, .bl b] => some (.bl (!decide (a = b)))
  | _ => none
theorem Fz.isNone {F : Hp} {v : V} {d : D} (h : Fz c F v d) : decide (v = .non) = isNone d := by
  cases h <;> simp [DL.isNone]
theorem vop_is : VOp c (R2of (fun x y H Q => (y = .non ∧ Q (.bl (decide (x = .non))) H) ∨ rIsB x y H Q)) isD := fun F H vs ds d Q s h e k => by
  unfold isD at e
  split at e
  · cases e
    cases h with
    | cons h1 h2 => cases h2 with
      | cons h2 h3 =>
        cases h3; cases h2
        refine ⟨_, _, rfl, .inl ⟨rfl, ?_⟩⟩
        rw [h1.isNone]
        exact k _ fun _ => .bl
  · cases e
    cases h with
    | cons h1 h2 => cases h2 with
      | cons h2 h3 => cases h3; cases h2; cases h1; exact ⟨_, _, rfl, .inr ⟨_, _, rfl, rfl, k _ fun _ => .bl⟩⟩
  · cases e
theorem vop_isnt : VOp c (R2of (fun x y H Q => (y = .non ∧ Q (.bl (!decide (x = .non))) H) ∨ rNotB x y H Q)) isntD := fun F H vs ds d Q s h e k => by
  unfold isntD at e
  split at e
  · cases e
    cases h with
    | cons h1 h2 => cases h2 with
      | cons h2 h3 =>
        cases h3; cases h2
        refine ⟨_, _, rfl, .inl ⟨rfl, ?_⟩⟩
        rw [h1.isNone]
        exact k _ fun _ => .bl
  · cases e
    cases h with
    | cons h1 h2 => cases h2 with
      | cons h2 h3 => cases h3; cases h2; cases h1; exact ⟨_, _, rfl, .inr ⟨_, _, rfl, rfl, k _ fun _ => .bl⟩⟩
  · cases e
/-- in, not in: a flat thing among flat things, a text in a text -/
def flatD : D → Bool
  | .non => true
  | .bl _ => true
  | .int _ => true
  | .str _ => true
  | _ => false
def flatEq : D → D → Bool
  | .non, .non => true
  | .bl a, .bl b => a == b
  | .bl a, .int b => (if a then 1 else 0) == b
  | .int a, .bl b => a == (if b then 1 else 0)
  | .int a, .int b => a == b
  | .str a, .str b => a == b
  | _, _ => false
def inSeq (x : D) (ds : List D) : Bool := ds.any fun y => flatEq y x
def inStr (i j : Str) : Bool := !(Builtin.Str.occurrences j i 0 j.length 1).isEmpty
def inB : D → D → Option Bool
  | x, .lst ds => if flatD x && ds.all flatD then some (inSeq x ds) else none
  | x, .tup _ ds => if flatD x && ds.all flatD then some (inSeq x ds) else none
  | .str i, .str j => some (inStr i j)
  | _, _ => none
def inD : List D → Option D
  | [a, b] => (inB a b).map .bl
  | _ => none
def notInD : List D → Option D
  | [a, b] => (inB a b).map fun k => .bl (!k)
  | _ => none
theorem flat_V {F : Hp} {v : V} {d : D} (h : Fz c F v d) (hf : flatD d = true) : flatV v = true := by
  cases h <;> first | rfl | (exfalso; exact absurd hf (by decide)) | cases hf
theorem flat_all {F : Hp} : ∀ {vs : List V} {ds : List D}, FzAll c F vs ds → ds.all flatD = true → vs.all flatV = true
  | _, _, .nil, _ => rfl
  | _, _, .cons h r, e => by
    rw [List.all_cons, Bool.and_eq_true] at e
    rw [List.all_cons, flat_V h e.1, flat_all r e.2]
    rfl
theorem flat_eq {F : Hp} {v u : V} {d e : D} (h : Fz c F v d) (g : Fz c F u e) : flatD d = true → flatD e = true → eqV v u = flatEq d e := fun h1 h2 => by
  cases h <;> cases g <;> first | rfl | cases h1 | cases h2
theorem flat_in {F : Hp} {v : V} {x : D} (hx : Fz c F v x) (fx : flatD x = true) : ∀ {vs : List V} {ds : List D}, FzAll c F vs ds → ds.all flatD = true → inV v vs = inSeq x ds
  | _, _, .nil, _ => rfl
  | _, _, .cons h r, e => by
    rw [List.all_cons, Bool.and_eq_true] at e
    have ih := flat_in hx fx r e.2
    unfold inV at ih ⊢
    unfold inSeq at ih ⊢
    rw [List.any_cons, List.any_cons, ih, flat_eq h hx e.1 fx]
theorem in_cases {H : Hp} {v u : V} {x y : D} {k : Bool} (hx : Fz c H v x) (hy : Fz c H u y) (e : inB x y = some k) :
    (∃ p xs, u = .ref p ∧ (SqL c.K H p xs ∨ SqT c.K H p xs) ∧ flatV v = true ∧ xs.all flatV = true ∧ inV v xs = k) ∨ ∃ i j, v = .str i ∧ u = .str j ∧ (!(Builtin.Str.occurrences j i 0 j.length 1).isEmpty) = k := by
  unfold inB at e
  split at e
  · split at e
    · rename_i hb
      cases e
      rw [Bool.and_eq_true] at hb
      cases hy with
      | lst hs ha => exact .inl ⟨_, _, rfl, .inl hs, flat_V hx hb.1, flat_all ha hb.2, flat_in hx hb.1 ha hb.2⟩
    · cases e
  · split at e
    · rename_i hb
      cases e
      rw [Bool.and_eq_true] at hb
      cases hy with
      | tup hs _ ha => exact .inl ⟨_, _, rfl, .inr hs, flat_V hx hb.1, flat_all ha hb.2, flat_in hx hb.1 ha hb.2⟩
    · cases e
  · cases e
    cases hx; cases hy
    exact .inr ⟨_, _, rfl, rfl, rfl⟩
  · cases e
theorem vop_in (hK : X.K = c.K) : VOp c (R2of (fun x y H Q => rIn X.K false x y H Q ∨ ∃ i j, x = .str i ∧ y = .str j ∧ Q (.bl (!(Builtin.Str.occurrences j i 0 j.length 1).isEmpty)) H)) inD := fun F H vs ds d Q s h e k => by
  rw [hK]
  unfold inD at e
  split at e
  · rename_i a b
    cases z : inB a b with
    | none => rw [z] at e; cases e
    | some q =>
      rw [z] at e
      cases e
      cases h with
      | cons h1 h2 => cases h2 with
        | cons h2 h3 =>
          cases h3
          rcases in_cases h1 h2 z with ⟨p, xs, rfl, h4, h5, h6, h7⟩ | ⟨i, j, rfl, rfl, h4⟩
          · refine ⟨_, _, rfl, .inl ⟨p, xs, rfl, h4, h5, h6, ?_⟩⟩
            rw [if_neg Bool.false_ne_true, h7]
            exact k _ fun _ => .bl
          · refine ⟨_, _, rfl, .inr ⟨i, j, rfl, rfl, ?_⟩⟩
            rw [h4]
            exact k _ fun _ => .bl
  · cases e
theorem vop_notIn (hK : X.K = c.K) : VOp c (R2of (fun x y H Q => rIn X.K true x y H Q ∨ ∃ i j, x = .str i ∧ y = .str j ∧ Q (.bl (!(!(Builtin.Str.occurrences j i 0 j.length 1).isEmpty))) H)) notInD := fun F H vs ds d Q s h e k => by
  rw [hK]
  unfold notInD at e
  split at e
  · rename_i a b
    cases z : inB a b with
    | none => rw [z] at e; cases e
    | some q =>
      rw [z] at e
      cases e
      cases h with
      | cons h1 h2 => cases h2 with
        | cons h2 h3 =>
          cases h3
          rcases in_cases h1 h2 z with ⟨p, xs, rfl, h4, h5, h6, h7⟩ | ⟨i, j, rfl, rfl, h4⟩
          · refine ⟨_, _, rfl, .inl ⟨p, xs, rfl, h4, h5, h6, ?_⟩⟩
            rw [if_pos rfl, h7]
            exact k _ fun _ => .bl
          · refine ⟨_, _, rfl, .inr ⟨i, j, rfl, rfl, ?_⟩⟩
            rw [h4]
            exact k _ fun _ => .bl
  · cases e
section
variable {mv : V} {W : WX} {a b : Expr} {f g : En → Out Rv} {pos : Pos}
theorem hu64 {k : Nat} (r : Room k X.A) : X.A.units + 64 < cLine := r.units
theorem de_eq {k : Nat} (hK : X.K = c.K) (r : Room k X.A) (ha : DE X c mv W a f) (hb : DE X c mv W b g) : DE X c mv W (.Compare a [.Eq] [b] pos) (eV eqD (two f g)) := de_cmp (op_eqTxt.or (op_eqD r.units)) (vop_eq hK) ha hb (nomark _)
theorem dt_eq {k : Nat} (hK : X.K = c.K) (r : Room k X.A) (ha : DE X c mv W a f) (hb : DE X c mv W b g) : DT X c mv W (.Compare a [.Eq] [b] pos) (tOf (eV eqD (two f g))) := dt_cmp (op_eqTxt.or (op_eqD r.units)) (vop_eq hK) ha hb (nomark _)
theorem de_ne {k : Nat} (hK : X.K = c.K) (r : Room k X.A) (ha : DE X c mv W a f) (hb : DE X c mv W b g) : DE X c mv W (.Compare a [.NotEq] [b] pos) (eV neD (two f g)) := de_cmp (op_neTxt.or (op_neD r.units)) (vop_ne hK) ha hb (nomark _)
theorem dt_ne {k : Nat} (hK : X.K = c.K) (r : Room k X.A) (ha : DE X c mv W a f) (hb : DE X c mv W b g) : DT X c mv W (.Compare a [.NotEq] [b] pos) (tOf (eV neD (two f g))) := dt_cmp (op_neTxt.or (op_neD r.units)) (vop_ne hK) ha hb (nomark _)
theorem de_lt (ha : DE X c mv W a f) (hb : DE X c mv W b g) : DE X c mv W (.Compare a [.Lt] [b] pos) (eV (cmpD fun i j => decide (i < j)) (two f g)) := de_cmp op_lt vop_cmp ha hb (nomark _)
theorem dt_lt (ha : DE X c mv W a f) (hb : DE X c mv W b g) : DT X c mv W (.Compare a [.Lt] [b] pos) (tOf (eV (cmpD fun i j => decide (i < j)) (two f g))) := dt_cmp op_lt vop_cmp ha hb (nomark _)
theorem de_le (ha : DE X c mv W a f) (hb : DE X c mv W b g) : DE X c mv W (.Compare a [.LtE] [b] pos) (eV (cmpD fun i j => decide (i ≤ j)) (two f g)) := de_cmp op_le vop_cmp ha hb (nomark _)
theorem dt_le (ha : DE X c mv W a f) (hb : DE X c mv W b g) : DT X c mv W (.Compare a [.LtE] [b] pos) (tOf (eV (cmpD fun i j => decide (i ≤ j)) (two f g))) := dt_cmp op_le vop_cmp ha hb (nomark _)
theorem de_gt (ha : DE X c mv W a f) (hb : DE X c mv W b g) : DE X c mv W (.Compare a [.Gt] [b] pos) (eV (cmpD fun i j => decide (i > j)) (two f g)) := de_cmp op_gt vop_cmp ha hb (nomark _)
theorem dt_gt (ha : DE X c mv W a f) (hb : DE X c mv W b g) : DT X c mv W (.Compare a [.Gt] [b] pos) (tOf (eV (cmpD fun i j => decide (i > j)) (two f g))) := dt_cmp op_gt vop_cmp ha hb (nomark _)
theorem de_ge (ha : DE X c mv W a f) (hb : DE X c mv W b g) : DE X c mv W (.Compare a [.GtE] [b] pos) (eV (cmpD fun i j => decide (i ≥ j)) (two f g)) := de_cmp op_ge vop_cmp ha hb (nomark _)
theorem dt_ge (ha : DE X c mv W a f) (hb : DE X c mv W b g) : DT X c mv W (.Compare a [.GtE] [b] pos) (tOf (eV (cmpD fun i j => decide (i ≥ j)) (two f g))) := dt_cmp op_ge vop_cmp ha hb (nomark _)
theorem de_is (ha : DE X c mv W a f) (hb : DE X c mv W b g) : DE X c mv W (.Compare a [.Is] [b] pos) (eV isD (two f g)) := de_cmp (op_isN.or op_isBl) vop_is ha hb (nomark _)
theorem dt_is (ha : DE X c mv W a f) (hb : DE X c mv W b g) : DT X c mv W (.Compare a [.Is] [b] pos) (tOf (eV isD (two f g))) := dt_cmp (op_isN.or op_isBl) vop_is ha hb (nomark _)
theorem de_isnt (ha : DE X c mv W a f) (hb : DE X c mv W b g) : DE X c mv W (.Compare a [.IsNot] [b] pos) (eV isntD (two f g)) := de_cmp (op_notN.or op_notBl) vop_isnt ha hb (nomark _)
theorem dt_isnt (ha : DE X c mv W a f) (hb : DE X c mv W b g) : DT X c mv W (.Compare a [.IsNot] [b] pos) (tOf (eV isntD (two f g))) := dt_cmp (op_notN.or op_notBl) vop_isnt ha hb (nomark _)
theorem de_in (hK : X.K = c.K) (ha : DE X c mv W a f) (hb : DE X c mv W b g) (hm : behindInMarks .In b = false := by rfl) : DE X c mv W (.Compare a [.In] [b] pos) (eV inD (two f g)) := de_cmp (op_in_seq.or op_in_str) (vop_in hK) ha hb hm
theorem dt_in (hK : X.K = c.K) (ha : DE X c mv W a f) (hb : DE X c mv W b g) (hm : behindInMarks .In b = false := by rfl) : DT X c mv W (.Compare a [.In] [b] pos) (tOf (eV inD (two f g))) := dt_cmp (op_in_seq.or op_in_str) (vop_in hK) ha hb hm
theorem de_notIn (hK : X.K = c.K) (ha : DE X c mv W a f) (hb : DE X c mv W b g) (hm : behindInMarks .NotIn b = false := by rfl) : DE X c mv W (.Compare a [.NotIn] [b] pos) (eV notInD (two f g)) := de_cmp (op_notIn_seq.or op_notIn_str) (vop_notIn hK) ha hb hm
theorem dt_notIn (hK : X.K = c.K) (ha : DE X c mv W a f) (hb : DE X c mv W b g) (hm : behindInMarks .NotIn b = false := by rfl) : DT X c mv W (.Compare a [.NotIn] [b] pos) (tOf (eV notInD (two f g))) := dt_cmp (op_notIn_seq.or op_notIn_str) (vop_notIn hK) ha hb hm
end
end
end DL

set_option Elab.async false
set_option linter.all false
set_option maxRecDepth 100000
set_option maxHeartbeats 2000000
/-! DL, part I: subscripts, built-ins, methods, stores. -/
namespace DL
open PySem L2 PySem.Spec PyProof.Rows

section
variable {X : Cx} {c : Cs} {mv : V} {W : WX}

/-! ### what a value is, as it may be looked into -/
def treeOf (e : En) : Rv → Option O
  | .sl i => e.at i
  | .me => some e.me
  | .tm o => some o
theorem tree_ok {F H : Hp} {fp fq : List Addr} {σ : L2.St} {e : En} {v : V} {r : Rv} {o : O} (E : EnvR c mv F H fp σ e) (h : RvR c mv F H σ fq v r) (l : treeOf e r = some o) : ∃ fo, Ow c F H fo v o := by
  obtain ⟨fm, fs, h1, h2, _, _⟩ := E.ex
  cases h with
  | tm h => cases l; exact ⟨_, h⟩
  | me => cases l; exact ⟨_, h1⟩
  | @sl i v hi =>
    have l' : e.at i = some o := l
    unfold En.at at l'
    cases q : e.sl[i]? with
    | none => rw [q] at l'; cases l'
    | some w =>
      rw [q] at l'
      cases w with
      | none => cases l'
      | some x =>
        cases x with
        | ow o' =>
          cases l'
          obtain ⟨v', fo, fr, g1, g2, _⟩ := h2.take q
          rw [hi] at g1; cases g1
          exact ⟨_, g2⟩
        | me =>
          cases l'
          have z := h2.atMe q
          rw [hi] at z; cases z
          exact ⟨_, h1⟩
theorem OwAll.getO {F H : Hp} : ∀ {fp : List Addr} {vs : List V} {os : List O} {i : Nat} {o : O}, OwAll c F H fp vs os → os[i]? = some o → ∃ v fo, vs[i]? = some v ∧ Ow c F H fo v o
  | _, _, _, _, _, .nil, e => by simp at e
  | _, _, _, 0, _, .cons h r z, e => by simp at e; subst e; exact ⟨_, _, rfl, h⟩
  | _, _, _, i + 1, _, .cons h r z, e => by
    obtain ⟨v, fo, h1, h2⟩ := OwAll.getO (i := i) r (by simpa using e)
    exact ⟨v, fo, by simpa using h1, h2⟩

/-! ### an item -/
def itemD : D → Int → Option D
  | .lst ds, i => atI ds i
  | .tup _ ds, i => atI ds i
  | .str z, i => if z.length ≤ most then (atI z.cps.toList i).map fun c => .str ⟨#[c]⟩ else none
  | _, _ => none
def eItem (f g : En → Out Rv) : En → Out Rv := fun e => (two f g e).bind fun rs e1 => match rs with
  | [r, .tm (.fz (.int i))] => match treeOf e1 r with
    | some (.lst os) => match atI os i with
      | some (.fz d) => .ok (.tm (.fz d)) e1
      | _ => .no
    | some (.fz d) => match itemD d i with
      | some x => .ok (.tm (.fz x)) e1
      | none => .no
    | _ => .no
  | _ => .no
theorem atI_map {α β : Type} {xs : List α} {ys : List β} {i : Int} {y : β} (hl : xs.length = ys.length) (h : atI ys i = some y) : ∃ j : Nat, ys[j]? = some y ∧ ∀ x, xs[j]? = some x → atI xs i = some x := by
  unfold atI at h
  cases q : ixN ys.length i with
  | none => rw [q] at h; cases h
  | some j =>
    rw [q] at h
    refine ⟨j, h, fun x hx => ?_⟩
    unfold atI
    rw [hl, q]
    exact hx
theorem rIx_out {K : PySem.W.Frag} {x y : V} {H : Hp} {Q : VK} (h : R2of (rIx K) [x, y] H Q) : rIx K x y H Q := h.out
theorem de_item {a b : Expr} {f g : En → Out Rv} {pos : Pos} (hK : X.K = c.K) (ha : DE X c mv W a f) (hb : DE X c mv W b g) (hs : PlainIx b := by intro _ _; rfl) : DE X c mv W (.Subscript a b pos) (eItem f g) :=
  pe_imp (pe_ix ix_seq ha hb hs) fun σ H Q h => two_ok (R := rIx X.K) h fun F H fp fq e v w rs s E rr d p => by
    rw [hK]
    split at p
    · rename_i r i
      cases rr with
      | @cons p1 q1 _ _ _ _ h1 h2 hd =>
        cases h2 with
        | cons h2 h3 _ =>
          cases h3
          obtain ⟨rfl, rfl⟩ := rv_int h2
          cases z : treeOf e r with
          | none => rw [z] at p; exact p.elim
          | some o =>
            rw [z] at p
            obtain ⟨fo, ho⟩ := tree_ok E h1 z
            cases o with
            | fz d' =>
              simp only at p
              cases z2 : itemD d' i with
              | none => rw [z2] at p; exact p.elim
              | some x =>
                rw [z2] at p
                have fin : ∀ u, Fz c F u x → Q u H := fun u hu => Po.fz s E hu (fun b hb => List.mem_append_left _ hb) p
                cases ho with
                | fz ho =>
                  cases ho with
                  | @lst a xs ds hs ha =>
                    obtain ⟨j, k1, k2⟩ := atI_map ha.length (show atI ds i = some x from z2)
                    obtain ⟨u, u1, u2⟩ := ha.get k1
                    exact .inl ⟨a, xs, i, u, rfl, rfl, s.sqL hs, k2 u u1, fin u u2⟩
                  | @tup a xs _ ds hs _ ha =>
                    obtain ⟨j, k1, k2⟩ := atI_map ha.length (show atI ds i = some x from z2)
                    obtain ⟨u, u1, u2⟩ := ha.get k1
                    exact .inr (.inl ⟨a, xs, i, u, rfl, rfl, s.sqT hs, k2 u u1, fin u u2⟩)
                  | @str zz =>
                    unfold itemD at z2
                    simp only at z2
                    split at z2
                    · rename_i hz
                      cases z3 : atI zz.cps.toList i with
                      | none => rw [z3] at z2; cases z2
                      | some cc =>
                        rw [z3] at z2
                        cases z2
                        exact .inr (.inr ⟨zz, i, cc, rfl, rfl, most_line hz, z3, fin _ .str⟩)
                    · cases z2
                  | _ => cases z2
            | lst os =>
              simp only at p
              cases z2 : atI os i with
              | none => rw [z2] at p; exact p.elim
              | some o2 =>
                rw [z2] at p
                cases o2 with
                | fz d' =>
                  cases ho with
                  | @lst a fp' xs os hH hF hn ha =>
                    obtain ⟨j, k1, k2⟩ := atI_map ha.length z2
                    obtain ⟨u, fu, u1, u2⟩ := ha.getO k1
                    cases u2 with
                    | fz u2 => exact .inl ⟨a, xs, i, u, rfl, rfl, SqL.of hH, k2 u u1, Po.fz s E u2 (fun b hb => List.mem_append_left _ hb) p⟩
                | _ => exact p.elim
            | _ => exact p.elim
    · exact p.elim

/-! ### slices -/
def DP (X : Cx) (c : Cs) (mv : V) (W : WX) (a : Option Expr) (f : En → Out (Option Int)) : Prop := PO X a (rd c mv (fun _ _ _ fq o a => fq = [] ∧ o = a) W f)
def pNone : En → Out (Option Int) := fun e => .ok none e
def pSome (f : En → Out Rv) : En → Out (Option Int) := fun e => (f e).bind fun r e1 => match r with
  | .tm (.fz (.int i)) => .ok (some i) e1
  | _ => .no
theorem dp_none : DP X c mv W none pNone := ⟨fun pins s σ H Q I ⟨F, fp, e, sb, E, p⟩ => (po_none (X := X)).run pins s σ H Q I (p F H fp [] none (by rw [List.append_nil]; exact Stp.refl sb) E ⟨rfl, rfl⟩ fun b hb => nomatch hb)⟩
theorem dp_some {a : Expr} {f : En → Out Rv} (h : DE X c mv W a f) : DP X c mv W (some a) (pSome f) := ⟨fun pins s σ H Q I ⟨F, fp, e, sb, E, p⟩ => (po_some h).run pins s σ H Q I (by
  refine ⟨F, fp, e, sb, E, Po.seq (R1 := rvR c mv) p fun r e1 F1 H1 f1 q1 v _ s1 E1 r1 d1 p1 => ?_⟩
  split at p1
  · rename_i i _
    obtain ⟨rfl, rfl⟩ := rv_int r1
    exact ⟨i, rfl, p1 F1 H1 f1 [] (some i) (by simpa using Stp.refl s1.fh) E1 ⟨rfl, rfl⟩ fun b hb => nomatch hb⟩
  · exact p1.elim)⟩
def cutL {α : Type} (xs : List α) (lo hi : Option Int) : List α := (xs.drop (HT.sIx xs.length 0 lo)).take (HT.sIx xs.length xs.length hi - HT.sIx xs.length 0 lo)
def sliceD : D → Option Int → Option Int → Option O
  | .lst ds, lo, hi => some (.lst ((cutL ds lo hi).map .fz))
  | .tup false ds, lo, hi => some (.fz (.tup false (cutL ds lo hi)))
  | .str z, lo, hi => if z.length ≤ most then some (.fz (.str (cutS z lo hi))) else none
  | _, _, _ => none
def eSlice (f : En → Out Rv) (lo hi : En → Out (Option Int)) : En → Out Rv := fun e => (f e).bind fun r e1 => match fix e1 r with
  | none => .no
  | some (d, e2) => (lo e2).bind fun l e3 => (hi e3).bind fun h e4 => match sliceD d l h with
    | none => .no
    | some o => .ok (.tm o) e4
def rSlD (K : PySem.W.Frag) : V → Option Int → Option Int → Hp → VK → Prop := fun x lo hi H Q => rSlL K x lo hi H Q ∨ rSlA K x lo hi H Q ∨ rSlS x lo hi H Q
theorem sl_D : L2.SlR X (rSlD X.K) := sl_list.or (sl_tupA.or sl_str)
theorem slice_ok {F H : Hp} {v : V} {d : D} {lo hi : Option Int} {o : O} {Q : VK} (hK : X.K = c.K) (s : Sub F H) (h : Fz c F v d) (e : sliceD d lo hi = some o) (k : ∀ F' H' fq v, Stp F H [] F' H' fq → Ow c F' H' fq v o → Q v H') : rSlD X.K v lo hi H Q := by
  rw [hK]
  cases h with
  | @lst a xs ds hs ha =>
    cases e
    refine .inl ⟨a, xs, rfl, s.sqL hs, new_lst s ?_ k⟩
    unfold cutV cutL
    rw [ha.length]
    exact (ha.drop _).take _
  | @tup a xs kk ds hs _ ha =>
    cases kk with
    | true => cases e
    | false =>
    cases e
    refine .inr (.inl ⟨a, xs, rfl, s.sqT hs, fun w => ?_, fun _ => new_tup s ?_ k⟩)
    · have : cutL ds lo hi = ds := by
        unfold cutL
        rw [← ha.length, w.1, w.2, ha.length, List.drop_zero, Nat.sub_zero, List.take_length]
      rw [this] at k
      exact k F H [] _ (Stp.refl s) (.fz (.tup hs noK ha))
    · unfold cutV cutL
      rw [ha.length]
      exact (ha.drop _).take _
  | @str z =>
    unfold sliceD at e
    simp only at e
    split at e
    · rename_i hz
      cases e
      exact .inr (.inr ⟨z, rfl, most_line hz, k F H [] _ (Stp.refl s) (.fz .str)⟩)
    · cases e
  | _ => cases e
theorem de_slice {a : Expr} {l h : Option Expr} {f : En → Out Rv} {fl fh : En → Out (Option Int)} {p2 pos : Pos} (hK : X.K = c.K) (ha : DE X c mv W a f) (hl : DP X c mv W l fl) (hh : DP X c mv W h fh) : DE X c mv W (.Subscript a (.Slice l h none p2) pos) (eSlice f fl fh) :=
  pe_imp (pe_slice sl_D ha hl hh) fun σ H Q hw => by
    obtain ⟨F, fp, e, s, E, p⟩ := hw
    refine ⟨F, fp, e, s, E, Po.seq (R1 := rvR c mv) p fun r e1 F1 H1 f1 q1 v _ s1 E1 r1 d1 p1 => ?_⟩
    cases z : fix e1 r with
    | none => rw [z] at p1; exact p1.elim
    | some y =>
      obtain ⟨d, e2⟩ := y
      rw [z] at p1
      simp only at p1
      obtain ⟨F2, f2, s2, k2, E2, m2⟩ := fix_ok s1.fh E1 r1 d1 z
      refine ⟨F2, f2, e2, s2.fh, E2, Po.seq (Po.step p1 s2) fun l' e3 F3 H3 f3 q3 lv _ s3 E3 r3 d3 p3 => ?_⟩
      obtain ⟨rfl, rfl⟩ := r3
      rw [List.append_nil] at p3
      refine ⟨F3, f3, e3, s3.fh, E3, Po.seq p3 fun h' e4 F4 H4 f4 q4 hv _ s4 E4 r4 d4 p4 => ?_⟩
      obtain ⟨rfl, rfl⟩ := r4
      rw [List.append_nil] at p4
      cases z4 : sliceD d lv hv with
      | none => rw [z4] at p4; exact p4.elim
      | some o =>
        rw [z4] at p4
        refine slice_ok hK s4.fh ((k2.mono s3.ff).mono s4.ff) z4 fun F5 H5 q5 u s5 h5 => ?_
        obtain ⟨s6, d6⟩ := s5.beside (fp := f4) E4.has
        exact p4 F5 H5 f4 q5 u s6 (E4.stp s5 fun b hb z => nomatch z) (.tm h5) d6

/-! ### built-ins -/
def lenD : List D → Option D
  | [.lst ds] => some (.int ds.length)
  | [.tup _ ds] => some (.int ds.length)
  | [.str z] => if z.length ≤ most then some (.int z.length) else none
  | _ => none
def rLen (K : PySem.W.Frag) : List V → Hp → VK → Prop := fun xs H Q => (∃ p ys, xs = [.ref p] ∧ (SqL K H p ys ∨ SqT K H p ys) ∧ Q (.int ys.length) H) ∨ ∃ z, xs = [.str z] ∧ z.length ≤ sizeLine ∧ Q (.int z.length) H
theorem call_lenX : CallR X (.builtin "len") (rLen X.K) := call_len_seq.or call_len_str
theorem vop_len (hK : X.K = c.K) : VOp c (rLen X.K) lenD := fun F H vs ds d Q s h e k => by
  rw [hK]
  unfold lenD at e
  split at e
  · cases e
    cases h with
    | cons h1 h2 =>
      cases h2
      cases h1 with
      | lst hs ha => exact .inl ⟨_, _, rfl, .inl hs, by rw [ha.length]; exact k _ fun _ => .int⟩
  · cases e
    cases h with
    | cons h1 h2 =>
      cases h2
      cases h1 with
      | tup hs _ ha => exact .inl ⟨_, _, rfl, .inr hs, by rw [ha.length]; exact k _ fun _ => .int⟩
  · split at e
    · rename_i hz
      cases e
      cases h with
      | cons h1 h2 =>
        cases h2
        cases h1
        exact .inr ⟨_, rfl, most_line hz, k _ fun _ => .int⟩
    · cases e
  · cases e
def listD : List D → Option O
  | [.lst ds] => some (.lst (ds.map .fz))
  | [.tup _ ds] => some (.lst (ds.map .fz))
  | _ => none
theorem fop_list (hK : X.K = c.K) : FOp c (fun xs H Q => ∃ p ys, xs = [.ref p] ∧ (SqL X.K H p ys ∨ SqT X.K H p ys) ∧ ∀ l, H l = none → Q (.ref l) (upd H l (.lst ys))) listD := fun F H vs ds o Q s h e k => by
  rw [hK]
  unfold listD at e
  split at e
  · cases e
    cases h with
    | cons h1 h2 =>
      cases h2
      cases h1 with
      | lst hs ha => exact ⟨_, _, rfl, .inl (s.sqL hs), new_lst s ha k⟩
  · cases e
    cases h with
    | cons h1 h2 =>
      cases h2
      cases h1 with
      | tup hs _ ha => exact ⟨_, _, rfl, .inr (s.sqT hs), new_lst s ha k⟩
  · cases e
def tupleD : List D → Option O
  | [.lst ds] => some (.fz (.tup false ds))
  | [.tup k ds] => some (.fz (.tup k ds))
  | _ => none
theorem fop_tuple (hK : X.K = c.K) : FOp c (fun xs H Q => ∃ p ys, xs = [.ref p] ∧ ((SqL X.K H p ys ∧ ∀ l, H l = none → Q (.ref l) (upd H l (.tup ys))) ∨ (SqT X.K H p ys ∧ Q (.ref p) H))) tupleD := fun F H vs ds o Q s h e k => by
  rw [hK]
  unfold tupleD at e
  split at e
  · cases e
    cases h with
    | cons h1 h2 =>
      cases h2
      cases h1 with
      | lst hs ha => exact ⟨_, _, rfl, .inl ⟨s.sqL hs, new_tup s ha k⟩⟩
  · cases e
    cases h with
    | cons h1 h2 =>
      cases h2
      cases h1 with
      | tup hs hk ha => exact ⟨_, _, rfl, .inr ⟨s.sqT hs, k F H [] _ (Stp.refl s) (.fz (.tup hs hk ha))⟩⟩
  · cases e
def intD : List D → Option D
  | [.int i] => some (.int i)
  | [.bl b] => some (.int (if b then 1 else 0))
  | _ => none
theorem vop_int : VOp c (fun xs H Q => (∃ i, xs = [.int i] ∧ Q (.int i) H) ∨ ∃ k, xs = [.bl k] ∧ Q (.int (if k then 1 else 0)) H) intD := fun F H vs ds d Q s h e k => by
  unfold intD at e
  split at e
  · cases e
    cases h with
    | cons h1 h2 => cases h2; cases h1; exact .inl ⟨_, rfl, k _ fun _ => .int⟩
  · cases e
    cases h with
    | cons h1 h2 => cases h2; cases h1; exact .inr ⟨_, rfl, k _ fun _ => .int⟩
  · cases e
def minD : List D → Option D
  | [.int i, .int j] => some (.int (if j < i then j else i))
  | _ => none
def maxD : List D → Option D
  | [.int i, .int j] => some (.int (if j > i then j else i))
  | _ => none
def absD : List D → Option D
  | [.int i] => some (.int (if i < 0 then -i else i))
  | _ => none
theorem vop_min : VOp c (fun xs H Q => ∃ i j, xs = [.int i, .int j] ∧ Q (.int (if j < i then j else i)) H) minD := fun F H vs ds d Q s h e k => by
  unfold minD at e
  split at e
  · cases e
    cases two_int h
    exact ⟨_, _, rfl, k _ fun _ => .int⟩
  · cases e
theorem vop_max : VOp c (fun xs H Q => ∃ i j, xs = [.int i, .int j] ∧ Q (.int (if j > i then j else i)) H) maxD := fun F H vs ds d Q s h e k => by
  unfold maxD at e
  split at e
  · cases e
    cases two_int h
    exact ⟨_, _, rfl, k _ fun _ => .int⟩
  · cases e
theorem vop_abs : VOp c (fun xs H Q => ∃ i, xs = [.int i] ∧ Q (.int (if i < 0 then -i else i)) H) absD := fun F H vs ds d Q s h e k => by
  unfold absD at e
  split at e
  · cases e
    cases h with
    | cons h1 h2 => cases h2; cases h1; exact ⟨_, rfl, k _ fun _ => .int⟩
  · cases e
/-- repr of scalars, lists and tuples -/
def showOk (d : D) : Bool := d.plain && d.pd.showable && decide (d.pd.depth ≤ 64) && decide (d.pd.shown.length ≤ most)
def reprD : List D → Option D
  | [d] => if showOk d then some (.str d.pd.shown) else none
  | _ => none
def rRepr (K : PySem.W.Frag) : List V → Hp → VK → Prop := fun xs H Q => ∃ x d, xs = [x] ∧ Dp K H x d ∧ d.showable = true ∧ d.hasDict = false ∧ d.depth ≤ 64 ∧ d.shown.length ≤ sizeLine ∧ Q (.str d.shown) H
theorem units_line {k : Nat} (r : Room k X.A) {n : Nat} (h : n ≤ 64) : X.A.units + (n + 1) < cLine := by
  have := r.un
  omega
theorem call_repr {k : Nat} (g : Quiet X.A) (r : Room k X.A) : CallR X (.builtin "repr") (rRepr X.K) := by
  intro pins s σ H xs us Q I rv h
  obtain ⟨x, d, rfl, hd, h1, h2, h3, h4, q⟩ := h
  obtain ⟨u, rfl, ru⟩ := vals1 rv
  have fin : ∀ (t : Tok) (tk : Nat), EP X pins σ Q (.str d.shown t) { s with toks := tk } := fun t tk => ⟨.str d.shown, H, I.tok tk, ⟨_, rfl⟩, q⟩
  cases x with
  | non =>
    cases ru; cases hd
    exact PySem.P.repr_of_none (fin _ _)
  | bl b =>
    cases ru; cases hd
    exact PySem.P.repr_of_bool (fin _ _)
  | int i =>
    obtain ⟨t, rfl⟩ := ru
    cases hd
    exact PySem.P.repr_of_int (by simpa [PyData.showable] using h1) (fin _ _)
  | str z =>
    obtain ⟨t, rfl⟩ := ru
    cases hd
    exact PySem.P.repr_of_str (fin _ _) (by simpa [PyData.shown] using h4)
  | ref a =>
    obtain ⟨as, rr⟩ := Dp.reads I d _ _ hd ru
    cases ru
    exact repr_of_reads' rr h1 (PyData.noDict_hsm h2) g (units_line r h3) (fun _ _ e => e) (fun h' u tk kp => ⟨.str d.shown, H, I.kept (t' := tk) kp, ⟨_, rfl⟩, q⟩) h4
  | _ => cases hd
mutual
theorem plain_noDict : ∀ d : D, d.plain = true → d.pd.hasDict = false
  | .non, _ => rfl
  | .bl _, _ => rfl
  | .int _, _ => rfl
  | .str _, _ => rfl
  | .tup _ ds, h => by
    show PyData.hasDictAll (pds ds) = false
    exact plains_noDict ds h
  | .lst ds, h => by
    show PyData.hasDictAll (pds ds) = false
    exact plains_noDict ds h
theorem plains_noDict : ∀ ds : List D, plains ds = true → PyData.hasDictAll (pds ds) = false
  | [], _ => rfl
  | d :: ds, h => by
    unfold plains at h
    rw [Bool.and_eq_true] at h
    show (d.pd.hasDict || PyData.hasDictAll (pds ds)) = false
    rw [plain_noDict d h.1, plains_noDict ds h.2]
    rfl
end
theorem vop_repr (hK : X.K = c.K) : VOp c (rRepr X.K) reprD := fun F H vs ds d Q s h e k => by
  rw [hK]
  unfold reprD at e
  split at e
  · split at e
    · rename_i d0 hb
      cases e
      simp only [showOk, Bool.and_eq_true, decide_eq_true_eq] at hb
      obtain ⟨⟨⟨h1, h2⟩, h3⟩, h4⟩ := hb
      cases h with
      | cons g1 g2 =>
        cases g2
        exact ⟨_, _, rfl, g1.dp h1, h2, plain_noDict _ h1, h3, most_line h4, k _ fun _ => .str⟩
    · cases e
  · cases e
section
variable {a b : Expr} {f : En → Out (List Rv)} {p pos : Pos}
theorem de_len (hK : X.K = c.K) (hm : X.mg "len" = none) (hg : Gl X "len") (ha : DA X c mv W [a] f) (he : starEach [a] X.env = (false, eval a X.env) :: starEach [] X.env := by rfl) : DE X c mv W (.Call (.Name "len" p) [a] [] pos) (eV lenD f) :=
  de_callV call_lenX (vop_len hK) hg hm PySem.boot_len ha (he := he)
theorem de_repr {k : Nat} (hK : X.K = c.K) (g : Quiet X.A) (r : Room k X.A) (hm : X.mg "repr" = none) (hg : Gl X "repr") (ha : DA X c mv W [a] f) (he : starEach [a] X.env = (false, eval a X.env) :: starEach [] X.env := by rfl) : DE X c mv W (.Call (.Name "repr" p) [a] [] pos) (eV reprD f) :=
  de_callV (call_repr g r) (vop_repr hK) hg hm (by decide +kernel) ha (he := he)
theorem de_list (hK : X.K = c.K) (hm : X.mg "list" = none) (hg : Gl X "list") (ha : DA X c mv W [a] f) (he : starEach [a] X.env = (false, eval a X.env) :: starEach [] X.env := by rfl) : DE X c mv W (.Call (.Name "list" p) [a] [] pos) (eF listD f) :=
  de_typeF call_list_of (fop_list hK) hg hm (by decide +kernel) ha (he := he)
theorem de_tuple (hK : X.K = c.K) (hm : X.mg "tuple" = none) (hg : Gl X "tuple") (ha : DA X c mv W [a] f) (he : starEach [a] X.env = (false, eval a X.env) :: starEach [] X.env := by rfl) : DE X c mv W (.Call (.Name "tuple" p) [a] [] pos) (eF tupleD f) :=
  de_typeF call_tuple_of (fop_tuple hK) hg hm (by decide +kernel) ha (he := he)
theorem de_intB (hm : X.mg "int" = none) (hg : Gl X "int") (ha : DA X c mv W [a] f) (he : starEach [a] X.env = (false, eval a X.env) :: starEach [] X.env := by rfl) : DE X c mv W (.Call (.Name "int" p) [a] [] pos) (eV intD f) :=
  de_typeV call_int1 vop_int hg hm (by decide +kernel) ha (he := he)
theorem de_abs (hm : X.mg "abs" = none) (hg : Gl X "abs") (ha : DA X c mv W [a] f) (he : starEach [a] X.env = (false, eval a X.env) :: starEach [] X.env := by rfl) : DE X c mv W (.Call (.Name "abs" p) [a] [] pos) (eV absD f) :=
  de_callV call_abs vop_abs hg hm (by decide +kernel) ha (he := he)
theorem de_min (hc : X.calm = true) (hm : X.mg "min" = none) (hg : Gl X "min") (ha : DA X c mv W [a, b] f) (he : starEach [a, b] X.env = (false, eval a X.env) :: starEach [b] X.env := by rfl) (hpl : (backTo pos (starEach [b] X.env)).any (·.1) = false := by rfl) : DE X c mv W (.Call (.Name "min" p) [a, b] [] pos) (eV minD f) :=
  de_callV (call_min2 hc) vop_min hg hm (by decide +kernel) ha (he := he) (hpl := hpl)
theorem de_max (hc : X.calm = true) (hm : X.mg "max" = none) (hg : Gl X "max") (ha : DA X c mv W [a, b] f) (he : starEach [a, b] X.env = (false, eval a X.env) :: starEach [b] X.env := by rfl) (hpl : (backTo pos (starEach [b] X.env)).any (·.1) = false := by rfl) : DE X c mv W (.Call (.Name "max" p) [a, b] [] pos) (eV maxD f) :=
  de_callV (call_max2 hc) vop_max hg hm (by decide +kernel) ha (he := he) (hpl := hpl)
end

/-! ### text methods: the receiver a text -/
def strsOf : List D → Option (List Str)
  | [] => some []
  | .str x :: ds => (strsOf ds).map (x :: ·)
  | _ :: _ => none
def joinS (a : Str) : D → Option D
  | .lst ds => match strsOf ds with
    | none => none
    | some ys => if (ys.map (·.length)).sum + ys.length * a.length ≤ most then some (.str (Txt.join a ys)) else none
  | .tup _ ds => match strsOf ds with
    | none => none
    | some ys => if (ys.map (·.length)).sum + ys.length * a.length ≤ most then some (.str (Txt.join a ys)) else none
  | _ => none
def eM1 (φ : Str → D → Option D) (f g : En → Out Rv) : En → Out Rv := fun e => (f e).bind fun r e1 => match r with
  | .tm (.fz (.str z)) => (g e1).bind fun r2 e2 => match look e2 r2 with
    | none => .no
    | some d => match φ z d with
      | none => .no
      | some x => .ok (.tm (.fz x)) e2
  | _ => .no
theorem rv_str {F H : Hp} {σ : L2.St} {fq : List Addr} {v : V} {z : Str} (h : RvR c mv F H σ fq v (.tm (.fz (.str z)))) : v = .str z ∧ fq = [] := by
  cases h with
  | tm h => cases h with
    | fz h => cases h; exact ⟨rfl, rfl⟩
theorem m1_ok {f g : En → Out Rv} {φ : Str → D → Option D} {r : V → List V → Hp → VK → Prop} {σ : L2.St} {H : Hp} {Q : VK} (h : rd c mv (rvR c mv) W (eM1 φ f g) σ H Q)
    (k : ∀ F H v z d x, Sub F H → Fz c H v d → φ z d = some x → (∀ u, (∀ G, Fz c G u x) → Q u H) → r (.str z) [v] H Q) : tM1 r (rd c mv (rvR c mv) W f) (rd c mv (rvR c mv) W g) σ H Q := by
  obtain ⟨F, fp, e, s, E, p⟩ := h
  refine ⟨F, fp, e, s, E, Po.seq (R1 := rvR c mv) p fun a e1 F1 H1 f1 q1 v _ s1 E1 r1 d1 p1 => ?_⟩
  split at p1
  · rename_i z _
    obtain ⟨rfl, rfl⟩ := rv_str r1
    rw [List.append_nil] at p1
    refine ⟨⟨z, rfl⟩, F1, f1, e1, s1.fh, E1, Po.seq (R1 := rvR c mv) p1 fun b e2 F2 H2 f2 q2 w _ s2 E2 r2 d2 p2 => ?_⟩
    cases z2 : look e2 b with
    | none => rw [z2] at p2; exact p2.elim
    | some d =>
      rw [z2] at p2
      simp only at p2
      cases z3 : φ z d with
      | none => rw [z3] at p2; exact p2.elim
      | some x =>
        rw [z3] at p2
        exact k F2 H2 w z d x s2.fh (look_ok s2.fh E2 r2 z2) z3 fun u hu => Po.fz s2.fh E2 (hu F2) (fun b hb => List.mem_append_left _ hb) p2
  · exact p1.elim
theorem strs_of {F : Hp} : ∀ {vs : List V} {ds : List D} {ys : List Str}, FzAll c F vs ds → strsOf ds = some ys → vs = ys.map V.str
  | _, _, _, .nil, e => by cases e; rfl
  | _, d :: ds, ys, .cons h r, e => by
    cases d with
    | str x =>
      cases h
      unfold strsOf at e
      cases q : strsOf ds with
      | none => rw [q] at e; cases e
      | some zs =>
        rw [q] at e
        cases e
        rw [strs_of r q]
        rfl
    | _ => cases e
theorem de_join {o a : Expr} {f g : En → Out Rv} {apos pos : Pos} (hK : X.K = c.K) (ho : DE X c mv W o f) (ha : DE X c mv W a g) (hs : starEach [a] X.env = [(false, eval a X.env)] := by rfl) (hbase : attributeBase o "join" X.env (eval o X.env) = eval o X.env := by rfl) (hline : (apos.endLine == pos.line) = true := by rfl) :
    DE X c mv W (.Call (.Attribute o "join" apos) [a] [] pos) (eM1 joinS f g) :=
  pe_imp (pe_join ho ha hs hbase hline) fun σ H Q h => m1_ok h fun F H v z d x s hv e k => by
    rw [hK]
    unfold joinS at e
    split at e
    · rename_i ds
      split at e
      · cases e
      · rename_i ys hys
        split at e
        · rename_i hz
          cases e
          cases hv with
          | lst hs ha =>
            have := strs_of ha hys
            subst this
            exact ⟨z, _, ys, rfl, rfl, .inl hs, Nat.le_trans hz (by decide), k _ fun _ => .str⟩
        · cases e
    · rename_i ds
      split at e
      · cases e
      · rename_i ys hys
        split at e
        · rename_i hz
          cases e
          cases hv with
          | tup hs _ ha =>
            have := strs_of ha hys
            subst this
            exact ⟨z, _, ys, rfl, rfl, .inr hs, Nat.le_trans hz (by decide), k _ fun _ => .str⟩
        · cases e
    · cases e
end
end DL

set_option Elab.async false
set_option linter.all false
set_option maxRecDepth 100000
set_option maxHeartbeats 2000000
/-! DL, part J: what is owned changes: append, stores in lists and dicts. -/
namespace DL
open PySem L2 PySem.Spec PyProof.Rows

section
variable {X : Cx} {c : Cs} {mv : V} {W : WX}
/-- the things of a slot, changed at its own place -/
theorem chg_ok {F H : Hp} {fp fo fr : List Addr} {σ : L2.St} {e : En} {i : Nat} {a : Addr} {ho : HO} {o : O} {D : Ends} {v : V} (s : Sub F H) (hv : σ[i]? = some (some v)) (E : EnvR c mv F H fr σ (e.hole i)) (hF : F a = none) (hH : H a ≠ none)
    (na : a ∉ fr) (hno : ∀ b ∈ fo, b ∉ fr) (ho' : Ow c F (upd H a ho) (a :: fo) v o) (hall : ∀ b, b ∈ fr ∨ b = a ∨ b ∈ fo → b ∈ fp) (p : PoS c mv W F H fp (.nx (e.put i o)) D) : D.nx σ (upd H a ho) := by
  have ap : a ∈ fp := hall a (.inr (.inl rfl))
  have st : Stp F H fp F (upd H a ho) fp := Stp.chg s ap hF
  have st1 : Stp F H [a] F (upd H a ho) [a] := Stp.chg s (List.mem_singleton.mpr rfl) hF
  have E1 : EnvR c mv F (upd H a ho) fr σ (e.hole i) := E.stp st1 fun b hb z => by
    rw [List.mem_singleton] at z; subst z; exact na hb
  obtain ⟨f2, E2, m2⟩ := E1.back ho' (fun b hb z => by
    rcases List.mem_cons.mp hb with h | h
    · subst h; exact na z
    · exact hno b h z) hv
  refine p F _ f2 σ (st.part (fun _ h => h) fun b hb => ?_) E2
  rcases List.mem_append.mp (m2 b hb) with h | h
  · exact hall b (.inl h)
  · exact hall b (.inr (List.mem_cons.mp h))

/-! ### append -/
def isLst (e : En) (i : Nat) : Bool := match e.sl[i]? with
  | some (some (.ow (.lst _))) => true
  | _ => false
def sAppend (i : Nat) (f : En → Out Rv) : SS := fun e => if isLst e i then (f e).so fun r e1 => match own e1 r with
    | none => .no
    | some (o, e2) => match e2.sl[i]? with
      | some (some (.ow (.lst os))) => if os.length < 1000000 then .nx (e2.put i (.lst (os ++ [o]))) else .no
      | _ => .no
  else .no
theorem ds_append {i : Nat} {x : Str} {a : Expr} {f : En → Out Rv} {px apos cpos pos : Pos} (hK : X.K = c.K) (hN : X.N[i]? = some x) (hv : Vis X.env.scope x) (ha : DE X c mv W a f) (hd : (x == ("__debug__" : Str)) = false := by decide)
    (hcd : (x == ("__classdict__" : Str)) = false := by decide)
    (hbase : attributeBase (.Name x px) "append" X.env (eval (.Name x px) X.env) = eval (.Name x px) X.env := by rfl)
    (hfew : ((backTo cpos (starEach [a] X.env)).all (fun x => !x.1) && (backToKw cpos (keywordEach [] X.env)).all (fun x => x.1.isSome)
      && decide (([a] : List Expr).length + ([] : List Keyword).length + (if ([] : List Keyword).isEmpty then 0 else 1) < 30)) = true := by rfl)
    (hline : (apos.endLine == cpos.line) = true := by rfl) (hs : starEach [a] X.env = (false, eval a X.env) :: starEach [] X.env := by rfl)
    (hsw : swapsWith (.Call (.Attribute (.Name x px) "append" apos) [a] [] cpos) none pos.line X.env = pure false := by rfl) :
    DS X c mv W (.Expr (.Call (.Attribute (.Name x px) "append" apos) [a] [] cpos) pos) (sAppend i f) := by
  refine ps_imp (ps_expr (pe_bm PySem.F.plainAttrs_list PySem.F.slot_list_append PySem.F.type_list_append mt_append (pe_var hN hv hd hcd) (pa_cons ha pa_nil hs) hbase hfew hline hs) hsw) fun D σ H h => ?_
  obtain ⟨F, fp, e, s, E, p⟩ := h
  unfold sAppend at p
  split at p
  · rename_i hl
    -- the receiver is a list
    cases q : e.sl[i]? with
    | none => unfold isLst at hl; rw [q] at hl; cases hl
    | some w =>
      cases w with
      | none => unfold isLst at hl; rw [q] at hl; cases hl
      | some sx =>
        cases sx with
        | me => unfold isLst at hl; rw [q] at hl; cases hl
        | ow ol =>
          cases ol with
          | lst os0 =>
            obtain ⟨v, fo, fr, hv0, ho0, _⟩ := E.take q
            cases ho0 with
            | @lst l fl xs _ hH hF hn hall =>
              refine ⟨_, hv0, .inl ⟨rfl, xs, by rw [hK]; exact SqL.of hH⟩, ?_⟩
              show rd c mv (rvR c mv) W f σ H _
              refine then_ok (R := rvR c mv) (c := c) (mv := mv) (W := W) (D := D) ⟨F, fp, e, s, E, p⟩ fun F1 H1 f1 q1 e1 y r s1 E1 r1 d1 p1 => ?_
              cases z : own e1 r with
              | none => rw [z] at p1; exact p1.elim
              | some yy =>
                obtain ⟨o, e2⟩ := yy
                rw [z] at p1
                obtain ⟨F2, f2, q2, s2, k2, E2, d2, m2, n2⟩ := own_ok s1 E1 r1 d1 z
                simp only at p1
                split at p1
                · rename_i os hq2
                  split at p1
                  · rename_i hsz
                    obtain ⟨v', fo2, fr2, hv2, ho2, E3, d3, g3⟩ := E2.take hq2
                    rw [hv0] at hv2; cases hv2
                    cases ho2 with
                    | @lst l2 fl2 xs2 _ hH2 hF2 hn2 hall2 =>
                      refine ⟨l, xs2, y, rfl, rfl, hH2, by rw [hall2.length]; exact Nat.lt_of_lt_of_le hsz (by decide), ?_⟩
                      have na : l ∉ q2 := fun z => d2 l z ((g3 l).mpr (.inl List.mem_cons_self))
                      have st1 : Stp F2 H1 [l] F2 (upd H1 l (.lst (xs2 ++ [y]))) [l] := Stp.chg s2.fh (List.mem_singleton.mpr rfl) hF2
                      have kk : OwAll c F2 H1 (fl2 ++ (q2 ++ [])) (xs2 ++ [y]) (os ++ [o]) := hall2.append (.cons k2 .nil fun b hb z => nomatch z) fun b hb z => d2 b (by simpa using z) ((g3 b).mpr (.inl (List.mem_cons_of_mem _ hb)))
                      rw [List.append_nil] at kk
                      have nl : ∀ b ∈ fl2 ++ q2, b ∉ [l] := fun b hb z => by
                        rw [List.mem_singleton] at z; subst z
                        rcases List.mem_append.mp hb with h | h
                        · exact hn2 h
                        · exact na h
                      refine chg_ok (fp := f2 ++ q2) (fo := fl2 ++ q2) s2.fh hv0 E3 hF2 (by rw [hH2]; intro q; cases q) (d3 l List.mem_cons_self) (fun b hb z => ?_) (.lst upd_same hF2 (fun z => nl l z (List.mem_singleton.mpr rfl)) (st1.owAll kk nl)) (fun b hb => ?_) (PoS.step p1 s2)
                      · rcases List.mem_append.mp hb with h | h
                        · exact d3 b (List.mem_cons_of_mem _ h) z
                        · exact d2 b h ((g3 b).mpr (.inr z))
                      · rcases hb with h | h | h
                        · exact List.mem_append_left _ ((g3 b).mpr (.inr h))
                        · subst h; exact List.mem_append_left _ ((g3 _).mpr (.inl List.mem_cons_self))
                        · rcases List.mem_append.mp h with h | h
                          · exact List.mem_append_left _ ((g3 b).mpr (.inl (List.mem_cons_of_mem _ h)))
                          · exact List.mem_append_right _ h
                  · exact p1.elim
                · exact p1.elim
          | _ => unfold isLst at hl; rw [q] at hl; cases hl
  · exact p.elim

/-! ### xs[i] = v -/
theorem OwAll.setFz {F H : Hp} {v : V} {d : D} (h : Fz c F v d) : ∀ {fp : List Addr} {vs : List V} {os : List O} (j : Nat), OwAll c F H fp vs os → ∃ fp', OwAll c F H fp' (vs.set j v) (os.set j (.fz d)) ∧ ∀ b ∈ fp', b ∈ fp
  | _, _, _, _, .nil => ⟨[], .nil, fun b hb => nomatch hb⟩
  | _, _, _, 0, .cons (fq := fq) _ r z => ⟨[] ++ fq, .cons (.fz h) r (fun b hb => nomatch hb), fun b hb => List.mem_append_right _ (by simpa using hb)⟩
  | _, _, _, j + 1, .cons (fp := f1) h1 r z => by
    obtain ⟨f2, k, m⟩ := OwAll.setFz h j r
    exact ⟨f1 ++ f2, .cons h1 k (fun b hb q => z b hb (m b q)), fun b hb => (List.mem_append.mp hb).elim (List.mem_append_left _) fun q => List.mem_append_right _ (m b q)⟩
def sSetI (i : Nat) (fv fi : En → Out Rv) : SS := fun e => (fv e).so fun r e1 => if isLst e1 i then (fi e1).so fun r2 e2 => match r2 with
    | .tm (.fz (.int k)) => match fix e2 r with
      | none => .no
      | some (d, e3) => match e3.sl[i]? with
        | some (some (.ow (.lst os))) => match ixN os.length k with
          | none => .no
          | some j => .nx (e3.put i (.lst (os.set j (.fz d))))
        | _ => .no
    | _ => .no
  else .no
theorem isLst_at {F H : Hp} {fp : List Addr} {σ : L2.St} {e : En} {i : Nat} (E : EnvR c mv F H fp σ e) (h : isLst e i = true) : ∃ v, σ[i]? = some (some v) ∧ ∃ l xs, v = .ref l ∧ H l = some (.lst xs) := by
  unfold isLst at h
  split at h
  · rename_i os q
    obtain ⟨v, fo, fr, hv, ho, _⟩ := E.take q
    cases ho with
    | @lst l fl xs _ hH hF hn hall => exact ⟨_, hv, l, xs, rfl, hH⟩
  · cases h
/-- the second of two expressions of a statement -/
theorem then2_ok {R : Rel Rv V} {f : En → Out Rv} {k : Rv → En → SO} {F H : Hp} {fp fq : List Addr} {e : En} {σ : L2.St} {D : Ends} {T : V → Hp → Prop} (s : Sub F H) (E : EnvR c mv F H fp σ e) (hq : ∀ b ∈ fq, F b = none ∧ H b ≠ none)
    (p : PoS c mv W F H (fp ++ fq) ((f e).so k) D)
    (hk : ∀ F1 H1 f1 q1 e1 v a, Stp F H fp F1 H1 (f1 ++ q1) → EnvR c mv F1 H1 f1 σ e1 → R F1 H1 σ q1 v a → (∀ b ∈ q1, b ∉ f1) → PoS c mv W F1 H1 ((f1 ++ q1) ++ fq) (k a e1) D → T v H1) : rd c mv R W f σ H T := by
  refine ⟨F, fp, e, s, E, ?_⟩
  cases z : f e with
  | no => rw [z] at p; exact p
  | ex x e1 =>
    rw [z] at p
    exact fun F1 H1 f1 cls d st E1 xr => p F1 H1 f1 σ cls d (st.part (fun b => List.mem_append_left _) fun _ h => h) E1 xr
  | ok a e1 =>
    rw [z] at p
    exact fun F1 H1 f1 q1 v st E1 r1 d1 => hk F1 H1 f1 q1 e1 v a st E1 r1 d1 (PoS.step p (st.more fun b hb => (hq b hb).2))
theorem ds_setI {i : Nat} {x : Str} {a b : Expr} {fv fi : En → Out Rv} {px pos' pos : Pos} (hN : X.N[i]? = some x) (hv : Vis X.env.scope x) (ha : DE X c mv W a fv) (hb : DE X c mv W b fi) (hd : (x == ("__debug__" : Str)) = false := by decide)
    (hcd : (x == ("__classdict__" : Str)) = false := by decide)
    (hsub : ∀ v, assign (.Subscript (.Name x px) b pos') X.env v = (do
      let ov ← holding [v] (eval (.Name x px) X.env)
      let iv ← holding [v, ov] (eval b X.env)
      standAt pos'
      holding [v, ov, iv] (setItem ov iv v)
      release [v, ov, iv] []) := by intro _; rfl)
    (hs : swapsWithSole [.Subscript (.Name x px) b pos'] a pos.line X.env = pure false := by rfl) (hw : swappedStores [.Subscript (.Name x px) b pos'] a X.env = pure none := by rfl)
    (h1 : (assignEach [.Subscript (.Name x px) b pos'] X.env).map (·.2) = [assign (.Subscript (.Name x px) b pos') X.env] := by rfl) :
    DS X c mv W (.Assign [.Subscript (.Name x px) b pos'] a pos) (sSetI i fv fi) := by
  refine ps_imp (ps_asg ha (pg_sub (pe_var hN hv hd hcd) hb set_list hsub) hs hw h1) fun D σ H h => ?_
  refine then_ok (R := rvR c mv) (c := c) (mv := mv) (W := W) (D := D) h fun F1 H1 f1 q1 e1 y r s1 E1 r1 d1 p1 => ?_
  split at p1
  · rename_i hl
    obtain ⟨w, hσ, _⟩ := isLst_at E1 hl
    refine ⟨w, hσ, ?_⟩
    show rd c mv (rvR c mv) W fi σ H1 _
    refine then2_ok (R := rvR c mv) s1 E1 r1.has p1 fun F2 H2 f2 q2 e2 u r2 s2 E2 r2' d2 p2 => ?_
    split at p2
    · rename_i k
      obtain ⟨rfl, rfl⟩ := rv_int r2'
      rw [List.append_nil] at p2 s2
      have ap := s2.apart (fun b hb => (r1.has b hb).2) d1
      cases z : fix e2 r with
      | none => rw [z] at p2; exact p2.elim
      | some yy =>
        obtain ⟨d, e3⟩ := yy
        rw [z] at p2
        simp only at p2
        obtain ⟨F3, f3, s3, k3, E3, m3⟩ := fix_ok s2.fh E2 (r1.stp s2 d1) ap z
        split at p2
        · rename_i os hq
          cases zj : ixN os.length k with
          | none => rw [zj] at p2; exact p2.elim
          | some j =>
            rw [zj] at p2
            obtain ⟨v', fo, fr, hv', ho, E4, d4, g4⟩ := E3.take hq
            rw [hσ] at hv'; cases hv'
            cases ho with
            | @lst l fl xs _ hH hF hn hall =>
              refine ⟨l, xs, k, j, rfl, rfl, hH, by rw [hall.length]; exact zj, ?_⟩
              obtain ⟨f5, k5, m5⟩ := OwAll.setFz k3 j hall
              have st1 : Stp F3 H2 [l] F3 (upd H2 l (.lst (xs.set j y))) [l] := Stp.chg s3.fh (List.mem_singleton.mpr rfl) hF
              have nl : ∀ b ∈ f5, b ∉ [l] := fun b hb z => by
                rw [List.mem_singleton] at z; subst z
                exact hn (m5 _ hb)
              refine chg_ok (fp := f3) (fo := f5) s3.fh hσ E4 hF (by rw [hH]; intro q; cases q) (d4 l List.mem_cons_self) (fun b hb z => d4 b (List.mem_cons_of_mem _ (m5 b hb)) z) (.lst upd_same hF (fun z => hn (m5 _ z)) (st1.owAll k5 nl)) (fun b hb => ?_) (PoS.step p2 s3)
              rcases hb with h | h | h
              · exact (g4 b).mpr (.inr h)
              · subst h; exact (g4 _).mpr (.inl List.mem_cons_self)
              · exact (g4 b).mpr (.inl (List.mem_cons_of_mem _ (m5 b h)))
        · exact p2.elim
    · exact p2.elim
  · exact p1.elim
end
end DL

set_option Elab.async false
set_option linter.all false
set_option maxRecDepth 100000
set_option maxHeartbeats 2000000
/-! DL, part K0: a tuple has no keys. -/
namespace DL
open PySem L2 PySem.Spec PyProof.Rows
section
variable {prog : Program} {w : World} {A : Around} {E : Value → Shared → Prop}
theorem tuple_keys_none : typeLookup (.type "tuple") "keys" = pure none := am_miss_of_fast (by first | decide +kernel | rfl)
/-- a tuple has no attribute of that name -/
theorem miss_tuple {s : Shared} {a : Addr} {o : Obj} {xs : Array Value} {k : Nat} {Q : Option Value → Shared → Prop} (at_a : s.heap.get? a = some o) (cls : o.cls = .type "tuple") (dat : o.data = .seq xs k) (nodict : o.dict = none) (quiet : A.handled = none)
    (go : ∀ h' tk, (∀ b ob, s.heap.get? b = some ob → h'.get? b = some ob) → Q none { s with heap := h', toks := tk }) : wpAny (model prog w) A (getAttr? (.ref a) "keys") Q E s := by
  obtain ⟨oc, od, ot, osl⟩ := o
  simp only at cls dat nodict
  subst cls dat nodict
  obtain ⟨hp, g, d, tk, os⟩ := s
  have isT : ∀ tk', (⟨hp, g, d, tk', os⟩ : Shared).TypeIs (.ref a) "tuple" := fun _ => ⟨_, at_a, rfl⟩
  have n1 := tuple_keys_none
  have n2 : (["__module__", "__name__", "__qualname__", "__doc__", "__annotations__"] : List Str).contains "keys" = false := by decide +kernel
  have n3 : ("keys" : Str).length + 100 ≤ sizeLine := by first | size_fits | decide +kernel
  have l1 := sub_AttributeError
  have l2 := PySem.F.slot_tuple_getattribute.lookup
  have l3 := PySem.F.slot_tuple_getattribute.bind (.ref a)
  have l4 := am_tuple_getattr_none
  unfold getAttr? getAttrBy? getAttrBy
  repeat (any_goals (first | assumption | exact isT _ | ((with_reducible show wpAny _ _ (call (Value.builtin "tuple.__getattribute__") _ _) _ _ _); refine call_meets PySem.F.slot_tuple_getattribute (isT _) am_entry_tuple_getattribute (PySem.F.args_tuple_getattribute_2 _ _) (meets_getattribute_miss_tuple a xs k osl "keys" _ n1 n2 n3) ⟨at_a, quiet, fun h' tk' e ne => ?_⟩) | wp_step))
  obtain ⟨t', u', he⟩ := ne.there
  show wpAny _ _ (getattributeRaised _ _ _ _ _ _ _) _ _ _
  unfold getattributeRaised
  repeat (any_goals (first | assumption | wp_step))
  all_goals first | exact go _ _ ne.keeps | (dsimp only; repeat (any_goals (first | assumption | exact go _ _ ne.keeps | wp_step)))
end
end DL

set_option Elab.async false
set_option linter.all false
set_option maxRecDepth 100000
set_option maxHeartbeats 2000000
/-! DL, part K: dicts; tuples whose object is known. -/
namespace DL
open PySem L2 PySem.Spec PyProof.Rows

/-! ### the library's side: tuple(d.items()), dict(a tuple of pairs) -/
section
variable {prog : Program} {w : World} {A : Around} {E : Value → Shared → Prop}
/-- the pairs of a tuple go into a dict, from the i-th on -/
theorem pairs_loop {R : Result → Shared → Prop} {S I l : Addr} {items : Array Value} (quiet : A.handled = none) (lI : l ≠ I) (SI : S ≠ I) (Sl : S ≠ l) :
    ∀ (rest : List (Key × Value)) (i : Nat) (acc : List (Key × Value)) (ix : Int) (t : Tok) (s : Shared), items.size = i + rest.length → acc.length + rest.length ≤ sizeLine →
      (∀ (j : Nat) (q : Key × Value), rest[j]? = some q → ∃ (b : Addr) (u : Value), items[i + j]? = some (.ref b) ∧ b ≠ S ∧ b ≠ I ∧ IsTup s.heap b #[u, q.2] ∧ keyIs q.1 u = true) →
      s.heap.IsTupleIter I l i → s.heap.IsTuple l items → s.heap.DictOf (mixKind prog w) S acc →
      (∀ h' tk, h'.DictOf (mixKind prog w) S (merged acc rest) → (∀ b o, b ≠ S → b ≠ I → s.heap.get? b = some o → h'.get? b = some o) → R (.ok (.ret .none)) { s with heap := h', toks := tk }) →
      codeAny (model prog w) A (.builtin "dict.update.loop" ⟨[.ref S, .ref I, .int ix t, .none], []⟩) R s := by
  intro rest
  induction rest with
  | nil =>
    intro i acc ix t s size room ht hit hl hm hR
    refine codeAny_builtin ud_entry ?_
    rw [Around.under_plainId ud_plain _]
    show wpAny _ A.in1 (pyNext (.ref I) >>= _) _ _ s
    have atEnd : items[i]? = none := Array.getElem?_eq_none (by rw [size, List.length_nil]; exact Nat.le_refl _)
    refine wpAny_bind (wpAny_pyNext_tuple_end (A := A.in1) quiet hit hl atEnd fun h' he => ?_)
    show wpAny _ A.in1 (Builtin.Dict.addKeywords S [] >>= _) _ _ _
    refine wpAny_bind (wpAny_pure (wpAny_pure ?_))
    exact hR h' s.toks (hm.extBut he SI) fun b o _ hb e => he b o hb e
  | cons q rest ih =>
    intro i acc ix t s size room ht hit hl hm hR
    obtain ⟨b, u, hb, bS, bI, htup, hk⟩ := ht 0 q rfl
    rw [List.length_cons] at size room
    refine codeAny_builtin ud_entry ?_
    rw [Around.under_plainId ud_plain _]
    show wpAny _ A.in1 (pyNext (.ref I) >>= _) _ _ s
    refine wpAny_bind (wpAny_pyNext_tuple_item (x := .ref b) hit hl (by simpa using hb) fun h1 it1 same1 => ?_)
    have tup1 : IsTup h1 b #[u, q.2] := htup.extBut same1.extBut bI
    have l1 : h1.IsTuple l items := hl.extBut same1.extBut lI
    have m1 : h1.DictOf (mixKind prog w) S acc := hm.extBut same1.extBut SI
    obtain ⟨o, ho, hc, n, hd⟩ := id tup1
    show wpAny _ A.in1 (holding [Value.ref b] _ >>= _) _ _ _
    refine wpAny_bind (wpAny_holding (wpAny_bind (wpAny_tryCatch ?_)))
    unfold Builtin.Dict.pairItems
    refine wpAny_bind (wpAny_typeOf (T := "tuple") ⟨o, ho, hc⟩ ?_)
    rw [if_pos (by first | decide | rfl | simp)]
    refine wpAny_bind (wpAny_seqItems ho hd (wpAny_pure ?_))
    show wpAny _ A.in1 (holding [u, q.2] (dictSet S u q.2)) _ _ _
    refine wpAny_holding (wpAny_dictSet_pairs (knd := mixKind prog w) (k := q.1) hk m1 (fun h2 m2 same2 => ?_) (by omega))
    have more := stored_length_le acc q.1 q.2
    refine wpAny_pure ⟨plainId_quiet ud_plain _, ih (i + 1) (stored acc q.1 q.2) (ix + 1) 0 _ (show items.size = i + 1 + rest.length by omega) (by omega) (fun j q' e => ?_) ?_ ?_ m2 fun h' tk hd' k => ?_⟩
    · obtain ⟨b', u', at', b'S, b'I, tup', hk'⟩ := ht (j + 1) q' (by simpa using e)
      refine ⟨b', u', ?_, b'S, b'I, (tup'.extBut same1.extBut b'I).extBut same2.extBut b'S, hk'⟩
      have e2 : i + 1 + j = i + (j + 1) := by omega
      rw [e2]
      exact at'
    · exact it1.extBut same2.extBut (Ne.symm SI)
    · exact l1.extBut same2.extBut (Ne.symm Sl)
    · exact hR h' tk hd' fun x ox h3 h4 e => k x ox h3 h4 (same2.extBut x ox h3 (same1.extBut x ox h4 e))
/-- dict(t), t a tuple of pairs -/
theorem call_dict_tuple {s : Shared} {l : Addr} {ol : Obj} {items : Array Value} {n : Nat} {prs : List (Key × Value)} {Q : Value → Shared → Prop} (quiet : A.handled = none) (hl : s.heap.get? l = some ol) (hc : ol.cls = .type "tuple") (hd : ol.dict = none)
    (hdat : ol.data = .seq items n) (size : items.size = prs.length) (room : prs.length ≤ sizeLine)
    (ht : ∀ (j : Nat) (q : Key × Value), prs[j]? = some q → ∃ (b : Addr) (u : Value), items[j]? = some (.ref b) ∧ IsTup s.heap b #[u, q.2] ∧ keyIs q.1 u = true)
    (go : ∀ h' tk, h'.DictOf (mixKind prog w) s.heap.objs.size (merged [] prs) → (∀ b o, s.heap.get? b = some o → h'.get? b = some o) → Q (.ref s.heap.objs.size) { s with heap := h', toks := tk }) :
    wpAny (model prog w) A (call (.type "dict") [.ref l]) Q E s := by
  refine callType_codes (Q₁ := fun obj s₁ => obj = .ref s.heap.objs.size ∧ s₁ = { s with heap := s.heap.push { cls := .type "dict", data := .dict #[] } }) PySem.F.kt_called_dict (PySem.F.kt_typeCall_dict_1 _) PySem.F.entry_dict_init (kt_code_dict_new _ ⟨rfl, rfl⟩) ?_
  rintro obj s₁ ⟨rfl, rfl⟩
  have fresh : (s.heap.push { cls := .type "dict", data := .dict #[] }).DictOf (mixKind prog w) s.heap.objs.size [] := Heap.DictOf.new s.heap
  have k0 : ∀ b o, s.heap.get? b = some o → (s.heap.push { cls := .type "dict", data := .dict #[] }).get? b = some o := fun b o e => Heap.get?_push_of_some _ e
  refine ⟨fresh.typeIs, PySem.F.args_dict_init_2 _ _, ?_⟩
  unfold Builtin.«dict.__init__»
  refine wpAny_bind ?_
  unfold Builtin.Dict.selfAndRest
  refine wpAny_bind (wpAny_notOrdered_dict fresh.typeIs ?_)
  show wpAny _ _ (pure (s.heap.objs.size, [Value.ref l])) _ _ _
  refine wpAny_pure ?_
  show wpAny _ _ (Builtin.Dict.updateFrom "dict.__init__" s.heap.objs.size (.ref l) [] .none) _ _ _
  unfold Builtin.Dict.updateFrom
  refine wpAny_bind (wpAny_typeOf (T := "tuple") ⟨ol, k0 _ _ hl, hc⟩ ?_)
  rw [if_pos (by first | decide | rfl | simp)]
  refine wpAny_bind (miss_tuple (k0 _ _ hl) hc hdat hd quiet fun h1 tk1 k1 => ?_)
  rw [if_pos (show (none : Option Value).isNone = true from rfl)]
  refine wpAny_bind (wpAny_rule ?_)
  have l1 : h1.IsTuple l items := ⟨ol, k1 _ _ (k0 _ _ hl), hc, n, hdat⟩
  have atS : (s.heap.push { cls := .type "dict", data := .dict #[] }).get? s.heap.objs.size = some { cls := .type "dict", data := .dict #[] } := Heap.get?_push_size _ rfl
  have hS : s.heap.objs.size < h1.objs.size := Heap.lt_size (k1 _ _ atS)
  refine wpAny_bind (wpAny_pyIter_tuple l1 ?_)
  have k2 : ∀ b o, h1.get? b = some o → (h1.push { cls := .type "tuple_iterator", data := .fields #[.ref l, .int 0 0] }).get? b = some o := fun b o e => Heap.get?_push_of_some _ e
  have hlt : l < s.heap.objs.size := Heap.lt_size hl
  have all : ∀ b o, s.heap.get? b = some o → (h1.push { cls := .type "tuple_iterator", data := .fields #[.ref l, .int 0 0] }).get? b = some o := fun b o e => k2 _ _ (k1 _ _ (k0 _ _ e))
  have key := pairs_loop (prog := prog) (w := w) (A := A.in1) (R := wants (fun r s₂ => r = .none ∧ Q (.ref s.heap.objs.size) s₂) E) (S := s.heap.objs.size) (I := h1.objs.size) (l := l) (items := items) quiet
    (Nat.ne_of_lt (Nat.lt_trans hlt hS)) (Nat.ne_of_lt hS) (Nat.ne_of_gt hlt) prs 0 [] 0 0
    { s with heap := h1.push { cls := .type "tuple_iterator", data := .fields #[.ref l, .int 0 0] }, toks := tk1 } (by omega) (by simpa using room)
    (fun j q e => by
      obtain ⟨b, u, e1, e2, e3⟩ := ht j q e
      have hb : b < s.heap.objs.size := e2.lt
      exact ⟨b, u, by simpa using e1, Nat.ne_of_lt hb, Nat.ne_of_lt (Nat.lt_trans hb hS), e2.keeps all, e3⟩)
    ⟨_, Heap.get?_push_size _ rfl, rfl, rfl⟩ (l1.push _) ((fresh.at fun o e => k1 _ _ e).at fun o e => k2 _ _ e)
    (fun h' tk hd' k => ⟨rfl, go h' tk hd' fun b o e => k b o (Nat.ne_of_lt (Heap.lt_size e)) (Nat.ne_of_lt (Nat.lt_trans (Heap.lt_size e) hS)) (all b o e)⟩)
  first
    | exact wpAny_pure ⟨plainId_quiet ud_plain _, key⟩
    | exact wpAny_bind (wpAny_pure (wpAny_pure ⟨plainId_quiet ud_plain _, key⟩))

/-- what a dict's items are collected to -/
theorem collect_items {s : Shared} {r d : Addr} {kvs : List (Key × Value)} {ep : Nat} {Q : List Value → Shared → Prop} (quiet : A.handled = none) (hv : s.heap.IsItemsView r d) (hm : s.heap.DictAt (mixKind prog w) d kvs ep) (room : kvs.length ≤ sizeLine)
    (go : ∀ h' tk as, (∀ b o, s.heap.get? b = some o → h'.get? b = some o) → as.length = kvs.length → PySem.W.KdxG (mixKind prog w) kvs s.heap.objs.size h' as → Q (as.map Value.ref) { s with heap := h', toks := tk }) :
    wpAny (model prog w) A (collect (.ref r)) Q E s := by
  unfold collect
  refine wpAny_bind (wpAny_runValue (codeAny_builtin PySem.F.entry_proto_collect ?_))
  rw [Around.under_plainId PySem.F.plain_proto_collect _]
  show wpAny _ A.in1 (newList [] >>= fun l => again (.builtin "list.__iadd__" ⟨[l, .ref r], []⟩)) _ _ s
  refine wpAny_bind (wpAny_newObj_type (wpAny_pure ⟨plainId_quiet PySem.F.plain_list_iadd _, codeAny_builtin PySem.F.entry_list_iadd ?_⟩))
  rw [Around.under_plainId PySem.F.plain_list_iadd _]
  show wpAny _ A.in1 (Builtin.List.listExtendWith (.ref s.heap.objs.size) (.ref r) (.ref s.heap.objs.size)) _ _ _
  have atS : (s.heap.push { cls := .type "list", data := .seq ([] : List Value).toArray }).get? s.heap.objs.size = some { cls := .type "list", data := .seq #[] 0 } := Heap.get?_push_size _ rfl
  have hr : r < s.heap.objs.size := let ⟨_, ho, _⟩ := hv; Heap.lt_size ho
  let T : Result → Shared → Prop := fun res s' => res = .ok (.ret (.ref s.heap.objs.size)) ∧ ∃ h' tk acc c as, s' = { s with heap := h', toks := tk } ∧ (∀ b o, s.heap.get? b = some o → h'.get? b = some o) ∧
    h'.get? s.heap.objs.size = some { cls := .type "list", dict := none, data := .seq acc c, slots := #[] } ∧ as.length = kvs.length ∧ PySem.W.KdxG (mixKind prog w) kvs s.heap.objs.size h' as ∧ acc.toList = as.map Value.ref
  have ext : wpAny (model prog w) A.in1 (Builtin.List.listExtendWith (.ref s.heap.objs.size) (.ref r) (.ref s.heap.objs.size))
      (fun fin s' => match fin with | .done f => T (.ok f) s' | .again c' => c'.quiet = true ∧ codeAny (model prog w) A c' T s') (fun e s' => T (.error e) s') { s with heap := s.heap.push { cls := .type "list", data := .seq ([] : List Value).toArray } } := by
    refine PySem.W.kdx_extend (R := T) (knd := mixKind prog w) (kvs := kvs) (ep := ep) (A := A) (s := { s with heap := s.heap.push { cls := .type "list", data := .seq ([] : List Value).toArray } }) quiet
      (let ⟨o, ho, x⟩ := hv; ⟨o, Heap.get?_push_of_some _ ho, x⟩) (hm.push _) s.heap.objs.size (Nat.ne_of_gt hr) (Nat.ne_of_lt hm.lt_size) _ 0 atS (fun h' tk acc c as hk hS hl hG hacc => ?_) room
    exact ⟨rfl, h', tk, acc, c, as, rfl, fun b o e => hk b o (Nat.ne_of_lt (Heap.lt_size e)) (Heap.get?_push_of_some _ e), hS, hl, hG.low (Nat.le_of_lt (by rw [Heap.size_push]; exact Nat.lt_succ_self _)), hacc⟩
  have fin : ∀ res s', T res s' → (match res with
      | Except.ok (Flow.ret v) => wpAny (model prog w) A (match v with
          | Value.ref a => do
            match (← load a).data with
              | Data.seq xs _ => pure xs.toList
              | _ => unsupported "internal:collect"
          | _ => unsupported "internal:collect") Q E s'
      | Except.ok _ => False
      | Except.error e => E e s') := by
    rintro res s' ⟨rfl, h', tk, acc, c, as, rfl, hk, hS, hl, hG, hacc⟩
    show wpAny _ A (load s.heap.objs.size >>= _) _ _ _
    refine wpAny_bind (wpAny_load hS (wpAny_pure ?_))
    rw [hacc]
    exact go h' tk as hk hl hG
  refine wpAny_mono ext (fun fi s' h => ?_) fun e s' h => ?_
  · cases fi with
    | done f => exact fin _ _ h
    | again c' => exact ⟨h.1, codeAny_mono h.2 fun r s'' hr => fin r s'' hr⟩
  · exact absurd h.1 (by simp)
/-- tuple(d.items()) -/
theorem call_tuple_items {s : Shared} {r d : Addr} {kvs : List (Key × Value)} {ep : Nat} {Q : Value → Shared → Prop} (quiet : A.handled = none) (hv : s.heap.IsItemsView r d) (hm : s.heap.DictAt (mixKind prog w) d kvs ep) (room : kvs.length ≤ sizeLine)
    (go : ∀ h' tk as, (∀ b o, s.heap.get? b = some o → h'.get? b = some o) → as.length = kvs.length → PySem.W.KdxG (mixKind prog w) kvs s.heap.objs.size h' as →
      Q (.ref h'.objs.size) { s with heap := h'.push { cls := .type "tuple", data := .seq (as.map Value.ref).toArray }, toks := tk }) :
    wpAny (model prog w) A (call (.type "tuple") [.ref r]) Q E s := by
  refine callType_codes (Q₁ := fun obj s₁ => s₁.TypeIs obj "tuple" ∧ Q obj s₁) PySem.F.called_tuple (PySem.F.typeCall_tuple_1 _) PySem.F.entry_object_init ?_ fun obj s₁ hq => ⟨hq.1, PySem.F.args_object_init_2 obj _, ?_⟩
  · refine codeAny_call_builtin PySem.F.called_tuple.plain PySem.F.entry_tuple_new (wpAny_of_eq (PySem.F.newCall_tuple_1 _) ?_)
    have hsub := sub_tuple_self
    have hinit := init_tuple_lookup
    have hmh := madeHere_tuple
    have hT : s.TypeIs (.ref r) "dict_items" := hv.typeIs
    obtain ⟨hp, g, dr, tk, os⟩ := s
    wp_walk using wpAny_typeOf hT, collect_items (A := A.in1.in1) quiet hv hm room
    intro h' tk' as hk hl hG
    show wpAny _ _ (Builtin.Tuple.tupleExact (as.map Value.ref).toArray >>= fun v => ret v) _ _ _
    unfold Builtin.Tuple.tupleExact
    refine wpAny_bind (wpAny_newObj_type ?_ (by show (as.map Value.ref).toArray.size ≤ sizeLine; rw [List.size_toArray, List.length_map, hl]; exact room))
    exact wpAny_pure ⟨⟨_, Heap.get?_push_size _ rfl, rfl⟩, go h' tk' as hk hl hG⟩
  · exact object_init_meets PySem.F.called_tuple.init.lookup PySem.F.called_tuple.made (by decide) prog w A.in1 _ s₁ ⟨hq.1, rfl, hq.2⟩
end
end DL

set_option Elab.async false
set_option linter.all false
set_option maxRecDepth 100000
set_option maxHeartbeats 2000000
/-! DL, part L: dicts by trees. -/
namespace DL
open PySem L2 PySem.Spec PyProof.Rows

/-! ### tuples whose object is known -/
section
variable {X : Cx} {c : Cs} {mv : V} {W : WX}
/-- a tuple laid, its object known -/
theorem knownOk {P : Program} {w : World} {H : Hp} {h : Heap} {a : Addr} {xs : List V} {its : List Value} {o : Obj} (hz : xs.length ≤ sizeLine) (r : Vals xs its) (ho : h.get? a = some o) (hc : o.cls = .type "tuple") {n : Nat} (hd : o.data = .seq its.toArray n) :
    ObjOk P w H h a (.frz o (.tup xs)) := ⟨ho, hz, its, r, o, ho, hc, n, hd⟩
theorem call_tupleK : CallR X (.type "tuple") (fun xs H Q => ∃ p ys, xs = [.ref p] ∧ SqL X.K H p ys ∧ ∀ l o, H l = none → o.dict = none → Q (.ref l) (upd H l (.frz o (.tup ys)))) := by
  intro pins s σ H xs us Q I r h
  obtain ⟨p, ys, rfl, hq, q⟩ := h
  obtain ⟨u, rfl, rx⟩ := vals1 r
  cases rx
  obtain ⟨its, r', pl, hz⟩ := I.list hq
  refine call_tuple_list pl.isList (fun h' kp => ?_) (by rw [List.size_toArray, ← r'.length]; exact hz)
  have I1 : Inv X pins σ H { s with heap := h' } := I.kept (t' := s.toks) kp
  have at' : (h'.push { cls := .type "tuple", data := .seq its.toArray }).get? h'.objs.size = some { cls := .type "tuple", data := .seq its.toArray } := Heap.get?_push_size _ rfl
  have I2 : Inv X pins σ (upd H h'.objs.size (.frz { cls := .type "tuple", data := .seq its.toArray } (.tup ys))) { s with heap := h'.push { cls := .type "tuple", data := .seq its.toArray } } :=
    I1.laid (t' := s.toks) (fun b o e => Heap.get?_push_of_some _ e) (Nat.le_refl _) (knownOk hz r' at' rfl rfl)
  exact ⟨.ref h'.objs.size, _, I2, rfl, q _ _ (I1.hok.fresh (Nat.le_refl _)) rfl⟩
def tTupK (t : TA) : TE := fun σ H Q => t σ H fun xs H1 => xs.length ≤ sizeLine ∧ ∀ p o, H1 p = none → o.dict = none → Q (.ref p) (upd H1 p (.frz o (.tup xs)))
theorem pe_tupK {es : List Expr} {t : TA} {x1} {pos : Pos} (h : PA X es t) : PE X (.Tuple es x1 pos) (tTupK t) := by
  constructor
  intro pins s σ H Q I hq
  refine wpAny_Tuple_spliced (thn (h.run pos pins s σ H _ I hq) ?_)
  rintro us s1 ⟨xs, H1, I1, r, z, q⟩
  refine ⟨by rw [← r.length]; exact z, ?_⟩
  have hf : H1 s1.heap.objs.size = none := I1.hok.fresh (Nat.le_refl _)
  have at' : (s1.heap.push { cls := .type "tuple", data := .seq us.toArray }).get? s1.heap.objs.size = some { cls := .type "tuple", data := .seq us.toArray } := Heap.get?_push_size _ rfl
  exact ⟨.ref s1.heap.objs.size, _, I1.laid (t' := s1.toks) (fun b u e => Heap.get?_push_of_some _ e) (Nat.le_refl _) (knownOk z r at' rfl rfl), rfl, q _ _ hf rfl⟩
theorem new_tupK {F H : Hp} {vs : List V} {ds : List D} {Q : VK} (s : Sub F H) (h : FzAll c F vs ds) (k : ∀ F' H' fq v, Stp F H [] F' H' fq → Ow c F' H' fq v (.fz (.tup true ds)) → Q v H') : ∀ p o, H p = none → o.dict = none → Q (.ref p) (upd H p (.frz o (.tup vs))) := fun p o hp ho => by
  have st : Stp F H [] F (upd H p (.frz o (.tup vs))) [p] := Stp.lay s hp fun _ h => h
  have Fp : F p = none := by
    cases q : F p with
    | none => rfl
    | some u => have := s p u q; rw [hp] at this; cases this
  have ic : Stp F (upd H p (.frz o (.tup vs))) [p] (ice F (upd H p (.frz o (.tup vs))) [p]) (upd H p (.frz o (.tup vs))) [] :=
    Stp.ice st.fh (fun b hb => by rw [List.mem_singleton] at hb; subst hb; exact Fp) (fun b hb => hb) fun b hb => nomatch hb
  have st2 := st.trans ic
  have at' : ice F (upd H p (.frz o (.tup vs))) [p] p = some (.frz o (.tup vs)) := (ice_in (List.mem_singleton.mpr rfl)).trans upd_same
  exact k _ _ [] _ st2 (.fz (.tup (.inl (.inr ⟨o, at'⟩)) (fun _ => ⟨o, at', ho⟩) (h.mono st2.ff)))
def tupleKD : List D → Option O
  | [.lst ds] => some (.fz (.tup true ds))
  | _ => none
theorem fop_tupleK (hK : X.K = c.K) : FOp c (fun xs H Q => ∃ p ys, xs = [.ref p] ∧ SqL X.K H p ys ∧ ∀ l o, H l = none → o.dict = none → Q (.ref l) (upd H l (.frz o (.tup ys)))) tupleKD := fun F H vs ds o Q s h e k => by
  rw [hK]
  unfold tupleKD at e
  split at e
  · cases e
    cases h with
    | cons h1 h2 =>
      cases h2
      cases h1 with
      | lst hs ha => exact ⟨_, _, rfl, s.sqL hs, new_tupK s ha k⟩
  · cases e
theorem de_tupleK {a : Expr} {f : En → Out (List Rv)} {p pos : Pos} (hK : X.K = c.K) (hm : X.mg "tuple" = none) (hg : Gl X "tuple") (ha : DA X c mv W [a] f) (he : starEach [a] X.env = (false, eval a X.env) :: starEach [] X.env := by rfl) : DE X c mv W (.Call (.Name "tuple" p) [a] [] pos) (eF tupleKD f) :=
  de_typeF call_tupleK (fop_tupleK hK) hg hm (by decide +kernel) ha (he := he)
def eTupK (f : En → Out (List Rv)) : En → Out Rv := fun e => (f e).bind fun rs e1 => match fixAll e1 rs with
  | none => .no
  | some (ds, e2) => if ds.length ≤ 1000 then .ok (.tm (.fz (.tup true ds))) e2 else .no
theorem de_tupK {es : List Expr} {f : En → Out (List Rv)} {x1} {pos : Pos} (h : DA X c mv W es f) : DE X c mv W (.Tuple es x1 pos) (eTupK f) :=
  pe_imp (pe_tupK h) fun σ H Q h => args_ok h fun F H fp fq e vs rs s E rr dj p => by
    cases z : fixAll e rs with
    | none => rw [z] at p; exact p.elim
    | some y =>
      obtain ⟨ds, e2⟩ := y
      rw [z] at p
      simp only at p
      by_cases hs : ds.length ≤ 1000
      · rw [if_pos hs] at p
        obtain ⟨F1, f1, s1, k1, E1, m1⟩ := fixAll_ok s E rr dj z
        refine ⟨by rw [k1.length]; exact small_line hs, new_tupK s1.fh k1 fun F2 H2 q2 v s2 h2 => ?_⟩
        obtain ⟨s3, d3⟩ := s2.beside (fp := f1) E1.has
        exact p F2 H2 f1 q2 v (s1.trans s3) (E1.stp s2 fun b hb z => nomatch z) (.tm h2) d3
      · rw [if_neg hs] at p; exact p.elim

/-! ### keys, places -/
def keyD : D → Option Key
  | .int i => some (.inl i)
  | .str x => some (.inr x)
  | _ => none
def lookL {κ α : Type} [DecidableEq κ] : List κ → List α → κ → Option α
  | k :: ks, a :: as, x => if k = x then some a else lookL ks as x
  | _, _, _ => none
theorem key_V {F : Hp} {v : V} {d : D} {k : Key} (h : Fz c F v d) (e : keyD d = some k) : v = kV k := by
  cases h with
  | int => cases e; rfl
  | str => cases e; rfl
  | _ => cases e
theorem look_fz {κ : Type} [DecidableEq κ] {F : Hp} {k : κ} : ∀ {kvs : List (κ × V)} {ds : List D}, FzAll c F (kvs.map (·.2)) ds → (∀ d, lookL (kvs.map (·.1)) ds k = some d → ∃ v, valV kvs k = some v ∧ Fz c F v d) ∧ (lookL (kvs.map (·.1)) ds k = none → valV kvs k = none)
  | [], _, h => by
    cases h
    exact ⟨(fun d e => by cases e), fun _ => rfl⟩
  | p :: kvs, _, h => by
    cases h with
    | cons h1 h2 =>
      obtain ⟨i1, i2⟩ := look_fz (k := k) h2
      by_cases q : p.1 = k
      · refine ⟨fun d e => ?_, fun e => ?_⟩
        · simp only [List.map_cons, lookL, if_pos q] at e
          cases e
          exact ⟨_, valV_pos q, h1⟩
        · simp only [List.map_cons, lookL, if_pos q] at e
          cases e
      · have hv : valV (p :: kvs) k = valV kvs k := by simp [valV, List.find?_cons, q]
        refine ⟨fun d e => ?_, fun e => ?_⟩
        · simp only [List.map_cons, lookL, if_neg q] at e
          rw [hv]
          exact i1 d e
        · simp only [List.map_cons, lookL, if_neg q] at e
          rw [hv]
          exact i2 e
theorem Ow.out {F H : Hp} {fp : List Addr} {v : V} {d : D} (h : Ow c F H fp v (.fz d)) : Fz c F v d := by
  cases h with
  | fz h => exact h
theorem look_ow {κ : Type} [DecidableEq κ] {F H : Hp} {k : κ} : ∀ {kvs : List (κ × V)} {fp : List Addr} {os : List O}, OwAll c F H fp (kvs.map (·.2)) os → (∀ d, lookL (kvs.map (·.1)) os k = some (.fz d) → ∃ v, valV kvs k = some v ∧ Fz c F v d) ∧ (lookL (kvs.map (·.1)) os k = none → valV kvs k = none)
  | [], _, _, h => by
    cases h
    exact ⟨(fun d e => by cases e), fun _ => rfl⟩
  | p :: kvs, _, _, h => by
    cases h with
    | cons h1 h2 hd =>
      obtain ⟨i1, i2⟩ := look_ow (k := k) h2
      by_cases q : p.1 = k
      · refine ⟨fun d e => ?_, fun e => ?_⟩
        · simp only [List.map_cons, lookL, if_pos q] at e
          cases e
          exact ⟨_, valV_pos q, h1.out⟩
        · simp only [List.map_cons, lookL, if_pos q] at e
          cases e
      · have hv : valV (p :: kvs) k = valV kvs k := by simp [valV, List.find?_cons, q]
        refine ⟨fun d e => ?_, fun e => ?_⟩
        · simp only [List.map_cons, lookL, if_neg q] at e
          rw [hv]
          exact i1 d e
        · simp only [List.map_cons, lookL, if_neg q] at e
          rw [hv]
          exact i2 e
/-- what a dict tells of a key: none (the tree is no such dict, or the thing is owned), or what is there -/
def lookO (o : O) (k : Key) : Option (Option D) := match o with
  | .fz (.dK ks ds) => some (lookL ks ds k)
  | .dK ks os => match lookL ks os k with
    | none => some none
    | some (.fz d) => some (some d)
    | _ => none
  | _ => none
theorem lookO_ok {F H : Hp} {fp : List Addr} {v : V} {o : O} {k : Key} {r : Option D} (s : Sub F H) (h : Ow c F H fp v o) (e : lookO o k = some r) : ∃ a kvs, v = .ref a ∧ H a = some (.dK kvs) ∧ (∀ d, r = some d → ∃ u, valV kvs k = some u ∧ Fz c F u d) ∧ (r = none → valV kvs k = none) := by
  cases h with
  | fz h =>
    cases h with
    | @dK a kvs ks ds ha hk hz =>
      subst hk
      have e' : lookL (kvs.map (·.1)) ds k = r := Option.some.inj e
      obtain ⟨i1, i2⟩ := look_fz (k := k) hz
      exact ⟨a, kvs, rfl, s _ _ ha, fun d q => i1 d (e'.trans q), fun q => i2 (e'.trans q)⟩
    | _ => cases e
  | @dK a fl kvs ks os ha hF hn hk hz =>
    subst hk
    obtain ⟨i1, i2⟩ := look_ow (k := k) hz
    unfold lookO at e
    simp only at e
    refine ⟨a, kvs, rfl, ha, ?_⟩
    split at e
    · rename_i q
      cases e
      exact ⟨fun d z => (nomatch z), fun _ => i2 q⟩
    · rename_i d q
      cases e
      exact ⟨fun d' z => by cases z; exact i1 d q, fun z => nomatch z⟩
    · cases e
  | _ => cases e
def isDk (o : Option O) : Bool := match o with
  | some (.fz (.dK _ _)) => true
  | some (.dK _ _) => true
  | _ => false
theorem isDk_ok {F H : Hp} {fp : List Addr} {v : V} {o : O} (s : Sub F H) (h : Ow c F H fp v o) (e : isDk (some o) = true) : ∃ a kvs, v = .ref a ∧ H a = some (.dK kvs) := by
  cases h with
  | fz h =>
    cases h with
    | dK ha hk hz => exact ⟨_, _, rfl, s _ _ ha⟩
    | _ => cases e
  | dK ha hF hn hk hz => exact ⟨_, _, rfl, ha⟩
  | _ => cases e
/-- d.get(k) -/
def eGet1 (f g : En → Out Rv) : En → Out Rv := fun e => (f e).bind fun r e1 => if isDk (treeOf e1 r) then (g e1).bind fun rk e2 => match look e2 rk with
    | none => .no
    | some kd => match keyD kd with
      | none => .no
      | some k => match treeOf e2 r with
        | none => .no
        | some o => match lookO o k with
          | none => .no
          | some none => .ok (.tm (.fz .non)) e2
          | some (some d) => .ok (.tm (.fz d)) e2
  else .no
theorem de_get1 {o a : Expr} {f g : En → Out Rv} {apos cpos : Pos} {k : Nat} (r : Room k X.A) (ho : DE X c mv W o f) (ha : DE X c mv W a g) (m : M1 X o "get" apos a cpos) : DE X c mv W (.Call (.Attribute o "get" apos) [a] [] cpos) (eGet1 f g) :=
  pe_imp (pe_dget1 (hu_of r) ho ha m) fun σ H Q h => by
    obtain ⟨F, fp, e, s, E, p⟩ := h
    refine ⟨F, fp, e, s, E, Po.seq (R1 := rvR c mv) p fun r1 e1 F1 H1 f1 q1 v _ s1 E1 rr1 d1 p1 => ?_⟩
    split at p1
    · rename_i hd
      cases zt : treeOf e1 r1 with
      | none => rw [zt] at hd; cases hd
      | some o1 =>
        rw [zt] at hd
        obtain ⟨fo, ho1⟩ := tree_ok E1 rr1 zt
        obtain ⟨a1, kvs1, rfl, ha1⟩ := isDk_ok s1.fh ho1 hd
        refine ⟨a1, rfl, .inl ⟨kvs1, .inl ha1⟩, F1, f1, e1, s1.fh, E1, ?_⟩
        refine Po.seqS (R1 := rvR c mv) p1 rr1.has fun rk e2 F2 H2 f2 q2 w _ s2 E2 rr2 d2 p2 => ?_
        cases z1 : look e2 rk with
        | none => rw [z1] at p2; exact p2.elim
        | some kd =>
          rw [z1] at p2
          simp only at p2
          have hkd := look_ok s2.fh E2 rr2 z1
          cases z2 : keyD kd with
          | none => rw [z2] at p2; exact p2.elim
          | some k =>
            rw [z2] at p2
            simp only at p2
            cases z3 : treeOf e2 r1 with
            | none => rw [z3] at p2; exact p2.elim
            | some o2 =>
              rw [z3] at p2
              simp only at p2
              obtain ⟨fo2, ho2⟩ := tree_ok E2 (rr1.stp s2 d1) z3
              cases z4 : lookO o2 k with
              | none => rw [z4] at p2; exact p2.elim
              | some res =>
                rw [z4] at p2
                obtain ⟨a2, kvs2, e2', ha2, l1, l2⟩ := lookO_ok s2.fh ho2 z4
                cases e2'
                have hw := key_V hkd z2
                subst hw
                refine ⟨valV kvs2 k, DGet.k ha2, ?_⟩
                have sub : ∀ b ∈ f2, b ∈ (f2 ++ q2) ++ q1 := fun b hb => List.mem_append_left _ (List.mem_append_left _ hb)
                cases res with
                | none => rw [l2 rfl]; exact Po.fz s2.fh E2 .non sub p2
                | some d =>
                  obtain ⟨u, hu, hz⟩ := l1 d rfl
                  rw [hu]
                  exact Po.fz s2.fh E2 hz sub p2
    · exact p1.elim

/-! ### d[k] = v -/
def putKs {κ : Type} [DecidableEq κ] (ks : List κ) (k : κ) : List κ := if k ∈ ks then ks else ks ++ [k]
def putAt {κ α : Type} [DecidableEq κ] : List κ → List α → κ → α → List α
  | k :: ks, a :: as, x, b => (if k = x then b else a) :: putAt ks as x b
  | _, as, _, _ => as
def putOs {κ α : Type} [DecidableEq κ] (ks : List κ) (as : List α) (k : κ) (b : α) : List α := if k ∈ ks then putAt ks as k b else as ++ [b]
theorem any_mem {κ : Type} [DecidableEq κ] {kvs : List (κ × V)} {k : κ} : (kvs.any fun kv => decide (kv.1 = k)) = true ↔ k ∈ kvs.map (·.1) := by
  rw [List.any_eq_true, List.mem_map]
  constructor
  · rintro ⟨p, h1, h2⟩
    exact ⟨p, h1, of_decide_eq_true h2⟩
  · rintro ⟨p, h1, h2⟩
    exact ⟨p, h1, decide_eq_true h2⟩
theorem putK_fst {κ : Type} [DecidableEq κ] {kvs : List (κ × V)} {k : κ} {v : V} : (putK kvs k v).map (·.1) = putKs (kvs.map (·.1)) k := by
  unfold putK putKs
  by_cases h : k ∈ kvs.map (·.1)
  · rw [if_pos (any_mem.mpr h), if_pos h, List.map_map]
    apply List.map_congr_left
    intro p _
    show (if p.1 = k then (p.1, v) else p).1 = p.1
    split <;> rfl
  · rw [if_neg (fun q => h (any_mem.mp q)), if_neg h, List.map_append]
    rfl
theorem putAt_ow {κ : Type} [DecidableEq κ] {F H : Hp} {k : κ} {v : V} {d : D} (hv : Fz c F v d) : ∀ {kvs : List (κ × V)} {fp : List Addr} {os : List O}, OwAll c F H fp (kvs.map (·.2)) os →
    ∃ fp', OwAll c F H fp' ((kvs.map fun kv => if kv.1 = k then (kv.1, v) else kv).map (·.2)) (putAt (kvs.map (·.1)) os k (.fz d)) ∧ ∀ b ∈ fp', b ∈ fp
  | [], _, _, h => by
    cases h
    exact ⟨[], .nil, fun b hb => nomatch hb⟩
  | p :: kvs, _, _, h => by
    cases h with
    | @cons _ _ o os f1 f2 h1 h2 hd =>
      obtain ⟨f3, i1, i2⟩ := putAt_ow hv h2
      by_cases q : p.1 = k
      · refine ⟨[] ++ f3, ?_, fun b hb => List.mem_append_right _ (i2 b (by simpa using hb))⟩
        simp only [List.map_cons, putAt, if_pos q]
        exact .cons (.fz hv) i1 fun b hb => nomatch hb
      · refine ⟨f1 ++ f3, ?_, fun b hb => (List.mem_append.mp hb).elim (List.mem_append_left _) fun z => List.mem_append_right _ (i2 b z)⟩
        simp only [List.map_cons, putAt, if_neg q]
        exact .cons h1 i1 fun b hb z => hd b hb (i2 b z)
theorem putK_ow {κ : Type} [DecidableEq κ] {F H : Hp} {k : κ} {v : V} {d : D} {kvs : List (κ × V)} {fp : List Addr} {os : List O} (hv : Fz c F v d) (h : OwAll c F H fp (kvs.map (·.2)) os) :
    ∃ fp', OwAll c F H fp' ((putK kvs k v).map (·.2)) (putOs (kvs.map (·.1)) os k (.fz d)) ∧ ∀ b ∈ fp', b ∈ fp := by
  unfold putK putOs
  by_cases q : k ∈ kvs.map (·.1)
  · rw [if_pos (any_mem.mpr q), if_pos q]
    exact putAt_ow hv h
  · rw [if_neg (fun z => q (any_mem.mp z)), if_neg q, List.map_append]
    have := h.append (.cons (.fz hv) .nil fun b hb => nomatch hb) fun b hb z => by simp at z
    exact ⟨_, this, fun b hb => by simpa using hb⟩
def isDkOwn (e : En) (i : Nat) : Bool := match e.sl[i]? with
  | some (some (.ow (.dK _ _))) => true
  | _ => false
def sPutK (i : Nat) (fv fk : En → Out Rv) : SS := fun e => (fv e).so fun r e1 => if isDkOwn e1 i then (fk e1).so fun rk e2 => match look e2 rk with
    | none => .no
    | some kd => match keyD kd with
      | none => .no
      | some k => match fix e2 r with
        | none => .no
        | some (d, e3) => match e3.sl[i]? with
          | some (some (.ow (.dK ks os))) => if ks.length < 1000000 then .nx (e3.put i (.dK (putKs ks k) (putOs ks os k (.fz d)))) else .no
          | _ => .no
  else .no
theorem ds_putK {i : Nat} {x : Str} {a b : Expr} {fv fk : En → Out Rv} {px pos' pos : Pos} {k : Nat} (r : Room k X.A) (hN : X.N[i]? = some x) (hv : Vis X.env.scope x) (ha : DE X c mv W a fv) (hb : DE X c mv W b fk) (hd : (x == ("__debug__" : Str)) = false := by decide)
    (hcd : (x == ("__classdict__" : Str)) = false := by decide) (hs : swapsWith a (some (.Subscript (.Name x px) b pos')) pos.line X.env = pure false := by rfl) :
    DS X c mv W (.Assign [.Subscript (.Name x px) b pos'] a pos) (sPutK i fv fk) := by
  refine ps_imp (ps_dput (hu_of r) (pe_var hN hv hd hcd) hb ha hs) fun D σ H h => ?_
  refine then_ok (R := rvR c mv) (c := c) (mv := mv) (W := W) (D := D) h fun F1 H1 f1 q1 e1 y r s1 E1 r1 d1 p1 => ?_
  split at p1
  · rename_i hl
    have hat : ∃ w, σ[i]? = some (some w) := by
      unfold isDkOwn at hl
      split at hl
      · rename_i ks os q
        obtain ⟨v, fo, fr, hv', _⟩ := E1.take q
        exact ⟨v, hv'⟩
      · cases hl
    obtain ⟨w, hσ⟩ := hat
    refine ⟨w, hσ, ?_⟩
    show rd c mv (rvR c mv) W fk σ H1 _
    refine then2_ok (R := rvR c mv) s1 E1 r1.has p1 fun F2 H2 f2 q2 e2 u rk s2 E2 r2' d2 p2 => ?_
    have ap := s2.apart (fun b hb => (r1.has b hb).2) d1
    cases z1 : look e2 rk with
    | none => rw [z1] at p2; exact p2.elim
    | some kd =>
      rw [z1] at p2
      simp only at p2
      have hkd := look_ok s2.fh E2 r2' z1
      cases z2 : keyD kd with
      | none => rw [z2] at p2; exact p2.elim
      | some k =>
        rw [z2] at p2
        simp only at p2
        have hw := key_V hkd z2
        subst hw
        cases z : fix e2 r with
        | none => rw [z] at p2; exact p2.elim
        | some yy =>
          obtain ⟨d, e3⟩ := yy
          rw [z] at p2
          simp only at p2
          obtain ⟨F3, f3, s3, k3, E3, m3⟩ := fix_ok s2.fh E2 (r1.stp s2 d1) (fun b hb z => ap b hb (List.mem_append_left _ z)) z
          split at p2
          · rename_i ks os hq
            split at p2
            · rename_i hsz
              obtain ⟨v', fo, fr, hv', ho, E4, d4, g4⟩ := E3.take hq
              rw [hσ] at hv'; cases hv'
              cases ho with
              | @dK l fl kvs _ _ hH hF hn hk hall =>
                subst hk
                rw [List.length_map] at hsz
                refine ⟨l, _, rfl, DPut.k (k := k) hH (Nat.lt_of_lt_of_le hsz (by decide)), ?_⟩
                obtain ⟨f5, k5, m5⟩ := putK_ow (k := k) k3 hall
                have st1 : Stp F3 H2 [l] F3 (upd H2 l (.dK (putK kvs k y))) [l] := Stp.chg s3.fh (List.mem_singleton.mpr rfl) hF
                have nl : ∀ b ∈ f5, b ∉ [l] := fun b hb z => by
                  rw [List.mem_singleton] at z; subst z
                  exact hn (m5 _ hb)
                have p3 := PoS.step p2 ((s3.part (fp2 := f3) (fq := (f2 ++ q2) ++ q1) (fun b hb => by
                  rcases List.mem_append.mp hb with h | h
                  · exact List.mem_append_left _ (List.mem_append_left _ h)
                  · exact List.mem_append_right _ h) fun _ h => h))
                refine chg_ok (fp := f3) (fo := f5) s3.fh hσ E4 hF (by rw [hH]; intro q; cases q) (d4 l List.mem_cons_self) (fun b hb z => d4 b (List.mem_cons_of_mem _ (m5 b hb)) z) (.dK upd_same hF (fun z => hn (m5 _ z)) putK_fst (st1.owAll k5 nl)) (fun b hb => ?_) p3
                rcases hb with h | h | h
                · exact (g4 b).mpr (.inr h)
                · subst h; exact (g4 _).mpr (.inl List.mem_cons_self)
                · exact (g4 b).mpr (.inl (List.mem_cons_of_mem _ (m5 b h)))
            · exact p2.elim
          · exact p2.elim
  · exact p1.elim

/-! ### dict(a tuple of pairs) -/
def pairOf : D → Option (Key × D)
  | .tup _ [k, d] => (keyD k).map fun k => (k, d)
  | _ => none
def pairsOf : List D → Option (List (Key × D))
  | [] => some []
  | d :: ds => match pairOf d with
    | none => none
    | some p => (pairsOf ds).map (p :: ·)
def putPairs (ks : List Key) (ds : List D) : List (Key × D) → List Key × List D
  | [] => (ks, ds)
  | p :: ps => putPairs (putKs ks p.1) (putOs ks ds p.1 p.2) ps
def dictTD : List D → Option O
  | [.tup true ds] => match pairsOf ds with
    | none => none
    | some ps => if ps.length ≤ 1000000 then some (.dK (putPairs [] [] ps).1 ((putPairs [] [] ps).2.map .fz)) else none
  | _ => none
def rDictT (K : PySem.W.Frag) : List V → Hp → VK → Prop := fun xs H Q => ∃ (a : Addr) (o : Obj) (ps : List Addr) (kvs : List (Key × V)), xs = [.ref a] ∧ H a = some (.frz o (.tup (ps.map V.ref))) ∧ o.dict = none ∧
  Paired (fun p kv => SqT K H p [kV kv.1, kv.2]) ps kvs ∧ ∀ p, H p = none → Q (.ref p) (upd H p (.dK (mergeK [] kvs)))
theorem call_dictT (hcalm : X.calm = true) : CallR X (.type "dict") (rDictT X.K) := by
  intro pins s σ H xs us Q I r q
  obtain ⟨a, o, ps, kvs, rfl, hq, hdn, hp, q⟩ := q
  obtain ⟨u, rfl, rx⟩ := vals1 r
  cases rx
  obtain ⟨ho, hz, its, rv, ob, ho2, hc, n, hdat⟩ := I.hok a _ hq
  rw [ho] at ho2; cases ho2
  have ei := refs_at rv
  subst ei
  rw [List.length_map] at hz
  obtain ⟨prs, rel, hl, hpr⟩ := pairs_of I hp
  refine call_dict_tuple (prs := prs) (I.ok.hd hcalm) ho hc hdn hdat (by simp [hl]) (by rw [hl]; exact hz) (fun j q' e => ?_) fun h' tk hd' k => ?_
  · obtain ⟨b, u, e1, e2, e3⟩ := hpr j q' e
    exact ⟨b, u, by simp [e1], e2, e3⟩
  · have hm : (s.heap.objs.size == sysModules) = false := beq_eq_false_iff_ne.mpr (Nat.ne_of_gt I.big)
    have few : (mergeK [] kvs).length ≤ sizeLine := by
      refine Nat.le_trans (length_mergeK kvs []) ?_
      rw [List.length_nil, Nat.zero_add, rel.length, hl]
      exact hz
    exact ⟨.ref s.heap.objs.size, upd H s.heap.objs.size (.dK (mergeK [] kvs)), I.laid (t' := tk) k (Nat.le_refl _) (show ObjOk X.prog X.w _ _ _ (.dK (mergeK [] kvs)) from ⟨few, hm, merged [] prs, KV.merge rel .nil, hd'⟩), rfl, q _ (I.hok.fresh (Nat.le_refl _))⟩
theorem pairs_ok {F : Hp} : ∀ {vs : List V} {ds : List D} {ps : List (Key × D)}, FzAll c F vs ds → pairsOf ds = some ps → ∃ (as : List Addr) (kvs : List (Key × V)), vs = as.map V.ref ∧ Paired (fun p kv => SqT c.K F p [kV kv.1, kv.2]) as kvs ∧ kvs.map (·.1) = ps.map (·.1) ∧ FzAll c F (kvs.map (·.2)) (ps.map (·.2))
  | _, _, _, .nil, e => by cases e; exact ⟨[], [], rfl, .nil, rfl, .nil⟩
  | _, d :: ds, ps, .cons h r, e => by
    unfold pairsOf at e
    cases z : pairOf d with
    | none => rw [z] at e; cases e
    | some p =>
      rw [z] at e
      simp only at e
      cases z2 : pairsOf ds with
      | none => rw [z2] at e; cases e
      | some qs =>
        rw [z2] at e
        cases e
        obtain ⟨as, kvs, e1, e2, e3, e4⟩ := pairs_ok r z2
        unfold pairOf at z
        split at z
        · rename_i k0 k d'
          cases zk : keyD k with
          | none => rw [zk] at z; cases z
          | some kk =>
            rw [zk] at z
            cases z
            cases h with
            | @tup a xs _ _ hs _ ha =>
              cases ha with
              | cons hk ha =>
                cases ha with
                | cons hd ha =>
                  cases ha
                  have := key_V hk zk
                  subst this
                  exact ⟨a :: as, (kk, _) :: kvs, by rw [e1]; rfl, .cons hs e2, by rw [List.map_cons, List.map_cons, e3], .cons hd e4⟩
        · cases z
theorem merge_ok {F : Hp} : ∀ {kvs : List (Key × V)} {ps : List (Key × D)} {acc : List (Key × V)} {ds : List D}, kvs.map (·.1) = ps.map (·.1) → FzAll c F (kvs.map (·.2)) (ps.map (·.2)) → FzAll c F (acc.map (·.2)) ds →
    (mergeK acc kvs).map (·.1) = (putPairs (acc.map (·.1)) ds ps).1 ∧ FzAll c F ((mergeK acc kvs).map (·.2)) (putPairs (acc.map (·.1)) ds ps).2
  | [], [], acc, ds, _, _, h => ⟨rfl, h⟩
  | [], _ :: _, _, _, e, _, _ => by cases e
  | _ :: _, [], _, _, e, _, _ => by cases e
  | kv :: kvs, p :: ps, acc, ds, e, hz, h => by
    rw [List.map_cons, List.map_cons] at e
    injection e with e1 e2
    cases hz with
    | cons hz1 hz2 =>
      have step : FzAll c F ((putK acc kv.1 kv.2).map (·.2)) (putOs (acc.map (·.1)) ds kv.1 p.2) := by
        have key : ∀ {acc : List (Key × V)} {ds : List D}, FzAll c F (acc.map (·.2)) ds → FzAll c F ((acc.map fun q => if q.1 = kv.1 then (q.1, kv.2) else q).map (·.2)) (putAt (acc.map (·.1)) ds kv.1 p.2) := by
          intro acc
          induction acc with
          | nil => intro ds h; cases h; exact .nil
          | cons q acc ih =>
            intro ds h
            cases h with
            | cons h1 h2 =>
              by_cases z : q.1 = kv.1
              · simp only [List.map_cons, putAt, if_pos z]
                exact .cons hz1 (ih h2)
              · simp only [List.map_cons, putAt, if_neg z]
                exact .cons h1 (ih h2)
        unfold putK putOs
        by_cases q : kv.1 ∈ acc.map (·.1)
        · rw [if_pos (any_mem.mpr q), if_pos q]
          exact key h
        · rw [if_neg (fun z => q (any_mem.mp z)), if_neg q, List.map_append]
          exact h.append (.cons hz1 .nil)
      have := merge_ok (acc := putK acc kv.1 kv.2) e2 hz2 step
      rw [putK_fst] at this
      unfold putPairs
      rw [← e1]
      exact this
theorem fop_dictT (hK : X.K = c.K) : FOp c (rDictT X.K) dictTD := fun F H vs ds o Q s h e k => by
  rw [hK]
  unfold dictTD at e
  split at e
  · rename_i ds0
    split at e
    · cases e
    · rename_i ps hps
      split at e
      · rename_i hsz
        cases e
        cases h with
        | cons h1 h2 =>
          cases h2
          cases h1 with
          | @tup a xs _ _ hs hk ha =>
            obtain ⟨ob, hob, hdn⟩ := hk rfl
            obtain ⟨as, kvs, e1, e2, e3, e4⟩ := pairs_ok ha hps
            subst e1
            refine ⟨a, ob, as, kvs, rfl, s _ _ hob, hdn, Paired.mapP e2 fun p q z => s.sqT z, fun p hp => ?_⟩
            obtain ⟨m1, m2⟩ := merge_ok (acc := []) e3 e4 .nil
            have st : Stp F H [] F (upd H p (.dK (mergeK [] kvs))) [p] := Stp.lay s hp fun _ h => h
            have Fp : F p = none := by
              cases q : F p with
              | none => rfl
              | some u => have := s p u q; rw [hp] at this; cases this
            exact k F _ [p] _ st (.dK upd_same Fp (fun z => nomatch z) m1 (FzAll.ow (m2.mono st.ff)))
      · cases e
  · cases e
theorem de_dictT {a : Expr} {f : En → Out (List Rv)} {p pos : Pos} (hK : X.K = c.K) (hc : X.calm = true) (hm : X.mg "dict" = none) (hg : Gl X "dict") (ha : DA X c mv W [a] f) (he : starEach [a] X.env = (false, eval a X.env) :: starEach [] X.env := by rfl) : DE X c mv W (.Call (.Name "dict" p) [a] [] pos) (eF dictTD f) :=
  de_typeF (call_dictT hc) (fop_dictT hK) hg hm (by decide +kernel) ha (he := he)
end
end DL

set_option Elab.async false
set_option linter.all false
set_option maxRecDepth 100000
set_option maxHeartbeats 2000000
/-! DL, part M: tuple(d.items()). -/
namespace DL
open PySem L2 PySem.Spec PyProof.Rows
section
variable {X : Cx} {c : Cs} {mv : V} {W : WX}
/-- the pairs' tuples come to be tracked -/
theorem pairs_laid {pins : List (Addr × Obj)} {σ : L2.St} {H : Hp} {s : Shared} {h' : Heap} {tk : Nat} {kvs : List (Key × V)} {vs : List (Key × Value)} {as : List Addr} (I : Inv X pins σ H s) (kv : KV kvs vs)
    (old : ∀ b o, s.heap.get? b = some o → h'.get? b = some o) (hl : as.length = vs.length) (G : PySem.W.KdxG (mixKind X.prog X.w) vs s.heap.objs.size h' as) :
    (∀ t ∈ as, H t = none) ∧ as.Nodup ∧ Inv X pins σ (LiI.putT H as kvs) { s with heap := h', toks := tk } := by
  have len : kvs.length = vs.length := Paired.length kv
  have apart : as.Nodup := by
    refine List.Pairwise.imp ?_ G.rise
    intro a b h
    exact Nat.ne_of_lt h
  have fresh : ∀ t ∈ as, H t = none := by
    intro t ht
    exact I.hok.fresh (Nat.le_of_lt (G.above t ht))
  have there := LiI.putT_at as kvs H (by omega) apart
  have other : ∀ b, b ∉ as → LiI.putT H as kvs b = H b := fun b hb => LiI.putT_off as kvs H hb
  have below : ∀ b o, s.heap.get? b = some o → b ∉ as := by
    intro b o e z
    exact Nat.lt_asymm (Heap.lt_size e) (G.above b z)
  have keeps : ∀ b u, H b = some u → LiI.putT H as kvs b = some u := by
    intro b u e
    rw [other b (fun z => by rw [fresh b z] at e; cases e)]
    exact e
  refine ⟨fresh, apart, ?_⟩
  have un : Un (frs X.stack) [] H (LiI.putT H as kvs) s.heap h' :=
    { keep := fun b o q _ _ _ => old b o q
      slot := fun b o q _ _ _ => ⟨o.slots, old b o q⟩
      free := fun b o q n _ => by rw [other b (below b o q)]; exact n
      there := fun b o q _ => ⟨o, old b o q⟩
      tups := fun b xs q => keeps b _ q
      frzs := fun b o u q => keeps b _ q
      tbls := fun b ps q => ⟨#[], by rw [keeps b _ q]; simp⟩ }
  refine I.call (h' := h') (g' := s.gens) (d' := s.drawn) (t' := tk) (ch := []) un (fun b u q => ?_) I.bare (fun b z => absurd z (by simp))
  by_cases hb : b ∈ as
  · obtain ⟨j, pk, e1, e2, e3⟩ := LiI.paired_ix there hb
    rw [e3] at q
    cases q
    obtain ⟨key, k, x, f1, f2, f3⟩ := G.pairs j b e1
    obtain ⟨qv, g1, g2, g3⟩ := LiI.paired_get kv e2
    rw [f1] at g1
    cases g1
    have rk : RelV (kV pk.1) key := by
      rw [g2]
      exact relV_key f2
    exact ⟨by show 2 ≤ sizeLine; decide, [key, x], .cons rk (.cons g3 .nil), ⟨_, f3, rfl, _, rfl⟩⟩
  · rw [other b hb] at q
    exact (I.hok b u q).stay (fun d v _ y => old d v y) (fun d y => keeps d _ y) fun d xs y => keeps d _ y
def rItemsT : V → Hp → VK → Prop := fun x H Q => ∃ (d : Addr) (kvs : List (Key × V)), x = .ref d ∧ H d = some (.dK kvs) ∧
  ∀ (p : Addr) (o : Obj) (ts : List Addr), LiI.putT H ts kvs p = none → o.dict = none → ts.length = kvs.length → ts.Nodup → (∀ t ∈ ts, H t = none) → Q (.ref p) (upd (LiI.putT H ts kvs) p (.frz o (.tup (ts.map V.ref))))
def tTupItems (te : TE) : TE := fun σ H Q => te σ H fun x H1 => rItemsT x H1 Q
theorem pe_tupItems {e : Expr} {te : TE} {p apos cpos pos : Pos} (hc : X.calm = true) (he : PE X e te) (hg : Gl X "tuple") (hm : X.mg "tuple" = none) (hv : bootBuiltins "tuple" = some (.type "tuple")) (hbase : attributeBase e "items" X.env (eval e X.env) = eval e X.env := by rfl) (hline : (apos.endLine == cpos.line) = true := by rfl)
    (hs : starEach [.Call (.Attribute e "items" apos) [] [] cpos] X.env = (false, eval (.Call (.Attribute e "items" apos) [] [] cpos) X.env) :: starEach [] X.env := by rfl) :
    PE X (.Call (.Name "tuple" p) [.Call (.Attribute e "items" apos) [] [] cpos] [] pos) (tTupItems te) := by
  constructor
  intro pins s σ H Q I hq
  refine wpAny_Call_Name_kw (ld_blt I hg hm hv (PyProof.Rows.callWith_type1 ?_ hs rfl))
  rw [hs]
  show wpAny _ _ (spliced ((false, eval (.Call (.Attribute e "items" apos) [] [] cpos) X.env) :: backTo pos (starEach [] X.env))) _ _ s
  refine Calls.spliced_cons (wpAny_Call_method (T := "dict") (id := "dict.items") hbase rfl hline F.plainAttrs_dict F.slot_dict_items F.type_dict_items (thn (he.run pins s σ H _ I hq) ?_))
  rintro u s1 ⟨x, H1, I1, rx, d, kvs, ex, hd, q⟩
  subst ex
  obtain rfl : u = Value.ref d := rx
  obtain ⟨room, notSys, vs, kv, hdo⟩ := I1.hok d _ hd
  obtain ⟨ep, hat⟩ := hdo.dictAt
  have len : kvs.length = vs.length := Paired.length kv
  have I2 : Inv X pins σ H1 { s1 with heap := s1.heap.push { cls := .type "dict_items", data := .fields #[.ref d] } } := I1.kept (t' := s1.toks) fun b ob z => Heap.get?_push_of_some _ z
  refine ⟨hdo.typeIs, hdo.mapOf.noDict, ?_⟩
  show wpAny _ _ (callWith cpos (.builtin "dict.items") [.ref d] [] []) _ X.xe s1
  refine method_meetsIn F.slot_dict_items F.entry_dict_items rfl (PySem.evalArgs_none ⟨rfl, hdo.typeIs, F.args_dict_items_1 _, _, meets_dict_items (mixKind X.prog X.w) d notSys, ⟨vs, hdo⟩, Calls.spliced_nil ?_⟩)
  refine call_tuple_items (kvs := vs) (ep := ep) (I1.ok.hd hc) ⟨_, Heap.get?_push_size _ rfl, rfl, rfl⟩ (hat.push _) (by omega) fun h' tk as hk hl hG => ?_
  obtain ⟨new, apart, J⟩ := pairs_laid (tk := tk) I2 kv hk hl hG
  have at' : (h'.push { cls := .type "tuple", data := .seq (as.map Value.ref).toArray }).get? h'.objs.size = some { cls := .type "tuple", data := .seq (as.map Value.ref).toArray } := Heap.get?_push_size _ rfl
  have hf : LiI.putT H1 as kvs h'.objs.size = none := J.hok.fresh (Nat.le_refl _)
  exact ⟨.ref h'.objs.size, _, J.laid (t' := tk) (fun b o z => Heap.get?_push_of_some _ z) (Nat.le_refl _) (knownOk (by rw [List.length_map, hl, ← len]; exact room) (LiI.vals_refs as) at' rfl rfl), rfl, q _ _ as hf rfl (by omega) apart new⟩
def pairD (k : Key) (d : D) : D := .tup false [(match k with | .inl i => .int i | .inr x => .str x), d]
def pairsD : List Key → List D → List D
  | k :: ks, d :: ds => pairD k d :: pairsD ks ds
  | _, _ => []
/-- tuple(d.items()): the dict's things are taken over -/
def eTupItems (f : En → Out Rv) : En → Out Rv := fun e => (f e).bind fun r e1 => match fix e1 r with
  | some (.dK ks ds, e2) => .ok (.tm (.fz (.tup true (pairsD ks ds)))) e2
  | _ => .no
theorem keyV_fz {F : Hp} (k : Key) : Fz c F (kV k) (match k with | .inl i => .int i | .inr x => .str x) := by
  cases k with
  | inl i => exact .int
  | inr x => exact .str
theorem putT_fz {G : Hp} : ∀ {kvs : List (Key × V)} {ts : List Addr} {ks : List Key} {ds : List D}, Paired (fun (t : Addr) (p : Key × V) => G t = some (.tup [kV p.1, p.2])) ts kvs → kvs.map (·.1) = ks → FzAll c G (kvs.map (·.2)) ds → FzAll c G (ts.map V.ref) (pairsD ks ds)
  | _, _, _, _, .nil, e, h => by
    subst e
    cases h
    exact .nil
  | _, _, _, _, .cons (b := p) hp hr, e, h => by
    subst e
    cases h with
    | cons h1 h2 => exact .cons (.tup (SqT.of hp) noK (.cons (keyV_fz p.1) (.cons h1 .nil))) (putT_fz hr rfl h2)
theorem de_tupItems {a : Expr} {f : En → Out Rv} {p apos cpos pos : Pos} (hc : X.calm = true) (ha : DE X c mv W a f) (hg : Gl X "tuple") (hm : X.mg "tuple" = none) (hbase : attributeBase a "items" X.env (eval a X.env) = eval a X.env := by rfl) (hline : (apos.endLine == cpos.line) = true := by rfl)
    (hs : starEach [.Call (.Attribute a "items" apos) [] [] cpos] X.env = (false, eval (.Call (.Attribute a "items" apos) [] [] cpos) X.env) :: starEach [] X.env := by rfl) :
    DE X c mv W (.Call (.Name "tuple" p) [.Call (.Attribute a "items" apos) [] [] cpos] [] pos) (eTupItems f) :=
  pe_imp (pe_tupItems hc ha hg hm (by decide +kernel) hbase hline hs) fun σ H Q h => by
    obtain ⟨F, fp, e, s, E, p⟩ := h
    refine ⟨F, fp, e, s, E, Po.seq (R1 := rvR c mv) p fun r e1 F1 H1 f1 q1 v _ s1 E1 r1 d1 p1 => ?_⟩
    cases z : fix e1 r with
    | none => rw [z] at p1; exact p1.elim
    | some y =>
      obtain ⟨d, e2⟩ := y
      rw [z] at p1
      obtain ⟨F2, f2, s2, k2, E2, m2⟩ := fix_ok s1.fh E1 r1 d1 z
      cases d with
      | dK ks ds =>
        simp only at p1
        cases k2 with
        | @dK a kvs _ _ ha hk hz =>
          refine ⟨a, kvs, rfl, s2.fh _ _ ha, fun p o ts hp ho hl nd new => ?_⟩
          have off : ∀ b, b ∉ ts → LiI.putT H1 ts kvs b = H1 b := fun b hb => LiI.putT_off ts kvs H1 hb
          have atT := LiI.putT_at ts kvs H1 hl nd
          have kp : ∀ b o, H1 b = some o → LiI.putT H1 ts kvs b = some o := fun b o e => by
            rw [off b (fun z => by rw [new b z] at e; cases e)]; exact e
          have Fn : ∀ t ∈ ts, F2 t = none := fun t ht => by
            cases q : F2 t with
            | none => rfl
            | some u => have := s2.fh t u q; rw [new t ht] at this; cases this
          have has : ∀ t ∈ ts, LiI.putT H1 ts kvs t ≠ none := fun t ht => by
            obtain ⟨j, pk, _, _, e3⟩ := LiI.paired_ix atT ht
            rw [e3]; intro q; cases q
          -- the pairs, frozen
          have st : Stp F2 H1 [] (ice F2 (LiI.putT H1 ts kvs) ts) (LiI.putT H1 ts kvs) [] := by
            refine ⟨fun b u q => ?_, fun b u q => ?_, fun b u q _ => kp b u q, fun b n _ q => ?_, fun b hb => nomatch hb⟩
            · by_cases hb : b ∈ ts
              · rw [ice_in hb] at q; exact q
              · rw [ice_out hb] at q; exact kp b u (s2.fh b u q)
            · rw [ice_out (fun z => by rw [Fn b z] at q; cases q)]; exact q
            · by_cases hb : b ∈ ts
              · exact absurd (new b hb) n
              · rw [ice_out hb]; exact q
          have pz : FzAll c (ice F2 (LiI.putT H1 ts kvs) ts) (ts.map V.ref) (pairsD ks ds) := by
            refine putT_fz ?_ hk (hz.mono st.ff)
            have key : ∀ {as : List Addr} {qs : List (Key × V)}, Paired (fun (t : Addr) (p : Key × V) => LiI.putT H1 ts kvs t = some (.tup [kV p.1, p.2])) as qs → (∀ a ∈ as, a ∈ ts) → Paired (fun (t : Addr) (p : Key × V) => ice F2 (LiI.putT H1 ts kvs) ts t = some (.tup [kV p.1, p.2])) as qs := by
              intro as qs h
              induction h with
              | nil => intro _; exact .nil
              | cons h1 h2 ih => intro m; exact .cons (by rw [ice_in (m _ List.mem_cons_self)]; exact h1) (ih fun a ha => m a (List.mem_cons_of_mem _ ha))
            exact key atT fun a ha => ha
          refine new_tupK (c := c) st.fh pz (fun F3 H3 q3 v s3 h3 => ?_) p o hp ho
          have s4 := st.trans s3
          obtain ⟨s5, d5⟩ := s4.beside (fp := f2) E2.has
          exact p1 F3 H3 f2 q3 v (s2.trans s5) (E2.stp s4 fun b hb z => nomatch z) (.tm h3) d5
      | _ => exact p1.elim
end
end DL

set_option Elab.async false
set_option linter.all false
set_option maxRecDepth 100000
set_option maxHeartbeats 2000000
/-! DL, part N: walks over lists or tuples, minus, defs of the text, the law's end. -/
namespace DL
open PySem L2 PySem.Spec PyProof.Rows
section
variable {X : Cx} {c : Cs} {mv : V} {W : WX}
def iSeq (K : PySem.W.Frag) (tl : TE) : TI := fun σ H R => tl σ H fun x H1 => ∃ a, x = .ref a ∧ (((∃ xs, SqL K H1 a xs) ∧ R (Itl K a) H1) ∨ ((∃ xs, SqT K H1 a xs) ∧ R (Itt K a) H1))
theorem pi_seq {tg l : Expr} {tl : TE} (hl : PE X l tl) : PI X tg l (iSeq X.K tl) := by
  constructor
  intro pins s σ H R I h
  refine thn (hl.run pins s σ H _ I h) ?_
  rintro v s1 ⟨x, H1, I1, r1, a, rfl, q⟩
  obtain rfl : v = Value.ref a := r1
  have here : ∀ b ∈ [s1.heap.objs.size], FpOk X pins H1 b := fun b hb => by
    rw [List.mem_singleton] at hb
    subst hb
    exact I1.fpOk (Nat.le_refl _) (I1.hok.fresh (Nat.le_refl _))
  rcases q with ⟨⟨xs, hq⟩, q⟩ | ⟨⟨xs, hq⟩, q⟩
  · obtain ⟨its, rv, pl, _⟩ := I1.list hq
    exact wpAny_pyIter_list pl.isList ⟨s1.heap.objs.size, [s1.heap.objs.size], _, _, H1, rfl, I1.kept (t' := s1.toks) (fun b o e => Heap.get?_push_of_some _ e), turn_list a _, ⟨_, Heap.get?_push_size _ rfl, rfl, rfl⟩, here, q⟩
  · obtain ⟨its, rv, pl, _⟩ := I1.tuple hq
    exact wpAny_pyIter_tuple (show s1.heap.IsTuple a its.toArray from pl) ⟨s1.heap.objs.size, [s1.heap.objs.size], _, _, H1, rfl, I1.kept (t' := s1.toks) (fun b o e => Heap.get?_push_of_some _ e), turn_tuple a _, ⟨_, Heap.get?_push_size _ rfl, rfl, rfl⟩, here, q⟩
theorem di_seq {tg l : Expr} {f : En → Out Rv} (hK : X.K = c.K) (h : DE X c mv W l f) : DI X c mv W tg l (itSeq f) :=
  pi_imp (pi_seq h) fun σ H R h => by
    obtain ⟨F, fp, e, s, E, p⟩ := h
    refine ⟨F, fp, e, s, E, Po.seq (R1 := rvR c mv) p fun r e1 F1 H1 f1 q1 v _ s1 E1 r1 d1 p1 => ?_⟩
    cases z : fix e1 r with
    | none => rw [z] at p1; exact p1.elim
    | some y =>
      obtain ⟨d, e2⟩ := y
      rw [z] at p1
      obtain ⟨F2, f2, s2, k2, E2, m2⟩ := fix_ok s1.fh E1 r1 d1 z
      cases d with
      | lst ds =>
        cases k2 with
        | @lst a xs ds hs ha =>
          rw [hK]
          refine ⟨a, rfl, .inl ⟨⟨xs, s2.fh.sqL hs⟩, p1 F2 H1 f2 [] _ (by rw [List.append_nil]; exact s2) E2 ⟨rfl, ?_⟩ fun b hb => nomatch hb⟩⟩
          refine ⟨fun H sH => ⟨xs, sH.sqL hs, by rw [ha.length]; exact Nat.le_refl _⟩, fun i H d sH hd => ?_, fun i F3 H d x H' s3 sH hd hy => ?_⟩
          · obtain ⟨x, hx, _⟩ := ha.get hd
            exact ⟨xs, x, sH.sqL hs, hx⟩
          · obtain ⟨rfl, hy⟩ := hy
            obtain ⟨x', hx', hz⟩ := ha.get hd
            have := hy xs ((s3.trans sH).sqL hs)
            rw [hx'] at this; cases this
            exact ⟨F3, Stp.refl sH, hz.mono s3⟩
      | tup k ds =>
        cases k2 with
        | @tup a xs _ ds hs _ ha =>
          rw [hK]
          refine ⟨a, rfl, .inr ⟨⟨xs, s2.fh.sqT hs⟩, p1 F2 H1 f2 [] _ (by rw [List.append_nil]; exact s2) E2 ⟨rfl, ?_⟩ fun b hb => nomatch hb⟩⟩
          refine ⟨fun H sH => ⟨xs, sH.sqT hs, by rw [ha.length]; exact Nat.le_refl _⟩, fun i H d sH hd => ?_, fun i F3 H d x H' s3 sH hd hy => ?_⟩
          · obtain ⟨x, hx, _⟩ := ha.get hd
            exact ⟨xs, x, sH.sqT hs, hx⟩
          · obtain ⟨rfl, hy⟩ := hy
            obtain ⟨x', hx', hz⟩ := ha.get hd
            have := hy xs ((s3.trans sH).sqT hs)
            rw [hx'] at this; cases this
            exact ⟨F3, Stp.refl sH, hz.mono s3⟩
      | _ => exact p1.elim
theorem one_ok {f : En → Out Rv} {k : List Rv → En → Out Rv} {R : V → Hp → VK → Prop} {Q : VK} {σ : L2.St} {H : Hp}
    (h : ∃ F fp e, Sub F H ∧ EnvR c mv F H fp σ e ∧ Po c mv (rvR c mv) W F H fp σ ((aCons f aNil e).bind k) Q)
    (hk : ∀ F H fp fq e v rs, Sub F H → EnvR c mv F H fp σ e → RvAll c mv F H σ fq [v] rs → (∀ b ∈ fq, b ∉ fp) → Po c mv (rvR c mv) W F H (fp ++ fq) σ (k rs e) Q → R v H Q) : rd c mv (rvR c mv) W f σ H fun x H1 => R x H1 Q := by
  obtain ⟨F, fp, e, s, E, p⟩ := h
  have re : (aCons f aNil e).bind k = (f e).bind fun a e1 => k [a] e1 := by
    unfold aCons aNil
    cases f e <;> rfl
  rw [re] at p
  refine ⟨F, fp, e, s, E, Po.seq (R1 := rvR c mv) p fun a e1 F1 H1 f1 q1 v _ s1 E1 r1 d1 p1 => ?_⟩
  exact hk F1 H1 f1 (q1 ++ []) e1 v [a] s1.fh E1 (.cons r1 .nil fun b hb z => nomatch z) (fun b hb => d1 b (by simpa using hb)) (by simpa using p1)
theorem vop_neg : VOp c (fun vs H Q => ∃ x, vs = [x] ∧ rU (fun i => .int (-i)) x H Q) negD := fun F H vs ds d Q s h e k => by
  unfold negD at e
  split at e
  · cases e
    cases h with
    | cons h1 h2 => cases h2; cases h1; exact ⟨_, rfl, _, rfl, k _ fun _ => .int⟩
  · cases e
theorem de_neg {a : Expr} {f : En → Out Rv} {pos : Pos} (ha : DE X c mv W a f) : DE X c mv W (.UnaryOp .USub a pos) (eV negD (aCons f aNil)) :=
  pe_imp (pe_un un_neg ha) fun σ H Q h => one_ok (R := fun x H Q => rU (fun i => .int (-i)) x H Q) h fun F H fp fq e v rs s E rr d p => by
    obtain ⟨x, e, q⟩ := eV_ok vop_neg s E rr p
    cases e
    exact q
end

/-! ### the text's defs -/
/-- a def that stands in the text, called by its parameters -/
structure Src (K : PySem.W.Frag) (mg : Str → Option Value) (x qual : Str) (st : Stmt) (ps : List Str) : Prop where
  ex : ∃ (f : Addr) (fd : FuncData), Fun K x qual st f fd ∧ mg x = some (.ref f) ∧ Binds K fd ps []
theorem src_mk {K : PySem.W.Frag} {mg : Str → Option Value} {h : Heap} {f : Addr} {x qual : Str} {st : Stmt} {ps : List Str} {oc : Value} {od an : Option Addr} {osl : Array (Option Value)} {kV doc pm cdv ct : Value} (X : K.In h) (G : h.Ns mainGlobals mg)
    (a : PySem.W.nsIn K mainGlobals x = some (some (.ref f))) (l : K.lookup f = some ⟨oc, od, .func (PySem.W.fnOf x qual (defArgs st) (defBody st) (defScope st) .none kV doc pm an cdv ct), osl⟩)
    (cd : PySem.W.codeIn K cdv qual = true) (kp : PySem.W.keepIn K (.ref f) = true)
    (b : ∀ (kV doc pm : Value) (an : Option Addr) (cdv ct : Value) (us : List Value), us.length = ps.length → bindArgs (PySem.W.fnOf x qual (defArgs st) (defBody st) (defScope st) .none kV doc pm an cdv ct) ⟨us, []⟩ = pure (ps.zip us)) : Src K mg x qual st ps :=
  ⟨f, _, fun_mk l cd kp, PySem.W.mg_of X G a, (fun_mk l cd kp).binds b⟩
section
variable {P : Program} {w : World} {mg : Str → Option Value} {base : Heap} {c : Cs} {j k n : Nat} {x qual : Str} {st : Stmt} {N ps : List Str} {g : SS} {φ : List D → Res}
theorem Src.kn (S : Src c.K mg x qual st ps) (sc : FnScope N ps (defScope st))
    (body : ∀ (f : Addr) (cdv : Value) (A : Around) (outer : List Env) (s : Shared) (H : Hp) (E : XK), Quiet (A.deeper (envOfC qual (defScope st) s.heap.objs.size f cdv)) → Room k (A.deeper (envOfC qual (defScope st) s.heap.objs.size f cdv)) →
      DSs (cxOf (L2.CX P w) P w c.K mg base N qual (defScope st) f cdv A outer s H E) c .non (fun cls d _ H => E cls d H) (defBody st) g) :
    Kn P w mg base c (k + 1) x ps.length (defSem N.length ps.length g) := by
  obtain ⟨f, fd, F, hm, hb⟩ := S.ex
  exact ⟨f, fd, ps, defP F sc fun cdv A outer s H E gq r => body f cdv A outer s H E gq r, hm, F.kp, hb⟩
theorem Kn.up (h : Kn P w mg base c j x n φ) (hjk : j ≤ k) : Kn P w mg base c k x n φ := by
  obtain ⟨f, fd, ps, F, r⟩ := h.ex
  exact ⟨f, fd, ps, F.up hjk, r⟩
def never : List D → Res := fun _ => .no
theorem Src.never (S : Src c.K mg x qual st ps) : Kn P w mg base c k x n DL.never := by
  obtain ⟨f, fd, F, hm, hb⟩ := S.ex
  refine ⟨f, fd, ps, .never fun vs H Q E h => ?_, hm, F.kp, hb⟩
  obtain ⟨_, _, _, _, _, z⟩ := h
  exact z
/-- the law's promise: of every list of at most 63 ints the answer is True -/
theorem spLaw_ok {K : PySem.W.Frag} {ca : Str → Option Addr} {φ : List D → Res} (h : ∀ ns : List Int, ns.length ≤ 63 → φ [.lst (ns.map .int)] = .ok (.fz (.bl true))) (H : Hp) (a : Addr) (ns : List Int) (hl : ns.length ≤ 63) (hS : SqL K H a (ns.map V.int)) :
    spP ⟨K, ca⟩ 1 φ [.ref a] H (fun v _ => v = .bl true) fun _ _ _ => False := by
  refine ⟨rfl, H, [.lst (ns.map .int)], Sub.refl H, .cons (.lst hS ?_) .nil, ?_⟩
  · have : ∀ ns : List Int, FzAll ⟨K, ca⟩ H (ns.map V.int) (ns.map D.int) := fun ns => by
      induction ns with
      | nil => exact .nil
      | cons n ns ih => exact .cons .int ih
    exact this ns
  · rw [h ns hl]
    intro F' H' fq v _ ho
    cases ho.out
    rfl
theorem walkL {l : PySem.W.OpenLaw} {k : Nat} {q : Program} {loose : List Str} {XP : (Str → Option Value) → Heap → Prop} {YP : World → Heap → Prop} {d : DefRec} {K : Params → PySem.W.Frag} {x : Str} {φ : List D → Res}
    (hn : l.most = some 63) (hdf : d.params.defaults = []) (hr : Room k callerA) (hY : ∀ (w : World) (h : Heap), YP w h → (K w.params).In h)
    (F : ∀ (w : World) (mg : Str → Option Value) (fa : Addr) (h : Heap), (K w.params).In h → h.Ns mainGlobals mg → mg d.name = some (.ref fa) →
      ∃ fd : FuncData, (∀ (s : Shared) (u : Value), BindsTo s fd ⟨[u], []⟩ [(x, u)]) ∧ ∀ base : Heap, (K w.params).In base → base.Ns mainGlobals mg → ∃ ca, FnG l.prog w (K w.params) mg base k fa fd [x] (spP ⟨K w.params, ca⟩ 1 φ))
    (hφ : ∀ ns : List Int, ns.length ≤ 63 → φ [.lst (ns.map .int)] = .ok (.fz (.bl true))) :
    PySem.W.WalkO q loose XP YP l.row.toRowW d [] (fun f vs => PySem.call f vs) :=
  walkG (n := 63) (sp := fun w vs H Q E => ∀ ca, spP ⟨K w.params, ca⟩ 1 φ vs H Q E) hn (by decide) hdf hr hY (fun w mg fa h KX G hm => by
    obtain ⟨fd, hb, hF⟩ := F w mg fa h KX G hm
    refine ⟨fd, hb, fun base hK hG => ?_⟩
    obtain ⟨ca, hf⟩ := hF base hK hG
    exact hf.weak fun vs H Q E q => q ca) fun w H a ns hl hO hS ca => spLaw_ok hφ H a ns hl hS
end
end DL

set_option Elab.async false
set_option linter.all false
set_option maxRecDepth 100000
set_option maxHeartbeats 2000000
/-! DL, part O: d.get(k, x). -/
namespace DL
open PySem L2 PySem.Spec PyProof.Rows
section
variable {X : Cx} {c : Cs} {mv : V} {W : WX}
/-- d.get(k, x) -/
def eGet2 (f g h : En → Out Rv) : En → Out Rv := fun e => (f e).bind fun r e1 => if isDk (treeOf e1 r) then (g e1).bind fun rk e2 => match look e2 rk with
    | none => .no
    | some kd => match keyD kd with
      | none => .no
      | some k => (h e2).bind fun rx e3 => match fix e3 rx with
        | none => .no
        | some (dx, e4) => match treeOf e4 r with
          | none => .no
          | some o => match lookO o k with
            | none => .no
            | some none => .ok (.tm (.fz dx)) e4
            | some (some d) => .ok (.tm (.fz d)) e4
  else .no
theorem de_get2 {o a b : Expr} {f g h : En → Out Rv} {apos cpos : Pos} {k : Nat} (r : Room k X.A) (ho : DE X c mv W o f) (ha : DE X c mv W a g) (hb : DE X c mv W b h) (m : M2 X o "get" apos a b cpos) : DE X c mv W (.Call (.Attribute o "get" apos) [a, b] [] cpos) (eGet2 f g h) :=
  pe_imp (pe_dget2 (hu_of r) ho ha hb m) fun σ H Q h => by
    obtain ⟨F, fp, e, s, E, p⟩ := h
    refine ⟨F, fp, e, s, E, Po.seq (R1 := rvR c mv) p fun r1 e1 F1 H1 f1 q1 v _ s1 E1 rr1 d1 p1 => ?_⟩
    split at p1
    · rename_i hd
      cases zt : treeOf e1 r1 with
      | none => rw [zt] at hd; cases hd
      | some o1 =>
        rw [zt] at hd
        obtain ⟨fo, ho1⟩ := tree_ok E1 rr1 zt
        obtain ⟨a1, kvs1, rfl, ha1⟩ := isDk_ok s1.fh ho1 hd
        refine ⟨a1, rfl, .inl ⟨kvs1, .inl ha1⟩, F1, f1, e1, s1.fh, E1, ?_⟩
        refine Po.seqS (R1 := rvR c mv) p1 rr1.has fun rk e2 F2 H2 f2 q2 w _ s2 E2 rr2 d2 p2 => ?_
        cases z1 : look e2 rk with
        | none => rw [z1] at p2; exact p2.elim
        | some kd =>
          rw [z1] at p2
          simp only at p2
          have hkd := look_ok s2.fh E2 rr2 z1
          cases z2 : keyD kd with
          | none => rw [z2] at p2; exact p2.elim
          | some k =>
            rw [z2] at p2
            simp only at p2
            have hw := key_V hkd z2
            subst hw
            have r12 := rr1.stp s2 d1
            have ap := s2.apart (fun b hb => (rr1.has b hb).2) d1
            rw [List.append_assoc] at p2
            refine ⟨F2, f2, e2, s2.fh, E2, Po.seqS (R1 := rvR c mv) p2 (fun b hb => ?_) fun rx e3 F3 H3 f3 q3 x _ s3 E3 rr3 d3 p3 => ?_⟩
            · rcases List.mem_append.mp hb with hb | hb
              · exact rr2.has b hb
              · exact r12.has b hb
            · have r13 := r12.stp s3 fun b hb z => ap b hb (List.mem_append_left _ z)
              have ap3 := s3.apart (fun b hb => (r12.has b hb).2) fun b hb z => ap b hb (List.mem_append_left _ z)
              cases z3 : fix e3 rx with
              | none => rw [z3] at p3; exact p3.elim
              | some y =>
                obtain ⟨dx, e4⟩ := y
                rw [z3] at p3
                simp only at p3
                obtain ⟨F4, f4, s4, k4, E4, m4⟩ := fix_ok s3.fh E3 rr3 d3 z3
                have r14 := r13.stp s4 ap3
                cases z5 : treeOf e4 r1 with
                | none => rw [z5] at p3; exact p3.elim
                | some o2 =>
                  rw [z5] at p3
                  simp only at p3
                  obtain ⟨fo2, ho2⟩ := tree_ok E4 r14 z5
                  cases z6 : lookO o2 k with
                  | none => rw [z6] at p3; exact p3.elim
                  | some res =>
                    rw [z6] at p3
                    obtain ⟨a2, kvs2, e2', ha2, l1, l2⟩ := lookO_ok s4.fh ho2 z6
                    cases e2'
                    refine ⟨valV kvs2 k, DGet.k ha2, ?_⟩
                    have p4 := Po.step p3 (s4.more (fq := q2 ++ q1) fun b hb => ?_)
                    · have sub : ∀ b ∈ f4, b ∈ f4 ++ (q2 ++ q1) := fun b hb => List.mem_append_left _ hb
                      cases res with
                      | none => rw [l2 rfl]; exact Po.fz s4.fh E4 k4 sub p4
                      | some d =>
                        obtain ⟨u, hu, hz⟩ := l1 d rfl
                        rw [hu]
                        exact Po.fz s4.fh E4 hz sub p4
                    · rcases List.mem_append.mp hb with hb | hb
                      · exact ((rr2.stp s3 d2).has b hb).2
                      · exact (r13.has b hb).2
    · exact p1.elim
end
end DL

set_option Elab.async false
set_option linter.all false
set_option maxRecDepth 100000
set_option maxHeartbeats 2000000
/-! DL, part P: plain help: places in lists, loops. -/
namespace DL
open PySem L2 PySem.Spec PyProof.Rows
theorem atI_lt {α : Type} {xs : List α} {i : Int} (h : 0 ≤ i) (h2 : i.toNat < xs.length) : atI xs i = some (xs[i.toNat]'h2) := by
  have e : ((i.toNat : Nat) : Int) = i := Int.toNat_of_nonneg h
  have := atI_nat (xs := xs) (j := i.toNat) (v := xs[i.toNat]'h2) (List.getElem?_eq_getElem h2)
  rwa [e] at this
theorem atI_mem {α : Type} {xs : List α} {i : Int} (h : 0 ≤ i) (h2 : i < xs.length) : ∃ x ∈ xs, atI xs i = some x :=
  ⟨xs[i.toNat]'(by omega), List.getElem_mem _, atI_lt h (by omega)⟩
theorem atI_0 {α : Type} {a : α} {l : List α} : atI (a :: l) 0 = some a := atI_nat (j := 0) rfl
theorem atI_1 {α : Type} {a b : α} {l : List α} : atI (a :: b :: l) 1 = some b := atI_nat (j := 1) rfl
theorem atI_2 {α : Type} {a b c : α} {l : List α} : atI (a :: b :: c :: l) 2 = some c := atI_nat (j := 2) rfl
theorem atI_3 {α : Type} {a b c d : α} {l : List α} : atI (a :: b :: c :: d :: l) 3 = some d := atI_nat (j := 3) rfl
theorem atI_4 {α : Type} {a b c d e : α} {l : List α} : atI (a :: b :: c :: d :: e :: l) 4 = some e := atI_nat (j := 4) rfl
theorem atI_5 {α : Type} {a b c d e f : α} {l : List α} : atI (a :: b :: c :: d :: e :: f :: l) 5 = some f := atI_nat (j := 5) rfl
theorem atI_negmem {α : Type} {xs : List α} {i : Int} (h : i < 0) (h2 : -(xs.length : Int) ≤ i) : ∃ x ∈ xs, atI xs i = some x := by
  unfold atI ixN
  rw [if_neg (by omega), if_pos h2]
  exact ⟨xs[(i + xs.length).toNat]'(by omega), List.getElem_mem _, List.getElem?_eq_getElem (by omega)⟩
theorem bind_ok {α β : Type} {a : α} {e : En} {k : α → En → Out β} : (Out.ok a e).bind k = k a e := rfl
theorem so_ok {α : Type} {a : α} {e : En} {k : α → En → SO} : (Out.ok a e).so k = k a e := rfl
theorem then_nx {e : En} {k : En → SO} : (SO.nx e).then k = k e := rfl
theorem then_rt {o : O} {e : En} {k : En → SO} : (SO.rt o e).then k = .rt o e := rfl
theorem then_ex {x : XD} {e : En} {k : En → SO} : (SO.ex x e).then k = .ex x e := rfl
theorem then_bk {e : En} {k : En → SO} : (SO.bk e).then k = .bk e := rfl
theorem then_ct {e : En} {k : En → SO} : (SO.ct e).then k = .ct e := rfl
theorem eVar_fz {e : En} {i : Nat} {d : D} (h : e.sl[i]? = some (some (.ow (.fz d)))) : eVar i e = .ok (.tm (.fz d)) e := by
  unfold eVar; rw [h]
/-- one turn of a comprehension -/
def turn1 (t : TgS) (tt : En → Out Bool) (f : En → Out Rv) (vs : List Nat) (d : D) (e : En) : Option (Option O × En) := match t d e with
  | none => none
  | some e1 => match tt e1 with
    | .ok true e2 => match f e2 with
      | .ok r e3 => match own e3 r with
        | none => none
        | some (o, e4) => some (some o, e4.wipe vs)
      | _ => none
    | .ok false e2 => some (none, e2.wipe vs)
    | _ => none
theorem cloop_cons {t : TgS} {tt : En → Out Bool} {f : En → Out Rv} {vs : List Nat} {d : D} {ds : List D} {acc : List O} {e e' : En} {r : Option O} (h : turn1 t tt f vs d e = some (r, e')) (hl : acc.length < 1000000) :
    cloop t tt f vs (d :: ds) acc e = cloop t tt f vs ds (acc ++ r.toList) e' := by
  unfold turn1 at h
  conv => lhs; unfold cloop
  cases h1 : t d e with
  | none => rw [h1] at h; cases h
  | some e1 =>
    rw [h1] at h
    simp only at h ⊢
    cases h2 : tt e1 with
    | ok b e2 =>
      rw [h2] at h
      cases b with
      | true =>
        simp only at h ⊢
        cases h3 : f e2 with
        | ok r1 e3 =>
          rw [h3] at h
          simp only at h ⊢
          cases h4 : own e3 r1 with
          | none => rw [h4] at h; cases h
          | some y =>
            obtain ⟨o, e4⟩ := y
            rw [h4] at h
            cases h
            simp only [if_pos hl, Option.toList]
        | ex x e3 => rw [h3] at h; cases h
        | no => rw [h3] at h; cases h
      | false =>
        cases h
        simp only [Option.toList, List.append_nil]
    | ex x e2 => rw [h2] at h; cases h
    | no => rw [h2] at h; cases h
/-- a comprehension whose turns leave the frame alone -/
theorem cloop_map {t : TgS} {tt : En → Out Bool} {f : En → Out Rv} {vs : List Nat} {e : En} {h : D → Option O} : ∀ {ds : List D} {acc : List O}, (∀ d ∈ ds, turn1 t tt f vs d e = some (h d, e)) → acc.length + ds.length ≤ 1000000 →
    cloop t tt f vs ds acc e = .ok (acc ++ ds.filterMap h) e
  | [], acc, _, _ => by rw [List.filterMap_nil, List.append_nil]; rfl
  | d :: ds, acc, hs, hl => by
    rw [List.length_cons] at hl
    rw [cloop_cons (hs d List.mem_cons_self) (by omega), cloop_map (fun x hx => hs x (List.mem_cons_of_mem _ hx)) ?_]
    · cases q : h d with
      | none => simp [q]
      | some o => simp [q]
    · cases h d with
      | none => simp; omega
      | some o => simp; omega
/-- .. none left out -/
theorem cloop_all {t : TgS} {tt : En → Out Bool} {f : En → Out Rv} {vs : List Nat} {e : En} {h : D → O} {ds : List D} (hs : ∀ d ∈ ds, turn1 t tt f vs d e = some (some (h d), e)) (hl : ds.length ≤ 1000000) :
    cloop t tt f vs ds [] e = .ok (ds.map h) e := by
  rw [cloop_map (h := fun d => some (h d)) hs (by simpa using hl), List.nil_append]
  congr 1
  induction ds with
  | nil => rfl
  | cons d ds ih => simp
theorem eComp_all {si : En → Out (List D)} {t : TgS} {tt : En → Out Bool} {f : En → Out Rv} {vs : List Nat} {e : En} {ds : List D} (h : D → O) (hsi : si e = .ok ds e) (hw : e.wipe vs = e) (ht : ∀ d ∈ ds, turn1 t tt f vs d e = some (some (h d), e)) (hl : ds.length ≤ 1000000) :
    eComp si t tt f vs e = .ok (.tm (.lst (ds.map h))) e := by
  unfold eComp
  rw [hsi]
  show Out.bind (cloop t tt f vs ds [] (e.wipe vs)) _ = _
  rw [hw, cloop_all ht hl]
  rfl
theorem eComp_some {si : En → Out (List D)} {t : TgS} {tt : En → Out Bool} {f : En → Out Rv} {vs : List Nat} {e : En} {ds : List D} (h : D → Option O) (hsi : si e = .ok ds e) (hw : e.wipe vs = e) (ht : ∀ d ∈ ds, turn1 t tt f vs d e = some (h d, e)) (hl : ds.length ≤ 1000000) :
    eComp si t tt f vs e = .ok (.tm (.lst (ds.filterMap h))) e := by
  unfold eComp
  rw [hsi]
  show Out.bind (cloop t tt f vs ds [] (e.wipe vs)) _ = _
  rw [hw, cloop_map (h := h) ht (by simpa using hl), List.nil_append]
  rfl
/-- a loop, turn by turn: I holds between the turns -/
theorem loop_inv {t : TgS} {g : SS} (I : Nat → En → Prop) : ∀ {ds : List D} {n : Nat} {e : En}, I n e → (∀ j d e, ds[j]? = some d → I (n + j) e → ∃ e1 e2, t d e = some e1 ∧ (g e1 = .nx e2 ∨ g e1 = .ct e2) ∧ I (n + j + 1) e2) → ∃ e', loop t g ds e = .nx e' ∧ I (n + ds.length) e'
  | [], n, e, h, _ => ⟨e, rfl, h⟩
  | d :: ds, n, e, h, st => by
    obtain ⟨e1, e2, h1, h2, h3⟩ := st 0 d e rfl h
    obtain ⟨e', k1, k2⟩ := loop_inv I (ds := ds) (n := n + 1) (e := e2) h3 fun j d e hj hI => by
      have := st (j + 1) d e (by simpa using hj)
      rw [show n + (j + 1) = n + 1 + j from by omega] at this
      exact this hI
    refine ⟨e', ?_, by rw [List.length_cons, show n + (ds.length + 1) = n + 1 + ds.length from by omega]; exact k2⟩
    unfold loop
    rw [h1]
    simp only
    rcases h2 with h2 | h2 <;> rw [h2] <;> exact k1
theorem sFor_inv {si : En → Out (List D)} {t : TgS} {g : SS} {ds : List D} {e e0 : En} (I : Nat → En → Prop) (hsi : si e = .ok ds e0) (h : I 0 e0) (st : ∀ j d e, ds[j]? = some d → I j e → ∃ e1 e2, t d e = some e1 ∧ (g e1 = .nx e2 ∨ g e1 = .ct e2) ∧ I (j + 1) e2) :
    ∃ e', sFor si t g e = .nx e' ∧ I ds.length e' := by
  unfold sFor
  rw [hsi]
  have := loop_inv I (n := 0) h fun j d e hj hI => by
    rw [Nat.zero_add] at hI ⊢
    exact st j d e hj hI
  rwa [Nat.zero_add] at this
theorem nums_get {lo : Int} {n j : Nat} {d : D} (h : (nums lo n)[j]? = some d) : j < n ∧ d = .int (lo + j) := by
  unfold nums at h
  rw [List.getElem?_map] at h
  cases q : (List.range n)[j]? with
  | none => rw [q] at h; cases h
  | some k =>
    rw [q] at h
    obtain ⟨h1, h2⟩ := List.getElem?_eq_some_iff.mp q
    rw [List.getElem_range] at h2
    subst h2
    cases h
    exact ⟨by simpa using h1, rfl⟩
theorem nums_length {lo : Int} {n : Nat} : (nums lo n).length = n := by
  unfold nums; rw [List.length_map, List.length_range]
theorem nums_mem {lo : Int} {n : Nat} {d : D} (h : d ∈ nums lo n) : ∃ j : Nat, j < n ∧ d = .int (lo + j) := by
  obtain ⟨j, hj⟩ := List.getElem?_of_mem h
  exact ⟨j, nums_get hj⟩
theorem nums0_mem {n : Nat} {d : D} (h : d ∈ nums 0 n) : ∃ j : Nat, j < n ∧ d = .int (j : Int) := by
  obtain ⟨j, h1, h2⟩ := nums_mem h
  exact ⟨j, h1, by rw [h2, Int.zero_add]⟩
theorem nums0_get {n j : Nat} {d : D} (h : (nums 0 n)[j]? = some d) : j < n ∧ d = .int (j : Int) := by
  obtain ⟨h1, h2⟩ := nums_get h
  exact ⟨h1, by rw [h2, Int.zero_add]⟩
theorem itemD_lst {ds : List D} {i : Int} : itemD (.lst ds) i = atI ds i := rfl
theorem itemD_tup {k : Bool} {ds : List D} {i : Int} : itemD (.tup k ds) i = atI ds i := rfl
theorem nodup_map {α β : Type} {f : α → β} : ∀ {l : List α}, (∀ a ∈ l, ∀ b ∈ l, f a = f b → a = b) → l.Nodup → (l.map f).Nodup
  | [], _, _ => List.nodup_nil
  | a :: l, h, n => by
    rw [List.nodup_cons] at n
    rw [List.map_cons, List.nodup_cons]
    refine ⟨fun z => ?_, nodup_map (fun x hx y hy => h x (List.mem_cons_of_mem _ hx) y (List.mem_cons_of_mem _ hy)) n.2⟩
    obtain ⟨b, hb, e⟩ := List.mem_map.mp z
    have := h b (List.mem_cons_of_mem _ hb) a List.mem_cons_self e
    subst this
    exact n.1 hb
theorem cutL_from {α : Type} {xs : List α} {t : Int} (h : 0 ≤ t) : cutL xs (some t) none = xs.drop t.toNat := by
  unfold cutL HT.sIx
  simp only
  rw [if_neg (by omega)]
  by_cases q : t.toNat ≤ xs.length
  · rw [Nat.min_eq_left q]
    exact List.take_of_length_le (by rw [List.length_drop]; exact Nat.le_refl _)
  · rw [Nat.min_eq_right (by omega), Nat.sub_self, List.take_zero]
    exact (List.drop_eq_nil_of_le (by omega)).symm
theorem cutL_to {α : Type} {xs : List α} {t : Int} (h : 0 ≤ t) : cutL xs none (some t) = xs.take t.toNat := by
  unfold cutL HT.sIx
  simp only
  rw [if_neg (by omega), List.drop_zero, Nat.sub_zero]
  by_cases q : t.toNat ≤ xs.length
  · rw [Nat.min_eq_left q]
  · rw [Nat.min_eq_right (by omega), List.take_of_length_le (Nat.le_refl _), List.take_of_length_le (by omega)]
theorem rangeOk_of {i : Int} (h1 : -(2 ^ 62) ≤ i) (h2 : i < 2 ^ 62) : rangeOk i = true := by
  unfold rangeOk; rw [decide_eq_true h1, decide_eq_true h2]; rfl
theorem rangeOk_int {i : Int} (h : 0 ≤ i) (h2 : i ≤ 1000000) : rangeOk i = true := by
  refine rangeOk_of (Int.le_trans ?_ h) (Int.lt_of_le_of_lt h2 ?_) <;> decide
theorem rangeOk_nat {m : Nat} (h : m ≤ 1000000) : rangeOk (m : Int) = true := rangeOk_int (Int.natCast_nonneg m) (Int.ofNat_le.mpr h)
theorem itRange1_int {f : En → Out (List Rv)} {e e' : En} {i : Int} (h : f e = .ok [.tm (.fz (.int i))] e') (h0 : 0 ≤ i) (h1 : i ≤ 1000000) : itRange1 f e = .ok (nums 0 i.toNat) e' := by
  unfold itRange1
  rw [h]
  show (if rangeOk i = true then Out.ok (nums 0 i.toNat) e' else .no) = _
  rw [if_pos (rangeOk_int h0 h1)]
theorem itRange1_nat {f : En → Out (List Rv)} {e e' : En} {m : Nat} (h : f e = .ok [.tm (.fz (.int (m : Int)))] e') (hm : m ≤ 1000000) : itRange1 f e = .ok (nums 0 m) e' :=
  itRange1_int h (Int.natCast_nonneg m) (Int.ofNat_le.mpr hm)
end DL

set_option Elab.async false
set_option linter.all false
set_option maxRecDepth 100000
set_option maxHeartbeats 2000000
/-! DL, part Q: what repr writes is short enough. -/
namespace DL
open PySem L2 PySem.Spec PyProof.Rows
mutual
/-- scalars, lists and tuples with ints that are not too long -/
def D.fit : D → Bool
  | .non => true
  | .bl _ => true
  | .int i => decide (i.natAbs < 10 ^ 30)
  | .str x => PyData.strOk x
  | .tup _ ds => fits ds
  | .lst ds => fits ds
  | .dK _ _ => false
  | .dT _ _ => false
  | .obj _ _ _ => false
def fits : List D → Bool
  | [] => true
  | d :: ds => d.fit && fits ds
end
mutual
/-- room for what repr writes -/
def D.wt : D → Nat
  | .non => 4
  | .bl _ => 5
  | .int _ => 31
  | .str x => 10 * x.length + 2
  | .tup _ ds => 2 + wts ds
  | .lst ds => 2 + wts ds
  | .dK _ _ => 0
  | .dT _ _ => 0
  | .obj _ _ _ => 0
def wts : List D → Nat
  | [] => 0
  | d :: ds => d.wt + 2 + wts ds
end
mutual
def D.dep : D → Nat
  | .tup _ ds => deps ds + 1
  | .lst ds => deps ds + 1
  | _ => 0
def deps : List D → Nat
  | [] => 0
  | d :: ds => max d.dep (deps ds)
end
theorem fits_iff : ∀ {ds : List D}, fits ds = true ↔ ∀ d ∈ ds, d.fit = true
  | [] => ⟨fun _ _ h => (nomatch h), fun _ => rfl⟩
  | d :: ds => by
    unfold fits
    rw [Bool.and_eq_true, fits_iff (ds := ds)]
    constructor
    · rintro ⟨h1, h2⟩ x hx
      rcases List.mem_cons.mp hx with rfl | hx
      · exact h1
      · exact h2 x hx
    · exact fun h => ⟨h d List.mem_cons_self, fun x hx => h x (List.mem_cons_of_mem _ hx)⟩
theorem wts_app : ∀ {xs ys : List D}, wts (xs ++ ys) = wts xs + wts ys
  | [], ys => by rw [List.nil_append]; unfold wts; omega
  | x :: xs, ys => by
    rw [List.cons_append]
    conv => lhs; unfold wts
    conv => rhs; unfold wts
    rw [wts_app]
    cases ys <;> simp [wts] <;> omega
theorem deps_app : ∀ {xs ys : List D}, deps (xs ++ ys) = max (deps xs) (deps ys)
  | [], ys => by rw [List.nil_append]; simp [deps]
  | x :: xs, ys => by
    rw [List.cons_append]
    simp only [deps]
    rw [deps_app, Nat.max_assoc]
theorem fits_app {xs ys : List D} : fits (xs ++ ys) = (fits xs && fits ys) := by
  rw [Bool.eq_iff_iff, Bool.and_eq_true, fits_iff, fits_iff, fits_iff]
  constructor
  · exact fun h => ⟨fun d hd => h d (List.mem_append_left _ hd), fun d hd => h d (List.mem_append_right _ hd)⟩
  · rintro ⟨h1, h2⟩ d hd
    rcases List.mem_append.mp hd with hd | hd
    · exact h1 d hd
    · exact h2 d hd
theorem deps_le {n : Nat} : ∀ {ds : List D}, (∀ d ∈ ds, d.dep ≤ n) → deps ds ≤ n
  | [], _ => Nat.zero_le _
  | d :: ds, h => by
    unfold deps
    exact Nat.max_le.mpr ⟨h d List.mem_cons_self, deps_le fun x hx => h x (List.mem_cons_of_mem _ hx)⟩
theorem wts_le {n : Nat} : ∀ {ds : List D}, (∀ d ∈ ds, d.wt ≤ n) → wts ds ≤ ds.length * (n + 2)
  | [], _ => by unfold wts; omega
  | d :: ds, h => by
    unfold wts
    have h1 := h d List.mem_cons_self
    have h2 := wts_le fun x hx => h x (List.mem_cons_of_mem d hx)
    rw [List.length_cons, Nat.succ_mul]
    omega
mutual
theorem fit_plain : ∀ {d : D}, d.fit = true → d.plain = true
  | .non, _ => rfl
  | .bl _, _ => rfl
  | .int _, _ => rfl
  | .str _, _ => rfl
  | .tup _ ds, h => by unfold D.plain; exact fits_plain (by simpa [D.fit] using h)
  | .lst ds, h => by unfold D.plain; exact fits_plain (by simpa [D.fit] using h)
theorem fits_plain : ∀ {ds : List D}, fits ds = true → plains ds = true
  | [], _ => rfl
  | d :: ds, h => by
    unfold fits at h
    rw [Bool.and_eq_true] at h
    unfold plains
    rw [fit_plain h.1, fits_plain h.2]
    rfl
end
mutual
theorem dep_pd : ∀ {d : D}, d.fit = true → d.pd.depth = d.dep
  | .non, _ => by simp [D.pd, D.dep, PyData.depth]
  | .bl _, _ => by simp [D.pd, D.dep, PyData.depth]
  | .int _, _ => by simp [D.pd, D.dep, PyData.depth]
  | .str _, _ => by simp [D.pd, D.dep, PyData.depth]
  | .tup _ ds, h => by
    have := deps_pd (ds := ds) (by simpa [D.fit] using h)
    simp [D.pd, D.dep, PyData.depth, this]
  | .lst ds, h => by
    have := deps_pd (ds := ds) (by simpa [D.fit] using h)
    simp [D.pd, D.dep, PyData.depth, this]
theorem deps_pd : ∀ {ds : List D}, fits ds = true → PyData.depthAll (pds ds) = deps ds
  | [], _ => by simp [pds, deps, PyData.depthAll]
  | d :: ds, h => by
    unfold fits at h
    rw [Bool.and_eq_true] at h
    simp [pds, deps, PyData.depthAll, dep_pd h.1, deps_pd h.2]
end
mutual
theorem lay_pd : ∀ {d : D}, d.fit = true → d.pd.canLay0 = true
  | .non, _ => by simp [D.pd, PyData.canLay0]
  | .bl _, _ => by simp [D.pd, PyData.canLay0]
  | .int _, _ => by simp [D.pd, PyData.canLay0]
  | .str _, h => by simpa [D.pd, PyData.canLay0, D.fit] using h
  | .tup _ ds, h => by
    have := lays_pd (ds := ds) (by simpa [D.fit] using h)
    simp [D.pd, PyData.canLay0, this]
  | .lst ds, h => by
    have := lays_pd (ds := ds) (by simpa [D.fit] using h)
    simp [D.pd, PyData.canLay0, this]
theorem lays_pd : ∀ {ds : List D}, fits ds = true → PyData.canLayAll0 (pds ds) = true
  | [], _ => by simp [pds, PyData.canLayAll0]
  | d :: ds, h => by
    unfold fits at h
    rw [Bool.and_eq_true] at h
    simp [pds, PyData.canLayAll0, lay_pd h.1, lays_pd h.2]
end
mutual
theorem show_pd : ∀ {d : D}, d.fit = true → d.pd.showable = true
  | .non, _ => by simp [D.pd, PyData.showable]
  | .bl _, _ => by simp [D.pd, PyData.showable]
  | .int i, h => by
    have h1 : i.natAbs < 10 ^ 30 := by simpa [D.fit] using h
    have h2 : i.natAbs.log2 < 1920 := by
      by_cases z : i.natAbs = 0
      · rw [z]; decide
      · rw [Nat.log2_lt z]
        exact Nat.lt_trans h1 (Nat.lt_of_lt_of_le (show 10 ^ 30 < 2 ^ 100 by decide) (Nat.pow_le_pow_right (by decide) (by decide)))
    simp [D.pd, PyData.showable, h2]
  | .str _, _ => by simp [D.pd, PyData.showable]
  | .tup _ ds, h => by
    have := shows_pd (ds := ds) (by simpa [D.fit] using h)
    simp [D.pd, PyData.showable, this]
  | .lst ds, h => by
    have := shows_pd (ds := ds) (by simpa [D.fit] using h)
    simp [D.pd, PyData.showable, this]
theorem shows_pd : ∀ {ds : List D}, fits ds = true → PyData.showableAll (pds ds) = true
  | [], _ => by simp [pds, PyData.showableAll]
  | d :: ds, h => by
    unfold fits at h
    rw [Bool.and_eq_true] at h
    simp [pds, PyData.showableAll, show_pd h.1, shows_pd h.2]
end
theorem textFrom_le : ∀ (ts : List Str) (k : Nat) (acc : Str), (textFrom k acc ts).length ≤ acc.length + PySem.piled ts
  | [], _, acc => Nat.le_add_right _ _
  | t :: ts, k, acc => by
    unfold textFrom
    refine Nat.le_trans (textFrom_le ts _ _) ?_
    rw [strLen_append, strLen_append, piled_cons]
    have : (((if k > 0 then ", " else "" : String) : Str)).length ≤ 2 := by split <;> decide
    omega
theorem tupleText_le (ts : List Str) : (tupleText ts).length ≤ 2 + PySem.piled ts := by
  unfold tupleText
  rw [strLen_append, strLen_append]
  have e1 : ((("(" : String) : Str)).length = 1 := rfl
  cases ts with
  | nil => decide
  | cons t r =>
    have := join_length_add (t :: r) (by simp)
    have e3 : (((if (t :: r).length == 1 then ",)" else ")" : String) : Str)).length ≤ 2 := by split <;> decide
    omega
theorem listText_le (ts : List Str) : (listText ts).length ≤ 2 + PySem.piled ts := by
  unfold listText
  rw [strLen_append]
  have := textFrom_le ts 0 "["
  have e1 : ((("[" : String) : Str)).length = 1 := rfl
  have e2 : ((("]" : String) : Str)).length = 1 := rfl
  omega
mutual
theorem len_pd : ∀ {d : D}, d.fit = true → d.pd.shown.length ≤ d.wt
  | .non, _ => by simp only [D.pd, PyData.shown, D.wt]; decide
  | .bl b, _ => by simp only [D.pd, PyData.shown, D.wt]; cases b <;> decide
  | .int i, h => by
    have h1 : i.natAbs < 10 ^ 30 := by simpa [D.fit] using h
    simp only [D.pd, PyData.shown, D.wt]
    have := int_text_length_le10 (k := 30) (by decide) h1
    show (Str.ofString (toString i)).length ≤ 31
    rw [PySem.ofString_length]
    exact this
  | .str x, h => by
    have h1 : PyData.strOk x = true := by simpa [D.fit] using h
    simp only [D.pd, PyData.shown, D.wt]
    refine StrLaws.reprText_len x fun c hc => ?_
    unfold PyData.strOk at h1
    rw [Array.all_eq_true'] at h1
    have := h1 c (Array.mem_toList_iff.mp hc)
    have := of_decide_eq_true this
    exact Nat.lt_trans this (by decide)
  | .tup _ ds, h => by
    have h1 := lens_pd (ds := ds) (by simpa [D.fit] using h)
    simp only [D.pd, PyData.shown, D.wt]
    exact Nat.le_trans (tupleText_le _) (by omega)
  | .lst ds, h => by
    have h1 := lens_pd (ds := ds) (by simpa [D.fit] using h)
    simp only [D.pd, PyData.shown, D.wt]
    exact Nat.le_trans (listText_le _) (by omega)
theorem lens_pd : ∀ {ds : List D}, fits ds = true → PySem.piled (PyData.shownAll (pds ds)) ≤ wts ds
  | [], _ => by simp [pds, PyData.shownAll, wts, PySem.piled]
  | d :: ds, h => by
    unfold fits at h
    rw [Bool.and_eq_true] at h
    simp only [pds, PyData.shownAll, wts]
    rw [piled_cons]
    have h1 := len_pd h.1
    have h2 := lens_pd h.2
    omega
end
theorem showOk_of {d : D} (h : d.fit = true) (hd : d.dep ≤ 64) (hw : d.wt ≤ most) : showOk d = true := by
  unfold showOk
  rw [fit_plain h, show_pd h, dep_pd h, decide_eq_true hd, decide_eq_true (Nat.le_trans (len_pd h) hw)]
  rfl
theorem eqOk_of {d : D} (h : d.fit = true) (hd : d.dep ≤ 64) : eqOk d = true := by
  unfold eqOk SeqAt.shaped
  rw [fit_plain h, lay_pd h, dep_pd h, decide_eq_true hd]
  rfl
mutual
theorem eqv_refl : ∀ {d : D}, d.fit = true → PyData.eqv d.pd d.pd = true
  | .non, _ => by simp [D.pd, PyData.eqv]
  | .bl _, _ => by simp [D.pd, PyData.eqv]
  | .int _, _ => by simp [D.pd, PyData.eqv]
  | .str _, _ => by simp [D.pd, PyData.eqv]
  | .tup _ ds, h => by
    have := eqvs_refl (ds := ds) (by simpa [D.fit] using h)
    simp [D.pd, PyData.eqv, this]
  | .lst ds, h => by
    have := eqvs_refl (ds := ds) (by simpa [D.fit] using h)
    simp [D.pd, PyData.eqv, this]
theorem eqvs_refl : ∀ {ds : List D}, fits ds = true → PyData.eqvAll (pds ds) (pds ds) = true
  | [], _ => by simp [pds, PyData.eqvAll]
  | d :: ds, h => by
    unfold fits at h
    rw [Bool.and_eq_true] at h
    simp [pds, PyData.eqvAll, eqv_refl h.1, eqvs_refl h.2]
end
theorem eqD_same {d : D} (h : d.fit = true) (hd : d.dep ≤ 64) : eqD [d, d] = some (.bl true) := by
  unfold eqD
  split
  · rename_i x y e
    cases e
    rw [beq_self_eq_true]
  · rename_i a b _ e
    cases e
    rw [eqOk_of h hd, eqv_refl h]
    rfl
  · rename_i _ n
    exact absurd rfl (n d d)
theorem neD_same {d : D} (h : d.fit = true) (hd : d.dep ≤ 64) : neD [d, d] = some (.bl false) := by
  unfold neD
  split
  · rename_i x y e
    cases e
    simp
  · rename_i a b _ e
    cases e
    rw [eqOk_of h hd, eqv_refl h]
    rfl
  · rename_i _ n
    exact absurd rfl (n d d)
theorem eqD_int {i j : Int} : eqD [.int i, .int j] = some (.bl (decide (i = j))) := by
  have e : (i == j) = decide (i = j) := by rw [Bool.eq_iff_iff]; simp
  simp [eqD, eqOk, D.plain, SeqAt.shaped, D.pd, PyData.canLay0, PyData.depth, PyData.eqv, e]
theorem neD_int {i j : Int} : neD [.int i, .int j] = some (.bl (!decide (i = j))) := by
  have e : (i == j) = decide (i = j) := by rw [Bool.eq_iff_iff]; simp
  simp [neD, eqOk, D.plain, SeqAt.shaped, D.pd, PyData.canLay0, PyData.depth, PyData.eqv, e]
theorem eqD_str {x y : Str} : eqD [.str x, .str y] = some (.bl (x == y)) := rfl
theorem neD_str {x y : Str} : neD [.str x, .str y] = some (.bl (x != y)) := rfl
theorem modD_of {i j : Int} (h : 0 < j) : modD [.int i, .int j] = some (.int (i % j)) := if_pos h
theorem divD_of {i j : Int} (h : 0 < j ∧ j < 1073741824) : divD [.int i, .int j] = some (.int (i / j)) := if_pos h
theorem mulD_l {i j : Int} (h : i.natAbs < 18446744073709551616) : mulD [.int i, .int j] = some (.int (i * j)) := if_pos (.inl h)
theorem mulD_r {i j : Int} (h : j.natAbs < 18446744073709551616) : mulD [.int i, .int j] = some (.int (i * j)) := if_pos (.inr h)
theorem addD_int {i j : Int} : addD [.int i, .int j] = some (.fz (.int (i + j))) := rfl
theorem reprD_of {d : D} (h : d.fit = true) (hd : d.dep ≤ 64) (hw : d.wt ≤ most) : reprD [d] = some (.str d.pd.shown) := by
  show (if showOk d then some (D.str d.pd.shown) else none) = _
  rw [showOk_of h hd hw]
  rfl
end DL

set_option Elab.async false
set_option linter.all false
set_option maxRecDepth 100000
set_option maxHeartbeats 2000000
/-! DL, part R: the functions on frames, one step at a time, at a frame that is written out. -/
namespace DL
open PySem L2 PySem.Spec PyProof.Rows

section
variable {sl : List (Option Sl)} {me : O} {i : Nat} {o : O} {r : Rv} {rs : List Rv} {d : D} {ds : List D} {t : TgS} {u : List D → En → Option En}
theorem at_k : En.at ⟨sl, me⟩ i = (match sl[i]? with | some (some (.ow o)) => some o | some (some .me) => some me | _ => none) := id rfl
theorem put_k : En.put ⟨sl, me⟩ i o = ⟨sl.set i (some (.ow o)), me⟩ := id rfl
theorem hole_k : En.hole ⟨sl, me⟩ i = ⟨sl.set i none, me⟩ := id rfl
theorem frz_k : En.frz ⟨sl, me⟩ i = (match sl[i]? with | some (some (.ow o)) => some (.fz o.val, ⟨sl.set i (some (.ow (.fz o.val))), me⟩) | some (some .me) => some (.fz me.val, ⟨sl, .fz me.val⟩) | _ => none) := id rfl
theorem own_tm_k : own ⟨sl, me⟩ (.tm o) = some (o, ⟨sl, me⟩) := id rfl
theorem own_sl_k : own ⟨sl, me⟩ (.sl i) = En.frz ⟨sl, me⟩ i := id rfl
theorem own_me_k : own ⟨sl, me⟩ .me = some (.fz me.val, ⟨sl, .fz me.val⟩) := id rfl
theorem look_tm_k : look ⟨sl, me⟩ (.tm o) = some o.val := id rfl
theorem look_sl_k : look ⟨sl, me⟩ (.sl i) = (En.at ⟨sl, me⟩ i).map O.val := id rfl
theorem look_me_k : look ⟨sl, me⟩ .me = some me.val := id rfl
theorem fix_k : fix ⟨sl, me⟩ r = (match own ⟨sl, me⟩ r with | some (o, e') => some (o.val, e') | none => none) := id rfl
theorem give_tm_k : give ⟨sl, me⟩ (.tm o) = some (o, ⟨sl, me⟩) := id rfl
theorem give_sl_k : give ⟨sl, me⟩ (.sl i) = (match sl[i]? with | some (some (.ow o)) => some (o, ⟨sl.set i none, me⟩) | _ => own ⟨sl, me⟩ (.sl i)) := id rfl
theorem give_me_k : give ⟨sl, me⟩ .me = own ⟨sl, me⟩ .me := id rfl
theorem fixAll_nil_k : fixAll ⟨sl, me⟩ [] = some ([], ⟨sl, me⟩) := id rfl
theorem fixAll_cons_k : fixAll ⟨sl, me⟩ (r :: rs) = (match fix ⟨sl, me⟩ r with | none => none | some (d, e1) => match fixAll e1 rs with | none => none | some (ds, e2) => some (d :: ds, e2)) := id rfl
theorem lookAll_nil_k : lookAll ⟨sl, me⟩ [] = some [] := id rfl
theorem lookAll_cons_k : lookAll ⟨sl, me⟩ (r :: rs) = (match look ⟨sl, me⟩ r with | none => none | some d => match lookAll ⟨sl, me⟩ rs with | none => none | some ds => some (d :: ds)) := id rfl
theorem ownAll_nil_k : ownAll ⟨sl, me⟩ [] = some ([], ⟨sl, me⟩) := id rfl
theorem ownAll_cons_k : ownAll ⟨sl, me⟩ (r :: rs) = (match own ⟨sl, me⟩ r with | none => none | some (d, e1) => match ownAll e1 rs with | none => none | some (ds, e2) => some (d :: ds, e2)) := id rfl
theorem tree_tm_k : treeOf ⟨sl, me⟩ (.tm o) = some o := id rfl
theorem tree_sl_k : treeOf ⟨sl, me⟩ (.sl i) = En.at ⟨sl, me⟩ i := id rfl
theorem tree_me_k : treeOf ⟨sl, me⟩ .me = some me := id rfl
theorem gN_k : gN i d ⟨sl, me⟩ = some ⟨sl.set i (some (.ow (.fz d))), me⟩ := id rfl
theorem gNil_k : gNil' [] ⟨sl, me⟩ = some ⟨sl, me⟩ := id rfl
theorem gCons_k : gCons' t u (d :: ds) ⟨sl, me⟩ = (match t d ⟨sl, me⟩ with | none => none | some e1 => u ds e1) := id rfl
theorem gT_k {k : Bool} : gT u (.tup k ds) ⟨sl, me⟩ = u ds ⟨sl, me⟩ := id rfl
theorem isLst_k : isLst ⟨sl, me⟩ i = (match sl[i]? with | some (some (.ow (.lst _))) => true | _ => false) := id rfl
theorem isDkOwn_k : isDkOwn ⟨sl, me⟩ i = (match sl[i]? with | some (some (.ow (.dK _ _))) => true | _ => false) := id rfl
theorem val_fz_k : (O.fz d).val = d := id rfl
theorem val_lst_k {os : List O} : (O.lst os).val = .lst (vals os) := id rfl
theorem val_dK_k {ks : List Key} {os : List O} : (O.dK ks os).val = .dK ks (vals os) := id rfl
theorem defSem_k {m n : Nat} {g : SS} : defSem m n g ds = (match g ⟨ds.map (fun d => some (.ow (.fz d))) ++ List.replicate (m - n) none, .fz .non⟩ with | .rt o _ => .ok o | .nx _ => .ok (.fz .non) | .ex x _ => .ex x | _ => .no) := id rfl
end
theorem eVar_k {i : Nat} {sl : List (Option Sl)} {me : O} : eVar i ⟨sl, me⟩ = (match sl[i]? with
  | some (some (.ow (.fz d))) => .ok (.tm (.fz d)) ⟨sl, me⟩
  | some (some (.ow _)) => .ok (.sl i) ⟨sl, me⟩
  | some (some .me) => .ok .me ⟨sl, me⟩
  | _ => .no) := id rfl
theorem eC_k {d : D} {sl : List (Option Sl)} {me : O} : eC d ⟨sl, me⟩ = (.ok (.tm (.fz d)) ⟨sl, me⟩) := id rfl
theorem aNil_k  {sl : List (Option Sl)} {me : O} : aNil  ⟨sl, me⟩ = (.ok [] ⟨sl, me⟩) := id rfl
theorem aCons_k {f : En → Out Rv} {g : En → Out (List Rv)} {sl : List (Option Sl)} {me : O} : aCons f g ⟨sl, me⟩ = ((f ⟨sl, me⟩).bind fun r e1 => (g e1).bind fun rs e2 => .ok (r :: rs) e2) := id rfl
theorem eV_k {φ : List D → Option D} {f : En → Out (List Rv)} {sl : List (Option Sl)} {me : O} : eV φ f ⟨sl, me⟩ = ((f ⟨sl, me⟩).bind fun rs e1 => match lookAll e1 rs with
  | none => .no
  | some ds => match φ ds with
    | none => .no
    | some d => .ok (.tm (.fz d)) e1) := id rfl
theorem eF_k {φ : List D → Option O} {f : En → Out (List Rv)} {sl : List (Option Sl)} {me : O} : eF φ f ⟨sl, me⟩ = ((f ⟨sl, me⟩).bind fun rs e1 => match fixAll e1 rs with
  | none => .no
  | some (ds, e2) => match φ ds with
    | none => .no
    | some o => .ok (.tm o) e2) := id rfl
theorem two_k {f g : En → Out Rv} {sl : List (Option Sl)} {me : O} : two f g ⟨sl, me⟩ = (aCons f (aCons g aNil)) ⟨sl, me⟩ := id rfl
theorem tOf_k {f : En → Out Rv} {sl : List (Option Sl)} {me : O} : tOf f ⟨sl, me⟩ = ((f ⟨sl, me⟩).bind fun r e1 => match r with
  | .tm (.fz (.bl b)) => .ok b e1
  | _ => .no) := id rfl
theorem tAndD_k {f g : En → Out Bool} {sl : List (Option Sl)} {me : O} : tAndD f g ⟨sl, me⟩ = ((f ⟨sl, me⟩).bind fun k e1 => match k with | true => g e1 | false => .ok false e1) := id rfl
theorem tOrD_k {f g : En → Out Bool} {sl : List (Option Sl)} {me : O} : tOrD f g ⟨sl, me⟩ = ((f ⟨sl, me⟩).bind fun k e1 => match k with | true => .ok true e1 | false => g e1) := id rfl
theorem tNotD_k {f : En → Out Bool} {sl : List (Option Sl)} {me : O} : tNotD f ⟨sl, me⟩ = ((f ⟨sl, me⟩).bind fun k e1 => .ok (!k) e1) := id rfl
theorem eIf_k {t : En → Out Bool} {f g : En → Out Rv} {sl : List (Option Sl)} {me : O} : eIf t f g ⟨sl, me⟩ = ((t ⟨sl, me⟩).bind fun k e1 => match k with | true => f e1 | false => g e1) := id rfl
theorem eAndD_k {f g : En → Out Rv} {sl : List (Option Sl)} {me : O} : eAndD f g ⟨sl, me⟩ = ((tOf f ⟨sl, me⟩).bind fun k e1 => match k with | true => g e1 | false => .ok (.tm (.fz (.bl false))) e1) := id rfl
theorem eOrD_k {f g : En → Out Rv} {sl : List (Option Sl)} {me : O} : eOrD f g ⟨sl, me⟩ = ((tOf f ⟨sl, me⟩).bind fun k e1 => match k with | true => .ok (.tm (.fz (.bl true))) e1 | false => g e1) := id rfl
theorem eNotD_k {f : En → Out Rv} {sl : List (Option Sl)} {me : O} : eNotD f ⟨sl, me⟩ = ((tOf f ⟨sl, me⟩).bind fun k e1 => .ok (.tm (.fz (.bl (!k)))) e1) := id rfl
theorem eCall_k {φ : List D → Res} {f : En → Out (List Rv)} {sl : List (Option Sl)} {me : O} : eCall φ f ⟨sl, me⟩ = ((f ⟨sl, me⟩).bind fun rs e1 => match fixAll e1 rs with
  | none => .no
  | some (ds, e2) => match φ ds with
    | .ok o => .ok (.tm o) e2
    | .ex x => .ex x e2
    | .no => .no) := id rfl
theorem eLst_k {f : En → Out (List Rv)} {sl : List (Option Sl)} {me : O} : eLst f ⟨sl, me⟩ = ((f ⟨sl, me⟩).bind fun rs e1 => match ownAll e1 rs with
  | none => .no
  | some (os, e2) => if os.length ≤ 1000 then .ok (.tm (.lst os)) e2 else .no) := id rfl
theorem eTup_k {f : En → Out (List Rv)} {sl : List (Option Sl)} {me : O} : eTup f ⟨sl, me⟩ = ((f ⟨sl, me⟩).bind fun rs e1 => match fixAll e1 rs with
  | none => .no
  | some (ds, e2) => if ds.length ≤ 1000 then .ok (.tm (.fz (.tup false ds))) e2 else .no) := id rfl
theorem eTupK_k {f : En → Out (List Rv)} {sl : List (Option Sl)} {me : O} : eTupK f ⟨sl, me⟩ = ((f ⟨sl, me⟩).bind fun rs e1 => match fixAll e1 rs with
  | none => .no
  | some (ds, e2) => if ds.length ≤ 1000 then .ok (.tm (.fz (.tup true ds))) e2 else .no) := id rfl
theorem sNil_k  {sl : List (Option Sl)} {me : O} : sNil  ⟨sl, me⟩ = (.nx ⟨sl, me⟩) := id rfl
theorem sCons_k {g k : SS} {sl : List (Option Sl)} {me : O} : sCons g k ⟨sl, me⟩ = ((g ⟨sl, me⟩).then k) := id rfl
theorem sBreak_k  {sl : List (Option Sl)} {me : O} : sBreak  ⟨sl, me⟩ = (.bk ⟨sl, me⟩) := id rfl
theorem sCont_k  {sl : List (Option Sl)} {me : O} : sCont  ⟨sl, me⟩ = (.ct ⟨sl, me⟩) := id rfl
theorem sIf_k {t : En → Out Bool} {g k : SS} {sl : List (Option Sl)} {me : O} : sIf t g k ⟨sl, me⟩ = ((t ⟨sl, me⟩).so fun b e1 => match b with | true => g e1 | false => k e1) := id rfl
theorem sSet_k {i : Nat} {f : En → Out Rv} {sl : List (Option Sl)} {me : O} : sSet i f ⟨sl, me⟩ = ((f ⟨sl, me⟩).so fun r e1 => match own e1 r with
  | none => .no
  | some (o, e2) => .nx (e2.put i o)) := id rfl
theorem sRet_k {f : En → Out Rv} {sl : List (Option Sl)} {me : O} : sRet f ⟨sl, me⟩ = ((f ⟨sl, me⟩).so fun r e1 => match give e1 r with
  | none => .no
  | some (o, e2) => .rt o e2) := id rfl
theorem sRetN_k  {sl : List (Option Sl)} {me : O} : sRetN  ⟨sl, me⟩ = (.rt (.fz .non) ⟨sl, me⟩) := id rfl
theorem sDrop_k {f : En → Out Rv} {sl : List (Option Sl)} {me : O} : sDrop f ⟨sl, me⟩ = ((f ⟨sl, me⟩).so fun r e1 => .nx e1) := id rfl
theorem sAsg_k {t : TgS} {f : En → Out Rv} {sl : List (Option Sl)} {me : O} : sAsg t f ⟨sl, me⟩ = ((f ⟨sl, me⟩).so fun r e1 => match fix e1 r with
  | none => .no
  | some (d, e2) => match t d e2 with
    | none => .no
    | some e3 => .nx e3) := id rfl
theorem itSeq_k {f : En → Out Rv} {sl : List (Option Sl)} {me : O} : itSeq f ⟨sl, me⟩ = ((f ⟨sl, me⟩).bind fun r e1 => match fix e1 r with
  | some (.lst ds, e2) => .ok ds e2
  | some (.tup _ ds, e2) => .ok ds e2
  | _ => .no) := id rfl
theorem itRange1_k {f : En → Out (List Rv)} {sl : List (Option Sl)} {me : O} : itRange1 f ⟨sl, me⟩ = ((f ⟨sl, me⟩).bind fun rs e1 => match rs with
  | [.tm (.fz (.int j))] => if rangeOk j then .ok (nums 0 j.toNat) e1 else .no
  | _ => .no) := id rfl
theorem itRange2_k {f : En → Out (List Rv)} {sl : List (Option Sl)} {me : O} : itRange2 f ⟨sl, me⟩ = ((f ⟨sl, me⟩).bind fun rs e1 => match rs with
  | [.tm (.fz (.int i)), .tm (.fz (.int j))] => if rangeOk i && rangeOk j then .ok (nums i (j - i).toNat) e1 else .no
  | _ => .no) := id rfl
theorem sFor_k {s : En → Out (List D)} {t : TgS} {g : SS} {sl : List (Option Sl)} {me : O} : sFor s t g ⟨sl, me⟩ = ((s ⟨sl, me⟩).so fun ds e1 => loop t g ds e1) := id rfl
theorem tYesD_k  {sl : List (Option Sl)} {me : O} : tYesD  ⟨sl, me⟩ = (.ok true ⟨sl, me⟩) := id rfl
theorem eItem_k {f g : En → Out Rv} {sl : List (Option Sl)} {me : O} : eItem f g ⟨sl, me⟩ = ((two f g ⟨sl, me⟩).bind fun rs e1 => match rs with
  | [r, .tm (.fz (.int i))] => match treeOf e1 r with
    | some (.lst os) => match atI os i with
      | some (.fz d) => .ok (.tm (.fz d)) e1
      | _ => .no
    | some (.fz d) => match itemD d i with
      | some x => .ok (.tm (.fz x)) e1
      | none => .no
    | _ => .no
  | _ => .no) := id rfl
theorem pNone_k  {sl : List (Option Sl)} {me : O} : pNone  ⟨sl, me⟩ = (.ok none ⟨sl, me⟩) := id rfl
theorem pSome_k {f : En → Out Rv} {sl : List (Option Sl)} {me : O} : pSome f ⟨sl, me⟩ = ((f ⟨sl, me⟩).bind fun r e1 => match r with
  | .tm (.fz (.int i)) => .ok (some i) e1
  | _ => .no) := id rfl
theorem eSlice_k {f : En → Out Rv} {lo hi : En → Out (Option Int)} {sl : List (Option Sl)} {me : O} : eSlice f lo hi ⟨sl, me⟩ = ((f ⟨sl, me⟩).bind fun r e1 => match fix e1 r with
  | none => .no
  | some (d, e2) => (lo e2).bind fun l e3 => (hi e3).bind fun h e4 => match sliceD d l h with
    | none => .no
    | some o => .ok (.tm o) e4) := id rfl
theorem eM1_k {φ : Str → D → Option D} {f g : En → Out Rv} {sl : List (Option Sl)} {me : O} : eM1 φ f g ⟨sl, me⟩ = ((f ⟨sl, me⟩).bind fun r e1 => match r with
  | .tm (.fz (.str z)) => (g e1).bind fun r2 e2 => match look e2 r2 with
    | none => .no
    | some d => match φ z d with
      | none => .no
      | some x => .ok (.tm (.fz x)) e2
  | _ => .no) := id rfl
theorem eGet1_k {f g : En → Out Rv} {sl : List (Option Sl)} {me : O} : eGet1 f g ⟨sl, me⟩ = ((f ⟨sl, me⟩).bind fun r e1 => if isDk (treeOf e1 r) then (g e1).bind fun rk e2 => match look e2 rk with
    | none => .no
    | some kd => match keyD kd with
      | none => .no
      | some k => match treeOf e2 r with
        | none => .no
        | some o => match lookO o k with
          | none => .no
          | some none => .ok (.tm (.fz .non)) e2
          | some (some d) => .ok (.tm (.fz d)) e2
  else .no) := id rfl
theorem eGet2_k {f g h : En → Out Rv} {sl : List (Option Sl)} {me : O} : eGet2 f g h ⟨sl, me⟩ = ((f ⟨sl, me⟩).bind fun r e1 => if isDk (treeOf e1 r) then (g e1).bind fun rk e2 => match look e2 rk with
    | none => .no
    | some kd => match keyD kd with
      | none => .no
      | some k => (h e2).bind fun rx e3 => match fix e3 rx with
        | none => .no
        | some (dx, e4) => match treeOf e4 r with
          | none => .no
          | some o => match lookO o k with
            | none => .no
            | some none => .ok (.tm (.fz dx)) e4
            | some (some d) => .ok (.tm (.fz d)) e4
  else .no) := id rfl
theorem sPutK_k {i : Nat} {fv fk : En → Out Rv} {sl : List (Option Sl)} {me : O} : sPutK i fv fk ⟨sl, me⟩ = ((fv ⟨sl, me⟩).so fun r e1 => if isDkOwn e1 i then (fk e1).so fun rk e2 => match look e2 rk with
    | none => .no
    | some kd => match keyD kd with
      | none => .no
      | some k => match fix e2 r with
        | none => .no
        | some (d, e3) => match e3.sl[i]? with
          | some (some (.ow (.dK ks os))) => if ks.length < 1000000 then .nx (e3.put i (.dK (putKs ks k) (putOs ks os k (.fz d)))) else .no
          | _ => .no
  else .no) := id rfl
theorem sAppend_k {i : Nat} {f : En → Out Rv} {sl : List (Option Sl)} {me : O} : sAppend i f ⟨sl, me⟩ = (if isLst ⟨sl, me⟩ i then (f ⟨sl, me⟩).so fun r e1 => match own e1 r with
    | none => .no
    | some (o, e2) => match e2.sl[i]? with
      | some (some (.ow (.lst os))) => if os.length < 1000000 then .nx (e2.put i (.lst (os ++ [o]))) else .no
      | _ => .no
  else .no) := id rfl
theorem sSetI_k {i : Nat} {fv fi : En → Out Rv} {sl : List (Option Sl)} {me : O} : sSetI i fv fi ⟨sl, me⟩ = ((fv ⟨sl, me⟩).so fun r e1 => if isLst e1 i then (fi e1).so fun r2 e2 => match r2 with
    | .tm (.fz (.int k)) => match fix e2 r with
      | none => .no
      | some (d, e3) => match e3.sl[i]? with
        | some (some (.ow (.lst os))) => match ixN os.length k with
          | none => .no
          | some j => .nx (e3.put i (.lst (os.set j (.fz d))))
        | _ => .no
    | _ => .no
  else .no) := id rfl
theorem eTupItems_k {f : En → Out Rv} {sl : List (Option Sl)} {me : O} : eTupItems f ⟨sl, me⟩ = ((f ⟨sl, me⟩).bind fun r e1 => match fix e1 r with
  | some (.dK ks ds, e2) => .ok (.tm (.fz (.tup true (pairsD ks ds)))) e2
  | _ => .no) := id rfl
/-! the same of what is no function on frames: not by rfl, so that the kernel goes the way that simp went -/
theorem bind_ok_k {α β : Type} {a : α} {e : En} {k : α → En → Out β} : (Out.ok a e).bind k = k a e := id rfl
theorem bind_ex_k {α β : Type} {x : XD} {e : En} {k : α → En → Out β} : (Out.ex x e : Out α).bind k = .ex x e := id rfl
theorem so_ok_k {α : Type} {a : α} {e : En} {k : α → En → SO} : (Out.ok a e).so k = k a e := id rfl
theorem so_ex_k {α : Type} {x : XD} {e : En} {k : α → En → SO} : (Out.ex x e : Out α).so k = .ex x e := id rfl
theorem then_nx_k {e : En} {k : En → SO} : (SO.nx e).then k = k e := id rfl
theorem then_rt_k {o : O} {e : En} {k : En → SO} : (SO.rt o e).then k = .rt o e := id rfl
theorem then_ex_k {x : XD} {e : En} {k : En → SO} : (SO.ex x e).then k = .ex x e := id rfl
theorem then_bk_k {e : En} {k : En → SO} : (SO.bk e).then k = .bk e := id rfl
theorem then_ct_k {e : En} {k : En → SO} : (SO.ct e).then k = .ct e := id rfl
theorem addD_int_k {i j : Int} : addD [.int i, .int j] = some (.fz (.int (i + j))) := id rfl
theorem subD_k {i j : Int} : subD [.int i, .int j] = some (.int (i - j)) := id rfl
theorem negD_k {i : Int} : negD [.int i] = some (.int (-i)) := id rfl
theorem eqD_str_k {x y : Str} : eqD [.str x, .str y] = some (.bl (x == y)) := id rfl
theorem neD_str_k {x y : Str} : neD [.str x, .str y] = some (.bl (x != y)) := id rfl
theorem cmpD_k {p : Int → Int → Bool} {i j : Int} : cmpD p [.int i, .int j] = some (.bl (p i j)) := id rfl
theorem item_lst_k {ds : List D} {i : Int} : itemD (.lst ds) i = atI ds i := id rfl
theorem item_tup_k {k : Bool} {ds : List D} {i : Int} : itemD (.tup k ds) i = atI ds i := id rfl
theorem isnt_tup_k {k : Bool} {ds : List D} : isntD [.tup k ds, .non] = some (.bl true) := id rfl
theorem isnt_non_k : isntD [.non, .non] = some (.bl false) := id rfl
theorem is_tup_k {k : Bool} {ds : List D} : isD [.tup k ds, .non] = some (.bl false) := id rfl
theorem is_non_k : isD [.non, .non] = some (.bl true) := id rfl
theorem vals_nil_k : vals [] = [] := id rfl
theorem vals_cons_k {o : O} {os : List O} : vals (o :: os) = o.val :: vals os := id rfl
end DL

set_option Elab.async false
set_option linter.all false
set_option maxRecDepth 100000
set_option maxHeartbeats 4000000
namespace K12
open PySem L2 PySem.Spec PyProof.Rows DL
def top (i : Nat) : Stmt := PySem.Challenge.pw_layerwise_k12_joined_two_by_two.main.body.getD i (.Pass ⟨0, 0, 0, 0⟩)
section
variable {P : Program} {w : World} {mg : Str → Option Value} {base : Heap} {c : Cs} {k : Nat}
/-! #### joined_fields -/
abbrev s_joined_fields : Stmt := top 1
abbrev N_joined_fields : List Str := ["lower", "upper", "found", "name", "entry"]
theorem sc_joined_fields : FnScope N_joined_fields ["lower", "upper"] (defScope s_joined_fields) := ⟨rfl, rfl, rfl, by decide +kernel, rfl, by decide +kernel, by decide +kernel⟩
def b_joined_fields_1 (φ_joined : List D → Res) : SS := (sPutK 2 (eCall φ_joined (aCons (eGet1 (eVar 2) (eVar 3)) (aCons (eVar 4) aNil))) (eVar 3))
def l_joined_fields_2 (φ_joined : List D → Res) : SS := sFor (itSeq (eVar 1)) (gT (gCons' (gN 3) (gCons' (gN 4) gNil'))) (b_joined_fields_1 φ_joined)
def g_joined_fields (φ_joined : List D → Res) : SS :=
  (sCons (sSet 2 (eF dictTD (aCons (eVar 0) aNil)))
  (sCons (l_joined_fields_2 φ_joined)
  (sRet (eTupItems (eVar 2)))))
theorem kn_joined_fields {φ_joined : List D → Res} (S : Src c.K mg "joined_fields" "joined_fields" s_joined_fields ["lower", "upper"]) (K_joined : Kn P w mg base c k "joined" 2 φ_joined) (z_dict : mg "dict" = none) (z_tuple : mg "tuple" = none) :
    Kn P w mg base c (k + 1) "joined_fields" 2 (defSem 5 2 (g_joined_fields φ_joined)) :=
  S.kn sc_joined_fields fun f cdv A outer s H E gq r =>
  (dss_cons (ds_set (i := 2) sc_joined_fields.nd rfl (Or.inl rfl) (de_dictT rfl rfl z_dict rfl (da_cons (de_var 0) da_nil)))
  (dss_cons (ds_for (passes_of rfl) rfl (di_seq rfl (de_var 1)) (dg_tup rfl rfl (dgs_cons (dg_name (i := 3) sc_joined_fields.nd rfl (Or.inl rfl)) (dgs_cons (dg_name (i := 4) sc_joined_fields.nd rfl (Or.inl rfl)) dgs_nil)) (glen_cons (glen_cons glen_nil))) (dss_one (ds_putK (i := 2) r rfl (Or.inl rfl) (de_call rfl K_joined gq r (takes_of rfl rfl rfl rfl) (da_cons (de_get1 r (de_var 2) (de_var 3) ⟨rfl, rfl, rfl, rfl⟩) (da_cons (de_var 4) da_nil)) (many_cons (many_cons many_nil)) rfl) (de_var 3))))
  (dss_one (ds_ret (de_tupItems rfl (de_var 2) rfl z_tuple)))))

/-! #### piled -/
abbrev s_piled : Stmt := top 2
abbrev N_piled : List Str := ["lower", "upper", "word", "beneath", "aheads", "behinds"]
theorem sc_piled : FnScope N_piled ["lower", "upper"] (defScope s_piled) := ⟨rfl, rfl, rfl, by decide +kernel, rfl, by decide +kernel, by decide +kernel⟩
def g_piled (φ_joined : List D → Res) : SS :=
  (sCons (sAsg (gT (gCons' (gN 2) (gCons' (gN 3) (gCons' (gN 4) (gCons' (gN 5) gNil'))))) (eVar 1))
  (sCons (sIf (tOf (eV isntD (two (eVar 3) (eC .non)))) (sRet (eTup (aCons (eC (.str "pile")) (aCons (eCall φ_joined (aCons (eVar 0) (aCons (eVar 3) aNil))) (aCons (eVar 4) (aCons (eVar 5) aNil)))))) sNil)
  (sCons (sIf (tOf (eV eqD (two (eItem (eVar 0) (eC (.int 0))) (eC (.str "pile"))))) (sRet (eTup (aCons (eC (.str "pile")) (aCons (eItem (eVar 0) (eC (.int 1))) (aCons (eF addD (two (eVar 4) (eItem (eVar 0) (eC (.int 2))))) (aCons (eF addD (two (eItem (eVar 0) (eC (.int 3))) (eVar 5))) aNil)))))) sNil)
  (sRet (eTup (aCons (eC (.str "pile")) (aCons (eVar 0) (aCons (eVar 4) (aCons (eVar 5) aNil)))))))))
theorem kn_piled {φ_joined : List D → Res} (S : Src c.K mg "piled" "piled" s_piled ["lower", "upper"]) (K_joined : Kn P w mg base c k "joined" 2 φ_joined)  :
    Kn P w mg base c (k + 1) "piled" 2 (defSem 6 2 (g_piled φ_joined)) :=
  S.kn sc_piled fun f cdv A outer s H E gq r =>
  (dss_cons (ds_asg (de_var 1) (dg_tup rfl rfl (dgs_cons (dg_name (i := 2) sc_piled.nd rfl (Or.inl rfl)) (dgs_cons (dg_name (i := 3) sc_piled.nd rfl (Or.inl rfl)) (dgs_cons (dg_name (i := 4) sc_piled.nd rfl (Or.inl rfl)) (dgs_cons (dg_name (i := 5) sc_piled.nd rfl (Or.inl rfl)) dgs_nil)))) (glen_cons (glen_cons (glen_cons (glen_cons glen_nil))))))
  (dss_cons (ds_if (dt_isnt (de_var 3) de_non) (dss_one (ds_ret (de_tup (da_cons de_str (da_cons (de_call rfl K_joined gq r (takes_of rfl rfl rfl rfl) (da_cons (de_var 0) (da_cons (de_var 3) da_nil)) (many_cons (many_cons many_nil)) rfl) (da_cons (de_var 4) (da_cons (de_var 5) da_nil))))))) dss_nil)
  (dss_cons (ds_if (dt_eq rfl r (de_item rfl (de_var 0) de_int) de_str) (dss_one (ds_ret (de_tup (da_cons de_str (da_cons (de_item rfl (de_var 0) de_int) (da_cons (de_add rfl (de_var 4) (de_item rfl (de_var 0) de_int)) (da_cons (de_add rfl (de_item rfl (de_var 0) de_int) (de_var 5)) da_nil))))))) dss_nil)
  (dss_one (ds_ret (de_tup (da_cons de_str (da_cons (de_var 0) (da_cons (de_var 4) (da_cons (de_var 5) da_nil))))))))))

/-! #### joined -/
abbrev s_joined : Stmt := top 3
abbrev N_joined : List Str := ["lower", "upper"]
theorem sc_joined : FnScope N_joined ["lower", "upper"] (defScope s_joined) := ⟨rfl, rfl, rfl, by decide +kernel, rfl, by decide +kernel, by decide +kernel⟩
def g_joined (φ_joined : List D → Res) (φ_joined_fields : List D → Res) (φ_piled : List D → Res) : SS :=
  (sCons (sIf (tOrD (tOf (eV isD (two (eVar 0) (eC .non)))) (tOf (eV isD (two (eVar 1) (eC .non))))) (sRet (eIf (tOf (eV isD (two (eVar 1) (eC .non)))) (eVar 0) (eVar 1))) sNil)
  (sCons (sIf (tOf (eV eqD (two (eItem (eVar 1) (eC (.int 0))) (eC (.str "pile"))))) (sRet (eCall φ_piled (aCons (eVar 0) (aCons (eVar 1) aNil)))) sNil)
  (sCons (sIf (tOrD (tOf (eV neD (two (eItem (eVar 1) (eC (.int 0))) (eC (.str "record"))))) (tOf (eItem (eVar 1) (eC (.int 2))))) (sRet (eVar 1)) sNil)
  (sCons (sIf (tOf (eV eqD (two (eItem (eVar 0) (eC (.int 0))) (eC (.str "record"))))) (sRet (eTup (aCons (eC (.str "record")) (aCons (eCall φ_joined_fields (aCons (eItem (eVar 0) (eC (.int 1))) (aCons (eItem (eVar 1) (eC (.int 1))) aNil))) (aCons (eItem (eVar 0) (eC (.int 2))) aNil))))) sNil)
  (sCons (sIf (tOf (eV eqD (two (eItem (eVar 0) (eC (.int 0))) (eC (.str "make"))))) (sRet (eTup (aCons (eC (.str "make")) (aCons (eItem (eVar 0) (eC (.int 1))) (aCons (eCall φ_joined (aCons (eItem (eVar 0) (eC (.int 2))) (aCons (eVar 1) aNil))) (aCons (eItem (eVar 0) (eC (.int 3))) aNil)))))) sNil)
  (sRet (eTup (aCons (eC (.str "record")) (aCons (eItem (eVar 1) (eC (.int 1))) (aCons (eC (.bl true)) aNil))))))))))
theorem kn_joined {φ_joined : List D → Res} {φ_joined_fields : List D → Res} {φ_piled : List D → Res} (S : Src c.K mg "joined" "joined" s_joined ["lower", "upper"]) (K_joined : Kn P w mg base c k "joined" 2 φ_joined) (K_joined_fields : Kn P w mg base c k "joined_fields" 2 φ_joined_fields) (K_piled : Kn P w mg base c k "piled" 2 φ_piled)  :
    Kn P w mg base c (k + 1) "joined" 2 (defSem 2 2 (g_joined φ_joined φ_joined_fields φ_piled)) :=
  S.kn sc_joined fun f cdv A outer s H E gq r =>
  (dss_cons (ds_if (dw_pt (dw_or (dt_is (de_var 0) de_non) (dw_or1 (dt_is (de_var 1) de_non)))) (dss_one (ds_ret (de_if (dt_is (de_var 1) de_non) (de_var 0) (de_var 1)))) dss_nil)
  (dss_cons (ds_if (dt_eq rfl r (de_item rfl (de_var 1) de_int) de_str) (dss_one (ds_ret (de_call rfl K_piled gq r (takes_of rfl rfl rfl rfl) (da_cons (de_var 0) (da_cons (de_var 1) da_nil)) (many_cons (many_cons many_nil)) rfl))) dss_nil)
  (dss_cons (ds_if (dw_pt (dw_or (dt_ne rfl r (de_item rfl (de_var 1) de_int) de_str) (dw_or1 (dt_val (de_item rfl (de_var 1) de_int))))) (dss_one (ds_ret (de_var 1))) dss_nil)
  (dss_cons (ds_if (dt_eq rfl r (de_item rfl (de_var 0) de_int) de_str) (dss_one (ds_ret (de_tup (da_cons de_str (da_cons (de_call rfl K_joined_fields gq r (takes_of rfl rfl rfl rfl) (da_cons (de_item rfl (de_var 0) de_int) (da_cons (de_item rfl (de_var 1) de_int) da_nil)) (many_cons (many_cons many_nil)) rfl) (da_cons (de_item rfl (de_var 0) de_int) da_nil)))))) dss_nil)
  (dss_cons (ds_if (dt_eq rfl r (de_item rfl (de_var 0) de_int) de_str) (dss_one (ds_ret (de_tup (da_cons de_str (da_cons (de_item rfl (de_var 0) de_int) (da_cons (de_call rfl K_joined gq r (takes_of rfl rfl rfl rfl) (da_cons (de_item rfl (de_var 0) de_int) (da_cons (de_var 1) da_nil)) (many_cons (many_cons many_nil)) rfl) (da_cons (de_item rfl (de_var 0) de_int) da_nil))))))) dss_nil)
  (dss_one (ds_ret (de_tup (da_cons de_str (da_cons (de_item rfl (de_var 1) de_int) (da_cons de_bl da_nil)))))))))))

/-! #### _law_cell_at -/
abbrev s__law_cell_at : Stmt := top 5
abbrev N__law_cell_at : List Str := ["_law_script", "_law_k"]
theorem sc__law_cell_at : FnScope N__law_cell_at ["_law_script", "_law_k"] (defScope s__law_cell_at) := ⟨rfl, rfl, rfl, by decide +kernel, rfl, by decide +kernel, by decide +kernel⟩
def g__law_cell_at  : SS :=
  (sCons (sIf (tOf (eV (cmpD fun i j => decide (i < j)) (two (eVar 1) (eV lenD (aCons (eVar 0) aNil))))) (sRet (eItem (eVar 0) (eVar 1))) sNil)
  (sRet (eC (.int 0))))
theorem kn__law_cell_at  (S : Src c.K mg "_law_cell_at" "_law_cell_at" s__law_cell_at ["_law_script", "_law_k"])  (z_len : mg "len" = none) :
    Kn P w mg base c (k + 1) "_law_cell_at" 2 (defSem 2 2 (g__law_cell_at )) :=
  S.kn sc__law_cell_at fun f cdv A outer s H E gq r =>
  (dss_cons (ds_if (dt_lt (de_var 1) (de_len rfl z_len rfl (da_cons (de_var 0) da_nil))) (dss_one (ds_ret (de_item rfl (de_var 0) (de_var 1)))) dss_nil)
  (dss_one (ds_ret de_int)))

/-! #### _law_mixed -/
abbrev s__law_mixed : Stmt := top 6
abbrev N__law_mixed : List Str := ["_law_cell", "_law_k", "_law_by"]
theorem sc__law_mixed : FnScope N__law_mixed ["_law_cell", "_law_k"] (defScope s__law_mixed) := ⟨rfl, rfl, rfl, by decide +kernel, rfl, by decide +kernel, by decide +kernel⟩
def g__law_mixed  : SS :=
  (sCons (sSet 2 (eF addD (two (eF addD (two (eC (.int 48271)) (eV mulD (two (eV mulD (two (eC (.int 7919)) (eVar 1))) (eVar 1))))) (eV mulD (two (eC (.int 104729)) (eVar 1))))))
  (sRet (eV modD (two (eF addD (two (eF addD (two (eV mulD (two (eV modD (two (eVar 0) (eC (.int 2147483629)))) (eVar 2))) (eV mulD (two (eC (.int 31)) (eVar 1))))) (eC (.int 12345)))) (eC (.int 2147483647))))))
theorem kn__law_mixed  (S : Src c.K mg "_law_mixed" "_law_mixed" s__law_mixed ["_law_cell", "_law_k"])   :
    Kn P w mg base c (k + 1) "_law_mixed" 2 (defSem 3 2 (g__law_mixed )) :=
  S.kn sc__law_mixed fun f cdv A outer s H E gq r =>
  (dss_cons (ds_set (i := 2) sc__law_mixed.nd rfl (Or.inl rfl) (de_add rfl (de_add rfl de_int (de_mul (de_mul de_int (de_var 1)) (de_var 1))) (de_mul de_int (de_var 1))))
  (dss_one (ds_ret (de_mod (de_add rfl (de_add rfl (de_mul (de_mod (de_var 0) de_int) (de_var 2)) (de_mul de_int (de_var 1))) de_int) de_int))))

/-! #### _law_names -/
abbrev s__law_names : Stmt := top 7
abbrev N__law_names : List Str := ["_law_cell", "_law_signs", "_law_size", "_law_at", "_law_rest", "_law_found", "_law_k"]
theorem sc__law_names : FnScope N__law_names ["_law_cell"] (defScope s__law_names) := ⟨rfl, rfl, rfl, by decide +kernel, rfl, by decide +kernel, by decide +kernel⟩
def c__law_names_1  : En → Out Rv := eComp (itRange1 (aCons (eC (.int 5)) aNil)) (gN 6) tYesD (eV mulD (two (eItem (eVar 1) (eV modD (two (eV divD (two (eVar 0) (eC (.int 4)))) (eC (.int 7))))) (eF addD (two (eC (.int 1)) (eVar 6))))) [6]
def c__law_names_2  : En → Out Rv := eComp (itRange1 (aCons (eVar 2) aNil)) (gN 6) tYesD (eItem (eVar 1) (eV modD (two (eV divD (two (eVar 0) (eF addD (two (eC (.int 256)) (eV mulD (two (eC (.int 31)) (eVar 6))))))) (eC (.int 7))))) [6]
def b__law_names_3  : SS := (sCons (sSetI 4 (eItem (eC (.str "qzjvx")) (eVar 6)) (eVar 3))
  (sAppend 5 (eM1 joinS (eC (.str "")) (eVar 4))))
def l__law_names_4  : SS := sFor (itRange1 (aCons (eC (.int 5)) aNil)) (gN 6) b__law_names_3
def g__law_names  : SS :=
  (sCons (sSet 1 (eC (.str "qzjvxkw")))
  (sCons (sIf (tOf (eV eqD (two (eV modD (two (eVar 0) (eC (.int 4)))) (eC (.int 3))))) (sRet c__law_names_1) sNil)
  (sCons (sSet 2 (eF addD (two (eC (.int 1)) (eV modD (two (eV divD (two (eVar 0) (eC (.int 4)))) (eC (.int 8)))))))
  (sCons (sSet 3 (eV modD (two (eV divD (two (eVar 0) (eC (.int 32)))) (eVar 2))))
  (sCons (sSet 4 c__law_names_2)
  (sCons (sSet 5 (eLst aNil))
  (sCons l__law_names_4
  (sRet (eVar 5)))))))))
theorem kn__law_names  (S : Src c.K mg "_law_names" "_law_names" s__law_names ["_law_cell"])  (z_range : mg "range" = none) :
    Kn P w mg base c (k + 1) "_law_names" 1 (defSem 7 1 (g__law_names )) :=
  S.kn sc__law_names fun f cdv A outer s H E gq r =>
  (dss_cons (ds_set (i := 1) sc__law_names.nd rfl (Or.inr rfl) de_str)
  (dss_cons (ds_if (dt_eq rfl r (de_mod (de_var 0) de_int) de_int) (dss_one (ds_ret (de_comp (own' := [("_law_k", 6)]) rfl sc__law_names.nd (di_range1 rfl z_range (da_cons de_int da_nil)) (blkOk_by (own := [("_law_k", 6)]) (N := N__law_names) (sc := defScope s__law_names) (by decide +kernel)) (fun _ _ _ _ _ => (dg_name (i := 6) sc__law_names.nd rfl (Or.inl rfl))) (fun _ _ _ _ _ => dts_nil) (fun _ _ _ _ _ => (de_mul (de_item rfl (de_var 1) (de_mod (de_div (de_var 0) de_int) de_int)) (de_add rfl de_int (de_var 6)))) tok_name (by decide)))) dss_nil)
  (dss_cons (ds_set (i := 2) sc__law_names.nd rfl (Or.inl rfl) (de_add rfl de_int (de_mod (de_div (de_var 0) de_int) de_int)))
  (dss_cons (ds_set (i := 3) sc__law_names.nd rfl (Or.inl rfl) (de_mod (de_div (de_var 0) de_int) (de_var 2)))
  (dss_cons (ds_setLc (i := 4) (own' := [("_law_k", 6)]) rfl sc__law_names.nd rfl rfl (di_range1 rfl z_range (da_cons (de_var 2) da_nil)) (blkOk_by (own := [("_law_k", 6)]) (N := N__law_names) (sc := defScope s__law_names) (by decide +kernel)) (fun _ _ _ _ _ => (dg_name (i := 6) sc__law_names.nd rfl (Or.inl rfl))) (fun _ _ _ _ _ => dts_nil) (fun _ _ _ _ _ => (de_item rfl (de_var 1) (de_mod (de_div (de_var 0) (de_add rfl de_int (de_mul de_int (de_var 6)))) de_int))) tok_name (by decide) (sw_true rfl rfl rfl (by decide +kernel)))
  (dss_cons (ds_set (i := 5) sc__law_names.nd rfl (Or.inl rfl) (de_lst da_nil))
  (dss_cons (ds_for (passes_of rfl) rfl (di_range1 rfl z_range (da_cons de_int da_nil)) (dg_name (i := 6) sc__law_names.nd rfl (Or.inl rfl)) (dss_cons (ds_setI (i := 4) rfl (Or.inl rfl) (de_item rfl de_str (de_var 6)) (de_var 3))
  (dss_one (ds_append (i := 5) rfl rfl (Or.inl rfl) (de_join rfl de_str (de_var 4))))))
  (dss_one (ds_ret (de_var 5))))))))))

/-! #### _law_term -/
abbrev s__law_term : Stmt := top 8
abbrev N__law_term : List Str := ["_law_cell", "_law_names_here", "_law_more", "_law_place", "_law_j"]
theorem sc__law_term : FnScope N__law_term ["_law_cell", "_law_names_here"] (defScope s__law_term) := ⟨rfl, rfl, rfl, by decide +kernel, rfl, by decide +kernel, by decide +kernel⟩
def c__law_term_1 (φ__law_mixed : List D → Res) : En → Out Rv := eComp (itRange1 (aCons (eF addD (two (eC (.int 1)) (eV modD (two (eVar 2) (eC (.int 3)))))) aNil)) (gN 4) tYesD (eItem (eVar 1) (eV modD (two (eV divD (two (eCall φ__law_mixed (aCons (eVar 2) (aCons (eVar 4) aNil))) (eC (.int 3)))) (eC (.int 5))))) [4]
def c__law_term_2  : En → Out Rv := eComp (itRange1 (aCons (eV modD (two (eV divD (two (eVar 2) (eC (.int 7)))) (eC (.int 3)))) aNil)) (gN 4) tYesD (eTup (aCons (eC (.str "number")) (aCons (eF addD (two (eVar 4) (eV modD (two (eVar 2) (eC (.int 7)))))) aNil))) [4]
def g__law_term (φ__law_mixed : List D → Res) : SS :=
  (sCons (sSet 2 (eV divD (two (eVar 0) (eC (.int 6)))))
  (sCons (sIf (tOf (eV eqD (two (eV modD (two (eVar 0) (eC (.int 6)))) (eC (.int 0))))) (sRet (eTup (aCons (eC (.str "number")) (aCons (eItem (eLst (aCons (eV modD (two (eV divD (two (eVar 2) (eC (.int 2)))) (eC (.int 10)))) (aCons (eV modD (two (eV mulD (two (eVar 2) (eVar 2))) (eF addD (two (eV powD (two (eC (.int 10)) (eC (.int 12)))) (eC (.int 1)))))) aNil))) (eV modD (two (eVar 2) (eC (.int 2))))) aNil)))) sNil)
  (sCons (sIf (tOf (eV eqD (two (eV modD (two (eVar 0) (eC (.int 6)))) (eC (.int 1))))) (sRet (eTup (aCons (eC (.str "text")) (aCons (eF addD (two (eSlice (eC (.str "a b")) pNone (pSome (eV modD (two (eVar 2) (eC (.int 4)))))) (eItem (eVar 1) (eV modD (two (eV divD (two (eVar 2) (eC (.int 4)))) (eC (.int 5))))))) aNil)))) sNil)
  (sCons (sIf (tOf (eV eqD (two (eV modD (two (eVar 0) (eC (.int 6)))) (eC (.int 2))))) (sRet (eTup (aCons (eC (.str "truth")) (aCons (eV eqD (two (eV modD (two (eVar 2) (eC (.int 2)))) (eC (.int 1)))) aNil)))) sNil)
  (sCons (sSet 3 (eF tupleD (aCons (c__law_term_1 φ__law_mixed) aNil)))
  (sCons (sIf (tOf (eV eqD (two (eV modD (two (eVar 0) (eC (.int 6)))) (eC (.int 3))))) (sRet (eTup (aCons (eC (.str "name")) (aCons (eVar 3) aNil)))) sNil)
  (sCons (sIf (tOf (eV eqD (two (eV modD (two (eVar 0) (eC (.int 6)))) (eC (.int 4))))) (sRet (eTup (aCons (eC (.str "list")) (aCons (eF tupleD (aCons c__law_term_2 aNil)) aNil)))) sNil)
  (sRet (eTup (aCons (eC (.str "two")) (aCons (eC (.str "+")) (aCons (eTup (aCons (eC (.str "name")) (aCons (eVar 3) aNil))) (aCons (eTup (aCons (eC (.str "number")) (aCons (eV modD (two (eVar 2) (eC (.int 1000)))) aNil))) aNil)))))))))))))
theorem kn__law_term {φ__law_mixed : List D → Res} (S : Src c.K mg "_law_term" "_law_term" s__law_term ["_law_cell", "_law_names_here"]) (K__law_mixed : Kn P w mg base c k "_law_mixed" 2 φ__law_mixed) (z_range : mg "range" = none) (z_tuple : mg "tuple" = none) :
    Kn P w mg base c (k + 1) "_law_term" 2 (defSem 5 2 (g__law_term φ__law_mixed)) :=
  S.kn sc__law_term fun f cdv A outer s H E gq r =>
  (dss_cons (ds_set (i := 2) sc__law_term.nd rfl (Or.inr rfl) (de_div (de_var 0) de_int))
  (dss_cons (ds_if (dt_eq rfl r (de_mod (de_var 0) de_int) de_int) (dss_one (ds_ret (de_tup (da_cons de_str (da_cons (de_item rfl (de_lst (da_cons (de_mod (de_div (de_var 2) de_int) de_int) (da_cons (de_mod (de_mul (de_var 2) (de_var 2)) (de_add rfl (de_pow de_int de_int) de_int)) da_nil))) (de_mod (de_var 2) de_int)) da_nil))))) dss_nil)
  (dss_cons (ds_if (dt_eq rfl r (de_mod (de_var 0) de_int) de_int) (dss_one (ds_ret (de_tup (da_cons de_str (da_cons (de_add rfl (de_slice rfl de_str dp_none (dp_some (de_mod (de_var 2) de_int))) (de_item rfl (de_var 1) (de_mod (de_div (de_var 2) de_int) de_int))) da_nil))))) dss_nil)
  (dss_cons (ds_if (dt_eq rfl r (de_mod (de_var 0) de_int) de_int) (dss_one (ds_ret (de_tup (da_cons de_str (da_cons (de_eq rfl r (de_mod (de_var 2) de_int) de_int) da_nil))))) dss_nil)
  (dss_cons (ds_set (i := 3) sc__law_term.nd rfl (Or.inl rfl) (de_tuple rfl z_tuple rfl (da_cons (de_comp (own' := [("_law_j", 4)]) rfl sc__law_term.nd (di_range1 rfl z_range (da_cons (de_add rfl de_int (de_mod (de_var 2) de_int)) da_nil)) (blkOk_by (own := [("_law_j", 4)]) (N := N__law_term) (sc := defScope s__law_term) (by decide +kernel)) (fun _ _ _ _ _ => (dg_name (i := 4) sc__law_term.nd rfl (Or.inl rfl))) (fun _ _ _ _ _ => dts_nil) (fun _ _ _ _ _ => (de_item rfl (de_var 1) (de_mod (de_div (de_call rfl K__law_mixed gq r takes0 (da_cons (de_var 2) (da_cons (de_var 4) da_nil)) (many_cons (many_cons many_nil)) rfl) de_int) de_int))) tok_name (by decide)) da_nil)))
  (dss_cons (ds_if (dt_eq rfl r (de_mod (de_var 0) de_int) de_int) (dss_one (ds_ret (de_tup (da_cons de_str (da_cons (de_var 3) da_nil))))) dss_nil)
  (dss_cons (ds_if (dt_eq rfl r (de_mod (de_var 0) de_int) de_int) (dss_one (ds_ret (de_tup (da_cons de_str (da_cons (de_tuple rfl z_tuple rfl (da_cons (de_comp (own' := [("_law_j", 4)]) rfl sc__law_term.nd (di_range1 rfl z_range (da_cons (de_mod (de_div (de_var 2) de_int) de_int) da_nil)) (blkOk_by (own := [("_law_j", 4)]) (N := N__law_term) (sc := defScope s__law_term) (by decide +kernel)) (fun _ _ _ _ _ => (dg_name (i := 4) sc__law_term.nd rfl (Or.inl rfl))) (fun _ _ _ _ _ => dts_nil) (fun _ _ _ _ _ => (de_tup (da_cons de_str (da_cons (de_add rfl (de_var 4) (de_mod (de_var 2) de_int)) da_nil)))) tok_name (by decide)) da_nil)) da_nil))))) dss_nil)
  (dss_one (ds_ret (de_tup (da_cons de_str (da_cons de_str (da_cons (de_tup (da_cons de_str (da_cons (de_var 3) da_nil))) (da_cons (de_tup (da_cons de_str (da_cons (de_mod (de_var 2) de_int) da_nil))) da_nil))))))))))))))

/-! #### _law_joined -/
abbrev s__law_joined : Stmt := top 9
abbrev N__law_joined : List Str := ["_law_lower", "_law_upper", "_law_sorts", "_law_heads", "_law_lows", "_law_highs", "_law_fields", "_law_name", "_law_entry"]
theorem sc__law_joined : FnScope N__law_joined ["_law_lower", "_law_upper"] (defScope s__law_joined) := ⟨rfl, rfl, rfl, by decide +kernel, rfl, by decide +kernel, by decide +kernel⟩
def c__law_joined_1  : En → Out Rv := eComp (itSeq (eItem (eVar 0) (eC (.int 1)))) (gT (gCons' (gN 7) (gCons' (gN 8) gNil'))) tYesD (eVar 7) [7, 8]
def c__law_joined_2  : En → Out Rv := eComp (itSeq (eItem (eVar 1) (eC (.int 1)))) (gT (gCons' (gN 7) (gCons' (gN 8) gNil'))) (tOf (eV notInD (two (eVar 7) (eVar 3)))) (eVar 7) [7, 8]
def c__law_joined_3 (φ__law_joined : List D → Res) : En → Out Rv := eComp (itSeq (eVar 3)) (gN 7) tYesD (eTup (aCons (eVar 7) (aCons (eCall φ__law_joined (aCons (eGet2 (eVar 4) (eVar 7) (eC .non)) (aCons (eGet2 (eVar 5) (eVar 7) (eC .non)) aNil))) aNil))) [7]
def r__law_joined_4 (φ__law_joined : List D → Res) : SS := (sCons (sIf (tOf (eV eqD (two (eItem (eVar 2) (eC (.int 0))) (eC (.str "make"))))) (sRet (eF addD (two (eSlice (eVar 0) pNone (pSome (eC (.int 2)))) (eTup (aCons (eCall φ__law_joined (aCons (eItem (eVar 0) (eC (.int 2))) (aCons (eVar 1) aNil))) (aCons (eItem (eVar 0) (eC (.int 3))) aNil)))))) sNil)
  (sCons (sIf (tOf (eV neD (two (eItem (eVar 2) (eC (.int 0))) (eC (.str "record"))))) (sRet (eTup (aCons (eC (.str "record")) (aCons (eItem (eVar 1) (eC (.int 1))) (aCons (eC (.bl true)) aNil))))) sNil)
  (sCons (sSet 3 c__law_joined_1)
  (sCons (sSet 3 (eF addD (two (eVar 3) c__law_joined_2)))
  (sCons (sSet 4 (eF dictTD (aCons (eItem (eVar 0) (eC (.int 1))) aNil)))
  (sCons (sSet 5 (eF dictTD (aCons (eItem (eVar 1) (eC (.int 1))) aNil)))
  (sCons (sSet 6 (c__law_joined_3 φ__law_joined))
  (sRet (eTup (aCons (eC (.str "record")) (aCons (eF tupleKD (aCons (eVar 6) aNil)) (aCons (eItem (eVar 0) (eC (.int 2))) aNil))))))))))))
theorem r__law_joined_4_k {φ__law_joined : List D → Res} {sl : List (Option Sl)} {me : O} : r__law_joined_4 φ__law_joined ⟨sl, me⟩ = ((sCons (sIf (tOf (eV eqD (two (eItem (eVar 2) (eC (.int 0))) (eC (.str "make"))))) (sRet (eF addD (two (eSlice (eVar 0) pNone (pSome (eC (.int 2)))) (eTup (aCons (eCall φ__law_joined (aCons (eItem (eVar 0) (eC (.int 2))) (aCons (eVar 1) aNil))) (aCons (eItem (eVar 0) (eC (.int 3))) aNil)))))) sNil)
  (sCons (sIf (tOf (eV neD (two (eItem (eVar 2) (eC (.int 0))) (eC (.str "record"))))) (sRet (eTup (aCons (eC (.str "record")) (aCons (eItem (eVar 1) (eC (.int 1))) (aCons (eC (.bl true)) aNil))))) sNil)
  (sCons (sSet 3 c__law_joined_1)
  (sCons (sSet 3 (eF addD (two (eVar 3) c__law_joined_2)))
  (sCons (sSet 4 (eF dictTD (aCons (eItem (eVar 0) (eC (.int 1))) aNil)))
  (sCons (sSet 5 (eF dictTD (aCons (eItem (eVar 1) (eC (.int 1))) aNil)))
  (sCons (sSet 6 (c__law_joined_3 φ__law_joined))
  (sRet (eTup (aCons (eC (.str "record")) (aCons (eF tupleKD (aCons (eVar 6) aNil)) (aCons (eItem (eVar 0) (eC (.int 2))) aNil))))))))))))) ⟨sl, me⟩ := id rfl
def g__law_joined (φ__law_joined : List D → Res) : SS :=
  (sCons (sIf (tOf (eV isD (two (eVar 0) (eC .non)))) (sRet (eVar 1)) sNil)
  (sCons (sIf (tOf (eV isD (two (eVar 1) (eC .non)))) (sRet (eVar 0)) sNil)
  (sCons (sSet 2 (eTup (aCons (eItem (eVar 0) (eC (.int 0))) (aCons (eItem (eVar 1) (eC (.int 0))) aNil))))
  (sCons (sIf (tAndD (tOf (eV eqD (two (eItem (eVar 2) (eC (.int 1))) (eC (.str "pile"))))) (tOf (eV isntD (two (eItem (eVar 1) (eC (.int 1))) (eC .non))))) (sRet (eF addD (two (eTup (aCons (eC (.str "pile")) (aCons (eCall φ__law_joined (aCons (eVar 0) (aCons (eItem (eVar 1) (eC (.int 1))) aNil))) aNil))) (eSlice (eVar 1) (pSome (eC (.int 2))) pNone)))) sNil)
  (sCons (sIf (tOf (eV eqD (two (eVar 2) (eTup (aCons (eC (.str "pile")) (aCons (eC (.str "pile")) aNil)))))) (sRet (eTup (aCons (eC (.str "pile")) (aCons (eItem (eVar 0) (eC (.int 1))) (aCons (eF addD (two (eItem (eVar 1) (eC (.int 2))) (eItem (eVar 0) (eC (.int 2))))) (aCons (eF addD (two (eItem (eVar 0) (eC (.int 3))) (eItem (eVar 1) (eC (.int 3))))) aNil)))))) sNil)
  (sCons (sIf (tOf (eV eqD (two (eItem (eVar 2) (eC (.int 1))) (eC (.str "pile"))))) (sRet (eF addD (two (eTup (aCons (eC (.str "pile")) (aCons (eVar 0) aNil))) (eSlice (eVar 1) (pSome (eC (.int 2))) pNone)))) sNil)
  (sCons (sIf (tOrD (tOf (eV inD (two (eItem (eVar 2) (eC (.int 1))) (eTup (aCons (eC (.str "is")) (aCons (eC (.str "gone")) (aCons (eC (.str "make")) aNil))))))) (tOf (eItem (eVar 1) (eC (.int 2))))) (sRet (eVar 1)) sNil)
  (r__law_joined_4 φ__law_joined))))))))
theorem kn__law_joined {φ__law_joined : List D → Res} (S : Src c.K mg "_law_joined" "_law_joined" s__law_joined ["_law_lower", "_law_upper"]) (K__law_joined : Kn P w mg base c k "_law_joined" 2 φ__law_joined) (z_dict : mg "dict" = none) (z_tuple : mg "tuple" = none) :
    Kn P w mg base c (k + 1) "_law_joined" 2 (defSem 9 2 (g__law_joined φ__law_joined)) :=
  S.kn sc__law_joined fun f cdv A outer s H E gq r =>
  (dss_cons (ds_if (dt_is (de_var 0) de_non) (dss_one (ds_ret (de_var 1))) dss_nil)
  (dss_cons (ds_if (dt_is (de_var 1) de_non) (dss_one (ds_ret (de_var 0))) dss_nil)
  (dss_cons (ds_set (i := 2) sc__law_joined.nd rfl (Or.inl rfl) (de_tup (da_cons (de_item rfl (de_var 0) de_int) (da_cons (de_item rfl (de_var 1) de_int) da_nil))))
  (dss_cons (ds_if (dw_pt (dw_and (dt_eq rfl r (de_item rfl (de_var 2) de_int) de_str) (dw_and1 (dt_isnt (de_item rfl (de_var 1) de_int) de_non)))) (dss_one (ds_ret (de_add rfl (de_tup (da_cons de_str (da_cons (de_call rfl K__law_joined gq r (takes_of rfl rfl rfl rfl) (da_cons (de_var 0) (da_cons (de_item rfl (de_var 1) de_int) da_nil)) (many_cons (many_cons many_nil)) rfl) da_nil))) (de_slice rfl (de_var 1) (dp_some de_int) dp_none)))) dss_nil)
  (dss_cons (ds_if (dt_eq rfl r (de_var 2) (de_tup (da_cons de_str (da_cons de_str da_nil)))) (dss_one (ds_ret (de_tup (da_cons de_str (da_cons (de_item rfl (de_var 0) de_int) (da_cons (de_add rfl (de_item rfl (de_var 1) de_int) (de_item rfl (de_var 0) de_int)) (da_cons (de_add rfl (de_item rfl (de_var 0) de_int) (de_item rfl (de_var 1) de_int)) da_nil))))))) dss_nil)
  (dss_cons (ds_if (dt_eq rfl r (de_item rfl (de_var 2) de_int) de_str) (dss_one (ds_ret (de_add rfl (de_tup (da_cons de_str (da_cons (de_var 0) da_nil))) (de_slice rfl (de_var 1) (dp_some de_int) dp_none)))) dss_nil)
  (dss_cons (ds_if (dw_pt (dw_or (dt_in rfl (de_item rfl (de_var 2) de_int) (de_tup (da_cons de_str (da_cons de_str (da_cons de_str da_nil))))) (dw_or1 (dt_val (de_item rfl (de_var 1) de_int))))) (dss_one (ds_ret (de_var 1))) dss_nil)
  (dss_cons (ds_if (dt_eq rfl r (de_item rfl (de_var 2) de_int) de_str) (dss_one (ds_ret (de_add rfl (de_slice rfl (de_var 0) dp_none (dp_some de_int)) (de_tup (da_cons (de_call rfl K__law_joined gq r (takes_of rfl rfl rfl rfl) (da_cons (de_item rfl (de_var 0) de_int) (da_cons (de_var 1) da_nil)) (many_cons (many_cons many_nil)) rfl) (da_cons (de_item rfl (de_var 0) de_int) da_nil)))))) dss_nil)
  (dss_cons (ds_if (dt_ne rfl r (de_item rfl (de_var 2) de_int) de_str) (dss_one (ds_ret (de_tup (da_cons de_str (da_cons (de_item rfl (de_var 1) de_int) (da_cons de_bl da_nil)))))) dss_nil)
  (dss_cons (ds_set (i := 3) sc__law_joined.nd rfl (Or.inr rfl) (de_comp (own' := [("_law_name", 7), ("_law_entry", 8)]) rfl sc__law_joined.nd (di_seq rfl (de_item rfl (de_var 0) de_int)) (blkOk_by (own := [("_law_name", 7), ("_law_entry", 8)]) (N := N__law_joined) (sc := defScope s__law_joined) (by decide +kernel)) (fun _ _ _ _ _ => (dg_tup rfl rfl (dgs_cons (dg_name (i := 7) sc__law_joined.nd rfl (Or.inl rfl)) (dgs_cons (dg_name (i := 8) sc__law_joined.nd rfl (Or.inl rfl)) dgs_nil)) (glen_cons (glen_cons glen_nil)))) (fun _ _ _ _ _ => dts_nil) (fun _ _ _ _ _ => (de_var 7)) (tok_tup (toks_cons tok_name (toks_cons tok_name toks_nil)) (glen_cons (glen_cons glen_nil))) (by decide)))
  (dss_cons (ds_set (i := 3) sc__law_joined.nd rfl (Or.inr rfl) (de_add rfl (de_var 3) (de_comp (own' := [("_law_name", 7), ("_law_entry", 8)]) rfl sc__law_joined.nd (di_seq rfl (de_item rfl (de_var 1) de_int)) (blkOk_by (own := [("_law_name", 7), ("_law_entry", 8)]) (N := N__law_joined) (sc := defScope s__law_joined) (by decide +kernel)) (fun _ _ _ _ _ => (dg_tup rfl rfl (dgs_cons (dg_name (i := 7) sc__law_joined.nd rfl (Or.inl rfl)) (dgs_cons (dg_name (i := 8) sc__law_joined.nd rfl (Or.inl rfl)) dgs_nil)) (glen_cons (glen_cons glen_nil)))) (fun _ _ _ _ _ => (dts_one (dt_notIn rfl (de_var 7) (de_var 3)))) (fun _ _ _ _ _ => (de_var 7)) (tok_tup (toks_cons tok_name (toks_cons tok_name toks_nil)) (glen_cons (glen_cons glen_nil))) (by decide))))
  (dss_cons (ds_set (i := 4) sc__law_joined.nd rfl (Or.inr rfl) (de_dictT rfl rfl z_dict rfl (da_cons (de_item rfl (de_var 0) de_int) da_nil)))
  (dss_cons (ds_set (i := 5) sc__law_joined.nd rfl (Or.inr rfl) (de_dictT rfl rfl z_dict rfl (da_cons (de_item rfl (de_var 1) de_int) da_nil)))
  (dss_cons (ds_setLc (i := 6) (own' := [("_law_name", 7)]) rfl sc__law_joined.nd rfl rfl (di_seq rfl (de_var 3)) (blkOk_by (own := [("_law_name", 7)]) (N := N__law_joined) (sc := defScope s__law_joined) (by decide +kernel)) (fun _ _ _ _ _ => (dg_name (i := 7) sc__law_joined.nd rfl (Or.inl rfl))) (fun _ _ _ _ _ => dts_nil) (fun _ _ _ _ _ => (de_tup (da_cons (de_var 7) (da_cons (de_call rfl K__law_joined gq r takes0 (da_cons (de_get2 r (de_var 4) (de_var 7) de_non ⟨rfl, rfl, rfl, rfl⟩) (da_cons (de_get2 r (de_var 5) (de_var 7) de_non ⟨rfl, rfl, rfl, rfl⟩) da_nil)) (many_cons (many_cons many_nil)) rfl) da_nil)))) tok_name (by decide) (sw_true rfl rfl rfl (by decide +kernel)))
  (dss_one (ds_ret (de_tup (da_cons de_str (da_cons (de_tupleK rfl z_tuple rfl (da_cons (de_var 6) da_nil)) (da_cons (de_item rfl (de_var 0) de_int) da_nil))))))))))))))))))))

/-! #### _law_pairs -/
abbrev s__law_pairs : Stmt := top 10
abbrev N__law_pairs : List Str := ["_law_cell", "_law_names_here", "_law_many", "_law_found", "_law_j"]
theorem sc__law_pairs : FnScope N__law_pairs ["_law_cell", "_law_names_here", "_law_many"] (defScope s__law_pairs) := ⟨rfl, rfl, rfl, by decide +kernel, rfl, by decide +kernel, by decide +kernel⟩
def b__law_pairs_1 (φ__law_mixed : List D → Res) (φ__law_term : List D → Res) : SS := (sAppend 3 (eTup (aCons (eCall φ__law_term (aCons (eCall φ__law_mixed (aCons (eVar 0) (aCons (eF addD (two (eC (.int 20)) (eVar 4))) aNil))) (aCons (eVar 1) aNil))) (aCons (eTup (aCons (eV modD (two (eVar 0) (eC (.int 9)))) (aCons (eTup (aCons (eItem (eVar 1) (eVar 4)) (aCons (eItem (eVar 1) (eV subD (two (eV negD (aCons (eC (.int 1)) aNil)) (eVar 4)))) aNil))) aNil))) aNil))))
def l__law_pairs_2 (φ__law_mixed : List D → Res) (φ__law_term : List D → Res) : SS := sFor (itRange1 (aCons (eVar 2) aNil)) (gN 4) (b__law_pairs_1 φ__law_mixed φ__law_term)
def g__law_pairs (φ__law_mixed : List D → Res) (φ__law_term : List D → Res) : SS :=
  (sCons (sSet 3 (eLst aNil))
  (sCons (l__law_pairs_2 φ__law_mixed φ__law_term)
  (sRet (eF tupleD (aCons (eVar 3) aNil)))))
theorem kn__law_pairs {φ__law_mixed : List D → Res} {φ__law_term : List D → Res} (S : Src c.K mg "_law_pairs" "_law_pairs" s__law_pairs ["_law_cell", "_law_names_here", "_law_many"]) (K__law_mixed : Kn P w mg base c k "_law_mixed" 2 φ__law_mixed) (K__law_term : Kn P w mg base c k "_law_term" 2 φ__law_term) (z_range : mg "range" = none) (z_tuple : mg "tuple" = none) :
    Kn P w mg base c (k + 1) "_law_pairs" 3 (defSem 5 3 (g__law_pairs φ__law_mixed φ__law_term)) :=
  S.kn sc__law_pairs fun f cdv A outer s H E gq r =>
  (dss_cons (ds_set (i := 3) sc__law_pairs.nd rfl (Or.inl rfl) (de_lst da_nil))
  (dss_cons (ds_for (passes_of rfl) rfl (di_range1 rfl z_range (da_cons (de_var 2) da_nil)) (dg_name (i := 4) sc__law_pairs.nd rfl (Or.inl rfl)) (dss_one (ds_append (i := 3) rfl rfl (Or.inl rfl) (de_tup (da_cons (de_call rfl K__law_term gq r (takes_of rfl rfl rfl rfl) (da_cons (de_call rfl K__law_mixed gq r (takes_of rfl rfl rfl rfl) (da_cons (de_var 0) (da_cons (de_add rfl de_int (de_var 4)) da_nil)) (many_cons (many_cons many_nil)) rfl) (da_cons (de_var 1) da_nil)) (many_cons (many_cons many_nil)) rfl) (da_cons (de_tup (da_cons (de_mod (de_var 0) de_int) (da_cons (de_tup (da_cons (de_item rfl (de_var 1) (de_var 4)) (da_cons (de_item rfl (de_var 1) (de_sub (de_neg de_int) (de_var 4))) da_nil))) da_nil))) da_nil))))))
  (dss_one (ds_ret (de_tuple rfl z_tuple rfl (da_cons (de_var 3) da_nil))))))

/-! #### _law_record -/
abbrev s__law_record : Stmt := top 11
abbrev N__law_record : List Str := ["_law_cell", "_law_names_here", "_law_deep", "_law_fresh", "_law_many", "_law_turn", "_law_some", "_law_fields", "_law_j"]
theorem sc__law_record : FnScope N__law_record ["_law_cell", "_law_names_here", "_law_deep", "_law_fresh"] (defScope s__law_record) := ⟨rfl, rfl, rfl, by decide +kernel, rfl, by decide +kernel, by decide +kernel⟩
def c__law_record_1 (φ__law_any : List D → Res) (φ__law_mixed : List D → Res) : En → Out Rv := eComp (itRange1 (aCons (eVar 4) aNil)) (gN 8) tYesD (eTup (aCons (eItem (eVar 6) (eVar 8)) (aCons (eCall φ__law_any (aCons (eCall φ__law_mixed (aCons (eVar 0) (aCons (eVar 8) aNil))) (aCons (eVar 1) (aCons (eV subD (two (eVar 2) (eC (.int 1)))) aNil)))) aNil))) [8]
def g__law_record (φ__law_any : List D → Res) (φ__law_mixed : List D → Res) : SS :=
  (sCons (sSet 4 (eV modD (two (eVar 0) (eC (.int 5)))))
  (sCons (sSet 5 (eV modD (two (eV divD (two (eVar 0) (eC (.int 5)))) (eC (.int 5)))))
  (sCons (sSet 6 (eSlice (eF addD (two (eSlice (eVar 1) (pSome (eVar 5)) pNone) (eSlice (eVar 1) pNone (pSome (eVar 5))))) pNone (pSome (eVar 4))))
  (sCons (sSet 7 (c__law_record_1 φ__law_any φ__law_mixed))
  (sRet (eTup (aCons (eC (.str "record")) (aCons (eF tupleKD (aCons (eVar 7) aNil)) (aCons (eVar 3) aNil)))))))))
theorem kn__law_record {φ__law_any : List D → Res} {φ__law_mixed : List D → Res} (S : Src c.K mg "_law_record" "_law_record" s__law_record ["_law_cell", "_law_names_here", "_law_deep", "_law_fresh"]) (K__law_any : Kn P w mg base c k "_law_any" 3 φ__law_any) (K__law_mixed : Kn P w mg base c k "_law_mixed" 2 φ__law_mixed) (z_range : mg "range" = none) (z_tuple : mg "tuple" = none) :
    Kn P w mg base c (k + 1) "_law_record" 4 (defSem 9 4 (g__law_record φ__law_any φ__law_mixed)) :=
  S.kn sc__law_record fun f cdv A outer s H E gq r =>
  (dss_cons (ds_set (i := 4) sc__law_record.nd rfl (Or.inl rfl) (de_mod (de_var 0) de_int))
  (dss_cons (ds_set (i := 5) sc__law_record.nd rfl (Or.inl rfl) (de_mod (de_div (de_var 0) de_int) de_int))
  (dss_cons (ds_set (i := 6) sc__law_record.nd rfl (Or.inr rfl) (de_slice rfl (de_add rfl (de_slice rfl (de_var 1) (dp_some (de_var 5)) dp_none) (de_slice rfl (de_var 1) dp_none (dp_some (de_var 5)))) dp_none (dp_some (de_var 4))))
  (dss_cons (ds_setLc (i := 7) (own' := [("_law_j", 8)]) rfl sc__law_record.nd rfl rfl (di_range1 rfl z_range (da_cons (de_var 4) da_nil)) (blkOk_by (own := [("_law_j", 8)]) (N := N__law_record) (sc := defScope s__law_record) (by decide +kernel)) (fun _ _ _ _ _ => (dg_name (i := 8) sc__law_record.nd rfl (Or.inl rfl))) (fun _ _ _ _ _ => dts_nil) (fun _ _ _ _ _ => (de_tup (da_cons (de_item rfl (de_var 6) (de_var 8)) (da_cons (de_call rfl K__law_any gq r takes0 (da_cons (de_call rfl K__law_mixed gq r takes0 (da_cons (de_var 0) (da_cons (de_var 8) da_nil)) (many_cons (many_cons many_nil)) rfl) (da_cons (de_var 1) (da_cons (de_sub (de_var 2) de_int) da_nil))) (many_cons (many_cons (many_cons many_nil))) rfl) da_nil)))) tok_name (by decide) (sw_true rfl rfl rfl (by decide +kernel)))
  (dss_one (ds_ret (de_tup (da_cons de_str (da_cons (de_tupleK rfl z_tuple rfl (da_cons (de_var 7) da_nil)) (da_cons (de_var 3) da_nil))))))))))

/-! #### _law_any -/
abbrev s__law_any : Stmt := top 12
abbrev N__law_any : List Str := ["_law_cell", "_law_names_here", "_law_deep", "_law_way", "_law_more", "_law_mark", "_law_beneath", "_law_aheads", "_law_many"]
theorem sc__law_any : FnScope N__law_any ["_law_cell", "_law_names_here", "_law_deep"] (defScope s__law_any) := ⟨rfl, rfl, rfl, by decide +kernel, rfl, by decide +kernel, by decide +kernel⟩
def g__law_any (φ__law_any : List D → Res) (φ__law_mixed : List D → Res) (φ__law_pairs : List D → Res) (φ__law_record : List D → Res) (φ__law_term : List D → Res) : SS :=
  (sCons (sSet 3 (eV modD (two (eVar 0) (eC (.int 9)))))
  (sCons (sSet 4 (eV divD (two (eVar 0) (eC (.int 9)))))
  (sCons (sSet 5 (eTup (aCons (eV modD (two (eVar 4) (eC (.int 8)))) (aCons (eTup (aCons (eItem (eVar 1) (eV modD (two (eV divD (two (eVar 4) (eC (.int 8)))) (eC (.int 5))))) (aCons (eItem (eVar 1) (eV modD (two (eV divD (two (eVar 4) (eC (.int 40)))) (eC (.int 5))))) aNil))) aNil))))
  (sCons (sIf (tOrD (tOf (eV (cmpD fun i j => decide (i < j)) (two (eVar 3) (eC (.int 2))))) (tAndD (tOf (eV (cmpD fun i j => decide (i < j)) (two (eVar 2) (eC (.int 1))))) (tOf (eV (cmpD fun i j => decide (i > j)) (two (eVar 3) (eC (.int 4))))))) (sRet (eTup (aCons (eC (.str "is")) (aCons (eCall φ__law_term (aCons (eCall φ__law_mixed (aCons (eVar 4) (aCons (eC (.int 1)) aNil))) (aCons (eVar 1) aNil))) (aCons (eVar 5) aNil))))) sNil)
  (sCons (sIf (tOf (eV eqD (two (eVar 3) (eC (.int 2))))) (sRet (eTup (aCons (eC (.str "gone")) (aCons (eVar 5) aNil)))) sNil)
  (sCons (sIf (tOf (eV (cmpD fun i j => decide (i < j)) (two (eVar 3) (eC (.int 5))))) (sCons (sSet 6 (eC .non))
  (sCons (sIf (tAndD (tOf (eV (cmpD fun i j => decide (i > j)) (two (eVar 2) (eC (.int 0))))) (tOf (eV eqD (two (eV modD (two (eVar 4) (eC (.int 2)))) (eC (.int 1)))))) (sSet 6 (eCall φ__law_any (aCons (eCall φ__law_mixed (aCons (eVar 4) (aCons (eC (.int 2)) aNil))) (aCons (eVar 1) (aCons (eV subD (two (eVar 2) (eC (.int 1)))) aNil))))) sNil)
  (sCons (sIf (tAndD (tOf (eV isntD (two (eVar 6) (eC .non)))) (tOf (eV eqD (two (eItem (eVar 6) (eC (.int 0))) (eC (.str "pile")))))) (sSet 6 (eC .non)) sNil)
  (sCons (sSet 7 (eCall φ__law_pairs (aCons (eV divD (two (eVar 4) (eC (.int 2)))) (aCons (eVar 1) (aCons (eV modD (two (eV divD (two (eVar 4) (eC (.int 2)))) (eC (.int 3)))) aNil)))))
  (sCons (sSet 8 (eV maxD (aCons (eV modD (two (eV divD (two (eVar 4) (eC (.int 6)))) (eC (.int 3)))) (aCons (eV intD (aCons (eV eqD (two (eVar 7) (eTup aNil))) aNil)) aNil))))
  (sRet (eTup (aCons (eC (.str "pile")) (aCons (eVar 6) (aCons (eVar 7) (aCons (eCall φ__law_pairs (aCons (eV divD (two (eVar 4) (eC (.int 6)))) (aCons (eVar 1) (aCons (eVar 8) aNil)))) aNil))))))))))) sNil)
  (sCons (sIf (tOf (eV eqD (two (eVar 3) (eC (.int 5))))) (sRet (eTup (aCons (eC (.str "make")) (aCons (eTup (aCons (eItem (eVar 1) (eV modD (two (eVar 4) (eC (.int 5))))) aNil)) (aCons (eCall φ__law_record (aCons (eCall φ__law_mixed (aCons (eVar 4) (aCons (eC (.int 3)) aNil))) (aCons (eVar 1) (aCons (eVar 2) (aCons (eC (.bl false)) aNil))))) (aCons (eVar 5) aNil)))))) sNil)
  (sRet (eCall φ__law_record (aCons (eCall φ__law_mixed (aCons (eVar 4) (aCons (eC (.int 4)) aNil))) (aCons (eVar 1) (aCons (eVar 2) (aCons (eV eqD (two (eVar 3) (eC (.int 8)))) aNil)))))))))))))
theorem kn__law_any {φ__law_any : List D → Res} {φ__law_mixed : List D → Res} {φ__law_pairs : List D → Res} {φ__law_record : List D → Res} {φ__law_term : List D → Res} (S : Src c.K mg "_law_any" "_law_any" s__law_any ["_law_cell", "_law_names_here", "_law_deep"]) (K__law_any : Kn P w mg base c k "_law_any" 3 φ__law_any) (K__law_mixed : Kn P w mg base c k "_law_mixed" 2 φ__law_mixed) (K__law_pairs : Kn P w mg base c k "_law_pairs" 3 φ__law_pairs) (K__law_record : Kn P w mg base c k "_law_record" 4 φ__law_record) (K__law_term : Kn P w mg base c k "_law_term" 2 φ__law_term) (z_int : mg "int" = none) (z_max : mg "max" = none) :
    Kn P w mg base c (k + 1) "_law_any" 3 (defSem 9 3 (g__law_any φ__law_any φ__law_mixed φ__law_pairs φ__law_record φ__law_term)) :=
  S.kn sc__law_any fun f cdv A outer s H E gq r =>
  (dss_cons (ds_set (i := 3) sc__law_any.nd rfl (Or.inl rfl) (de_mod (de_var 0) de_int))
  (dss_cons (ds_set (i := 4) sc__law_any.nd rfl (Or.inl rfl) (de_div (de_var 0) de_int))
  (dss_cons (ds_set (i := 5) sc__law_any.nd rfl (Or.inl rfl) (de_tup (da_cons (de_mod (de_var 4) de_int) (da_cons (de_tup (da_cons (de_item rfl (de_var 1) (de_mod (de_div (de_var 4) de_int) de_int)) (da_cons (de_item rfl (de_var 1) (de_mod (de_div (de_var 4) de_int) de_int)) da_nil))) da_nil))))
  (dss_cons (ds_if (dw_pt (dw_or (dt_lt (de_var 3) de_int) (dw_or1 (dw_pt (dw_and (dt_lt (de_var 2) de_int) (dw_and1 (dt_gt (de_var 3) de_int))))))) (dss_one (ds_ret (de_tup (da_cons de_str (da_cons (de_call rfl K__law_term gq r (takes_of rfl rfl rfl rfl) (da_cons (de_call rfl K__law_mixed gq r (takes_of rfl rfl rfl rfl) (da_cons (de_var 4) (da_cons de_int da_nil)) (many_cons (many_cons many_nil)) rfl) (da_cons (de_var 1) da_nil)) (many_cons (many_cons many_nil)) rfl) (da_cons (de_var 5) da_nil)))))) dss_nil)
  (dss_cons (ds_if (dt_eq rfl r (de_var 3) de_int) (dss_one (ds_ret (de_tup (da_cons de_str (da_cons (de_var 5) da_nil))))) dss_nil)
  (dss_cons (ds_if (dt_lt (de_var 3) de_int) (dss_cons (ds_set (i := 6) sc__law_any.nd rfl (Or.inl rfl) de_non)
  (dss_cons (ds_if (dw_pt (dw_and (dt_gt (de_var 2) de_int) (dw_and1 (dt_eq rfl r (de_mod (de_var 4) de_int) de_int)))) (dss_one (ds_set (i := 6) sc__law_any.nd rfl (Or.inl rfl) (de_call rfl K__law_any gq r (takes_of rfl rfl rfl rfl) (da_cons (de_call rfl K__law_mixed gq r (takes_of rfl rfl rfl rfl) (da_cons (de_var 4) (da_cons de_int da_nil)) (many_cons (many_cons many_nil)) rfl) (da_cons (de_var 1) (da_cons (de_sub (de_var 2) de_int) da_nil))) (many_cons (many_cons (many_cons many_nil))) rfl))) dss_nil)
  (dss_cons (ds_if (dw_pt (dw_and (dt_isnt (de_var 6) de_non) (dw_and1 (dt_eq rfl r (de_item rfl (de_var 6) de_int) de_str)))) (dss_one (ds_set (i := 6) sc__law_any.nd rfl (Or.inl rfl) de_non)) dss_nil)
  (dss_cons (ds_set (i := 7) sc__law_any.nd rfl (Or.inl rfl) (de_call rfl K__law_pairs gq r (takes_of rfl rfl rfl rfl) (da_cons (de_div (de_var 4) de_int) (da_cons (de_var 1) (da_cons (de_mod (de_div (de_var 4) de_int) de_int) da_nil))) (many_cons (many_cons (many_cons many_nil))) rfl))
  (dss_cons (ds_set (i := 8) sc__law_any.nd rfl (Or.inl rfl) (de_max rfl z_max rfl (da_cons (de_mod (de_div (de_var 4) de_int) de_int) (da_cons (de_intB z_int rfl (da_cons (de_eq rfl r (de_var 7) (de_tup da_nil)) da_nil)) da_nil))))
  (dss_one (ds_ret (de_tup (da_cons de_str (da_cons (de_var 6) (da_cons (de_var 7) (da_cons (de_call rfl K__law_pairs gq r (takes_of rfl rfl rfl rfl) (da_cons (de_div (de_var 4) de_int) (da_cons (de_var 1) (da_cons (de_var 8) da_nil))) (many_cons (many_cons (many_cons many_nil))) rfl) da_nil)))))))))))) dss_nil)
  (dss_cons (ds_if (dt_eq rfl r (de_var 3) de_int) (dss_one (ds_ret (de_tup (da_cons de_str (da_cons (de_tup (da_cons (de_item rfl (de_var 1) (de_mod (de_var 4) de_int)) da_nil)) (da_cons (de_call rfl K__law_record gq r (takes_of rfl rfl rfl rfl) (da_cons (de_call rfl K__law_mixed gq r (takes_of rfl rfl rfl rfl) (da_cons (de_var 4) (da_cons de_int da_nil)) (many_cons (many_cons many_nil)) rfl) (da_cons (de_var 1) (da_cons (de_var 2) (da_cons de_bl da_nil)))) (many_cons (many_cons (many_cons (many_cons many_nil)))) rfl) (da_cons (de_var 5) da_nil))))))) dss_nil)
  (dss_one (ds_ret (de_call rfl K__law_record gq r (takes_of rfl rfl rfl rfl) (da_cons (de_call rfl K__law_mixed gq r (takes_of rfl rfl rfl rfl) (da_cons (de_var 4) (da_cons de_int da_nil)) (many_cons (many_cons many_nil)) rfl) (da_cons (de_var 1) (da_cons (de_var 2) (da_cons (de_eq rfl r (de_var 3) de_int) da_nil)))) (many_cons (many_cons (many_cons (many_cons many_nil)))) rfl))))))))))

/-! #### law -/
abbrev s_law : Stmt := top 13
abbrev N_law : List Str := ["_law_script", "_law_names_here", "_law_k", "_law_one", "_law_other", "_law_lower", "_law_upper", "_law_due"]
theorem sc_law : FnScope N_law ["_law_script"] (defScope s_law) := ⟨rfl, rfl, rfl, by decide +kernel, rfl, by decide +kernel, by decide +kernel⟩
def b_law_1 (φ__law_joined : List D → Res) (φ_joined : List D → Res) : SS := (sCons (sSet 7 (eV reprD (aCons (eCall φ__law_joined (aCons (eVar 5) (aCons (eVar 6) aNil))) aNil)))
  (sIf (tOrD (tOf (eV neD (two (eV reprD (aCons (eCall φ_joined (aCons (eVar 5) (aCons (eVar 6) aNil))) aNil)) (eVar 7)))) (tOf (eV neD (two (eV reprD (aCons (eCall φ_joined (aCons (eVar 5) (aCons (eVar 6) aNil))) aNil)) (eVar 7))))) (sRet (eC (.bl false))) sNil))
def l_law_2 (φ__law_joined : List D → Res) (φ_joined : List D → Res) : SS := sFor (itSeq (eLst (aCons (eTup (aCons (eVar 3) (aCons (eVar 4) aNil))) (aCons (eTup (aCons (eVar 4) (aCons (eVar 3) aNil))) (aCons (eTup (aCons (eVar 3) (aCons (eC .non) aNil))) (aCons (eTup (aCons (eC .non) (aCons (eVar 4) aNil))) (aCons (eTup (aCons (eVar 3) (aCons (eVar 3) aNil))) aNil))))))) (gT (gCons' (gN 5) (gCons' (gN 6) gNil'))) (b_law_1 φ__law_joined φ_joined)
def b_law_3 (φ__law_any : List D → Res) (φ__law_cell_at : List D → Res) (φ__law_joined : List D → Res) (φ__law_mixed : List D → Res) (φ_joined : List D → Res) : SS := (sCons (sSet 3 (eCall φ__law_any (aCons (eCall φ__law_mixed (aCons (eCall φ__law_cell_at (aCons (eVar 0) (aCons (eV mulD (two (eC (.int 2)) (eVar 2))) aNil))) (aCons (eF addD (two (eC (.int 5)) (eVar 2))) aNil))) (aCons (eVar 1) (aCons (eC (.int 3)) aNil)))))
  (sCons (sSet 4 (eCall φ__law_any (aCons (eCall φ__law_mixed (aCons (eCall φ__law_cell_at (aCons (eVar 0) (aCons (eF addD (two (eV mulD (two (eC (.int 2)) (eVar 2))) (eC (.int 1)))) aNil))) (aCons (eF addD (two (eC (.int 60)) (eVar 2))) aNil))) (aCons (eVar 1) (aCons (eC (.int 3)) aNil)))))
  (sCons (l_law_2 φ__law_joined φ_joined)
  (sIf (tOrD (tOf (eV neD (two (eCall φ_joined (aCons (eVar 3) (aCons (eC .non) aNil))) (eVar 3)))) (tOf (eV neD (two (eCall φ_joined (aCons (eC .non) (aCons (eVar 4) aNil))) (eVar 4))))) (sRet (eC (.bl false))) sNil))))
def l_law_4 (φ__law_any : List D → Res) (φ__law_cell_at : List D → Res) (φ__law_joined : List D → Res) (φ__law_mixed : List D → Res) (φ_joined : List D → Res) : SS := sFor (itRange1 (aCons (eF addD (two (eC (.int 1)) (eV minD (aCons (eC (.int 30)) (aCons (eV divD (two (eV lenD (aCons (eVar 0) aNil)) (eC (.int 2)))) aNil))))) aNil)) (gN 2) (b_law_3 φ__law_any φ__law_cell_at φ__law_joined φ__law_mixed φ_joined)
def g_law (φ__law_any : List D → Res) (φ__law_cell_at : List D → Res) (φ__law_joined : List D → Res) (φ__law_mixed : List D → Res) (φ__law_names : List D → Res) (φ_joined : List D → Res) : SS :=
  (sCons (sSet 1 (eCall φ__law_names (aCons (eCall φ__law_mixed (aCons (eCall φ__law_cell_at (aCons (eVar 0) (aCons (eC (.int 0)) aNil))) (aCons (eC (.int 1)) aNil))) aNil)))
  (sCons (l_law_4 φ__law_any φ__law_cell_at φ__law_joined φ__law_mixed φ_joined)
  (sRet (eV isD (two (eCall φ_joined (aCons (eC .non) (aCons (eC .non) aNil))) (eC .non))))))
theorem fn_law {φ__law_any : List D → Res} {φ__law_cell_at : List D → Res} {φ__law_joined : List D → Res} {φ__law_mixed : List D → Res} {φ__law_names : List D → Res} {φ_joined : List D → Res} {f : Addr} {fd : FuncData} (F : Fun c.K "law" "law" s_law f fd) (K__law_any : Kn P w mg base c k "_law_any" 3 φ__law_any) (K__law_cell_at : Kn P w mg base c k "_law_cell_at" 2 φ__law_cell_at) (K__law_joined : Kn P w mg base c k "_law_joined" 2 φ__law_joined) (K__law_mixed : Kn P w mg base c k "_law_mixed" 2 φ__law_mixed) (K__law_names : Kn P w mg base c k "_law_names" 1 φ__law_names) (K_joined : Kn P w mg base c k "joined" 2 φ_joined) (z_len : mg "len" = none) (z_min : mg "min" = none) (z_range : mg "range" = none) (z_repr : mg "repr" = none) :
    FnG P w c.K mg base (k + 1) f fd ["_law_script"] (spP c 1 (defSem 8 1 (g_law φ__law_any φ__law_cell_at φ__law_joined φ__law_mixed φ__law_names φ_joined))) :=
  defP F sc_law fun cdv A outer s H E gq r =>
  (dss_cons (ds_set (i := 1) sc_law.nd rfl (Or.inl rfl) (de_call rfl K__law_names gq r (takes_of rfl rfl rfl rfl) (da_cons (de_call rfl K__law_mixed gq r (takes_of rfl rfl rfl rfl) (da_cons (de_call rfl K__law_cell_at gq r (takes_of rfl rfl rfl rfl) (da_cons (de_var 0) (da_cons de_int da_nil)) (many_cons (many_cons many_nil)) rfl) (da_cons de_int da_nil)) (many_cons (many_cons many_nil)) rfl) da_nil) (many_cons many_nil) rfl))
  (dss_cons (ds_for (passes_of rfl) rfl (di_range1 rfl z_range (da_cons (de_add rfl de_int (de_min rfl z_min rfl (da_cons de_int (da_cons (de_div (de_len rfl z_len rfl (da_cons (de_var 0) da_nil)) de_int) da_nil)))) da_nil)) (dg_name (i := 2) sc_law.nd rfl (Or.inl rfl)) (dss_cons (ds_set (i := 3) sc_law.nd rfl (Or.inl rfl) (de_call rfl K__law_any gq r (takes_of rfl rfl rfl rfl) (da_cons (de_call rfl K__law_mixed gq r (takes_of rfl rfl rfl rfl) (da_cons (de_call rfl K__law_cell_at gq r (takes_of rfl rfl rfl rfl) (da_cons (de_var 0) (da_cons (de_mul de_int (de_var 2)) da_nil)) (many_cons (many_cons many_nil)) rfl) (da_cons (de_add rfl de_int (de_var 2)) da_nil)) (many_cons (many_cons many_nil)) rfl) (da_cons (de_var 1) (da_cons de_int da_nil))) (many_cons (many_cons (many_cons many_nil))) rfl))
  (dss_cons (ds_set (i := 4) sc_law.nd rfl (Or.inl rfl) (de_call rfl K__law_any gq r (takes_of rfl rfl rfl rfl) (da_cons (de_call rfl K__law_mixed gq r (takes_of rfl rfl rfl rfl) (da_cons (de_call rfl K__law_cell_at gq r (takes_of rfl rfl rfl rfl) (da_cons (de_var 0) (da_cons (de_add rfl (de_mul de_int (de_var 2)) de_int) da_nil)) (many_cons (many_cons many_nil)) rfl) (da_cons (de_add rfl de_int (de_var 2)) da_nil)) (many_cons (many_cons many_nil)) rfl) (da_cons (de_var 1) (da_cons de_int da_nil))) (many_cons (many_cons (many_cons many_nil))) rfl))
  (dss_cons (ds_for (passes_of rfl) rfl (di_seq rfl (de_lst (da_cons (de_tup (da_cons (de_var 3) (da_cons (de_var 4) da_nil))) (da_cons (de_tup (da_cons (de_var 4) (da_cons (de_var 3) da_nil))) (da_cons (de_tup (da_cons (de_var 3) (da_cons de_non da_nil))) (da_cons (de_tup (da_cons de_non (da_cons (de_var 4) da_nil))) (da_cons (de_tup (da_cons (de_var 3) (da_cons (de_var 3) da_nil))) da_nil))))))) (dg_tup rfl rfl (dgs_cons (dg_name (i := 5) sc_law.nd rfl (Or.inl rfl)) (dgs_cons (dg_name (i := 6) sc_law.nd rfl (Or.inl rfl)) dgs_nil)) (glen_cons (glen_cons glen_nil))) (dss_cons (ds_set (i := 7) sc_law.nd rfl (Or.inl rfl) (de_repr rfl gq r z_repr rfl (da_cons (de_call rfl K__law_joined gq r (takes_of rfl rfl rfl rfl) (da_cons (de_var 5) (da_cons (de_var 6) da_nil)) (many_cons (many_cons many_nil)) rfl) da_nil)))
  (dss_one (ds_if (dw_pt (dw_or (dt_ne rfl r (de_repr rfl gq r z_repr rfl (da_cons (de_call rfl K_joined gq r (takes_of rfl rfl rfl rfl) (da_cons (de_var 5) (da_cons (de_var 6) da_nil)) (many_cons (many_cons many_nil)) rfl) da_nil)) (de_var 7)) (dw_or1 (dt_ne rfl r (de_repr rfl gq r z_repr rfl (da_cons (de_call rfl K_joined gq r (takes_of rfl rfl rfl rfl) (da_cons (de_var 5) (da_cons (de_var 6) da_nil)) (many_cons (many_cons many_nil)) rfl) da_nil)) (de_var 7))))) (dss_one (ds_ret de_bl)) dss_nil))))
  (dss_one (ds_if (dw_pt (dw_or (dt_ne rfl r (de_call rfl K_joined gq r (takes_of rfl rfl rfl rfl) (da_cons (de_var 3) (da_cons de_non da_nil)) (many_cons (many_cons many_nil)) rfl) (de_var 3)) (dw_or1 (dt_ne rfl r (de_call rfl K_joined gq r (takes_of rfl rfl rfl rfl) (da_cons de_non (da_cons (de_var 4) da_nil)) (many_cons (many_cons many_nil)) rfl) (de_var 4))))) (dss_one (ds_ret de_bl)) dss_nil))))))
  (dss_one (ds_ret (de_is (de_call rfl K_joined gq r (takes_of rfl rfl rfl rfl) (da_cons de_non (da_cons de_non da_nil)) (many_cons (many_cons many_nil)) rfl) de_non)))))
end
end K12

set_option Elab.async false
set_option linter.all false
set_option maxRecDepth 100000
set_option maxHeartbeats 4000000
namespace K12
open PySem L2 PySem.Spec PyProof.Rows DL
def mix (a k : Int) : Int := (a % 2147483629 * (48271 + 7919 * k * k + 104729 * k) + 31 * k + 12345) % 2147483647
theorem mix_ge (a k : Int) : 0 ≤ mix a k := Int.emod_nonneg _ (by decide)
theorem mix_lt (a k : Int) : mix a k < 2147483647 := Int.emod_lt_of_pos _ (by decide)
theorem sem_mixed {a k : Int} (hk : k.natAbs < 18446744073709551616) : defSem 3 2 g__law_mixed [.int a, .int k] = .ok (.fz (.int (mix a k))) := by
  have h0 : (a % 2147483629).natAbs < 18446744073709551616 := by omega
  simp [defSem, frame, sCons, sNil, sIf, sSet, sRet, sDrop, eF, eV, two, aCons, aNil, eC, eVar, eTup, eLst, eItem, eIf, tOf, tAndD, tOrD, tNotD, eAndD, eOrD, eNotD, fixAll, lookAll, ownAll, fix, look, own, give, O.val, vals, treeOf, itemD, bind_ok, so_ok, then_nx, then_rt, En.put, En.hole, En.at, En.frz, addD_int, subD, mulD_l, mulD_r, modD_of, divD_of, eqD_int, neD_int, eqD_str, neD_str, cmpD, g__law_mixed, h0, hk, mix]
theorem sem_cell_at {ns : List Int} {k : Int} (hk : 0 ≤ k) : ∃ v : Int, defSem 2 2 g__law_cell_at [.lst (ns.map .int), .int k] = .ok (.fz (.int v)) := by
  by_cases h : k < ns.length
  · obtain ⟨x, hx, e⟩ := atI_mem (xs := ns.map D.int) hk (by rw [List.length_map]; exact h)
    obtain ⟨v, _, rfl⟩ := List.mem_map.mp hx
    refine ⟨v, ?_⟩
    simp [defSem, frame, sCons, sNil, sIf, sSet, sRet, sDrop, eF, eV, two, aCons, aNil, eC, eVar, eTup, eLst, eItem, eIf, tOf, tAndD, tOrD, tNotD, eAndD, eOrD, eNotD, fixAll, lookAll, ownAll, fix, look, own, give, O.val, vals, treeOf, itemD, bind_ok, so_ok, then_nx, then_rt, En.put, En.hole, En.at, En.frz, addD_int, subD, mulD_l, mulD_r, modD_of, divD_of, eqD_int, neD_int, eqD_str, neD_str, cmpD, g__law_cell_at, lenD, e, h]
  · refine ⟨0, ?_⟩
    simp [defSem, frame, sCons, sNil, sIf, sSet, sRet, sDrop, eF, eV, two, aCons, aNil, eC, eVar, eTup, eLst, eItem, eIf, tOf, tAndD, tOrD, tNotD, eAndD, eOrD, eNotD, fixAll, lookAll, ownAll, fix, look, own, give, O.val, vals, treeOf, itemD, bind_ok, so_ok, then_nx, then_rt, En.put, En.hole, En.at, En.frz, addD_int, subD, mulD_l, mulD_r, modD_of, divD_of, eqD_int, neD_int, eqD_str, neD_str, cmpD, g__law_cell_at, lenD, h]

/-! ### names -/
def one (c : Nat) : Str := ⟨#[c]⟩
def chars (cs : List Nat) : List O := cs.map fun c => .fz (.str (one c))
theorem strsOf_one : ∀ cs : List Nat, strsOf (cs.map fun c => D.str (one c)) = some (cs.map one)
  | [] => rfl
  | c :: cs => by
    rw [List.map_cons]
    unfold strsOf
    rw [strsOf_one cs]
    rfl
theorem str_app (x y : List Nat) : (⟨x.toArray⟩ : Str) ++ (⟨y.toArray⟩ : Str) = ⟨(x ++ y).toArray⟩ := by
  show (⟨x.toArray ++ y.toArray⟩ : Str) = _
  simp
theorem join_one : ∀ cs : List Nat, Str.join "" (cs.map one) = ⟨cs.toArray⟩
  | [] => rfl
  | [c] => rfl
  | c :: d :: r => by
    have ih := join_one (d :: r)
    show one c ++ ("" : Str) ++ Str.join "" ((d :: r).map one) = _
    rw [ih]
    show (⟨[c].toArray⟩ : Str) ++ (⟨([] : List Nat).toArray⟩ : Str) ++ _ = _
    rw [str_app, str_app]
    rfl
theorem joinS_one {cs : List Nat} (h : cs.length ≤ 1000) : joinS "" (.lst (cs.map fun c => D.str (one c))) = some (.str ⟨cs.toArray⟩) := by
  unfold joinS
  simp only [strsOf_one]
  rw [if_pos]
  · show some (D.str (Builtin.Str.glued "" (cs.map one))) = _
    rw [StrLaws.glued_eq_join, join_one]
  · have : ((cs.map one).map (·.length)).sum = cs.length := by
      induction cs with
      | nil => rfl
      | cons c cs ih =>
        rw [List.length_cons] at h
        simp only [List.map_cons, List.sum_cons, List.length_cons]
        rw [ih (by omega)]
        show 1 + _ = _
        omega
    rw [this]
    have e : (("" : String) : Str).length = 0 := rfl
    rw [e]
    unfold most
    omega
def signs : Str := "qzjvxkw"
def sg (i : Int) : Nat := ((atI signs.cps.toList i).getD 0)
theorem sg_ok {i : Int} (h : 0 ≤ i) (h2 : i < 7) : itemD (.str signs) i = some (.str (one (sg i))) ∧ sg i < 128 := by
  have : i = 0 ∨ i = 1 ∨ i = 2 ∨ i = 3 ∨ i = 4 ∨ i = 5 ∨ i = 6 := by omega
  rcases this with rfl | rfl | rfl | rfl | rfl | rfl | rfl <;> exact ⟨rfl, by decide⟩
end K12

set_option Elab.async false
set_option linter.all false
set_option maxRecDepth 100000
set_option maxHeartbeats 4000000
namespace K12
open PySem L2 PySem.Spec PyProof.Rows DL
/-- what a list of names is -/
structure NamesOk (xs : List Str) : Prop where
  len : xs.length = 5
  nd : xs.Nodup
  ok : ∀ x ∈ xs, PyData.strOk x = true ∧ x.length ≤ 8
def rep (c n : Nat) : Str := ⟨(List.replicate n c).toArray⟩
theorem mul_one_str {c : Nat} {k : Int} (h1 : 0 ≤ k) (h : k ≤ 10) : mulD [.str (one c), .int k] = some (.str (rep c k.toNat)) := by
  have : k = 0 ∨ k = 1 ∨ k = 2 ∨ k = 3 ∨ k = 4 ∨ k = 5 ∨ k = 6 ∨ k = 7 ∨ k = 8 ∨ k = 9 ∨ k = 10 := by omega
  rcases this with rfl | rfl | rfl | rfl | rfl | rfl | rfl | rfl | rfl | rfl | rfl <;> rfl
theorem names_rep {c : Nat} (h : c < 128) : NamesOk ((nums 0 5).map fun d => match d with | .int k => rep c (1 + k).toNat | _ => rep c 0) := by
  refine ⟨rfl, ?_, ?_⟩
  · show [rep c 1, rep c 2, rep c 3, rep c 4, rep c 5].Nodup
    simp [rep]
  · intro x hx
    have hx : x ∈ [rep c 1, rep c 2, rep c 3, rep c 4, rep c 5] := hx
    simp only [List.mem_cons, List.not_mem_nil, or_false] at hx
    have h2 : c < 1114112 := by omega
    rcases hx with rfl | rfl | rfl | rfl | rfl <;> refine ⟨?_, ?_⟩ <;> simp [rep, PyData.strOk, h2, Str.length]
/-- the names of the second sort -/
def rest (cs : List Nat) (at_ : Nat) (q : Nat) : Str := ⟨(cs.set at_ q).toArray⟩
theorem rest_inj {cs : List Nat} {a q r : Nat} (h : a < cs.length) (e : rest cs a q = rest cs a r) : q = r := by
  unfold rest at e
  injection e with e
  have e := congrArg Array.toList e
  simp only at e
  have := congrArg (fun l => l[a]?) e
  simpa [h] using this
theorem names_rest {cs : List Nat} {a : Nat} (h : a < cs.length) (h8 : cs.length ≤ 8) (hc : ∀ c ∈ cs, c < 128) : NamesOk ([113, 122, 106, 118, 120].map (rest cs a)) := by
  refine ⟨rfl, ?_, ?_⟩
  · exact nodup_map (fun x _ y _ e => rest_inj h e) (by decide)
  · intro x hx
    obtain ⟨q, hq, rfl⟩ := List.mem_map.mp hx
    have hq : q < 128 := by
      simp only [List.mem_cons, List.not_mem_nil, or_false] at hq
      omega
    refine ⟨?_, ?_⟩
    · unfold PyData.strOk rest
      simp only [List.all_toArray, List.all_eq_true, decide_eq_true_eq]
      intro c hm
      rcases List.mem_or_eq_of_mem_set hm with hm | rfl
      · have := hc c hm; omega
      · omega
    · show (cs.set a q).toArray.size ≤ 8
      simpa using h8
theorem ev_c1 {a : Int} {me : O} {s2 s3 s4 s5 : Option Sl} : c__law_names_1 ⟨[some (.ow (.fz (.int a))), some (.ow (.fz (.str signs))), s2, s3, s4, s5, none], me⟩ = .ok (.tm (.lst ((nums 0 5).map fun d => match d with | .int k => .fz (.str (rep (sg (a / 4 % 7)) (1 + k).toNat)) | _ => .fz .non))) ⟨[some (.ow (.fz (.int a))), some (.ow (.fz (.str signs))), s2, s3, s4, s5, none], me⟩ := by
  refine eComp_all _ rfl rfl (fun d hd => ?_) (by rw [nums_length]; decide)
  obtain ⟨j, hj, rfl⟩ := nums0_mem hd
  obtain ⟨h1, h2⟩ := sg_ok (i := a / 4 % 7) (by omega) (by omega)
  have h3 := mul_one_str (c := sg (a / 4 % 7)) (k := 1 + (j : Int)) (by omega) (by omega)
  simp [turn1, gN, tYesD, En.wipe, defSem, frame, sCons, sNil, sIf, sSet, sRet, sDrop, eF, eV, two, aCons, aNil, eC, eVar, eTup, eLst, eItem, eIf, tOf, tAndD, tOrD, tNotD, eAndD, eOrD, eNotD, fixAll, lookAll, ownAll, fix, look, own, give, O.val, vals, treeOf, itemD_lst, itemD_tup, bind_ok, so_ok, then_nx, then_rt, En.put, En.hole, En.at, En.frz, addD_int, subD, mulD_l, mulD_r, modD_of, divD_of, eqD_int, neD_int, eqD_str, neD_str, cmpD, h1, h3]
theorem ev_c2 {a n : Int} {me : O} {s3 s4 s5 : Option Sl} (ha : 0 ≤ a) (hn : 0 ≤ n ∧ n ≤ 8) : c__law_names_2 ⟨[some (.ow (.fz (.int a))), some (.ow (.fz (.str signs))), some (.ow (.fz (.int n))), s3, s4, s5, none], me⟩ = .ok (.tm (.lst ((nums 0 n.toNat).map fun d => match d with | .int k => .fz (.str (one (sg (a / (256 + 31 * k) % 7)))) | _ => .fz .non))) ⟨[some (.ow (.fz (.int a))), some (.ow (.fz (.str signs))), some (.ow (.fz (.int n))), s3, s4, s5, none], me⟩ := by
  refine eComp_all _ (by simp [itRange1, defSem, frame, sCons, sNil, sIf, sSet, sRet, sDrop, eF, eV, two, aCons, aNil, eC, eVar, eTup, eLst, eItem, eIf, tOf, tAndD, tOrD, tNotD, eAndD, eOrD, eNotD, fixAll, lookAll, ownAll, fix, look, own, give, O.val, vals, treeOf, itemD_lst, itemD_tup, bind_ok, so_ok, then_nx, then_rt, En.put, En.hole, En.at, En.frz, addD_int, subD, mulD_l, mulD_r, modD_of, divD_of, eqD_int, neD_int, eqD_str, neD_str, cmpD, rangeOk_of (i := n) (by omega) (by omega)]) rfl (fun d hd => ?_) (by rw [nums_length]; omega)
  obtain ⟨j, hj, rfl⟩ := nums0_mem hd
  obtain ⟨h1, h2⟩ := sg_ok (i := a / (256 + 31 * (j : Int)) % 7) (by omega) (by omega)
  have h3 : (0 : Int) < 256 + 31 * (j : Int) ∧ 256 + 31 * (j : Int) < 1073741824 := by omega
  simp [turn1, gN, tYesD, En.wipe, defSem, frame, sCons, sNil, sIf, sSet, sRet, sDrop, eF, eV, two, aCons, aNil, eC, eVar, eTup, eLst, eItem, eIf, tOf, tAndD, tOrD, tNotD, eAndD, eOrD, eNotD, fixAll, lookAll, ownAll, fix, look, own, give, O.val, vals, treeOf, itemD_lst, itemD_tup, bind_ok, so_ok, then_nx, then_rt, En.put, En.hole, En.at, En.frz, addD_int, subD, mulD_l, mulD_r, modD_of, divD_of, eqD_int, neD_int, eqD_str, neD_str, cmpD, h1, h3]
theorem step_names {s0 s1 s2 : Option Sl} {at_ : Nat} {me : O} {cs : List Nat} {found : List O} {k q : Nat} (h : at_ < cs.length) (h8 : cs.length ≤ 8) (hf : found.length < 1000) (hq : itemD (.str "qzjvx") (k : Int) = some (.str (one q))) :
    b__law_names_3 ⟨[s0, s1, s2, some (.ow (.fz (.int (at_ : Int)))), some (.ow (.lst (chars cs))), some (.ow (.lst found)), some (.ow (.fz (.int (k : Int))))], me⟩ = .nx ⟨[s0, s1, s2, some (.ow (.fz (.int (at_ : Int)))), some (.ow (.lst (chars (cs.set at_ q)))), some (.ow (.lst (found ++ [.fz (.str (rest cs at_ q))]))), some (.ow (.fz (.int (k : Int))))], me⟩ := by
  have hi : ixN (chars cs).length (at_ : Int) = some at_ := by
    unfold ixN chars
    rw [List.length_map, if_pos (by omega), if_pos (by omega)]
    rfl
  have hs : (chars cs).set at_ (.fz (.str (one q))) = chars (cs.set at_ q) := by
    unfold chars
    rw [List.map_set]
  have hv : vals (chars (cs.set at_ q)) = (cs.set at_ q).map fun c => D.str (one c) := by
    rw [vals_eq]
    unfold chars
    rw [List.map_map]
    rfl
  have hj := joinS_one (cs := cs.set at_ q) (by rw [List.length_set]; omega)
  rw [List.map_set] at hj
  have hf2 : found.length < 1000000 := by omega
  simp [b__law_names_3, defSem, frame, sCons, sNil, sIf, sSet, sRet, sDrop, eF, eV, two, aCons, aNil, eC, eVar, eTup, eLst, eItem, eIf, tOf, tAndD, tOrD, tNotD, eAndD, eOrD, eNotD, fixAll, lookAll, ownAll, fix, look, own, give, O.val, vals, treeOf, itemD_lst, itemD_tup, bind_ok, so_ok, then_nx, then_rt, En.put, En.hole, En.at, En.frz, addD_int, subD, mulD_l, mulD_r, modD_of, divD_of, eqD_int, neD_int, eqD_str, neD_str, cmpD, sSetI, sAppend, isLst, eM1, hq, hi, hs, hv, hj, hf2, rest]
theorem ev_l {s0 s1 s2 s6 : Option Sl} {at_ : Nat} {me : O} {cs : List Nat} (h : at_ < cs.length) (h8 : cs.length ≤ 8) : ∃ s6' cs',
    l__law_names_4 ⟨[s0, s1, s2, some (.ow (.fz (.int (at_ : Int)))), some (.ow (.lst (chars cs))), some (.ow (.lst [])), s6], me⟩ = .nx ⟨[s0, s1, s2, some (.ow (.fz (.int (at_ : Int)))), some (.ow (.lst (chars cs'))), some (.ow (.lst ([113, 122, 106, 118, 120].map fun q => .fz (.str (rest cs at_ q))))), s6'], me⟩ := by
  refine ⟨some (.ow (.fz (.int ((4 : Nat) : Int)))), cs.set at_ 120, ?_⟩
  show loop (gN 6) b__law_names_3 (nums 0 5) _ = _
  rw [show nums 0 5 = [.int ((0 : Nat) : Int), .int ((1 : Nat) : Int), .int ((2 : Nat) : Int), .int ((3 : Nat) : Int), .int ((4 : Nat) : Int)] from rfl]
  simp only [loop, gN, En.put, List.set_cons_succ, List.set_cons_zero]
  rw [step_names (q := 113) h h8 (by simp) rfl]
  simp only [loop, gN, En.put, List.set_cons_succ, List.set_cons_zero]
  rw [step_names (q := 122) (by rw [List.length_set]; exact h) (by rw [List.length_set]; exact h8) (by simp) rfl]
  simp only [loop, gN, En.put, List.set_cons_succ, List.set_cons_zero]
  rw [step_names (q := 106) (by simpa using h) (by simpa using h8) (by simp) rfl]
  simp only [loop, gN, En.put, List.set_cons_succ, List.set_cons_zero]
  rw [step_names (q := 118) (by simpa using h) (by simpa using h8) (by simp) rfl]
  simp only [loop, gN, En.put, List.set_cons_succ, List.set_cons_zero]
  rw [step_names (q := 120) (by simpa using h) (by simpa using h8) (by simp) rfl]
  simp only [rest, List.set_set, List.map_cons, List.map_nil, List.nil_append, List.cons_append]
theorem sem_names {a : Int} (ha : 0 ≤ a) : ∃ xs : List Str, defSem 7 1 g__law_names [.int a] = .ok (.lst (xs.map fun x => .fz (.str x))) ∧ NamesOk xs := by
  by_cases h : a % 4 = 3
  · refine ⟨_, ?_, names_rep (sg_ok (i := a / 4 % 7) (by omega) (by omega)).2⟩
    have := fun me s2 s3 s4 s5 => ev_c1 (a := a) (me := me) (s2 := s2) (s3 := s3) (s4 := s4) (s5 := s5)
    unfold signs at this
    simp [g__law_names, defSem, frame, sCons, sNil, sIf, sSet, sRet, sDrop, eF, eV, two, aCons, aNil, eC, eVar, eTup, eLst, eItem, eIf, tOf, tAndD, tOrD, tNotD, eAndD, eOrD, eNotD, fixAll, lookAll, ownAll, fix, look, own, give, O.val, vals, treeOf, itemD_lst, itemD_tup, bind_ok, so_ok, then_nx, then_rt, En.put, En.hole, En.at, En.frz, addD_int, subD, mulD_l, mulD_r, modD_of, divD_of, eqD_int, neD_int, eqD_str, neD_str, cmpD, h, this]
    intro d hd
    obtain ⟨j, _, rfl⟩ := nums0_mem hd
    rfl
  · have e2 : ((1 : Int) + a / 4 % 8).toNat = (1 + a / 4 % 8).toNat := rfl
    have hm : (nums 0 (1 + a / 4 % 8).toNat).map (fun d => match d with | .int k => O.fz (.str (one (sg (a / (256 + 31 * k) % 7)))) | _ => .fz .non) = chars ((List.range (1 + a / 4 % 8).toNat).map fun (k : Nat) => sg (a / (256 + 31 * (k : Int)) % 7)) := by
      unfold nums chars
      rw [List.map_map, List.map_map]
      apply List.map_congr_left
      intro k _
      simp
    have h0 : 0 < 1 + a / 4 % 8 := by omega
    have hat : a / 32 % (1 + a / 4 % 8) = ((a / 32 % (1 + a / 4 % 8)).toNat : Int) := by
      rw [Int.toNat_of_nonneg (Int.emod_nonneg _ (by omega))]
    have hlt := Int.emod_lt_of_pos (a / 32) h0
    have hge := Int.emod_nonneg (a / 32) (show (1 + a / 4 % 8 : Int) ≠ 0 by omega)
    obtain ⟨s6, cs', hl⟩ := ev_l (s0 := some (.ow (.fz (.int a)))) (s1 := some (.ow (.fz (.str signs)))) (s2 := some (.ow (.fz (.int (1 + a / 4 % 8))))) (s6 := none) (me := .fz .non) (at_ := (a / 32 % (1 + a / 4 % 8)).toNat) (cs := (List.range (1 + a / 4 % 8).toNat).map fun (k : Nat) => sg (a / (256 + 31 * (k : Int)) % 7)) (by rw [List.length_map, List.length_range]; omega) (by rw [List.length_map, List.length_range]; omega)
    rw [← hat] at hl
    refine ⟨_, ?_, names_rest (cs := (List.range (1 + a / 4 % 8).toNat).map fun (k : Nat) => sg (a / (256 + 31 * (k : Int)) % 7)) (a := (a / 32 % (1 + a / 4 % 8)).toNat) (by rw [List.length_map, List.length_range]; omega) (by rw [List.length_map, List.length_range]; omega) ?_⟩
    · have hc := ev_c2 (a := a) (n := 1 + a / 4 % 8) (me := .fz .non) (s3 := some (.ow (.fz (.int (a / 32 % (1 + a / 4 % 8)))))) (s4 := none) (s5 := none) ha (by omega)
      rw [hm] at hc
      unfold signs at hc hl
      clear hm
      generalize (List.range (1 + a / 4 % 8).toNat).map (fun (k : Nat) => sg (a / (256 + 31 * (k : Int)) % 7)) = cs at hc hl ⊢
      generalize (a / 32 % (1 + a / 4 % 8)).toNat = at_ at hc hl ⊢
      simp [g__law_names, defSem, frame, sCons, sNil, sIf, sSet, sRet, sDrop, eF, eV, two, aCons, aNil, eC, eVar, eTup, eLst, eItem, eIf, tOf, tAndD, tOrD, tNotD, eAndD, eOrD, eNotD, fixAll, lookAll, ownAll, fix, look, own, give, O.val, vals, treeOf, itemD_lst, itemD_tup, bind_ok, so_ok, then_nx, then_rt, En.put, En.hole, En.at, En.frz, addD_int, subD, mulD_l, mulD_r, modD_of, divD_of, eqD_int, neD_int, eqD_str, neD_str, cmpD, h, h0, hc, hl]

    · intro c hc
      obtain ⟨k, _, rfl⟩ := List.mem_map.mp hc
      exact (sg_ok (by omega) (by omega)).2
end K12

set_option Elab.async false
set_option linter.all false
set_option maxRecDepth 100000
set_option maxHeartbeats 4000000
namespace K12
open PySem L2 PySem.Spec PyProof.Rows DL
def phM : List D → Res := defSem 3 2 g__law_mixed
theorem phM_ok {a k : Int} (hk : k.natAbs < 18446744073709551616) : phM [.int a, .int k] = .ok (.fz (.int (mix a k))) := sem_mixed hk
def nm (xs : List Str) : D := .lst (xs.map D.str)
structure Sm (n h : Nat) (d : D) : Prop where
  fit : d.fit = true
  wt : d.wt ≤ n
  dep : d.dep ≤ h
theorem Sm.up {n h n' h' : Nat} {d : D} (s : Sm n h d) (hn : n ≤ n') (hh : h ≤ h') : Sm n' h' d := ⟨s.fit, Nat.le_trans s.wt hn, Nat.le_trans s.dep hh⟩
theorem Sm.int {i : Int} (h : i.natAbs < 10 ^ 30) : Sm 31 0 (.int i) := ⟨decide_eq_true h, Nat.le_refl _, Nat.le_refl _⟩
theorem Sm.str {x : Str} {n : Nat} (h : PyData.strOk x = true) (hl : 10 * x.length + 2 ≤ n) : Sm n 0 (.str x) := ⟨h, hl, Nat.le_refl _⟩
theorem Sm.non : Sm 4 0 .non := ⟨rfl, Nat.le_refl _, Nat.le_refl _⟩
theorem Sm.bl {b : Bool} : Sm 5 0 (.bl b) := ⟨rfl, Nat.le_refl _, Nat.le_refl _⟩
theorem lit {x : Str} (h : PyData.strOk x = true ∧ x.length ≤ 6) : Sm 62 0 (.str x) := .str h.1 (by omega)
theorem strOk_app {x y : Str} (hx : PyData.strOk x = true) (hy : PyData.strOk y = true) : PyData.strOk (x ++ y) = true := by
  unfold PyData.strOk at hx hy ⊢
  show (x.cps ++ y.cps).all _ = true
  rw [Array.all_append, hx, hy]
  rfl
theorem addD_str {x y : Str} (h : x.length + y.length ≤ most) : addD [.str x, .str y] = some (.fz (.str (x ++ y))) := if_pos h
/-- a tuple's parts one by one -/
inductive Sms (h : Nat) : Nat → List D → Prop
  | nil : Sms h 0 []
  | cons {n m : Nat} {d : D} {ds : List D} : Sm n h d → Sms h m ds → Sms h (n + 2 + m) (d :: ds)
theorem Sms.all {h n : Nat} {ds : List D} (s : Sms h n ds) : fits ds = true ∧ wts ds ≤ n ∧ deps ds ≤ h := by
  induction s with
  | nil => exact ⟨rfl, by simp [wts], by simp [deps]⟩
  | cons s1 _ ih =>
    obtain ⟨i1, i2, i3⟩ := ih
    refine ⟨by simp [fits, s1.fit, i1], ?_, ?_⟩
    · have := s1.wt
      simp only [wts]
      omega
    · simp only [deps]
      exact Nat.max_le.mpr ⟨s1.dep, i3⟩
theorem Sms.tup {h n : Nat} {k : Bool} {ds : List D} (s : Sms h n ds) : Sm (2 + n) (h + 1) (.tup k ds) := by
  obtain ⟨i1, i2, i3⟩ := s.all
  exact ⟨by simpa [D.fit] using i1, by simp only [D.wt]; omega, by simp only [D.dep]; omega⟩
theorem Sm.many {n h : Nat} {k : Bool} {ds : List D} (s : ∀ d ∈ ds, Sm n h d) {m : Nat} (hm : ds.length ≤ m) : Sm (2 + m * (n + 2)) (h + 1) (.tup k ds) := by
  have h1 : wts ds ≤ ds.length * (n + 2) := wts_le fun d hd => (s d hd).wt
  have h2 : ds.length * (n + 2) ≤ m * (n + 2) := Nat.mul_le_mul_right _ hm
  refine ⟨by simp only [D.fit]; exact fits_iff.mpr fun d hd => (s d hd).fit, by simp only [D.wt]; omega, ?_⟩
  simp only [D.dep]
  have := deps_le fun d hd => (s d hd).dep
  omega
section
variable {xs : List Str} (N : NamesOk xs)
include N
theorem name_at {i : Int} (h : 0 ≤ i ∧ i < 5) : ∃ x ∈ xs, atI (xs.map D.str) i = some (.str x) := by
  obtain ⟨d, hd, e⟩ := atI_mem (xs := xs.map D.str) h.1 (by rw [List.length_map, N.len]; exact h.2)
  obtain ⟨x, hx, rfl⟩ := List.mem_map.mp hd
  exact ⟨x, hx, e⟩
theorem name_neg {i : Int} (h : i < 0 ∧ -5 ≤ i) : ∃ x ∈ xs, atI (xs.map D.str) i = some (.str x) := by
  obtain ⟨d, hd, e⟩ := atI_negmem (xs := xs.map D.str) h.1 (by rw [List.length_map, N.len]; exact h.2)
  obtain ⟨x, hx, rfl⟩ := List.mem_map.mp hd
  exact ⟨x, hx, e⟩
theorem name_sm {x : Str} (h : x ∈ xs) : Sm 82 0 (.str x) := .str (N.ok x h).1 (by have := (N.ok x h).2; omega)
end
def nameAt (xs : List Str) (i : Int) : Str := match atI (xs.map D.str) i with
  | some (.str x) => x
  | _ => ⟨#[]⟩
theorem nameAt_ok {xs : List Str} (N : NamesOk xs) {i : Int} (h : 0 ≤ i ∧ i < 5) : atI (xs.map D.str) i = some (.str (nameAt xs i)) ∧ nameAt xs i ∈ xs := by
  obtain ⟨x, hx, e⟩ := name_at N h
  unfold nameAt
  rw [e]
  exact ⟨rfl, hx⟩
theorem ev_t1 {xs : List Str} (N : NamesOk xs) {a : Int} {m : Int} {me : O} {s3 : Option Sl} (hm : 0 ≤ m) : c__law_term_1 phM ⟨[some (.ow (.fz (.int a))), some (.ow (.fz (nm xs))), some (.ow (.fz (.int m))), s3, none], me⟩ = .ok (.tm (.lst (((nums 0 (1 + m % 3).toNat).map fun d => match d with | .int k => D.str (nameAt xs (mix m k / 3 % 5)) | _ => D.non).map O.fz))) ⟨[some (.ow (.fz (.int a))), some (.ow (.fz (nm xs))), some (.ow (.fz (.int m))), s3, none], me⟩ := by
  rw [List.map_map]
  refine eComp_all _ (by simp [itRange1, defSem, frame, sCons, sNil, sIf, sSet, sRet, sDrop, eF, eV, two, aCons, aNil, eC, eVar, eTup, eLst, eItem, eIf, tOf, tAndD, tOrD, tNotD, eAndD, eOrD, eNotD, fixAll, lookAll, ownAll, fix, look, own, give, O.val, vals, treeOf, itemD_lst, itemD_tup, bind_ok, so_ok, then_nx, then_rt, En.put, En.hole, En.at, En.frz, addD_int, subD, mulD_l, mulD_r, modD_of, divD_of, eqD_int, neD_int, eqD_str, neD_str, cmpD, rangeOk_of (i := 1 + m % 3) (by omega) (by omega)]) rfl (fun d hd => ?_) (by rw [nums_length]; omega)
  obtain ⟨j, hj, rfl⟩ := nums0_mem hd
  have h1 : ((j : Int)).natAbs < 18446744073709551616 := by omega
  have h2 := (nameAt_ok N (i := mix m j / 3 % 5) (by omega)).1
  simp [turn1, gN, tYesD, En.wipe, defSem, frame, sCons, sNil, sIf, sSet, sRet, sDrop, eF, eV, two, aCons, aNil, eC, eVar, eTup, eLst, eItem, eIf, tOf, tAndD, tOrD, tNotD, eAndD, eOrD, eNotD, fixAll, lookAll, ownAll, fix, look, own, give, O.val, vals, treeOf, itemD_lst, itemD_tup, bind_ok, so_ok, then_nx, then_rt, En.put, En.hole, En.at, En.frz, addD_int, subD, mulD_l, mulD_r, modD_of, divD_of, eqD_int, neD_int, eqD_str, neD_str, cmpD, nm, eCall, phM_ok h1, h2]
theorem place_sm {xs : List Str} (N : NamesOk xs) {m : Int} {k : Bool} : Sm 254 1 (.tup k ((nums 0 (1 + m % 3).toNat).map fun d => match d with | .int k => D.str (nameAt xs (mix m k / 3 % 5)) | _ => D.non)) := by
  refine (Sm.many (n := 82) (h := 0) (fun d hd => ?_) (m := 3) (by rw [List.length_map, nums_length]; omega)).up (by decide) (by decide)
  obtain ⟨y, hy, rfl⟩ := List.mem_map.mp hd
  obtain ⟨j, hj, rfl⟩ := nums0_mem hy
  exact name_sm N (nameAt_ok N (by omega)).2
theorem ev_t2 {s0 s1 s3 : Option Sl} {m : Int} {me : O} : c__law_term_2 ⟨[s0, s1, some (.ow (.fz (.int m))), s3, none], me⟩ = .ok (.tm (.lst (((nums 0 (m / 7 % 3).toNat).map fun d => match d with | .int k => D.tup false [.str "number", .int (k + m % 7)] | _ => D.non).map O.fz))) ⟨[s0, s1, some (.ow (.fz (.int m))), s3, none], me⟩ := by
  rw [List.map_map]
  refine eComp_all _ (by simp [itRange1, defSem, frame, sCons, sNil, sIf, sSet, sRet, sDrop, eF, eV, two, aCons, aNil, eC, eVar, eTup, eLst, eItem, eIf, tOf, tAndD, tOrD, tNotD, eAndD, eOrD, eNotD, fixAll, lookAll, ownAll, fix, look, own, give, O.val, vals, treeOf, itemD_lst, itemD_tup, bind_ok, so_ok, then_nx, then_rt, En.put, En.hole, En.at, En.frz, addD_int, subD, mulD_l, mulD_r, modD_of, divD_of, eqD_int, neD_int, eqD_str, neD_str, cmpD, rangeOk_of (i := m / 7 % 3) (by omega) (by omega)]) rfl (fun d hd => ?_) (by rw [nums_length]; omega)
  obtain ⟨j, hj, rfl⟩ := nums0_mem hd
  simp [turn1, gN, tYesD, En.wipe, defSem, frame, sCons, sNil, sIf, sSet, sRet, sDrop, eF, eV, two, aCons, aNil, eC, eVar, eTup, eLst, eItem, eIf, tOf, tAndD, tOrD, tNotD, eAndD, eOrD, eNotD, fixAll, lookAll, ownAll, fix, look, own, give, O.val, vals, treeOf, itemD_lst, itemD_tup, bind_ok, so_ok, then_nx, then_rt, En.put, En.hole, En.at, En.frz, addD_int, subD, mulD_l, mulD_r, modD_of, divD_of, eqD_int, neD_int, eqD_str, neD_str, cmpD]
theorem lst_sm {m : Int} {k : Bool} : Sm 208 2 (.tup k ((nums 0 (m / 7 % 3).toNat).map fun d => match d with | .int k => D.tup false [.str "number", .int (k + m % 7)] | _ => D.non)) := by
  refine (Sm.many (n := 101) (h := 1) (fun d hd => ?_) (m := 2) (by rw [List.length_map, nums_length]; omega)).up (by decide) (by decide)
  obtain ⟨y, hy, rfl⟩ := List.mem_map.mp hd
  obtain ⟨j, hj, rfl⟩ := nums0_mem hy
  exact (Sms.tup (.cons (lit (by decide +kernel)) (.cons (.int (by omega)) .nil))).up (by decide) (by decide)
theorem vals_map (ds : List D) : vals (ds.map .fz) = ds := vals_fz ds
theorem sem_term {xs : List Str} (N : NamesOk xs) {a : Int} (ha : 0 ≤ a) (ha2 : a < 2147483648) : ∃ d, defSem 5 2 (g__law_term phM) [.int a, nm xs] = .ok (.fz d) ∧ Sm 600 4 d := by
  have hc : a % 6 = 0 ∨ a % 6 = 1 ∨ a % 6 = 2 ∨ a % 6 = 3 ∨ a % 6 = 4 ∨ a % 6 = 5 := by omega
  have hm : 0 ≤ a / 6 := by omega
  have hmb : (a / 6).natAbs < 18446744073709551616 := by omega
  have t1 := fun me s3 => ev_t1 N (a := a) (m := a / 6) (me := me) (s3 := s3) hm
  have t2 := fun me s0 s1 s3 => ev_t2 (s0 := s0) (s1 := s1) (s3 := s3) (m := a / 6) (me := me)
  have p1 := place_sm N (m := a / 6) (k := false)
  have p2 := lst_sm (m := a / 6) (k := false)
  generalize hA : ((nums 0 (1 + a / 6 % 3).toNat).map fun d => match d with | .int k => D.str (nameAt xs (mix (a / 6) k / 3 % 5)) | _ => D.non) = A at t1 p1
  generalize hB : ((nums 0 (a / 6 / 7 % 3).toNat).map fun d => match d with | .int k => D.tup false [.str "number", .int (k + a / 6 % 7)] | _ => D.non) = B at t2 p2
  clear hA hB
  rcases hc with h | h | h | h | h | h
  · have h2 : a / 6 % 2 = 0 ∨ a / 6 % 2 = 1 := by omega
    rcases h2 with h2 | h2
    · refine ⟨.tup false [.str "number", .int (a / 6 / 2 % 10)], ?_, ?_⟩
      · simp [g__law_term, defSem, frame, sCons, sNil, sIf, sSet, sRet, sDrop, eF, eV, two, aCons, aNil, eC, eVar, eTup, eLst, eItem, eIf, tOf, tAndD, tOrD, tNotD, eAndD, eOrD, eNotD, fixAll, lookAll, ownAll, fix, look, own, give, O.val, vals, treeOf, itemD_lst, itemD_tup, bind_ok, so_ok, then_nx, then_rt, En.put, En.hole, En.at, En.frz, addD_int, subD, mulD_l, mulD_r, modD_of, divD_of, eqD_int, neD_int, eqD_str, neD_str, cmpD, h, h2, hmb, powD, atI_0, nm]
      · exact (Sms.tup (.cons (lit (by decide +kernel)) (.cons (.int (by omega)) .nil))).up (by decide) (by decide)
    · refine ⟨.tup false [.str "number", .int (a / 6 * (a / 6) % 1000000000001)], ?_, ?_⟩
      · simp [g__law_term, defSem, frame, sCons, sNil, sIf, sSet, sRet, sDrop, eF, eV, two, aCons, aNil, eC, eVar, eTup, eLst, eItem, eIf, tOf, tAndD, tOrD, tNotD, eAndD, eOrD, eNotD, fixAll, lookAll, ownAll, fix, look, own, give, O.val, vals, treeOf, itemD_lst, itemD_tup, bind_ok, so_ok, then_nx, then_rt, En.put, En.hole, En.at, En.frz, addD_int, subD, mulD_l, mulD_r, modD_of, divD_of, eqD_int, neD_int, eqD_str, neD_str, cmpD, h, h2, hmb, powD, atI_1, nm]
      · exact (Sms.tup (.cons (lit (by decide +kernel)) (.cons (.int (by omega)) .nil))).up (by decide) (by decide)
  · have hs : ∃ y, sliceD (.str "a b") none (some (a / 6 % 4)) = some (.fz (.str y)) ∧ PyData.strOk y = true ∧ y.length ≤ 3 := by
      have : a / 6 % 4 = 0 ∨ a / 6 % 4 = 1 ∨ a / 6 % 4 = 2 ∨ a / 6 % 4 = 3 := by omega
      rcases this with e | e | e | e <;> rw [e] <;> exact ⟨_, rfl, by decide +kernel, by decide +kernel⟩
    obtain ⟨y, hy, hy1, hy2⟩ := hs
    obtain ⟨x, hx, e⟩ := name_at N (i := a / 6 / 4 % 5) (by omega)
    obtain ⟨hx1, hx2⟩ := N.ok x hx
    have hl : y.length + x.length ≤ most := by unfold most; omega
    refine ⟨.tup false [.str "text", .str (y ++ x)], ?_, ?_⟩
    · simp [g__law_term, defSem, frame, sCons, sNil, sIf, sSet, sRet, sDrop, eF, eV, two, aCons, aNil, eC, eVar, eTup, eLst, eItem, eIf, tOf, tAndD, tOrD, tNotD, eAndD, eOrD, eNotD, fixAll, lookAll, ownAll, fix, look, own, give, O.val, vals, treeOf, itemD_lst, itemD_tup, bind_ok, so_ok, then_nx, then_rt, En.put, En.hole, En.at, En.frz, addD_int, subD, mulD_l, mulD_r, modD_of, divD_of, eqD_int, neD_int, eqD_str, neD_str, cmpD, h, nm, eSlice, pNone, pSome, hy, e, addD_str hl]
    · exact (Sms.tup (.cons (lit (by decide +kernel)) (.cons (.str (n := 112) (strOk_app hy1 hx1) (by rw [strLen_append]; omega)) .nil))).up (by decide) (by decide)
  · refine ⟨.tup false [.str "truth", .bl (decide (a / 6 % 2 = 1))], ?_, ?_⟩
    · simp [g__law_term, defSem, frame, sCons, sNil, sIf, sSet, sRet, sDrop, eF, eV, two, aCons, aNil, eC, eVar, eTup, eLst, eItem, eIf, tOf, tAndD, tOrD, tNotD, eAndD, eOrD, eNotD, fixAll, lookAll, ownAll, fix, look, own, give, O.val, vals, treeOf, itemD_lst, itemD_tup, bind_ok, so_ok, then_nx, then_rt, En.put, En.hole, En.at, En.frz, addD_int, subD, mulD_l, mulD_r, modD_of, divD_of, eqD_int, neD_int, eqD_str, neD_str, cmpD, h, nm]
    · exact (Sms.tup (.cons (lit (by decide +kernel)) (.cons .bl .nil))).up (by decide) (by decide)
  · refine ⟨.tup false [.str "name", .tup false A], ?_, ?_⟩
    · simp [g__law_term, defSem, frame, sCons, sNil, sIf, sSet, sRet, sDrop, eF, eV, two, aCons, aNil, eC, eVar, eTup, eLst, eItem, eIf, tOf, tAndD, tOrD, tNotD, eAndD, eOrD, eNotD, fixAll, lookAll, ownAll, fix, look, own, give, O.val, vals, treeOf, itemD_lst, itemD_tup, bind_ok, so_ok, then_nx, then_rt, En.put, En.hole, En.at, En.frz, addD_int, subD, mulD_l, mulD_r, modD_of, divD_of, eqD_int, neD_int, eqD_str, neD_str, cmpD, h, t1, tupleD, vals_map]
    · exact (Sms.tup (.cons ((lit (by decide +kernel)).up (Nat.le_refl _) (Nat.zero_le _)) (.cons p1 .nil))).up (by decide) (by decide)
  · refine ⟨.tup false [.str "list", .tup false B], ?_, ?_⟩
    · simp [g__law_term, defSem, frame, sCons, sNil, sIf, sSet, sRet, sDrop, eF, eV, two, aCons, aNil, eC, eVar, eTup, eLst, eItem, eIf, tOf, tAndD, tOrD, tNotD, eAndD, eOrD, eNotD, fixAll, lookAll, ownAll, fix, look, own, give, O.val, vals, treeOf, itemD_lst, itemD_tup, bind_ok, so_ok, then_nx, then_rt, En.put, En.hole, En.at, En.frz, addD_int, subD, mulD_l, mulD_r, modD_of, divD_of, eqD_int, neD_int, eqD_str, neD_str, cmpD, h, t1, t2, tupleD, vals_map]
    · exact (Sms.tup (.cons ((lit (by decide +kernel)).up (Nat.le_refl _) (Nat.zero_le _)) (.cons p2 .nil))).up (by decide) (by decide)
  · refine ⟨.tup false [.str "two", .str "+", .tup false [.str "name", .tup false A], .tup false [.str "number", .int (a / 6 % 1000)]], ?_, ?_⟩
    · simp [g__law_term, defSem, frame, sCons, sNil, sIf, sSet, sRet, sDrop, eF, eV, two, aCons, aNil, eC, eVar, eTup, eLst, eItem, eIf, tOf, tAndD, tOrD, tNotD, eAndD, eOrD, eNotD, fixAll, lookAll, ownAll, fix, look, own, give, O.val, vals, treeOf, itemD_lst, itemD_tup, bind_ok, so_ok, then_nx, then_rt, En.put, En.hole, En.at, En.frz, addD_int, subD, mulD_l, mulD_r, modD_of, divD_of, eqD_int, neD_int, eqD_str, neD_str, cmpD, h, t1, t2, tupleD, vals_map]
    · exact (Sms.tup (h := 2) (.cons ((lit (by decide +kernel)).up (Nat.le_refl _) (Nat.zero_le _)) (.cons ((lit (by decide +kernel)).up (Nat.le_refl _) (Nat.zero_le _))
        (.cons (Sms.tup (.cons ((lit (by decide +kernel)).up (Nat.le_refl _) (Nat.zero_le _)) (.cons p1 .nil))) (.cons ((Sms.tup (.cons (lit (by decide +kernel)) (.cons (.int (by omega)) .nil))).up (Nat.le_refl _) (by decide)) .nil))))).up (by decide) (by decide)
end K12

set_option Elab.async false
set_option linter.all false
set_option maxRecDepth 100000
set_option maxHeartbeats 4000000
namespace K12
open PySem L2 PySem.Spec PyProof.Rows DL
def phT : List D → Res := defSem 5 2 (g__law_term phM)
theorem phT_ok {xs : List Str} (N : NamesOk xs) {a : Int} (ha : 0 ≤ a) (ha2 : a < 2147483648) : ∃ d, phT [.int a, nm xs] = .ok (.fz d) ∧ Sm 600 4 d := sem_term N ha ha2
def phP : List D → Res := defSem 5 3 (g__law_pairs phM phT)
structure Prs (ds : List D) : Prop where
  len : ds.length ≤ 2
  ok : ∀ d ∈ ds, Sm 900 5 d
theorem phP_ok {xs : List Str} (N : NamesOk xs) {a n : Int} (ha : 0 ≤ a) (ha2 : a < 2147483648) (hn : 0 ≤ n ∧ n ≤ 2) : ∃ ds, phP [.int a, nm xs, .int n] = .ok (.fz (.tup false ds)) ∧ Prs ds := by
  have key := sFor_inv (si := itRange1 (aCons (eVar 2) aNil)) (t := gN 4) (g := b__law_pairs_1 phM phT) (ds := nums 0 n.toNat) (e := ⟨[some (.ow (.fz (.int a))), some (.ow (.fz (nm xs))), some (.ow (.fz (.int n))), some (.ow (.lst [])), none], .fz .non⟩) (e0 := ⟨[some (.ow (.fz (.int a))), some (.ow (.fz (nm xs))), some (.ow (.fz (.int n))), some (.ow (.lst [])), none], .fz .non⟩)
    (fun j e => ∃ (ds : List D) (s4 : Option Sl), e = ⟨[some (.ow (.fz (.int a))), some (.ow (.fz (nm xs))), some (.ow (.fz (.int n))), some (.ow (.lst (ds.map O.fz))), s4], .fz .non⟩ ∧ ds.length = j ∧ ∀ d ∈ ds, Sm 900 5 d)
    (by simp [itRange1, defSem, frame, sCons, sNil, sIf, sSet, sRet, sDrop, eF, eV, two, aCons, aNil, eC, eVar, eTup, eLst, eItem, eIf, tOf, tAndD, tOrD, tNotD, eAndD, eOrD, eNotD, fixAll, lookAll, ownAll, fix, look, own, give, O.val, vals, treeOf, itemD_lst, itemD_tup, bind_ok, so_ok, then_nx, then_rt, En.put, En.hole, En.at, En.frz, addD_int, subD, mulD_l, mulD_r, modD_of, divD_of, eqD_int, neD_int, eqD_str, neD_str, cmpD, rangeOk_of (i := n) (by omega) (by omega)]) ⟨[], none, rfl, rfl, fun d h => nomatch h⟩ (fun j d e hj ⟨ds, s4, e1, hl, hd⟩ => by
      obtain ⟨h1, rfl⟩ := nums0_get hj
      subst e1
      have hk : (20 + (j : Int)).natAbs < 18446744073709551616 := by omega
      obtain ⟨t, ht, hs⟩ := phT_ok N (a := mix a (20 + j)) (mix_ge _ _) (Int.lt_trans (mix_lt _ _) (by decide))
      obtain ⟨x, hx, ex⟩ := name_at N (i := (j : Int)) (by omega)
      obtain ⟨y, hy, ey⟩ := name_neg N (i := -1 - (j : Int)) (by omega)
      unfold nm at ht
      refine ⟨_, ⟨[some (.ow (.fz (.int a))), some (.ow (.fz (nm xs))), some (.ow (.fz (.int n))), some (.ow (.lst ((ds ++ [D.tup false [t, .tup false [.int (a % 9), .tup false [.str x, .str y]]]]).map O.fz))), some (.ow (.fz (.int j)))], .fz .non⟩, rfl, .inl ?_, ds ++ [D.tup false [t, .tup false [.int (a % 9), .tup false [.str x, .str y]]]], _, rfl, by simp [hl], fun d h => ?_⟩
      · have hz : ds.length < 1000000 := by omega
        simp [b__law_pairs_1, defSem, frame, sCons, sNil, sIf, sSet, sRet, sDrop, eF, eV, two, aCons, aNil, eC, eVar, eTup, eLst, eItem, eIf, tOf, tAndD, tOrD, tNotD, eAndD, eOrD, eNotD, fixAll, lookAll, ownAll, fix, look, own, give, O.val, vals, treeOf, itemD_lst, itemD_tup, bind_ok, so_ok, then_nx, then_rt, En.put, En.hole, En.at, En.frz, addD_int, subD, mulD_l, mulD_r, modD_of, divD_of, eqD_int, neD_int, eqD_str, neD_str, cmpD, gN, sAppend, isLst, eCall, phM_ok hk, nm, ht, ex, ey, negD, hz]
      · rcases List.mem_append.mp h with h | h
        · exact hd d h
        · rw [List.mem_singleton] at h
          subst h
          exact (Sms.tup (h := 4) (.cons hs (.cons ((Sms.tup (h := 1) (.cons ((Sm.int (by omega)).up (Nat.le_refl _) (by decide)) (.cons (Sms.tup (.cons (name_sm N hx) (.cons (name_sm N hy) .nil))) .nil))).up (Nat.le_refl _) (by decide)) .nil))).up (by decide) (by decide))
  obtain ⟨e', k1, ds, s4, rfl, hl, hd⟩ := key
  refine ⟨ds, ?_, by rw [nums_length] at hl; omega, hd⟩
  unfold phP
  have k2 : l__law_pairs_2 phM phT ⟨[some (.ow (.fz (.int a))), some (.ow (.fz (nm xs))), some (.ow (.fz (.int n))), some (.ow (.lst [])), none], .fz .non⟩ = .nx ⟨[some (.ow (.fz (.int a))), some (.ow (.fz (nm xs))), some (.ow (.fz (.int n))), some (.ow (.lst (ds.map O.fz))), s4], .fz .non⟩ := k1
  simp [g__law_pairs, defSem, frame, sCons, sNil, sIf, sSet, sRet, sDrop, eF, eV, two, aCons, aNil, eC, eVar, eTup, eLst, eItem, eIf, tOf, tAndD, tOrD, tNotD, eAndD, eOrD, eNotD, fixAll, lookAll, ownAll, fix, look, own, give, O.val, vals, treeOf, itemD_lst, itemD_tup, bind_ok, so_ok, then_nx, then_rt, En.put, En.hole, En.at, En.frz, addD_int, subD, mulD_l, mulD_r, modD_of, divD_of, eqD_int, neD_int, eqD_str, neD_str, cmpD, k2, tupleD, vals_map]
/-! ### entries -/
def flds (fs : List (Str × D)) : List D := fs.map fun p => .tup false [.str p.1, p.2]
structure Fls (fs : List (Str × D)) : Prop where
  len : fs.length ≤ 4
  nd : (fs.map (·.1)).Nodup
  ok : ∀ p ∈ fs, PyData.strOk p.1 = true ∧ p.1.length ≤ 8
inductive Ent : Nat → D → Prop
  | is {n : Nat} {t m : D} : Sm 600 4 t → Sm 300 3 m → Ent n (.tup false [.str "is", t, m])
  | gone {n : Nat} {m : D} : Sm 300 3 m → Ent n (.tup false [.str "gone", m])
  | pile0 {n : Nat} {as bs : List D} : Prs as → Prs bs → Ent n (.tup false [.str "pile", .non, .tup false as, .tup false bs])
  | pile {n : Nat} {b : D} {as bs : List D} : Ent n b → Prs as → Prs bs → Ent (n + 1) (.tup false [.str "pile", b, .tup false as, .tup false bs])
  | record {n : Nat} {fs : List (Str × D)} {k : Bool} : Fls fs → (∀ p ∈ fs, Ent n p.2) → Ent (n + 1) (.tup false [.str "record", .tup true (flds fs), .bl k])
  | make {n : Nat} {p m : D} {fs : List (Str × D)} {k : Bool} : Sm 90 1 p → Fls fs → (∀ p ∈ fs, Ent n p.2) → Sm 300 3 m → Ent (n + 1) (.tup false [.str "make", p, .tup false [.str "record", .tup true (flds fs), .bl k], m])
def bnd : Nat → Nat
  | 0 => 4000
  | n + 1 => 4 * bnd n + 4700
theorem bnd_succ (n : Nat) : bnd (n + 1) = 4 * bnd n + 4700 := rfl
theorem bnd_ge : ∀ n, 4000 ≤ bnd n
  | 0 => Nat.le_refl _
  | n + 1 => by unfold bnd; omega
theorem Prs.sm {ds : List D} (p : Prs ds) {k : Bool} : Sm 1806 6 (.tup k ds) := (Sm.many p.ok p.len).up (by decide) (Nat.le_refl _)
theorem flds_sm {b h : Nat} {fs : List (Str × D)} (F : Fls fs) (hb : ∀ p ∈ fs, Sm b h p.2) {k : Bool} : Sm (4 * b + 370) (h + 2) (.tup k (flds fs)) := by
  refine (Sm.many (n := b + 88) (h := h + 1) (fun d hd => ?_) (m := 4) (by unfold flds; rw [List.length_map]; exact F.len)).up (by omega) (Nat.le_refl _)
  obtain ⟨p, hp, rfl⟩ := List.mem_map.mp hd
  have := F.ok p hp
  exact (Sms.tup (.cons ((Sm.str (n := 82) this.1 (by omega)).up (Nat.le_refl _) (Nat.zero_le _)) (.cons (hb p hp) .nil))).up (by omega) (Nat.le_refl _)
theorem Ent.sm {n : Nat} {d : D} (h : Ent n d) : Sm (bnd n) (4 * n + 7) d := by
  induction h with
  | @is n t m h1 h2 => exact (Sms.tup (h := 4) (.cons ((lit (by decide +kernel)).up (Nat.le_refl _) (Nat.zero_le _)) (.cons h1 (.cons (h2.up (Nat.le_refl _) (by decide)) .nil)))).up (by have := bnd_ge n; omega) (by omega)
  | @gone n m h2 => exact (Sms.tup (h := 3) (.cons ((lit (by decide +kernel)).up (Nat.le_refl _) (Nat.zero_le _)) (.cons h2 .nil))).up (by have := bnd_ge n; omega) (by omega)
  | @pile0 n as bs h1 h2 => exact (Sms.tup (h := 6) (.cons ((lit (by decide +kernel)).up (Nat.le_refl _) (Nat.zero_le _)) (.cons (Sm.non.up (Nat.le_refl _) (Nat.zero_le _)) (.cons h1.sm (.cons h2.sm .nil))))).up (by have := bnd_ge n; omega) (by omega)
  | @pile n b as bs hb h1 h2 ih =>
    exact (Sms.tup (h := 4 * n + 7) (.cons ((lit (by decide +kernel)).up (Nat.le_refl _) (Nat.zero_le _)) (.cons ih (.cons (h1.sm.up (Nat.le_refl _) (by omega)) (.cons (h2.sm.up (Nat.le_refl _) (by omega)) .nil))))).up (by rw [bnd_succ]; have := bnd_ge n; omega) (by omega)
  | @record n fs k F hb ih =>
    exact (Sms.tup (h := 4 * n + 9) (.cons ((lit (by decide +kernel)).up (Nat.le_refl _) (Nat.zero_le _)) (.cons (flds_sm F ih) (.cons (Sm.bl.up (Nat.le_refl _) (Nat.zero_le _)) .nil)))).up (by rw [bnd_succ]; have := bnd_ge n; omega) (by omega)
  | @make n p m fs k hp F hb hm ih =>
    have hr : Sm (4 * bnd n + 460) (4 * n + 10) (.tup false [.str "record", .tup true (flds fs), .bl k]) :=
      (Sms.tup (h := 4 * n + 9) (.cons ((lit (by decide +kernel)).up (Nat.le_refl _) (Nat.zero_le _)) (.cons (flds_sm F ih) (.cons (Sm.bl.up (Nat.le_refl _) (Nat.zero_le _)) .nil)))).up (by omega) (by omega)
    exact (Sms.tup (h := 4 * n + 10) (.cons ((lit (by decide +kernel)).up (Nat.le_refl _) (Nat.zero_le _)) (.cons (hp.up (Nat.le_refl _) (by omega)) (.cons hr (.cons (hm.up (Nat.le_refl _) (by omega)) .nil))))).up (by rw [bnd_succ]; have := bnd_ge n; omega) (by omega)
theorem Ent.up {n : Nat} {d : D} (h : Ent n d) : ∀ {m : Nat}, n ≤ m → Ent m d := by
  induction h with
  | is h1 h2 => exact fun _ => .is h1 h2
  | gone h2 => exact fun _ => .gone h2
  | pile0 h1 h2 => exact fun _ => .pile0 h1 h2
  | pile hb h1 h2 ih =>
    intro m hm
    obtain ⟨m, rfl⟩ : ∃ k, m = k + 1 := ⟨m - 1, by omega⟩
    exact .pile (ih (by omega)) h1 h2
  | record F hb ih =>
    intro m hm
    obtain ⟨m, rfl⟩ : ∃ k, m = k + 1 := ⟨m - 1, by omega⟩
    exact .record F fun p hp => ih p hp (by omega)
  | make hp F hb hm' ih =>
    intro m hm
    obtain ⟨m, rfl⟩ : ∃ k, m = k + 1 := ⟨m - 1, by omega⟩
    exact .make hp F (fun p hp => ih p hp (by omega)) hm'
end K12

set_option Elab.async false
set_option linter.all false
set_option maxRecDepth 100000
set_option maxHeartbeats 4000000
namespace K12
open PySem L2 PySem.Spec PyProof.Rows DL
def phAR : Nat → (List D → Res) × (List D → Res)
  | 0 => (never, never)
  | n + 1 => (defSem 9 3 (g__law_any (phAR n).1 phM phP (phAR n).2 phT), defSem 9 4 (g__law_record (phAR n).1 phM))
theorem pick {P : Int → D → Prop} (h : ∀ a : Int, 0 ≤ a → a < 2147483647 → ∃ e, P a e) : ∃ G : Int → D, ∀ a : Int, 0 ≤ a → a < 2147483647 → P a (G a) := by
  refine ⟨fun a => if q : 0 ≤ a ∧ a < 2147483647 then Classical.choose (h a q.1 q.2) else .non, fun a h1 h2 => ?_⟩
  show P a (if q : 0 ≤ a ∧ a < 2147483647 then Classical.choose (h a q.1 q.2) else .non)
  rw [dif_pos ⟨h1, h2⟩]
  exact Classical.choose_spec (h a h1 h2)
def nth (S : List Str) (j : Nat) : Str := (S[j]?).getD ⟨#[]⟩
def fsOf (S : List Str) (G : Int → D) (a : Int) (m : Nat) : List (Str × D) := (List.range m).map fun (j : Nat) => (nth S j, G (mix a j))
theorem slice_from {ds : List D} {t : Int} (h : 0 ≤ t) : sliceD (.lst ds) (some t) none = some (.lst ((ds.drop t.toNat).map O.fz)) := by
  unfold sliceD; simp only; rw [cutL_from h]
theorem slice_to {ds : List D} {t : Int} (h : 0 ≤ t) : sliceD (.lst ds) none (some t) = some (.lst ((ds.take t.toNat).map O.fz)) := by
  unfold sliceD; simp only; rw [cutL_to h]
theorem addD_lst {xs ys : List D} (h : xs.length + ys.length ≤ most) : addD [.lst xs, .lst ys] = some (.lst ((xs ++ ys).map O.fz)) := by
  unfold addD
  simp only
  rw [if_pos h]
theorem vals_drop : ∀ {os : List O} {k : Nat}, vals (os.drop k) = (vals os).drop k := by
  intro os k
  rw [vals_eq, vals_eq, List.map_drop]
theorem vals_take : ∀ {os : List O} {k : Nat}, vals (os.take k) = (vals os).take k := by
  intro os k
  rw [vals_eq, vals_eq, List.map_take]
theorem vals_app {os ps : List O} : vals (os ++ ps) = vals os ++ vals ps := by
  rw [vals_eq, vals_eq, vals_eq, List.map_append]
theorem vals_comp {α : Type} {f : α → D} {l : List α} : vals (l.map (O.fz ∘ f)) = l.map f := by
  rw [← List.map_map, vals_map]
theorem flds_of {S : List Str} {G : Int → D} {a : Int} {m : Nat} : flds (fsOf S G a m) = (nums 0 m).map fun d => match d with | .int k => .tup false [.str (nth S k.toNat), G (mix a k)] | _ => .non := by
  unfold flds fsOf nums
  rw [List.map_map, List.map_map]
  apply List.map_congr_left
  intro j _
  simp
theorem ev_r1 {xs : List Str} {φ : List D → Res} {G : Int → D} {d a turn m : Int} {me : O} {s3 s7 : Option Sl} {os : List O} {S : List Str}
    (hG : ∀ a : Int, 0 ≤ a → a < 2147483647 → φ [.int a, nm xs, .int d] = .ok (.fz (G a))) (hm : 0 ≤ m ∧ m ≤ 4) (hos : ∀ j : Nat, j < m.toNat → atI os (j : Int) = some (.fz (.str (nth S j)))) :
    c__law_record_1 φ phM ⟨[some (.ow (.fz (.int a))), some (.ow (.fz (nm xs))), some (.ow (.fz (.int (d + 1)))), s3, some (.ow (.fz (.int m))), some (.ow (.fz (.int turn))), some (.ow (.lst os)), s7, none], me⟩ =
      .ok (.tm (.lst ((flds (fsOf S G a m.toNat)).map O.fz))) ⟨[some (.ow (.fz (.int a))), some (.ow (.fz (nm xs))), some (.ow (.fz (.int (d + 1)))), s3, some (.ow (.fz (.int m))), some (.ow (.fz (.int turn))), some (.ow (.lst os)), s7, none], me⟩ := by
  rw [flds_of, List.map_map]
  refine eComp_all _ (itRange1_int (by simp [defSem, frame, sCons, sNil, sIf, sSet, sRet, sDrop, eF, eV, two, aCons, aNil, eC, eVar, eTup, eLst, eItem, eIf, tOf, tAndD, tOrD, tNotD, eAndD, eOrD, eNotD, fixAll, lookAll, ownAll, fix, look, own, give, O.val, vals, treeOf, itemD_lst, itemD_tup, bind_ok, so_ok, then_nx, then_rt, En.put, En.hole, En.at, En.frz, addD_int, subD, mulD_l, mulD_r, modD_of, divD_of, eqD_int, neD_int, eqD_str, neD_str, cmpD]) hm.1 (by omega)) rfl (fun d' hd => ?_) (by rw [nums_length]; omega)
  obtain ⟨j, hj, rfl⟩ := nums0_mem hd
  have h1 : ((j : Int)).natAbs < 18446744073709551616 := by omega
  have h2 := hos j hj
  have h3 := hG (mix a j) (mix_ge _ _) (mix_lt _ _)
  have h4 : d + 1 - 1 = d := by omega
  simp [turn1, gN, tYesD, En.wipe, defSem, frame, sCons, sNil, sIf, sSet, sRet, sDrop, eF, eV, two, aCons, aNil, eC, eVar, eTup, eLst, eItem, eIf, tOf, tAndD, tOrD, tNotD, eAndD, eOrD, eNotD, fixAll, lookAll, ownAll, fix, look, own, give, O.val, vals, treeOf, itemD_lst, itemD_tup, bind_ok, so_ok, then_nx, then_rt, En.put, En.hole, En.at, En.frz, addD_int, subD, mulD_l, mulD_r, modD_of, divD_of, eqD_int, neD_int, eqD_str, neD_str, cmpD, eCall, phM_ok h1, h2, h3, h4]
theorem fs_ok {xs : List Str} (N : NamesOk xs) {G : Int → D} {a : Int} {t m : Nat} (hm : m ≤ 4) : Fls (fsOf ((xs.drop t ++ xs.take t).take m) G a m) := by
  have hl : (xs.drop t ++ xs.take t).length = 5 := by
    rw [List.length_append, List.length_drop, List.length_take, N.len]; omega
  have hp : (xs.drop t ++ xs.take t).Nodup := by
    have h1 : (xs.take t ++ xs.drop t).Nodup := by rw [List.take_append_drop]; exact N.nd
    exact (List.perm_append_comm.nodup_iff).mp h1
  have hS : (fsOf ((xs.drop t ++ xs.take t).take m) G a m).map (·.1) = (xs.drop t ++ xs.take t).take m := by
    apply List.ext_getElem?
    intro j
    unfold fsOf nth
    rw [List.map_map, List.getElem?_map]
    by_cases h : j < m
    · rw [List.getElem?_range h, List.getElem?_take_of_lt h, List.getElem?_eq_getElem (by omega)]
      simp [h]
      rw [List.getElem?_eq_getElem (by omega)]
      rfl
    · rw [List.getElem?_eq_none (by rw [List.length_range]; omega), List.getElem?_eq_none (by rw [List.length_take]; omega)]
      rfl
  refine ⟨by unfold fsOf; rw [List.length_map, List.length_range]; exact hm, by rw [hS]; exact hp.sublist (List.take_sublist _ _), fun p hp2 => ?_⟩
  have : p.1 ∈ (xs.drop t ++ xs.take t).take m := by rw [← hS]; exact List.mem_map_of_mem hp2
  have := List.mem_of_mem_take this
  rcases List.mem_append.mp this with h | h
  · exact N.ok _ (List.mem_of_mem_drop h)
  · exact N.ok _ (List.mem_of_mem_take h)
theorem record_ok {xs : List Str} (N : NamesOk xs) {φ : List D → Res} {d : Nat} (hA : ∀ a : Int, 0 ≤ a → a < 2147483647 → ∃ e, φ [.int a, nm xs, .int (d : Int)] = .ok (.fz e) ∧ Ent d e) {a : Int} (ha : 0 ≤ a) (ha2 : a < 2147483648) (fr : Bool) :
    ∃ fs, defSem 9 4 (g__law_record φ phM) [.int a, nm xs, .int ((d : Int) + 1), .bl fr] = .ok (.fz (.tup false [.str "record", .tup true (flds fs), .bl fr])) ∧ Fls fs ∧ ∀ p ∈ fs, Ent d p.2 := by
  obtain ⟨G, hG⟩ := pick hA
  have hG1 := fun a h1 h2 => (hG a h1 h2).1
  have hm : 0 ≤ a % 5 ∧ a % 5 ≤ 4 := by omega
  have hm0 := hm.1
  have ht : 0 ≤ a / 5 % 5 := by omega
  refine ⟨fsOf ((xs.drop (a / 5 % 5).toNat ++ xs.take (a / 5 % 5).toNat).take (a % 5).toNat) G a (a % 5).toNat, ?_, fs_ok N (by omega), fun p hp => ?_⟩
  · have hl : ((xs.map D.str).drop (a / 5 % 5).toNat).length + ((xs.map D.str).take (a / 5 % 5).toNat).length ≤ most := by
      rw [List.length_drop, List.length_take, List.length_map, N.len]
      unfold most
      omega
    have hc := fun s3 s7 turn me os => ev_r1 (xs := xs) (φ := φ) (G := G) (d := (d : Int)) (a := a) (turn := turn) (m := a % 5) (me := me) (s3 := s3) (s7 := s7) (os := os) (S := (xs.drop (a / 5 % 5).toNat ++ xs.take (a / 5 % 5).toNat).take (a % 5).toNat) hG1 hm
    unfold nm at hc ⊢
    simp [g__law_record, defSem, frame, sCons, sNil, sIf, sSet, sRet, sDrop, eF, eV, two, aCons, aNil, eC, eVar, eTup, eLst, eItem, eIf, tOf, tAndD, tOrD, tNotD, eAndD, eOrD, eNotD, fixAll, lookAll, ownAll, fix, look, own, give, O.val, vals, treeOf, itemD_lst, itemD_tup, bind_ok, so_ok, then_nx, then_rt, En.put, En.hole, En.at, En.frz, addD_int, subD, mulD_l, mulD_r, modD_of, divD_of, eqD_int, neD_int, eqD_str, neD_str, cmpD, eSlice, pNone, pSome, slice_from ht, slice_to, ht, hm0, addD_lst hl, vals_map, vals_drop, vals_take, vals_app, vals_comp]
    rw [hc]
    · simp [defSem, frame, sCons, sNil, sIf, sSet, sRet, sDrop, eF, eV, two, aCons, aNil, eC, eVar, eTup, eLst, eItem, eIf, tOf, tAndD, tOrD, tNotD, eAndD, eOrD, eNotD, fixAll, lookAll, ownAll, fix, look, own, give, O.val, vals, treeOf, itemD_lst, itemD_tup, bind_ok, so_ok, then_nx, then_rt, En.put, En.hole, En.at, En.frz, addD_int, subD, mulD_l, mulD_r, modD_of, divD_of, eqD_int, neD_int, eqD_str, neD_str, cmpD, tupleKD, vals_map]
    · intro j hj
      have e : ∀ (t m : Nat), List.take m (List.drop t (List.map (O.fz ∘ D.str) xs) ++ List.take t (List.map (O.fz ∘ D.str) xs)) = (List.take m (List.drop t xs ++ List.take t xs)).map (O.fz ∘ D.str) := by
        intro t m
        simp
      rw [e]
      apply atI_nat
      have hl2 : j < (List.take (a % 5).toNat (List.drop (a / 5 % 5).toNat xs ++ List.take (a / 5 % 5).toNat xs)).length := by
        rw [List.length_take, List.length_append, List.length_drop, List.length_take, N.len]
        omega
      unfold nth
      rw [List.getElem?_map, List.getElem?_eq_getElem hl2]
      rfl
  · obtain ⟨j, _, rfl⟩ := List.mem_map.mp hp
    exact (hG _ (mix_ge _ _) (mix_lt _ _)).2
end K12

set_option Elab.async false
set_option linter.all false
set_option maxRecDepth 100000
set_option maxHeartbeats 4000000
namespace K12
open PySem L2 PySem.Spec PyProof.Rows DL
theorem phP_pick {xs : List Str} (N : NamesOk xs) {a n : Int} (ha : 0 ≤ a) (ha2 : a < 2147483648) (hn : 0 ≤ n ∧ n ≤ 2) : ∃ ds, phP [.int a, .lst (xs.map D.str), .int n] = .ok (.fz (.tup false ds)) ∧ Prs ds := phP_ok N ha ha2 hn
theorem eqD_empty {as : List D} (h : Prs as) : eqD [.tup false as, .tup false []] = some (.bl as.isEmpty) := by
  have h1 : eqOk (.tup false as) = true := eqOk_of h.sm.fit (Nat.le_trans h.sm.dep (by decide))
  have h2 : eqOk (.tup false []) = true := by decide +kernel
  have h3 : PyData.eqv (D.tup false as).pd (D.tup false []).pd = as.isEmpty := by
    cases as with
    | nil => simp [D.pd, pds, PyData.eqv, PyData.eqvAll]
    | cons d ds => simp [D.pd, pds, PyData.eqv, PyData.eqvAll]
  show (if eqOk (.tup false as) && eqOk (.tup false []) then some (D.bl (PyData.eqv (D.tup false as).pd (D.tup false []).pd)) else none) = _
  rw [h1, h2, h3]
  rfl
theorem Ent.tag {n : Nat} {d : D} (h : Ent n d) : ∃ t ds, d = .tup false (.str t :: ds) := by
  cases h <;> exact ⟨_, _, rfl⟩
theorem isnt_tup {k : Bool} {ds : List D} : isntD [.tup k ds, .non] = some (.bl true) := rfl
theorem isnt_non : isntD [.non, .non] = some (.bl false) := rfl
theorem is_tup {k : Bool} {ds : List D} : isD [.tup k ds, .non] = some (.bl false) := rfl
theorem is_non : isD [.non, .non] = some (.bl true) := rfl
def markOf (xs : List Str) (m : Int) : D := .tup false [.int (m % 8), .tup false [.str (nameAt xs (m / 8 % 5)), .str (nameAt xs (m / 40 % 5))]]
theorem mark_sm {xs : List Str} (N : NamesOk xs) {m : Int} (h : 0 ≤ m) : Sm 300 3 (markOf xs m) :=
  (Sms.tup (h := 1) (.cons ((Sm.int (by omega)).up (Nat.le_refl _) (by decide)) (.cons (Sms.tup (.cons (name_sm N (nameAt_ok N (by omega)).2) (.cons (name_sm N (nameAt_ok N (by omega)).2) .nil))) .nil))).up (by decide) (by decide)
theorem any_pile {xs : List Str} (N : NamesOk xs) {φA φR : List D → Res} {dI : Int} (hd0 : 0 ≤ dI)
    (hA : 0 < dI → ∀ a : Int, 0 ≤ a → a < 2147483647 → ∃ e, φA [.int a, nm xs, .int (dI - 1)] = .ok (.fz e) ∧ Ent (dI - 1).toNat e)
    {a : Int} (ha : 0 ≤ a) (ha2 : a < 2147483648) (h : a % 9 = 3 ∨ a % 9 = 4) : ∃ e, defSem 9 3 (g__law_any φA phM phP φR phT) [.int a, nm xs, .int dI] = .ok (.fz e) ∧ Ent dI.toNat e := by
  have hx := (nameAt_ok N (i := a / 9 / 8 % 5) (by omega)).1
  have hy := (nameAt_ok N (i := a / 9 / 40 % 5) (by omega)).1
  have k2 := phM_ok (a := a / 9) (k := 2) (by decide)
  obtain ⟨as, hP, pa⟩ := phP_pick N (a := a / 9 / 2) (n := a / 9 / 2 % 3) (by omega) (by omega) (by omega)
  have he := eqD_empty pa
  generalize as.isEmpty = β at he
  obtain ⟨B, hi, hB⟩ : ∃ B : Int, intD [.bl β] = some (.int B) ∧ (B = 0 ∨ B = 1) := by
    cases β
    · exact ⟨0, rfl, .inl rfl⟩
    · exact ⟨1, rfl, .inr rfl⟩
  obtain ⟨M, hM, hM2⟩ : ∃ M : Int, maxD [.int (a / 9 / 6 % 3), .int B] = some (.int M) ∧ 0 ≤ M ∧ M ≤ 2 := by
    refine ⟨if B > a / 9 / 6 % 3 then B else a / 9 / 6 % 3, rfl, ?_⟩
    split <;> omega
  obtain ⟨bs, hP2, pb⟩ := phP_pick N (a := a / 9 / 6) (n := M) (by omega) (by omega) hM2
  by_cases hc : 0 < dI ∧ a / 9 % 2 = 1
  · obtain ⟨hc1, hc2⟩ := hc
    have hd1 : ¬ dI < 1 := by omega
    obtain ⟨e, h1, h2⟩ := hA hc1 (mix (a / 9) 2) (mix_ge _ _) (mix_lt _ _)
    obtain ⟨t, ds, rfl⟩ := h2.tag
    cases hp : (t == Str.ofString "pile") with
    | true =>
      refine ⟨.tup false [.str "pile", .non, .tup false as, .tup false bs], ?_, .pile0 pa pb⟩
      unfold nm at h1 ⊢
      rcases h with h | h <;> simp [g__law_any, defSem, frame, sCons, sNil, sIf, sSet, sRet, sDrop, eF, eV, two, aCons, aNil, eC, eVar, eTup, eLst, eItem, eIf, tOf, tAndD, tOrD, tNotD, eAndD, eOrD, eNotD, fixAll, lookAll, ownAll, fix, look, own, give, O.val, vals, treeOf, itemD_lst, itemD_tup, bind_ok, so_ok, then_nx, then_rt, En.put, En.hole, En.at, En.frz, addD_int, subD, mulD_l, mulD_r, modD_of, divD_of, eqD_int, neD_int, eqD_str, neD_str, cmpD, eCall, hx, hy, h, hd1, hc1, hc2, k2, h1, hp, atI_0, isnt_tup, isnt_non, hP, he, hi, hM, hP2]
    | false =>
      refine ⟨.tup false [.str "pile", .tup false (.str t :: ds), .tup false as, .tup false bs], ?_, ?_⟩
      · unfold nm at h1 ⊢
        rcases h with h | h <;> simp [g__law_any, defSem, frame, sCons, sNil, sIf, sSet, sRet, sDrop, eF, eV, two, aCons, aNil, eC, eVar, eTup, eLst, eItem, eIf, tOf, tAndD, tOrD, tNotD, eAndD, eOrD, eNotD, fixAll, lookAll, ownAll, fix, look, own, give, O.val, vals, treeOf, itemD_lst, itemD_tup, bind_ok, so_ok, then_nx, then_rt, En.put, En.hole, En.at, En.frz, addD_int, subD, mulD_l, mulD_r, modD_of, divD_of, eqD_int, neD_int, eqD_str, neD_str, cmpD, eCall, hx, hy, h, hd1, hc1, hc2, k2, h1, hp, atI_0, isnt_tup, isnt_non, hP, he, hi, hM, hP2]
      · obtain ⟨n, hn⟩ : ∃ n, dI.toNat = n + 1 := ⟨dI.toNat - 1, by omega⟩
        have e : (dI - 1).toNat = n := by omega
        rw [e] at h2
        rw [hn]
        exact .pile h2 pa pb
  · refine ⟨.tup false [.str "pile", .non, .tup false as, .tup false bs], ?_, .pile0 pa pb⟩
    unfold nm
    by_cases hc1 : 0 < dI
    · have hd1 : ¬ dI < 1 := by omega
      have hc2 : ¬ a / 9 % 2 = 1 := fun z => hc ⟨hc1, z⟩
      rcases h with h | h <;> simp [g__law_any, defSem, frame, sCons, sNil, sIf, sSet, sRet, sDrop, eF, eV, two, aCons, aNil, eC, eVar, eTup, eLst, eItem, eIf, tOf, tAndD, tOrD, tNotD, eAndD, eOrD, eNotD, fixAll, lookAll, ownAll, fix, look, own, give, O.val, vals, treeOf, itemD_lst, itemD_tup, bind_ok, so_ok, then_nx, then_rt, En.put, En.hole, En.at, En.frz, addD_int, subD, mulD_l, mulD_r, modD_of, divD_of, eqD_int, neD_int, eqD_str, neD_str, cmpD, eCall, hx, hy, h, hd1, hc1, hc2, isnt_tup, isnt_non, hP, he, hi, hM, hP2]
    · have hd1 : dI < 1 := by omega
      rcases h with h | h <;> simp [g__law_any, defSem, frame, sCons, sNil, sIf, sSet, sRet, sDrop, eF, eV, two, aCons, aNil, eC, eVar, eTup, eLst, eItem, eIf, tOf, tAndD, tOrD, tNotD, eAndD, eOrD, eNotD, fixAll, lookAll, ownAll, fix, look, own, give, O.val, vals, treeOf, itemD_lst, itemD_tup, bind_ok, so_ok, then_nx, then_rt, En.put, En.hole, En.at, En.frz, addD_int, subD, mulD_l, mulD_r, modD_of, divD_of, eqD_int, neD_int, eqD_str, neD_str, cmpD, eCall, hx, hy, h, hd1, hc1, isnt_tup, isnt_non, hP, he, hi, hM, hP2]
theorem any_step {xs : List Str} (N : NamesOk xs) {φA φR : List D → Res} {dI : Int} (hd0 : 0 ≤ dI)
    (hA : 0 < dI → ∀ a : Int, 0 ≤ a → a < 2147483647 → ∃ e, φA [.int a, nm xs, .int (dI - 1)] = .ok (.fz e) ∧ Ent (dI - 1).toNat e)
    (hR : 0 < dI → ∀ (a : Int) (fr : Bool), 0 ≤ a → a < 2147483648 → ∃ fs, φR [.int a, nm xs, .int dI, .bl fr] = .ok (.fz (.tup false [.str "record", .tup true (flds fs), .bl fr])) ∧ Fls fs ∧ ∀ p ∈ fs, Ent (dI - 1).toNat p.2)
    {a : Int} (ha : 0 ≤ a) (ha2 : a < 2147483648) : ∃ e, defSem 9 3 (g__law_any φA phM phP φR phT) [.int a, nm xs, .int dI] = .ok (.fz e) ∧ Ent dI.toNat e := by
  have hx := (nameAt_ok N (i := a / 9 / 8 % 5) (by omega)).1
  have hy := (nameAt_ok N (i := a / 9 / 40 % 5) (by omega)).1
  have k1 := phM_ok (a := a / 9) (k := 1) (by decide)
  have k2 := phM_ok (a := a / 9) (k := 2) (by decide)
  have k3 := phM_ok (a := a / 9) (k := 3) (by decide)
  have k4 := phM_ok (a := a / 9) (k := 4) (by decide)
  have mk := mark_sm N (m := a / 9) (by omega)
  have h9 : a % 9 = 0 ∨ a % 9 = 1 ∨ a % 9 = 2 ∨ a % 9 = 3 ∨ a % 9 = 4 ∨ a % 9 = 5 ∨ a % 9 = 6 ∨ a % 9 = 7 ∨ a % 9 = 8 := by omega
  obtain ⟨t, ht, hts⟩ := phT_ok N (a := mix (a / 9) 1) (mix_ge _ _) (Int.lt_trans (mix_lt _ _) (by decide))
  have his : (a % 9 < 2 ∨ (dI < 1 ∧ 4 < a % 9)) → ∃ e, defSem 9 3 (g__law_any φA phM phP φR phT) [.int a, nm xs, .int dI] = .ok (.fz e) ∧ Ent dI.toNat e := by
    intro hc
    refine ⟨.tup false [.str "is", t, markOf xs (a / 9)], ?_, .is hts mk⟩
    unfold nm at ht ⊢
    rcases hc with hc | ⟨hc1, hc2⟩
    · simp [g__law_any, defSem, frame, sCons, sNil, sIf, sSet, sRet, sDrop, eF, eV, two, aCons, aNil, eC, eVar, eTup, eLst, eItem, eIf, tOf, tAndD, tOrD, tNotD, eAndD, eOrD, eNotD, fixAll, lookAll, ownAll, fix, look, own, give, O.val, vals, treeOf, itemD_lst, itemD_tup, bind_ok, so_ok, then_nx, then_rt, En.put, En.hole, En.at, En.frz, addD_int, subD, mulD_l, mulD_r, modD_of, divD_of, eqD_int, neD_int, eqD_str, neD_str, cmpD, eCall, hx, hy, k1, ht, hc, markOf]
    · have hc3 : ¬ a % 9 < 2 := by omega
      simp [g__law_any, defSem, frame, sCons, sNil, sIf, sSet, sRet, sDrop, eF, eV, two, aCons, aNil, eC, eVar, eTup, eLst, eItem, eIf, tOf, tAndD, tOrD, tNotD, eAndD, eOrD, eNotD, fixAll, lookAll, ownAll, fix, look, own, give, O.val, vals, treeOf, itemD_lst, itemD_tup, bind_ok, so_ok, then_nx, then_rt, En.put, En.hole, En.at, En.frz, addD_int, subD, mulD_l, mulD_r, modD_of, divD_of, eqD_int, neD_int, eqD_str, neD_str, cmpD, eCall, hx, hy, k1, ht, hc1, hc2, hc3, markOf]
  by_cases hq : a % 9 < 2 ∨ (dI < 1 ∧ 4 < a % 9)
  · exact his hq
  · have hq1 : ¬ a % 9 < 2 := fun z => hq (.inl z)
    have hq2 : 4 < a % 9 → ¬ dI < 1 := fun z w => hq (.inr ⟨w, z⟩)
    rcases h9 with h | h | h | h | h | h | h | h | h
    · omega
    · omega
    · refine ⟨.tup false [.str "gone", markOf xs (a / 9)], ?_, .gone mk⟩
      unfold nm
      by_cases hd1 : dI < 1
      · simp [g__law_any, defSem, frame, sCons, sNil, sIf, sSet, sRet, sDrop, eF, eV, two, aCons, aNil, eC, eVar, eTup, eLst, eItem, eIf, tOf, tAndD, tOrD, tNotD, eAndD, eOrD, eNotD, fixAll, lookAll, ownAll, fix, look, own, give, O.val, vals, treeOf, itemD_lst, itemD_tup, bind_ok, so_ok, then_nx, then_rt, En.put, En.hole, En.at, En.frz, addD_int, subD, mulD_l, mulD_r, modD_of, divD_of, eqD_int, neD_int, eqD_str, neD_str, cmpD, eCall, hx, hy, h, hd1, markOf]
      · simp [g__law_any, defSem, frame, sCons, sNil, sIf, sSet, sRet, sDrop, eF, eV, two, aCons, aNil, eC, eVar, eTup, eLst, eItem, eIf, tOf, tAndD, tOrD, tNotD, eAndD, eOrD, eNotD, fixAll, lookAll, ownAll, fix, look, own, give, O.val, vals, treeOf, itemD_lst, itemD_tup, bind_ok, so_ok, then_nx, then_rt, En.put, En.hole, En.at, En.frz, addD_int, subD, mulD_l, mulD_r, modD_of, divD_of, eqD_int, neD_int, eqD_str, neD_str, cmpD, eCall, hx, hy, h, hd1, markOf]
    · exact any_pile N hd0 hA ha ha2 (.inl h)
    · exact any_pile N hd0 hA ha ha2 (.inr h)
    · have hd1 := hq2 (by omega)
      have hd2 : 0 < dI := by omega
      obtain ⟨fs, hr, hf, hfs⟩ := hR hd2 (mix (a / 9) 3) false (mix_ge _ _) (Int.lt_trans (mix_lt _ _) (by decide))
      obtain ⟨n, hn⟩ : ∃ n, dI.toNat = n + 1 := ⟨dI.toNat - 1, by omega⟩
      have hp := nameAt_ok N (i := a / 9 % 5) (by omega)
      have hp1 := hp.1
      refine ⟨.tup false [.str "make", .tup false [.str (nameAt xs (a / 9 % 5))], .tup false [.str "record", .tup true (flds fs), .bl false], markOf xs (a / 9)], ?_, ?_⟩
      · unfold nm at hr ⊢
        simp [g__law_any, defSem, frame, sCons, sNil, sIf, sSet, sRet, sDrop, eF, eV, two, aCons, aNil, eC, eVar, eTup, eLst, eItem, eIf, tOf, tAndD, tOrD, tNotD, eAndD, eOrD, eNotD, fixAll, lookAll, ownAll, fix, look, own, give, O.val, vals, treeOf, itemD_lst, itemD_tup, bind_ok, so_ok, then_nx, then_rt, En.put, En.hole, En.at, En.frz, addD_int, subD, mulD_l, mulD_r, modD_of, divD_of, eqD_int, neD_int, eqD_str, neD_str, cmpD, eCall, hx, hy, h, hd1, k3, hr, hp1, markOf]
      · rw [hn]
        have e : (dI - 1).toNat = n := by omega
        rw [e] at hfs
        exact .make ((Sms.tup (.cons (name_sm N hp.2) .nil)).up (by decide) (by decide)) hf hfs mk
    all_goals
      have hd1 := hq2 (by omega)
      have hd2 : 0 < dI := by omega
      obtain ⟨fs, hr, hf, hfs⟩ := hR hd2 (mix (a / 9) 4) (decide (a % 9 = 8)) (mix_ge _ _) (Int.lt_trans (mix_lt _ _) (by decide))
      obtain ⟨n, hn⟩ : ∃ n, dI.toNat = n + 1 := ⟨dI.toNat - 1, by omega⟩
      refine ⟨.tup false [.str "record", .tup true (flds fs), .bl (decide (a % 9 = 8))], ?_, ?_⟩
      · unfold nm at hr ⊢
        rw [h] at hr
        simp at hr
        simp [g__law_any, defSem, frame, sCons, sNil, sIf, sSet, sRet, sDrop, eF, eV, two, aCons, aNil, eC, eVar, eTup, eLst, eItem, eIf, tOf, tAndD, tOrD, tNotD, eAndD, eOrD, eNotD, fixAll, lookAll, ownAll, fix, look, own, give, O.val, vals, treeOf, itemD_lst, itemD_tup, bind_ok, so_ok, then_nx, then_rt, En.put, En.hole, En.at, En.frz, addD_int, subD, mulD_l, mulD_r, modD_of, divD_of, eqD_int, neD_int, eqD_str, neD_str, cmpD, eCall, hx, hy, h, hd1, k4, hr]
      · rw [hn]
        have e : (dI - 1).toNat = n := by omega
        rw [e] at hfs
        exact .record hf hfs
end K12

set_option Elab.async false
set_option linter.all false
set_option maxRecDepth 100000
set_option maxHeartbeats 4000000
namespace K12
open PySem L2 PySem.Spec PyProof.Rows DL
theorem phAR_ok {xs : List Str} (N : NamesOk xs) : ∀ (n : Nat) (dI : Int),
    (0 ≤ dI → 2 * dI + 1 ≤ n → ∀ a : Int, 0 ≤ a → a < 2147483648 → ∃ e, (phAR n).1 [.int a, nm xs, .int dI] = .ok (.fz e) ∧ Ent dI.toNat e) ∧
    (0 < dI → 2 * dI ≤ n → ∀ (a : Int) (fr : Bool), 0 ≤ a → a < 2147483648 → ∃ fs, (phAR n).2 [.int a, nm xs, .int dI, .bl fr] = .ok (.fz (.tup false [.str "record", .tup true (flds fs), .bl fr])) ∧ Fls fs ∧ ∀ p ∈ fs, Ent (dI - 1).toNat p.2)
  | 0, dI => ⟨fun h1 h2 => by omega, fun h1 h2 => by omega⟩
  | n + 1, dI => by
    constructor
    · intro h1 h2 a ha ha2
      exact any_step N h1 (fun hd a h3 h4 => (phAR_ok N n (dI - 1)).1 (by omega) (by omega) a h3 (by omega)) (fun hd a fr h3 h4 => (phAR_ok N n dI).2 hd (by omega) a fr h3 h4) ha ha2
    · intro h1 h2 a fr ha ha2
      have e : (((dI - 1).toNat : Nat) : Int) = dI - 1 := Int.toNat_of_nonneg (by omega)
      have := record_ok N (φ := (phAR n).1) (d := (dI - 1).toNat) (fun a h3 h4 => by
        rw [e]
        exact (phAR_ok N n (dI - 1)).1 (by omega) (by omega) a h3 (by omega)) ha ha2 fr
      rw [e, Int.sub_add_cancel] at this
      exact this
/-! ### dicts by functions -/
def lo (fs : List (Str × D)) (k : Str) : D := match fs.find? fun p => p.1 = k with
  | some p => p.2
  | none => .non
theorem lo_mem {fs : List (Str × D)} (nd : (fs.map (·.1)).Nodup) {p : Str × D} (h : p ∈ fs) : lo fs p.1 = p.2 := by
  induction fs with
  | nil => cases h
  | cons q fs ih =>
    rw [List.map_cons, List.nodup_cons] at nd
    unfold lo
    rw [List.find?_cons]
    by_cases e : q.1 = p.1
    · rw [show (decide (q.1 = p.1)) = true from decide_eq_true e]
      rcases List.mem_cons.mp h with rfl | h
      · rfl
      · exact absurd (List.mem_map_of_mem (f := (·.1)) h) (by rw [← e]; exact nd.1)
    · rw [show (decide (q.1 = p.1)) = false from decide_eq_false e]
      rcases List.mem_cons.mp h with rfl | h
      · exact absurd rfl e
      · exact ih nd.2 h
theorem lo_none {fs : List (Str × D)} {k : Str} (h : k ∉ fs.map (·.1)) : lo fs k = .non := by
  unfold lo
  rw [List.find?_eq_none.mpr fun p hp => by
    simp only [decide_eq_true_eq]
    rintro rfl
    exact h (List.mem_map_of_mem hp)]
theorem lo_in {fs : List (Str × D)} {k : Str} (h : k ∈ fs.map (·.1)) : ∃ p ∈ fs, p.1 = k ∧ lo fs k = p.2 := by
  obtain ⟨q, hq, e⟩ := List.mem_map.mp h
  unfold lo
  cases z : fs.find? fun p => p.1 = k with
  | none =>
    have := List.find?_eq_none.mp z q hq
    simp only [decide_eq_true_eq] at this
    exact absurd e this
  | some p =>
    have h1 := List.mem_of_find?_eq_some z
    have h2 := List.find?_some z
    simp only [decide_eq_true_eq] at h2
    exact ⟨p, h1, h2, rfl⟩
theorem map_lo {fs : List (Str × D)} (nd : (fs.map (·.1)).Nodup) : fs.map (·.2) = (fs.map (·.1)).map (lo fs) := by
  rw [List.map_map]
  apply List.map_congr_left
  intro p hp
  exact (lo_mem nd hp).symm
def kys (ks : List Str) : List Key := ks.map .inr
theorem mem_kys {ks : List Str} {x : Str} : (Sum.inr x : Key) ∈ kys ks ↔ x ∈ ks := by
  unfold kys
  rw [List.mem_map]
  constructor
  · rintro ⟨y, h, e⟩
    cases e
    exact h
  · exact fun h => ⟨x, h, rfl⟩
def addk (ks : List Str) (x : Str) : List Str := if x ∈ ks then ks else ks ++ [x]
theorem putKs_kys {ks : List Str} {x : Str} : putKs (kys ks) (.inr x) = kys (addk ks x) := by
  unfold putKs addk
  by_cases h : x ∈ ks
  · rw [if_pos (mem_kys.mpr h), if_pos h]
  · rw [if_neg (fun z => h (mem_kys.mp z)), if_neg h]
    unfold kys
    rw [List.map_append]
    rfl
theorem putAt_kys {α : Type} {x : Str} {b : α} {V : Str → α} : ∀ {ks : List Str}, putAt (kys ks) (ks.map V) (.inr x) b = ks.map fun k => if k = x then b else V k
  | [] => rfl
  | k :: ks => by
    unfold kys
    rw [List.map_cons, List.map_cons, List.map_cons]
    unfold DL.putAt
    have := putAt_kys (x := x) (b := b) (V := V) (ks := ks)
    unfold kys at this
    rw [this]
    by_cases e : k = x
    · subst e
      rw [if_pos rfl, if_pos rfl]
    · rw [if_neg (fun z => e (Sum.inr.inj z)), if_neg e]
theorem putOs_kys {α : Type} {x : Str} {b : α} {V : Str → α} {ks : List Str} : putOs (kys ks) (ks.map V) (.inr x) b = (addk ks x).map fun k => if k = x then b else V k := by
  unfold putOs addk
  by_cases h : x ∈ ks
  · rw [if_pos (mem_kys.mpr h), if_pos h, putAt_kys]
  · rw [if_neg (fun z => h (mem_kys.mp z)), if_neg h, List.map_append]
    congr 1
    · apply List.map_congr_left
      intro k hk
      rw [if_neg (fun e => h (by rw [← e]; exact hk))]
    · rw [List.map_cons, List.map_nil, if_pos rfl]
theorem lookL_kys {α : Type} {x : Str} {V : Str → α} : ∀ {ks : List Str}, lookL (kys ks) (ks.map V) (.inr x) = if x ∈ ks then some (V x) else none
  | [] => rfl
  | k :: ks => by
    unfold kys
    rw [List.map_cons, List.map_cons]
    unfold lookL
    by_cases e : k = x
    · subst e
      rw [if_pos rfl, if_pos List.mem_cons_self]
    · rw [if_neg (fun z => e (Sum.inr.inj z))]
      have := lookL_kys (x := x) (V := V) (ks := ks)
      unfold kys at this
      rw [this]
      by_cases h : x ∈ ks
      · rw [if_pos h, if_pos (List.mem_cons_of_mem _ h)]
      · rw [if_neg h, if_neg (fun z => by
          rcases List.mem_cons.mp z with z | z
          · exact e z.symm
          · exact h z)]
theorem pairsOf_flds : ∀ fs : List (Str × D), pairsOf (flds fs) = some (fs.map fun p => (.inr p.1, p.2))
  | [] => rfl
  | p :: fs => by
    unfold flds
    rw [List.map_cons]
    unfold DL.pairsOf
    have := pairsOf_flds fs
    unfold flds at this
    rw [this]
    rfl
theorem putPairs_kys : ∀ {fs : List (Str × D)} {ks : List Str} {V : Str → D}, (fs.map (·.1)).Nodup → (∀ p ∈ fs, p.1 ∉ ks) → putPairs (kys ks) (ks.map V) (fs.map fun p => (.inr p.1, p.2)) = (kys (ks ++ fs.map (·.1)), ks.map V ++ fs.map (·.2))
  | [], ks, V, _, _ => by rw [List.map_nil, List.map_nil, List.map_nil, List.append_nil, List.append_nil]; rfl
  | p :: fs, ks, V, nd, hd => by
    rw [List.map_cons, List.nodup_cons] at nd
    rw [List.map_cons]
    unfold putPairs
    simp only
    have h1 : p.1 ∉ ks := hd p List.mem_cons_self
    rw [putKs_kys, putOs_kys]
    unfold addk
    rw [if_neg h1]
    rw [putPairs_kys nd.2 fun q hq z => ?_]
    · rw [List.append_assoc, List.map_append, List.map_cons, List.map_cons, List.map_nil, if_pos rfl]
      congr 1
      rw [List.append_assoc]
      congr 1
      apply List.map_congr_left
      intro k hk
      rw [if_neg (fun e => h1 (by rw [← e]; exact hk))]
    · rcases List.mem_append.mp z with z | z
      · exact hd q (List.mem_cons_of_mem _ hq) z
      · rw [List.mem_singleton] at z
        exact nd.1 (by rw [← z]; exact List.mem_map_of_mem hq)
theorem dictT_flds {fs : List (Str × D)} (F : Fls fs) : dictTD [.tup true (flds fs)] = some (.dK (kys (fs.map (·.1))) ((fs.map (·.1)).map fun k => .fz (lo fs k))) := by
  unfold dictTD
  simp only [pairsOf_flds]
  have h := putPairs_kys (ks := []) (V := fun _ => D.non) F.nd fun p _ z => nomatch z
  have h2 : kys [] = [] := rfl
  rw [h2, List.map_nil, List.nil_append, List.nil_append] at h
  rw [h]
  have hl : (fs.map fun p => ((.inr p.1 : Key), p.2)).length ≤ 1000000 := by rw [List.length_map]; have := F.len; omega
  rw [if_pos hl]
  simp only
  rw [map_lo F.nd, List.map_map]
  rfl
end K12

set_option Elab.async false
set_option linter.all false
set_option maxRecDepth 100000
set_option maxHeartbeats 4000000
namespace K12
open PySem L2 PySem.Spec PyProof.Rows DL
def nms (fs : List (Str × D)) : List Str := fs.map (·.1)
def heads (ks ns : List Str) : List Str := ns.foldl addk ks
def outs (R : Str → D) (ks : List Str) : List D := ks.map fun k => .tup false [.str k, R k]
theorem pairsD_kys {V : Str → D} : ∀ {ks : List Str}, pairsD (kys ks) (ks.map V) = outs V ks
  | [] => rfl
  | k :: ks => by
    have := pairsD_kys (V := V) (ks := ks)
    unfold kys outs at this ⊢
    rw [List.map_cons, List.map_cons, List.map_cons]
    unfold pairsD
    rw [this]
    rfl
theorem heads_snoc {ks ns : List Str} {x : Str} : heads ks (ns ++ [x]) = addk (heads ks ns) x := by
  unfold heads
  rw [List.foldl_append]
  rfl
theorem heads_mem {ks : List Str} {x : Str} : ∀ {ns : List Str}, x ∈ heads ks ns ↔ x ∈ ks ∨ x ∈ ns := by
  intro ns
  unfold heads
  induction ns generalizing ks with
  | nil => simp
  | cons n ns ih =>
    rw [List.foldl_cons, ih]
    unfold addk
    by_cases h : n ∈ ks
    · rw [if_pos h]
      constructor
      · rintro (z | z)
        · exact .inl z
        · exact .inr (List.mem_cons_of_mem _ z)
      · rintro (z | z)
        · exact .inl z
        · rcases List.mem_cons.mp z with rfl | z
          · exact .inl h
          · exact .inr z
    · rw [if_neg h, List.mem_append, List.mem_singleton, List.mem_cons, or_assoc]
theorem heads_len {ks : List Str} : ∀ {ns : List Str}, (heads ks ns).length ≤ ks.length + ns.length := by
  intro ns
  unfold heads
  induction ns generalizing ks with
  | nil => exact Nat.le_refl _
  | cons n ns ih =>
    rw [List.foldl_cons, List.length_cons]
    refine Nat.le_trans ih ?_
    unfold addk
    split
    · omega
    · rw [List.length_append]; simp; omega
theorem heads_filter {ks : List Str} : ∀ {ns : List Str}, ns.Nodup → heads ks ns = ks ++ ns.filter fun n => decide (n ∉ ks) := by
  intro ns
  unfold heads
  induction ns generalizing ks with
  | nil => intro _; simp
  | cons n ns ih =>
    intro nd
    rw [List.nodup_cons] at nd
    rw [List.foldl_cons, ih nd.2]
    unfold addk
    by_cases h : n ∈ ks
    · rw [if_pos h, List.filter_cons_of_neg (by simpa using h)]
    · rw [if_neg h, List.filter_cons_of_pos (by simpa using h), List.append_assoc]
      congr 1
      show n :: _ = n :: _
      congr 1
      apply List.filter_congr
      intro x hx
      have : x ≠ n := fun e => nd.1 (by rw [← e]; exact hx)
      simp [this]
def dkO (ks : List Str) (V : Str → D) : O := .dK (kys ks) (ks.map fun k => .fz (V k))
theorem lookO_dk {ks : List Str} {V : Str → D} {x : Str} : lookO (dkO ks V) (.inr x) = some (if x ∈ ks then some (V x) else none) := by
  unfold lookO dkO
  simp only
  rw [lookL_kys]
  by_cases h : x ∈ ks
  · rw [if_pos h, if_pos h]
  · rw [if_neg h, if_neg h]
theorem getOne {ks : List Str} {V : Str → D} {x : Str} {e : En} {d : D} (h2 : e.sl[2]? = some (some (.ow (dkO ks V)))) (h3 : e.sl[3]? = some (some (.ow (.fz (.str x))))) (hv : (if x ∈ ks then V x else .non) = d) :
    eGet1 (eVar 2) (eVar 3) e = .ok (.tm (.fz d)) e := by
  have a1 : eVar 2 e = .ok (.sl 2) e := by unfold eVar; rw [h2]; rfl
  have a2 : eVar 3 e = .ok (.tm (.fz (.str x))) e := eVar_fz h3
  have a3 : treeOf e (.sl 2) = some (dkO ks V) := by
    show e.at 2 = _
    unfold En.at
    rw [h2]
  unfold eGet1
  rw [a1, bind_ok, a3]
  show (eVar 3 e).bind _ = _
  rw [a2, bind_ok]
  show (match treeOf e (.sl 2) with | none => Out.no | some o => match lookO o (.inr x) with | none => .no | some none => Out.ok (Rv.tm (.fz .non)) e | some (some d) => Out.ok (Rv.tm (.fz d)) e) = _
  rw [a3]
  simp only [lookO_dk]
  by_cases h : x ∈ ks
  · rw [if_pos h] at hv ⊢
    rw [hv]
  · rw [if_neg h] at hv ⊢
    rw [hv]
theorem fields_ok {φ : List D → Res} {fs gs : List (Str × D)} (Ff : Fls fs) (Fg : Fls gs) {R : Str → D} (hR : ∀ p ∈ gs, φ [lo fs p.1, p.2] = .ok (.fz (R p.1))) (hlo : ∀ k, k ∉ nms gs → R k = lo fs k) :
    defSem 5 2 (g_joined_fields φ) [.tup true (flds fs), .tup true (flds gs)] = .ok (.fz (.tup true (outs R (heads (nms fs) (nms gs))))) := by
  have hd := dictT_flds Ff
  have key := sFor_inv (si := itSeq (eVar 1)) (t := gT (gCons' (gN 3) (gCons' (gN 4) gNil'))) (g := b_joined_fields_1 φ) (ds := flds gs)
    (e := ⟨[some (.ow (.fz (.tup true (flds fs)))), some (.ow (.fz (.tup true (flds gs)))), some (.ow (dkO (nms fs) (lo fs))), none, none], .fz .non⟩) (e0 := ⟨[some (.ow (.fz (.tup true (flds fs)))), some (.ow (.fz (.tup true (flds gs)))), some (.ow (dkO (nms fs) (lo fs))), none, none], .fz .non⟩)
    (fun j e => ∃ (s3 s4 : Option Sl), e = ⟨[some (.ow (.fz (.tup true (flds fs)))), some (.ow (.fz (.tup true (flds gs)))), some (.ow (dkO (heads (nms fs) ((nms gs).take j)) fun k => if k ∈ (nms gs).take j then R k else lo fs k)), s3, s4], .fz .non⟩)
    rfl ⟨none, none, by
      rw [List.take_zero]
      rfl⟩ (fun j d e hj ⟨s3, s4, e1⟩ => by
      subst e1
      have hj2 : (gs[j]?).map (fun p => D.tup false [.str p.1, p.2]) = some d := by rw [← List.getElem?_map]; exact hj
      cases hp : gs[j]? with
      | none => rw [hp] at hj2; cases hj2
      | some p =>
        rw [hp] at hj2
        cases hj2
        obtain ⟨hjl, hpe⟩ := List.getElem?_eq_some_iff.mp hp
        have hpm : p ∈ gs := by rw [← hpe]; exact List.getElem_mem _
        have hn : (nms gs)[j]? = some p.1 := by unfold nms; rw [List.getElem?_map, hp]; rfl
        have htk : (nms gs).take (j + 1) = (nms gs).take j ++ [p.1] := by rw [List.take_add_one, hn]; rfl
        have hnot : p.1 ∉ (nms gs).take j := by
          intro z
          have nd : ((nms gs).take (j + 1)).Nodup := Fg.nd.sublist (List.take_sublist _ _)
          rw [htk, List.nodup_append] at nd
          exact nd.2.2 _ z _ (List.mem_singleton.mpr rfl) rfl
        have hv : (if p.1 ∈ heads (nms fs) ((nms gs).take j) then (if p.1 ∈ (nms gs).take j then R p.1 else lo fs p.1) else .non) = lo fs p.1 := by
          rw [if_neg hnot]
          by_cases z : p.1 ∈ nms fs
          · rw [if_pos (heads_mem.mpr (.inl z))]
          · rw [if_neg (fun w => by
              rcases heads_mem.mp w with w | w
              · exact z w
              · exact hnot w), lo_none z]
        have hl : (kys (heads (nms fs) ((nms gs).take j))).length < 1000000 := by
          unfold kys
          rw [List.length_map]
          have h1 := heads_len (ks := nms fs) (ns := (nms gs).take j)
          have h2 : ((nms gs).take j).length ≤ 4 := by rw [List.length_take]; unfold nms; rw [List.length_map]; have := Fg.len; omega
          have h3 : (nms fs).length ≤ 4 := by unfold nms; rw [List.length_map]; exact Ff.len
          omega
        refine ⟨_, ⟨[some (.ow (.fz (.tup true (flds fs)))), some (.ow (.fz (.tup true (flds gs)))), some (.ow (dkO (heads (nms fs) ((nms gs).take (j + 1))) fun k => if k ∈ (nms gs).take (j + 1) then R k else lo fs k)), some (.ow (.fz (.str p.1))), some (.ow (.fz p.2))], .fz .non⟩, rfl, .inl ?_, _, _, rfl⟩
        have hg := getOne (e := ⟨[some (.ow (.fz (.tup true (flds fs)))), some (.ow (.fz (.tup true (flds gs)))), some (.ow (dkO (heads (nms fs) ((nms gs).take j)) fun k => if k ∈ (nms gs).take j then R k else lo fs k)), some (.ow (.fz (.str p.1))), some (.ow (.fz p.2))], .fz .non⟩) (x := p.1) rfl rfl hv
        have hc := hR p hpm
        have hput : O.dK (putKs (kys (heads (nms fs) ((nms gs).take j))) (.inr p.1)) (putOs (kys (heads (nms fs) ((nms gs).take j))) ((heads (nms fs) ((nms gs).take j)).map fun k => .fz (if k ∈ (nms gs).take j then R k else lo fs k)) (.inr p.1) (.fz (R p.1))) = dkO (heads (nms fs) ((nms gs).take (j + 1))) fun k => if k ∈ (nms gs).take (j + 1) then R k else lo fs k := by
          rw [putKs_kys, putOs_kys, htk, heads_snoc]
          unfold dkO
          congr 1
          apply List.map_congr_left
          intro k _
          show (if k = p.1 then O.fz (R p.1) else O.fz (if k ∈ (nms gs).take j then R k else lo fs k)) = O.fz (if k ∈ (nms gs).take j ++ [p.1] then R k else lo fs k)
          by_cases e : k = p.1
          · subst e
            rw [if_pos rfl, if_pos (List.mem_append_right _ (List.mem_singleton.mpr rfl))]
          · rw [if_neg e]
            congr 1
            by_cases z : k ∈ (nms gs).take j
            · rw [if_pos z, if_pos (List.mem_append_left _ z)]
            · rw [if_neg z, if_neg (fun w => by
                rcases List.mem_append.mp w with w | w
                · exact z w
                · exact e (List.mem_singleton.mp w))]
        rw [← hput]
        show b_joined_fields_1 φ ⟨[some (.ow (.fz (.tup true (flds fs)))), some (.ow (.fz (.tup true (flds gs)))), some (.ow (dkO (heads (nms fs) ((nms gs).take j)) fun k => if k ∈ (nms gs).take j then R k else lo fs k)), some (.ow (.fz (.str p.1))), some (.ow (.fz p.2))], .fz .non⟩ = _
        unfold b_joined_fields_1 sPutK
        have hcall : eCall φ (aCons (eGet1 (eVar 2) (eVar 3)) (aCons (eVar 4) aNil)) ⟨[some (.ow (.fz (.tup true (flds fs)))), some (.ow (.fz (.tup true (flds gs)))), some (.ow (dkO (heads (nms fs) ((nms gs).take j)) fun k => if k ∈ (nms gs).take j then R k else lo fs k)), some (.ow (.fz (.str p.1))), some (.ow (.fz p.2))], .fz .non⟩ = .ok (.tm (.fz (R p.1))) ⟨[some (.ow (.fz (.tup true (flds fs)))), some (.ow (.fz (.tup true (flds gs)))), some (.ow (dkO (heads (nms fs) ((nms gs).take j)) fun k => if k ∈ (nms gs).take j then R k else lo fs k)), some (.ow (.fz (.str p.1))), some (.ow (.fz p.2))], .fz .non⟩ := by
          unfold eCall aCons
          rw [hg]
          simp [defSem, frame, sCons, sNil, sIf, sSet, sRet, sDrop, eF, eV, two, aCons, aNil, eC, eVar, eTup, eLst, eItem, eIf, tOf, tAndD, tOrD, tNotD, eAndD, eOrD, eNotD, fixAll, lookAll, ownAll, fix, look, own, give, O.val, vals, treeOf, itemD_lst, itemD_tup, bind_ok, so_ok, then_nx, then_rt, En.put, En.hole, En.at, En.frz, addD_int, subD, mulD_l, mulD_r, modD_of, divD_of, eqD_int, neD_int, eqD_str, neD_str, cmpD, hc]
        rw [hcall]
        unfold dkO
        simp [defSem, frame, sCons, sNil, sIf, sSet, sRet, sDrop, eF, eV, two, aCons, aNil, eC, eVar, eTup, eLst, eItem, eIf, tOf, tAndD, tOrD, tNotD, eAndD, eOrD, eNotD, fixAll, lookAll, ownAll, fix, look, own, give, O.val, vals, treeOf, itemD_lst, itemD_tup, bind_ok, so_ok, then_nx, then_rt, En.put, En.hole, En.at, En.frz, addD_int, subD, mulD_l, mulD_r, modD_of, divD_of, eqD_int, neD_int, eqD_str, neD_str, cmpD, isDkOwn, keyD, hl])
  obtain ⟨e', k1, s3, s4, rfl⟩ := key
  have hlen : (flds gs).length = (nms gs).length := by unfold flds nms; rw [List.length_map, List.length_map]
  rw [hlen, List.take_length] at k1
  have k2 : l_joined_fields_2 φ ⟨[some (.ow (.fz (.tup true (flds fs)))), some (.ow (.fz (.tup true (flds gs)))), some (.ow (dkO (nms fs) (lo fs))), none, none], .fz .non⟩ = _ := k1
  have hV : (fun k => if k ∈ nms gs then R k else lo fs k) = R := by
    funext k
    by_cases z : k ∈ nms gs
    · rw [if_pos z]
    · rw [if_neg z, hlo k z]
  rw [hV] at k2
  have hd2 : dictTD [.tup true (flds fs)] = some (dkO (nms fs) (lo fs)) := hd
  have hv : vals ((heads (nms fs) (nms gs)).map fun k => O.fz (R k)) = (heads (nms fs) (nms gs)).map R := by
    rw [show ((heads (nms fs) (nms gs)).map fun k => O.fz (R k)) = (heads (nms fs) (nms gs)).map (O.fz ∘ R) from rfl, vals_comp]
  have hp := pairsD_kys (V := R) (ks := heads (nms fs) (nms gs))
  simp only [g_joined_fields, defSem, frame, sCons, sNil, sIf, sSet, sRet, sDrop, eF, eV, two, aCons, aNil, eC, eVar, eTup, eLst, eItem, eIf, tOf, tAndD, tOrD, tNotD, eAndD, eOrD, eNotD, fixAll, lookAll, ownAll, fix, look, own, give, O.val, vals, treeOf, itemD_lst, itemD_tup, bind_ok, so_ok, then_nx, then_rt, En.put, En.hole, En.at, En.frz, addD_int, subD, mulD_l, mulD_r, modD_of, divD_of, eqD_int, neD_int, eqD_str, neD_str, cmpD, hd2, List.map_cons, List.map_nil, List.cons_append, List.nil_append, List.replicate_succ, List.replicate_zero, List.getElem?_cons_zero, List.getElem?_cons_succ, List.set_cons_succ, List.set_cons_zero, Nat.reduceSub]
  rw [k2]
  unfold dkO
  simp [defSem, frame, sCons, sNil, sIf, sSet, sRet, sDrop, eF, eV, two, aCons, aNil, eC, eVar, eTup, eLst, eItem, eIf, tOf, tAndD, tOrD, tNotD, eAndD, eOrD, eNotD, fixAll, lookAll, ownAll, fix, look, own, give, O.val, vals, treeOf, itemD_lst, itemD_tup, bind_ok, so_ok, then_nx, then_rt, En.put, En.hole, En.at, En.frz, addD_int, subD, mulD_l, mulD_r, modD_of, divD_of, eqD_int, neD_int, eqD_str, neD_str, cmpD, eTupItems, hv, hp]
end K12

set_option Elab.async false
set_option linter.all false
set_option maxRecDepth 100000
set_option maxHeartbeats 4000000
namespace K12
open PySem L2 PySem.Spec PyProof.Rows DL
theorem eComp_any {si : En → Out (List D)} {t : TgS} {tt : En → Out Bool} {f : En → Out Rv} {vs : List Nat} {e e0 : En} {ds : List D} (h : D → Option O) (hsi : si e = .ok ds e0) (hw : e0.wipe vs = e0) (ht : ∀ d ∈ ds, turn1 t tt f vs d e0 = some (h d, e0)) (hl : ds.length ≤ 1000000) :
    eComp si t tt f vs e = .ok (.tm (.lst (ds.filterMap h))) e0 := by
  unfold eComp
  rw [hsi]
  show Out.bind (cloop t tt f vs ds [] (e0.wipe vs)) _ = _
  rw [hw, cloop_map (h := h) ht (by simpa using hl), List.nil_append]
  rfl
theorem getTwo {ks : List Str} {V : Str → D} {x : Str} {e : En} {d : D} {i j : Nat} (h2 : e.sl[i]? = some (some (.ow (dkO ks V)))) (h3 : e.sl[j]? = some (some (.ow (.fz (.str x))))) (hv : (if x ∈ ks then V x else .non) = d) :
    eGet2 (eVar i) (eVar j) (eC .non) e = .ok (.tm (.fz d)) e := by
  have a1 : eVar i e = .ok (.sl i) e := by unfold eVar; rw [h2]; rfl
  have a2 : eVar j e = .ok (.tm (.fz (.str x))) e := eVar_fz h3
  have a3 : treeOf e (.sl i) = some (dkO ks V) := by
    show e.at i = _
    unfold En.at
    rw [h2]
  unfold eGet2
  rw [a1, bind_ok, a3]
  show (eVar j e).bind _ = _
  rw [a2, bind_ok]
  show (match treeOf e (.sl i) with | none => Out.no | some o => match lookO o (.inr x) with | none => .no | some none => Out.ok (Rv.tm (.fz .non)) e | some (some d) => Out.ok (Rv.tm (.fz d)) e) = _
  rw [a3]
  simp only [lookO_dk]
  by_cases h : x ∈ ks
  · rw [if_pos h] at hv ⊢
    rw [hv]
  · rw [if_neg h] at hv ⊢
    rw [hv]
theorem lo_get {fs : List (Str × D)} {k : Str} : (if k ∈ nms fs then lo fs k else .non) = lo fs k := by
  by_cases h : k ∈ nms fs
  · rw [if_pos h]
  · rw [if_neg h, lo_none h]
def strO (ks : List Str) : List O := ks.map fun k => .fz (.str k)
theorem vals_strO {ks : List Str} : vals (strO ks) = ks.map D.str := by
  unfold strO
  rw [vals_eq, List.map_map]
  rfl
theorem inB_names {k : Str} {ks : List Str} : inB (.str k) (.lst (ks.map D.str)) = some (decide (k ∈ ks)) := by
  have h1 : (ks.map D.str).all flatD = true := by
    rw [List.all_eq_true]
    intro d hd
    obtain ⟨x, _, rfl⟩ := List.mem_map.mp hd
    rfl
  have h2 : inSeq (.str k) (ks.map D.str) = decide (k ∈ ks) := by
    unfold inSeq
    rw [Bool.eq_iff_iff, List.any_eq_true, decide_eq_true_eq]
    constructor
    · rintro ⟨d, hd, e⟩
      obtain ⟨x, hx, rfl⟩ := List.mem_map.mp hd
      have : (x == k) = true := e
      rw [beq_iff_eq] at this
      rw [← this]
      exact hx
    · intro h
      exact ⟨.str k, List.mem_map_of_mem h, by show (k == k) = true; rw [beq_self_eq_true]⟩
  show (if flatD (.str k) && (ks.map D.str).all flatD then some (inSeq (.str k) (ks.map D.str)) else none) = _
  rw [h1, h2]
  rfl
theorem flds_len {fs : List (Str × D)} (F : Fls fs) : (flds fs).length ≤ 1000000 := by
  unfold flds
  rw [List.length_map]
  have := F.len
  omega
theorem ev_j1 {fs : List (Str × D)} (F : Fls fs) {x u : D} {s2 s3 s4 s5 s6 : Option Sl} {me : O} : c__law_joined_1 ⟨[some (.ow (.fz (.tup false [.str "record", .tup true (flds fs), x]))), some (.ow (.fz u)), s2, s3, s4, s5, s6, none, none], me⟩ = .ok (.tm (.lst (strO (nms fs)))) ⟨[some (.ow (.fz (.tup false [.str "record", .tup true (flds fs), x]))), some (.ow (.fz u)), s2, s3, s4, s5, s6, none, none], me⟩ := by
  have e : strO (nms fs) = (flds fs).filterMap fun d => match d with | .tup _ (y :: _) => some (O.fz y) | _ => none := by
    unfold strO nms flds
    rw [List.map_map, List.filterMap_map]
    clear F
    induction fs with
    | nil => rfl
    | cons p fs ih => rw [List.map_cons, List.filterMap_cons]; simp only [Function.comp]; rw [← ih]
  rw [e]
  refine eComp_any _ (by simp [itSeq, defSem, frame, sCons, sNil, sIf, sSet, sRet, sDrop, eF, eV, two, aCons, aNil, eC, eVar, eTup, eLst, eItem, eIf, tOf, tAndD, tOrD, tNotD, eAndD, eOrD, eNotD, fixAll, lookAll, ownAll, fix, look, own, give, O.val, vals, treeOf, itemD_lst, itemD_tup, bind_ok, so_ok, then_nx, then_rt, En.put, En.hole, En.at, En.frz, addD_int, subD, mulD_l, mulD_r, modD_of, divD_of, eqD_int, neD_int, eqD_str, neD_str, cmpD, atI_1]) rfl (fun d hd => ?_) (flds_len F)
  obtain ⟨p, _, rfl⟩ := List.mem_map.mp hd
  simp [turn1, gN, gT, gCons', gNil', tYesD, En.wipe, defSem, frame, sCons, sNil, sIf, sSet, sRet, sDrop, eF, eV, two, aCons, aNil, eC, eVar, eTup, eLst, eItem, eIf, tOf, tAndD, tOrD, tNotD, eAndD, eOrD, eNotD, fixAll, lookAll, ownAll, fix, look, own, give, O.val, vals, treeOf, itemD_lst, itemD_tup, bind_ok, so_ok, then_nx, then_rt, En.put, En.hole, En.at, En.frz, addD_int, subD, mulD_l, mulD_r, modD_of, divD_of, eqD_int, neD_int, eqD_str, neD_str, cmpD]
theorem ev_j2 {gs : List (Str × D)} (F : Fls gs) {ks : List Str} {x l : D} {s2 s4 s5 s6 : Option Sl} {me : O} : c__law_joined_2 ⟨[some (.ow (.fz l)), some (.ow (.fz (.tup false [.str "record", .tup true (flds gs), x]))), s2, some (.ow (.lst (strO ks))), s4, s5, s6, none, none], me⟩ = .ok (.tm (.lst (strO ((nms gs).filter fun n => decide (n ∉ ks))))) ⟨[some (.ow (.fz l)), some (.ow (.fz (.tup false [.str "record", .tup true (flds gs), x]))), s2, some (.ow (.lst (strO ks))), s4, s5, s6, none, none], me⟩ := by
  have e : strO ((nms gs).filter fun n => decide (n ∉ ks)) = (flds gs).filterMap fun d => match d with | .tup _ (.str y :: _) => if y ∈ ks then none else some (O.fz (.str y)) | _ => none := by
    unfold strO nms flds
    rw [List.filterMap_map]
    clear F
    induction gs with
    | nil => rfl
    | cons p gs ih =>
      rw [List.map_cons, List.filterMap_cons]
      by_cases h : p.1 ∈ ks
      · rw [List.filter_cons_of_neg (by simpa using h)]
        simp only [Function.comp, if_pos h]
        exact ih
      · rw [List.filter_cons_of_pos (by simpa using h), List.map_cons]
        simp only [Function.comp, if_neg h]
        rw [ih]
  rw [e]
  refine eComp_any _ (by simp [itSeq, defSem, frame, sCons, sNil, sIf, sSet, sRet, sDrop, eF, eV, two, aCons, aNil, eC, eVar, eTup, eLst, eItem, eIf, tOf, tAndD, tOrD, tNotD, eAndD, eOrD, eNotD, fixAll, lookAll, ownAll, fix, look, own, give, O.val, vals, treeOf, itemD_lst, itemD_tup, bind_ok, so_ok, then_nx, then_rt, En.put, En.hole, En.at, En.frz, addD_int, subD, mulD_l, mulD_r, modD_of, divD_of, eqD_int, neD_int, eqD_str, neD_str, cmpD, atI_1]) rfl (fun d hd => ?_) (flds_len F)
  obtain ⟨p, _, rfl⟩ := List.mem_map.mp hd
  by_cases h : p.1 ∈ ks
  · simp [turn1, gN, gT, gCons', gNil', En.wipe, defSem, frame, sCons, sNil, sIf, sSet, sRet, sDrop, eF, eV, two, aCons, aNil, eC, eVar, eTup, eLst, eItem, eIf, tOf, tAndD, tOrD, tNotD, eAndD, eOrD, eNotD, fixAll, lookAll, ownAll, fix, look, own, give, O.val, vals, treeOf, itemD_lst, itemD_tup, bind_ok, so_ok, then_nx, then_rt, En.put, En.hole, En.at, En.frz, addD_int, subD, mulD_l, mulD_r, modD_of, divD_of, eqD_int, neD_int, eqD_str, neD_str, cmpD, notInD, vals_strO, inB_names, h]
  · simp [turn1, gN, gT, gCons', gNil', En.wipe, defSem, frame, sCons, sNil, sIf, sSet, sRet, sDrop, eF, eV, two, aCons, aNil, eC, eVar, eTup, eLst, eItem, eIf, tOf, tAndD, tOrD, tNotD, eAndD, eOrD, eNotD, fixAll, lookAll, ownAll, fix, look, own, give, O.val, vals, treeOf, itemD_lst, itemD_tup, bind_ok, so_ok, then_nx, then_rt, En.put, En.hole, En.at, En.frz, addD_int, subD, mulD_l, mulD_r, modD_of, divD_of, eqD_int, neD_int, eqD_str, neD_str, cmpD, notInD, vals_strO, inB_names, h]
theorem ev_j3 {φ : List D → Res} {fs gs : List (Str × D)} {R : Str → D} {H : List Str} (hR : ∀ k ∈ H, φ [lo fs k, lo gs k] = .ok (.fz (R k))) (hH : H.length ≤ 1000000) {s0 s1 s2 s6 : Option Sl} {me : O} :
    c__law_joined_3 φ ⟨[s0, s1, s2, some (.ow (.lst (strO H))), some (.ow (dkO (nms fs) (lo fs))), some (.ow (dkO (nms gs) (lo gs))), s6, none, none], me⟩ = .ok (.tm (.lst ((outs R H).map O.fz))) ⟨[s0, s1, s2, some (.ow (.fz (.lst (H.map D.str)))), some (.ow (dkO (nms fs) (lo fs))), some (.ow (dkO (nms gs) (lo gs))), s6, none, none], me⟩ := by
  have e : (outs R H).map O.fz = (H.map D.str).filterMap fun d => match d with | .str y => some (O.fz (.tup false [.str y, R y])) | _ => none := by
    unfold outs
    rw [List.map_map, List.filterMap_map]
    clear hR hH
    induction H with
    | nil => rfl
    | cons p fs ih => rw [List.map_cons, List.filterMap_cons]; simp only [Function.comp]; rw [ih]
  rw [e]
  refine eComp_any _ (by simp [itSeq, defSem, frame, sCons, sNil, sIf, sSet, sRet, sDrop, eF, eV, two, aCons, aNil, eC, eVar, eTup, eLst, eItem, eIf, tOf, tAndD, tOrD, tNotD, eAndD, eOrD, eNotD, fixAll, lookAll, ownAll, fix, look, own, give, O.val, vals, treeOf, itemD_lst, itemD_tup, bind_ok, so_ok, then_nx, then_rt, En.put, En.hole, En.at, En.frz, addD_int, subD, mulD_l, mulD_r, modD_of, divD_of, eqD_int, neD_int, eqD_str, neD_str, cmpD, vals_strO]) rfl (fun d hd => ?_) (by rw [List.length_map]; exact hH)
  obtain ⟨k, hk, rfl⟩ := List.mem_map.mp hd
  have hr := hR k hk
  have g1 := getTwo (i := 4) (j := 7) (x := k) (ks := nms fs) (V := lo fs) (e := ⟨[s0, s1, s2, some (.ow (.fz (.lst (H.map D.str)))), some (.ow (dkO (nms fs) (lo fs))), some (.ow (dkO (nms gs) (lo gs))), s6, some (.ow (.fz (.str k))), none], me⟩) rfl rfl lo_get
  have g2 := getTwo (i := 5) (j := 7) (x := k) (ks := nms gs) (V := lo gs) (e := ⟨[s0, s1, s2, some (.ow (.fz (.lst (H.map D.str)))), some (.ow (dkO (nms fs) (lo fs))), some (.ow (dkO (nms gs) (lo gs))), s6, some (.ow (.fz (.str k))), none], me⟩) rfl rfl lo_get
  have hcall : eCall φ (aCons (eGet2 (eVar 4) (eVar 7) (eC .non)) (aCons (eGet2 (eVar 5) (eVar 7) (eC .non)) aNil)) ⟨[s0, s1, s2, some (.ow (.fz (.lst (H.map D.str)))), some (.ow (dkO (nms fs) (lo fs))), some (.ow (dkO (nms gs) (lo gs))), s6, some (.ow (.fz (.str k))), none], me⟩ = .ok (.tm (.fz (R k))) ⟨[s0, s1, s2, some (.ow (.fz (.lst (H.map D.str)))), some (.ow (dkO (nms fs) (lo fs))), some (.ow (dkO (nms gs) (lo gs))), s6, some (.ow (.fz (.str k))), none], me⟩ := by
    unfold eCall aCons aNil
    rw [g1, bind_ok, g2]
    simp [bind_ok, fixAll, fix, own, O.val, hr]
  have hstep : turn1 (gN 7) tYesD (eTup (aCons (eVar 7) (aCons (eCall φ (aCons (eGet2 (eVar 4) (eVar 7) (eC .non)) (aCons (eGet2 (eVar 5) (eVar 7) (eC .non)) aNil))) aNil))) [7] (.str k) ⟨[s0, s1, s2, some (.ow (.fz (.lst (H.map D.str)))), some (.ow (dkO (nms fs) (lo fs))), some (.ow (dkO (nms gs) (lo gs))), s6, none, none], me⟩ = some (some (O.fz (.tup false [.str k, R k])), ⟨[s0, s1, s2, some (.ow (.fz (.lst (H.map D.str)))), some (.ow (dkO (nms fs) (lo fs))), some (.ow (dkO (nms gs) (lo gs))), s6, none, none], me⟩) := by
    generalize eCall φ (aCons (eGet2 (eVar 4) (eVar 7) (eC .non)) (aCons (eGet2 (eVar 5) (eVar 7) (eC .non)) aNil)) = call at hcall ⊢
    simp [turn1, gN, tYesD, En.wipe, eTup, aCons, aNil, eVar, bind_ok, fixAll, fix, own, En.put, En.hole, O.val, hcall]
  exact hstep
end K12

set_option Elab.async false
set_option linter.all false
set_option maxRecDepth 100000
set_option maxHeartbeats 4000000
namespace K12
open PySem L2 PySem.Spec PyProof.Rows DL
theorem ok_is : PyData.strOk (Str.ofString "is") = true := by decide +kernel
theorem q_is_is : (Str.ofString "is" == Str.ofString "is") = true := by decide +kernel
theorem q_is_gone : (Str.ofString "is" == Str.ofString "gone") = false := by decide +kernel
theorem q_is_pile : (Str.ofString "is" == Str.ofString "pile") = false := by decide +kernel
theorem q_is_record : (Str.ofString "is" == Str.ofString "record") = false := by decide +kernel
theorem q_is_make : (Str.ofString "is" == Str.ofString "make") = false := by decide +kernel
theorem ok_gone : PyData.strOk (Str.ofString "gone") = true := by decide +kernel
theorem q_gone_is : (Str.ofString "gone" == Str.ofString "is") = false := by decide +kernel
theorem q_gone_gone : (Str.ofString "gone" == Str.ofString "gone") = true := by decide +kernel
theorem q_gone_pile : (Str.ofString "gone" == Str.ofString "pile") = false := by decide +kernel
theorem q_gone_record : (Str.ofString "gone" == Str.ofString "record") = false := by decide +kernel
theorem q_gone_make : (Str.ofString "gone" == Str.ofString "make") = false := by decide +kernel
theorem ok_pile : PyData.strOk (Str.ofString "pile") = true := by decide +kernel
theorem q_pile_is : (Str.ofString "pile" == Str.ofString "is") = false := by decide +kernel
theorem q_pile_gone : (Str.ofString "pile" == Str.ofString "gone") = false := by decide +kernel
theorem q_pile_pile : (Str.ofString "pile" == Str.ofString "pile") = true := by decide +kernel
theorem q_pile_record : (Str.ofString "pile" == Str.ofString "record") = false := by decide +kernel
theorem q_pile_make : (Str.ofString "pile" == Str.ofString "make") = false := by decide +kernel
theorem ok_record : PyData.strOk (Str.ofString "record") = true := by decide +kernel
theorem q_record_is : (Str.ofString "record" == Str.ofString "is") = false := by decide +kernel
theorem q_record_gone : (Str.ofString "record" == Str.ofString "gone") = false := by decide +kernel
theorem q_record_pile : (Str.ofString "record" == Str.ofString "pile") = false := by decide +kernel
theorem q_record_record : (Str.ofString "record" == Str.ofString "record") = true := by decide +kernel
theorem q_record_make : (Str.ofString "record" == Str.ofString "make") = false := by decide +kernel
theorem ok_make : PyData.strOk (Str.ofString "make") = true := by decide +kernel
theorem q_make_is : (Str.ofString "make" == Str.ofString "is") = false := by decide +kernel
theorem q_make_gone : (Str.ofString "make" == Str.ofString "gone") = false := by decide +kernel
theorem q_make_pile : (Str.ofString "make" == Str.ofString "pile") = false := by decide +kernel
theorem q_make_record : (Str.ofString "make" == Str.ofString "record") = false := by decide +kernel
theorem q_make_make : (Str.ofString "make" == Str.ofString "make") = true := by decide +kernel
theorem eqD_pair {k k' : Bool} {a b c d : Str} (ha : PyData.strOk a = true) (hb : PyData.strOk b = true) (hc : PyData.strOk c = true) (hd : PyData.strOk d = true) : eqD [.tup k [.str a, .str b], .tup k' [.str c, .str d]] = some (.bl (a == c && b == d)) := by
  have h1 : eqOk (.tup k [.str a, .str b]) = true := eqOk_of (by simp [D.fit, fits, ha, hb]) (by simp [D.dep, deps])
  have h2 : eqOk (.tup k' [.str c, .str d]) = true := eqOk_of (by simp [D.fit, fits, hc, hd]) (by simp [D.dep, deps])
  show (if eqOk (.tup k [.str a, .str b]) && eqOk (.tup k' [.str c, .str d]) then some (D.bl (PyData.eqv (D.tup k [.str a, .str b]).pd (D.tup k' [.str c, .str d]).pd)) else none) = _
  rw [h1, h2]
  simp [D.pd, pds, PyData.eqv, PyData.eqvAll]
theorem inD_tags {x a b c : Str} : inD [.str x, .tup false [.str a, .str b, .str c]] = some (.bl (a == x || b == x || c == x)) := by
  show (inB (.str x) (.tup false [.str a, .str b, .str c])).map D.bl = _
  show ((if flatD (.str x) && [D.str a, D.str b, D.str c].all flatD then some (inSeq (.str x) [.str a, .str b, .str c]) else none : Option Bool)).map D.bl = _
  simp [flatD, inSeq, flatEq, Bool.or_assoc]
theorem addD_tup {xs ys : List D} (h : xs.length + ys.length ≤ most) : addD [.tup false xs, .tup false ys] = some (.fz (.tup false (xs ++ ys))) := by
  unfold addD
  simp only
  rw [if_pos h]
theorem cat22 {a b c d : D} : addD [.tup false [a, b], .tup false [c, d]] = some (.fz (.tup false [a, b, c, d])) := by
  rw [addD_tup (by unfold most; simp)]
  rfl
theorem cut2 {a b c d : D} : sliceD (.tup false [a, b, c, d]) (some 2) none = some (.fz (.tup false [c, d])) := rfl
theorem cut02 {a b c d : D} : sliceD (.tup false [a, b, c, d]) none (some 2) = some (.fz (.tup false [a, b])) := rfl
section
variable {φj φf φp φ : List D → Res}
/-! the program's -/
theorem J_none {u : D} {b : Bool} (h : isD [u, .non] = some (.bl b)) (hn : u = .non ∨ b = false) : defSem 2 2 (g_joined φj φf φp) [.non, u] = .ok (.fz u) := by
  rcases hn with rfl | rfl
  · simp [g_joined, defSem, frame, sCons, sNil, sIf, sSet, sRet, sDrop, eF, eV, two, aCons, aNil, eC, eVar, eTup, eLst, eItem, eIf, tOf, tAndD, tOrD, tNotD, eAndD, eOrD, eNotD, fixAll, lookAll, ownAll, fix, look, own, give, O.val, vals, treeOf, itemD_lst, itemD_tup, bind_ok, so_ok, then_nx, then_rt, En.put, En.hole, En.at, En.frz, addD_int, subD, mulD_l, mulD_r, modD_of, divD_of, eqD_int, neD_int, eqD_str, neD_str, cmpD, is_non]
  · simp [g_joined, defSem, frame, sCons, sNil, sIf, sSet, sRet, sDrop, eF, eV, two, aCons, aNil, eC, eVar, eTup, eLst, eItem, eIf, tOf, tAndD, tOrD, tNotD, eAndD, eOrD, eNotD, fixAll, lookAll, ownAll, fix, look, own, give, O.val, vals, treeOf, itemD_lst, itemD_tup, bind_ok, so_ok, then_nx, then_rt, En.put, En.hole, En.at, En.frz, addD_int, subD, mulD_l, mulD_r, modD_of, divD_of, eqD_int, neD_int, eqD_str, neD_str, cmpD, is_non, h]
theorem J_low {k : Bool} {l : List D} : defSem 2 2 (g_joined φj φf φp) [.tup k l, .non] = .ok (.fz (.tup k l)) := by
  simp [g_joined, defSem, frame, sCons, sNil, sIf, sSet, sRet, sDrop, eF, eV, two, aCons, aNil, eC, eVar, eTup, eLst, eItem, eIf, tOf, tAndD, tOrD, tNotD, eAndD, eOrD, eNotD, fixAll, lookAll, ownAll, fix, look, own, give, O.val, vals, treeOf, itemD_lst, itemD_tup, bind_ok, so_ok, then_nx, then_rt, En.put, En.hole, En.at, En.frz, addD_int, subD, mulD_l, mulD_r, modD_of, divD_of, eqD_int, neD_int, eqD_str, neD_str, cmpD, is_non, is_tup]
theorem J_pile {k k' : Bool} {l us : List D} {r : D} (h : φp [.tup k l, .tup k' (.str "pile" :: us)] = .ok (.fz r)) : defSem 2 2 (g_joined φj φf φp) [.tup k l, .tup k' (.str "pile" :: us)] = .ok (.fz r) := by
  simp [g_joined, defSem, frame, sCons, sNil, sIf, sSet, sRet, sDrop, eF, eV, two, aCons, aNil, eC, eVar, eTup, eLst, eItem, eIf, tOf, tAndD, tOrD, tNotD, eAndD, eOrD, eNotD, fixAll, lookAll, ownAll, fix, look, own, give, O.val, vals, treeOf, itemD_lst, itemD_tup, bind_ok, so_ok, then_nx, then_rt, En.put, En.hole, En.at, En.frz, addD_int, subD, mulD_l, mulD_r, modD_of, divD_of, eqD_int, neD_int, eqD_str, neD_str, cmpD, is_non, is_tup, atI_0, eCall, h, ok_is, ok_gone, ok_pile, ok_record, ok_make, q_is_is, q_is_gone, q_is_pile, q_is_record, q_is_make, q_gone_is, q_gone_gone, q_gone_pile, q_gone_record, q_gone_make, q_pile_is, q_pile_gone, q_pile_pile, q_pile_record, q_pile_make, q_record_is, q_record_gone, q_record_pile, q_record_record, q_record_make, q_make_is, q_make_gone, q_make_pile, q_make_record, q_make_make]
theorem J_plain {k k' : Bool} {l us : List D} {t : Str} (h1 : (t == Str.ofString "pile") = false) (h2 : (t != Str.ofString "record") = true) : defSem 2 2 (g_joined φj φf φp) [.tup k l, .tup k' (.str t :: us)] = .ok (.fz (.tup k' (.str t :: us))) := by
  simp [g_joined, defSem, frame, sCons, sNil, sIf, sSet, sRet, sDrop, eF, eV, two, aCons, aNil, eC, eVar, eTup, eLst, eItem, eIf, tOf, tAndD, tOrD, tNotD, eAndD, eOrD, eNotD, fixAll, lookAll, ownAll, fix, look, own, give, O.val, vals, treeOf, itemD_lst, itemD_tup, bind_ok, so_ok, then_nx, then_rt, En.put, En.hole, En.at, En.frz, addD_int, subD, mulD_l, mulD_r, modD_of, divD_of, eqD_int, neD_int, eqD_str, neD_str, cmpD, is_non, is_tup, atI_0, h1, h2, ok_is, ok_gone, ok_pile, ok_record, ok_make, q_is_is, q_is_gone, q_is_pile, q_is_record, q_is_make, q_gone_is, q_gone_gone, q_gone_pile, q_gone_record, q_gone_make, q_pile_is, q_pile_gone, q_pile_pile, q_pile_record, q_pile_make, q_record_is, q_record_gone, q_record_pile, q_record_record, q_record_make, q_make_is, q_make_gone, q_make_pile, q_make_record, q_make_make]
theorem J_fresh {k k' : Bool} {l : List D} {f : D} : defSem 2 2 (g_joined φj φf φp) [.tup k l, .tup k' [.str "record", f, .bl true]] = .ok (.fz (.tup k' [.str "record", f, .bl true])) := by
  simp [g_joined, defSem, frame, sCons, sNil, sIf, sSet, sRet, sDrop, eF, eV, two, aCons, aNil, eC, eVar, eTup, eLst, eItem, eIf, tOf, tAndD, tOrD, tNotD, eAndD, eOrD, eNotD, fixAll, lookAll, ownAll, fix, look, own, give, O.val, vals, treeOf, itemD_lst, itemD_tup, bind_ok, so_ok, then_nx, then_rt, En.put, En.hole, En.at, En.frz, addD_int, subD, mulD_l, mulD_r, modD_of, divD_of, eqD_int, neD_int, eqD_str, neD_str, cmpD, is_non, is_tup, atI_0, atI_2, bne, ok_is, ok_gone, ok_pile, ok_record, ok_make, q_is_is, q_is_gone, q_is_pile, q_is_record, q_is_make, q_gone_is, q_gone_gone, q_gone_pile, q_gone_record, q_gone_make, q_pile_is, q_pile_gone, q_pile_pile, q_pile_record, q_pile_make, q_record_is, q_record_gone, q_record_pile, q_record_record, q_record_make, q_make_is, q_make_gone, q_make_pile, q_make_record, q_make_make]
theorem J_rec {k k' : Bool} {f f' x r : D} (h : φf [f, f'] = .ok (.fz r)) : defSem 2 2 (g_joined φj φf φp) [.tup k [.str "record", f, x], .tup k' [.str "record", f', .bl false]] = .ok (.fz (.tup false [.str "record", r, x])) := by
  simp [g_joined, defSem, frame, sCons, sNil, sIf, sSet, sRet, sDrop, eF, eV, two, aCons, aNil, eC, eVar, eTup, eLst, eItem, eIf, tOf, tAndD, tOrD, tNotD, eAndD, eOrD, eNotD, fixAll, lookAll, ownAll, fix, look, own, give, O.val, vals, treeOf, itemD_lst, itemD_tup, bind_ok, so_ok, then_nx, then_rt, En.put, En.hole, En.at, En.frz, addD_int, subD, mulD_l, mulD_r, modD_of, divD_of, eqD_int, neD_int, eqD_str, neD_str, cmpD, is_non, is_tup, atI_0, atI_1, atI_2, bne, eCall, h, ok_is, ok_gone, ok_pile, ok_record, ok_make, q_is_is, q_is_gone, q_is_pile, q_is_record, q_is_make, q_gone_is, q_gone_gone, q_gone_pile, q_gone_record, q_gone_make, q_pile_is, q_pile_gone, q_pile_pile, q_pile_record, q_pile_make, q_record_is, q_record_gone, q_record_pile, q_record_record, q_record_make, q_make_is, q_make_gone, q_make_pile, q_make_record, q_make_make]
theorem J_make {k k' : Bool} {p m x f' r : D} (h : φj [x, .tup k' [.str "record", f', .bl false]] = .ok (.fz r)) : defSem 2 2 (g_joined φj φf φp) [.tup k [.str "make", p, x, m], .tup k' [.str "record", f', .bl false]] = .ok (.fz (.tup false [.str "make", p, r, m])) := by
  simp [g_joined, defSem, frame, sCons, sNil, sIf, sSet, sRet, sDrop, eF, eV, two, aCons, aNil, eC, eVar, eTup, eLst, eItem, eIf, tOf, tAndD, tOrD, tNotD, eAndD, eOrD, eNotD, fixAll, lookAll, ownAll, fix, look, own, give, O.val, vals, treeOf, itemD_lst, itemD_tup, bind_ok, so_ok, then_nx, then_rt, En.put, En.hole, En.at, En.frz, addD_int, subD, mulD_l, mulD_r, modD_of, divD_of, eqD_int, neD_int, eqD_str, neD_str, cmpD, is_non, is_tup, atI_0, atI_1, atI_2, atI_3, bne, eCall, h, ok_is, ok_gone, ok_pile, ok_record, ok_make, q_is_is, q_is_gone, q_is_pile, q_is_record, q_is_make, q_gone_is, q_gone_gone, q_gone_pile, q_gone_record, q_gone_make, q_pile_is, q_pile_gone, q_pile_pile, q_pile_record, q_pile_make, q_record_is, q_record_gone, q_record_pile, q_record_record, q_record_make, q_make_is, q_make_gone, q_make_pile, q_make_record, q_make_make]
theorem J_other {k k' : Bool} {l : List D} {t : Str} {f' : D} (h1 : (t == Str.ofString "record") = false) (h2 : (t == Str.ofString "make") = false) : defSem 2 2 (g_joined φj φf φp) [.tup k (.str t :: l), .tup k' [.str "record", f', .bl false]] = .ok (.fz (.tup false [.str "record", f', .bl true])) := by
  simp [g_joined, defSem, frame, sCons, sNil, sIf, sSet, sRet, sDrop, eF, eV, two, aCons, aNil, eC, eVar, eTup, eLst, eItem, eIf, tOf, tAndD, tOrD, tNotD, eAndD, eOrD, eNotD, fixAll, lookAll, ownAll, fix, look, own, give, O.val, vals, treeOf, itemD_lst, itemD_tup, bind_ok, so_ok, then_nx, then_rt, En.put, En.hole, En.at, En.frz, addD_int, subD, mulD_l, mulD_r, modD_of, divD_of, eqD_int, neD_int, eqD_str, neD_str, cmpD, is_non, is_tup, atI_0, atI_1, atI_2, bne, h1, h2, ok_is, ok_gone, ok_pile, ok_record, ok_make, q_is_is, q_is_gone, q_is_pile, q_is_record, q_is_make, q_gone_is, q_gone_gone, q_gone_pile, q_gone_record, q_gone_make, q_pile_is, q_pile_gone, q_pile_pile, q_pile_record, q_pile_make, q_record_is, q_record_gone, q_record_pile, q_record_record, q_record_make, q_make_is, q_make_gone, q_make_pile, q_make_record, q_make_make]
theorem P_deep {k : Bool} {l b a c r : D} {kb : Bool} {bs : List D} (hb : b = .tup kb bs) (h : φj [l, b] = .ok (.fz r)) : defSem 6 2 (g_piled φj) [l, .tup k [.str "pile", b, a, c]] = .ok (.fz (.tup false [.str "pile", r, a, c])) := by
  subst hb
  simp [g_piled, defSem, frame, sCons, sNil, sIf, sSet, sRet, sDrop, eF, eV, two, aCons, aNil, eC, eVar, eTup, eLst, eItem, eIf, tOf, tAndD, tOrD, tNotD, eAndD, eOrD, eNotD, fixAll, lookAll, ownAll, fix, look, own, give, O.val, vals, treeOf, itemD_lst, itemD_tup, bind_ok, so_ok, then_nx, then_rt, En.put, En.hole, En.at, En.frz, addD_int, subD, mulD_l, mulD_r, modD_of, divD_of, eqD_int, neD_int, eqD_str, neD_str, cmpD, gT, gCons', gN, gNil', sAsg, isnt_tup, eCall, h, ok_is, ok_gone, ok_pile, ok_record, ok_make, q_is_is, q_is_gone, q_is_pile, q_is_record, q_is_make, q_gone_is, q_gone_gone, q_gone_pile, q_gone_record, q_gone_make, q_pile_is, q_pile_gone, q_pile_pile, q_pile_record, q_pile_make, q_record_is, q_record_gone, q_record_pile, q_record_record, q_record_make, q_make_is, q_make_gone, q_make_pile, q_make_record, q_make_make]
theorem P_two {k k' : Bool} {l1 l2 l3 a c : List D} {x : D} (h2 : a.length + l2.length ≤ most) (h3 : l3.length + c.length ≤ most) : defSem 6 2 (g_piled φj) [.tup k' [.str "pile", x, .tup false l2, .tup false l3], .tup k [.str "pile", .non, .tup false a, .tup false c]] = .ok (.fz (.tup false [.str "pile", x, .tup false (a ++ l2), .tup false (l3 ++ c)])) := by
  simp [g_piled, defSem, frame, sCons, sNil, sIf, sSet, sRet, sDrop, eF, eV, two, aCons, aNil, eC, eVar, eTup, eLst, eItem, eIf, tOf, tAndD, tOrD, tNotD, eAndD, eOrD, eNotD, fixAll, lookAll, ownAll, fix, look, own, give, O.val, vals, treeOf, itemD_lst, itemD_tup, bind_ok, so_ok, then_nx, then_rt, En.put, En.hole, En.at, En.frz, addD_int, subD, mulD_l, mulD_r, modD_of, divD_of, eqD_int, neD_int, eqD_str, neD_str, cmpD, gT, gCons', gN, gNil', sAsg, isnt_non, atI_0, atI_1, atI_2, atI_3, addD_tup h2, addD_tup h3, ok_is, ok_gone, ok_pile, ok_record, ok_make, q_is_is, q_is_gone, q_is_pile, q_is_record, q_is_make, q_gone_is, q_gone_gone, q_gone_pile, q_gone_record, q_gone_make, q_pile_is, q_pile_gone, q_pile_pile, q_pile_record, q_pile_make, q_record_is, q_record_gone, q_record_pile, q_record_record, q_record_make, q_make_is, q_make_gone, q_make_pile, q_make_record, q_make_make]
theorem P_one {k k' : Bool} {l : List D} {t : Str} {a c : D} (h1 : (t == Str.ofString "pile") = false) : defSem 6 2 (g_piled φj) [.tup k' (.str t :: l), .tup k [.str "pile", .non, a, c]] = .ok (.fz (.tup false [.str "pile", .tup k' (.str t :: l), a, c])) := by
  simp [g_piled, defSem, frame, sCons, sNil, sIf, sSet, sRet, sDrop, eF, eV, two, aCons, aNil, eC, eVar, eTup, eLst, eItem, eIf, tOf, tAndD, tOrD, tNotD, eAndD, eOrD, eNotD, fixAll, lookAll, ownAll, fix, look, own, give, O.val, vals, treeOf, itemD_lst, itemD_tup, bind_ok, so_ok, then_nx, then_rt, En.put, En.hole, En.at, En.frz, addD_int, subD, mulD_l, mulD_r, modD_of, divD_of, eqD_int, neD_int, eqD_str, neD_str, cmpD, gT, gCons', gN, gNil', sAsg, isnt_non, atI_0, h1, ok_is, ok_gone, ok_pile, ok_record, ok_make, q_is_is, q_is_gone, q_is_pile, q_is_record, q_is_make, q_gone_is, q_gone_gone, q_gone_pile, q_gone_record, q_gone_make, q_pile_is, q_pile_gone, q_pile_pile, q_pile_record, q_pile_make, q_record_is, q_record_gone, q_record_pile, q_record_record, q_record_make, q_make_is, q_make_gone, q_make_pile, q_make_record, q_make_make]
/-! the law's -/
theorem L_none {u : D} : defSem 9 2 (g__law_joined φ) [.non, u] = .ok (.fz u) := by
  simp [g__law_joined, r__law_joined_4_k, at_k, put_k, hole_k, frz_k, own_tm_k, own_sl_k, own_me_k, look_tm_k, look_sl_k, look_me_k, fix_k, give_tm_k, give_sl_k, give_me_k, fixAll_nil_k, fixAll_cons_k, lookAll_nil_k, lookAll_cons_k, ownAll_nil_k, ownAll_cons_k, tree_tm_k, tree_sl_k, tree_me_k, gN_k, gNil_k, gCons_k, gT_k, isLst_k, isDkOwn_k, val_fz_k, val_lst_k, val_dK_k, defSem_k, eVar_k, eC_k, aNil_k, aCons_k, eV_k, eF_k, two_k, tOf_k, tAndD_k, tOrD_k, tNotD_k, eIf_k, eAndD_k, eOrD_k, eNotD_k, eCall_k, eLst_k, eTup_k, eTupK_k, sNil_k, sCons_k, sBreak_k, sCont_k, sIf_k, sSet_k, sRet_k, sRetN_k, sDrop_k, sAsg_k, itSeq_k, itRange1_k, itRange2_k, sFor_k, tYesD_k, eItem_k, pNone_k, pSome_k, eSlice_k, eM1_k, eGet1_k, eGet2_k, sPutK_k, sAppend_k, sSetI_k, eTupItems_k, bind_ok_k, bind_ex_k, so_ok_k, so_ex_k, then_nx_k, then_rt_k, then_ex_k, then_bk_k, then_ct_k, addD_int_k, subD_k, negD_k, eqD_str_k, neD_str_k, cmpD_k, item_lst_k, item_tup_k, isnt_tup_k, isnt_non_k, is_tup_k, is_non_k, vals_nil_k, vals_cons_k, mulD_l, mulD_r, modD_of, divD_of, eqD_int, neD_int, List.map_cons, List.map_nil, List.cons_append, List.nil_append, is_non]
theorem L_low {k : Bool} {l : List D} : defSem 9 2 (g__law_joined φ) [.tup k l, .non] = .ok (.fz (.tup k l)) := by
  simp [g__law_joined, r__law_joined_4_k, at_k, put_k, hole_k, frz_k, own_tm_k, own_sl_k, own_me_k, look_tm_k, look_sl_k, look_me_k, fix_k, give_tm_k, give_sl_k, give_me_k, fixAll_nil_k, fixAll_cons_k, lookAll_nil_k, lookAll_cons_k, ownAll_nil_k, ownAll_cons_k, tree_tm_k, tree_sl_k, tree_me_k, gN_k, gNil_k, gCons_k, gT_k, isLst_k, isDkOwn_k, val_fz_k, val_lst_k, val_dK_k, defSem_k, eVar_k, eC_k, aNil_k, aCons_k, eV_k, eF_k, two_k, tOf_k, tAndD_k, tOrD_k, tNotD_k, eIf_k, eAndD_k, eOrD_k, eNotD_k, eCall_k, eLst_k, eTup_k, eTupK_k, sNil_k, sCons_k, sBreak_k, sCont_k, sIf_k, sSet_k, sRet_k, sRetN_k, sDrop_k, sAsg_k, itSeq_k, itRange1_k, itRange2_k, sFor_k, tYesD_k, eItem_k, pNone_k, pSome_k, eSlice_k, eM1_k, eGet1_k, eGet2_k, sPutK_k, sAppend_k, sSetI_k, eTupItems_k, bind_ok_k, bind_ex_k, so_ok_k, so_ex_k, then_nx_k, then_rt_k, then_ex_k, then_bk_k, then_ct_k, addD_int_k, subD_k, negD_k, eqD_str_k, neD_str_k, cmpD_k, item_lst_k, item_tup_k, isnt_tup_k, isnt_non_k, is_tup_k, is_non_k, vals_nil_k, vals_cons_k, mulD_l, mulD_r, modD_of, divD_of, eqD_int, neD_int, List.map_cons, List.map_nil, List.cons_append, List.nil_append, is_non, is_tup]
theorem L_deep {k kb : Bool} {l bs : List D} {t : Str} {a c r : D} (h : φ [.tup k (.str t :: l), .tup kb bs] = .ok (.fz r)) : defSem 9 2 (g__law_joined φ) [.tup k (.str t :: l), .tup false [.str "pile", .tup kb bs, a, c]] = .ok (.fz (.tup false [.str "pile", r, a, c])) := by
  simp [g__law_joined, r__law_joined_4_k, at_k, put_k, hole_k, frz_k, own_tm_k, own_sl_k, own_me_k, look_tm_k, look_sl_k, look_me_k, fix_k, give_tm_k, give_sl_k, give_me_k, fixAll_nil_k, fixAll_cons_k, lookAll_nil_k, lookAll_cons_k, ownAll_nil_k, ownAll_cons_k, tree_tm_k, tree_sl_k, tree_me_k, gN_k, gNil_k, gCons_k, gT_k, isLst_k, isDkOwn_k, val_fz_k, val_lst_k, val_dK_k, defSem_k, eVar_k, eC_k, aNil_k, aCons_k, eV_k, eF_k, two_k, tOf_k, tAndD_k, tOrD_k, tNotD_k, eIf_k, eAndD_k, eOrD_k, eNotD_k, eCall_k, eLst_k, eTup_k, eTupK_k, sNil_k, sCons_k, sBreak_k, sCont_k, sIf_k, sSet_k, sRet_k, sRetN_k, sDrop_k, sAsg_k, itSeq_k, itRange1_k, itRange2_k, sFor_k, tYesD_k, eItem_k, pNone_k, pSome_k, eSlice_k, eM1_k, eGet1_k, eGet2_k, sPutK_k, sAppend_k, sSetI_k, eTupItems_k, bind_ok_k, bind_ex_k, so_ok_k, so_ex_k, then_nx_k, then_rt_k, then_ex_k, then_bk_k, then_ct_k, addD_int_k, subD_k, negD_k, eqD_str_k, neD_str_k, cmpD_k, item_lst_k, item_tup_k, isnt_tup_k, isnt_non_k, is_tup_k, is_non_k, vals_nil_k, vals_cons_k, mulD_l, mulD_r, modD_of, divD_of, eqD_int, neD_int, List.map_cons, List.map_nil, List.cons_append, List.nil_append, atI_0, atI_1, eCall, h, eSlice, pSome, pNone, cut2, cat22, ok_is, ok_gone, ok_pile, ok_record, ok_make, q_is_is, q_is_gone, q_is_pile, q_is_record, q_is_make, q_gone_is, q_gone_gone, q_gone_pile, q_gone_record, q_gone_make, q_pile_is, q_pile_gone, q_pile_pile, q_pile_record, q_pile_make, q_record_is, q_record_gone, q_record_pile, q_record_record, q_record_make, q_make_is, q_make_gone, q_make_pile, q_make_record, q_make_make]
theorem L_two {l2 l3 a c : List D} {x : D} (h2 : a.length + l2.length ≤ most) (h3 : l3.length + c.length ≤ most) : defSem 9 2 (g__law_joined φ) [.tup false [.str "pile", x, .tup false l2, .tup false l3], .tup false [.str "pile", .non, .tup false a, .tup false c]] = .ok (.fz (.tup false [.str "pile", x, .tup false (a ++ l2), .tup false (l3 ++ c)])) := by
  simp [g__law_joined, r__law_joined_4_k, at_k, put_k, hole_k, frz_k, own_tm_k, own_sl_k, own_me_k, look_tm_k, look_sl_k, look_me_k, fix_k, give_tm_k, give_sl_k, give_me_k, fixAll_nil_k, fixAll_cons_k, lookAll_nil_k, lookAll_cons_k, ownAll_nil_k, ownAll_cons_k, tree_tm_k, tree_sl_k, tree_me_k, gN_k, gNil_k, gCons_k, gT_k, isLst_k, isDkOwn_k, val_fz_k, val_lst_k, val_dK_k, defSem_k, eVar_k, eC_k, aNil_k, aCons_k, eV_k, eF_k, two_k, tOf_k, tAndD_k, tOrD_k, tNotD_k, eIf_k, eAndD_k, eOrD_k, eNotD_k, eCall_k, eLst_k, eTup_k, eTupK_k, sNil_k, sCons_k, sBreak_k, sCont_k, sIf_k, sSet_k, sRet_k, sRetN_k, sDrop_k, sAsg_k, itSeq_k, itRange1_k, itRange2_k, sFor_k, tYesD_k, eItem_k, pNone_k, pSome_k, eSlice_k, eM1_k, eGet1_k, eGet2_k, sPutK_k, sAppend_k, sSetI_k, eTupItems_k, bind_ok_k, bind_ex_k, so_ok_k, so_ex_k, then_nx_k, then_rt_k, then_ex_k, then_bk_k, then_ct_k, addD_int_k, subD_k, negD_k, eqD_str_k, neD_str_k, cmpD_k, item_lst_k, item_tup_k, isnt_tup_k, isnt_non_k, is_tup_k, is_non_k, vals_nil_k, vals_cons_k, mulD_l, mulD_r, modD_of, divD_of, eqD_int, neD_int, List.map_cons, List.map_nil, List.cons_append, List.nil_append, atI_0, atI_1, atI_2, atI_3, eqD_pair, addD_tup h2, addD_tup h3, ok_is, ok_gone, ok_pile, ok_record, ok_make, q_is_is, q_is_gone, q_is_pile, q_is_record, q_is_make, q_gone_is, q_gone_gone, q_gone_pile, q_gone_record, q_gone_make, q_pile_is, q_pile_gone, q_pile_pile, q_pile_record, q_pile_make, q_record_is, q_record_gone, q_record_pile, q_record_record, q_record_make, q_make_is, q_make_gone, q_make_pile, q_make_record, q_make_make]
theorem L_one {k : Bool} {l : List D} {t : Str} {a c : D} (h0 : PyData.strOk t = true) (h1 : (t == Str.ofString "pile") = false) : defSem 9 2 (g__law_joined φ) [.tup k (.str t :: l), .tup false [.str "pile", .non, a, c]] = .ok (.fz (.tup false [.str "pile", .tup k (.str t :: l), a, c])) := by
  simp [g__law_joined, r__law_joined_4_k, at_k, put_k, hole_k, frz_k, own_tm_k, own_sl_k, own_me_k, look_tm_k, look_sl_k, look_me_k, fix_k, give_tm_k, give_sl_k, give_me_k, fixAll_nil_k, fixAll_cons_k, lookAll_nil_k, lookAll_cons_k, ownAll_nil_k, ownAll_cons_k, tree_tm_k, tree_sl_k, tree_me_k, gN_k, gNil_k, gCons_k, gT_k, isLst_k, isDkOwn_k, val_fz_k, val_lst_k, val_dK_k, defSem_k, eVar_k, eC_k, aNil_k, aCons_k, eV_k, eF_k, two_k, tOf_k, tAndD_k, tOrD_k, tNotD_k, eIf_k, eAndD_k, eOrD_k, eNotD_k, eCall_k, eLst_k, eTup_k, eTupK_k, sNil_k, sCons_k, sBreak_k, sCont_k, sIf_k, sSet_k, sRet_k, sRetN_k, sDrop_k, sAsg_k, itSeq_k, itRange1_k, itRange2_k, sFor_k, tYesD_k, eItem_k, pNone_k, pSome_k, eSlice_k, eM1_k, eGet1_k, eGet2_k, sPutK_k, sAppend_k, sSetI_k, eTupItems_k, bind_ok_k, bind_ex_k, so_ok_k, so_ex_k, then_nx_k, then_rt_k, then_ex_k, then_bk_k, then_ct_k, addD_int_k, subD_k, negD_k, eqD_str_k, neD_str_k, cmpD_k, item_lst_k, item_tup_k, isnt_tup_k, isnt_non_k, is_tup_k, is_non_k, vals_nil_k, vals_cons_k, mulD_l, mulD_r, modD_of, divD_of, eqD_int, neD_int, List.map_cons, List.map_nil, List.cons_append, List.nil_append, atI_0, atI_1, atI_2, atI_3, eqD_pair, h0, h1, eSlice, pSome, pNone, cut2, cat22, ok_is, ok_gone, ok_pile, ok_record, ok_make, q_is_is, q_is_gone, q_is_pile, q_is_record, q_is_make, q_gone_is, q_gone_gone, q_gone_pile, q_gone_record, q_gone_make, q_pile_is, q_pile_gone, q_pile_pile, q_pile_record, q_pile_make, q_record_is, q_record_gone, q_record_pile, q_record_record, q_record_make, q_make_is, q_make_gone, q_make_pile, q_make_record, q_make_make]
theorem L_plain {k k' : Bool} {l us : List D} {t v : Str} (h0 : PyData.strOk t = true) (h1 : PyData.strOk v = true) (h2 : (v == Str.ofString "pile") = false) (h3 : inD [.str v, .tup false [.str "is", .str "gone", .str "make"]] = some (.bl true)) : defSem 9 2 (g__law_joined φ) [.tup k (.str t :: l), .tup k' (.str v :: us)] = .ok (.fz (.tup k' (.str v :: us))) := by
  simp [g__law_joined, r__law_joined_4_k, at_k, put_k, hole_k, frz_k, own_tm_k, own_sl_k, own_me_k, look_tm_k, look_sl_k, look_me_k, fix_k, give_tm_k, give_sl_k, give_me_k, fixAll_nil_k, fixAll_cons_k, lookAll_nil_k, lookAll_cons_k, ownAll_nil_k, ownAll_cons_k, tree_tm_k, tree_sl_k, tree_me_k, gN_k, gNil_k, gCons_k, gT_k, isLst_k, isDkOwn_k, val_fz_k, val_lst_k, val_dK_k, defSem_k, eVar_k, eC_k, aNil_k, aCons_k, eV_k, eF_k, two_k, tOf_k, tAndD_k, tOrD_k, tNotD_k, eIf_k, eAndD_k, eOrD_k, eNotD_k, eCall_k, eLst_k, eTup_k, eTupK_k, sNil_k, sCons_k, sBreak_k, sCont_k, sIf_k, sSet_k, sRet_k, sRetN_k, sDrop_k, sAsg_k, itSeq_k, itRange1_k, itRange2_k, sFor_k, tYesD_k, eItem_k, pNone_k, pSome_k, eSlice_k, eM1_k, eGet1_k, eGet2_k, sPutK_k, sAppend_k, sSetI_k, eTupItems_k, bind_ok_k, bind_ex_k, so_ok_k, so_ex_k, then_nx_k, then_rt_k, then_ex_k, then_bk_k, then_ct_k, addD_int_k, subD_k, negD_k, eqD_str_k, neD_str_k, cmpD_k, item_lst_k, item_tup_k, isnt_tup_k, isnt_non_k, is_tup_k, is_non_k, vals_nil_k, vals_cons_k, mulD_l, mulD_r, modD_of, divD_of, eqD_int, neD_int, List.map_cons, List.map_nil, List.cons_append, List.nil_append, atI_0, atI_1, eqD_pair, h0, h1, h2, h3, ok_is, ok_gone, ok_pile, ok_record, ok_make, q_is_is, q_is_gone, q_is_pile, q_is_record, q_is_make, q_gone_is, q_gone_gone, q_gone_pile, q_gone_record, q_gone_make, q_pile_is, q_pile_gone, q_pile_pile, q_pile_record, q_pile_make, q_record_is, q_record_gone, q_record_pile, q_record_record, q_record_make, q_make_is, q_make_gone, q_make_pile, q_make_record, q_make_make]
theorem L_fresh {k k' : Bool} {l : List D} {t : Str} {f : D} (h0 : PyData.strOk t = true) : defSem 9 2 (g__law_joined φ) [.tup k (.str t :: l), .tup k' [.str "record", f, .bl true]] = .ok (.fz (.tup k' [.str "record", f, .bl true])) := by
  simp [g__law_joined, r__law_joined_4_k, at_k, put_k, hole_k, frz_k, own_tm_k, own_sl_k, own_me_k, look_tm_k, look_sl_k, look_me_k, fix_k, give_tm_k, give_sl_k, give_me_k, fixAll_nil_k, fixAll_cons_k, lookAll_nil_k, lookAll_cons_k, ownAll_nil_k, ownAll_cons_k, tree_tm_k, tree_sl_k, tree_me_k, gN_k, gNil_k, gCons_k, gT_k, isLst_k, isDkOwn_k, val_fz_k, val_lst_k, val_dK_k, defSem_k, eVar_k, eC_k, aNil_k, aCons_k, eV_k, eF_k, two_k, tOf_k, tAndD_k, tOrD_k, tNotD_k, eIf_k, eAndD_k, eOrD_k, eNotD_k, eCall_k, eLst_k, eTup_k, eTupK_k, sNil_k, sCons_k, sBreak_k, sCont_k, sIf_k, sSet_k, sRet_k, sRetN_k, sDrop_k, sAsg_k, itSeq_k, itRange1_k, itRange2_k, sFor_k, tYesD_k, eItem_k, pNone_k, pSome_k, eSlice_k, eM1_k, eGet1_k, eGet2_k, sPutK_k, sAppend_k, sSetI_k, eTupItems_k, bind_ok_k, bind_ex_k, so_ok_k, so_ex_k, then_nx_k, then_rt_k, then_ex_k, then_bk_k, then_ct_k, addD_int_k, subD_k, negD_k, eqD_str_k, neD_str_k, cmpD_k, item_lst_k, item_tup_k, isnt_tup_k, isnt_non_k, is_tup_k, is_non_k, vals_nil_k, vals_cons_k, mulD_l, mulD_r, modD_of, divD_of, eqD_int, neD_int, List.map_cons, List.map_nil, List.cons_append, List.nil_append, atI_0, atI_1, atI_2, eqD_pair, inD_tags, h0, ok_is, ok_gone, ok_pile, ok_record, ok_make, q_is_is, q_is_gone, q_is_pile, q_is_record, q_is_make, q_gone_is, q_gone_gone, q_gone_pile, q_gone_record, q_gone_make, q_pile_is, q_pile_gone, q_pile_pile, q_pile_record, q_pile_make, q_record_is, q_record_gone, q_record_pile, q_record_record, q_record_make, q_make_is, q_make_gone, q_make_pile, q_make_record, q_make_make]
theorem L_make {k' : Bool} {p m x f' r : D} (h : φ [x, .tup k' [.str "record", f', .bl false]] = .ok (.fz r)) : defSem 9 2 (g__law_joined φ) [.tup false [.str "make", p, x, m], .tup k' [.str "record", f', .bl false]] = .ok (.fz (.tup false [.str "make", p, r, m])) := by
  simp [g__law_joined, r__law_joined_4_k, at_k, put_k, hole_k, frz_k, own_tm_k, own_sl_k, own_me_k, look_tm_k, look_sl_k, look_me_k, fix_k, give_tm_k, give_sl_k, give_me_k, fixAll_nil_k, fixAll_cons_k, lookAll_nil_k, lookAll_cons_k, ownAll_nil_k, ownAll_cons_k, tree_tm_k, tree_sl_k, tree_me_k, gN_k, gNil_k, gCons_k, gT_k, isLst_k, isDkOwn_k, val_fz_k, val_lst_k, val_dK_k, defSem_k, eVar_k, eC_k, aNil_k, aCons_k, eV_k, eF_k, two_k, tOf_k, tAndD_k, tOrD_k, tNotD_k, eIf_k, eAndD_k, eOrD_k, eNotD_k, eCall_k, eLst_k, eTup_k, eTupK_k, sNil_k, sCons_k, sBreak_k, sCont_k, sIf_k, sSet_k, sRet_k, sRetN_k, sDrop_k, sAsg_k, itSeq_k, itRange1_k, itRange2_k, sFor_k, tYesD_k, eItem_k, pNone_k, pSome_k, eSlice_k, eM1_k, eGet1_k, eGet2_k, sPutK_k, sAppend_k, sSetI_k, eTupItems_k, bind_ok_k, bind_ex_k, so_ok_k, so_ex_k, then_nx_k, then_rt_k, then_ex_k, then_bk_k, then_ct_k, addD_int_k, subD_k, negD_k, eqD_str_k, neD_str_k, cmpD_k, item_lst_k, item_tup_k, isnt_tup_k, isnt_non_k, is_tup_k, is_non_k, vals_nil_k, vals_cons_k, mulD_l, mulD_r, modD_of, divD_of, eqD_int, neD_int, List.map_cons, List.map_nil, List.cons_append, List.nil_append, atI_0, atI_1, atI_2, atI_3, eqD_pair, inD_tags, eCall, h, eSlice, pSome, pNone, cut02, cat22, ok_is, ok_gone, ok_pile, ok_record, ok_make, q_is_is, q_is_gone, q_is_pile, q_is_record, q_is_make, q_gone_is, q_gone_gone, q_gone_pile, q_gone_record, q_gone_make, q_pile_is, q_pile_gone, q_pile_pile, q_pile_record, q_pile_make, q_record_is, q_record_gone, q_record_pile, q_record_record, q_record_make, q_make_is, q_make_gone, q_make_pile, q_make_record, q_make_make]
theorem L_other {k k' : Bool} {l : List D} {t : Str} {f' : D} (h0 : PyData.strOk t = true) (h1 : (t == Str.ofString "record") = false) (h2 : (t == Str.ofString "make") = false) : defSem 9 2 (g__law_joined φ) [.tup k (.str t :: l), .tup k' [.str "record", f', .bl false]] = .ok (.fz (.tup false [.str "record", f', .bl true])) := by
  simp [g__law_joined, r__law_joined_4_k, at_k, put_k, hole_k, frz_k, own_tm_k, own_sl_k, own_me_k, look_tm_k, look_sl_k, look_me_k, fix_k, give_tm_k, give_sl_k, give_me_k, fixAll_nil_k, fixAll_cons_k, lookAll_nil_k, lookAll_cons_k, ownAll_nil_k, ownAll_cons_k, tree_tm_k, tree_sl_k, tree_me_k, gN_k, gNil_k, gCons_k, gT_k, isLst_k, isDkOwn_k, val_fz_k, val_lst_k, val_dK_k, defSem_k, eVar_k, eC_k, aNil_k, aCons_k, eV_k, eF_k, two_k, tOf_k, tAndD_k, tOrD_k, tNotD_k, eIf_k, eAndD_k, eOrD_k, eNotD_k, eCall_k, eLst_k, eTup_k, eTupK_k, sNil_k, sCons_k, sBreak_k, sCont_k, sIf_k, sSet_k, sRet_k, sRetN_k, sDrop_k, sAsg_k, itSeq_k, itRange1_k, itRange2_k, sFor_k, tYesD_k, eItem_k, pNone_k, pSome_k, eSlice_k, eM1_k, eGet1_k, eGet2_k, sPutK_k, sAppend_k, sSetI_k, eTupItems_k, bind_ok_k, bind_ex_k, so_ok_k, so_ex_k, then_nx_k, then_rt_k, then_ex_k, then_bk_k, then_ct_k, addD_int_k, subD_k, negD_k, eqD_str_k, neD_str_k, cmpD_k, item_lst_k, item_tup_k, isnt_tup_k, isnt_non_k, is_tup_k, is_non_k, vals_nil_k, vals_cons_k, mulD_l, mulD_r, modD_of, divD_of, eqD_int, neD_int, List.map_cons, List.map_nil, List.cons_append, List.nil_append, atI_0, atI_1, atI_2, eqD_pair, inD_tags, bne, h0, h1, h2, ok_is, ok_gone, ok_pile, ok_record, ok_make, q_is_is, q_is_gone, q_is_pile, q_is_record, q_is_make, q_gone_is, q_gone_gone, q_gone_pile, q_gone_record, q_gone_make, q_pile_is, q_pile_gone, q_pile_pile, q_pile_record, q_pile_make, q_record_is, q_record_gone, q_record_pile, q_record_record, q_record_make, q_make_is, q_make_gone, q_make_pile, q_make_record, q_make_make]
def newN (ks ns : List Str) : List Str := ns.filter fun n => decide (n ∉ ks)
theorem ev_j2n {gs : List (Str × D)} (F : Fls gs) {ks : List Str} {k : Bool} {x l : D} {s2 s4 s5 s6 : Option Sl} {me : O} : c__law_joined_2 ⟨[some (.ow (.fz l)), some (.ow (.fz (.tup false [.str "record", .tup true (flds gs), x]))), s2, some (.ow (.lst (strO ks))), s4, s5, s6, none, none], me⟩ = .ok (.tm (.lst (strO (newN ks (nms gs))))) ⟨[some (.ow (.fz l)), some (.ow (.fz (.tup false [.str "record", .tup true (flds gs), x]))), s2, some (.ow (.lst (strO ks))), s4, s5, s6, none, none], me⟩ := ev_j2 F
theorem tupleKD_k {ds : List D} : tupleKD [.lst ds] = some (.fz (.tup true ds)) := id rfl
theorem L_rec {fs gs : List (Str × D)} {x : D} (Ff : Fls fs) (Fg : Fls gs) {R : Str → D} (hR : ∀ n ∈ heads (nms fs) (nms gs), φ [lo fs n, lo gs n] = .ok (.fz (R n))) :
    defSem 9 2 (g__law_joined φ) [.tup false [.str "record", .tup true (flds fs), x], .tup false [.str "record", .tup true (flds gs), .bl false]] = .ok (.fz (.tup false [.str "record", .tup true (outs R (heads (nms fs) (nms gs))), x])) := by
  have lf : (nms fs).length ≤ 4 := by unfold nms; rw [List.length_map]; exact Ff.len
  have lg : (nms gs).length ≤ 4 := by unfold nms; rw [List.length_map]; exact Fg.len
  have ln : (newN (nms fs) (nms gs)).length ≤ 4 := Nat.le_trans (List.length_filter_le _ _) lg
  have hd1 : dictTD [.tup true (flds fs)] = some (dkO (nms fs) (lo fs)) := dictT_flds Ff
  have hd2 : dictTD [.tup true (flds gs)] = some (dkO (nms gs) (lo gs)) := dictT_flds Fg
  have hh : heads (nms fs) (nms gs) = nms fs ++ newN (nms fs) (nms gs) := heads_filter Fg.nd
  have hadd : addD [.lst ((nms fs).map D.str), .lst ((newN (nms fs) (nms gs)).map D.str)] = some (.lst (strO (heads (nms fs) (nms gs)))) := by
    rw [addD_lst (by rw [List.length_map, List.length_map]; unfold most; omega), hh, ← List.map_append, List.map_map]
    rfl
  have h3 := fun s0 s1 s2 s6 me => ev_j3 (φ := φ) (fs := fs) (gs := gs) (R := R) (H := heads (nms fs) (nms gs)) hR (by rw [hh, List.length_append]; omega) (s0 := s0) (s1 := s1) (s2 := s2) (s6 := s6) (me := me)
  have h1 := fun s2 s3 s4 s5 s6 me u => ev_j1 Ff (x := x) (u := u) (s2 := s2) (s3 := s3) (s4 := s4) (s5 := s5) (s6 := s6) (me := me)
  have h2 := fun l s2 s4 s5 s6 me => ev_j2n Fg (ks := nms fs) (k := false) (x := .bl false) (l := l) (s2 := s2) (s4 := s4) (s5 := s5) (s6 := s6) (me := me)
  clear hh
  simp [g__law_joined, r__law_joined_4_k, at_k, put_k, hole_k, frz_k, own_tm_k, own_sl_k, own_me_k, look_tm_k, look_sl_k, look_me_k, fix_k, give_tm_k, give_sl_k, give_me_k, fixAll_nil_k, fixAll_cons_k, lookAll_nil_k, lookAll_cons_k, ownAll_nil_k, ownAll_cons_k, tree_tm_k, tree_sl_k, tree_me_k, gN_k, gNil_k, gCons_k, gT_k, isLst_k, isDkOwn_k, val_fz_k, val_lst_k, val_dK_k, defSem_k, eVar_k, eC_k, aNil_k, aCons_k, eV_k, eF_k, two_k, tOf_k, tAndD_k, tOrD_k, tNotD_k, eIf_k, eAndD_k, eOrD_k, eNotD_k, eCall_k, eLst_k, eTup_k, eTupK_k, sNil_k, sCons_k, sBreak_k, sCont_k, sIf_k, sSet_k, sRet_k, sRetN_k, sDrop_k, sAsg_k, itSeq_k, itRange1_k, itRange2_k, sFor_k, tYesD_k, eItem_k, pNone_k, pSome_k, eSlice_k, eM1_k, eGet1_k, eGet2_k, sPutK_k, sAppend_k, sSetI_k, eTupItems_k, bind_ok_k, bind_ex_k, so_ok_k, so_ex_k, then_nx_k, then_rt_k, then_ex_k, then_bk_k, then_ct_k, addD_int_k, subD_k, negD_k, eqD_str_k, neD_str_k, cmpD_k, item_lst_k, item_tup_k, isnt_tup_k, isnt_non_k, is_tup_k, is_non_k, vals_nil_k, vals_cons_k, mulD_l, mulD_r, modD_of, divD_of, eqD_int, neD_int, List.map_cons, List.map_nil, List.cons_append, List.nil_append, atI_0, atI_1, atI_2, eqD_pair, inD_tags, bne, h1, h2, h3, hadd, hd1, hd2, vals_strO, vals_map, tupleKD_k, ok_is, ok_gone, ok_pile, ok_record, ok_make, q_is_is, q_is_gone, q_is_pile, q_is_record, q_is_make, q_gone_is, q_gone_gone, q_gone_pile, q_gone_record, q_gone_make, q_pile_is, q_pile_gone, q_pile_pile, q_pile_record, q_pile_make, q_record_is, q_record_gone, q_record_pile, q_record_record, q_record_make, q_make_is, q_make_gone, q_make_pile, q_make_record, q_make_make]
end
end K12

set_option Elab.async false
set_option linter.all false
set_option maxRecDepth 100000
set_option maxHeartbeats 4000000
namespace K12
open PySem L2 PySem.Spec PyProof.Rows DL
def phJs : Nat → (List D → Res) × (List D → Res) × (List D → Res)
  | 0 => (never, never, never)
  | n + 1 => (defSem 2 2 (g_joined (phJs n).1 (phJs n).2.1 (phJs n).2.2), defSem 5 2 (g_joined_fields (phJs n).1), defSem 6 2 (g_piled (phJs n).1))
def phL : Nat → List D → Res
  | 0 => never
  | n + 1 => defSem 9 2 (g__law_joined (phL n))
theorem phJ_1 (n : Nat) : (phJs (n + 1)).1 = defSem 2 2 (g_joined (phJs n).1 (phJs n).2.1 (phJs n).2.2) := rfl
theorem phJ_2 (n : Nat) : (phJs (n + 1)).2.1 = defSem 5 2 (g_joined_fields (phJs n).1) := rfl
theorem phJ_3 (n : Nat) : (phJs (n + 1)).2.2 = defSem 6 2 (g_piled (phJs n).1) := rfl
theorem phL_1 (n : Nat) : phL (n + 1) = defSem 9 2 (g__law_joined (phL n)) := rfl
def big (a b : Nat) : Nat := bnd a + bnd b + 4000
def top2 : Nat → Nat → Nat
  | a, 0 => big a 0
  | 0, b + 1 => max (big 0 (b + 1)) (top2 0 b + 3800)
  | a + 1, b + 1 => max (big (a + 1) (b + 1)) (max (top2 (a + 1) b + 3800) (8 * (top2 a b + 88) + 1400))
theorem top_big : ∀ a b, big a b ≤ top2 a b
  | 0, 0 => by unfold top2; exact Nat.le_refl _
  | a + 1, 0 => by unfold top2; exact Nat.le_refl _
  | 0, b + 1 => by unfold top2; exact Nat.le_max_left _ _
  | a + 1, b + 1 => by unfold top2; exact Nat.le_max_left _ _
theorem top_pile : ∀ a b, top2 a b + 3800 ≤ top2 a (b + 1)
  | 0, b => by conv => rhs; unfold top2
               exact Nat.le_max_right _ _
  | a + 1, b => by conv => rhs; unfold top2
                   exact Nat.le_trans (Nat.le_max_left _ _) (Nat.le_max_right _ _)
theorem top_rec (a b : Nat) : 8 * (top2 a b + 88) + 1400 ≤ top2 (a + 1) (b + 1) := by
  conv => rhs; unfold top2
  exact Nat.le_trans (Nat.le_max_right _ _) (Nat.le_max_right _ _)
/-- both give the same, and it is small -/
def Same (n1 n2 a b : Nat) (l u : D) : Prop := ∃ r, (phJs n1).1 [l, u] = .ok (.fz r) ∧ phL n2 [l, u] = .ok (.fz r) ∧ Sm (top2 a b) (4 * (a + b) + 12) r
theorem Ent.tag2 {n : Nat} {d : D} (h : Ent n d) : ∃ t ds, d = .tup false (.str t :: ds) ∧ PyData.strOk t = true := by
  cases h
  · exact ⟨_, _, rfl, ok_is⟩
  · exact ⟨_, _, rfl, ok_gone⟩
  · exact ⟨_, _, rfl, ok_pile⟩
  · exact ⟨_, _, rfl, ok_pile⟩
  · exact ⟨_, _, rfl, ok_record⟩
  · exact ⟨_, _, rfl, ok_make⟩
theorem same_none {n1 n2 a b : Nat} {u : D} (h : u = .non ∨ Ent b u) : Same (n1 + 1) (n2 + 1) a b .non u := by
  rcases h with rfl | h
  · exact ⟨.non, by rw [phJ_1]; exact J_none is_non (.inl rfl), by rw [phL_1]; exact L_none, Sm.non.up (by have := top_big a b; unfold big at this; omega) (by omega)⟩
  · obtain ⟨t, ds, rfl⟩ := h.tag
    exact ⟨_, by rw [phJ_1]; exact J_none is_tup (.inr rfl), by rw [phL_1]; exact L_none, h.sm.up (by have := top_big a b; unfold big at this; omega) (by omega)⟩
theorem same_low {n1 n2 a b : Nat} {l : D} (h : Ent a l) : Same (n1 + 1) (n2 + 1) a b l .non := by
  obtain ⟨t, ds, rfl⟩ := h.tag
  exact ⟨_, by rw [phJ_1]; exact J_low, by rw [phL_1]; exact L_low, h.sm.up (by have := top_big a b; unfold big at this; omega) (by omega)⟩
theorem outs_sm {R : Str → D} {ks : List Str} {b h : Nat} (hl : ks.length ≤ 8) (hk : ∀ k ∈ ks, (PyData.strOk k = true ∧ k.length ≤ 8) ∧ Sm b h (R k)) : Sm (8 * (b + 90) + 2) (h + 2) (.tup true (outs R ks)) := by
  refine (Sm.many (n := b + 88) (h := h + 1) (fun d hd => ?_) (m := 8) (by unfold outs; rw [List.length_map]; exact hl)).up (by omega) (Nat.le_refl _)
  obtain ⟨k, hk2, rfl⟩ := List.mem_map.mp hd
  obtain ⟨h1, h2⟩ := hk k hk2
  exact (Sms.tup (.cons ((Sm.str (n := 82) h1.1 (by omega)).up (Nat.le_refl _) (Nat.zero_le _)) (.cons h2 .nil))).up (by omega) (Nat.le_refl _)
theorem same_rec {n1 n2 a b : Nat} {fs gs : List (Str × D)} {k : Bool} (Ff : Fls fs) (Fg : Fls gs) (hf : ∀ p ∈ fs, Ent a p.2) (hg : ∀ p ∈ gs, Ent b p.2)
    (ih : ∀ l u, (l = .non ∨ Ent a l) → (u = .non ∨ Ent b u) → Same (n1 + 1) (n2 + 1) a b l u) :
    ∃ r, (phJs (n1 + 3)).1 [.tup false [.str "record", .tup true (flds fs), .bl k], .tup false [.str "record", .tup true (flds gs), .bl false]] = .ok (.fz r) ∧ phL (n2 + 2) [.tup false [.str "record", .tup true (flds fs), .bl k], .tup false [.str "record", .tup true (flds gs), .bl false]] = .ok (.fz r) ∧
      Sm (8 * (top2 a b + 90) + 100) (4 * (a + b) + 15) r := by
  have lof : ∀ k, lo fs k = .non ∨ Ent a (lo fs k) := fun k => by
    by_cases h : k ∈ nms fs
    · obtain ⟨p, hp, _, e⟩ := lo_in h
      rw [e]
      exact .inr (hf p hp)
    · exact .inl (lo_none h)
  have log : ∀ k, lo gs k = .non ∨ Ent b (lo gs k) := fun k => by
    by_cases h : k ∈ nms gs
    · obtain ⟨p, hp, _, e⟩ := lo_in h
      rw [e]
      exact .inr (hg p hp)
    · exact .inl (lo_none h)
  have all : ∀ k, Same (n1 + 1) (n2 + 1) a b (lo fs k) (lo gs k) := fun k => ih _ _ (lof k) (log k)
  obtain ⟨R, hR⟩ : ∃ R : Str → D, ∀ k, (phJs (n1 + 1)).1 [lo fs k, lo gs k] = .ok (.fz (R k)) ∧ phL (n2 + 1) [lo fs k, lo gs k] = .ok (.fz (R k)) ∧ Sm (top2 a b) (4 * (a + b) + 12) (R k) := ⟨fun k => Classical.choose (all k), fun k => Classical.choose_spec (all k)⟩
  have hlo : ∀ k, k ∉ nms gs → R k = lo fs k := fun k hk => by
    have h1 := (hR k).1
    rw [lo_none hk] at h1
    have h2 : (phJs (n1 + 1)).1 [lo fs k, .non] = .ok (.fz (lo fs k)) := by
      rcases lof k with e | e
      · rw [e]
        rw [phJ_1]
        exact J_none is_non (.inl rfl)
      · obtain ⟨t, ds, e2⟩ := e.tag
        rw [e2, phJ_1]
        exact J_low
    rw [h2] at h1
    injection h1 with h1
    injection h1 with h1
    exact h1.symm
  have hF := fields_ok (φ := (phJs (n1 + 1)).1) Ff Fg (R := R) (fun p hp => by
    have := (hR p.1).1
    rw [lo_mem Fg.nd hp] at this
    exact this) hlo
  refine ⟨_, by rw [phJ_1]; exact J_rec (by rw [phJ_2]; exact hF), by rw [phL_1]; exact L_rec Ff Fg fun n _ => (hR n).2.1, ?_⟩
  have lf : (nms fs).length ≤ 4 := by unfold nms; rw [List.length_map]; exact Ff.len
  have lg : (nms gs).length ≤ 4 := by unfold nms; rw [List.length_map]; exact Fg.len
  have ho := outs_sm (R := R) (ks := heads (nms fs) (nms gs)) (b := top2 a b) (h := 4 * (a + b) + 12) (by have := heads_len (ks := nms fs) (ns := nms gs); omega) (fun k hk => by
    refine ⟨?_, (hR k).2.2⟩
    rcases heads_mem.mp hk with h | h
    · obtain ⟨p, hp, rfl⟩ := List.mem_map.mp h
      exact Ff.ok p hp
    · obtain ⟨p, hp, rfl⟩ := List.mem_map.mp h
      exact Fg.ok p hp)
  exact (Sms.tup (h := 4 * (a + b) + 14) (.cons ((lit (by decide +kernel)).up (Nat.le_refl _) (Nat.zero_le _)) (.cons ho (.cons (Sm.bl.up (Nat.le_refl _) (Nat.zero_le _)) .nil)))).up (by omega) (by omega)
theorem app_sm {as bs : List D} {n h m j : Nat} {k k1 k2 : Bool} (ha : Sm n h (.tup k1 as)) (hb : Sm m j (.tup k2 bs)) : Sm (n + m) (max h j) (.tup k (as ++ bs)) := by
  have a1 := ha.fit
  have a2 := ha.wt
  have a3 := ha.dep
  have b1 := hb.fit
  have b2 := hb.wt
  have b3 := hb.dep
  simp only [D.fit, D.wt, D.dep] at a1 a2 a3 b1 b2 b3
  refine ⟨?_, ?_, ?_⟩
  · simp only [D.fit]
    rw [fits_app, a1, b1]
    rfl
  · simp only [D.wt]
    rw [wts_app]
    omega
  · simp only [D.dep]
    rw [deps_app]
    omega
theorem Prs.two {as bs : List D} (pa : Prs as) (pb : Prs bs) : as.length + bs.length ≤ most := by
  have := pa.len
  have := pb.len
  unfold most
  omega
theorem same_plain {n1 n2 a b : Nat} {l : D} {v : Str} {us : List D} (hu : Sm (bnd b) (4 * b + 7) (.tup false (.str v :: us))) (hl : Ent a l) (h0 : PyData.strOk v = true) (h1 : (v == Str.ofString "pile") = false) (h2 : (v == Str.ofString "record") = false)
    (h3 : inD [.str v, .tup false [.str "is", .str "gone", .str "make"]] = some (.bl true)) : Same (n1 + 1) (n2 + 1) a b l (.tup false (.str v :: us)) := by
  obtain ⟨t, ds, rfl, ht⟩ := hl.tag2
  exact ⟨_, by rw [phJ_1]; exact J_plain h1 (by unfold bne; rw [h2]; rfl), by rw [phL_1]; exact L_plain ht h0 h1 h3, hu.up (by have := top_big a b; unfold big at this; omega) (by omega)⟩
theorem one_pile {n1 n2 a b : Nat} {t : Str} {ds as bs : List D} (hl : Ent a (.tup false (.str t :: ds))) (h0 : PyData.strOk t = true) (h1 : (t == Str.ofString "pile") = false) (pa : Prs as) (pb : Prs bs) : Same (n1 + 2) (n2 + 1) a b (.tup false (.str t :: ds)) (.tup false [.str "pile", .non, .tup false as, .tup false bs]) := by
  refine ⟨_, by rw [phJ_1]; exact J_pile (by rw [phJ_3]; exact P_one h1), by rw [phL_1]; exact L_one h0 h1, ?_⟩
  have hs := hl.sm
  exact (Sms.tup (h := 4 * a + 7) (.cons ((lit (by decide +kernel)).up (Nat.le_refl _) (Nat.zero_le _)) (.cons hs (.cons (pa.sm.up (Nat.le_refl _) (by omega)) (.cons (pb.sm.up (Nat.le_refl _) (by omega)) .nil))))).up (by have := top_big a b; unfold big at this; omega) (by omega)
theorem two_pile {n1 n2 a b w h : Nat} {x : D} {l2 l3 as bs : List D} (hx : Sm w h x) (hw : w + 3400 ≤ bnd a + bnd b) (hh : h ≤ 4 * a + 7) (p2 : Prs l2) (p3 : Prs l3) (pa : Prs as) (pb : Prs bs) : Same (n1 + 2) (n2 + 1) a b (.tup false [.str "pile", x, .tup false l2, .tup false l3]) (.tup false [.str "pile", .non, .tup false as, .tup false bs]) := by
  refine ⟨_, by rw [phJ_1]; exact J_pile (by rw [phJ_3]; exact P_two (l1 := []) (pa.two p2) (p3.two pb)), by rw [phL_1]; exact L_two (pa.two p2) (p3.two pb), ?_⟩
  have s1 := app_sm (k := false) (pa.sm (k := false)) (p2.sm (k := false))
  have s2 := app_sm (k := false) (p3.sm (k := false)) (pb.sm (k := false))
  exact (Sms.tup (h := 4 * a + 7) (.cons ((lit (by decide +kernel)).up (Nat.le_refl _) (Nat.zero_le _)) (.cons (hx.up (Nat.le_refl _) hh) (.cons (s1.up (Nat.le_refl _) (by omega)) (.cons (s2.up (Nat.le_refl _) (by omega)) .nil))))).up (by have := top_big a b; unfold big at this; omega) (by omega)
theorem same_pile0 {n1 n2 a b : Nat} {l : D} {as bs : List D} (hl : Ent a l) (pa : Prs as) (pb : Prs bs) : Same (n1 + 2) (n2 + 1) a b l (.tup false [.str "pile", .non, .tup false as, .tup false bs]) := by
  have hl2 := hl
  cases hl with
  | is _ _ => exact one_pile hl2 ok_is q_is_pile pa pb
  | gone _ => exact one_pile hl2 ok_gone q_gone_pile pa pb
  | pile0 p2 p3 => exact two_pile Sm.non (by have := bnd_ge a; have := bnd_ge b; omega) (Nat.zero_le _) p2 p3 pa pb
  | @pile n x _ _ hx p2 p3 => exact two_pile hx.sm (by rw [bnd_succ]; have := bnd_ge n; have := bnd_ge b; omega) (by omega) p2 p3 pa pb
  | record _ _ => exact one_pile hl2 ok_record q_record_pile pa pb
  | make _ _ _ _ => exact one_pile hl2 ok_make q_make_pile pa pb
theorem in_is : inD [.str "is", .tup false [.str "is", .str "gone", .str "make"]] = some (.bl true) := by rw [inD_tags, q_is_is]; rfl
theorem in_gone : inD [.str "gone", .tup false [.str "is", .str "gone", .str "make"]] = some (.bl true) := by rw [inD_tags, q_is_gone, q_gone_gone]; rfl
theorem in_make : inD [.str "make", .tup false [.str "is", .str "gone", .str "make"]] = some (.bl true) := by rw [inD_tags, q_is_make, q_gone_make, q_make_make]; rfl
theorem other_rec {n1 n2 a b : Nat} {t : Str} {ds : List D} {gs : List (Str × D)} (hl : Ent a (.tup false (.str t :: ds))) (h0 : PyData.strOk t = true) (h1 : (t == Str.ofString "record") = false) (h2 : (t == Str.ofString "make") = false) (Fg : Fls gs) (hg : ∀ p ∈ gs, Ent b p.2) :
    Same (n1 + 1) (n2 + 1) a (b + 1) (.tup false (.str t :: ds)) (.tup false [.str "record", .tup true (flds gs), .bl false]) := by
  refine ⟨_, by rw [phJ_1]; exact J_other h1 h2, by rw [phL_1]; exact L_other h0 h1 h2, ?_⟩
  have hs := (Ent.record (k := true) Fg hg).sm
  exact hs.up (by have := top_big a (b + 1); unfold big at this; omega) (by omega)
theorem main : ∀ (b a : Nat) (l u : D) (n1 n2 : Nat), (l = .non ∨ Ent a l) → (u = .non ∨ Ent b u) → Same (n1 + 3 * b + 3) (n2 + 3 * b + 3) a b l u := by
  intro b
  induction b with
  | zero =>
    intro a l u n1 n2 hl hu
    rcases hl with rfl | hl
    · exact same_none hu
    · rcases hu with rfl | hu
      · exact same_low hl
      · have hs := hu.sm
        cases hu with
        | is _ _ => exact same_plain hs hl ok_is q_is_pile q_is_record in_is
        | gone _ => exact same_plain hs hl ok_gone q_gone_pile q_gone_record in_gone
        | pile0 pa pb => exact same_pile0 hl pa pb
  | succ b ih =>
    intro a l u n1 n2 hl hu
    have e1 : n1 + 3 * (b + 1) + 3 = n1 + 3 * b + 6 := by omega
    have e2 : n2 + 3 * (b + 1) + 3 = n2 + 3 * b + 6 := by omega
    rw [e1, e2]
    rcases hl with rfl | hl
    · exact same_none hu
    · rcases hu with rfl | hu
      · exact same_low hl
      · have hs := hu.sm
        cases hu with
        | is _ _ => exact same_plain hs hl ok_is q_is_pile q_is_record in_is
        | gone _ => exact same_plain hs hl ok_gone q_gone_pile q_gone_record in_gone
        | make _ _ _ _ => exact same_plain hs hl ok_make q_make_pile q_make_record in_make
        | pile0 pa pb => exact same_pile0 hl pa pb
        | @pile _ x _ _ hx pa pb =>
          have h := ih a l x (n1 + 1) (n2 + 2) (.inr hl) (.inr hx)
          rw [show n1 + 1 + 3 * b + 3 = n1 + 3 * b + 4 by omega, show n2 + 2 + 3 * b + 3 = n2 + 3 * b + 5 by omega] at h
          obtain ⟨r, h1, h2, h3⟩ := h
          obtain ⟨t, ds, rfl, ht⟩ := hl.tag2
          obtain ⟨tx, dx, rfl⟩ := hx.tag
          refine ⟨_, by rw [phJ_1]; exact J_pile (by rw [phJ_3]; exact P_deep rfl h1), by rw [phL_1]; exact L_deep h2, ?_⟩
          exact (Sms.tup (h := 4 * (a + b) + 12) (.cons ((lit (by decide +kernel)).up (Nat.le_refl _) (Nat.zero_le _)) (.cons h3 (.cons (pa.sm.up (Nat.le_refl _) (by omega)) (.cons (pb.sm.up (Nat.le_refl _) (by omega)) .nil))))).up (by have := top_pile a b; omega) (by omega)
        | @record _ gs k Fg hg =>
          cases k with
          | true =>
            obtain ⟨t, ds, rfl, ht⟩ := hl.tag2
            exact ⟨_, by rw [phJ_1]; exact J_fresh, by rw [phL_1]; exact L_fresh ht, hs.up (by have := top_big a (b + 1); unfold big at this; omega) (by omega)⟩
          | false =>
            have hl2 := hl
            cases hl with
            | is _ _ => exact other_rec hl2 ok_is q_is_record q_is_make Fg hg
            | gone _ => exact other_rec hl2 ok_gone q_gone_record q_gone_make Fg hg
            | pile0 _ _ => exact other_rec hl2 ok_pile q_pile_record q_pile_make Fg hg
            | pile _ _ _ => exact other_rec hl2 ok_pile q_pile_record q_pile_make Fg hg
            | @record a fs k Ff hf =>
              obtain ⟨r, h1, h2, h3⟩ := same_rec (n1 := n1 + 3 * b + 3) (n2 := n2 + 3 * b + 4) (k := k) Ff Fg hf hg fun l u hl hu => by
                have := ih a l u (n1 + 1) (n2 + 2) hl hu
                rw [show n1 + 1 + 3 * b + 3 = n1 + 3 * b + 3 + 1 by omega, show n2 + 2 + 3 * b + 3 = n2 + 3 * b + 4 + 1 by omega] at this
                exact this
              exact ⟨r, h1, h2, h3.up (by have := top_rec a b; omega) (by omega)⟩
            | @make a p m fs k hp Ff hf hm =>
              obtain ⟨r, h1, h2, h3⟩ := same_rec (n1 := n1 + 3 * b + 2) (n2 := n2 + 3 * b + 3) (k := k) Ff Fg hf hg fun l u hl hu => by
                have := ih a l u n1 (n2 + 1) hl hu
                rw [show n1 + 3 * b + 3 = n1 + 3 * b + 2 + 1 by omega, show n2 + 1 + 3 * b + 3 = n2 + 3 * b + 3 + 1 by omega] at this
                exact this
              refine ⟨_, by rw [phJ_1]; exact J_make h1, by rw [phL_1]; exact L_make h2, ?_⟩
              exact (Sms.tup (h := 4 * (a + b) + 15) (.cons ((lit (by decide +kernel)).up (Nat.le_refl _) (Nat.zero_le _)) (.cons (hp.up (Nat.le_refl _) (by omega)) (.cons h3 (.cons (hm.up (Nat.le_refl _) (by omega)) .nil))))).up (by have := top_rec a b; omega) (by omega)
end K12

set_option Elab.async false
set_option linter.all false
set_option maxRecDepth 100000
set_option maxHeartbeats 4000000
namespace K12
open PySem L2 PySem.Spec PyProof.Rows DL
def phC : List D → Res := defSem 2 2 g__law_cell_at
def phN : List D → Res := defSem 7 1 g__law_names
theorem phC_ok {ns : List Int} {k : Int} (hk : 0 ≤ k) : ∃ v : Int, phC [.lst (ns.map .int), .int k] = .ok (.fz (.int v)) := sem_cell_at hk
theorem phN_ok {a : Int} (ha : 0 ≤ a) : ∃ xs : List Str, phN [.int a] = .ok (.lst (strO xs)) ∧ NamesOk xs := sem_names ha
/-- what joined and its like are asked for -/
structure Jok (φJ φL : List D → Res) : Prop where
  same : ∀ l u, (l = .non ∨ Ent 3 l) → (u = .non ∨ Ent 3 u) → ∃ r, φJ [l, u] = .ok (.fz r) ∧ φL [l, u] = .ok (.fz r) ∧ Sm (top2 3 3) 36 r
  low : ∀ l, Ent 3 l → φJ [l, .non] = .ok (.fz l)
  up : ∀ u, Ent 3 u → φJ [.non, u] = .ok (.fz u)
  none : φJ [.non, .non] = .ok (.fz .non)
theorem jok {n1 n2 : Nat} (h1 : 12 ≤ n1) (h2 : 12 ≤ n2) : Jok (phJs n1).1 (phL n2) := by
  obtain ⟨m1, rfl⟩ : ∃ m, n1 = m + 3 * 3 + 3 := ⟨n1 - 12, by omega⟩
  obtain ⟨m2, rfl⟩ : ∃ m, n2 = m + 3 * 3 + 3 := ⟨n2 - 12, by omega⟩
  refine ⟨fun l u hl hu => main 3 3 l u m1 m2 hl hu, fun l hl => ?_, fun u hu => ?_, ?_⟩
  · obtain ⟨t, ds, rfl⟩ := hl.tag
    rw [phJ_1]
    exact J_low
  · obtain ⟨t, ds, rfl⟩ := hu.tag
    rw [phJ_1]
    exact J_none is_tup (.inr rfl)
  · rw [phJ_1]
    exact J_none is_non (.inl rfl)
section
variable {φA φJ φL : List D → Res}
theorem ev_b1 (J : Jok φJ φL) {l u : D} (hl : l = .non ∨ Ent 3 l) (hu : u = .non ∨ Ent 3 u) {s0 s1 s2 s3 s4 s7 : Option Sl} {me : O} :
    ∃ s7', b_law_1 φL φJ ⟨[s0, s1, s2, s3, s4, some (.ow (.fz l)), some (.ow (.fz u)), s7], me⟩ = .nx ⟨[s0, s1, s2, s3, s4, some (.ow (.fz l)), some (.ow (.fz u)), s7'], me⟩ := by
  obtain ⟨r, h1, h2, hs⟩ := J.same l u hl hu
  have hr := reprD_of hs.fit (Nat.le_trans hs.dep (by decide)) (Nat.le_trans hs.wt (by decide +kernel))
  have hne : (r.pd.shown != r.pd.shown) = false := by simp
  generalize r.pd.shown = z at hr hne
  refine ⟨some (.ow (.fz (.str z))), ?_⟩
  simp [b_law_1, at_k, put_k, hole_k, frz_k, own_tm_k, own_sl_k, own_me_k, look_tm_k, look_sl_k, look_me_k, fix_k, give_tm_k, give_sl_k, give_me_k, fixAll_nil_k, fixAll_cons_k, lookAll_nil_k, lookAll_cons_k, ownAll_nil_k, ownAll_cons_k, tree_tm_k, tree_sl_k, tree_me_k, gN_k, gNil_k, gCons_k, gT_k, isLst_k, isDkOwn_k, val_fz_k, val_lst_k, val_dK_k, defSem_k, eVar_k, eC_k, aNil_k, aCons_k, eV_k, eF_k, two_k, tOf_k, tAndD_k, tOrD_k, tNotD_k, eIf_k, eAndD_k, eOrD_k, eNotD_k, eCall_k, eLst_k, eTup_k, eTupK_k, sNil_k, sCons_k, sBreak_k, sCont_k, sIf_k, sSet_k, sRet_k, sRetN_k, sDrop_k, sAsg_k, itSeq_k, itRange1_k, itRange2_k, sFor_k, tYesD_k, eItem_k, pNone_k, pSome_k, eSlice_k, eM1_k, eGet1_k, eGet2_k, sPutK_k, sAppend_k, sSetI_k, eTupItems_k, bind_ok_k, bind_ex_k, so_ok_k, so_ex_k, then_nx_k, then_rt_k, then_ex_k, then_bk_k, then_ct_k, addD_int_k, subD_k, negD_k, eqD_str_k, neD_str_k, cmpD_k, item_lst_k, item_tup_k, isnt_tup_k, isnt_non_k, is_tup_k, is_non_k, vals_nil_k, vals_cons_k, mulD_l, mulD_r, modD_of, divD_of, eqD_int, neD_int, List.map_cons, List.map_nil, List.cons_append, List.nil_append, h1, h2, hr, hne]
theorem ev_l2 (J : Jok φJ φL) {a b : D} (ha : Ent 3 a) (hb : Ent 3 b) {s0 s1 s2 s5 s6 s7 : Option Sl} {me : O} :
    ∃ s5' s6' s7', l_law_2 φL φJ ⟨[s0, s1, s2, some (.ow (.fz a)), some (.ow (.fz b)), s5, s6, s7], me⟩ = .nx ⟨[s0, s1, s2, some (.ow (.fz a)), some (.ow (.fz b)), s5', s6', s7'], me⟩ := by
  have key := sFor_inv (si := itSeq (eLst (aCons (eTup (aCons (eVar 3) (aCons (eVar 4) aNil))) (aCons (eTup (aCons (eVar 4) (aCons (eVar 3) aNil))) (aCons (eTup (aCons (eVar 3) (aCons (eC .non) aNil))) (aCons (eTup (aCons (eC .non) (aCons (eVar 4) aNil))) (aCons (eTup (aCons (eVar 3) (aCons (eVar 3) aNil))) aNil))))))) (t := gT (gCons' (gN 5) (gCons' (gN 6) gNil'))) (g := b_law_1 φL φJ)
    (ds := [.tup false [a, b], .tup false [b, a], .tup false [a, .non], .tup false [.non, b], .tup false [a, a]]) (e := ⟨[s0, s1, s2, some (.ow (.fz a)), some (.ow (.fz b)), s5, s6, s7], me⟩) (e0 := ⟨[s0, s1, s2, some (.ow (.fz a)), some (.ow (.fz b)), s5, s6, s7], me⟩)
    (fun _ e => ∃ s5 s6 s7, e = ⟨[s0, s1, s2, some (.ow (.fz a)), some (.ow (.fz b)), s5, s6, s7], me⟩) (by simp [at_k, put_k, hole_k, frz_k, own_tm_k, own_sl_k, own_me_k, look_tm_k, look_sl_k, look_me_k, fix_k, give_tm_k, give_sl_k, give_me_k, fixAll_nil_k, fixAll_cons_k, lookAll_nil_k, lookAll_cons_k, ownAll_nil_k, ownAll_cons_k, tree_tm_k, tree_sl_k, tree_me_k, gN_k, gNil_k, gCons_k, gT_k, isLst_k, isDkOwn_k, val_fz_k, val_lst_k, val_dK_k, defSem_k, eVar_k, eC_k, aNil_k, aCons_k, eV_k, eF_k, two_k, tOf_k, tAndD_k, tOrD_k, tNotD_k, eIf_k, eAndD_k, eOrD_k, eNotD_k, eCall_k, eLst_k, eTup_k, eTupK_k, sNil_k, sCons_k, sBreak_k, sCont_k, sIf_k, sSet_k, sRet_k, sRetN_k, sDrop_k, sAsg_k, itSeq_k, itRange1_k, itRange2_k, sFor_k, tYesD_k, eItem_k, pNone_k, pSome_k, eSlice_k, eM1_k, eGet1_k, eGet2_k, sPutK_k, sAppend_k, sSetI_k, eTupItems_k, bind_ok_k, bind_ex_k, so_ok_k, so_ex_k, then_nx_k, then_rt_k, then_ex_k, then_bk_k, then_ct_k, addD_int_k, subD_k, negD_k, eqD_str_k, neD_str_k, cmpD_k, item_lst_k, item_tup_k, isnt_tup_k, isnt_non_k, is_tup_k, is_non_k, vals_nil_k, vals_cons_k, mulD_l, mulD_r, modD_of, divD_of, eqD_int, neD_int, List.map_cons, List.map_nil, List.cons_append, List.nil_append]) ⟨_, _, _, rfl⟩ (fun j d e hj ⟨s5, s6, s7, e1⟩ => by
      subst e1
      have hd := List.mem_of_getElem? hj
      have : ∃ l u, d = .tup false [l, u] ∧ (l = .non ∨ Ent 3 l) ∧ (u = .non ∨ Ent 3 u) := by
        simp only [List.mem_cons, List.not_mem_nil, or_false] at hd
        rcases hd with rfl | rfl | rfl | rfl | rfl
        · exact ⟨_, _, rfl, .inr ha, .inr hb⟩
        · exact ⟨_, _, rfl, .inr hb, .inr ha⟩
        · exact ⟨_, _, rfl, .inr ha, .inl rfl⟩
        · exact ⟨_, _, rfl, .inl rfl, .inr hb⟩
        · exact ⟨_, _, rfl, .inr ha, .inr ha⟩
      obtain ⟨l, u, rfl, hl, hu⟩ := this
      obtain ⟨s7', h⟩ := ev_b1 J hl hu (s0 := s0) (s1 := s1) (s2 := s2) (s3 := some (.ow (.fz a))) (s4 := some (.ow (.fz b))) (s7 := s7) (me := me)
      exact ⟨_, _, rfl, .inl h, _, _, _, rfl⟩)
  obtain ⟨e', k1, s5', s6', s7', rfl⟩ := key
  exact ⟨s5', s6', s7', k1⟩
theorem ev_b3 (J : Jok φJ φL) {xs : List Str} (N : NamesOk xs) (hA : ∀ a : Int, 0 ≤ a → a < 2147483648 → ∃ e, φA [.int a, nm xs, .int 3] = .ok (.fz e) ∧ Ent 3 e) {ns : List Int} {k : Int} (hk : 0 ≤ k ∧ k ≤ 100) {s1 s3 s4 s5 s6 s7 : Option Sl} {me : O}
    (h1 : s1 = some (.ow (.lst (strO xs))) ∨ s1 = some (.ow (.fz (nm xs)))) : ∃ s3' s4' s5' s6' s7',
      b_law_3 φA phC φL phM φJ ⟨[some (.ow (.fz (.lst (ns.map .int)))), s1, some (.ow (.fz (.int k))), s3, s4, s5, s6, s7], me⟩ = .nx ⟨[some (.ow (.fz (.lst (ns.map .int)))), some (.ow (.fz (nm xs))), some (.ow (.fz (.int k))), s3', s4', s5', s6', s7'], me⟩ := by
  obtain ⟨v, hv⟩ := phC_ok (ns := ns) (k := 2 * k) (by omega)
  obtain ⟨w, hw⟩ := phC_ok (ns := ns) (k := 2 * k + 1) (by omega)
  have m1 := phM_ok (a := v) (k := 5 + k) (by omega)
  have m2 := phM_ok (a := w) (k := 60 + k) (by omega)
  obtain ⟨a, ha, ea⟩ := hA (mix v (5 + k)) (mix_ge _ _) (Int.lt_trans (mix_lt _ _) (by decide))
  obtain ⟨b, hb, eb⟩ := hA (mix w (60 + k)) (mix_ge _ _) (Int.lt_trans (mix_lt _ _) (by decide))
  obtain ⟨s5', s6', s7', hl⟩ := ev_l2 J ea eb (s0 := some (.ow (.fz (.lst (ns.map .int))))) (s1 := some (.ow (.fz (nm xs)))) (s2 := some (.ow (.fz (.int k)))) (s5 := s5) (s6 := s6) (s7 := s7) (me := me)
  have n1 := neD_same ea.sm.fit (Nat.le_trans ea.sm.dep (by decide))
  have n2 := neD_same eb.sm.fit (Nat.le_trans eb.sm.dep (by decide))
  have j1 := J.low a ea
  have j2 := J.up b eb
  have hvs : D.lst (vals (strO xs)) = nm xs := by rw [vals_strO]; rfl
  have h2 : (2 : Int).natAbs < 18446744073709551616 := by decide
  refine ⟨some (.ow (.fz a)), some (.ow (.fz b)), s5', s6', s7', ?_⟩
  rcases h1 with rfl | rfl
  · simp [b_law_3, at_k, put_k, hole_k, frz_k, own_tm_k, own_sl_k, own_me_k, look_tm_k, look_sl_k, look_me_k, fix_k, give_tm_k, give_sl_k, give_me_k, fixAll_nil_k, fixAll_cons_k, lookAll_nil_k, lookAll_cons_k, ownAll_nil_k, ownAll_cons_k, tree_tm_k, tree_sl_k, tree_me_k, gN_k, gNil_k, gCons_k, gT_k, isLst_k, isDkOwn_k, val_fz_k, val_lst_k, val_dK_k, defSem_k, eVar_k, eC_k, aNil_k, aCons_k, eV_k, eF_k, two_k, tOf_k, tAndD_k, tOrD_k, tNotD_k, eIf_k, eAndD_k, eOrD_k, eNotD_k, eCall_k, eLst_k, eTup_k, eTupK_k, sNil_k, sCons_k, sBreak_k, sCont_k, sIf_k, sSet_k, sRet_k, sRetN_k, sDrop_k, sAsg_k, itSeq_k, itRange1_k, itRange2_k, sFor_k, tYesD_k, eItem_k, pNone_k, pSome_k, eSlice_k, eM1_k, eGet1_k, eGet2_k, sPutK_k, sAppend_k, sSetI_k, eTupItems_k, bind_ok_k, bind_ex_k, so_ok_k, so_ex_k, then_nx_k, then_rt_k, then_ex_k, then_bk_k, then_ct_k, addD_int_k, subD_k, negD_k, eqD_str_k, neD_str_k, cmpD_k, item_lst_k, item_tup_k, isnt_tup_k, isnt_non_k, is_tup_k, is_non_k, vals_nil_k, vals_cons_k, mulD_l, mulD_r, modD_of, divD_of, eqD_int, neD_int, List.map_cons, List.map_nil, List.cons_append, List.nil_append, hv, hw, m1, m2, hvs, ha, hb, hl, n1, n2, j1, j2, h2]
  · simp [b_law_3, at_k, put_k, hole_k, frz_k, own_tm_k, own_sl_k, own_me_k, look_tm_k, look_sl_k, look_me_k, fix_k, give_tm_k, give_sl_k, give_me_k, fixAll_nil_k, fixAll_cons_k, lookAll_nil_k, lookAll_cons_k, ownAll_nil_k, ownAll_cons_k, tree_tm_k, tree_sl_k, tree_me_k, gN_k, gNil_k, gCons_k, gT_k, isLst_k, isDkOwn_k, val_fz_k, val_lst_k, val_dK_k, defSem_k, eVar_k, eC_k, aNil_k, aCons_k, eV_k, eF_k, two_k, tOf_k, tAndD_k, tOrD_k, tNotD_k, eIf_k, eAndD_k, eOrD_k, eNotD_k, eCall_k, eLst_k, eTup_k, eTupK_k, sNil_k, sCons_k, sBreak_k, sCont_k, sIf_k, sSet_k, sRet_k, sRetN_k, sDrop_k, sAsg_k, itSeq_k, itRange1_k, itRange2_k, sFor_k, tYesD_k, eItem_k, pNone_k, pSome_k, eSlice_k, eM1_k, eGet1_k, eGet2_k, sPutK_k, sAppend_k, sSetI_k, eTupItems_k, bind_ok_k, bind_ex_k, so_ok_k, so_ex_k, then_nx_k, then_rt_k, then_ex_k, then_bk_k, then_ct_k, addD_int_k, subD_k, negD_k, eqD_str_k, neD_str_k, cmpD_k, item_lst_k, item_tup_k, isnt_tup_k, isnt_non_k, is_tup_k, is_non_k, vals_nil_k, vals_cons_k, mulD_l, mulD_r, modD_of, divD_of, eqD_int, neD_int, List.map_cons, List.map_nil, List.cons_append, List.nil_append, hv, hw, m1, m2, hvs, ha, hb, hl, n1, n2, j1, j2, h2]
theorem sem_law (J : Jok φJ φL) (hA : ∀ xs, NamesOk xs → ∀ a : Int, 0 ≤ a → a < 2147483648 → ∃ e, φA [.int a, nm xs, .int 3] = .ok (.fz e) ∧ Ent 3 e) (ns : List Int) : defSem 8 1 (g_law φA phC φL phM phN φJ) [.lst (ns.map .int)] = .ok (.fz (.bl true)) := by
  obtain ⟨v, hv⟩ := phC_ok (ns := ns) (k := 0) (by decide)
  have m1 := phM_ok (a := v) (k := 1) (by decide)
  obtain ⟨xs, hx, N⟩ := phN_ok (a := mix v 1) (mix_ge _ _)
  obtain ⟨q, hq, hq2⟩ : ∃ q : Int, minD [.int 30, .int ((ns.length : Int) / 2)] = some (.int q) ∧ 0 ≤ q ∧ q ≤ 30 := by
    refine ⟨if (ns.length : Int) / 2 < 30 then (ns.length : Int) / 2 else 30, rfl, ?_⟩
    split <;> omega
  have hlen : lenD [.lst (ns.map D.int)] = some (.int (ns.length : Int)) := by show some (D.int ((ns.map D.int).length : Int)) = _; rw [List.length_map]
  have key := sFor_inv (si := itRange1 (aCons (eF addD (two (eC (.int 1)) (eV minD (aCons (eC (.int 30)) (aCons (eV divD (two (eV lenD (aCons (eVar 0) aNil)) (eC (.int 2)))) aNil))))) aNil)) (t := gN 2) (g := b_law_3 φA phC φL phM φJ) (ds := nums 0 (1 + q).toNat)
    (e := ⟨[some (.ow (.fz (.lst (ns.map .int)))), some (.ow (.lst (strO xs))), none, none, none, none, none, none], .fz .non⟩) (e0 := ⟨[some (.ow (.fz (.lst (ns.map .int)))), some (.ow (.lst (strO xs))), none, none, none, none, none, none], .fz .non⟩)
    (fun _ e => ∃ s1 s2 s3 s4 s5 s6 s7, e = ⟨[some (.ow (.fz (.lst (ns.map .int)))), s1, s2, s3, s4, s5, s6, s7], .fz .non⟩ ∧ (s1 = some (.ow (.lst (strO xs))) ∨ s1 = some (.ow (.fz (nm xs)))))
    (itRange1_int (by simp [at_k, put_k, hole_k, frz_k, own_tm_k, own_sl_k, own_me_k, look_tm_k, look_sl_k, look_me_k, fix_k, give_tm_k, give_sl_k, give_me_k, fixAll_nil_k, fixAll_cons_k, lookAll_nil_k, lookAll_cons_k, ownAll_nil_k, ownAll_cons_k, tree_tm_k, tree_sl_k, tree_me_k, gN_k, gNil_k, gCons_k, gT_k, isLst_k, isDkOwn_k, val_fz_k, val_lst_k, val_dK_k, defSem_k, eVar_k, eC_k, aNil_k, aCons_k, eV_k, eF_k, two_k, tOf_k, tAndD_k, tOrD_k, tNotD_k, eIf_k, eAndD_k, eOrD_k, eNotD_k, eCall_k, eLst_k, eTup_k, eTupK_k, sNil_k, sCons_k, sBreak_k, sCont_k, sIf_k, sSet_k, sRet_k, sRetN_k, sDrop_k, sAsg_k, itSeq_k, itRange1_k, itRange2_k, sFor_k, tYesD_k, eItem_k, pNone_k, pSome_k, eSlice_k, eM1_k, eGet1_k, eGet2_k, sPutK_k, sAppend_k, sSetI_k, eTupItems_k, bind_ok_k, bind_ex_k, so_ok_k, so_ex_k, then_nx_k, then_rt_k, then_ex_k, then_bk_k, then_ct_k, addD_int_k, subD_k, negD_k, eqD_str_k, neD_str_k, cmpD_k, item_lst_k, item_tup_k, isnt_tup_k, isnt_non_k, is_tup_k, is_non_k, vals_nil_k, vals_cons_k, mulD_l, mulD_r, modD_of, divD_of, eqD_int, neD_int, List.map_cons, List.map_nil, List.cons_append, List.nil_append, hlen, hq]) (by omega) (by omega)) ⟨_, _, _, _, _, _, _, rfl, .inl rfl⟩ (fun j d e hj ⟨s1, s2, s3, s4, s5, s6, s7, e1, h1⟩ => by
      obtain ⟨hj1, rfl⟩ := nums0_get hj
      subst e1
      obtain ⟨s3', s4', s5', s6', s7', h⟩ := ev_b3 J N (hA xs N) (ns := ns) (k := (j : Int)) (by omega) h1 (s3 := s3) (s4 := s4) (s5 := s5) (s6 := s6) (s7 := s7) (me := .fz .non)
      exact ⟨_, _, rfl, .inl h, _, _, _, _, _, _, _, rfl, .inr rfl⟩)
  obtain ⟨e', k1, s1, s2, s3, s4, s5, s6, s7, rfl, _⟩ := key
  have k2 : l_law_4 φA phC φL phM φJ ⟨[some (.ow (.fz (.lst (ns.map .int)))), some (.ow (.lst (strO xs))), none, none, none, none, none, none], .fz .non⟩ = .nx ⟨[some (.ow (.fz (.lst (ns.map .int)))), s1, s2, s3, s4, s5, s6, s7], .fz .non⟩ := k1
  have j3 := J.none
  simp [g_law, at_k, put_k, hole_k, frz_k, own_tm_k, own_sl_k, own_me_k, look_tm_k, look_sl_k, look_me_k, fix_k, give_tm_k, give_sl_k, give_me_k, fixAll_nil_k, fixAll_cons_k, lookAll_nil_k, lookAll_cons_k, ownAll_nil_k, ownAll_cons_k, tree_tm_k, tree_sl_k, tree_me_k, gN_k, gNil_k, gCons_k, gT_k, isLst_k, isDkOwn_k, val_fz_k, val_lst_k, val_dK_k, defSem_k, eVar_k, eC_k, aNil_k, aCons_k, eV_k, eF_k, two_k, tOf_k, tAndD_k, tOrD_k, tNotD_k, eIf_k, eAndD_k, eOrD_k, eNotD_k, eCall_k, eLst_k, eTup_k, eTupK_k, sNil_k, sCons_k, sBreak_k, sCont_k, sIf_k, sSet_k, sRet_k, sRetN_k, sDrop_k, sAsg_k, itSeq_k, itRange1_k, itRange2_k, sFor_k, tYesD_k, eItem_k, pNone_k, pSome_k, eSlice_k, eM1_k, eGet1_k, eGet2_k, sPutK_k, sAppend_k, sSetI_k, eTupItems_k, bind_ok_k, bind_ex_k, so_ok_k, so_ex_k, then_nx_k, then_rt_k, then_ex_k, then_bk_k, then_ct_k, addD_int_k, subD_k, negD_k, eqD_str_k, neD_str_k, cmpD_k, item_lst_k, item_tup_k, isnt_tup_k, isnt_non_k, is_tup_k, is_non_k, vals_nil_k, vals_cons_k, mulD_l, mulD_r, modD_of, divD_of, eqD_int, neD_int, List.map_cons, List.map_nil, List.cons_append, List.nil_append, hv, m1, hx, k2, j3]
end
end K12

set_option Elab.async false
set_option linter.all false
set_option maxRecDepth 100000
set_option maxHeartbeats 4000000
namespace K12
open PySem L2 PySem.Spec PyProof.Rows DL
section
variable {P : Program} {w : World} {mg : Str → Option Value} {base : Heap} {c : Cs}
theorem chain {f : Addr} {fd : FuncData} (S_joined_fields : Src c.K mg "joined_fields" "joined_fields" s_joined_fields ["lower", "upper"]) (S_piled : Src c.K mg "piled" "piled" s_piled ["lower", "upper"]) (S_joined : Src c.K mg "joined" "joined" s_joined ["lower", "upper"])
    (S_cell : Src c.K mg "_law_cell_at" "_law_cell_at" s__law_cell_at ["_law_script", "_law_k"]) (S_mixed : Src c.K mg "_law_mixed" "_law_mixed" s__law_mixed ["_law_cell", "_law_k"]) (S_names : Src c.K mg "_law_names" "_law_names" s__law_names ["_law_cell"])
    (S_term : Src c.K mg "_law_term" "_law_term" s__law_term ["_law_cell", "_law_names_here"]) (S_lj : Src c.K mg "_law_joined" "_law_joined" s__law_joined ["_law_lower", "_law_upper"]) (S_pairs : Src c.K mg "_law_pairs" "_law_pairs" s__law_pairs ["_law_cell", "_law_names_here", "_law_many"])
    (S_record : Src c.K mg "_law_record" "_law_record" s__law_record ["_law_cell", "_law_names_here", "_law_deep", "_law_fresh"]) (S_any : Src c.K mg "_law_any" "_law_any" s__law_any ["_law_cell", "_law_names_here", "_law_deep"]) (F : Fun c.K "law" "law" s_law f fd)
    (y_dict : mg "dict" = none) (y_int : mg "int" = none) (y_len : mg "len" = none) (y_max : mg "max" = none) (y_min : mg "min" = none) (y_range : mg "range" = none) (y_repr : mg "repr" = none) (y_tuple : mg "tuple" = none) :
    FnG P w c.K mg base 31 f fd ["_law_script"] (spP c 1 (defSem 8 1 (g_law (phAR 7).1 phC (phL 12) phM phN (phJs 12).1))) := by
  have kM : Kn P w mg base c 1 "_law_mixed" 2 phM := kn__law_mixed (k := 0) S_mixed
  have kC : Kn P w mg base c 1 "_law_cell_at" 2 phC := kn__law_cell_at (k := 0) S_cell y_len
  have kN : Kn P w mg base c 1 "_law_names" 1 phN := kn__law_names (k := 0) S_names y_range
  have kT : Kn P w mg base c 2 "_law_term" 2 phT := kn__law_term S_term kM y_range y_tuple
  have kP : Kn P w mg base c 3 "_law_pairs" 3 phP := kn__law_pairs S_pairs (kM.up (by decide)) kT y_range y_tuple
  have kA : ∀ n, Kn P w mg base c (n + 4) "_law_any" 3 (phAR n).1 ∧ Kn P w mg base c (n + 4) "_law_record" 4 (phAR n).2 := by
    intro n
    induction n with
    | zero => exact ⟨S_any.never, S_record.never⟩
    | succ n ih => exact ⟨kn__law_any S_any ih.1 (kM.up (by omega)) (kP.up (by omega)) ih.2 (kT.up (by omega)) y_int y_max, kn__law_record S_record ih.1 (kM.up (by omega)) y_range y_tuple⟩
  have kJ : ∀ n, Kn P w mg base c (n + 1) "joined" 2 (phJs n).1 ∧ Kn P w mg base c (n + 1) "joined_fields" 2 (phJs n).2.1 ∧ Kn P w mg base c (n + 1) "piled" 2 (phJs n).2.2 := by
    intro n
    induction n with
    | zero => exact ⟨S_joined.never, S_joined_fields.never, S_piled.never⟩
    | succ n ih => exact ⟨kn_joined S_joined ih.1 ih.2.1 ih.2.2, kn_joined_fields S_joined_fields ih.1 y_dict y_tuple, kn_piled S_piled ih.1⟩
  have kL : ∀ n, Kn P w mg base c (n + 1) "_law_joined" 2 (phL n) := by
    intro n
    induction n with
    | zero => exact S_lj.never
    | succ n ih => exact kn__law_joined S_lj ih y_dict y_tuple
  exact fn_law F ((kA 7).1.up (by decide)) (kC.up (by decide)) ((kL 12).up (by decide)) (kM.up (by decide)) (kN.up (by decide)) ((kJ 12).1.up (by decide)) y_len y_min y_range y_repr
end
theorem all_mk {l : PySem.W.OpenLaw} {w : World} {K : PySem.W.Frag} {h : Heap} {mg : Str → Option Value} {fa : Addr} (X : K.In h) (G : h.Ns mainGlobals mg) (hfa : mg "law" = some (.ref fa))
    {f_joined_fields : Addr} {od_joined_fields an_joined_fields : Option Addr} {sl_joined_fields : Array (Option Value)} {oc_joined_fields kV_joined_fields dc_joined_fields pm_joined_fields cd_joined_fields ct_joined_fields : Value} {f_piled : Addr} {od_piled an_piled : Option Addr} {sl_piled : Array (Option Value)} {oc_piled kV_piled dc_piled pm_piled cd_piled ct_piled : Value} {f_joined : Addr} {od_joined an_joined : Option Addr} {sl_joined : Array (Option Value)} {oc_joined kV_joined dc_joined pm_joined cd_joined ct_joined : Value} {f__law_cell_at : Addr} {od__law_cell_at an__law_cell_at : Option Addr} {sl__law_cell_at : Array (Option Value)} {oc__law_cell_at kV__law_cell_at dc__law_cell_at pm__law_cell_at cd__law_cell_at ct__law_cell_at : Value} {f__law_mixed : Addr} {od__law_mixed an__law_mixed : Option Addr} {sl__law_mixed : Array (Option Value)} {oc__law_mixed kV__law_mixed dc__law_mixed pm__law_mixed cd__law_mixed ct__law_mixed : Value} {f__law_names : Addr} {od__law_names an__law_names : Option Addr} {sl__law_names : Array (Option Value)} {oc__law_names kV__law_names dc__law_names pm__law_names cd__law_names ct__law_names : Value} {f__law_term : Addr} {od__law_term an__law_term : Option Addr} {sl__law_term : Array (Option Value)} {oc__law_term kV__law_term dc__law_term pm__law_term cd__law_term ct__law_term : Value} {f__law_joined : Addr} {od__law_joined an__law_joined : Option Addr} {sl__law_joined : Array (Option Value)} {oc__law_joined kV__law_joined dc__law_joined pm__law_joined cd__law_joined ct__law_joined : Value} {f__law_pairs : Addr} {od__law_pairs an__law_pairs : Option Addr} {sl__law_pairs : Array (Option Value)} {oc__law_pairs kV__law_pairs dc__law_pairs pm__law_pairs cd__law_pairs ct__law_pairs : Value} {f__law_record : Addr} {od__law_record an__law_record : Option Addr} {sl__law_record : Array (Option Value)} {oc__law_record kV__law_record dc__law_record pm__law_record cd__law_record ct__law_record : Value} {f__law_any : Addr} {od__law_any an__law_any : Option Addr} {sl__law_any : Array (Option Value)} {oc__law_any kV__law_any dc__law_any pm__law_any cd__law_any ct__law_any : Value} {f_law : Addr} {od_law an_law : Option Addr} {sl_law : Array (Option Value)} {oc_law kV_law dc_law pm_law cd_law ct_law : Value}
    (a_joined_fields : PySem.W.nsIn K mainGlobals "joined_fields" = some (some (.ref f_joined_fields))) (l_joined_fields : K.lookup f_joined_fields = some ⟨oc_joined_fields, od_joined_fields, .func (PySem.W.fnOf "joined_fields" "joined_fields" (defArgs s_joined_fields) (defBody s_joined_fields) (defScope s_joined_fields) .none kV_joined_fields dc_joined_fields pm_joined_fields an_joined_fields cd_joined_fields ct_joined_fields), sl_joined_fields⟩) (c_joined_fields : PySem.W.codeIn K cd_joined_fields "joined_fields" = true) (k_joined_fields : PySem.W.keepIn K (.ref f_joined_fields) = true)
    (a_piled : PySem.W.nsIn K mainGlobals "piled" = some (some (.ref f_piled))) (l_piled : K.lookup f_piled = some ⟨oc_piled, od_piled, .func (PySem.W.fnOf "piled" "piled" (defArgs s_piled) (defBody s_piled) (defScope s_piled) .none kV_piled dc_piled pm_piled an_piled cd_piled ct_piled), sl_piled⟩) (c_piled : PySem.W.codeIn K cd_piled "piled" = true) (k_piled : PySem.W.keepIn K (.ref f_piled) = true)
    (a_joined : PySem.W.nsIn K mainGlobals "joined" = some (some (.ref f_joined))) (l_joined : K.lookup f_joined = some ⟨oc_joined, od_joined, .func (PySem.W.fnOf "joined" "joined" (defArgs s_joined) (defBody s_joined) (defScope s_joined) .none kV_joined dc_joined pm_joined an_joined cd_joined ct_joined), sl_joined⟩) (c_joined : PySem.W.codeIn K cd_joined "joined" = true) (k_joined : PySem.W.keepIn K (.ref f_joined) = true)
    (a__law_cell_at : PySem.W.nsIn K mainGlobals "_law_cell_at" = some (some (.ref f__law_cell_at))) (l__law_cell_at : K.lookup f__law_cell_at = some ⟨oc__law_cell_at, od__law_cell_at, .func (PySem.W.fnOf "_law_cell_at" "_law_cell_at" (defArgs s__law_cell_at) (defBody s__law_cell_at) (defScope s__law_cell_at) .none kV__law_cell_at dc__law_cell_at pm__law_cell_at an__law_cell_at cd__law_cell_at ct__law_cell_at), sl__law_cell_at⟩) (c__law_cell_at : PySem.W.codeIn K cd__law_cell_at "_law_cell_at" = true) (k__law_cell_at : PySem.W.keepIn K (.ref f__law_cell_at) = true)
    (a__law_mixed : PySem.W.nsIn K mainGlobals "_law_mixed" = some (some (.ref f__law_mixed))) (l__law_mixed : K.lookup f__law_mixed = some ⟨oc__law_mixed, od__law_mixed, .func (PySem.W.fnOf "_law_mixed" "_law_mixed" (defArgs s__law_mixed) (defBody s__law_mixed) (defScope s__law_mixed) .none kV__law_mixed dc__law_mixed pm__law_mixed an__law_mixed cd__law_mixed ct__law_mixed), sl__law_mixed⟩) (c__law_mixed : PySem.W.codeIn K cd__law_mixed "_law_mixed" = true) (k__law_mixed : PySem.W.keepIn K (.ref f__law_mixed) = true)
    (a__law_names : PySem.W.nsIn K mainGlobals "_law_names" = some (some (.ref f__law_names))) (l__law_names : K.lookup f__law_names = some ⟨oc__law_names, od__law_names, .func (PySem.W.fnOf "_law_names" "_law_names" (defArgs s__law_names) (defBody s__law_names) (defScope s__law_names) .none kV__law_names dc__law_names pm__law_names an__law_names cd__law_names ct__law_names), sl__law_names⟩) (c__law_names : PySem.W.codeIn K cd__law_names "_law_names" = true) (k__law_names : PySem.W.keepIn K (.ref f__law_names) = true)
    (a__law_term : PySem.W.nsIn K mainGlobals "_law_term" = some (some (.ref f__law_term))) (l__law_term : K.lookup f__law_term = some ⟨oc__law_term, od__law_term, .func (PySem.W.fnOf "_law_term" "_law_term" (defArgs s__law_term) (defBody s__law_term) (defScope s__law_term) .none kV__law_term dc__law_term pm__law_term an__law_term cd__law_term ct__law_term), sl__law_term⟩) (c__law_term : PySem.W.codeIn K cd__law_term "_law_term" = true) (k__law_term : PySem.W.keepIn K (.ref f__law_term) = true)
    (a__law_joined : PySem.W.nsIn K mainGlobals "_law_joined" = some (some (.ref f__law_joined))) (l__law_joined : K.lookup f__law_joined = some ⟨oc__law_joined, od__law_joined, .func (PySem.W.fnOf "_law_joined" "_law_joined" (defArgs s__law_joined) (defBody s__law_joined) (defScope s__law_joined) .none kV__law_joined dc__law_joined pm__law_joined an__law_joined cd__law_joined ct__law_joined), sl__law_joined⟩) (c__law_joined : PySem.W.codeIn K cd__law_joined "_law_joined" = true) (k__law_joined : PySem.W.keepIn K (.ref f__law_joined) = true)
    (a__law_pairs : PySem.W.nsIn K mainGlobals "_law_pairs" = some (some (.ref f__law_pairs))) (l__law_pairs : K.lookup f__law_pairs = some ⟨oc__law_pairs, od__law_pairs, .func (PySem.W.fnOf "_law_pairs" "_law_pairs" (defArgs s__law_pairs) (defBody s__law_pairs) (defScope s__law_pairs) .none kV__law_pairs dc__law_pairs pm__law_pairs an__law_pairs cd__law_pairs ct__law_pairs), sl__law_pairs⟩) (c__law_pairs : PySem.W.codeIn K cd__law_pairs "_law_pairs" = true) (k__law_pairs : PySem.W.keepIn K (.ref f__law_pairs) = true)
    (a__law_record : PySem.W.nsIn K mainGlobals "_law_record" = some (some (.ref f__law_record))) (l__law_record : K.lookup f__law_record = some ⟨oc__law_record, od__law_record, .func (PySem.W.fnOf "_law_record" "_law_record" (defArgs s__law_record) (defBody s__law_record) (defScope s__law_record) .none kV__law_record dc__law_record pm__law_record an__law_record cd__law_record ct__law_record), sl__law_record⟩) (c__law_record : PySem.W.codeIn K cd__law_record "_law_record" = true) (k__law_record : PySem.W.keepIn K (.ref f__law_record) = true)
    (a__law_any : PySem.W.nsIn K mainGlobals "_law_any" = some (some (.ref f__law_any))) (l__law_any : K.lookup f__law_any = some ⟨oc__law_any, od__law_any, .func (PySem.W.fnOf "_law_any" "_law_any" (defArgs s__law_any) (defBody s__law_any) (defScope s__law_any) .none kV__law_any dc__law_any pm__law_any an__law_any cd__law_any ct__law_any), sl__law_any⟩) (c__law_any : PySem.W.codeIn K cd__law_any "_law_any" = true) (k__law_any : PySem.W.keepIn K (.ref f__law_any) = true)
    (a_law : PySem.W.nsIn K mainGlobals "law" = some (some (.ref f_law))) (l_law : K.lookup f_law = some ⟨oc_law, od_law, .func (PySem.W.fnOf "law" "law" (defArgs s_law) (defBody s_law) (defScope s_law) .none kV_law dc_law pm_law an_law cd_law ct_law), sl_law⟩) (c_law : PySem.W.codeIn K cd_law "law" = true) (k_law : PySem.W.keepIn K (.ref f_law) = true)
    (z_dict : PySem.W.nsIn K mainGlobals "dict" = some none) (z_int : PySem.W.nsIn K mainGlobals "int" = some none) (z_len : PySem.W.nsIn K mainGlobals "len" = some none) (z_max : PySem.W.nsIn K mainGlobals "max" = some none) (z_min : PySem.W.nsIn K mainGlobals "min" = some none) (z_range : PySem.W.nsIn K mainGlobals "range" = some none) (z_repr : PySem.W.nsIn K mainGlobals "repr" = some none) (z_tuple : PySem.W.nsIn K mainGlobals "tuple" = some none) :
    ∃ fd : FuncData, (∀ (s : Shared) (v : Value), BindsTo s fd ⟨[v], []⟩ [("_law_script", v)]) ∧ ∀ base : Heap, K.In base → base.Ns mainGlobals mg → ∃ ca, FnG l.prog w K mg base 31 fa fd ["_law_script"] (spP ⟨K, ca⟩ 1 (defSem 8 1 (g_law (phAR 7).1 phC (phL 12) phM phN (phJs 12).1))) := by
  have e := hfa.symm.trans (PySem.W.mg_of X G a_law)
  cases e
  have S_joined_fields : Src K mg "joined_fields" "joined_fields" s_joined_fields ["lower", "upper"] := src_mk X G a_joined_fields l_joined_fields c_joined_fields k_joined_fields fun _ _ _ _ _ _ us hl => match us, hl with | [_, _], _ => rfl
  have S_piled : Src K mg "piled" "piled" s_piled ["lower", "upper"] := src_mk X G a_piled l_piled c_piled k_piled fun _ _ _ _ _ _ us hl => match us, hl with | [_, _], _ => rfl
  have S_joined : Src K mg "joined" "joined" s_joined ["lower", "upper"] := src_mk X G a_joined l_joined c_joined k_joined fun _ _ _ _ _ _ us hl => match us, hl with | [_, _], _ => rfl
  have S__law_cell_at : Src K mg "_law_cell_at" "_law_cell_at" s__law_cell_at ["_law_script", "_law_k"] := src_mk X G a__law_cell_at l__law_cell_at c__law_cell_at k__law_cell_at fun _ _ _ _ _ _ us hl => match us, hl with | [_, _], _ => rfl
  have S__law_mixed : Src K mg "_law_mixed" "_law_mixed" s__law_mixed ["_law_cell", "_law_k"] := src_mk X G a__law_mixed l__law_mixed c__law_mixed k__law_mixed fun _ _ _ _ _ _ us hl => match us, hl with | [_, _], _ => rfl
  have S__law_names : Src K mg "_law_names" "_law_names" s__law_names ["_law_cell"] := src_mk X G a__law_names l__law_names c__law_names k__law_names fun _ _ _ _ _ _ us hl => match us, hl with | [_], _ => rfl
  have S__law_term : Src K mg "_law_term" "_law_term" s__law_term ["_law_cell", "_law_names_here"] := src_mk X G a__law_term l__law_term c__law_term k__law_term fun _ _ _ _ _ _ us hl => match us, hl with | [_, _], _ => rfl
  have S__law_joined : Src K mg "_law_joined" "_law_joined" s__law_joined ["_law_lower", "_law_upper"] := src_mk X G a__law_joined l__law_joined c__law_joined k__law_joined fun _ _ _ _ _ _ us hl => match us, hl with | [_, _], _ => rfl
  have S__law_pairs : Src K mg "_law_pairs" "_law_pairs" s__law_pairs ["_law_cell", "_law_names_here", "_law_many"] := src_mk X G a__law_pairs l__law_pairs c__law_pairs k__law_pairs fun _ _ _ _ _ _ us hl => match us, hl with | [_, _, _], _ => rfl
  have S__law_record : Src K mg "_law_record" "_law_record" s__law_record ["_law_cell", "_law_names_here", "_law_deep", "_law_fresh"] := src_mk X G a__law_record l__law_record c__law_record k__law_record fun _ _ _ _ _ _ us hl => match us, hl with | [_, _, _, _], _ => rfl
  have S__law_any : Src K mg "_law_any" "_law_any" s__law_any ["_law_cell", "_law_names_here", "_law_deep"] := src_mk X G a__law_any l__law_any c__law_any k__law_any fun _ _ _ _ _ _ us hl => match us, hl with | [_, _, _], _ => rfl
  have S_law : Src K mg "law" "law" s_law ["_law_script"] := src_mk X G a_law l_law c_law k_law fun _ _ _ _ _ _ us hl => match us, hl with | [_], _ => rfl
  have y_dict := PySem.W.mg_none_of X G z_dict
  have y_int := PySem.W.mg_none_of X G z_int
  have y_len := PySem.W.mg_none_of X G z_len
  have y_max := PySem.W.mg_none_of X G z_max
  have y_min := PySem.W.mg_none_of X G z_min
  have y_range := PySem.W.mg_none_of X G z_range
  have y_repr := PySem.W.mg_none_of X G z_repr
  have y_tuple := PySem.W.mg_none_of X G z_tuple
  have F := fun_mk (st := s_law) l_law c_law k_law
  exact ⟨PySem.W.fnOf "law" "law" (defArgs s_law) (defBody s_law) (defScope s_law) .none kV_law dc_law pm_law an_law cd_law ct_law, fun s v => .of_eq rfl, fun base _ _ => ⟨fun _ => none, chain (c := ⟨K, fun _ => none⟩) S_joined_fields S_piled S_joined S__law_cell_at S__law_mixed S__law_names S__law_term S__law_joined S__law_pairs S__law_record S__law_any F y_dict y_int y_len y_max y_min y_range y_repr y_tuple⟩⟩
theorem law_true (ns : List Int) (_ : ns.length ≤ 63) : defSem 8 1 (g_law (phAR 7).1 phC (phL 12) phM phN (phJs 12).1) [.lst (ns.map .int)] = .ok (.fz (.bl true)) :=
  sem_law (jok (by decide) (by decide)) (fun xs N a h1 h2 => (phAR_ok N 7 3).1 (by decide) (by decide) a h1 h2) ns
end K12
open PySem PySem.W PyProof.Rows
set_option maxRecDepth 100000 in
set_option maxHeartbeats 0 in
theorem PySem.Challenge.cw_layerwise_k12_joined_two_by_two_holds : PySem.Challenge.rw_layerwise_k12_joined_two_by_two.Holds := by
  w_on; o_law; k_head; (case hw => w_witness2)
  k_fill
  refine DL.walkL (l := PySem.Challenge.rw_layerwise_k12_joined_two_by_two) (k := 31) (x := "_law_script") rfl rfl ⟨rfl, by decide, by decide⟩ (fun w h Y => PySem.W.kIn_of Y) ?F K12.law_true
  case F =>
    intro w mg fa h KX G hmg
    refine' K12.all_mk KX G hmg ?a_joined_fields ?l_joined_fields ?c_joined_fields ?k_joined_fields ?a_piled ?l_piled ?c_piled ?k_piled ?a_joined ?l_joined ?c_joined ?k_joined ?a__law_cell_at ?l__law_cell_at ?c__law_cell_at ?k__law_cell_at ?a__law_mixed ?l__law_mixed ?c__law_mixed ?k__law_mixed ?a__law_names ?l__law_names ?c__law_names ?k__law_names ?a__law_term ?l__law_term ?c__law_term ?k__law_term ?a__law_joined ?l__law_joined ?c__law_joined ?k__law_joined ?a__law_pairs ?l__law_pairs ?c__law_pairs ?k__law_pairs ?a__law_record ?l__law_record ?c__law_record ?k__law_record ?a__law_any ?l__law_any ?c__law_any ?k__law_any ?a_law ?l_law ?c_law ?k_law ?z_dict ?z_int ?z_len ?z_max ?z_min ?z_range ?z_repr ?z_tuple
    (case a_joined_fields => k_is)
    (case l_joined_fields => k_is)
    (case c_joined_fields => k_is)
    (case k_joined_fields => k_is)
    (case a_piled => k_is)
    (case l_piled => k_is)
    (case c_piled => k_is)
    (case k_piled => k_is)
    (case a_joined => k_is)
    (case l_joined => k_is)
    (case c_joined => k_is)
    (case k_joined => k_is)
    (case a__law_cell_at => k_is)
    (case l__law_cell_at => k_is)
    (case c__law_cell_at => k_is)
    (case k__law_cell_at => k_is)
    (case a__law_mixed => k_is)
    (case l__law_mixed => k_is)
    (case c__law_mixed => k_is)
    (case k__law_mixed => k_is)
    (case a__law_names => k_is)
    (case l__law_names => k_is)
    (case c__law_names => k_is)
    (case k__law_names => k_is)
    (case a__law_term => k_is)
    (case l__law_term => k_is)
    (case c__law_term => k_is)
    (case k__law_term => k_is)
    (case a__law_joined => k_is)
    (case l__law_joined => k_is)
    (case c__law_joined => k_is)
    (case k__law_joined => k_is)
    (case a__law_pairs => k_is)
    (case l__law_pairs => k_is)
    (case c__law_pairs => k_is)
    (case k__law_pairs => k_is)
    (case a__law_record => k_is)
    (case l__law_record => k_is)
    (case c__law_record => k_is)
    (case k__law_record => k_is)
    (case a__law_any => k_is)
    (case l__law_any => k_is)
    (case c__law_any => k_is)
    (case k__law_any => k_is)
    (case a_law => k_is)
    (case l_law => k_is)
    (case c_law => k_is)
    (case k_law => k_is)
    (case z_dict => k_is)
    (case z_int => k_is)
    (case z_len => k_is)
    (case z_max => k_is)
    (case z_min => k_is)
    (case z_range => k_is)
    (case z_repr => k_is)
    (case z_tuple => k_is)
